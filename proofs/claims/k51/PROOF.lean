import PyProof.Rows.All
import HandS.ForMost
import HandS.ForExc
import HandS.Conv
import HandS.Iter
import HandS.ExcInit
import HandS.ExcField
import HandS.IsInst
import KE.KExcIs
import HandS.Wide
import HandS.Deep
import HandS.Style
import HandS.TupAny
import HandS.TupMul
import HandS.Flow
import HandS.Codes
import PyProof.P3In
import KE.LtSeq
import KE.LtData
import HandS.TupLe
import HandS.SortInts
import PyProof.StrOps2
import HandS.DictEq
import PyProof.NeKinds
import PyProof.EqAt
import PyProof.EqKinds
import HandS.Text
import HandS.DictComp
import PyProof.ListStr
import HandS.List
import HandS.More
import HandS.Dict
import HandS.Flt
import HandS.HeadHook1
import HandS.Zip
import KE.GoesEnum
import HandS.TryOnly
import HandS.Defaults
import HandS.RaiseMore
import Wide.All
import OpenK.AllK
import Wide.FinOn
import KE.KStateDown
import Lean
import HandS.Head0
import HandS.Head1
import HandS.Head2
import HandS.HeadEnd
import HandS.EndBits
import HandS.HeadHook2
import PySem.Challenge.RW_wireparley_k51_parting_values
set_option Elab.async false
set_option linter.all false
set_option maxRecDepth 100000
/-! WpD: data as trees, a small language of expressions and statements, and what must hold ahead of it (weakest preconditions). No model of Python here. -/
namespace Wp
open PySem

/-- data: lists that never change are trees; what changes stands in the memory at a place -/
inductive D where
  | non | bl (b : Bool) | int (i : Int) | str (x : Str)
  | tup (ds : List D) | lst (ds : List D)
  | scr (ns : List Int)
  | emp
  | loc (a : Addr)

/-- what stands in the memory -/
inductive Ob where
  | lst (ds : List D)
  | dic (kvs : List (Sum Int Str × D))
  | ins (c : Nat) (fs : List (Str × D))
  -- an object of the program's own class: its class, its fields
  | obj (c : Nat) (fs : List (Str × D))

abbrev Mem := Addr → Option Ob
def Mem.upd (M : Mem) (a : Addr) (o : Ob) : Mem := fun b => if b = a then some o else M b
def Mem.del (M : Mem) (a : Addr) : Mem := fun b => if b = a then none else M b

/-- an exception: its class, its fields -/
structure Exn where
  c : Nat
  fs : List (Str × D)

abbrev Env := List (Option D)
abbrev QK := D → Mem → Prop
abbrev BK := Bool → Mem → Prop
abbrev AK := List D → Mem → Prop
abbrev XQ := Exn → Mem → Prop

/-- the things in a list -/
def asL (M : Mem) : D → Option (List D)
  | .lst ds => some ds
  | .scr ns => some (ns.map .int)
  | .loc a => match M a with
    | some (.lst ds) => some ds
    | _ => none
  | _ => none
/-- a list that may be put together with another one -/
def asLT (M : Mem) : D → Option (List D)
  | .lst ds => some ds
  | .loc a => match M a with
    | some (.lst ds) => some ds
    | _ => none
  | _ => none
/-- the things in a list or a tuple -/
def asS (M : Mem) : D → Option (List D)
  | .tup ds => some ds
  | d => asL M d

/-- a new list: one that stays, or one in the memory -/
def newL (fr : Bool) (ds : List D) (M : Mem) (Q : QK) : Prop :=
  ds.length ≤ sizeLine ∧ match fr with
  | true => Q (.lst ds) M
  | false => ∀ p, M p = none → Q (.loc p) (M.upd p (.lst ds))

/-! ### equality, by value -/
mutual
/-- a tree without places as plain data -/
def toPy : D → Option PyData
  | .non => some .none
  | .bl b => some (.bool b)
  | .int i => some (.int i)
  | .str x => some (.str x)
  | .tup ds => (toPys ds).map .tuple
  | .lst ds => (toPys ds).map .list
  | .scr ns => some (.list (ns.map .int))
  | .emp => none
  | .loc _ => none
def toPys : List D → Option (List PyData)
  | [] => some []
  | d :: ds => match toPy d, toPys ds with
    | some p, some ps => some (p :: ps)
    | _, _ => none
end
/-- the same of a list in the memory, whose things are trees -/
def toPy1 (M : Mem) : D → Option PyData
  | .loc a => match M a with
    | some (.lst ds) => (toPys ds).map .list
    | _ => none
  | d => toPy d
def toPys1 (M : Mem) : List D → Option (List PyData)
  | [] => some []
  | d :: ds => match toPy1 M d, toPys1 M ds with
    | some p, some ps => some (p :: ps)
    | _, _ => none
/-- .. or a tuple of such -/
def toPyM (M : Mem) : D → Option PyData
  | .tup ds => (toPys1 M ds).map .tuple
  | d => toPy1 M d
def keyD : D → Option (Sum Int Str)
  | .int i => some (.inl i)
  | .str s => some (.inr s)
  | _ => none
def lookD (kvs : List (Sum Int Str × D)) (k : Sum Int Str) : Option D := (kvs.find? fun kv => decide (kv.1 = k)).map (·.2)
/-- the dict at a place -/
def dicAt (M : Mem) : D → Option (List (Sum Int Str × D))
  | .loc a => match M a with
    | some (.dic kvs) => some kvs
    | _ => none
  | _ => none
/-- two dicts, entry by entry -/
def dicEq (ls : List (Sum Int Str × D)) : List (Sum Int Str × D) → Option Bool
  | [] => some true
  | (k, v) :: r => match lookD ls k with
    | none => some false
    | some w => match toPy v, toPy w, dicEq ls r with
      | some p, some q, some b => if SeqAt.shaped p && SeqAt.shaped q then some (PyData.eqv p q && b) else none
      | _, _, _ => none

def optAll {α β : Type} (f : α → Option β) : List α → Option (List β)
  | [] => some []
  | d :: ds => match f d, optAll f ds with
    | some p, some ps => some (p :: ps)
    | _, _ => none
/-- a tree with places of lists at any depth (so deep at most) -/
def toPyF (M : Mem) : Nat → D → Option PyData
  | 0, _ => none
  | n + 1, d => match d with
    | .tup ds => (optAll (toPyF M n) ds).map .tuple
    | .lst ds => (optAll (toPyF M n) ds).map .list
    | .loc a => match M a with
      | some (.lst ds) => (optAll (toPyF M n) ds).map .list
      | _ => none
    | d => toPy d
mutual
/-- data that is alike to itself: flat things, tuples, lists, {}; so deep at most -/
def eqOk : Nat → D → Bool
  | 0, _ => false
  | n + 1, .tup ds => eqOks n ds
  | n + 1, .lst ds => eqOks n ds
  | _ + 1, .non => true
  | _ + 1, .bl _ => true
  | _ + 1, .int _ => true
  | _ + 1, .str _ => true
  | _ + 1, .emp => true
  | _ + 1, _ => false
def eqOks : Nat → List D → Bool
  | _, [] => true
  | n, d :: ds => eqOk n d && eqOks n ds
end
/-- what is no dict's place, nor the script -/
def flK : D → Bool
  | .non => true
  | .bl _ => true
  | .int _ => true
  | .str _ => true
  | .tup _ => true
  | .lst _ => true
  | .emp => true
  | _ => false
def allStr : List D → Bool
  | [] => true
  | .str _ :: r => allStr r
  | _ :: _ => false
/-- two lists of the same -/
def eqX (neg : Bool) (x y : D) (M : Mem) (Q : QK) : Prop :=
  match x, y with
  | .lst ds, .lst es => ds = es ∧ eqOks 60 ds = true ∧ Q (.bl (!neg)) M
  | .tup (d :: _ :: _), .tup [.str _] => flK d = true ∧ Q (.bl neg) M
  | .tup ds, .tup es => ds = es ∧ eqOks 60 ds = true ∧ Q (.bl (!neg)) M
  | .emp, .emp => Q (.bl (!neg)) M
  | .emp, .str _ => Q (.bl neg) M
  | .str _, .emp => Q (.bl neg) M
  | .loc a, .loc b => match dicAt M (.loc a), dicAt M (.loc b) with
    | some ks, some ls => match dicEq ls ks with
      | some r => Q (.bl (if neg then !(ks.length == ls.length && r) else ks.length == ls.length && r)) M
      | none => False
    | _, _ => False
  | _, _ => False
/-- == of data with places at any depth -/
def eqF (neg : Bool) (x y : D) (M : Mem) (Q : QK) : Prop :=
  match toPyF M 30 x, toPyF M 30 y with
  | some d, some e => SeqAt.shaped d = true ∧ SeqAt.shaped e = true ∧ Q (.bl (if neg then !PyData.eqv d e else PyData.eqv d e)) M
  | _, _ => eqX neg x y M Q
/-- == and != of data -/
def eqP (neg : Bool) (x y : D) (M : Mem) (Q : QK) : Prop :=
  match toPyM M x, toPyM M y with
  | some d, some e => SeqAt.shaped d = true ∧ SeqAt.shaped e = true ∧ Q (.bl (if neg then !PyData.eqv d e else PyData.eqv d e)) M
  | _, _ => eqF neg x y M Q
/-- of two tuples one is empty, and one alone -/
def eqU : D → D → Bool
  | .tup [], .tup (_ :: _) => true
  | .tup (_ :: _), .tup [] => true
  | _, _ => false
/-- .. lists of unlike lengths may hold anything -/
def eqL (neg : Bool) (x y : D) (M : Mem) (Q : QK) : Prop :=
  match asL M x, asL M y with
  | some xs, some ys => if xs.length = ys.length then eqP neg x y M Q else Q (.bl neg) M
  | _, _ => match eqU x y with
    | true => Q (.bl neg) M
    | false => eqP neg x y M Q
/-- .. of plain things -/
def eqA : D → D → Option Bool
  | .str a, .str b => some (decide (a = b))
  | .int a, .int b => some (decide (a = b))
  | .bl a, .bl b => some (decide (a = b))
  | .non, .non => some true
  | .non, .int _ => some false
  | .non, .bl _ => some false
  | .non, .str _ => some false
  | .int _, .non => some false
  | .bl _, .non => some false
  | .str _, .non => some false
  | .int _, .str _ => some false
  | .bl _, .str _ => some false
  | .str _, .int _ => some false
  | .str _, .bl _ => some false
  | _, _ => none
def eqW (neg : Bool) (x y : D) (M : Mem) (Q : QK) : Prop :=
  match eqA x y with
  | some b => Q (.bl (if neg then !b else b)) M
  | none => eqL neg x y M Q
def inS (neg : Bool) (x y : D) (M : Mem) (Q : QK) : Prop :=
  match x, y with
  | .str a, .str b => Q (.bl (if neg then !(!(Builtin.Str.occurrences b a 0 b.length 1).isEmpty) else !(Builtin.Str.occurrences b a 0 b.length 1).isEmpty)) M
  | .emp, .tup ys => allStr ys = true ∧ Q (.bl neg) M
  | x, y => match toPyM M x, asS M y with
    | some d, some ys => match toPys ys with
      | some ds => SeqAt.shaped d = true ∧ SeqAt.shaped (.list ds) = true ∧ Q (.bl (if neg then !(ds.any fun z => PyData.eqv z d) else ds.any fun z => PyData.eqv z d)) M
      | none => False
    | _, _ => False
def inW (neg : Bool) (x y : D) (M : Mem) (Q : QK) : Prop :=
  match dicAt M y with
  | some kvs => match keyD x with
    | some k => Q (.bl (if neg then !(lookD kvs k).isSome else (lookD kvs k).isSome)) M
    | none => False
  | none => inS neg x y M Q

/-! ### operators -/
def b2i (b : Bool) : Int := if b then 1 else 0
/-- factors together below so many bits -/
def mulOk (i j : Int) : Prop := i.natAbs.log2 + j.natAbs.log2 < 100000000
def addW (fr : Bool) (x y : D) (M : Mem) (Q : QK) : Prop :=
  match x, y with
  | .int i, .int j => Q (.int (i + j)) M
  | .str a, .str b => a.length + b.length ≤ sizeLine ∧ Q (.str (a ++ b)) M
  | .tup a, .tup b => a.length + b.length ≤ sizeLine ∧ Q (.tup (a ++ b)) M
  | x, y => match asLT M x, asLT M y with
    | some a, some b => newL fr (a ++ b) M Q
    | _, _ => False
/-- a text, n times -/
def repS (z : Str) (n : Nat) : Str := ⟨(List.replicate n z.cps.toList).flatten.toArray⟩
def mulW (fr : Bool) (x y : D) (M : Mem) (Q : QK) : Prop :=
  match x, y with
  | .int i, .int j => mulOk i j ∧ Q (.int (i * j)) M
  | .str z, .int k => -(2 ^ 63) ≤ k ∧ k < 2 ^ 63 ∧ z.length * k.toNat ≤ sizeLine ∧ Q (.str (repS z k.toNat)) M
  | .tup a, .int k => -(2 ^ 63) ≤ k ∧ k ≤ 1000 ∧ a.length ≤ 1000 ∧ Q (.tup (List.replicate k.toNat a).flatten) M
  | x, .int k => match asLT M x with
    | some a => -(2 ^ 63) ≤ k ∧ k < 2 ^ 63 ∧ a.length * k.toNat ≤ sizeLine ∧ newL fr (List.replicate k.toNat a).flatten M Q
    | none => False
  | _, _ => False
def binW (op : Operator) (fr : Bool) (x y : D) (M : Mem) (Q : QK) : Prop :=
  match op with
  | .Add => addW fr x y M Q
  | .Mult => mulW fr x y M Q
  | .Sub => match x, y with
    | .int i, .int j => Q (.int (i - j)) M
    | _, _ => False
  | .Mod => match x, y with
    | .int i, .int j => 0 < j ∧ Q (.int (i % j)) M
    | _, _ => False
  | .FloorDiv => match x, y with
    | .int i, .int j => 0 < j ∧ j.natAbs.log2 < 9000 ∧ Q (.int (i / j)) M
    | _, _ => False
  | .Pow => match x, y with
    | .int i, .int j => (0 ≤ j ∧ j ≤ 1000000 ∧ i.natAbs < 2 ^ 64) ∧ Q (.int (i ^ j.toNat)) M
    | _, _ => False
  | _ => False
def negW (x : D) (M : Mem) (Q : QK) : Prop :=
  match x with
  | .int i => Q (.int (-i)) M
  | _ => False
def intsOf : List D → Option (List Int)
  | [] => some []
  | .int i :: ds => (intsOf ds).map (i :: ·)
  | _ :: _ => none
/-- lists of ints, one ahead of the other -/
def gtL : List Int → List Int → Bool
  | [], _ => false
  | _ :: _, [] => true
  | x :: xs, y :: ys => if x = y then gtL xs ys else decide (y < x)
def cmpW (op : CmpOp) (x y : D) (M : Mem) (Q : QK) : Prop :=
  match op with
  | .Eq => eqW false x y M Q
  | .NotEq => eqW true x y M Q
  | .Lt => match x, y with
    | .int i, .int j => Q (.bl (decide (i < j))) M
    | .str a, .str b => Q (.bl (decide (a.cps.toList < b.cps.toList))) M
    | _, _ => False
  | .LtE => match x, y with
    | .int i, .int j => Q (.bl (decide (i ≤ j))) M
    | .str a, .str b => Q (.bl (!decide (b.cps.toList < a.cps.toList))) M
    | _, _ => False
  | .Gt => match x, y with
    | .int i, .int j => Q (.bl (decide (j < i))) M
    | .str a, .str b => Q (.bl (decide (b.cps.toList < a.cps.toList))) M
    | x, y => match asL M x, asL M y with
      | some xs, some ys => match intsOf xs, intsOf ys with
        | some ns, some ms => Q (.bl (gtL ns ms)) M
        | _, _ => False
      | _, _ => False
  | .GtE => match x, y with
    | .int i, .int j => Q (.bl (decide (j ≤ i))) M
    | .str a, .str b => Q (.bl (!decide (a.cps.toList < b.cps.toList))) M
    | _, _ => False
  | .Is => match x, y with
    | .bl a, .bl b => Q (.bl (decide (a = b))) M
    | .non, .non => Q (.bl true) M
    | .loc _, .non => Q (.bl false) M
    | .int _, .non => Q (.bl false) M
    | .bl _, .non => Q (.bl false) M
    | .str _, .non => Q (.bl false) M
    | .tup _, .non => Q (.bl false) M
    | .lst _, .non => Q (.bl false) M
    | .scr _, .non => Q (.bl false) M
    | .emp, .non => Q (.bl false) M
    | _, _ => False
  | .IsNot => match x, y with
    | .bl a, .bl b => Q (.bl (!decide (a = b))) M
    | .non, .non => Q (.bl false) M
    | .loc _, .non => Q (.bl true) M
    | .int _, .non => Q (.bl true) M
    | .bl _, .non => Q (.bl true) M
    | .str _, .non => Q (.bl true) M
    | .tup _, .non => Q (.bl true) M
    | .lst _, .non => Q (.bl true) M
    | .scr _, .non => Q (.bl true) M
    | .emp, .non => Q (.bl true) M
    | _, _ => False
  | .In => inW false x y M Q
  | .NotIn => inW true x y M Q
/-- a value's truth -/
def truW (x : D) (M : Mem) (Q : BK) : Prop :=
  match x with
  | .non => Q false M
  | .bl b => Q b M
  | .int i => Q (i != 0) M
  | .str x => x.length ≤ sizeLine ∧ Q ((x.length : Int) != 0) M
  | .emp => Q false M
  | x => match asS M x with
    | some ds => Q (!ds.isEmpty) M
    | none => False

/-! ### subscripts -/
def ixN (n : Nat) (i : Int) : Option Nat := if 0 ≤ i then (if i < n then some i.toNat else none) else if -(n : Int) ≤ i then some (i + n).toNat else none
def atI {α : Type} (xs : List α) (i : Int) : Option α := (ixN xs.length i).bind fun j => xs[j]?
def idxW (x i : D) (M : Mem) (Q : QK) : Prop :=
  match x, i with
  | .str z, .int k => z.length ≤ sizeLine ∧ match atI z.cps.toList k with
    | some c => Q (.str ⟨#[c]⟩) M
    | none => False
  | x, .int k => match asS M x with
    | some ds => match atI ds k with
      | some d => Q d M
      | none => False
    | none => False
  | _, _ => False
/-- the place where a slice's end lies -/
def slN (n d : Nat) : Option Int → Nat
  | none => d
  | some i => if i < 0 then (i + n).toNat else min i.toNat n
def cut {α : Type} (xs : List α) (lo hi : Option Int) : List α :=
  (xs.drop (slN xs.length 0 lo)).take (slN xs.length xs.length hi - slN xs.length 0 lo)
def sliW (fr : Bool) (x : D) (lo hi : Option Int) (M : Mem) (Q : QK) : Prop :=
  match x with
  | .str z => z.length ≤ sizeLine ∧ Q (.str ⟨(cut z.cps.toList lo hi).toArray⟩) M
  | .tup ds => Q (.tup (cut ds lo hi)) M
  | x => match asL M x with
    | some ds => newL fr (cut ds lo hi) M Q
    | none => False

/-- x[::-1] -/
def revW (fr : Bool) (x : D) (M : Mem) (Q : QK) : Prop :=
  match x with
  | .tup ds => Q (.tup ds.reverse) M
  | x => match asL M x with
    | some ds => newL fr ds.reverse M Q
    | none => False

/-! ### built-ins -/
inductive Bi where
  | len | int_ | list_ | tuple_ | str_ | ord_ | abs_ | min_ | max_ | sum_ | all_ | any_ | sorted_ | dict_
  deriving DecidableEq
/-- the kinds that isinstance asks for -/
inductive Ty where
  | int_ | bool_ | str_ | tuple_ | list_ | dict_
  deriving DecidableEq
def isiB (t : Ty) (x : D) (M : Mem) : Option Bool :=
  match x with
  | .non => some false
  | .bl _ => some (t = .int_ || t = .bool_)
  | .int _ => some (t = .int_)
  | .str _ => some (t = .str_)
  | .tup _ => some (t = .tuple_)
  | .lst _ => some (t = .list_)
  | .scr _ => some (t = .list_)
  | .emp => some (t = .dict_)
  | .loc a => match M a with
    | some (.lst _) => some (t = .list_)
    | some (.dic _) => some (t = .dict_)
    | _ => none
/-- .. of one of these -/
def istB : List Ty → D → Mem → Option Bool
  | [], _, _ => some false
  | t :: ts, x, M => match isiB t x M, istB ts x M with
    | some a, some b => some (a || b)
    | _, _ => none
def bools : List D → Option (List Bool)
  | [] => some []
  | .bl i :: ds => (bools ds).map (i :: ·)
  | _ :: _ => none
def lenW (x : D) (M : Mem) (Q : QK) : Prop :=
  match x with
  | .str z => z.length ≤ sizeLine ∧ Q (.int z.length) M
  | x => match asS M x with
    | some ds => Q (.int ds.length) M
    | none => False
def signs (z : Str) : List D := z.cps.toList.map fun c => .str ⟨#[c]⟩
def max2 (i j : Int) : Int := if i < j then j else i
def min2 (i j : Int) : Int := if j < i then j else i
/-- pairs of a key and a thing -/
def prsD : List D → Option (List (Sum Int Str × D))
  | [] => some []
  | .tup [k, v] :: r => match keyD k, prsD r with
    | some k, some kvs => some ((k, v) :: kvs)
    | _, _ => none
  | _ => none
def putD (kvs : List (Sum Int Str × D)) (k : Sum Int Str) (v : D) : List (Sum Int Str × D) :=
  if (kvs.any fun kv => decide (kv.1 = k)) = true then kvs.map (fun kv => if kv.1 = k then (kv.1, v) else kv) else kvs ++ [(k, v)]
def mergeD (kvs more : List (Sum Int Str × D)) : List (Sum Int Str × D) := more.foldl (fun acc kv => putD acc kv.1 kv.2) kvs
def biW (b : Bi) (fr : Bool) (ds : List D) (M : Mem) (Q : QK) : Prop :=
  match b, ds with
  | .len, [x] => lenW x M Q
  | .int_, [.int i] => Q (.int i) M
  | .int_, [.bl k] => Q (.int (if k then 1 else 0)) M
  | .int_, [.str a] => a.length ≤ 640 ∧ match PySem.intText? a with
    | some n => Q (.int n) M
    | none => False
  | .list_, [.str z] => z.length ≤ sizeLine ∧ newL fr (signs z) M Q
  | .list_, [x] => match asS M x with
    | some ds => newL fr ds M Q
    | none => False
  | .tuple_, [.tup ds] => Q (.tup ds) M
  | .tuple_, [x] => match asL M x with
    | some ds => Q (.tup ds) M
    | none => False
  | .str_, [.int i] => i.natAbs.log2 < 1920 ∧ Q (.str (toString i)) M
  | .ord_, [.str x] => x.length = 1 ∧ Q (.int (x.cps.getD 0 0 : Nat)) M
  | .abs_, [.int i] => Q (.int (if i < 0 then -i else i)) M
  | .min_, [.int i, .int j] => Q (.int (if j < i then j else i)) M
  | .max_, [.int i, .int j] => Q (.int (if j > i then j else i)) M
  | .min_, [.int i, .int j, .int k] => Q (.int (min2 (min2 i j) k)) M
  | .max_, [.int i, .int j, .int k] => Q (.int (max2 (max2 i j) k)) M
  | .min_, [x] => match asL M x with
    | some ds => match intsOf ds with
      | some ns => 0 < ns.length ∧ ∀ m, m ∈ ns → (∀ y, y ∈ ns → m ≤ y) → Q (.int m) M
      | none => False
    | none => False
  | .max_, [x] => match asL M x with
    | some ds => match intsOf ds with
      | some ns => 0 < ns.length ∧ ∀ m, m ∈ ns → (∀ y, y ∈ ns → y ≤ m) → Q (.int m) M
      | none => False
    | none => False
  | .sum_, [x] => match asL M x with
    | some ds => match intsOf ds with
      | some ns => Q (.int ns.sum) M
      | none => False
    | none => False
  | .sorted_, [x] => match asL M x with
    | some ds => match intsOf ds with
      | some ns => ∀ ns' : List Int, ns'.Perm ns → ns'.Pairwise (· ≤ ·) → newL fr (ns'.map D.int) M Q
      | none => False
    | none => False
  | .all_, [x] => match asL M x with
    | some ds => match bools ds with
      | some bs => Q (.bl (bs.all id)) M
      | none => False
    | none => False
  | .dict_, [x] => match asL M x with
    | some ds => match prsD ds with
      | some kvs => ∀ p, M p = none → Q (.loc p) (M.upd p (.dic (mergeD [] kvs)))
      | none => False
    | none => False
  | _, _ => False

/-! ### methods of built-in kinds -/
inductive Bm where
  | append | extend | index | join | pop | reverse_ | clear | insert | find | upper | split | partition
  deriving DecidableEq
def strsOf : List D → Option (List Str)
  | [] => some []
  | .str i :: ds => (strsOf ds).map (i :: ·)
  | _ :: _ => none
/-- what a method's receiver must be -/
def rcvW (b : Bm) (x : D) (M : Mem) : Prop :=
  match b with
  | .append => (asL M x).isSome = true
  | .extend => (asL M x).isSome = true
  | .index => (asL M x).isSome = true
  | .pop => (asL M x).isSome = true
  | .reverse_ => (asL M x).isSome = true
  | .clear => (asL M x).isSome = true
  | .insert => (asL M x).isSome = true
  | _ => match x with
    | .str _ => True
    | _ => False
def eqAll (d : PyData) : List PyData → Bool
  | [] => false
  | z :: zs => PyData.eqv z d || eqAll d zs
/-- the place of the first equal thing -/
def firstOf (d : PyData) : List PyData → Nat → Option Nat
  | [], _ => none
  | z :: zs, n => if PyData.eqv z d = true then some n else firstOf d zs (n + 1)
def bmW (b : Bm) (fr : Bool) (x : D) (ds : List D) (M : Mem) (Q : QK) : Prop :=
  match b, x, ds with
  | .append, .loc a, [y] => match M a with
    | some (.lst xs) => xs.length < sizeLine ∧ Q .non (M.upd a (.lst (xs ++ [y])))
    | _ => False
  | .extend, .loc a, [y] => match M a, asLT M y with
    | some (.lst xs), some ys => xs.length + ys.length ≤ sizeLine ∧ Q .non (M.upd a (.lst (xs ++ ys)))
    | _, _ => False
  | .reverse_, .loc a, [] => match M a with
    | some (.lst xs) => Q .non (M.upd a (.lst xs.reverse))
    | _ => False
  | .clear, .loc a, [] => match M a with
    | some (.lst xs) => Q .non (M.upd a (.lst []))
    | _ => False
  | .insert, .loc a, [.int i, y] => match M a with
    | some (.lst xs) => xs.length < sizeLine ∧ 0 ≤ i ∧ i < 2 ^ 63 ∧ Q .non (M.upd a (.lst (xs.take i.toNat ++ [y] ++ xs.drop i.toNat)))
    | _ => False
  | .pop, .loc a, [.int i] => match M a with
    | some (.lst xs) => 0 ≤ i ∧ i < 2 ^ 63 ∧ match xs[i.toNat]? with
      | some y => Q y (M.upd a (.lst (xs.eraseIdx i.toNat)))
      | none => False
    | _ => False
  | .pop, .loc a, [] => match M a with
    | some (.lst xs) => match xs[xs.length - 1]? with
      | some y => Q y (M.upd a (.lst xs.dropLast))
      | none => False
    | _ => False
  | .join, .str a, [y] => match asS M y with
    | some ys => match strsOf ys with
      | some zs => (zs.map (·.length)).sum + zs.length * a.length ≤ 16777216 ∧ Q (.str (Txt.join a zs)) M
      | none => False
    | none => False
  | .index, x, [y] => match asL M x, toPyM M y with
    | some xs, some d => match toPys xs with
      | some ps => SeqAt.shaped (.list ps) = true ∧ SeqAt.shaped d = true ∧ match firstOf d ps 0 with
        | some j => Q (.int (j : Nat)) M
        | none => False
      | none => False
    | _, _ => False
  | .find, .str a, [.str b] => Q (.int (Txt.find a b)) M
  | .upper, .str a, [] => a.length ≤ 5592405 ∧ Q (.str (Txt.upper a)) M
  | .split, .str a, [.str b] => (b.length == 0) = false ∧ a.length + 2 ≤ sizeLine ∧ newL fr ((Txt.split a b).map D.str) M Q
  | .partition, .str a, [.str b] => (b.length == 0) = false ∧ a.length ≤ sizeLine ∧ Q (.tup [.str (Txt.partition a b).1, .str (Txt.partition a b).2.1, .str (Txt.partition a b).2.2]) M
  | _, _, _ => False

/-! ### dicts with ints and texts as keys -/
def dgetW (x k : D) (M : Mem) (Q : QK) : Prop :=
  match x with
  | .loc a => match M a, keyD k with
    | some (.dic kvs), some k => match lookD kvs k with
      | some v => Q v M
      | none => False
    | _, _ => False
  | _ => False
def dgtW (x k : D) (M : Mem) (Q : QK) : Prop :=
  match dicAt M x, keyD k with
  | some kvs, some k => Q ((lookD kvs k).getD .non) M
  | _, _ => False
def dputW (o k v : D) (M : Mem) (Q : Mem → Prop) : Prop :=
  match o with
  | .loc a => match M a, keyD k with
    | some (.dic kvs), some k => kvs.length < sizeLine ∧ Q (M.upd a (.dic (putD kvs k v)))
    | _, _ => False
  | _ => False

/-! ### exceptions -/
/-- class c is class d's or stands under it (0: ValueError; 1: the program's own base) -/
def subX (c d : Nat) : Bool := decide (c = d) || decide (d ≤ 1)
def isxW (x : D) (c : Nat) (M : Mem) (Q : QK) : Prop :=
  match x with
  | .loc a => match M a with
    | some (.ins k _) => Q (.bl (subX k c)) M
    | _ => False
  | _ => False
def ixsW (x : D) (cs : List Nat) (M : Mem) (Q : QK) : Prop :=
  match x with
  | .loc a => match M a with
    | some (.ins k _) => Q (.bl (cs.any fun c => subX k c)) M
    | _ => False
  | _ => False
def atrW (x : D) (f : Str) (M : Mem) (Q : QK) : Prop :=
  match x with
  | .loc a => match M a with
    | some (.ins _ fs) => match fs.lookup f with
      | some d => Q d M
      | none => False
    | _ => False
  | _ => False

/-! ### objects -/
def putS (f : Str) (d : D) : List (Str × D) → List (Str × D)
  | [] => [(f, d)]
  | (g, x) :: r => if g = f then (g, d) :: r else (g, x) :: putS f d r
def fldW (x : D) (f : Str) (M : Mem) (Q : QK) : Prop :=
  match x with
  | .loc a => match M a with
    | some (.obj _ fs) => match fs.lookup f with
      | some d => Q d M
      | none => False
    | _ => False
  | _ => False
def sflW (x : D) (f : Str) (v : D) (M : Mem) (Q : Mem → Prop) : Prop :=
  match x with
  | .loc a => match M a with
    | some (.obj c fs) => fs.length < 1000 ∧ Q (M.upd a (.obj c (putS f v fs)))
    | _ => False
  | _ => False
def clsW (x : D) (M : Mem) : Option Nat :=
  match x with
  | .loc a => match M a with
    | some (.obj c _) => some c
    | _ => none
  | _ => none
/-- what the receiver of a method must be -/
def mthW (x : D) (c : Nat) (m : Str) (M : Mem) : Prop :=
  match x with
  | .loc a => match M a with
    | some (.obj k fs) => k = c ∧ fs.lookup m = none
    | _ => False
  | _ => False

/-! ### the language -/
/-- a target: a name, or a tuple of targets (co t (co .. no)) -/
inductive Tg where
  | nm (i : Nat) | no | co (t ts : Tg)
inductive Ex where
  | var (i : Nat)
  | non | bl (b : Bool) | int (i : Int) | str (x : Str)
  | glob (x : Str) (d : D)
  | bin (op : Operator) (fr : Bool) (a b : Ex)
  | neg (a : Ex) | not (a : Ex) | and (a b : Ex) | or (a b : Ex)
  | cmp (op : CmpOp) (a b : Ex)
  | ch2 (o1 o2 : CmpOp) (a b c : Ex)
  | ch3 (o1 o2 o3 : CmpOp) (a b c d : Ex)
  | ife (t a b : Ex)
  | tup (es : Ex) | lst (fr : Bool) (es : Ex) | emp
  -- a dict with written keys; d[k]
  | dct (ks : List (Sum Int Str)) (es : Ex) | dget (a i : Ex)
  | nil | cons (e es : Ex)
  | call (f : Nat) (es : Ex)
  -- [f, g, ..][i](es)
  | cll (fs : List Nat) (i es : Ex)
  | bi (b : Bi) (fr : Bool) (es : Ex)
  | isi (a : Ex) (t : Ty)
  -- isinstance, kinds in a tuple; d.get(k); what is walked: reversed(list)
  | ist (a : Ex) (ts : List Ty) | dgt (d k : Ex) | itr (e : Ex)
  -- isinstance of a caught exception; its field
  | isx (a : Ex) (c : Nat) | atr (a : Ex) (f : Str)
  -- an object's field; o.m(es), m of class c the def f; C(es), c its number, f its __init__
  | fld (a : Ex) (f : Str) | mth (o : Ex) (c : Nat) (m : Str) (f : Nat) (es : Ex) | mk (c f : Nat) (es : Ex)
  -- isinstance of a caught exception, classes in a tuple
  | ixs (a : Ex) (cs : List Nat)
  | bm (b : Bm) (fr : Bool) (o : Ex) (es : Ex)
  | idx (a i : Ex)
  | sli (fr : Bool) (a lo hi : Ex)
  | rev (fr : Bool) (a : Ex)
  -- list(range(..))
  | lrg (fr : Bool) (es : Ex)
  | part (a : Ex) | nopart
  | comp (fr : Bool) (own : List Nat) (tg : Tg) (iter cond elt : Ex)
  -- what is walked
  | itl (e : Ex) | itt (e : Ex) | its (e : Ex) | it1 (a : Ex) | it2 (a b : Ex) | it3 (a b c : Ex) | ite (e : Ex) | itz (a b : Ex)

/-- a walk: the things, and what must stand still -/
structure Wk where
  items : List D
  still : Mem → Prop

def slv (env : Env) (i : Nat) : Option D := (env[i]?).join
def setV (env : Env) (i : Nat) (d : D) : Env := env.set i (some d)
/-! a store to a target -/
mutual
def tgW : Tg → D → Env → (Env → Prop) → Prop
  | .nm i, d, env, Q => Q (setV env i d)
  | .no, d, env, Q => match d with
    | .tup [] => Q env
    | .lst [] => Q env
    | _ => False
  | .co t ts, d, env, Q => match d with
    | .tup (d :: ds) => tgW t d env fun e => tgsW ts ds e Q
    | .lst (d :: ds) => tgW t d env fun e => tgsW ts ds e Q
    | _ => False
def tgsW : Tg → List D → Env → (Env → Prop) → Prop
  | .no, [], env, Q => Q env
  | .co t ts, d :: ds, env, Q => tgW t d env fun e => tgsW ts ds e Q
  | _, _, _, _ => False
end
def stillAt (d : D) (ds : List D) : Mem → Prop :=
  match d with
  | .loc a => fun M' => M' a = some (.lst ds)
  | _ => fun _ => True
/-- a list (or a tuple) walked -/
def walkL (d : D) (M : Mem) (Q : Wk → Mem → Prop) : Prop :=
  match d with
  | .tup ds => Q ⟨ds, fun _ => True⟩ M
  | d => match asL M d with
    | some ds => Q ⟨ds, stillAt d ds⟩ M
    | none => False
def walkT (d : D) (M : Mem) (Q : Wk → Mem → Prop) : Prop :=
  match d with
  | .tup ds => Q ⟨ds, fun _ => True⟩ M
  | _ => False
def walkS (d : D) (M : Mem) (Q : Wk → Mem → Prop) : Prop :=
  match d with
  | .str z => Q ⟨signs z, fun _ => True⟩ M
  | _ => False
def rng (lo : Int) (n : Nat) : List D := (List.range n).map fun i => .int (lo + (i : Nat))
def rngC (lo c : Int) (n : Nat) : List D := (List.range n).map fun i => .int (lo + (i : Nat) * c)
def inB (i : Int) : Prop := -(2 ^ 62) ≤ i ∧ i < 2 ^ 62
def walkR (ds : List D) (M : Mem) (Q : Wk → Mem → Prop) : Prop :=
  match ds with
  | [.int j] => inB j ∧ Q ⟨rng 0 j.toNat, fun _ => True⟩ M
  | [.int i, .int j] => (inB i ∧ inB j) ∧ Q ⟨rng i (j - i).toNat, fun _ => True⟩ M
  | [.int i, .int j, .int c] => match decide (0 < c) with
    | true => (inB i ∧ inB j ∧ c < 1000000) ∧ Q ⟨rngC i c (Builtin.Range.rangeSize i j c).toNat, fun _ => True⟩ M
    | false => (inB i ∧ inB j ∧ c = -1) ∧ Q ⟨rngC i (-1) (i - j).toNat, fun _ => True⟩ M
  | _ => False
def enumD : Nat → List D → List D
  | _, [] => []
  | n, d :: ds => .tup [.int (n : Nat), d] :: enumD (n + 1) ds
/-- a list (or a tuple) numbered -/
def enumW (x : D) (M : Mem) (Q : Wk → Mem → Prop) : Prop :=
  match x with
  | .tup ds => Q ⟨enumD 0 ds, fun _ => True⟩ M
  | x => match asL M x with
    | some ds => Q ⟨enumD 0 ds, stillAt x ds⟩ M
    | none => False
def zipD : List D → List D → List D
  | d :: ds, e :: es => .tup [d, e] :: zipD ds es
  | _, _ => []
/-- two lists, or two tuples, side by side -/
def zipW (x y : D) (M : Mem) (Q : Wk → Mem → Prop) : Prop :=
  match x, y with
  | .tup ds, .tup es => Q ⟨zipD ds es, fun _ => True⟩ M
  | x, y => match asL M x, asL M y with
    | some ds, some es => Q ⟨zipD ds es, fun M => stillAt x ds M ∧ stillAt y es M⟩ M
    | _, _ => False
/-- a comprehension: thing by thing -/
def compW (step : D → Env → Mem → (Option D → Mem → Prop) → Prop) (still : Mem → Prop) (env : Env) : List D → List D → Mem → AK → Prop
  | [], acc, M, Q => still M ∧ Q acc M
  | d :: ds, acc, M, Q => still M ∧ step d env M fun o M1 => match o with
    | some y => acc.length < sizeLine ∧ compW step still env ds (acc ++ [y]) M1 Q
    | none => compW step still env ds acc M1 Q
def wipeE (env : Env) (own : List Nat) : Env := own.foldr (fun i e => e.set i none) env

section
variable (R : Nat → List D → Mem → QK → XQ → Prop)
mutual
def wpE : Ex → Env → Mem → QK → XQ → Prop
  | .var i, env, M, Q, _ => match slv env i with
    | some d => Q d M
    | none => False
  | .non, _, M, Q, _ => Q .non M
  | .bl b, _, M, Q, _ => Q (.bl b) M
  | .int i, _, M, Q, _ => Q (.int i) M
  | .str x, _, M, Q, _ => Q (.str x) M
  | .glob _ d, _, M, Q, _ => Q d M
  | .bin op fr a b, env, M, Q, E => wpE a env M (fun x M1 => wpE b env M1 (fun y M2 => binW op fr x y M2 Q) E) E
  | .neg a, env, M, Q, E => wpE a env M (fun x M1 => negW x M1 Q) E
  | .not a, env, M, Q, E => wpE a env M (fun x M1 => truW x M1 fun b M2 => Q (.bl (!b)) M2) E
  | .and a b, env, M, Q, E => wpE a env M (fun x M1 => truW x M1 fun c M2 => match c with
      | true => wpE b env M2 Q E
      | false => Q x M2) E
  | .or a b, env, M, Q, E => wpE a env M (fun x M1 => truW x M1 fun c M2 => match c with
      | true => Q x M2
      | false => wpE b env M2 Q E) E
  | .cmp op a b, env, M, Q, E => wpE a env M (fun x M1 => wpE b env M1 (fun y M2 => cmpW op x y M2 Q) E) E
  | .ch2 o1 o2 a b c, env, M, Q, E => wpE a env M (fun x M1 => wpE b env M1 (fun y M2 => cmpW o1 x y M2 fun r M3 => match r with
      | .bl true => wpE c env M3 (fun z M4 => cmpW o2 y z M4 Q) E
      | .bl false => Q (.bl false) M3
      | _ => False) E) E
  | .ch3 o1 o2 o3 a b c d, env, M, Q, E => wpE a env M (fun x M1 => wpE b env M1 (fun y M2 => cmpW o1 x y M2 fun r M3 => match r with
      | .bl true => wpE c env M3 (fun z M4 => cmpW o2 y z M4 fun r2 M5 => match r2 with
        | .bl true => wpE d env M5 (fun u M6 => cmpW o3 z u M6 Q) E
        | .bl false => Q (.bl false) M5
        | _ => False) E
      | .bl false => Q (.bl false) M3
      | _ => False) E) E
  | .ife t a b, env, M, Q, E => wpE t env M (fun x M1 => truW x M1 fun c M2 => match c with
      | true => wpE a env M2 Q E
      | false => wpE b env M2 Q E) E
  | .tup es, env, M, Q, E => wpA es env M (fun ds M1 => ds.length ≤ sizeLine ∧ Q (.tup ds) M1) E
  | .lst fr es, env, M, Q, E => wpA es env M (fun ds M1 => newL fr ds M1 Q) E
  | .emp, _, M, Q, _ => Q .emp M
  | .dct ks es, env, M, Q, E => ks.length ≤ 15 ∧ ∀ p, M p = none → wpA es env (M.upd p (.dic [])) (fun ds M1 => M1 p = some (.dic []) ∧ ks.length = ds.length ∧ Q (.loc p) (M1.upd p (.dic (mergeD [] (ks.zip ds))))) E
  | .dget a i, env, M, Q, E => wpE a env M (fun x M1 => wpE i env M1 (fun y M2 => dgetW x y M2 Q) E) E
  | .call f es, env, M, Q, E => wpA es env M (fun ds M1 => R f ds M1 Q E) E
  | .cll fs i es, env, M, Q, E => wpE i env M (fun y M1 => match y with
      | .int k => match atI fs k with
        | some f => wpA es env M1 (fun ds M2 => R f ds M2 Q E) E
        | none => False
      | _ => False) E
  | .bi b fr es, env, M, Q, E => wpA es env M (fun ds M1 => biW b fr ds M1 Q) E
  | .isi a t, env, M, Q, E => wpE a env M (fun x M1 => match isiB t x M1 with
      | some b => Q (.bl b) M1
      | none => False) E
  | .ist a ts, env, M, Q, E => wpE a env M (fun x M1 => match istB ts x M1 with
      | some b => Q (.bl b) M1
      | none => False) E
  | .dgt a i, env, M, Q, E => wpE a env M (fun x M1 => (dicAt M1 x).isSome = true ∧ wpE i env M1 (fun y M2 => dgtW x y M2 Q) E) E
  | .isx a c, env, M, Q, E => wpE a env M (fun x M1 => isxW x c M1 Q) E
  | .ixs a cs, env, M, Q, E => wpE a env M (fun x M1 => ixsW x cs M1 Q) E
  | .atr a f, env, M, Q, E => wpE a env M (fun x M1 => atrW x f M1 Q) E
  | .fld a f, env, M, Q, E => wpE a env M (fun x M1 => fldW x f M1 Q) E
  | .mth o c m f es, env, M, Q, E => wpE o env M (fun x M1 => mthW x c m M1 ∧ wpA es env M1 (fun ds M2 => R f (x :: ds) M2 Q E) E) E
  | .mk c f es, env, M, Q, E => wpA es env M (fun ds M1 => ∀ p, M1 p = none → R f (.loc p :: ds) (M1.upd p (.obj c [])) (fun v M2 => v = .non ∧ Q (.loc p) M2) E) E
  | .bm b fr o es, env, M, Q, E => wpE o env M (fun x M1 => rcvW b x M1 ∧ wpA es env M1 (fun ds M2 => bmW b fr x ds M2 Q) E) E
  | .idx a i, env, M, Q, E => wpE a env M (fun x M1 => wpE i env M1 (fun y M2 => idxW x y M2 Q) E) E
  | .sli fr a lo hi, env, M, Q, E => wpE a env M (fun x M1 => wpP lo env M1 (fun l M2 => wpP hi env M2 (fun h M3 => sliW fr x l h M3 Q) E) E) E
  | .lrg fr es, env, M, Q, E => wpA es env M (fun ds M1 => walkR ds M1 fun w M2 => newL fr w.items M2 Q) E
  | .rev fr a, env, M, Q, E => wpE a env M (fun x M1 => revW fr x M1 Q) E
  | .comp fr own tg iter cond elt, env, M, Q, E => wpW iter env M (fun w M1 =>
      compW (fun d e M Q => tgW tg d e fun e' => wpC cond e' M (fun b M1 => match b with
        | true => wpE elt e' M1 (fun y M2 => Q (some y) M2) fun _ _ => False
        | false => Q none M1) fun _ _ => False) w.still (wipeE env own) w.items [] M1 fun ds M2 => newL fr ds M2 Q) E
  | _, _, _, _, _ => False
/-- arguments -/
def wpA : Ex → Env → Mem → AK → XQ → Prop
  | .nil, _, M, Q, _ => Q [] M
  | .cons e es, env, M, Q, E => wpE e env M (fun x M1 => wpA es env M1 (fun ds M2 => Q (x :: ds) M2) E) E
  | _, _, _, _, _ => False
/-- an end of a slice -/
def wpP : Ex → Env → Mem → (Option Int → Mem → Prop) → XQ → Prop
  | .nopart, _, M, Q, _ => Q none M
  | .part e, env, M, Q, E => wpE e env M (fun x M1 => match x with
      | .int i => Q (some i) M1
      | _ => False) E
  | _, _, _, _, _ => False
/-- a comprehension's test -/
def wpC : Ex → Env → Mem → BK → XQ → Prop
  | .nopart, _, M, Q, _ => Q true M
  | .part e, env, M, Q, E => wpE e env M (fun x M1 => truW x M1 Q) E
  | _, _, _, _, _ => False
/-- what is walked -/
def wpW : Ex → Env → Mem → (Wk → Mem → Prop) → XQ → Prop
  | .itl e, env, M, Q, E => wpE e env M (fun x M1 => walkL x M1 Q) E
  | .itt e, env, M, Q, E => wpE e env M (fun x M1 => walkT x M1 Q) E
  | .its e, env, M, Q, E => wpE e env M (fun x M1 => walkS x M1 Q) E
  | .it1 a, env, M, Q, E => wpE a env M (fun x M1 => walkR [x] M1 Q) E
  | .it2 a b, env, M, Q, E => wpE a env M (fun x M1 => wpE b env M1 (fun y M2 => walkR [x, y] M2 Q) E) E
  | .it3 a b c, env, M, Q, E => wpE a env M (fun x M1 => wpE b env M1 (fun y M2 => wpE c env M2 (fun z M3 => walkR [x, y, z] M3 Q) E) E) E
  | .ite e, env, M, Q, E => wpE e env M (fun x M1 => enumW x M1 Q) E
  | .itr e, env, M, Q, E => wpE e env M (fun x M1 => match asL M1 x with
      | some ds => Q ⟨ds.reverse, stillAt x ds⟩ M1
      | none => False) E
  | .itz a b, env, M, Q, E => wpE a env M (fun x M1 => wpE b env M1 (fun y M2 => zipW x y M2 Q) E) E
  | _, _, _, _, _ => False
end
/-- a test -/
def wpT (e : Ex) (env : Env) (M : Mem) (Q : BK) (E : XQ) : Prop := wpE R e env M (fun x M1 => truW x M1 Q) E
end

/-! ### statements -/
/-- targets side by side: a name, a list's place, a dict's key -/
inductive Ts where
  | nm (i : Nat) | sb (o i : Ex) | db (o i : Ex)
inductive Sx where
  | nil | seq (s t : Sx)
  | asg (tg : Tg) (e : Ex)
  | sub (o i e : Ex)
  | dput (o i e : Ex)
  | aug (i : Nat) (op : Operator) (e : Ex)
  | drop (e : Ex)
  | ret (e : Ex)
  | ife (c : Ex) (s t : Sx)
  | loop (c : Ex) (s : Sx)
  | each (tg : Tg) (w : Ex) (s : Sx)
  | pass | brk | cnt
  | never
  -- raise C(a), f the field that C's own __init__ writes
  | rse (c : Nat) (f : Str) (a : Ex)
  -- raise C(a), no own __init__
  | rsp (c : Nat) (a : Ex)
  -- try: s, except C as the slot i: t
  | tri (c i : Nat) (s t : Sx)
  -- .. without a name
  | trn (c : Nat) (s t : Sx)
  -- o.f = e; o.f op= e; d[k] op= e; t, u, .. = e
  | sfl (o : Ex) (f : Str) (e : Ex)
  | fau (o : Ex) (f : Str) (op : Operator) (e : Ex)
  | dau (o i : Ex) (op : Operator) (e : Ex)
  | asu (ts : List Ts) (e : Ex)
  -- raise C(at), raise C(at, side), C's own __init__ with both, side None at first
  | rsb (c : Nat) (es : Ex)
  -- try: s, except C (as i): t, except D (as j): u
  | tr2 (c : Nat) (i : Option Nat) (t : Sx) (d : Nat) (j : Option Nat) (u : Sx) (s : Sx)
  -- ghost: the list in a place is kept as it is from here on
  | frz (i : Nat)

structure Ends where
  nx : Env → Mem → Prop
  rt : QK
  bk : Env → Mem → Prop
  ct : Env → Mem → Prop
  ex : Exn → Env → Mem → Prop

def putW (o i v : D) (M : Mem) (Q : Mem → Prop) : Prop :=
  match o, i with
  | .loc a, .int k => match M a with
    | some (.lst xs) => match ixN xs.length k with
      | some j => Q (M.upd a (.lst (xs.set j v)))
      | none => False
    | _ => False
  | _, _ => False
def augW (op : Operator) (x y : D) (M : Mem) (Q : QK) : Prop :=
  match op, x, y with
  | .Add, .int i, .int j => Q (.int (i + j)) M
  | .Sub, .int i, .int j => Q (.int (i - j)) M
  | _, _, _ => False
/-- a loop over things -/
def eachW (body : Ends → Env → Mem → Prop) (tg : Tg) (still : Mem → Prop) (N : Ends) : List D → Env → Mem → Prop
  | [], env, M => still M ∧ N.nx env M
  | d :: ds, env, M => still M ∧ tgW tg d env fun e => body { N with nx := eachW body tg still N ds, ct := eachW body tg still N ds, bk := N.nx } e M
/-- a while loop that ends within n turns -/
def loopW (test : Env → Mem → (Bool → Mem → Prop) → Prop) (body : Ends → Env → Mem → Prop) (D : Ends) : Nat → Env → Mem → Prop
  | 0, _, _ => False
  | n + 1, env, M => test env M fun c M1 => match c with
    | true => body { D with nx := loopW test body D n, ct := loopW test body D n, bk := D.nx } env M1
    | false => D.nx env M1

section
variable (R : Nat → List D → Mem → QK → XQ → Prop)
def tsW : List Ts → List D → Env → Mem → (Env → Mem → Prop) → (Exn → Env → Mem → Prop) → Prop
  | [], [], env, M, Q, _ => Q env M
  | .nm i :: ts, d :: ds, env, M, Q, E => tsW ts ds (setV env i d) M Q E
  | .sb o i :: ts, d :: ds, env, M, Q, E => wpE R o env M (fun a M1 => wpE R i env M1 (fun k M2 => putW a k d M2 fun M3 => tsW ts ds env M3 Q E) fun z M => E z env M) fun z M => E z env M
  | .db o i :: ts, d :: ds, env, M, Q, E => wpE R o env M (fun a M1 => wpE R i env M1 (fun k M2 => dputW a k d M2 fun M3 => tsW ts ds env M3 Q E) fun z M => E z env M) fun z M => E z env M
  | _, _, _, _, _, _ => False
/-- a clause's suite: the exception, if it is named, stands at a new place -/
def clW (t : Ends → Env → Mem → Prop) (i : Option Nat) (N : Ends) (z : Exn) (env : Env) (M : Mem) : Prop :=
  match i with
  | some i => ∀ p, M p = none → t ⟨fun e M => N.nx (e.set i none) M, N.rt, fun e M => N.bk (e.set i none) M, fun e M => N.ct (e.set i none) M, fun _ _ _ => False⟩ (setV env i (.loc p)) (M.upd p (.ins z.c z.fs))
  | none => t ⟨N.nx, N.rt, N.bk, N.ct, fun _ _ _ => False⟩ env M
def wpS : Sx → Ends → Env → Mem → Prop
  | .nil, D, env, M => D.nx env M
  | .seq s t, D, env, M => wpS s { D with nx := wpS t D } env M
  | .asg tg e, D, env, M => wpE R e env M (fun x M1 => tgW tg x env fun e' => D.nx e' M1) fun z M1 => D.ex z env M1
  | .sub o i e, D, env, M => wpE R e env M (fun x M1 => wpE R o env M1 (fun a M2 => wpE R i env M2 (fun k M3 => putW a k x M3 fun M4 => D.nx env M4) fun z M => D.ex z env M) fun z M => D.ex z env M) fun z M => D.ex z env M
  | .dput o i e, D, env, M => wpE R e env M (fun x M1 => wpE R o env M1 (fun a M2 => wpE R i env M2 (fun k M3 => dputW a k x M3 fun M4 => D.nx env M4) fun z M => D.ex z env M) fun z M => D.ex z env M) fun z M => D.ex z env M
  | .aug i op e, D, env, M => match slv env i with
    | some x => wpE R e env M (fun y M1 => augW op x y M1 fun z M2 => D.nx (setV env i z) M2) fun z M1 => D.ex z env M1
    | none => False
  | .drop e, D, env, M => wpE R e env M (fun _ M1 => D.nx env M1) fun z M1 => D.ex z env M1
  | .ret e, D, env, M => wpE R e env M (fun x M1 => D.rt x M1) fun z M1 => D.ex z env M1
  | .ife c s t, D, env, M => wpT R c env M (fun b M1 => match b with
      | true => wpS s D env M1
      | false => wpS t D env M1) fun z M1 => D.ex z env M1
  | .loop c s, D, env, M => ∃ n, loopW (fun e M Q => wpT R c e M Q fun z M1 => D.ex z e M1) (wpS s) D n env M
  | .each tg w s, D, env, M => wpW R w env M (fun w M1 => eachW (wpS s) tg w.still D w.items env M1) fun z M1 => D.ex z env M1
  | .pass, D, env, M => D.nx env M
  | .brk, D, env, M => D.bk env M
  | .cnt, D, env, M => D.ct env M
  | .never, _, _, _ => False
  | .rse c f a, D, env, M => wpE R a env M (fun x M1 => D.ex ⟨c, [(f, x)]⟩ env M1) fun z M1 => D.ex z env M1
  | .rsp c a, D, env, M => wpE R a env M (fun _ M1 => D.ex ⟨c, []⟩ env M1) fun z M1 => D.ex z env M1
  | .tri c i s t, D, env, M => wpS s ⟨D.nx, D.rt, D.bk, D.ct, fun z env' M' => match subX z.c c with
      | true => ∀ p, M' p = none → wpS t ⟨fun e M => D.nx (e.set i none) M, D.rt, fun e M => D.bk (e.set i none) M, fun e M => D.ct (e.set i none) M, fun _ _ _ => False⟩ (setV env' i (.loc p)) (M'.upd p (.ins z.c z.fs))
      | false => D.ex z env' M'⟩ env M
  | .trn c s t, D, env, M => wpS s ⟨D.nx, D.rt, D.bk, D.ct, fun z env' M' => match subX z.c c with
      | true => wpS t ⟨D.nx, D.rt, D.bk, D.ct, fun _ _ _ => False⟩ env' M'
      | false => D.ex z env' M'⟩ env M
  | .sfl o f e, D, env, M => wpE R e env M (fun x M1 => wpE R o env M1 (fun a M2 => sflW a f x M2 fun M3 => D.nx env M3) fun z M => D.ex z env M) fun z M => D.ex z env M
  | .fau o f op e, D, env, M => wpE R o env M (fun a M1 => fldW a f M1 fun x M2 => wpE R e env M2 (fun y M3 => augW op x y M3 fun z M4 => clsW a M4 = clsW a M1 ∧ sflW a f z M4 fun M5 => D.nx env M5) fun z M => D.ex z env M) fun z M => D.ex z env M
  | .dau o i op e, D, env, M => wpE R o env M (fun a M1 => wpE R i env M1 (fun k M2 => dgetW a k M2 fun x M3 => wpE R e env M3 (fun y M4 => augW op x y M4 fun z M5 => dputW a k z M5 fun M6 => D.nx env M6) fun z M => D.ex z env M) fun z M => D.ex z env M) fun z M => D.ex z env M
  | .asu ts e, D, env, M => wpE R e env M (fun x M1 => match x with
      | .tup ds => ts.length = ds.length ∧ tsW R ts ds env M1 D.nx D.ex
      | _ => False) fun z M => D.ex z env M
  | .rsb c es, D, env, M => wpA R es env M (fun ds M1 => match ds with
      | [a] => D.ex ⟨c, [("side", .non), ("at", a)]⟩ env M1
      | [a, b] => D.ex ⟨c, [("side", b), ("at", a)]⟩ env M1
      | _ => False) fun z M => D.ex z env M
  | .tr2 c i t d j u s, D, env, M => wpS s ⟨D.nx, D.rt, D.bk, D.ct, fun z env' M' => match subX z.c c with
      | true => clW (wpS t) i D z env' M'
      | false => match subX z.c d with
        | true => clW (wpS u) j D z env' M'
        | false => D.ex z env' M'⟩ env M
  | .frz i, D, env, M => match slv env i with
    | some (.loc a) => match M a with
      | some (.lst ds) => D.nx (setV env i (.lst ds)) (M.del a)
      | _ => False
    | _ => False
end

/-! ### defs -/
structure Fn where
  np : Nat
  ns : Nat
  body : Sx
mutual
/-- a place replaced by a tree -/
def repD (a : Addr) (ds : List D) : D → D
  | .tup xs => .tup (repDs a ds xs)
  | .lst xs => .lst (repDs a ds xs)
  | .loc b => if b = a then .lst ds else .loc b
  | d => d
def repDs (a : Addr) (ds : List D) : List D → List D
  | [] => []
  | x :: xs => repD a ds x :: repDs a ds xs
end
/-- lists in the memory become trees -/
inductive Frz : D → Mem → QK → Prop
  | done {d M} {Q : QK} : Q d M → Frz d M Q
  | step {d M a ds} {Q : QK} : M a = some (.lst ds) → Frz (repD a ds d) (M.del a) Q → Frz d M Q

def start (fn : Fn) (ds : List D) : Env := ds.map some ++ List.replicate (fn.ns - fn.np) none
/-- a def at a level: k calls, one in another, may be under way -/
def run (T : Nat → Option Fn) : Nat → Nat → List D → Mem → QK → XQ → Prop
  | 0, _, _, _, _, _ => False
  | k + 1, f, ds, M, Q, E => match T f with
    | some fn => ds.length = fn.np ∧ wpS (run T k) fn.body ⟨fun _ M1 => Frz .non M1 Q, fun x M1 => Frz x M1 Q, fun _ _ => False, fun _ _ => False, fun z _ M1 => E z M1⟩ (start fn ds) M
    | none => False
end Wp

/-! WpLrg: list(range(..)). -/
namespace Wp
open PySem PySem.Spec PyProof.Rows L2
def rgcV (lo c : Int) (n : Nat) : List V := (List.range n).map fun i => V.int (lo + (i : Nat) * c)
theorem rgcV_len (lo c : Int) (n : Nat) : (rgcV lo c n).length = n := by unfold rgcV; rw [List.length_map, List.length_range]
theorem vals_rgc {lo c : Int} {n : Nat} {acc : Array Value} (h : ItemsOf (fun i v => ∃ t, v = .int (lo + i * c) t) acc n) : Vals (rgcV lo c n) acc.toList := by
  have e : acc.toList.length = n := by rw [Array.length_toList]; exact h.1
  unfold rgcV
  rw [← e]
  refine vals_of_get acc.toList _ fun j u hj => ?_
  obtain ⟨t, rfl⟩ := h.2 j u (by rw [← hj, Array.getElem?_toList])
  exact ⟨t, rfl⟩
def Rgs (vs : List V) (i j c : Int) : Prop := (vs = [.int j] ∧ i = 0 ∧ c = 1) ∨ (vs = [.int i, .int j] ∧ c = 1) ∨ vs = [.int i, .int j, .int c]
def tRgs (ta : TA) (Q : Int → Int → Int → Hp → Prop)   : L2.St → Hp → Prop := fun σ H => ta σ H fun vs H1 => ∃ i j c, Rgs vs i j c ∧ c ≠ 0 ∧ c.natAbs < 1073741824 ∧ Q i j c H1
section
variable {X : Cx}
theorem rg_eval {e1 : Expr} {es : List Expr} {ta : TA} {p pos : Pos} (hg : Gl X "range") (hm : X.mg "range" = none) (ha : PA X (e1 :: es) ta)
    (hs : starEach (e1 :: es) X.env = (false, eval e1 X.env) :: starEach es X.env) (hpl : (backTo pos (starEach es X.env)).any (·.1) = false)
    (pins : List (Addr × Obj)) (s : Shared) (σ : L2.St) (H : Hp) (Q : Int → Int → Int → Hp → Prop) (I : Inv X pins σ H s) (h : tRgs ta Q σ H) :
    wpAny (model X.prog X.w) X.A (eval (.Call (.Name "range" p) (e1 :: es) [] pos) X.env) (fun x s' => ∃ r a b c t u v H', x = .ref r ∧ IsRange s'.heap r a b c t u v ∧ Inv X pins σ H' s' ∧ Q a b c H') X.xe s := by
  refine Call_ (ld_blt I hg hm boot_range (PyProof.Rows.callWith_type1 (thn (ha.run pos pins s σ H _ I h) fun us s1 ⟨vs, H1, I1, r1, q1⟩ => ?_) hs hpl))
  obtain ⟨i, j, c, hv, c0, c1, q⟩ := q1
  rcases hv with ⟨rfl, rfl, rfl⟩ | ⟨rfl, rfl⟩ | rfl
  · cases r1 with
    | cons r rr =>
      cases rr
      obtain ⟨t, rfl⟩ := r
      exact call_range_1 ⟨_, 0, j, 1, _, _, _, H1, rfl, IsRange.new _ _ _ _ _ _ _, I1.kept fun b u e => Heap.get?_push_of_some _ e, q⟩
  · cases r1 with
    | cons r rr =>
      cases rr with
      | cons r' rr =>
        cases rr
        obtain ⟨t, rfl⟩ := r
        obtain ⟨t', rfl⟩ := r'
        exact call_range_2 ⟨_, i, j, 1, _, _, _, H1, rfl, IsRange.new _ _ _ _ _ _ _, I1.kept fun b u e => Heap.get?_push_of_some _ e, q⟩
  · cases r1 with
    | cons r rr =>
      cases rr with
      | cons r' rr =>
        cases rr with
        | cons r'' rr =>
          cases rr
          obtain ⟨t, rfl⟩ := r
          obtain ⟨t', rfl⟩ := r'
          obtain ⟨t'', rfl⟩ := r''
          exact call_range_3 c0 ⟨_, i, j, c, _, _, _, H1, rfl, IsRange.new _ _ _ _ _ _ _, I1.kept fun b u e => Heap.get?_push_of_some _ e, q⟩ (.inl (PyProof.noPylong_small c1))
def tLrg (ta : TA) : TE := fun σ H Q => tRgs ta (fun i j c H1 => ∃ n, RgC i j c n ∧ n ≤ 2 ^ 24 ∧ ∀ q, H1 q = none → Q (.ref q) (upd H1 q (.lst (rgcV i c n)))) σ H
theorem pe_lrg {e1 : Expr} {es : List Expr} {ta : TA} {p p2 pos pos2 : Pos} (hc : X.calm = true) (hgl : Gl X "list") (hml : X.mg "list" = none) (hg : Gl X "range") (hm : X.mg "range" = none) (ha : PA X (e1 :: es) ta)
    (hs : starEach (e1 :: es) X.env = (false, eval e1 X.env) :: starEach es X.env) (hpl : (backTo pos2 (starEach es X.env)).any (·.1) = false)
    (na : starEach [.Call (.Name "range" p2) (e1 :: es) [] pos2] X.env = (false, eval (.Call (.Name "range" p2) (e1 :: es) [] pos2) X.env) :: starEach [] X.env := by rfl) :
    PE X (.Call (.Name "list" p) [.Call (.Name "range" p2) (e1 :: es) [] pos2] [] pos) (tLrg ta) := by
  refine ⟨fun pins s σ H Q I h => ?_⟩
  refine Call_ (ld_blt I hgl hml boot_list (PyProof.Rows.callWith_type1 (args_cons (thn (rg_eval hg hm ha hs hpl pins s σ H _ I h) fun x s1 ⟨r, a, b, c, t, u, v, H1, ex, hr, I1, n, ok, b5, q⟩ => args_nil ?_) na) na))
  subst ex
  refine call_list_range (n := n) (I1.ok.hd hc) hr ok.2.2.1 ok.2.2.2 b5 fun h' tk acc c' hk e' hi => ?_
  refine ⟨.ref s1.heap.objs.size, upd H1 s1.heap.objs.size (.lst (rgcV a c n)), I1.laid hk (Nat.le_refl _) (show ObjOk X.prog X.w _ _ _ (.lst (rgcV a c n)) from ⟨?_, acc.toList, c', vals_rgc hi, ?_⟩), rfl, q _ (I1.hok.fresh (Nat.le_refl _))⟩
  · rw [rgcV_len, sizeLine_eq]; omega
  · rw [Array.toArray_toList]; exact e'
end
end Wp

/-! WpE1: a caught exception that stands in the heap: try .. except X as n, isinstance of it, its fields. -/
namespace L2
open PySem PySem.Spec PyProof.Rows
/-- a caught exception: its class, its dict -/
def ExH (cls : Value) (d : Option Addr) (a : Addr) : HO := .ext fun h => ∃ (oe : Obj) (vs : Array Value), h.get? a = some oe ∧ Zc cls d oe ∧ oe.data = .fields vs
theorem exH_ok {P : Program} {w : World} {H : Hp} {h : Heap} {a : Addr} {cls : Value} {d : Option Addr} {oe : Obj} {vs : Array Value} (e : h.get? a = some oe) (z : Zc cls d oe) (dd : oe.data = .fields vs) : ObjOk P w H h a (ExH cls d a) :=
  ⟨⟨oe, vs, e, z, dd⟩, ⟨oe, e⟩, fun _ _ ⟨o, v, q, r⟩ k => ⟨o, v, k o q, r⟩⟩
theorem exH_at {P : Program} {w : World} {H : Hp} {h : Heap} {a : Addr} {cls : Value} {d : Option Addr} (hok : HOk P w H h) (e : H a = some (ExH cls d a)) : ∃ (oe : Obj) (vs : Array Value), h.get? a = some oe ∧ Zc cls d oe ∧ oe.data = .fields vs := by
  have x : ObjOk P w H h a (.ext fun h => ∃ (oe : Obj) (vs : Array Value), h.get? a = some oe ∧ Zc cls d oe ∧ oe.data = .fields vs) := hok a _ e
  exact x.1
section
variable {X : Cx} {pins : List (Addr × Obj)} {σ : St} {H : Hp} {s : Shared}
/-- an object that came since the entry is told of from here on -/
theorem Inv.track {a : Addr} {o : HO} {oe : Obj} {vs : Array Value} (I : Inv X pins σ H s) (hn : H a = none) (n0 : X.s_0.heap.get? a = none) (he : s.heap.get? a = some oe) (hd : oe.data = .fields vs) (nL : a ≠ X.env.locals) (np : ∀ p ∈ X.pn ++ pins, p.1 ≠ a) (new : ObjOk X.prog X.w (upd H a o) s.heap a o) : Inv X pins σ (upd H a o) s := by
  have ne0 : ∀ b u, X.s_0.heap.get? b = some u → b ≠ a := fun b u e z => by
    rw [z, n0] at e
    cases e
  have nc : ∀ x c, X.env.cells.lookup x = some c → c ≠ a := fun x c e z => by
    obtain ⟨v, u, h1, h2⟩ := I.cell x c e
    rw [z, he] at h1
    cases h1
    rw [hd] at h2
    cases h2
  refine ⟨I.ok, I.os, I.bare, ⟨I.base.keep, I.base.slot, fun b u e n hx => ?_, I.base.there, fun b xs e => ?_, fun b u w e => ?_, fun b ps e => ?_⟩, I.loc, I.cell, ?_, fun x c e => ?_, fun p hp => ?_, fun b u e => ?_, I.len⟩
  · rw [upd_ne (ne0 b u e)]
    exact I.base.free b u e n hx
  · have q := I.base.tups b xs e
    rw [upd_ne (ne_of_none q hn)]
    exact q
  · have q := I.base.frzs b u w e
    rw [upd_ne (ne_of_none q hn)]
    exact q
  · obtain ⟨m, q⟩ := I.base.tbls b ps e
    exact ⟨m, by rw [upd_ne (ne_of_none q hn)]; exact q⟩
  · rw [upd_ne (Ne.symm nL)]
    exact I.free
  · rw [upd_ne (nc x c e)]
    exact I.freeC x c e
  · obtain ⟨e, n, ne, nf, d⟩ := I.pin p hp
    exact ⟨e, by rw [upd_ne (np p hp)]; exact n, ne, nf, d⟩
  · by_cases hb : b = a
    · subst hb
      rw [upd_same] at e
      cases e
      exact new
    · rw [upd_ne hb] at e
      exact (I.hok b u e).stay (fun c v _ q => q) (fun c q => by rw [upd_ne (ne_of_none q hn)]; exact q) fun c xs q => by rw [upd_ne (ne_of_none q hn)]; exact q
theorem Inv.suite0 (I : Inv X pins σ H s) (a : Addr) : Inv (X.suite a (X.pn ++ pins)) [] σ H s :=
  ⟨I.ok.suite _ _, I.os, I.bare, I.base, I.loc, I.cell, I.free, I.freeC, fun p hp => I.pin p (by rw [List.append_nil] at hp; exact hp), I.hok, I.len⟩
theorem Inv.unsuite0 {a : Addr} {pn' : List (Addr × Obj)} (I : Inv (X.suite a (X.pn ++ pins)) pn' σ H s) (ok : X.Ok) : Inv X pins σ H s :=
  ⟨ok, I.os, I.bare, I.base, I.loc, I.cell, I.free, I.freeC, fun p hp => I.pin p (List.mem_append_left _ hp), I.hok, I.len⟩
end
/-- what the clause 'except x as n' wishes of an exception of the body: it stands in the heap from here on -/
def wOwn (K : PySem.W.Frag) (c : Value) (i : Nat) (ts : TS) (Wout : WX) (D : Ends) : WX := fun cls d σ H =>
  ∃ b, PySem.W.exmOne K cls c = some b ∧ (b = true → ∀ a, H a = none → ts { nx := fun σ' H' => D.nx (σ'.set i none) H', rt := D.rt, bk := fun σ' H' => D.bk (σ'.set i none) H', ct := fun σ' H' => D.ct (σ'.set i none) H' } (σ.set i (some (.ref a))) (upd H a (ExH cls d a))) ∧
    (b = false → Wout cls d σ H)
section
variable {X : Cx} {x n : Str} {c : Value} {i : Nat} {body suite : List Stmt} {b₀ : Stmt} {np pos pos' : Pos} {tb : WX → TS} {ts : TS} {Wout : WX}
theorem ps_try_own (hex : X.ex = []) (hs : X.stack = X.env :: X.outer) (hf : X.env.frame = some X.env.locals) (hN : X.N.Nodup) (hi : X.N[i]? = some n) (hln : X.env.kindOf n = some .local) (hc : Names X x c) (tk : Takes X Wout)
    (hb : ∀ (W : WX) (pn : List (Addr × Obj)) (xe : Value → Shared → Prop), Takes (X.tr pn xe) W → PassesOwn (model X.prog X.w) X.A X.env xe → PSs (X.tr pn xe) body (tb W))
    (hsu : ∀ (a : Addr) (pn : List (Addr × Obj)), PSs (X.suite a pn) (b₀ :: suite) ts) :
    PS X (.Try body [.ExceptHandler (some (.Name x np)) (some n) (b₀ :: suite) pos'] [] [] pos) (fun D σ H => tb (wOwn X.K c i ts Wout D) D σ H) := by
  refine ⟨fun pins s σ H D I h => ?_⟩
  have ok := I.ok
  have hfr : X.A.frames = some (X.env :: X.outer) := by rw [ok.frames, hs]
  have hloc : Loc X.env.scope n := .inl hln
  refine wpAny_Try_except ?_
  refine wpAny_mono ((hb (wOwn X.K c i ts Wout D) (X.pn ++ pins) (fun e s₁ => wpAny (model X.prog X.w) X.A (noteFrame e X.env) (fun _ s₂ => wpAny (model X.prog X.w) X.A (setFlight e none) (fun _ s₃ =>
    wpAny (model X.prog X.w) X.A (handleBy e X.env [.ExceptHandler (some (.Name x np)) (some n) (b₀ :: suite) pos']) (SP X pins D) X.xe s₃) X.xe s₂) X.xe s₁) (fun u s' xx => ?_) PassesOwn.looking).run [] s σ H D (I.toTry _) h) (fun f s1 hsp => ?_) (fun e s1 he => he)
  · obtain ⟨a, B, sI, pins', σ', H', cls, d, rfl, J', nb, up, sky, na, os, ag, b, hb1, hyes, hno⟩ := xx
    have J : Inv X pins σ' H' sI := J'.ofTry ok
    have sky' : Sky B (X.env :: X.outer) a (Zc cls d) X.env.locals s'.heap := by rw [← hs]; exact sky
    show wpAny (model X.prog X.w) X.A (noteFrame (.ref a) X.env) _ _ _
    refine Sky.land Zc.steady hfr hf sky' fun h3 fl3 up3 => ?_
    have J3 : Inv X pins σ' H' { s' with heap := h3 } := J.landed nb fl3.1 (up.trans up3) os ag
    obtain ⟨oe3, vs3, he3, hz3, hd3⟩ := fl3.there
    have nfr : a ∉ frs (X.env :: X.outer) := fun hm => by
      obtain ⟨_, o', e', hnf⟩ := fl3.2.2.1.mem hm
      rw [he3] at e'; cases e'
      exact hnf _ hd3
    have nL : a ≠ X.env.locals := fun z => nfr (List.mem_filterMap.mpr ⟨X.env, List.mem_cons_self, by rw [hf, z]⟩)
    have nI : sI.heap.get? a = none := by
      cases q : sI.heap.get? a with
      | none => rfl
      | some o =>
        have z := nb a o q (by rw [hs]; exact nfr)
        rw [fl3.2.1] at z
        cases z
    have n0 : X.s_0.heap.get? a = none := by
      cases q : X.s_0.heap.get? a with
      | none => rfl
      | some o =>
        obtain ⟨o', z⟩ := J.base.there a o q (by rw [hex]; exact fun z => nomatch z)
        rw [nI] at z
        cases z
    have npn : ∀ p ∈ X.pn ++ pins, p.1 ≠ a := fun p hp z => by
      have q := (J.pin p hp).1
      rw [z, nI] at q
      cases q
    have S3 := J3.suite0 a
    refine wpAny_handleBy_cons (codeAny_handlers_test ?_) (by intro q; cases q)
    have LT : PySem.W.Looks (model X.prog X.w) h3 (typeOf (.ref a)) cls := fun A Q E s k q => wpAny_typeOf_ref (k _ _ he3) (by rw [hz3.1]; exact q)
    have LM := PySem.W.exm_one (M := model X.prog X.w) (J3.kIn) LT hb1
    have test : ∀ {Q : Value → Shared → Prop} {E : Value → Shared → Prop}, Q c { s' with heap := h3 } → wpAny (model X.prog X.w) (X.A.mark (some (.ref a))) (eval (.Name x np) X.env) Q E { s' with heap := h3 } := fun {Q E} q => by
      obtain ⟨hg, hdbg, hm | ⟨hm, hv, hnn⟩⟩ := hc
      · exact ld_glob (X := X.suite a (X.pn ++ pins)) S3 hg hm q hdbg
      · exact ld_blt (X := X.suite a (X.pn ++ pins)) S3 hg hm hv q hnn hdbg
    refine test (LM.here ?_)
    cases b with
    | true =>
      refine codeAny_handlers_suite_as ?_
      refine HandSPX.lands_againZ fl3 fun h4 fl4 up4 => ?_
      have J4 : Inv X pins σ' H' { s' with heap := h4 } := J.landed nb fl4.1 ((up.trans up3).trans up4) os ag
      obtain ⟨oe4, vs4, he4, hz4, hd4⟩ := fl4.there
      have J5 : Inv X pins σ' (upd H' a (ExH cls d a)) { s' with heap := h4 } := J4.track na n0 he4 hd4 nL npn (exH_ok he4 hz4 hd4)
      have S5 := J5.suite0 a
      refine store_ok (X := X.suite a (X.pn ++ pins)) (v := .ref a) S5 hN hi hloc rfl (fun s5 S5 => ?_) (.inr hln)
      refine wpAny_mono ((hsu a (X.pn ++ pins)).run [] s5 _ _ _ S5 (hyes rfl a na)) (fun f s6 hsp => ?_) (fun _ _ z => False.elim z)
      have end_ : ∀ {σ6 : St} {H6 : Hp} {Q : Shared → Prop}, Inv (X.suite a (X.pn ++ pins)) [] σ6 H6 s6 → (∀ s7, Inv X pins (σ6.set i none) H6 s7 → Q s7) →
          wpAny (model X.prog X.w) X.A (do bindName X.env n .none; unbindBehindTheSuite X.env n pos') (fun _ s7 => Q s7) X.xe s6 := fun {σ6 H6 Q} S6 hq => gone_ok (S6.unsuite0 ok) hN hi hln hq
      cases f with
      | next =>
        obtain ⟨σ6, H6, S6, q6⟩ := hsp
        exact end_ S6 fun s7 J7 => ⟨_, _, J7, q6⟩
      | brk =>
        obtain ⟨σ6, H6, S6, q6⟩ := hsp
        exact end_ S6 fun s7 J7 => ⟨_, _, J7, q6⟩
      | cont =>
        obtain ⟨σ6, H6, S6, q6⟩ := hsp
        exact end_ S6 fun s7 J7 => ⟨_, _, J7, q6⟩
      | ret u =>
        obtain ⟨v6, σ6, H6, S6, r6, q6⟩ := hsp
        exact end_ S6 fun s7 J7 => ⟨_, _, _, J7, r6, q6⟩
    | false =>
      show wpAny _ X.A (handleBy (.ref a) X.env []) _ _ _
      refine wpAny_handleBy_nil ?_
      obtain ⟨k1, k2, k3, oe, vs, T, oT, ts', he, hz, hd, h1, hr⟩ := id fl3
      unfold PySem.passOn
      refine wpAny_bind (wpAny_field he hd h1 ?_)
      rw [if_neg (show ¬ ((Value.ref T == Value.none) = true) from by simp)]
      have fin : wpAny (model X.prog X.w) X.A (setFlight (.ref a) X.env.frame) (fun _ s4 => wpAny (model X.prog X.w) X.A (throw (.ref a) : Sem Flow) (SP X pins D) X.xe s4) X.xe { s' with heap := h3 } := by
        rw [hf]
        refine HandSPX.setFlight_upZ fl3 fun h4 hh4 up4 => wpAny_throw (tk _ _ ?_)
        exact ⟨a, B, sI, pins, σ', H', cls, d, rfl, J, nb, (up.trans up3).trans up4, .inr (.inr (by rw [hs]; exact hh4)), na, os, ag, hno rfl⟩
      first
        | exact wpAny_bind (wpAny_pure (wpAny_bind fin))
        | exact wpAny_bind fin
  · cases f with
    | next =>
      obtain ⟨σ', H', J', q⟩ := hsp
      exact wpAny_execs_nil ⟨σ', H', J'.ofTry ok, q⟩
    | brk =>
      obtain ⟨σ', H', J', q⟩ := hsp
      exact ⟨σ', H', J'.ofTry ok, q⟩
    | cont =>
      obtain ⟨σ', H', J', q⟩ := hsp
      exact ⟨σ', H', J'.ofTry ok, q⟩
    | ret u =>
      obtain ⟨v, σ', H', J', r, q⟩ := hsp
      exact ⟨v, σ', H', J'.ofTry ok, r, q⟩
end
/-! ### isinstance, a field -/
/-- what the class C must say for its caught instances to be asked and read -/
structure XcC (K : PySem.W.Frag) (C : Addr) : Prop where
  cl : (PySem.W.clsIn K C).isSome = true
  ga : PySem.W.findIn K (.ref C) "__getattribute__" = some (some (.builtin "BaseException.__getattribute__"))
  gt : PySem.W.findIn K (.ref C) "__getattr__" = some none
  sb : PySem.W.subIn K (.ref C) (.type "BaseException") = some true
  ca : PySem.W.findIn K (.ref C) "__class__" = some (some (.builtin "object.__class__"))
  cg : PySem.W.specialIn K (.builtin "object.__class__") "__get__" = some (some (.builtin "getset_descriptor.__get__"))
  ct : PySem.W.takesIn K (.builtin "object.__class__") = some true
  mo : PySem.W.mroIn K C (.type "object") = some true
  hd : PySem.W.hasDictIn K C = true
def xcB (K : PySem.W.Frag) (C : Addr) : Bool :=
  (PySem.W.clsIn K C).isSome && (decide (PySem.W.findIn K (.ref C) "__getattribute__" = some (some (.builtin "BaseException.__getattribute__"))) && (decide (PySem.W.findIn K (.ref C) "__getattr__" = some none) &&
  (decide (PySem.W.subIn K (.ref C) (.type "BaseException") = some true) && (decide (PySem.W.findIn K (.ref C) "__class__" = some (some (.builtin "object.__class__"))) && (decide (PySem.W.specialIn K (.builtin "object.__class__") "__get__" = some (some (.builtin "getset_descriptor.__get__"))) &&
  (decide (PySem.W.takesIn K (.builtin "object.__class__") = some true) && (decide (PySem.W.mroIn K C (.type "object") = some true) && PySem.W.hasDictIn K C)))))))
theorem xcB_ok {K : PySem.W.Frag} {C : Addr} (h : xcB K C = true) : XcC K C := by
  obtain ⟨h1, h⟩ := Bool.and_eq_true_iff.mp h
  obtain ⟨h2, h⟩ := Bool.and_eq_true_iff.mp h
  obtain ⟨h3, h⟩ := Bool.and_eq_true_iff.mp h
  obtain ⟨h4, h⟩ := Bool.and_eq_true_iff.mp h
  obtain ⟨h5, h⟩ := Bool.and_eq_true_iff.mp h
  obtain ⟨h6, h⟩ := Bool.and_eq_true_iff.mp h
  obtain ⟨h7, h⟩ := Bool.and_eq_true_iff.mp h
  obtain ⟨h8, h9⟩ := Bool.and_eq_true_iff.mp h
  exact ⟨h1, of_decide_eq_true h2, of_decide_eq_true h3, of_decide_eq_true h4, of_decide_eq_true h5, of_decide_eq_true h6, of_decide_eq_true h7, of_decide_eq_true h8, h9⟩
/-- the exception at a, of class C; its dict, if it has one, is told of -/
def XAt (H : Hp) (a C : Addr) : Prop := ∃ d, H a = some (ExH (.ref C) d a) ∧ (d = none ∨ ∃ dd fs, d = some dd ∧ H dd = some (.xd fs))
theorem xat_inst {X : Cx} {pins : List (Addr × Obj)} {σ : St} {H : Hp} {s : Shared} {a C : Addr} (I : Inv X pins σ H s) (h : XAt H a C) : ∃ ox od, PySem.W.InstAt s.heap a ox C od := by
  obtain ⟨d, ea, hd⟩ := h
  obtain ⟨oe, vs, he, hz, hv⟩ := exH_at I.hok ea
  rcases hd with rfl | ⟨dd, fs, rfl, ed⟩
  · exact ⟨oe, none, he, hz.1, by unfold PySem.W.notCls; rw [hv] <;> rfl, by rw [hz.2]; trivial⟩
  · have hx : ObjOk X.prog X.w H s.heap dd (.xd fs) := I.hok dd _ ed
    obtain ⟨mA, hns, hr⟩ := hx
    obtain ⟨od, ho, hl⟩ := lookIn_ns hns
    exact ⟨oe, some od, he, hz.1, by unfold PySem.W.notCls; rw [hv] <;> rfl, by rw [hz.2]; exact ho⟩
def rIsX (K : PySem.W.Frag) : List V → Hp → VK → Prop := fun xs H Q => ∃ (a C : Addr) (c : V) (u : Value) (b : Bool), xs = [.ref a, c] ∧ XAt H a C ∧ XcC K C ∧ ClsV c u ∧ PySem.W.kitOne K (.ref C) u = some b ∧ Q (.bl b) H
theorem call_isX {X : Cx} : CallR X (.builtin "isinstance") (rIsX X.K) := by
  intro pins s σ H xs us Q I r h
  obtain ⟨a, C, c, u, b, rfl, hx, T, k, e, q⟩ := h
  cases r with
  | cons rx rr =>
    cases rr with
    | cons rt rr =>
      cases rr
      cases rx
      have e2 := k.eq rt
      subst e2
      obtain ⟨ox, od, J⟩ := xat_inst I hx
      exact PySem.W.kia_one (PySem.W.kitx_exc T.cl T.ga T.gt T.sb T.ca T.cg T.ct T.mo) I.kIn J e (fun z => nomatch z) fun tk => ⟨.bl b, H, I.tok tk, rfl, q⟩
def rIsXT (K : PySem.W.Frag) : List V → Hp → VK → Prop := fun xs H Q => ∃ (a C tp : Addr) (cs : List V) (us : List Value) (b : Bool), xs = [.ref a, .ref tp] ∧ H tp = some (.tup cs) ∧ Paired ClsV cs us ∧ XAt H a C ∧ XcC K C ∧ PySem.W.kitAny K (.ref C) us = some b ∧ Q (.bl b) H
theorem call_isXT {X : Cx} : CallR X (.builtin "isinstance") (rIsXT X.K) := by
  intro pins s σ H xs ws Q I r h
  obtain ⟨a, C, tp, cs, us, b, rfl, hT, k, hx, T, e, q⟩ := h
  obtain ⟨u1, u2, rfl, r1, r2⟩ := vals2 r
  cases (show u2 = Value.ref tp from r2)
  cases (show u1 = Value.ref a from r1)
  obtain ⟨ox, od, J⟩ := xat_inst I hx
  obtain ⟨_, its, rv, o, h1, h2, n, h3⟩ := (show ObjOk X.prog X.w H s.heap tp (.tup cs) from I.hok tp _ hT)
  have e3 := ClsV.all k rv
  subst e3
  obtain ⟨oc, od', dt, sl⟩ := o
  simp only at h2 h3
  subst h2 h3
  exact PySem.W.kia_tup (PySem.W.kitx_exc T.cl T.ga T.gt T.sb T.ca T.cg T.ct T.mo) I.kIn J h1 e (fun z => nomatch z) fun tk => ⟨.bl b, H, I.tok tk, rfl, q⟩
/-- e.f, e a caught exception -/
def tAtr (K : PySem.W.Frag) (f : Str) (te : TE) : TE := fun σ H Q => te σ H fun x H1 => ∃ (a C dd : Addr) (fs : List (Str × V)) (v : V), x = .ref a ∧ H1 a = some (ExH (.ref C) (some dd) a) ∧ H1 dd = some (.xd fs) ∧ XcC K C ∧ PySem.W.findIn K (.ref C) f = some none ∧ fs.lookup f = some v ∧ Q v H1
theorem pe_atr {X : Cx} {e : Expr} {te : TE} {pos : Pos} {n : Str} (he : PE X e te) (hb : attributeBase e n X.env (eval e X.env) = eval e X.env := by rfl) : PE X (.Attribute e n pos) (tAtr X.K n te) := by
  refine ⟨fun pins s σ H Q I h => ?_⟩
  refine attr_of hb (thn (he.run pins s σ H _ I h) fun u s1 hh => ?_)
  obtain ⟨x, H1, I1, rx, a, C, dd, fs, v, ex, ea, ed, T, hno, l, q⟩ := hh
  subst ex
  obtain rfl : u = Value.ref a := rx
  obtain ⟨oe, vs, he, hz, hv⟩ := exH_at I1.hok ea
  have hx : ObjOk X.prog X.w H1 s1.heap dd (.xd fs) := I1.hok dd _ ed
  obtain ⟨mA, hns, hr⟩ := hx
  obtain ⟨od, ho, hl⟩ := lookIn_ns hns
  obtain ⟨u, hu, ru⟩ := RelO.some_of (v := v) (o := mA n) (by rw [← l]; exact hr n)
  have J : PySem.W.InstAt s1.heap a oe C (some od) := ⟨he, hz.1, by unfold PySem.W.notCls; rw [hv] <;> rfl, by rw [hz.2]; exact ho⟩
  exact HandSPX.exc_get I1.kIn J T.ga T.gt T.sb (PySem.W.findObj_own T.hd hno rfl (by rw [hl, hu])) (handed_of ru) ⟨v, H1, I1.tok _, ru, q⟩
end L2

/-! WpS1: how trees and memory stand in the layer's abstract heap; the operators' rules. -/
namespace Wp
open PySem PySem.Spec PyProof.Rows L2

/-- the written part, where the classes stand, and what is there but not told of -/
structure Gx where
  K : PySem.W.Frag
  cl : Nat → Option Addr
  co : Nat → Option Addr
  P : Hp

mutual
inductive RelD (G : Gx) (F : Hp) : V → D → Prop
  | non : RelD G F .non .non
  | bl (b : Bool) : RelD G F (.bl b) (.bl b)
  | int (i : Int) : RelD G F (.int i) (.int i)
  | str (x : Str) : RelD G F (.str x) (.str x)
  | tup {a : Addr} {vs : List V} {ds : List D} : SqT G.K F a vs → RelDs G F vs ds → RelD G F (.ref a) (.tup ds)
  | lst {a : Addr} {vs : List V} {ds : List D} : F a = some (.lst vs) → RelDs G F vs ds → RelD G F (.ref a) (.lst ds)
  | scr {a : Addr} {ns : List Int} : SqL G.K F a (ns.map V.int) → RelD G F (.ref a) (.scr ns)
  | emp {a : Addr} : F a = some (.dK []) → RelD G F (.ref a) .emp
  | loc {a : Addr} : RelD G F (.ref a) (.loc a)
inductive RelDs (G : Gx) (F : Hp) : List V → List D → Prop
  | nil : RelDs G F [] []
  | cons {v : V} {vs : List V} {d : D} {ds : List D} : RelD G F v d → RelDs G F vs ds → RelDs G F (v :: vs) (d :: ds)
end

theorem same_t {K : PySem.W.Frag} {H H' : Hp} {a : Addr} {xs : List V} (e : Same H H') (h : SqT K H a xs) : SqT K H' a xs := by
  rcases h with (h | ⟨o, h⟩) | h
  · exact .inl (.inl (e _ _ h))
  · exact .inl (.inr ⟨o, e _ _ h⟩)
  · exact .inr h
section
variable {G : Gx} {F F' H : Hp}
mutual
theorem RelD.mono (s : Same F F') : ∀ {v : V} {d : D}, RelD G F v d → RelD G F' v d
  | _, _, .non => .non
  | _, _, .bl b => .bl b
  | _, _, .int i => .int i
  | _, _, .str x => .str x
  | _, _, .tup h r => .tup (same_t s h) (RelDs.mono s r)
  | _, _, .lst h r => .lst (s _ _ h) (RelDs.mono s r)
  | _, _, .scr h => .scr (s.seq h)
  | _, _, .emp h => .emp (s _ _ h)
  | _, _, .loc => .loc
theorem RelDs.mono (s : Same F F') : ∀ {vs : List V} {ds : List D}, RelDs G F vs ds → RelDs G F' vs ds
  | _, _, .nil => .nil
  | _, _, .cons r t => .cons (RelD.mono s r) (RelDs.mono s t)
end
theorem RelDs.len : ∀ {vs : List V} {ds : List D}, RelDs G F vs ds → vs.length = ds.length
  | _, _, .nil => rfl
  | _, _, .cons _ t => congrArg Nat.succ (RelDs.len t)
theorem RelDs.app : ∀ {vs ws : List V} {ds es : List D}, RelDs G F vs ds → RelDs G F ws es → RelDs G F (vs ++ ws) (ds ++ es)
  | _, _, _, _, .nil, s => s
  | _, _, _, _, .cons r t, s => .cons r (RelDs.app t s)
theorem RelDs.take : ∀ {vs : List V} {ds : List D} (n : Nat), RelDs G F vs ds → RelDs G F (vs.take n) (ds.take n)
  | _, _, 0, _ => .nil
  | _, _, _ + 1, .nil => .nil
  | _, _, n + 1, .cons r t => .cons r (RelDs.take n t)
theorem RelDs.drop : ∀ {vs : List V} {ds : List D} (n : Nat), RelDs G F vs ds → RelDs G F (vs.drop n) (ds.drop n)
  | _, _, 0, r => r
  | _, _, _ + 1, .nil => .nil
  | _, _, n + 1, .cons r t => RelDs.drop n t
theorem RelDs.get : ∀ {vs : List V} {ds : List D} {i : Nat} {d : D}, RelDs G F vs ds → ds[i]? = some d → ∃ v, vs[i]? = some v ∧ RelD G F v d
  | _, _, _, _, .nil, e => by simp at e
  | _, _, 0, _, .cons r _, e => by simp at e; subst e; exact ⟨_, rfl, r⟩
  | _, _, i + 1, d, .cons _ t, e => by
    obtain ⟨u, h1, h2⟩ := RelDs.get (i := i) (d := d) t (by simpa using e)
    exact ⟨u, by simpa using h1, h2⟩
theorem RelDs.getV : ∀ {vs : List V} {ds : List D} {i : Nat} {v : V}, RelDs G F vs ds → vs[i]? = some v → ∃ d, ds[i]? = some d ∧ RelD G F v d
  | _, _, _, _, .nil, e => by simp at e
  | _, _, 0, _, .cons r _, e => by simp at e; subst e; exact ⟨_, rfl, r⟩
  | _, _, i + 1, d, .cons _ t, e => by
    obtain ⟨u, h1, h2⟩ := RelDs.getV (i := i) (v := d) t (by simpa using e)
    exact ⟨u, by simpa using h1, h2⟩
theorem RelDs.set : ∀ {vs : List V} {ds : List D} {v : V} {d : D} (i : Nat), RelDs G F vs ds → RelD G F v d → RelDs G F (vs.set i v) (ds.set i d)
  | _, _, _, _, _, .nil, _ => .nil
  | _, _, _, _, 0, .cons _ t, q => .cons q t
  | _, _, _, _, i + 1, .cons r t, q => .cons r (RelDs.set i t q)
theorem RelDs.rev {vs : List V} {ds : List D} (h : RelDs G F vs ds) : RelDs G F vs.reverse ds.reverse := by
  have go : ∀ {vs : List V} {ds : List D} {ws : List V} {es : List D}, RelDs G F vs ds → RelDs G F ws es → RelDs G F (vs.reverseAux ws) (ds.reverseAux es) := by
    intro vs
    induction vs with
    | nil => intro ds ws es h q; cases h; exact q
    | cons v vs ih =>
      intro ds ws es h q
      cases h with
      | cons r t =>
        have z := ih t (.cons r q)
        exact z
  exact go h .nil
theorem RelDs.rep {vs : List V} {ds : List D} (h : RelDs G F vs ds) : ∀ n : Nat, RelDs G F (List.replicate n vs).flatten (List.replicate n ds).flatten
  | 0 => .nil
  | n + 1 => by
    rw [List.replicate_succ, List.replicate_succ, List.flatten_cons, List.flatten_cons]
    exact h.app (RelDs.rep h n)
theorem RelDs.ints : ∀ (ns : List Int), RelDs G F (ns.map V.int) (ns.map D.int)
  | [] => .nil
  | n :: ns => .cons (.int n) (RelDs.ints ns)
theorem RelDs.strs : ∀ (cs : List Nat), RelDs G F (cs.map fun c => V.str ⟨#[c]⟩) (cs.map fun c => D.str ⟨#[c]⟩)
  | [] => .nil
  | n :: ns => .cons (.str _) (RelDs.strs ns)

/-- what is not told of plays no part -/
abbrev Gx.hide (G : Gx) (P : Hp) : Gx := { G with P := P }
mutual
theorem RelD.hide (P : Hp) : ∀ {v : V} {d : D}, RelD G F v d → RelD (G.hide P) F v d
  | _, _, .non => .non
  | _, _, .bl b => .bl b
  | _, _, .int i => .int i
  | _, _, .str x => .str x
  | _, _, .tup h r => .tup h (RelDs.hide P r)
  | _, _, .lst h r => .lst h (RelDs.hide P r)
  | _, _, .scr h => .scr h
  | _, _, .emp h => .emp h
  | _, _, .loc => .loc
theorem RelDs.hide (P : Hp) : ∀ {vs : List V} {ds : List D}, RelDs G F vs ds → RelDs (G.hide P) F vs ds
  | _, _, .nil => .nil
  | _, _, .cons r t => .cons (RelD.hide P r) (RelDs.hide P t)
end
theorem RelD.unhide {P : Hp} {v : V} {d : D} (h : RelD (G.hide P) F v d) : RelD G F v d := h.hide (G := G.hide P) G.P
theorem RelDs.unhide {P : Hp} {vs : List V} {ds : List D} (h : RelDs (G.hide P) F vs ds) : RelDs G F vs ds := h.hide (G := G.hide P) G.P
/-- a dict's pairs -/
inductive KVR (G : Gx) (F : Hp) : List (Key × V) → List (Sum Int Str × D) → Prop
  | nil : KVR G F [] []
  | cons {k : Sum Int Str} {v : V} {d : D} {r : List (Key × V)} {s : List (Sum Int Str × D)} : RelD G F v d → KVR G F r s → KVR G F ((k, v) :: r) ((k, d) :: s)
theorem KVR.mono (s : Same F F') {r : List (Key × V)} {t : List (Sum Int Str × D)} (h : KVR G F r t) : KVR G F' r t := by
  induction h with
  | nil => exact .nil
  | cons h _ ih => exact .cons (h.mono s) ih
theorem KVR.look {k : Sum Int Str} {d : D} {r : List (Key × V)} {t : List (Sum Int Str × D)} (h : KVR G F r t) (e : lookD t k = some d) : ∃ v, valV r k = some v ∧ RelD G F v d := by
  induction h with
  | nil => cases e
  | @cons k' v d' r s h _ ih =>
    by_cases q : k' = k
    · refine ⟨v, valV_pos q, ?_⟩
      have e2 : lookD ((k', d') :: s) k = some d' := by
        show (((k', d') :: s).find? fun kv => decide (kv.1 = k)).map (·.2) = some d'
        rw [List.find?_cons_of_pos (by exact decide_eq_true q)]; rfl
      rw [e2] at e
      cases e
      exact h
    · have e2 : lookD ((k', d') :: s) k = lookD s k := by
        show (((k', d') :: s).find? fun kv => decide (kv.1 = k)).map (·.2) = _
        rw [List.find?_cons_of_neg (by intro z; exact q (of_decide_eq_true z))]; rfl
      rw [e2] at e
      rw [valV_neg q]
      exact ih e
theorem KVR.anyK {k : Sum Int Str} {r : List (Key × V)} {t : List (Sum Int Str × D)} (h : KVR G F r t) : (r.any fun kv => decide (kv.1 = k)) = (t.any fun kv => decide (kv.1 = k)) := by
  induction h with
  | nil => rfl
  | cons _ _ ih => rw [List.any_cons, List.any_cons, ih]
theorem KVR.putM {k : Sum Int Str} {v : V} {d : D} {r : List (Key × V)} {t : List (Sum Int Str × D)} (h : KVR G F r t) (hd : RelD G F v d) : KVR G F (r.map fun kv => if kv.1 = k then (kv.1, v) else kv) (t.map fun kv => if kv.1 = k then (kv.1, d) else kv) := by
  induction h with
  | nil => exact .nil
  | @cons k' _ _ _ _ h _ ih =>
    rw [List.map_cons, List.map_cons]
    by_cases q : k' = k
    · rw [if_pos q, if_pos q]; exact .cons hd ih
    · rw [if_neg q, if_neg q]; exact .cons h ih
theorem KVR.snoc {k : Sum Int Str} {v : V} {d : D} {r : List (Key × V)} {t : List (Sum Int Str × D)} (h : KVR G F r t) (hd : RelD G F v d) : KVR G F (r ++ [(k, v)]) (t ++ [(k, d)]) := by
  induction h with
  | nil => exact .cons hd .nil
  | cons h _ ih => exact .cons h ih
theorem KVR.put {k : Sum Int Str} {v : V} {d : D} {r : List (Key × V)} {t : List (Sum Int Str × D)} (h : KVR G F r t) (hd : RelD G F v d) : KVR G F (putK r k v) (putD t k d) := by
  unfold putK putD
  rw [h.anyK (k := k)]
  by_cases q : (t.any fun kv => decide (kv.1 = k)) = true
  · rw [if_pos q, if_pos q]; exact h.putM hd
  · rw [if_neg q, if_neg q]; exact h.snoc hd
theorem KVR.merge : ∀ {ks : List (Sum Int Str)} {vs : List V} {ds : List D} {r : List (Key × V)} {t : List (Sum Int Str × D)}, KVR G F r t → RelDs G F vs ds → KVR G F (mergeK r (ks.zip vs)) (mergeD t (ks.zip ds))
  | [], vs, ds, r, t, h, _ => by cases vs <;> cases ds <;> exact h
  | k :: ks, _, _, r, t, h, .nil => h
  | k :: ks, _, _, r, t, h, .cons h1 h2 => KVR.merge (ks := ks) (h.put (k := k) h1) h2
theorem KVR.len {r : List (Key × V)} {t : List (Sum Int Str × D)} (h : KVR G F r t) : r.length = t.length := by
  induction h with
  | nil => rfl
  | cons _ _ ih => rw [List.length_cons, List.length_cons, ih]
theorem KVR.hide {G : Gx} {F : Hp} (P : Hp) {r : List (Key × V)} {t : List (Sum Int Str × D)} (h : KVR G F r t) : KVR (G.hide P) F r t := by
  induction h with
  | nil => exact .nil
  | cons h _ ih => exact .cons (h.hide P) ih
theorem KVR.unhide {G : Gx} {F : Hp} {P : Hp} {r : List (Key × V)} {t : List (Sum Int Str × D)} (h : KVR (G.hide P) F r t) : KVR G F r t := h.hide (G := G.hide P) G.P
/-- what stands at a place -/
def RelOb (G : Gx) (F H : Hp) (a : Addr) : Ob → Prop
  | .lst ds => ∃ vs, H a = some (.lst vs) ∧ RelDs G F vs ds
  | .dic kvs => ∃ vks, H a = some (.dK vks) ∧ KVR G F vks kvs
  | .ins c fs => ∃ C dd, G.cl c = some C ∧ H a = some (L2.ExH (.ref C) dd a) ∧ (fs = [] ∧ dd = none ∨ ∃ d fvs, dd = some d ∧ F d = some (.xd fvs) ∧ Paired (fun (p : Str × V) (q : Str × D) => p.1 = q.1 ∧ RelD G F p.2 q.2) fvs fs)
  | .obj c fs => ∃ C dx fvs, G.co c = some C ∧ H a = some (.ins C dx fvs) ∧ Paired (fun (p : Str × V) (q : Str × D) => p.1 = q.1 ∧ RelD G F p.2 q.2) fvs fs
theorem fvs_mono {G : Gx} {F F' : Hp} (s : Same F F') {fvs : List (Str × V)} {fs : List (Str × D)} (h : Paired (fun (p : Str × V) (q : Str × D) => p.1 = q.1 ∧ RelD G F p.2 q.2) fvs fs) : Paired (fun (p : Str × V) (q : Str × D) => p.1 = q.1 ∧ RelD G F' p.2 q.2) fvs fs :=
  Paired.mapP h fun p q z => ⟨z.1, z.2.mono s⟩
theorem RelOb.at {F F' H H' : Hp} {a : Addr} {ob : Ob} (s : Same F F') (e : H' a = H a) (h : RelOb G F H a ob) : RelOb G F' H' a ob := by
  cases ob with
  | lst ds => obtain ⟨vs, h1, h2⟩ := h; exact ⟨vs, e.trans h1, h2.mono s⟩
  | dic kvs => obtain ⟨vs, h1, h2⟩ := h; exact ⟨vs, e.trans h1, h2.mono s⟩
  | ins c fs =>
    obtain ⟨C, dd, h1, h2, h3⟩ := h
    refine ⟨C, dd, h1, e.trans h2, ?_⟩
    rcases h3 with h3 | ⟨d, fvs, h4, h5, h6⟩
    · exact .inl h3
    · exact .inr ⟨d, fvs, h4, s _ _ h5, fvs_mono s h6⟩
  | obj c fs =>
    obtain ⟨C, dx, fvs, h1, h2, h3⟩ := h
    exact ⟨C, dx, fvs, h1, e.trans h2, fvs_mono s h3⟩
theorem RelOb.there {F H : Hp} {a : Addr} {ob : Ob} (h : RelOb G F H a ob) : ∃ o, H a = some o := by
  cases ob with
  | lst ds => obtain ⟨vs, h1, _⟩ := h; exact ⟨_, h1⟩
  | dic kvs => obtain ⟨vs, h1, _⟩ := h; exact ⟨_, h1⟩
  | ins c fs => obtain ⟨C, dd, h1, h2, h3⟩ := h; exact ⟨_, h2⟩
  | obj c fs => obtain ⟨C, dx, fvs, h1, h2, h3⟩ := h; exact ⟨_, h2⟩
/-- F: what never changes; M: what may -/
structure RM (G : Gx) (F : Hp) (M : Mem) (H : Hp) : Prop where
  fz : Same F H
  mt : ∀ a ob, M a = some ob → F a = none ∧ RelOb G F H a ob
  hd : ∀ a o, G.P a = some o → H a = some o ∧ F a = none ∧ M a = none
theorem RM.freeF {M : Mem} {p : Addr} (r : RM G F M H) (hp : H p = none) : F p = none := r.fz.free hp
theorem RM.freeM {M : Mem} {p : Addr} (r : RM G F M H) (hp : H p = none) : M p = none := by
  cases q : M p with
  | none => rfl
  | some ob =>
    obtain ⟨o, h⟩ := (r.mt p ob q).2.there
    rw [hp] at h; cases h
theorem same_upd {F : Hp} {p : Addr} {o : HO} (hp : F p = none) : Same F (upd F p o) := fun b u e => by rw [upd_ne (ne_of_none e hp)]; exact e
/-- a new thing that stays -/
theorem RM.neP {M : Mem} {p a : Addr} {o : HO} (r : RM G F M H) (hp : H p = none) (e : G.P a = some o) : a ≠ p := ne_of_none (r.hd a o e).1 hp
theorem RM.frz {M : Mem} {p : Addr} {o : HO} (r : RM G F M H) (hp : H p = none) : RM G (upd F p o) M (upd H p o) := by
  refine ⟨fun b u e => ?_, fun a ob e => ?_, fun a u e => by rw [upd_ne (r.neP hp e), upd_ne (r.neP hp e)]; exact r.hd a u e⟩
  · by_cases hb : b = p
    · subst hb; rw [upd_same] at e ⊢; exact e
    · rw [upd_ne hb] at e ⊢; exact r.fz b u e
  · obtain ⟨h1, h2⟩ := r.mt a ob e
    have ne : a ≠ p := fun z => by rw [z, r.freeM hp] at e; cases e
    exact ⟨by rw [upd_ne ne]; exact h1, h2.at (same_upd (r.freeF hp)) (upd_ne ne)⟩
/-- a new thing that is not told of -/
theorem RM.junk {M : Mem} {p : Addr} {o : HO} (r : RM G F M H) (hp : H p = none) : RM G F M (upd H p o) := by
  refine ⟨fun b u e => ?_, fun a ob e => ?_, fun a u e => by rw [upd_ne (r.neP hp e)]; exact r.hd a u e⟩
  · rw [upd_ne (ne_of_none e (r.freeF hp))]
    exact r.fz b u e
  · obtain ⟨h1, h2⟩ := r.mt a ob e
    have ne : a ≠ p := fun z => by rw [z, r.freeM hp] at e; cases e
    exact ⟨h1, h2.at (Same.refl F) (upd_ne ne)⟩
/-- a new thing that may change -/
theorem RM.new {M : Mem} {p : Addr} {o : HO} {ob : Ob} (r : RM G F M H) (hp : H p = none) (h : RelOb G F (upd H p o) p ob) : RM G F (M.upd p ob) (upd H p o) := by
  refine ⟨fun b u e => by rw [upd_ne (ne_of_none e (r.freeF hp))]; exact r.fz b u e, fun a ob' e => ?_, fun a u e => by
    rw [upd_ne (r.neP hp e)]
    unfold Mem.upd
    rw [if_neg (r.neP hp e)]
    exact r.hd a u e⟩
  unfold Mem.upd at e
  by_cases ha : a = p
  · subst ha; rw [if_pos rfl] at e; cases e; exact ⟨r.freeF hp, h⟩
  · rw [if_neg ha] at e
    obtain ⟨h1, h2⟩ := r.mt a ob' e
    exact ⟨h1, h2.at (Same.refl F) (upd_ne ha)⟩
/-- a thing changed -/
theorem RM.put {M : Mem} {p : Addr} {o : HO} {ob ob' : Ob} (r : RM G F M H) (hp : M p = some ob) (h : RelOb G F (upd H p o) p ob') : RM G F (M.upd p ob') (upd H p o) := by
  have nf := (r.mt p ob hp).1
  have nP : ∀ a u, G.P a = some u → a ≠ p := fun a u e z => by
    have q := (r.hd a u e).2.2
    rw [z, hp] at q; cases q
  refine ⟨fun b u e => by rw [upd_ne (ne_of_none e nf)]; exact r.fz b u e, fun a ob' e => ?_, fun a u e => by
    rw [upd_ne (nP a u e)]
    unfold Mem.upd
    rw [if_neg (nP a u e)]
    exact r.hd a u e⟩
  unfold Mem.upd at e
  by_cases ha : a = p
  · subst ha; rw [if_pos rfl] at e; cases e; exact ⟨nf, h⟩
  · rw [if_neg ha] at e
    obtain ⟨h1, h2⟩ := r.mt a ob' e
    exact ⟨h1, h2.at (Same.refl F) (upd_ne ha)⟩
/-- a thing that stays from here on -/
theorem RM.freeze {M : Mem} {p : Addr} {ds : List D} (r : RM G F M H) (hp : M p = some (.lst ds)) : ∃ vs, F p = none ∧ H p = some (.lst vs) ∧ RelDs G F vs ds ∧ RM G (upd F p (.lst vs)) (M.del p) H := by
  obtain ⟨nf, vs, h1, h2⟩ := r.mt p _ hp
  have nP : ∀ a u, G.P a = some u → a ≠ p := fun a u e z => by
    have q := (r.hd a u e).2.2
    rw [z, hp] at q; cases q
  refine ⟨vs, nf, h1, h2, fun b u e => ?_, fun a ob e => ?_, fun a u e => by
    rw [upd_ne (nP a u e)]
    unfold Mem.del
    rw [if_neg (nP a u e)]
    exact r.hd a u e⟩
  · by_cases hb : b = p
    · subst hb; rw [upd_same] at e; cases e; exact h1
    · rw [upd_ne hb] at e; exact r.fz b u e
  · unfold Mem.del at e
    by_cases ha : a = p
    · subst ha; rw [if_pos rfl] at e; cases e
    · rw [if_neg ha] at e
      obtain ⟨h3, h4⟩ := r.mt a ob e
      exact ⟨by rw [upd_ne ha]; exact h3, h4.at (same_upd nf) rfl⟩

/-! ### reading -/
theorem rd_T {M : Mem} {v : V} {ds : List D} (r : RM G F M H) (h : RelD G F v (.tup ds)) : ∃ p vs, v = .ref p ∧ SqT G.K H p vs ∧ RelDs G F vs ds := by
  cases h with
  | tup h1 h2 => exact ⟨_, _, rfl, same_t r.fz h1, h2⟩
theorem rd_L {M : Mem} {v : V} {d : D} {ds : List D} (r : RM G F M H) (h : RelD G F v d) (e : asL M d = some ds) : ∃ p vs, v = .ref p ∧ SqL G.K H p vs ∧ RelDs G F vs ds := by
  cases h with
  | lst h1 h2 =>
    cases e
    exact ⟨_, _, rfl, .of (r.fz _ _ h1), h2⟩
  | scr h1 =>
    cases e
    exact ⟨_, _, rfl, r.fz.seq h1, RelDs.ints _⟩
  | @loc a =>
    dsimp only [asL] at e
    cases q : M a with
    | none => rw [q] at e; cases e
    | some ob =>
      rw [q] at e
      cases ob with
      | lst ds' =>
        cases e
        obtain ⟨_, vs, h1, h2⟩ := r.mt a _ q
        exact ⟨_, _, rfl, .of h1, h2⟩
      | dic _ => cases e
      | ins _ _ => cases e
      | obj _ _ => cases e
  | _ => cases e
theorem rd_LT {M : Mem} {v : V} {d : D} {ds : List D} (r : RM G F M H) (h : RelD G F v d) (e : asLT M d = some ds) : ∃ p vs, v = .ref p ∧ H p = some (.lst vs) ∧ RelDs G F vs ds := by
  cases h with
  | lst h1 h2 =>
    cases e
    exact ⟨_, _, rfl, r.fz _ _ h1, h2⟩
  | @loc a =>
    dsimp only [asLT] at e
    cases q : M a with
    | none => rw [q] at e; cases e
    | some ob =>
      rw [q] at e
      cases ob with
      | lst ds' =>
        cases e
        obtain ⟨_, vs, h1, h2⟩ := r.mt a _ q
        exact ⟨_, _, rfl, h1, h2⟩
      | dic _ => cases e
      | ins _ _ => cases e
      | obj _ _ => cases e
  | _ => cases e
theorem rd_S {M : Mem} {v : V} {d : D} {ds : List D} (r : RM G F M H) (h : RelD G F v d) (e : asS M d = some ds) : ∃ p vs, v = .ref p ∧ (SqL G.K H p vs ∨ SqT G.K H p vs) ∧ RelDs G F vs ds := by
  by_cases ht : ∃ es, d = .tup es
  · obtain ⟨es, rfl⟩ := ht
    cases e
    obtain ⟨p, vs, h1, h2, h3⟩ := rd_T r h
    exact ⟨p, vs, h1, .inr h2, h3⟩
  · have e' : asL M d = some ds := by
      cases d with
      | tup es => exact absurd ⟨es, rfl⟩ ht
      | _ => exact e
    obtain ⟨p, vs, h1, h2, h3⟩ := rd_L r h e'
    exact ⟨p, vs, h1, .inl h2, h3⟩
end

/-! ### what follows -/
section
variable (G : Gx)
/-- what follows with a value -/
def Cn (F : Hp) (q : QK) (Q : VK) : Prop := ∀ F' M' H' v d, Same F F' → RM G F' M' H' → RelD G F' v d → q d M' → Q v H'
def CnB (F : Hp) (q : BK) (Q : Bool → Hp → Prop) : Prop := ∀ F' M' H' b, Same F F' → RM G F' M' H' → q b M' → Q b H'
def CnA (F : Hp) (q : AK) (Q : List V → Hp → Prop) : Prop := ∀ F' M' H' vs ds, Same F F' → RM G F' M' H' → RelDs G F' vs ds → q ds M' → Q vs H'
/-- an exception's object -/
def RelX (F _H : Hp) (z : Exn) (c : Value) (dd : Option Addr) : Prop :=
  ∃ C, G.cl z.c = some C ∧ c = .ref C ∧ (z.fs = [] ∧ dd = none ∨ ∃ d fvs, dd = some d ∧ F d = some (.xd fvs) ∧ Paired (fun (p : Str × V) (q : Str × D) => p.1 = q.1 ∧ RelD G F p.2 q.2) fvs z.fs)
def CnX (F : Hp) (e : XQ) (W : Value → Option Addr → Hp → Prop) : Prop := ∀ F' M' H' z c dd, Same F F' → RM G F' M' H' → RelX G F' H' z c dd → e z M' → W c dd H'
/-- the slots -/
structure EnvR (F : Hp) (env : Env) (σ : L2.St) : Prop where
  len : env.length = σ.length
  at_ : ∀ i d, slv env i = some d → ∃ v, σ[i]? = some (some v) ∧ RelD G F v d
end
section
variable {G : Gx} {F F' H : Hp} {M : Mem}
theorem Cn.mono {q : QK} {Q : VK} (s : Same F F') (c : Cn G F q Q) : Cn G F' q Q := fun F2 M2 H2 v d s2 => c F2 M2 H2 v d (s.trans s2)
theorem CnB.mono {q : BK} {Q : Bool → Hp → Prop} (s : Same F F') (c : CnB G F q Q) : CnB G F' q Q := fun F2 M2 H2 b s2 => c F2 M2 H2 b (s.trans s2)
theorem CnA.mono {q : AK} {Q : List V → Hp → Prop} (s : Same F F') (c : CnA G F q Q) : CnA G F' q Q := fun F2 M2 H2 b d s2 => c F2 M2 H2 b d (s.trans s2)
theorem CnX.mono {e : XQ} {W : Value → Option Addr → Hp → Prop} (s : Same F F') (c : CnX G F e W) : CnX G F' e W := fun F2 M2 H2 z c' dd s2 => c F2 M2 H2 z c' dd (s.trans s2)
theorem EnvR.mono {env : Env} {σ : L2.St} (s : Same F F') (h : EnvR G F env σ) : EnvR G F' env σ := ⟨h.len, fun i d e => let ⟨v, h1, h2⟩ := h.at_ i d e; ⟨v, h1, h2.mono s⟩⟩
theorem vals_set {env : Env} {i j : Nat} {o : Option D} : slv (env.set i o) j = if i = j ∧ i < env.length then o else slv env j := by
  unfold slv
  by_cases h : i = j
  · subst h
    by_cases hl : i < env.length
    · rw [List.getElem?_set_self hl, if_pos ⟨rfl, hl⟩]; rfl
    · rw [if_neg (fun z => hl z.2), List.getElem?_eq_none (by simpa using hl), List.getElem?_eq_none (by simpa using hl)]
  · rw [List.getElem?_set_ne h, if_neg (fun z => h z.1)]
theorem EnvR.set {env : Env} {σ : L2.St} {i : Nat} {v : V} {d : D} (h : EnvR G F env σ) (r : RelD G F v d) : EnvR G F (setV env i d) (σ.set i (some v)) := by
  refine ⟨by unfold setV; rw [List.length_set, List.length_set]; exact h.len, fun j e hj => ?_⟩
  unfold setV at hj
  rw [vals_set] at hj
  by_cases hc : i = j ∧ i < env.length
  · rw [if_pos hc] at hj
    cases hj
    obtain ⟨rfl, hl⟩ := hc
    exact ⟨v, by rw [List.getElem?_set_self (by rw [← h.len]; exact hl)], r⟩
  · rw [if_neg hc] at hj
    obtain ⟨w, h1, h2⟩ := h.at_ j e hj
    refine ⟨w, ?_, h2⟩
    by_cases hij : i = j
    · subst hij
      have hl : ¬ i < env.length := fun z => hc ⟨rfl, z⟩
      rw [h.len] at hl
      rw [List.getElem?_eq_none (by omega)] at h1
      cases h1
    · rw [List.getElem?_set_ne hij]; exact h1
theorem EnvR.wipe {env : Env} {σ : L2.St} (h : EnvR G F env σ) : ∀ (own : List Nat), EnvR G F (wipeE env own) (L2.wipe σ own)
  | [] => h
  | i :: own => by
    have ih := EnvR.wipe h own
    refine ⟨?_, fun j e hj => ?_⟩
    · show ((wipeE env own).set i none).length = ((L2.wipe σ own).set i none).length
      rw [List.length_set, List.length_set]; exact ih.len
    · have hj : slv ((wipeE env own).set i none) j = some e := hj
      show ∃ v, ((L2.wipe σ own).set i none)[j]? = some (some v) ∧ RelD G F v e
      rw [vals_set] at hj
      by_cases hc : i = j ∧ i < (wipeE env own).length
      · rw [if_pos hc] at hj; cases hj
      · rw [if_neg hc] at hj
        obtain ⟨w, h1, h2⟩ := ih.at_ j e hj
        refine ⟨w, ?_, h2⟩
        by_cases hij : i = j
        · subst hij
          have hl : ¬ i < (wipeE env own).length := fun z => hc ⟨rfl, z⟩
          rw [ih.len] at hl
          rw [List.getElem?_eq_none (by omega)] at h1
          cases h1
        · rw [List.getElem?_set_ne hij]; exact h1

/-! ### new lists -/
theorem newL_ok {fr : Bool} {vs : List V} {ds : List D} {q : QK} {Q : VK} (r : RM G F M H) (rs : RelDs G F vs ds) (cn : Cn G F q Q) (h : newL fr ds M q) :
    vs.length ≤ sizeLine ∧ ∀ p, H p = none → Q (.ref p) (upd H p (.lst vs)) := by
  obtain ⟨hz, h⟩ := h
  refine ⟨by rw [rs.len]; exact hz, fun p hp => ?_⟩
  cases fr with
  | true =>
    have s := same_upd (o := .lst vs) (r.freeF hp)
    exact cn _ M _ _ _ s (r.frz hp) (.lst upd_same (rs.mono s)) h
  | false =>
    exact cn F _ _ _ _ (Same.refl F) (r.new (ob := .lst ds) hp ⟨vs, upd_same, rs⟩) .loc (h p (r.freeM hp))
theorem newT_ok {vs : List V} {ds : List D} {q : QK} {Q : VK} (r : RM G F M H) (rs : RelDs G F vs ds) (cn : Cn G F q Q) (h : q (.tup ds) M) {p : Addr} (hp : H p = none) : Q (.ref p) (upd H p (.tup vs)) := by
  have s := same_upd (o := .tup vs) (r.freeF hp)
  exact cn _ M _ _ _ s (r.frz hp) (.tup (.of upd_same) (rs.mono s)) h
theorem newE_ok {q : QK} {Q : VK} (r : RM G F M H) (cn : Cn G F q Q) (h : q .emp M) {p : Addr} (hp : H p = none) : Q (.ref p) (upd H p (.dK [])) := by
  have s := same_upd (o := .dK []) (r.freeF hp)
  exact cn _ M _ _ _ s (r.frz hp) (.emp upd_same) h

/-! ### data -/
theorem dpAll_ints {K : PySem.W.Frag} : ∀ (ns : List Int), DpAll K H (ns.map V.int) (ns.map PyData.int)
  | [] => .nil
  | n :: ns => .cons (.int n) (dpAll_ints ns)
mutual
theorem dp_of (r : RM G F M H) : ∀ {d : D} {v : V} {p : PyData}, RelD G F v d → toPy d = some p → Dp G.K H v p
  | .non, _, _, h, e => by cases h; cases e; exact .non
  | .bl b, _, _, h, e => by cases h; cases e; exact .bl b
  | .int i, _, _, h, e => by cases h; cases e; exact .int i
  | .str x, _, _, h, e => by cases h; cases e; exact .str x
  | .tup ds, _, p, h, e => by
    unfold toPy at e
    cases q : toPys ds with
    | none => rw [q] at e; cases e
    | some ps =>
      rw [q] at e; cases e
      cases h with
      | tup h1 h2 => exact .tup (same_t r.fz h1) (dp_all r h2 q)
  | .lst ds, _, p, h, e => by
    unfold toPy at e
    cases q : toPys ds with
    | none => rw [q] at e; cases e
    | some ps =>
      rw [q] at e; cases e
      cases h with
      | lst h1 h2 => exact .lst (.of (r.fz _ _ h1)) (dp_all r h2 q)
  | .scr ns, _, p, h, e => by
    cases e
    cases h with
    | scr h1 => exact .lst (r.fz.seq h1) (dpAll_ints ns)
  | .emp, _, _, _, e => by cases e
  | .loc _, _, _, _, e => by cases e
theorem dp_all (r : RM G F M H) : ∀ {ds : List D} {vs : List V} {ps : List PyData}, RelDs G F vs ds → toPys ds = some ps → DpAll G.K H vs ps
  | [], _, _, h, e => by cases h; cases e; exact .nil
  | d :: ds, _, ps, h, e => by
    unfold toPys at e
    cases q1 : toPy d with
    | none => rw [q1] at e; cases e
    | some p =>
      cases q2 : toPys ds with
      | none => rw [q1, q2] at e; cases e
      | some ps' =>
        rw [q1, q2] at e; cases e
        cases h with
        | cons h1 h2 => exact .cons (dp_of r h1 q1) (dp_all r h2 q2)
end
theorem dp_1 (r : RM G F M H) {d : D} {v : V} {p : PyData} (h : RelD G F v d) (e : toPy1 M d = some p) : Dp G.K H v p := by
  cases d with
  | loc a =>
    dsimp only [toPy1] at e
    cases q : M a with
    | none => rw [q] at e; cases e
    | some ob =>
      rw [q] at e
      cases ob with
      | lst ds =>
        have e : (toPys ds).map PyData.list = some p := e
        cases q2 : toPys ds with
        | none => rw [q2] at e; cases e
        | some ps =>
          rw [q2] at e; cases e
          cases h
          obtain ⟨_, vs, h1, h2⟩ := r.mt a _ q
          exact .lst (.of h1) (dp_all r h2 q2)
      | dic _ => cases e
      | ins _ _ => cases e
      | obj _ _ => cases e
  | _ => exact dp_of r h e

theorem dps_1 (r : RM G F M H) : ∀ {ds : List D} {vs : List V} {ps : List PyData}, RelDs G F vs ds → toPys1 M ds = some ps → DpAll G.K H vs ps
  | [], vs, ps, h, e => by
    cases e; cases h; exact .nil
  | d :: ds, vs, ps, h, e => by
    unfold toPys1 at e
    cases q1 : toPy1 M d with
    | none => rw [q1] at e; cases e
    | some p =>
      cases q2 : toPys1 M ds with
      | none => rw [q1, q2] at e; cases e
      | some ps' =>
        rw [q1, q2] at e; cases e
        cases h with
        | cons h1 h2 => exact .cons (dp_1 r h1 q1) (dps_1 r h2 q2)
theorem dp_M (r : RM G F M H) {d : D} {v : V} {p : PyData} (h : RelD G F v d) (e : toPyM M d = some p) : Dp G.K H v p := by
  cases d with
  | tup ds =>
    have e : (toPys1 M ds).map PyData.tuple = some p := e
    cases q2 : toPys1 M ds with
    | none => rw [q2] at e; cases e
    | some ps =>
      rw [q2] at e; cases e
      cases h with
      | tup h1 h2 => exact .tup (same_t r.fz h1) (dps_1 r h2 q2)
  | _ => exact dp_1 r h e

theorem dps_F {f : D → Option PyData} (ih : ∀ {d : D} {v : V} {p : PyData}, RelD G F v d → f d = some p → Dp G.K H v p) : ∀ {ds : List D} {vs : List V} {ps : List PyData}, RelDs G F vs ds → optAll f ds = some ps → DpAll G.K H vs ps
  | [], vs, ps, h, e => by
    cases e; cases h; exact .nil
  | d :: ds, vs, ps, h, e => by
    unfold optAll at e
    cases q1 : f d with
    | none => rw [q1] at e; cases e
    | some p =>
      cases q2 : optAll f ds with
      | none => rw [q1, q2] at e; cases e
      | some ps' =>
        rw [q1, q2] at e; cases e
        cases h with
        | cons h1 h2 => exact .cons (ih h1 q1) (dps_F ih h2 q2)
theorem dp_F (r : RM G F M H) : ∀ (n : Nat) {d : D} {v : V} {p : PyData}, RelD G F v d → toPyF M n d = some p → Dp G.K H v p
  | 0, _, _, _, _, e => by cases e
  | n + 1, d, v, p, h, e => by
    have ih : ∀ {d : D} {v : V} {p : PyData}, RelD G F v d → toPyF M n d = some p → Dp G.K H v p := fun h e => dp_F r n h e
    cases d with
    | tup ds =>
      have e : (optAll (toPyF M n) ds).map PyData.tuple = some p := e
      cases q2 : optAll (toPyF M n) ds with
      | none => rw [q2] at e; cases e
      | some ps =>
        rw [q2] at e; cases e
        cases h with
        | tup h1 h2 => exact .tup (same_t r.fz h1) (dps_F ih h2 q2)
    | lst ds =>
      have e : (optAll (toPyF M n) ds).map PyData.list = some p := e
      cases q2 : optAll (toPyF M n) ds with
      | none => rw [q2] at e; cases e
      | some ps =>
        rw [q2] at e; cases e
        cases h with
        | lst h1 h2 => exact .lst (.of (r.fz _ _ h1)) (dps_F ih h2 q2)
    | loc a =>
      dsimp only [toPyF] at e
      cases q : M a with
      | none => rw [q] at e; cases e
      | some ob =>
        rw [q] at e
        cases ob with
        | lst ds =>
          have e : (optAll (toPyF M n) ds).map PyData.list = some p := e
          cases q2 : optAll (toPyF M n) ds with
          | none => rw [q2] at e; cases e
          | some ps =>
            rw [q2] at e; cases e
            cases h
            obtain ⟨_, vs, h1, h2⟩ := r.mt a _ q
            exact .lst (.of h1) (dps_F ih h2 q2)
        | dic _ => cases e
        | ins _ _ => cases e
        | obj _ _ => cases e
    | _ => exact dp_of r h e

/-! ### operators by values -/
/-- a two-place operation -/
def lift2 (G : Gx) (w : D → D → Mem → QK → Prop) : R2 := fun x y H Q => ∃ F M dx dy q, RM G F M H ∧ RelD G F x dx ∧ RelD G F y dy ∧ Cn G F q Q ∧ w dx dy M q
theorem OpR.or2 {X : Cx} {f : Value → Value → Sem Value} {r : R2} (h : ∀ x y H Q, r x y H Q → ∃ r', OpR X f r' ∧ r' x y H Q) : OpR X f r := by
  intro pins s σ H x y v u Q I rx ry q
  obtain ⟨r', h1, h2⟩ := h x y H Q q
  exact h1 pins s σ H x y v u Q I rx ry h2
variable {X : Cx}
theorem opr_add (hK : X.K = G.K) {fr : Bool} : OpR X (binaryOp .Add) (lift2 G (addW fr)) := by
  refine OpR.or2 fun x y H Q ⟨F, M, dx, dy, q, rm, r1, r2, cn, h⟩ => ?_
  have lists : (match asLT M dx, asLT M dy with
    | some a, some b => newL fr (a ++ b) M q
    | _, _ => False) → ∃ r', OpR X (binaryOp .Add) r' ∧ r' x y H Q := fun h => by
    cases e1 : asLT M dx with
    | none => rw [e1] at h; exact h.elim
    | some a =>
      cases e2 : asLT M dy with
      | none => rw [e1, e2] at h; exact h.elim
      | some b =>
        rw [e1, e2] at h
        obtain ⟨p1, vs1, rfl, g1, g2⟩ := rd_LT rm r1 e1
        obtain ⟨p2, vs2, rfl, g3, g4⟩ := rd_LT rm r2 e2
        obtain ⟨hz, k⟩ := newL_ok rm (g2.app g4) cn h
        exact ⟨_, op_cat, p1, p2, vs1, vs2, rfl, rfl, g1, g3, by rw [List.length_append] at hz; exact hz, k⟩
  have cnh : ∀ {v d}, RelD G F v d → q d M → Q v H := fun r h => cn F M H _ _ (Same.refl F) rm r h
  cases dx with
  | int i =>
    cases dy with
    | int j => cases r1; cases r2; exact ⟨_, op_add, i, j, rfl, rfl, cnh (.int _) h⟩
    | _ => exact lists h
  | str a =>
    cases dy with
    | str b => cases r1; cases r2; exact ⟨_, op_add_str, a, b, rfl, rfl, h.1, cnh (.str _) h.2⟩
    | _ => exact lists h
  | tup a =>
    cases dy with
    | tup b =>
      obtain ⟨p1, vs1, rfl, g1, g2⟩ := rd_T rm r1
      obtain ⟨p2, vs2, rfl, g3, g4⟩ := rd_T rm r2
      refine ⟨_, op_catA, p1, p2, vs1, vs2, rfl, rfl, by rw [hK]; exact g1, by rw [hK]; exact g3, by rw [g2.len, g4.len]; exact h.1, fun e => ?_, fun _ e => ?_, fun _ _ p hp => newT_ok rm (g2.app g4) cn h.2 hp⟩
      · subst e; cases g2; exact cnh r2 h.2
      · subst e; cases g4
        have := h.2
        rw [List.append_nil] at this
        exact cnh r1 this
    | _ => exact lists h
  | _ => exact lists h
theorem mul_okI {i j : Int} (h : mulOk i j) : IntMulOk i j := by
  have b : ∀ x : Int, Builtin.Int.intBits x ≤ x.natAbs.log2 + 1 := fun x => by
    unfold Builtin.Int.intBits
    split <;> omega
  have h1 := b i
  have h2 := b j
  have h3 : i.natAbs.log2 + j.natAbs.log2 < 100000000 := h
  have e : bitsLine = 134217728 := by decide
  unfold IntMulOk
  intro z
  rw [Bool.and_eq_true] at z
  have z2 := z.2
  unfold Builtin.Int.intTooBig at z2
  have z3 := of_decide_eq_true z2
  rw [e] at z3
  omega
theorem op_mulG {X : Cx} : OpR X (binaryOp .Mult) (rI mulOk fun i j => .int (i * j)) := opI fun _ _ _ _ _ _ _ hc q => mul_int q (mul_okI hc)
end
end Wp

/-! WpGt: a > b of two lists of ints. -/
namespace Wp
open PySem PySem.SeqAt
open _root_.Ob (RcOp)
open PySem.AutoSeq1 (wpAny_loadPart')
open PySem.MeetsSeq PySem.MeetsSeq2 PySem.MeetsSeq3
theorem gt_loopAt (l b : Addr) (items items2 : Array Value) (n n2 : Nat) (dd dd2 : Option Addr) (sl sl2 : Array (Option Value)) (e r : Nat → Bool) (k : Nat) :
    ∀ i : Nat, min items.size items2.size - i = k → Meets (Builtin.«list.__eq__.loop» ⟨[.ref l, .ref b, rawInt i, rawInt 4], []⟩)
      (fun A R s => s.heap.get? l = some { cls := .type "list", dict := dd, data := .seq items n, slots := sl } ∧ s.heap.get? b = some { cls := .type "list", dict := dd2, data := .seq items2 n2, slots := sl2 } ∧
        (∀ j (h1 : j < items.size) (h2 : j < items2.size), EqAt A.in1 s items[j] items2[j] (e j)) ∧ (∀ j (h1 : j < items.size) (h2 : j < items2.size), e j = false → RcOp .Gt A.in1 s items[j] items2[j] (r j)) ∧
        R (.ok (.ret (.bool (firstLt e r (decide (items.size > items2.size)) ((List.range (min items.size items2.size)).drop i))))) s) := by
  induction k with
  | zero =>
    intro i hk prog w A R s h
    obtain ⟨hp, g, d, tk, os⟩ := s; obtain ⟨hl, hb, he, hr, h⟩ := h
    have hd : (List.range (min items.size items2.size)).drop i = [] := by simp; omega
    rw [hd] at h
    wp_walk using wpAny_loadPart' hl, wpAny_loadPart' hb
    by_cases h1 : items.size ≤ i
    · have hi1 : items[((i : Nat) : Int).toNat]? = none := by simp; omega
      rw [hi1]
      wp_walk using wpAny_loadPart' hl, wpAny_loadPart' hb
      exact h
    · have hlt : i < items.size := by omega
      have hi1 : items[((i : Nat) : Int).toNat]? = some items[i] := by simp [hlt]
      have hi2 : items2[((i : Nat) : Int).toNat]? = none := by simp; omega
      rw [hi1, hi2]
      wp_walk using wpAny_loadPart' hl, wpAny_loadPart' hb
      exact h
  | succ k ih =>
    intro i hk prog w A R s h
    obtain ⟨hp, g, d, tk, os⟩ := s; obtain ⟨hl, hb, he, hr, h⟩ := h
    wp_walk using wpAny_loadPart' hl, wpAny_loadPart' hb
    have hm : i < min items.size items2.size := by omega
    have hlt : i < items.size := Nat.lt_of_lt_of_le hm (Nat.min_le_left _ _)
    have hlt2 : i < items2.size := Nat.lt_of_lt_of_le hm (Nat.min_le_right _ _)
    have hi1 : items[((i : Nat) : Int).toNat]? = some items[i] := by simp [hlt]
    have hi2 : items2[((i : Nat) : Int).toNat]? = some items2[i] := by simp [hlt2]
    have hd : (List.range (min items.size items2.size)).drop i = i :: (List.range (min items.size items2.size)).drop (i + 1) := by simp [List.drop_eq_getElem_cons, hm]
    have hc : ((i : Int) + 1) = ((i + 1 : Nat) : Int) := by push_cast; rfl
    rw [hd] at h
    rw [hi1, hi2]
    refine wpAny_bind (he i hlt hlt2 prog w _ _ ?_)
    cases hb' : e i with
    | true =>
      rw [firstLt_yes hb'] at h
      wp_walk
      rw [hc]
      exact ⟨plainId_quiet plain_eq_loop _, codeAny_builtin entry_eq_loop (by
        rw [Around.under_plainId plain_eq_loop _]
        exact ih (i + 1) (by omega) prog w A R _ ⟨hl, hb, he, hr, h⟩)⟩
    | false =>
      rw [firstLt_no hb'] at h
      wp_walk using wpAny_loadPart' hl, wpAny_loadPart' hb
      rw [hi1, hi2]
      have hri := hr i hlt hlt2 hb' prog w
      wp_walk using hri
      exact h
theorem list_gtAt (l b : Addr) (items items2 : Array Value) (n n2 : Nat) (dd dd2 : Option Addr) (sl sl2 : Array (Option Value)) (e r : Nat → Bool) :
    Meets (Builtin.«list.__gt__» ⟨[.ref l, .ref b], []⟩)
      (fun A R s => s.heap.get? l = some { cls := .type "list", dict := dd, data := .seq items n, slots := sl } ∧ s.heap.get? b = some { cls := .type "list", dict := dd2, data := .seq items2 n2, slots := sl2 } ∧
        (∀ j (h1 : j < items.size) (h2 : j < items2.size), EqAt A.in1 s items[j] items2[j] (e j)) ∧ (∀ j (h1 : j < items.size) (h2 : j < items2.size), e j = false → RcOp .Gt A.in1 s items[j] items2[j] (r j)) ∧
        R (.ok (.ret (.bool (firstLt e r (decide (items.size > items2.size)) (List.range (min items.size items2.size)))))) s) := by
  intro prog w A R s h
  obtain ⟨hp, g, d, tk, os⟩ := s; obtain ⟨hl, hb, he, hr, h⟩ := h
  have f3 := AutoSeq1.sub_list_list
  wp_walk using wpAny_loadPart' hl, wpAny_loadPart' hb
  exact ⟨plainId_quiet plain_eq_loop _, codeAny_builtin entry_eq_loop (by
    rw [Around.under_plainId plain_eq_loop _]
    exact gt_loopAt l b items items2 n n2 dd dd2 sl sl2 e r _ 0 rfl prog w A R _ ⟨hl, hb, he, hr, by simpa using h⟩)⟩
theorem lists_gt {A : Around} {s : Shared} {l b : Addr} {items items2 : Array Value} {e r : Nat → Bool} (hl : s.heap.IsList l items) (hb : s.heap.IsList b items2) (hu : A.units < cLine)
    (he : ∀ j (h1 : j < items.size) (h2 : j < items2.size), EqAt A.in1 s items[j] items2[j] (e j)) (hr : ∀ j (h1 : j < items.size) (h2 : j < items2.size), e j = false → RcOp .Gt A.in1 s items[j] items2[j] (r j)) :
    RcOp .Gt A s (.ref l) (.ref b) (firstLt e r (decide (items.size > items2.size)) (List.range (min items.size items2.size))) := fun prog w E Q h => by
  obtain ⟨⟨cls, dd, data, sl⟩, ho, hc, n, hd⟩ := id hl
  obtain ⟨⟨cls2, dd2, data2, sl2⟩, ho2, hc2, n2, hd2⟩ := id hb
  simp only at hc hd hc2 hd2
  subst hc hd hc2 hd2
  exact richCompare_meets_room (op := .Gt) ⟨_, ho, rfl⟩ ⟨_, ho2, rfl⟩ F.slot_list_gt F.entry_list_gt (F.args_list_gt_2 _ _) (list_gtAt l b items items2 n n2 dd dd2 sl sl2 e r)
    ⟨ho, ho2, he, hr, ⟨(fun x => nomatch x), h⟩⟩ hu
open PySem.Spec PyProof.Rows L2
theorem first_gt : ∀ (ns ms : List Int), firstLt (fun j => decide (ns.getD j 0 = ms.getD j 0)) (fun j => decide (ms.getD j 0 < ns.getD j 0)) (decide (ns.length > ms.length)) (List.range (min ns.length ms.length)) = gtL ns ms
  | [], ms => by
    rw [List.length_nil, Nat.zero_min]
    show decide (0 > ms.length) = false
    exact decide_eq_false (by omega)
  | x :: xs, [] => by
    rw [List.length_nil, Nat.min_zero]
    show decide ((x :: xs).length > 0) = true
    exact decide_eq_true (by rw [List.length_cons]; omega)
  | x :: xs, y :: ys => by
    rw [List.length_cons, List.length_cons, Nat.succ_min_succ, List.range_succ_eq_map]
    have ih := first_gt xs ys
    show (if decide (x = y) = true then firstLt _ _ _ ((List.range (min xs.length ys.length)).map Nat.succ) else decide (y < x)) = gtL (x :: xs) (y :: ys)
    unfold gtL
    by_cases h : x = y
    · rw [if_pos h, if_pos (decide_eq_true h), PySem.W.firstLt_map, ← ih]
      have e : decide (xs.length + 1 > ys.length + 1) = decide (xs.length > ys.length) := by
        by_cases q : xs.length > ys.length
        · rw [decide_eq_true q, decide_eq_true (by omega)]
        · rw [decide_eq_false q, decide_eq_false (by omega)]
      rw [e]
      rfl
    · rw [if_neg h, if_neg (by rw [decide_eq_false h]; exact Bool.false_ne_true)]
def rGtL (K : PySem.W.Frag) : R2 := fun x y H Q => ∃ (a b : Addr) (ns ms : List Int), x = .ref a ∧ y = .ref b ∧ SqL K H a (ns.map V.int) ∧ SqL K H b (ms.map V.int) ∧ Q (.bl (gtL ns ms)) H
theorem op_gtL {X : Cx} (hu : X.A.units < cLine) : OpR X (compareOp .Gt) (rGtL X.K) := by
  intro pins s σ H x y v u Q I rx ry h
  obtain ⟨a, b, ns, ms, rfl, rfl, ha, hb, q⟩ := h
  cases rx
  cases ry
  obtain ⟨its, r1, p1, _⟩ := I.list ha
  obtain ⟨its2, r2, p2, _⟩ := I.list hb
  have i1 : IntsAre its ns := Vals.ints r1
  have i2 : IntsAre its2 ms := Vals.ints r2
  have e1 : its.toArray.size = ns.length := by rw [List.size_toArray]; exact i1.length
  have e2 : its2.toArray.size = ms.length := by rw [List.size_toArray]; exact i2.length
  have at1 : ∀ j (h1 : j < its.toArray.size), ∃ t, its.toArray[j] = .int (ns.getD j 0) t := fun j h1 => PyProof.Rows.IntsAre.int_at i1 _ _ (by simp at h1; simp [h1])
  have at2 : ∀ j (h1 : j < its2.toArray.size), ∃ t, its2.toArray[j] = .int (ms.getD j 0) t := fun j h1 => PyProof.Rows.IntsAre.int_at i2 _ _ (by simp at h1; simp [h1])
  have R := lists_gt (A := X.A) (s := s) (e := fun j => decide (ns.getD j 0 = ms.getD j 0)) (r := fun j => decide (ms.getD j 0 < ns.getD j 0)) p1.isList p2.isList hu (fun j h1 h2 => by
    obtain ⟨t, et⟩ := at1 j h1
    obtain ⟨t', et'⟩ := at2 j h2
    rw [et, et']
    have z : (ns.getD j 0 == ms.getD j 0) = decide (ns.getD j 0 = ms.getD j 0) := by
      by_cases q : ns.getD j 0 = ms.getD j 0
      · rw [decide_eq_true q]; exact beq_iff_eq.mpr q
      · rw [decide_eq_false q]; exact beq_eq_false_iff_ne.mpr q
    rw [← z]
    exact SeqAt.EqAt.int_int _ _ _ _) (fun j h1 h2 _ => by
    obtain ⟨t, et⟩ := at1 j h1
    obtain ⟨t', et'⟩ := at2 j h2
    rw [et, et']
    exact _root_.Ob.RcOp.gt_int _ _ _ _)
  rw [e1, e2, first_gt] at R
  have z : wpAny (model X.prog X.w) X.A (compareOp .Gt (.ref a) (.ref b)) (EP X pins σ Q) X.xe s := R X.prog X.w X.xe (EP X pins σ Q) ⟨.bl _, H, I, rfl, q⟩
  exact z
end Wp

/-! WpX1: text * int, tuple * int where it is none or one time. -/
namespace Wp
open PySem PySem.Spec PyProof.Rows L2
theorem fold_nats (x : Array Nat) : ∀ (k : Nat) (acc : Array Nat), ((List.replicate k x).foldl (· ++ ·) acc).toList = acc.toList ++ (List.replicate k x.toList).flatten
  | 0, acc => by simp
  | k + 1, acc => by
    rw [List.replicate_succ, List.foldl_cons, fold_nats x k, List.replicate_succ, List.flatten_cons, Array.toList_append, List.append_assoc]
theorem repS_eq (z : Str) (n : Nat) : (⟨(List.replicate n z.cps).foldl (· ++ ·) #[]⟩ : Str) = repS z n := by
  have h := fold_nats z.cps n #[]
  unfold repS
  rw [show (List.replicate n z.cps).foldl (· ++ ·) #[] = (List.replicate n z.cps.toList).flatten.toArray from Array.toList_inj.mp (by rw [h]; rfl)]
theorem repS_len (z : Str) (n : Nat) : (repS z n).length = z.length * n := by
  show (List.replicate n z.cps.toList).flatten.toArray.size = _
  rw [List.size_toArray, PyProof.Rows.lm_len_rep_flat, Array.length_toList, Nat.mul_comm]
  rfl
theorem repS_one (z : Str) : repS z 1 = z := by
  unfold repS
  simp
theorem repS_nil {z : Str} (n : Nat) (h : z.length = 0) : repS z n = z := by
  have e : z.cps = #[] := Array.eq_empty_of_size_eq_zero h
  unfold repS
  cases z with
  | mk c =>
    cases e
    simp
section
variable {X : Cx}
theorem op_repS : OpR X (binaryOp .Mult) (fun x y H Q => ∃ z k, x = .str z ∧ y = .int k ∧ -(2 ^ 63) ≤ k ∧ k < 2 ^ 63 ∧ z.length * k.toNat ≤ sizeLine ∧ Q (.str (repS z k.toNat)) H) := by
  intro pins s σ H x y v u Q I rx ry h
  obtain ⟨z, k, rfl, rfl, h1, h2, hz, q⟩ := h
  obtain ⟨t, rfl⟩ := rx
  obtain ⟨t', rfl⟩ := ry
  have hS : sizeLine ≤ 1000000000 := by decide
  refine P.mul_str ?_ ?_ ?_ ?_
  · rw [decide_eq_false (by omega), decide_eq_false (by omega)]; rfl
  · intro h3 h4
    have e : ((z.length : Nat) : Int) * k ≤ 1000000000 := by
      have : ((z.length * k.toNat : Nat) : Int) = z.length * k := by rw [Int.natCast_mul, Int.toNat_of_nonneg (by omega)]
      rw [← this]
      omega
    rw [Int.not_lt]
    refine (Int.le_ediv_iff_mul_le (by omega)).mpr ?_
    omega
  · intro h3 h4
    exact decide_eq_false (by omega)
  · split
    · rename_i h3
      have e : repS z k.toNat = Str.empty := by
        have : k.toNat = 0 := by omega
        rw [this]
        rfl
      exact ⟨by decide, .str (repS z k.toNat), H, I.tok _, ⟨_, by rw [e]⟩, q⟩
    · split
      · rename_i h3 h4
        have e : repS z k.toNat = z := by
          rw [Bool.or_eq_true, beq_iff_eq, beq_iff_eq] at h4
          rcases h4 with h4 | h4
          · rw [h4]; exact repS_one z
          · exact repS_nil _ h4
        refine ⟨.str (repS z k.toNat), H, I, ⟨t, by rw [e]⟩, q⟩
      · rw [repS_eq]
        exact ⟨by rw [repS_len]; exact hz, .str (repS z k.toNat), H, I.tok _, ⟨_, rfl⟩, q⟩
/-! ### tuple * 1, tuple * 0 -/
theorem tuple_same (l : Addr) (items : Array Value) (n : Nat) (dd : Option Addr) (sl : Array (Option Value)) (x : Int) (u : Tok) (c0 : (decide (x < -(2 ^ 63)) || decide (x ≥ 2 ^ 63)) = false) (c1 : (items.isEmpty || x == 1) = true) :
    Meets (Builtin.«tuple.__mul__» ⟨[.ref l, .int x u], []⟩) (fun _ R s => s.heap.get? l = some { cls := .type "tuple", dict := dd, data := .seq items n, slots := sl } ∧
      R (.ok (.ret (.ref l))) s) :=
  .of_wp fun prog w A R s h => by
    obtain ⟨hp, g, d, tk, os⟩ := s
    obtain ⟨hl, h⟩ := h
    have f1 := AutoSeq1.idx_int
    wp_walk using wpAny_loadPart' hl
    repeat (first
      | (refine wpAny_ite_false (decide_eq_false (by rw [c0]; exact Bool.false_ne_true)) ?_; wp_walk using wpAny_loadPart' hl)
      | (refine wpAny_ite_true (decide_eq_true (by rw [c1])) ?_; wp_walk using wpAny_loadPart' hl))
    exact ⟨_, rfl, h⟩
theorem tuple_none (l : Addr) (items : Array Value) (n : Nat) (dd : Option Addr) (sl : Array (Option Value)) (x : Int) (u : Tok) (c0 : (decide (x < -(2 ^ 63)) || decide (x ≥ 2 ^ 63)) = false) (c1 : (items.isEmpty || x == 1) = false) (c2 : (decide (x ≤ 0) || items.isEmpty) = true) :
    Meets (Builtin.«tuple.__mul__» ⟨[.ref l, .int x u], []⟩) (fun _ R s => s.heap.get? l = some { cls := .type "tuple", dict := dd, data := .seq items n, slots := sl } ∧
      R (.ok (.ret (Value.ref s.heap.objs.size))) { s with heap := s.heap.push { cls := Value.type "tuple", data := Data.seq #[] }, toks := s.toks }) :=
  .of_wp fun prog w A R s h => by
    obtain ⟨hp, g, d, tk, os⟩ := s
    obtain ⟨hl, h⟩ := h
    have f1 := AutoSeq1.idx_int
    wp_walk using wpAny_loadPart' hl
    repeat (first
      | (refine wpAny_ite_false (decide_eq_false (by rw [c0]; exact Bool.false_ne_true)) ?_; wp_walk using wpAny_loadPart' hl)
      | (refine wpAny_ite_false (decide_eq_false (by rw [c1]; exact Bool.false_ne_true)) ?_; wp_walk using wpAny_loadPart' hl)
      | (refine wpAny_ite_true (decide_eq_true (by rw [c2])) ?_; wp_walk using wpAny_loadPart' hl))
    exact ⟨_, rfl, h⟩
def rRepT0 (K : PySem.W.Frag) : R2 := fun x y H Q => ∃ l k xs, x = .ref l ∧ y = .int k ∧ SqT K H l xs ∧ -(2 ^ 63) ≤ k ∧ k < 2 ^ 63 ∧ ((xs = [] ∨ k = 1) → Q (.ref l) H) ∧ (xs ≠ [] → k ≤ 0 → ∀ p, H p = none → Q (.ref p) (upd H p (.tup []))) ∧ (xs = [] ∨ k ≤ 1)
theorem op_repT0 : OpR X (binaryOp .Mult) (rRepT0 X.K) := by
  intro pins s σ H x y v u Q I rx ry h
  obtain ⟨l, k, xs, rfl, rfl, hT, h1, h2, q1, q2, h3⟩ := h
  cases rx
  obtain ⟨t, rfl⟩ := ry
  obtain ⟨its, r, ⟨⟨cls, dd, data, sl⟩, ho, hc, n, hd⟩, hs⟩ := I.tuple hT
  simp only at hc hd
  subst hc hd
  have c0 : (decide (k < -(2 ^ 63)) || decide (k ≥ 2 ^ 63)) = false := by
    rw [decide_eq_false (by omega), decide_eq_false (by omega)] <;> rfl
  by_cases e : xs = [] ∨ k = 1
  · have c1 : (its.toArray.isEmpty || k == 1) = true := by
      rcases e with e | e
      · subst e; cases r; rfl
      · rw [e, Bool.or_eq_true]; exact .inr rfl
    refine wpAny_binaryOp_repeat_ref (T := "tuple") (U := "int") (by decide) ⟨_, ho, rfl⟩ (fun s' => typeIs_int s' k t) noFill_tuple_mul F.fills_int_mul F.slot_int_rmul repeat_tuple F.slot_int_index.lookup
      (call_meets F.slot_int_rmul (typeIs_int s k t) F.entry_int_rmul (F.args_int_rmul_2 _ _) (int_rmul_tuple k t l its.toArray n dd sl)
        ⟨ho, rfl, ⟨_, ho, rfl⟩, call_meets F.slot_tuple_mul ⟨_, ho, rfl⟩ F.entry_tuple_mul (F.args_tuple_mul_2 _ _) (tuple_same l its.toArray n dd sl k t c0 c1) ⟨ho, ?_⟩⟩)
    exact ⟨.ref l, H, I, rfl, q1 e⟩
  · have hn : xs ≠ [] := fun z => e (.inl z)
    have hk : k ≤ 0 := by
      rcases h3 with h3 | h3
      · exact absurd h3 hn
      · have : k ≠ 1 := fun z => e (.inr z)
        omega
    have hi : its.toArray.isEmpty = false := by
      cases r with
      | nil => exact absurd rfl hn
      | cons a b => rfl
    have c1 : (its.toArray.isEmpty || k == 1) = false := by
      rw [hi, Bool.false_or]
      exact beq_eq_false_iff_ne.mpr (by omega)
    have c2 : (decide (k ≤ 0) || its.toArray.isEmpty) = true := by
      rw [decide_eq_true hk]; rfl
    refine wpAny_binaryOp_repeat_ref (T := "tuple") (U := "int") (by decide) ⟨_, ho, rfl⟩ (fun s' => typeIs_int s' k t) noFill_tuple_mul F.fills_int_mul F.slot_int_rmul repeat_tuple F.slot_int_index.lookup
      (call_meets F.slot_int_rmul (typeIs_int s k t) F.entry_int_rmul (F.args_int_rmul_2 _ _) (int_rmul_tuple k t l its.toArray n dd sl)
        ⟨ho, rfl, ⟨_, ho, rfl⟩, call_meets F.slot_tuple_mul ⟨_, ho, rfl⟩ F.entry_tuple_mul (F.args_tuple_mul_2 _ _) (tuple_none l its.toArray n dd sl k t c0 c1 c2) ⟨ho, ?_⟩⟩)
    refine ⟨.ref s.heap.objs.size, _, I.laid (t' := s.toks) (o := .tup []) (fun b ob q => Heap.get?_push_of_some _ q) (Nat.le_refl _) ?_, rfl, q2 hn hk _ (I.hok.fresh (Nat.le_refl _))⟩
    exact ⟨by decide, [], .nil, IsTup.new _ _⟩
end
end Wp

/-! WpDc: a dict and a text are never alike. -/
namespace Wp
open PySem PySem.SeqAt PySem.MeetsSeq PySem.AutoSeq1
section
variable {A : Around} {s : Shared} {a : Addr} {o : Obj}
theorem dict_eq_declines {prog : Program} {w : World} {E Q : Value → Shared → Prop} {b : Str} {u : Tok} (ta : s.TypeIs (.ref a) "dict") (h : Q .notImplemented s) :
    wpAny (model prog w) A (call (.builtin "dict.__eq__") [.ref a, .str b u]) Q E s := by
  refine wpAny_call_entry PySem.F.slot_dict_eq ta PySem.F.entry_dict_eq ?_ (PySem.F.args_dict_eq_2 _ _)
  show wpAny _ _ (Builtin.Dict.dictSlotArgs "__eq__" ⟨[.ref a, .str b u], []⟩ >>= _) _ _ s
  refine wpAny_bind ?_
  unfold Builtin.Dict.dictSlotArgs
  refine wpAny_bind (wpAny_notOrdered_dict ta ?_)
  show wpAny _ _ (pure (Value.ref a, Value.str b u)) _ _ s
  refine wpAny_pure ?_
  refine wpAny_bind (wpAny_isInstance (T := "str") (typeIs_str s b u) PySem.F.sub_str_dict ?_)
  simp only [Bool.not_false, if_true]
  refine wpAny_bind (wpAny_rule ?_)
  exact wpAny_pure ⟨_, rfl, h⟩
theorem str_eq_declines_any (b : Str) (u : Tok) (l : Addr) (c : Value) (es : Array DictEntry) (n : Nat) (dd : Option Addr) (sl : Array (Option Value)) :
    Meets (Builtin.«str.__eq__» ⟨[.str b u, .ref l], []⟩) (fun _ R s => s.heap.get? l = some { cls := c, dict := dd, data := .dict es n, slots := sl } ∧ R (.ok (.ret .notImplemented)) s) :=
  .of_wp fun prog w A R s h => by obtain ⟨hp, g, d, tk, os⟩ := s; obtain ⟨hl, h⟩ := h; wp_walk using wpAny_loadPart' hl, wpAny_load hl; exact ⟨_, rfl, h⟩
theorem rc_dict_str (b : Str) (u : Tok) (ho : ∃ o es n, s.heap.get? a = some o ∧ o.data = .dict es n) (ta : s.TypeIs (.ref a) "dict") (hu : A.units < cLine) : RcAt A s (.ref a) (.str b u) false := fun prog w E Q h => by
  obtain ⟨⟨cls, dd, data, sl⟩, es, n, ho, hd⟩ := ho
  simp only at hd
  subst hd
  exact
  rc_eq_decline_or (k := false) ta (typeIs_str s b u) (by decide) F.sub_str_dict F.slot_dict_eq F.slot_str_eq_refl
    (fun _ hq => dict_eq_declines ta hq)
    (fun _ hq => call_meets F.slot_str_eq_refl (typeIs_str s b u) F.entry_str_eq (F.args_str_eq_2 _ _) (str_eq_declines_any b u a cls es n dd sl) ⟨ho, hq⟩)
    (fun _ hq => wpAny_of_eq (rfl : isSame (.ref a) (.str b u) = pure false) hq) (.inr hu) h
theorem rc_str_dict (b : Str) (u : Tok) (ho : ∃ o es n, s.heap.get? a = some o ∧ o.data = .dict es n) (ta : s.TypeIs (.ref a) "dict") (hu : A.units < cLine) : RcAt A s (.str b u) (.ref a) false := fun prog w E Q h => by
  obtain ⟨⟨cls, dd, data, sl⟩, es, n, ho, hd⟩ := ho
  simp only at hd
  subst hd
  exact
  rc_eq_decline_or (k := false) (typeIs_str s b u) ta (by decide) F.sub_dict_str F.slot_str_eq F.slot_dict_eq_refl
    (fun _ hq => call_meets F.slot_str_eq (typeIs_str s b u) F.entry_str_eq (F.args_str_eq_2 _ _) (str_eq_declines_any b u a cls es n dd sl) ⟨ho, hq⟩)
    (fun _ hq => dict_eq_declines ta hq)
    (fun _ hq => wpAny_of_eq (rfl : isSame (.str b u) (.ref a) = pure false) hq) (.inr hu) h
theorem eqAt_dict_str (b : Str) (u : Tok) (ho : ∃ o es n, s.heap.get? a = some o ∧ o.data = .dict es n) (ta : s.TypeIs (.ref a) "dict") (hu : A.units < cLine) : EqAt A s (.ref a) (.str b u) false := fun prog w E Q h => by
  unfold eqBool
  refine wpAny_holding ?_
  refine wpAny_ite_split (fun hab => absurd (eq_of_beq hab) nofun) (fun _ => ?_)
  exact wpAny_bind (rc_dict_str b u ho ta hu prog w E _ (wpAny_truthy_bool h))
theorem eqAt_str_dict (b : Str) (u : Tok) (ho : ∃ o es n, s.heap.get? a = some o ∧ o.data = .dict es n) (ta : s.TypeIs (.ref a) "dict") (hu : A.units < cLine) : EqAt A s (.str b u) (.ref a) false := fun prog w E Q h => by
  unfold eqBool
  refine wpAny_holding ?_
  refine wpAny_ite_split (fun hab => absurd (eq_of_beq hab) nofun) (fun _ => ?_)
  exact wpAny_bind (rc_str_dict b u ho ta hu prog w E _ (wpAny_truthy_bool h))
theorem dict_ne_declines {prog : Program} {w : World} {E Q : Value → Shared → Prop} {b : Str} {u : Tok} (ta : s.TypeIs (.ref a) "dict") (h : Q .notImplemented s) :
    wpAny (model prog w) A (call (.builtin "dict.__ne__") [.ref a, .str b u]) Q E s := by
  refine wpAny_call_entry PySem.F.slot_dict_ne ta PySem.F.entry_dict_ne ?_ (PySem.F.args_dict_ne_2 _ _)
  show wpAny _ _ (Builtin.Dict.dictSlotArgs "__ne__" ⟨[.ref a, .str b u], []⟩ >>= _) _ _ s
  refine wpAny_bind ?_
  unfold Builtin.Dict.dictSlotArgs
  refine wpAny_bind (wpAny_notOrdered_dict ta ?_)
  show wpAny _ _ (pure (Value.ref a, Value.str b u)) _ _ s
  refine wpAny_pure ?_
  refine wpAny_bind (wpAny_isInstance (T := "str") (typeIs_str s b u) PySem.F.sub_str_dict ?_)
  simp only [Bool.not_false, if_true]
  refine wpAny_bind (wpAny_rule ?_)
  exact wpAny_pure ⟨_, rfl, h⟩
theorem str_ne_declines_any (b : Str) (u : Tok) (l : Addr) (c : Value) (es : Array DictEntry) (n : Nat) (dd : Option Addr) (sl : Array (Option Value)) :
    Meets (Builtin.«str.__ne__» ⟨[.str b u, .ref l], []⟩) (fun _ R s => s.heap.get? l = some { cls := c, dict := dd, data := .dict es n, slots := sl } ∧ R (.ok (.ret .notImplemented)) s) :=
  .of_wp fun prog w A R s h => by obtain ⟨hp, g, d, tk, os⟩ := s; obtain ⟨hl, h⟩ := h; wp_walk using wpAny_loadPart' hl, wpAny_load hl; exact ⟨_, rfl, h⟩
theorem rcn_dict_str (b : Str) (u : Tok) (ho : ∃ o es n, s.heap.get? a = some o ∧ o.data = .dict es n) (ta : s.TypeIs (.ref a) "dict") (hu : A.units < cLine) : RcNeAt A s (.ref a) (.str b u) true := fun prog w E Q h => by
  obtain ⟨⟨cls, dd, data, sl⟩, es, n, ho, hd⟩ := ho
  simp only at hd
  subst hd
  exact
  rc_ne_decline_or (k := false) ta (typeIs_str s b u) (by decide) F.sub_str_dict F.slot_dict_ne F.slot_str_ne_refl
    (fun _ hq => dict_ne_declines ta hq)
    (fun _ hq => call_meets F.slot_str_ne_refl (typeIs_str s b u) F.entry_str_ne (F.args_str_ne_2 _ _) (str_ne_declines_any b u a cls es n dd sl) ⟨ho, hq⟩)
    (fun _ hq => wpAny_of_eq (rfl : isSame (.ref a) (.str b u) = pure false) hq) (.inr hu) h
theorem rcn_str_dict (b : Str) (u : Tok) (ho : ∃ o es n, s.heap.get? a = some o ∧ o.data = .dict es n) (ta : s.TypeIs (.ref a) "dict") (hu : A.units < cLine) : RcNeAt A s (.str b u) (.ref a) true := fun prog w E Q h => by
  obtain ⟨⟨cls, dd, data, sl⟩, es, n, ho, hd⟩ := ho
  simp only at hd
  subst hd
  exact
  rc_ne_decline_or (k := false) (typeIs_str s b u) ta (by decide) F.sub_dict_str F.slot_str_ne F.slot_dict_ne_refl
    (fun _ hq => call_meets F.slot_str_ne (typeIs_str s b u) F.entry_str_ne (F.args_str_ne_2 _ _) (str_ne_declines_any b u a cls es n dd sl) ⟨ho, hq⟩)
    (fun _ hq => dict_ne_declines ta hq)
    (fun _ hq => wpAny_of_eq (rfl : isSame (.str b u) (.ref a) = pure false) hq) (.inr hu) h
end
end Wp

/-! WpS2: the other operators, subscripts, built-ins, by values. -/
namespace Wp
open PySem PySem.Spec PyProof.Rows L2
section
variable {G : Gx} {F F' H : Hp} {M : Mem} {X : Cx}
theorem opr_mul (hK : X.K = G.K) {fr : Bool} : OpR X (binaryOp .Mult) (lift2 G (mulW fr)) := by
  refine OpR.or2 fun x y H Q ⟨F, M, dx, dy, q, rm, r1, r2, cn, h⟩ => ?_
  cases dy with
  | int k =>
    cases r2
    have lists : (match asLT M dx with
      | some a => -(2 ^ 63) ≤ k ∧ k < 2 ^ 63 ∧ a.length * k.toNat ≤ sizeLine ∧ newL fr (List.replicate k.toNat a).flatten M q
      | none => False) → ∃ r', OpR X (binaryOp .Mult) r' ∧ r' x (.int k) H Q := fun h => by
      cases e1 : asLT M dx with
      | none => rw [e1] at h; exact h.elim
      | some a =>
        rw [e1] at h
        obtain ⟨h1, h2, h3, h4⟩ := h
        obtain ⟨p1, vs1, rfl, g1, g2⟩ := rd_LT rm r1 e1
        obtain ⟨hz, kk⟩ := newL_ok rm (g2.rep k.toNat) cn h4
        exact ⟨_, op_rep, p1, k, vs1, rfl, rfl, g1, h1, h2, by rw [g2.len]; exact h3, kk⟩
    cases dx with
    | int i => cases r1; exact ⟨_, op_mulG, i, k, rfl, rfl, h.1, cn F M H _ _ (Same.refl F) rm (.int _) h.2⟩
    | tup a =>
      obtain ⟨h1, h2, h4, h5⟩ := h
      obtain ⟨p1, vs1, rfl, g1, g2⟩ := rd_T rm r1
      by_cases hk : vs1 ≠ [] ∧ 2 ≤ k
      · exact ⟨_, op_repT, p1, k, vs1, rfl, rfl, by rw [hK]; exact g1, hk.1, hk.2, h2, by rw [g2.len]; exact h4, fun p hp => newT_ok rm (g2.rep k.toNat) cn h5 hp⟩
      · refine ⟨_, op_repT0, p1, k, vs1, rfl, rfl, by rw [hK]; exact g1, h1, by omega, fun e => ?_, fun e1 e2 p hp => ?_, ?_⟩
        · have e2 : (List.replicate k.toNat a).flatten = a := by
            rcases e with e | e
            · subst e; cases g2
              simp
            · subst e
              show (List.replicate 1 a).flatten = a
              simp
          rw [e2] at h5
          exact cn F M H _ _ (Same.refl F) rm r1 h5
        · have e : k.toNat = 0 := by omega
          rw [e] at h5
          exact newT_ok rm .nil cn h5 hp
        · by_cases e : vs1 = []
          · exact .inl e
          · refine .inr ?_
            have h9 : ¬ 2 ≤ k := fun z => hk ⟨e, z⟩
            omega
    | str z =>
      cases r1
      obtain ⟨h1, h2, h3, h4⟩ := h
      exact ⟨_, op_repS, z, k, rfl, rfl, h1, h2, h3, cn F M H _ _ (Same.refl F) rm (.str _) h4⟩
    | _ => exact lists h
  | _ => cases dx <;> exact (show False from h).elim
theorem opr_bin (hK : X.K = G.K) {op : Operator} {fr : Bool} : OpR X (binaryOp op) (lift2 G (binW op fr)) := by
  cases op with
  | Add => exact opr_add hK
  | Mult => exact opr_mul hK
  | Sub =>
    refine OpR.or2 fun x y H Q ⟨F, M, dx, dy, q, rm, r1, r2, cn, h⟩ => ?_
    cases dx <;> cases dy <;> try exact (show False from h).elim
    cases r1; cases r2
    exact ⟨_, op_sub, _, _, rfl, rfl, cn F M H _ _ (Same.refl F) rm (.int _) h⟩
  | Mod =>
    refine OpR.or2 fun x y H Q ⟨F, M, dx, dy, q, rm, r1, r2, cn, h⟩ => ?_
    cases dx <;> cases dy <;> try exact (show False from h).elim
    cases r1; cases r2
    exact ⟨_, op_mod, _, _, rfl, rfl, h.1, cn F M H _ _ (Same.refl F) rm (.int _) h.2⟩
  | FloorDiv =>
    refine OpR.or2 fun x y H Q ⟨F, M, dx, dy, q, rm, r1, r2, cn, h⟩ => ?_
    cases dx <;> cases dy <;> try exact (show False from h).elim
    cases r1; cases r2
    exact ⟨_, op_fdivW, _, _, rfl, rfl, ⟨h.1, h.2.1⟩, cn F M H _ _ (Same.refl F) rm (.int _) h.2.2⟩
  | Pow =>
    refine OpR.or2 fun x y H Q ⟨F, M, dx, dy, q, rm, r1, r2, cn, h⟩ => ?_
    cases dx <;> cases dy <;> try exact (show False from h).elim
    cases r1; cases r2
    exact ⟨_, op_pow, _, _, rfl, rfl, h.1, cn F M H _ _ (Same.refl F) rm (.int _) h.2⟩
  | _ =>
    intro pins s σ H x y v u Q I rx ry ⟨F, M, dx, dy, q, rm, r1, r2, cn, h⟩
    exact (show False from h).elim
/-- a one-place operation -/
def lift1 (G : Gx) (w : D → Mem → QK → Prop) : V → Hp → VK → Prop := fun x H Q => ∃ F M dx q, RM G F M H ∧ RelD G F x dx ∧ Cn G F q Q ∧ w dx M q
theorem unr_neg : UnR X (unaryOp .USub) (lift1 G negW) := by
  intro pins s σ H x v Q I rx ⟨F, M, dx, q, rm, r1, cn, h⟩
  cases dx <;> try exact (show False from h).elim
  cases r1
  exact un_neg pins s σ H _ v Q I rx ⟨_, rfl, cn F M H _ _ (Same.refl F) rm (.int _) h⟩

/-! ### comparisons -/
/-- an empty dict, whatever the world -/
theorem emp_any {P P' : Program} {w w' : World} {h : Heap} {a : Addr} (x : h.DictOf (mixKind P w) a []) : h.DictOf (mixKind P' w') a [] := by
  obtain ⟨o, es, ep, h1, h2, h3, h4, h5, h6⟩ := x
  refine ⟨o, es, ep, h1, h2, h3, ?_, ?_, h6⟩
  · have e : es.toList = [] := by
      have := h5.length
      exact List.length_eq_zero_iff.mp this
    have e2 : es = #[] := by
      obtain ⟨l⟩ := es
      simp only at e
      rw [e]
    subst e2
    intro i hi
    simp at hi
  · have e : es.toList = [] := by
      have := h5.length
      exact List.length_eq_zero_iff.mp this
    rw [e]
    exact .nil
theorem eqOks_get : ∀ {n : Nat} {ds : List D}, eqOks n ds = true → ∀ d ∈ ds, eqOk n d = true
  | _, [], _, d, hd => by cases hd
  | n, x :: ds, h, d, hd => by
    unfold eqOks at h
    rw [Bool.and_eq_true] at h
    cases hd with
    | head => exact h.1
    | tail _ hd => exact eqOks_get h.2 d hd
section
variable {pins : List (Addr × Obj)} {σ : L2.St} {s : Shared}
/-- what two lists of the same hold is alike, one by one -/
theorem eqAt_items {n : Nat} {A : Around} (ih : ∀ (d : D) (x y : V) (v u : Value), eqOk n d = true → RelD G F x d → RelD G F y d → RelV x v → RelV y u → SeqAt.EqAt A s v u true) : ∀ {ds : List D} {xs ys : List V} {us ws : List Value}, eqOks n ds = true → RelDs G F xs ds → RelDs G F ys ds → Vals xs us → Vals ys ws →
    us.length = ws.length ∧ ∀ j (h1 : j < us.length) (h2 : j < ws.length), SeqAt.EqAt A s us[j] ws[j] true
  | [], _, _, _, _, _, .nil, .nil, .nil, .nil => ⟨rfl, fun j h1 _ => absurd h1 (Nat.not_lt_zero j)⟩
  | d :: ds, _, _, _, _, h, .cons a1 b1, .cons a2 b2, .cons c1 e1, .cons c2 e2 => by
    unfold eqOks at h
    rw [Bool.and_eq_true] at h
    obtain ⟨k1, k2⟩ := eqAt_items ih h.2 b1 b2 e1 e2
    refine ⟨congrArg Nat.succ k1, fun j h1 h2 => ?_⟩
    cases j with
    | zero => exact ih _ _ _ _ _ h.1 a1 a2 c1 c2
    | succ j => exact k2 j (Nat.lt_of_succ_lt_succ h1) (Nat.lt_of_succ_lt_succ h2)
theorem eqAt_same (hK : X.K = G.K) {H : Hp} (I : Inv X pins σ H s) (fz : Same F H) : ∀ (n : Nat) (A : Around), A.units + n < cLine → ∀ (d : D) (x y : V) (v u : Value), eqOk n d = true → RelD G F x d → RelD G F y d → RelV x v → RelV y u → SeqAt.EqAt A s v u true
  | 0, _, _, d, _, _, _, _, h, _, _, _, _ => by cases d <;> cases h
  | n + 1, A, hu, d, x, y, v, u, h, r1, r2, rx, ry => by
    have ih := eqAt_same hK I fz n A.in1 (by show A.units + 1 + n < cLine; omega)
    have tru : ∀ k : Nat, ((List.range k).all fun _ => true) = true := fun k => List.all_eq_true.mpr fun _ _ => rfl
    have hA : A.units < cLine := by omega
    cases r1 with
    | non => cases r2; cases (show v = Value.none from rx); cases (show u = Value.none from ry); exact .same _
    | bl b => cases r2; cases (show v = Value.bool b from rx); cases (show u = Value.bool b from ry); exact .same _
    | int i =>
      cases r2
      obtain ⟨t, rfl⟩ := (show ∃ t, v = Value.int i t from rx)
      obtain ⟨t', rfl⟩ := (show ∃ t, u = Value.int i t from ry)
      have := SeqAt.EqAt.int_int (A := A) (s := s) i t i t'
      rw [beq_self_eq_true] at this
      exact this
    | str z =>
      cases r2
      obtain ⟨t, rfl⟩ := (show ∃ t, v = Value.str z t from rx)
      obtain ⟨t', rfl⟩ := (show ∃ t, u = Value.str z t from ry)
      have := SeqAt.EqAt.str_str (A := A) (s := s) z t z t'
      rw [beq_self_eq_true] at this
      exact this
    | @tup a vs ds t1 q1 =>
      cases r2 with
      | @tup b ws _ t2 q2 =>
        cases (show v = Value.ref a from rx)
        cases (show u = Value.ref b from ry)
        by_cases e : a = b
        · subst e; exact .same _
        · have t1 := same_t fz t1
          have t2 := same_t fz t2
          rw [← hK] at t1 t2
          obtain ⟨us, c1, p1, _⟩ := I.tuple t1
          obtain ⟨ws', c2, p2, _⟩ := I.tuple t2
          obtain ⟨hl, he⟩ := eqAt_items ih (ds := ds) h q1 q2 c1 c2
          have z := SeqAt.EqAt.of_refs e (SeqAt.RcAt.tuples (A := A) (e := fun _ => true) p1 p2 hA (fun j h1 h2 => by simpa using he j (by simpa using h1) (by simpa using h2)))
          rw [tru, Bool.true_and, show (us.toArray.size == ws'.toArray.size) = true from by rw [List.size_toArray, List.size_toArray, hl]; exact beq_self_eq_true _] at z
          exact z
    | @lst a vs ds t1 q1 =>
      cases r2 with
      | @lst b ws _ t2 q2 =>
        cases (show v = Value.ref a from rx)
        cases (show u = Value.ref b from ry)
        by_cases e : a = b
        · subst e; exact .same _
        · obtain ⟨us, c1, p1, _⟩ := I.list (.of (fz _ _ t1))
          obtain ⟨ws', c2, p2, _⟩ := I.list (.of (fz _ _ t2))
          obtain ⟨hl, he⟩ := eqAt_items ih (ds := ds) h q1 q2 c1 c2
          have z := SeqAt.EqAt.of_refs e (SeqAt.RcAt.lists (e := fun _ => true) p1.isList p2.isList (by rw [List.size_toArray, List.size_toArray, hl]) hA (fun j h1 h2 => by simpa using he j (by simpa using h1) (by simpa using h2)))
          rw [tru] at z
          exact z
    | scr _ => cases h
    | @emp a t1 =>
      cases r2 with
      | @emp b t2 =>
        cases (show v = Value.ref a from rx)
        cases (show u = Value.ref b from ry)
        by_cases e : a = b
        · subst e; exact .same _
        · obtain ⟨_, ya, va, ra, da⟩ := (show ObjOk X.prog X.w H s.heap a (.dK []) from I.hok a _ (fz _ _ t1))
          obtain ⟨_, yb, vb, rb, db⟩ := (show ObjOk X.prog X.w H s.heap b (.dK []) from I.hok b _ (fz _ _ t2))
          cases ra
          cases rb
          refine SeqAt.EqAt.of_refs e fun prog w E Q hq => ?_
          exact PySem.W.rcP_dicts (knd := mixKind prog w) (r := true) ya yb (emp_any da) (emp_any db) (by omega) (fun _ => .nil) E Q hq
    | loc => cases h
end
theorem dic_in {M : Mem} {y : D} {kvs : List (Sum Int Str × D)} (h : dicAt M y = some kvs) : ∃ a, y = .loc a ∧ M a = some (.dic kvs) := by
  unfold dicAt at h
  split at h
  · split at h
    · cases h
      exact ⟨_, rfl, by assumption⟩
    · cases h
  · cases h
theorem KVR.lookN {G : Gx} {F : Hp} {k : Sum Int Str} {r : List (Key × V)} {t : List (Sum Int Str × D)} (h : KVR G F r t) : lookD t k = none → valV r k = none := by
  intro e
  unfold lookD at e
  unfold valV
  rw [Option.map_eq_none_iff] at e ⊢
  rw [List.find?_eq_none] at e ⊢
  have any := h.anyK (k := k)
  intro x hx hk
  have : (r.any fun kv => decide (kv.1 = k)) = true := List.any_eq_true.mpr ⟨x, hx, hk⟩
  rw [any, List.any_eq_true] at this
  obtain ⟨y, hy, hy2⟩ := this
  exact e y hy hy2
theorem hits_D {G : Gx} {X : Cx} {F H : Hp} {M : Mem} {pins : List (Addr × Obj)} {σ : L2.St} {s : Shared} (hK : X.K = G.K) (hu : X.A.units + 65 < cLine) (rm : RM G F M H) (I : Inv X pins σ H s) {ls : List (Sum Int Str × D)} {vl : List (Key × V)} {vb : List (Key × Value)} (hl : KVR G F vl ls) (rb : KV vl vb) :
    ∀ {ks : List (Sum Int Str × D)} {vk : List (Key × V)} {va : List (Key × Value)} {b : Bool}, KVR G F vk ks → KV vk va → dicEq ls ks = some b → PySem.W.KeqHits X.A.in1 s vb va b
  | [], vk, va, b, h1, h2, e => by
    cases e
    cases h1
    cases h2
    exact .nil
  | (k, d) :: ks, vk, va, b, h1, h2, e => by
    cases h1 with
    | @cons k1 d1 _ ps _ r1 g2 =>
      unfold KV at h2
      cases h2 with
      | @cons _ q _ qs j1 j2 =>
        obtain ⟨k2, v2⟩ := q
        obtain ⟨e2, r2⟩ := j1
        have e2 : k = k2 := e2
        subst e2
        unfold dicEq at e
        have rv : RelO (valV vl k) (valueAt vb k) := rb.val k
        cases hlk : lookD ls k with
        | none =>
          rw [hlk] at e
          cases e
          rw [hl.lookN hlk] at rv
          refine .miss ?_
          cases hv : valueAt vb k with
          | none => rfl
          | some y => rw [hv] at rv; exact (show False from rv).elim
        | some w =>
          rw [hlk] at e
          obtain ⟨w1, w2, w3⟩ := hl.look hlk
          rw [w2] at rv
          obtain ⟨y, hy, ry⟩ := rv.some_of
          dsimp only at e
          split at e
          · rename_i p q b' t1 t2 t3
            split at e
            · rename_i hs
              rw [Bool.and_eq_true] at hs
              cases e
              have z1 := dp_of rm r1 t1
              have z2 := dp_of rm w3 t2
              rw [← hK] at z1 z2
              obtain ⟨as, a1⟩ := Dp.reads I p d1 v2 z1 r2
              obtain ⟨bs, b1⟩ := Dp.reads I q w1 y z2 ry
              exact .hit hy (PySem.W.keq_at a1 b1 hs.1 hs.2 (by show X.A.units + 1 + 64 < cLine; omega)) (hits_D hK hu rm I hl rb g2 j2 t3)
            · cases e
          · cases e
/-- anything flat and a text, the one against the other -/
theorem flK_eq (hK : X.K = G.K) {pins σ s} (I : Inv X pins σ H s) (rm : RM G F M H) (hu : X.A.units + 2 < cLine) {d : D} {y : V} {v : Value} (h : flK d = true) (r : RelD G F y d) (k : RelV y v) (z : Str) (t : Tok) : ∃ e, SeqAt.EqAt X.A.in1 s v (Value.str z t) e := by
  have hA : X.A.in1.units < cLine := by show X.A.units + 1 < cLine; omega
  cases r with
  | non => cases (show v = Value.none from k); exact ⟨_, SeqAt.EqAt.none_str z t⟩
  | bl b => cases (show v = Value.bool b from k); exact ⟨_, SeqAt.EqAt.bool_str b z t⟩
  | int i => obtain ⟨t', rfl⟩ := (show ∃ t', v = Value.int i t' from k); exact ⟨_, SeqAt.EqAt.int_str i t' z t⟩
  | str x => obtain ⟨t', rfl⟩ := (show ∃ t', v = Value.str x t' from k); exact ⟨_, SeqAt.EqAt.str_str x t' z t⟩
  | @tup a vs ds t1 q1 =>
    cases (show v = Value.ref a from k)
    have t1 := same_t rm.fz t1
    rw [← hK] at t1
    obtain ⟨us, c1, p1, _⟩ := I.tuple t1
    exact ⟨_, SeqAt.EqAt.tuple_str z t p1 hA⟩
  | @lst a vs ds t1 q1 =>
    cases (show v = Value.ref a from k)
    obtain ⟨us, c1, p1, _⟩ := I.list (.of (rm.fz _ _ t1))
    exact ⟨_, SeqAt.EqAt.list_str z t p1.isList hA⟩
  | scr _ => cases h
  | @emp a t1 =>
    cases (show v = Value.ref a from k)
    obtain ⟨_, ya, va, ra, da⟩ := (show ObjOk X.prog X.w H s.heap a (.dK []) from I.hok a _ (rm.fz _ _ t1))
    obtain ⟨o, es, ep, ho, _, hd, _⟩ := id da
    exact ⟨_, eqAt_dict_str z t ⟨o, es, ep, ho, hd⟩ da.typeIs hA⟩
  | loc => cases h
theorem opr_eqX (hK : X.K = G.K) (hu : X.A.units + 65 < cLine) {neg : Bool} : OpR X (compareOp (if neg then .NotEq else .Eq)) (lift2 G (eqX neg)) := by
  intro pins s σ H x y v u Q I rx ry ⟨F, M, dx, dy, q, rm, r1, r2, cn, h⟩
  unfold eqX at h
  split at h
  · rename_i ds es
    obtain ⟨e1, e2, h3⟩ := h
    subst e1
    cases r1 with
    | @lst a vs _ t1 q1 =>
      cases r2 with
      | @lst b ws _ t2 q2 =>
        cases (show v = Value.ref a from rx)
        cases (show u = Value.ref b from ry)
        obtain ⟨us, c1, p1, _⟩ := I.list (.of (rm.fz _ _ t1))
        obtain ⟨ws', c2, p2, _⟩ := I.list (.of (rm.fz _ _ t2))
        obtain ⟨hl, he⟩ := eqAt_items (eqAt_same hK I rm.fz 60 X.A.in1 (by show X.A.units + 1 + 60 < cLine; omega)) (ds := ds) e2 q1 q2 c1 c2
        have fin : Q (.bl (!neg)) H := cn F M H _ _ (Same.refl F) rm (.bl _) h3
        have tru : ((List.range us.toArray.size).all fun _ => true) = true := List.all_eq_true.mpr fun _ _ => rfl
        have hsz : us.toArray.size = ws'.toArray.size := by rw [List.size_toArray, List.size_toArray, hl]
        cases neg with
        | false =>
          refine SeqAt.RcAt.lists (e := fun _ => true) p1.isList p2.isList hsz (by omega) (fun j h1 h2 => by simpa using he j (by simpa using h1) (by simpa using h2)) X.prog X.w _ _ ?_
          rw [tru]
          exact ⟨.bl true, H, I, rfl, fin⟩
        | true =>
          refine SeqAt.RcNeAt.lists (e := fun _ => true) p1.isList p2.isList hsz (by omega) (fun j h1 h2 => by simpa using he j (by simpa using h1) (by simpa using h2)) X.prog X.w _ _ ?_
          rw [tru]
          exact ⟨.bl false, H, I, rfl, fin⟩
  · rename_i d d2 ds z
    obtain ⟨h1, h3⟩ := h
    cases r1 with
    | @tup a vs _ t1 q1 =>
      cases r2 with
      | @tup b ws _ t2 q2 =>
        cases (show v = Value.ref a from rx)
        cases (show u = Value.ref b from ry)
        have t1 := same_t rm.fz t1
        have t2 := same_t rm.fz t2
        rw [← hK] at t1 t2
        obtain ⟨us, c1, p1, _⟩ := I.tuple t1
        obtain ⟨ws', c2, p2, _⟩ := I.tuple t2
        have fin : Q (.bl neg) H := cn F M H _ _ (Same.refl F) rm (.bl _) h3
        cases q1 with
        | cons y1 q1 =>
          cases q1 with
          | cons y2 q1 =>
            cases q2 with
            | cons z1 q2 =>
              cases q2
              cases z1
              cases c1 with
              | cons k1 c1 =>
                cases c1 with
                | cons k2 c1 =>
                  cases c2 with
                  | cons k3 c2 =>
                    cases c2
                    obtain ⟨tk, rfl⟩ := (show ∃ tk, _ = Value.str z tk from k3)
                    obtain ⟨e0, he0⟩ := flK_eq hK I rm (hu := by omega) h1 y1 k1 z tk
                    have hj : ∀ (xs : Array Value) (i : Value) (r : List Value), xs = (i :: r).toArray → SeqAt.EqAt X.A.in1 s i (Value.str z tk) e0 → ∀ j (h1 : j < xs.size) (h2 : j < [Value.str z tk].toArray.size), SeqAt.EqAt X.A.in1 s xs[j] [Value.str z tk].toArray[j] e0 := fun xs i r hx hi j h1 h2 => by
                      subst hx
                      cases j with
                      | zero => exact hi
                      | succ j => exact absurd h2 (by simp)
                    cases neg with
                    | false =>
                      refine SeqAt.RcAt.tuples (e := fun _ => e0) p1 p2 (by omega) (hj _ _ _ rfl he0) X.prog X.w _ _ ?_
                      rw [show ((_ : Bool) && (_ : Nat) == _) = false from by simp]
                      exact ⟨.bl false, H, I, rfl, fin⟩
                    | true =>
                      refine SeqAt.RcNeAt.tuples (e := fun _ => e0) p1 p2 (by omega) (hj _ _ _ rfl he0) X.prog X.w _ _ ?_
                      rw [show (!((_ : Bool) && (_ : Nat) == _)) = true from by simp]
                      exact ⟨.bl true, H, I, rfl, fin⟩
  · rename_i ds es _
    obtain ⟨e1, e2, h3⟩ := h
    subst e1
    cases r1 with
    | @tup a vs _ t1 q1 =>
      cases r2 with
      | @tup b ws _ t2 q2 =>
        cases (show v = Value.ref a from rx)
        cases (show u = Value.ref b from ry)
        have t1 := same_t rm.fz t1
        have t2 := same_t rm.fz t2
        rw [← hK] at t1 t2
        obtain ⟨us, c1, p1, _⟩ := I.tuple t1
        obtain ⟨ws', c2, p2, _⟩ := I.tuple t2
        obtain ⟨hl, he⟩ := eqAt_items (eqAt_same hK I rm.fz 60 X.A.in1 (by show X.A.units + 1 + 60 < cLine; omega)) (ds := ds) e2 q1 q2 c1 c2
        have fin : Q (.bl (!neg)) H := cn F M H _ _ (Same.refl F) rm (.bl _) h3
        have tru : ((List.range us.toArray.size).all fun _ => true) = true := List.all_eq_true.mpr fun _ _ => rfl
        have hsz : (us.toArray.size == ws'.toArray.size) = true := by rw [List.size_toArray, List.size_toArray, hl]; exact beq_self_eq_true _
        have hmin : ((List.range (min us.toArray.size ws'.toArray.size)).all fun _ => true) = true := List.all_eq_true.mpr fun _ _ => rfl
        cases neg with
        | false =>
          refine SeqAt.RcAt.tuples (e := fun _ => true) p1 p2 (by omega) (fun j h1 h2 => by simpa using he j (by simpa using h1) (by simpa using h2)) X.prog X.w _ _ ?_
          first
            | rw [tru, Bool.true_and, hsz]
            | rw [hmin, Bool.true_and, hsz]
          exact ⟨.bl true, H, I, rfl, fin⟩
        | true =>
          refine SeqAt.RcNeAt.tuples (e := fun _ => true) p1 p2 (by omega) (fun j h1 h2 => by simpa using he j (by simpa using h1) (by simpa using h2)) X.prog X.w _ _ ?_
          first
            | rw [tru, Bool.true_and, hsz]
            | rw [hmin, Bool.true_and, hsz]
          exact ⟨.bl false, H, I, rfl, fin⟩
  · cases r1 with
    | @emp a t1 =>
      cases r2 with
      | @emp b t2 =>
        cases neg with
        | false => exact op_eq_dictA (by omega) pins s σ H _ _ v u Q I rx ry ⟨a, b, [], [], rfl, rfl, rm.fz _ _ t1, rm.fz _ _ t2, rfl, (fun p hp => by cases hp), cn F M H _ _ (Same.refl F) rm (.bl _) h⟩
        | true => exact op_ne_dictA (by omega) pins s σ H _ _ v u Q I rx ry ⟨a, b, [], [], rfl, rfl, rm.fz _ _ t1, rm.fz _ _ t2, rfl, (fun p hp => by cases hp), cn F M H _ _ (Same.refl F) rm (.bl _) h⟩
  · rename_i z
    cases r1 with
    | @emp a t1 =>
      cases r2 with
      | str =>
        cases (show v = Value.ref a from rx)
        obtain ⟨tk, rfl⟩ := (show ∃ tk, u = Value.str z tk from ry)
        obtain ⟨_, ya, va, ra, da⟩ := (show ObjOk X.prog X.w H s.heap a (.dK []) from I.hok a _ (rm.fz _ _ t1))
        obtain ⟨o, es, ep, ho, _, hd, _⟩ := id da
        have fin : Q (.bl neg) H := cn F M H _ _ (Same.refl F) rm (.bl _) h
        cases neg with
        | false => exact rc_dict_str z tk ⟨o, es, ep, ho, hd⟩ da.typeIs (by omega) X.prog X.w _ _ ⟨.bl false, H, I, rfl, fin⟩
        | true => exact rcn_dict_str z tk ⟨o, es, ep, ho, hd⟩ da.typeIs (by omega) X.prog X.w _ _ ⟨.bl true, H, I, rfl, fin⟩
  · rename_i z
    cases r2 with
    | @emp a t1 =>
      cases r1 with
      | str =>
        cases (show u = Value.ref a from ry)
        obtain ⟨tk, rfl⟩ := (show ∃ tk, v = Value.str z tk from rx)
        obtain ⟨_, ya, va, ra, da⟩ := (show ObjOk X.prog X.w H s.heap a (.dK []) from I.hok a _ (rm.fz _ _ t1))
        obtain ⟨o, es, ep, ho, _, hd, _⟩ := id da
        have fin : Q (.bl neg) H := cn F M H _ _ (Same.refl F) rm (.bl _) h
        cases neg with
        | false => exact rc_str_dict z tk ⟨o, es, ep, ho, hd⟩ da.typeIs (by omega) X.prog X.w _ _ ⟨.bl false, H, I, rfl, fin⟩
        | true => exact rcn_str_dict z tk ⟨o, es, ep, ho, hd⟩ da.typeIs (by omega) X.prog X.w _ _ ⟨.bl true, H, I, rfl, fin⟩
  · rename_i a b
    cases h1 : dicAt M (.loc a) with
    | none => rw [h1] at h; exact h.elim
    | some ks =>
      cases h2 : dicAt M (.loc b) with
      | none => rw [h1, h2] at h; exact h.elim
      | some ls =>
        rw [h1, h2] at h
        cases h3 : dicEq ls ks with
        | none => dsimp only at h; rw [h3] at h; exact h.elim
        | some r =>
          dsimp only at h
          rw [h3] at h
          dsimp only at h
          obtain ⟨a', e1, m1⟩ := dic_in h1
          obtain ⟨b', e2, m2⟩ := dic_in h2
          cases e1
          cases e2
          cases r1
          cases r2
          cases (show v = Value.ref a from rx)
          cases (show u = Value.ref b from ry)
          obtain ⟨_, vk, g1, g2⟩ := rm.mt a _ m1
          obtain ⟨_, vl, j1, j2⟩ := rm.mt b _ m2
          obtain ⟨_, ya, va, ra, da⟩ := (show ObjOk X.prog X.w H s.heap a (.dK vk) from I.hok a _ g1)
          obtain ⟨_, yb, vb, rb, db⟩ := (show ObjOk X.prog X.w H s.heap b (.dK vl) from I.hok b _ j1)
          have hits := hits_D hK hu rm I j2 rb g2 ra h3
          have l1 : va.length = ks.length := by rw [← ra.length]; exact g2.len
          have l2 : vb.length = ls.length := by rw [← rb.length]; exact j2.len
          have fin := cn F M H _ _ (Same.refl F) rm (.bl _) h
          cases neg with
          | false => exact PySem.W.keq_eq (knd := mixKind X.prog X.w) ya yb da db (by omega) (fun _ => hits) ⟨.bl (va.length == vb.length && r), H, I, rfl, by rw [l1, l2]; exact fin⟩
          | true => exact PySem.W.keq_ne (knd := mixKind X.prog X.w) ya yb da db (by omega) (fun _ => hits) ⟨.bl (!(va.length == vb.length && r)), H, I, rfl, by rw [l1, l2]; exact fin⟩
  · exact h.elim
theorem opr_eqF (hK : X.K = G.K) (hu : X.A.units + 65 < cLine) {neg : Bool} : OpR X (compareOp (if neg then .NotEq else .Eq)) (lift2 G (eqF neg)) := by
  refine OpR.or2 fun x y H Q ⟨F, M, dx, dy, q, rm, r1, r2, cn, h⟩ => ?_
  unfold eqF at h
  cases e1 : toPyF M 30 dx with
  | none => rw [e1] at h; exact ⟨_, opr_eqX hK hu, F, M, dx, dy, q, rm, r1, r2, cn, h⟩
  | some d =>
    cases e2 : toPyF M 30 dy with
    | none => rw [e1, e2] at h; exact ⟨_, opr_eqX hK hu, F, M, dx, dy, q, rm, r1, r2, cn, h⟩
    | some e =>
      rw [e1, e2] at h
      obtain ⟨h1, h2, h3⟩ := h
      have z1 := dp_F rm 30 r1 e1
      have z2 := dp_F rm 30 r2 e2
      rw [← hK] at z1 z2
      cases neg with
      | false => exact ⟨_, op_eqD (by omega), d, e, z1, z2, h1, h2, cn F M H _ _ (Same.refl F) rm (.bl _) h3⟩
      | true => exact ⟨_, op_neD (by omega), d, e, z1, z2, h1, h2, cn F M H _ _ (Same.refl F) rm (.bl _) h3⟩
theorem opr_eqP (hK : X.K = G.K) (hu : X.A.units + 65 < cLine) {neg : Bool} : OpR X (compareOp (if neg then .NotEq else .Eq)) (lift2 G (eqP neg)) := by
  refine OpR.or2 fun x y H Q ⟨F, M, dx, dy, q, rm, r1, r2, cn, h⟩ => ?_
  unfold eqP at h
  cases e1 : toPyM M dx with
  | none => rw [e1] at h; exact ⟨_, opr_eqF hK hu, F, M, dx, dy, q, rm, r1, r2, cn, h⟩
  | some d =>
    cases e2 : toPyM M dy with
    | none => rw [e1, e2] at h; exact ⟨_, opr_eqF hK hu, F, M, dx, dy, q, rm, r1, r2, cn, h⟩
    | some e =>
      rw [e1, e2] at h
      obtain ⟨h1, h2, h3⟩ := h
      have z1 := dp_M rm r1 e1
      have z2 := dp_M rm r2 e2
      rw [← hK] at z1 z2
      cases neg with
      | false => exact ⟨_, op_eqD (by omega), d, e, z1, z2, h1, h2, cn F M H _ _ (Same.refl F) rm (.bl _) h3⟩
      | true => exact ⟨_, op_neD (by omega), d, e, z1, z2, h1, h2, cn F M H _ _ (Same.refl F) rm (.bl _) h3⟩
/-- lists of unlike lengths -/
theorem op_unlike (hu : X.A.units < cLine) (neg : Bool) : OpR X (compareOp (if neg then .NotEq else .Eq)) (fun x y H Q => ∃ p r xs ys, x = .ref p ∧ y = .ref r ∧ SqL X.K H p xs ∧ SqL X.K H r ys ∧ xs.length ≠ ys.length ∧ Q (.bl neg) H) := by
  intro pins s σ H x y v u Q I rx ry ⟨p, r, xs, ys, e1, e2, h1, h2, hne, q⟩
  subst e1 e2
  cases rx
  cases ry
  obtain ⟨its, r1, pl, _⟩ := I.list h1
  obtain ⟨its2, r2, pl2, _⟩ := I.list h2
  have hsz : (its.toArray.size != its2.toArray.size) = true := by
    rw [List.size_toArray, List.size_toArray, ← r1.length, ← r2.length]
    simpa using hne
  cases neg with
  | false => exact SeqAt.eq_list_lengthsAt pl.isList pl2.isList hsz hu ⟨.bl false, H, I, rfl, q⟩
  | true => exact SeqAt.RcNeAt.lists_lengths pl.isList pl2.isList hsz hu X.prog X.w _ _ ⟨.bl true, H, I, rfl, q⟩
/-- tuples, of which one alone is empty -/
theorem op_unlikeT (hu : X.A.units < cLine) (neg : Bool) : OpR X (compareOp (if neg then .NotEq else .Eq)) (fun x y H Q => ∃ p r xs ys, x = .ref p ∧ y = .ref r ∧ SqT X.K H p xs ∧ SqT X.K H r ys ∧ ((xs = [] ∧ ys ≠ []) ∨ (xs ≠ [] ∧ ys = [])) ∧ Q (.bl neg) H) := by
  intro pins s σ H x y v u Q I rx ry ⟨p, r, xs, ys, e1, e2, h1, h2, hne, q⟩
  subst e1 e2
  cases rx
  cases ry
  obtain ⟨its, r1, pl, _⟩ := I.tuple h1
  obtain ⟨its2, r2, pl2, _⟩ := I.tuple h2
  have l1 := r1.length
  have l2 := r2.length
  have no : ∀ j, j < its.toArray.size → j < its2.toArray.size → False := fun j a b => by
    rw [List.size_toArray] at a b
    rcases hne with ⟨e, _⟩ | ⟨_, e⟩ <;> subst e <;> simp only [List.length_nil] at l1 l2 <;> omega
  have val : ((List.range (min its.toArray.size its2.toArray.size)).all (fun _ => true) && its.toArray.size == its2.toArray.size) = false := by
    rw [List.size_toArray, List.size_toArray, ← l1, ← l2, Bool.and_eq_false_iff]
    refine .inr (beq_eq_false_iff_ne.mpr ?_)
    rcases hne with ⟨e, e'⟩ | ⟨e', e⟩ <;> subst e
    · exact fun z => e' (List.eq_nil_of_length_eq_zero z.symm)
    · exact fun z => e' (List.eq_nil_of_length_eq_zero z)
  cases neg with
  | false => exact SeqAt.eq_tupleAt (e := fun _ => true) pl pl2 hu (fun j a b => (no j a b).elim) (by rw [val]; exact ⟨.bl false, H, I, rfl, q⟩)
  | true =>
    have h := SeqAt.RcNeAt.tuples (e := fun _ => true) pl pl2 hu (fun j a b => (no j a b).elim)
    rw [val] at h
    exact h X.prog X.w _ _ ⟨.bl true, H, I, rfl, q⟩
theorem opr_eq (hK : X.K = G.K) (hu : X.A.units + 65 < cLine) {neg : Bool} : OpR X (compareOp (if neg then .NotEq else .Eq)) (lift2 G (eqW neg)) := by
  refine OpR.or2 fun x y H Q ⟨F, M, dx, dy, q, rm, r1, r2, cn, h⟩ => ?_
  unfold eqW at h
  split at h
  · rename_i b eb
    have atom : ∀ {u v : V}, scal u v = true → (∀ F M, RelD G F x dx → RelD G F y dy → x = u ∧ y = v) → decide (u = v) = b → ∃ r', OpR X (compareOp (if neg then .NotEq else .Eq)) r' ∧ r' x y H Q := fun {u v} s g e => by
      obtain ⟨e1, e2⟩ := g F M r1 r2
      subst e1 e2
      cases neg with
      | false => exact ⟨_, op_eq, s, cn F M H _ _ (Same.refl F) rm (by rw [e]; exact .bl _) h⟩
      | true => exact ⟨_, op_ne, s, cn F M H _ _ (Same.refl F) rm (by rw [e]; exact .bl _) h⟩
    unfold eqA at eb
    split at eb <;> cases eb <;> cases r1 <;> cases r2 <;> refine atom ?_ (fun F M a b => ⟨rfl, rfl⟩) ?_ <;> first | rfl | simp
  unfold eqL at h
  split at h
  · split at h
    · exact ⟨_, opr_eqP hK hu, F, M, dx, dy, q, rm, r1, r2, cn, h⟩
    · rename_i xs ys e1 e2 hne
      obtain ⟨p, vs, rfl, g1, g2⟩ := rd_L rm r1 e1
      obtain ⟨r, ws, rfl, g3, g4⟩ := rd_L rm r2 e2
      exact ⟨_, op_unlike (by omega) neg, p, r, vs, ws, rfl, rfl, by rw [hK]; exact g1, by rw [hK]; exact g3, by rw [g2.len, g4.len]; exact hne, cn F M H _ _ (Same.refl F) rm (.bl _) h⟩
  · split at h
    · rename_i eu
      unfold eqU at eu
      split at eu
      · obtain ⟨p, vs, rfl, g1, g2⟩ := rd_T rm r1
        obtain ⟨r, ws, rfl, g3, g4⟩ := rd_T rm r2
        cases g2; cases g4
        exact ⟨_, op_unlikeT (by omega) neg, p, r, _, _, rfl, rfl, by rw [hK]; exact g1, by rw [hK]; exact g3, .inl ⟨rfl, by simp⟩, cn F M H _ _ (Same.refl F) rm (.bl _) h⟩
      · obtain ⟨p, vs, rfl, g1, g2⟩ := rd_T rm r1
        obtain ⟨r, ws, rfl, g3, g4⟩ := rd_T rm r2
        cases g2; cases g4
        exact ⟨_, op_unlikeT (by omega) neg, p, r, _, _, rfl, rfl, by rw [hK]; exact g1, by rw [hK]; exact g3, .inr ⟨by simp, rfl⟩, cn F M H _ _ (Same.refl F) rm (.bl _) h⟩
      · cases eu
    · exact ⟨_, opr_eqP hK hu, F, M, dx, dy, q, rm, r1, r2, cn, h⟩
def rInTD (K : PySem.W.Frag) (neg : Bool) : R2 := fun x y H Q => ∃ d ds, Dp K H x d ∧ Dp K H y (.tuple ds) ∧ SeqAt.shaped d = true ∧ SeqAt.shaped (.list ds) = true ∧ Q (.bl (if neg then !ds.any fun z => PyData.eqv z d else ds.any fun z => PyData.eqv z d)) H
theorem op_inTD (hu : X.A.units + 65 < cLine) (neg : Bool) : OpR X (compareOp (if neg then .NotIn else .In)) (rInTD X.K neg) := by
  intro pins s σ H x y v u Q I rx ry h
  obtain ⟨d, ds, hd, he, sd, se, q⟩ := h
  obtain ⟨as, r1⟩ := Dp.reads I d x v hd rx
  obtain ⟨bs, r2⟩ := Dp.reads I (.tuple ds) y u he ry
  cases neg with
  | false => exact SeqAt.in_tuple_reads r2 r1 (SeqAt.canLay_of_shaped se) (SeqAt.canLay_of_shaped sd) (room_in_shaped sd hu) ⟨.bl _, H, I, rfl, q⟩
  | true => exact SeqAt.notIn_tuple_reads r2 r1 (SeqAt.canLay_of_shaped se) (SeqAt.canLay_of_shaped sd) (room_in_shaped sd hu) ⟨.bl _, H, I, rfl, q⟩
theorem dpAll_of (r : RM G F M H) {ds : List D} {vs : List V} {ps : List PyData} (h : RelDs G F vs ds) (e : toPys ds = some ps) : DpAll G.K H vs ps := dp_all r h e
theorem strs_vals : ∀ {zs : List Str} {us : List Value}, Vals (zs.map V.str) us → ∀ y ∈ us, ∃ z t, y = Value.str z t
  | [], _, .nil, y, hy => by cases hy
  | z :: zs, u :: us, .cons k1 c1, y, hy => by
    rcases List.mem_cons.mp hy with rfl | hm
    · exact ⟨z, k1⟩
    · exact strs_vals c1 y hm
/-- a {} at a place, a tuple of texts -/
def InE (X : Cx) (H : Hp) (x y : V) : Prop := ∃ (a b : Addr) (vs : List V) (zs : List Str), x = .ref a ∧ y = .ref b ∧ H a = some (.dK []) ∧ SqT X.K H b vs ∧ vs = zs.map V.str
theorem op_in_emp {X : Cx} (hu : X.A.units + 2 < cLine) (neg : Bool) : OpR X (compareOp (if neg then .NotIn else .In)) (fun x y H Q => InE X H x y ∧ Q (.bl neg) H) := by
  intro pins s σ H x y v u Q I rx ry ⟨⟨a, b, vs, zs, e1, e2, h1, h2, e3⟩, q⟩
  subst e1 e2
  cases (show v = Value.ref a from rx)
  cases (show u = Value.ref b from ry)
  obtain ⟨us, c1, p1, _⟩ := I.tuple h2
  obtain ⟨_, ya, va, ra, da⟩ := (show ObjOk X.prog X.w H s.heap a (.dK []) from I.hok a _ h1)
  obtain ⟨o, es, ep, ho, _, hd, _⟩ := id da
  have hA : X.A.in1.units < cLine := by show X.A.units + 1 < cLine; omega
  have he : ∀ y, y ∈ us.toArray → SeqAt.EqAt X.A.in1 s y (Value.ref a) ((fun _ => false) y) := fun y hy => by
    obtain ⟨z, t, rfl⟩ : ∃ z t, y = Value.str z t := by
      subst e3
      exact strs_vals c1 y (by simpa using hy)
    exact eqAt_str_dict z t ⟨o, es, ep, ho, hd⟩ da.typeIs hA
  have hany : us.toArray.any (fun _ => false) = false := by simp
  cases neg with
  | false => exact SeqAt.in_tupleAt (fun _ => false) p1 he (by rw [hany]; exact ⟨.bl false, H, I, rfl, q⟩)
  | true => exact SeqAt.notIn_tupleAt (fun _ => false) p1 he (by rw [hany]; exact ⟨.bl true, H, I, rfl, q⟩)
theorem strs_relE : ∀ {vs : List V} {ys : List D}, RelDs G F vs ys → allStr ys = true → ∃ zs : List Str, vs = zs.map V.str
  | _, [], .nil, _ => ⟨[], rfl⟩
  | _, .str z :: ys, .cons r q, h => by
    cases r
    obtain ⟨zs, e⟩ := strs_relE q h
    exact ⟨z :: zs, by rw [e]; rfl⟩
theorem RM.in_emp (rm : RM G F M H) (hK : X.K = G.K) {x y : V} {ys : List D} (r1 : RelD G F x .emp) (r2 : RelD G F y (.tup ys)) (h : allStr ys = true) : InE X H x y := by
  cases r1 with
  | @emp a t1 =>
    cases r2 with
    | @tup b ws _ t2 q2 =>
      have t2 := same_t rm.fz t2
      rw [← hK] at t2
      obtain ⟨zs, e⟩ := strs_relE q2 h
      exact ⟨a, b, ws, zs, rfl, rfl, rm.fz _ _ t1, t2, e⟩
theorem opr_inS (hK : X.K = G.K) (hu : X.A.units + 65 < cLine) {neg : Bool} : OpR X (compareOp (if neg then .NotIn else .In)) (lift2 G (inS neg)) := by
  refine OpR.or2 fun x y H Q ⟨F, M, dx, dy, q, rm, r1, r2, cn, h⟩ => ?_
  have seqs : (match toPyM M dx, asS M dy with
    | some d, some ys => match toPys ys with
      | some ds => SeqAt.shaped d = true ∧ SeqAt.shaped (.list ds) = true ∧ q (.bl (if neg then !(ds.any fun z => PyData.eqv z d) else ds.any fun z => PyData.eqv z d)) M
      | none => False
    | _, _ => False) → ∃ r', OpR X (compareOp (if neg then .NotIn else .In)) r' ∧ r' x y H Q := fun h => by
    cases e1 : toPyM M dx with
    | none => rw [e1] at h; exact h.elim
    | some d =>
      cases e2 : asS M dy with
      | none => rw [e1, e2] at h; exact h.elim
      | some ys =>
        rw [e1, e2] at h
        cases e3 : toPys ys with
        | none => dsimp only at h; rw [e3] at h; exact h.elim
        | some ds =>
          dsimp only at h
          rw [e3] at h
          obtain ⟨h1, h2, h3⟩ := h
          have z1 := dp_M rm r1 e1
          obtain ⟨p, vs, rfl, g1, g2⟩ := rd_S rm r2 e2
          have z2 := dp_all rm g2 e3
          have c := cn F M H _ _ (Same.refl F) rm (.bl _) h3
          rw [← hK] at z1 z2 g1
          rcases g1 with g1 | g1
          · cases neg with
            | false => exact ⟨_, op_inD hu, d, ds, z1, .lst g1 z2, h1, h2, c⟩
            | true => exact ⟨_, op_notInD hu, d, ds, z1, .lst g1 z2, h1, h2, c⟩
          · exact ⟨_, op_inTD hu neg, d, ds, z1, .tup g1 z2, h1, h2, c⟩
  cases dx with
  | emp =>
    cases dy with
    | tup ys =>
      obtain ⟨h1, h3⟩ := (show allStr ys = true ∧ q (.bl neg) M from h)
      exact ⟨_, op_in_emp (by omega) neg, rm.in_emp hK r1 r2 h1, cn F M H _ _ (Same.refl F) rm (.bl _) h3⟩
    | _ => exact seqs h
  | str a =>
    cases dy with
    | str b =>
      cases r1; cases r2
      cases neg with
      | false => exact ⟨_, op_in_str, a, b, rfl, rfl, cn F M H _ _ (Same.refl F) rm (.bl _) h⟩
      | true => exact ⟨_, op_notIn_str, a, b, rfl, rfl, cn F M H _ _ (Same.refl F) rm (.bl _) h⟩
    | _ => exact seqs h
  | _ => exact seqs h
theorem keyV {G : Gx} {F : Hp} {v : V} {d : D} {k : Sum Int Str} (r : RelD G F v d) (e : keyD d = some k) : v = kV k := by
  cases r <;> first | (cases e; done) | (cases e; rfl)
theorem op_dIn {X : Cx} (hu : X.A.units + 1 < cLine) (neg : Bool) : OpR X (compareOp (if neg then .NotIn else .In)) (fun y x H Q => ∃ a o, x = .ref a ∧ DGet H a y o ∧ Q (.bl (if neg then !o.isSome else o.isSome)) H) := by
  intro pins s σ H x y v u Q I rx ry h
  obtain ⟨a, o, rfl, g, q⟩ := h
  obtain rfl : u = Value.ref a := ry
  cases neg with
  | false => exact d_in hu I g rx fun s' I' => ⟨.bl o.isSome, H, I', rfl, q⟩
  | true => exact d_notIn hu I g rx fun s' I' => ⟨.bl (!o.isSome), H, I', rfl, q⟩
theorem opr_in (hK : X.K = G.K) (hu : X.A.units + 65 < cLine) {neg : Bool} : OpR X (compareOp (if neg then .NotIn else .In)) (lift2 G (inW neg)) := by
  refine OpR.or2 fun x y H Q ⟨F, M, dx, dy, q, rm, r1, r2, cn, h⟩ => ?_
  unfold inW at h
  cases hd : dicAt M dy with
  | some kvs =>
    obtain ⟨a, rfl, hm⟩ := dic_in hd
    cases r2
    rw [hd] at h
    cases hk : keyD dx with
    | none => rw [hk] at h; exact h.elim
    | some k =>
      rw [hk] at h
      obtain ⟨nf, vks, g1, g2⟩ := rm.mt a _ hm
      refine ⟨_, op_dIn (by omega) neg, a, valV vks k, rfl, ?_, ?_⟩
      · rw [keyV r1 hk]; exact DGet.k g1
      · have e : (valV vks k).isSome = (lookD kvs k).isSome := by
          cases e1 : lookD kvs k with
          | none => rw [g2.lookN e1]; rfl
          | some d =>
            obtain ⟨w, w1, _⟩ := g2.look e1
            rw [w1]; rfl
        rw [e]
        exact cn F M H _ _ (Same.refl F) rm (.bl _) h
  | none =>
    rw [hd] at h
    exact ⟨_, opr_inS hK hu, F, M, dx, dy, q, rm, r1, r2, cn, h⟩
theorem gt_cases {x y : D} {M : Mem} {q : QK} (h : cmpW .Gt x y M q) : (∃ i j, x = .int i ∧ y = .int j ∧ q (.bl (decide (j < i))) M) ∨ (∃ a b, x = .str a ∧ y = .str b ∧ q (.bl (decide (b.cps.toList < a.cps.toList))) M) ∨ (∃ xs ys ns ms, asL M x = some xs ∧ asL M y = some ys ∧ intsOf xs = some ns ∧ intsOf ys = some ms ∧ q (.bl (gtL ns ms)) M) := by
  dsimp only [cmpW] at h
  split at h
  · exact .inl ⟨_, _, rfl, rfl, h⟩
  · exact .inr (.inl ⟨_, _, rfl, rfl, h⟩)
  · split at h
    · rename_i e1 e2
      split at h
      · rename_i e3 e4
        exact .inr (.inr ⟨_, _, _, _, e1, e2, e3, e4, h⟩)
      · exact h.elim
    · exact h.elim
theorem ints_relL : ∀ {vs : List V} {ds : List D} {ns : List Int}, RelDs G F vs ds → intsOf ds = some ns → vs = ns.map V.int
  | _, _, _, .nil, e => by cases e; rfl
  | _, d :: ds, ns, .cons r t, e => by
    cases d with
    | int i =>
      unfold intsOf at e
      cases q : intsOf ds with
      | none => rw [q] at e; cases e
      | some ms =>
        rw [q] at e; cases e
        cases r
        rw [ints_relL t q]; rfl
    | _ => cases e
theorem opr_cmp (hK : X.K = G.K) (hu : X.A.units + 65 < cLine) {op : CmpOp} : OpR X (compareOp op) (lift2 G (cmpW op)) := by
  have hu4 : X.A.units + 64 < cLine := by omega
  cases op with
  | Eq => exact opr_eq hK hu (neg := false)
  | NotEq => exact opr_eq hK hu (neg := true)
  | In => exact opr_in hK hu (neg := false)
  | NotIn => exact opr_in hK hu (neg := true)
  | Lt =>
    refine OpR.or2 fun x y H Q ⟨F, M, dx, dy, q, rm, r1, r2, cn, h⟩ => ?_
    cases dx <;> cases dy <;> try exact (show False from h).elim
    · cases r1; cases r2
      exact ⟨_, op_lt, _, _, rfl, rfl, cn F M H _ _ (Same.refl F) rm (.bl _) h⟩
    · cases r1; cases r2
      exact ⟨_, op_lt_str, _, _, rfl, rfl, cn F M H _ _ (Same.refl F) rm (.bl _) h⟩
  | LtE =>
    refine OpR.or2 fun x y H Q ⟨F, M, dx, dy, q, rm, r1, r2, cn, h⟩ => ?_
    cases dx <;> cases dy <;> try exact (show False from h).elim
    · cases r1; cases r2
      exact ⟨_, op_le, _, _, rfl, rfl, cn F M H _ _ (Same.refl F) rm (.bl _) h⟩
    · cases r1; cases r2
      exact ⟨_, op_le_str, _, _, rfl, rfl, cn F M H _ _ (Same.refl F) rm (.bl _) h⟩
  | Gt =>
    refine OpR.or2 fun x y H Q ⟨F, M, dx, dy, q, rm, r1, r2, cn, h⟩ => ?_
    rcases gt_cases h with ⟨i, j, rfl, rfl, h⟩ | ⟨a, b, rfl, rfl, h⟩ | ⟨xs, ys, ns, ms, e1, e2, e3, e4, h⟩
    · cases r1; cases r2
      exact ⟨_, op_gt, _, _, rfl, rfl, cn F M H _ _ (Same.refl F) rm (.bl _) h⟩
    · cases r1; cases r2
      exact ⟨_, op_gt_str, _, _, rfl, rfl, cn F M H _ _ (Same.refl F) rm (.bl _) h⟩
    · obtain ⟨p, vs, rfl, g1, g2⟩ := rd_L rm r1 e1
      obtain ⟨r, ws, rfl, g3, g4⟩ := rd_L rm r2 e2
      rw [ints_relL g2 e3] at g1
      rw [ints_relL g4 e4] at g3
      exact ⟨_, op_gtL (by omega), p, r, ns, ms, rfl, rfl, by rw [hK]; exact g1, by rw [hK]; exact g3, cn F M H _ _ (Same.refl F) rm (.bl _) h⟩
  | GtE =>
    refine OpR.or2 fun x y H Q ⟨F, M, dx, dy, q, rm, r1, r2, cn, h⟩ => ?_
    cases dx <;> cases dy <;> try exact (show False from h).elim
    · cases r1; cases r2
      exact ⟨_, op_ge, _, _, rfl, rfl, cn F M H _ _ (Same.refl F) rm (.bl _) h⟩
    · cases r1; cases r2
      exact ⟨_, op_ge_str, _, _, rfl, rfl, cn F M H _ _ (Same.refl F) rm (.bl _) h⟩
  | Is =>
    refine OpR.or2 fun x y H Q ⟨F, M, dx, dy, q, rm, r1, r2, cn, h⟩ => ?_
    have c : ∀ {b}, q (.bl b) M → Q (.bl b) H := fun h => cn F M H _ _ (Same.refl F) rm (.bl _) h
    cases dy <;> cases dx <;> try exact (show False from h).elim
    all_goals cases r1; cases r2; first
      | exact ⟨_, op_is_bl, _, _, rfl, rfl, c h⟩
      | exact ⟨_, op_isN, rfl, c h⟩
  | IsNot =>
    refine OpR.or2 fun x y H Q ⟨F, M, dx, dy, q, rm, r1, r2, cn, h⟩ => ?_
    have c : ∀ {b}, q (.bl b) M → Q (.bl b) H := fun h => cn F M H _ _ (Same.refl F) rm (.bl _) h
    cases dy <;> cases dx <;> try exact (show False from h).elim
    all_goals cases r1; cases r2; first
      | exact ⟨_, op_isnot_bl, _, _, rfl, rfl, c h⟩
      | exact ⟨_, op_notN, rfl, c h⟩
theorem eqX_bl {neg : Bool} {q : QK} {x y : D} : eqX neg x y M q → eqX neg x y M fun d M' => (∃ b, d = .bl b) ∧ q d M' := by
  unfold eqX
  split
  · exact fun ⟨a, b, c⟩ => ⟨a, b, ⟨_, rfl⟩, c⟩
  · exact fun ⟨a, c⟩ => ⟨a, ⟨_, rfl⟩, c⟩
  · exact fun ⟨a, b, c⟩ => ⟨a, b, ⟨_, rfl⟩, c⟩
  · exact fun c => ⟨⟨_, rfl⟩, c⟩
  · exact fun c => ⟨⟨_, rfl⟩, c⟩
  · exact fun c => ⟨⟨_, rfl⟩, c⟩
  · split
    · split
      · exact fun c => ⟨⟨_, rfl⟩, c⟩
      · exact id
    · exact id
  · exact id
theorem eqF_bl {neg : Bool} {q : QK} {x y : D} : eqF neg x y M q → eqF neg x y M fun d M' => (∃ b, d = .bl b) ∧ q d M' := by
  unfold eqF
  split
  · exact fun ⟨a, b, c⟩ => ⟨a, b, ⟨_, rfl⟩, c⟩
  · exact eqX_bl
theorem eqP_bl {neg : Bool} {q : QK} {x y : D} : eqP neg x y M q → eqP neg x y M fun d M' => (∃ b, d = .bl b) ∧ q d M' := by
  unfold eqP
  split
  · exact fun ⟨a, b, c⟩ => ⟨a, b, ⟨_, rfl⟩, c⟩
  · exact eqF_bl
theorem lift2_bl {op : CmpOp} {q : QK} : ∀ {x y : D}, cmpW op x y M q → cmpW op x y M fun d M' => (∃ b, d = .bl b) ∧ q d M' := by
  intro x y h
  cases op with
  | Eq =>
    revert h
    dsimp only [cmpW, eqW, eqL]
    split
    · exact fun h => ⟨⟨_, rfl⟩, h⟩
    split
    · split
      · exact eqP_bl
      · exact fun h => ⟨⟨_, rfl⟩, h⟩
    · split
      · exact fun h => ⟨⟨_, rfl⟩, h⟩
      · exact eqP_bl
  | NotEq =>
    revert h
    dsimp only [cmpW, eqW, eqL]
    split
    · exact fun h => ⟨⟨_, rfl⟩, h⟩
    split
    · split
      · exact eqP_bl
      · exact fun h => ⟨⟨_, rfl⟩, h⟩
    · split
      · exact fun h => ⟨⟨_, rfl⟩, h⟩
      · exact eqP_bl
  | In =>
    revert h
    dsimp only [cmpW, inW, inS]
    split
    · split
      · exact fun c => ⟨⟨_, rfl⟩, c⟩
      · exact id
    · split
      · exact fun c => ⟨⟨_, rfl⟩, c⟩
      · exact fun ⟨a, c⟩ => ⟨a, ⟨_, rfl⟩, c⟩
      · split
        · split
          · exact fun ⟨a, b, c⟩ => ⟨a, b, ⟨_, rfl⟩, c⟩
          · exact id
        · exact id
  | NotIn =>
    revert h
    dsimp only [cmpW, inW, inS]
    split
    · split
      · exact fun c => ⟨⟨_, rfl⟩, c⟩
      · exact id
    · split
      · exact fun c => ⟨⟨_, rfl⟩, c⟩
      · exact fun ⟨a, c⟩ => ⟨a, ⟨_, rfl⟩, c⟩
      · split
        · split
          · exact fun ⟨a, b, c⟩ => ⟨a, b, ⟨_, rfl⟩, c⟩
          · exact id
        · exact id
  | Gt =>
    revert h
    dsimp only [cmpW]
    split
    · exact fun h => ⟨⟨_, rfl⟩, h⟩
    · exact fun h => ⟨⟨_, rfl⟩, h⟩
    · split
      · split
        · exact fun h => ⟨⟨_, rfl⟩, h⟩
        · exact id
      · exact id
  | _ => cases x <;> cases y <;> first
    | exact (show False from h).elim
    | exact ⟨⟨_, rfl⟩, h⟩
theorem tru_of (rm : RM G F M H) {v : V} {d : D} {q : BK} {Q : Bool → Hp → Prop} (r : RelD G F v d) (cn : CnB G F q Q) (h : truW d M q) : ∃ k, TruV G.K v H k ∧ Q k H := by
  have c : ∀ {b}, q b M → Q b H := fun h => cn F M H _ (Same.refl F) rm h
  have seqs : (match asS M d with
    | some ds => q (!ds.isEmpty) M
    | none => False) → ∃ k, TruV G.K v H k ∧ Q k H := fun h => by
    cases e : asS M d with
    | none => rw [e] at h; exact h.elim
    | some ds =>
      rw [e] at h
      obtain ⟨p, vs, rfl, g1, g2⟩ := rd_S rm r e
      have ei : vs.isEmpty = ds.isEmpty := by cases g2 <;> rfl
      refine ⟨!vs.isEmpty, ?_, by rw [ei]; exact c h⟩
      rcases g1 with g1 | g1
      · exact .inl ⟨vs, g1, rfl⟩
      · exact .inr (.inl ⟨vs, g1, rfl⟩)
  cases d with
  | non => cases r; exact ⟨_, rfl, c h⟩
  | bl b => cases r; exact ⟨_, rfl, c h⟩
  | int i => cases r; exact ⟨_, rfl, c h⟩
  | str x => cases r; exact ⟨_, ⟨h.1, rfl⟩, c h.2⟩
  | emp =>
    cases r with
    | emp h1 => exact ⟨_, .inr (.inr ⟨[], rm.fz _ _ h1, rfl⟩), c h⟩
  | _ => exact seqs h

/-! ### subscripts -/
theorem relds_atI {vs : List V} {ds : List D} {i : Int} {d : D} (h : RelDs G F vs ds) (e : atI ds i = some d) : ∃ v, L2.atI vs i = some v ∧ RelD G F v d := by
  unfold atI at e
  unfold L2.atI
  have : L2.ixN vs.length i = ixN ds.length i := by rw [h.len]; rfl
  rw [this]
  cases q : ixN ds.length i with
  | none => rw [q] at e; cases e
  | some j =>
    rw [q] at e
    exact h.get e
theorem ixr_idx (hK : X.K = G.K) : IxR X (lift2 G idxW) := by
  intro value slice pins s σ H x y v u Q I rx ry ⟨F, M, dx, dy, q, rm, r1, r2, cn, h⟩ hs
  cases dy with
  | int k =>
    cases r2
    have seqs : (match asS M dx with
      | some ds => match atI ds k with
        | some d => q d M
        | none => False
      | none => False) → wpAny (model X.prog X.w) X.A (subscriptTail value slice v u) (EP X pins σ Q) X.xe s := fun h => by
      cases e : asS M dx with
      | none => rw [e] at h; exact h.elim
      | some ds =>
        rw [e] at h
        dsimp only at h
        cases e2 : atI ds k with
        | none => rw [e2] at h; exact h.elim
        | some d =>
          rw [e2] at h
          obtain ⟨p, vs, rfl, g1, g2⟩ := rd_S rm r1 e
          obtain ⟨w, a1, a2⟩ := relds_atI g2 e2
          have c := cn F M H _ _ (Same.refl F) rm a2 h
          rcases g1 with g1 | g1
          · exact ix_list value slice pins s σ H _ _ v u Q I rx ry ⟨p, vs, k, w, rfl, rfl, by rw [hK]; exact g1, a1, c⟩ hs
          · exact ix_tup value slice pins s σ H _ _ v u Q I rx ry ⟨p, vs, k, w, rfl, rfl, by rw [hK]; exact g1, a1, c⟩ hs
    cases dx with
    | str z =>
      cases r1
      obtain ⟨h1, h2⟩ := h
      cases e : atI z.cps.toList k with
      | none => rw [e] at h2; exact h2.elim
      | some c =>
        rw [e] at h2
        exact ix_str value slice pins s σ H _ _ v u Q I rx ry ⟨z, k, c, rfl, rfl, h1, e, cn F M H _ _ (Same.refl F) rm (.str _) h2⟩ hs
    | _ => exact seqs h
  | _ => cases dx <;> exact (show False from h).elim
theorem slN_eq (n d : Nat) (i : Option Int) : slN n d i = HT.sIx n d i := by
  cases i with
  | none => rfl
  | some i =>
    first
      | rfl
      | (unfold slN HT.sIx; rfl)
theorem cut_eq (vs : List V) (lo hi : Option Int) : cutV vs lo hi = cut vs lo hi := by
  unfold cutV cut
  rw [slN_eq, slN_eq]
theorem RelDs.cut {vs : List V} {ds : List D} (h : RelDs G F vs ds) (lo hi : Option Int) : RelDs G F (cut vs lo hi) (cut ds lo hi) := by
  unfold Wp.cut
  rw [h.len]
  exact (h.drop _).take _
def lift3 (G : Gx) (w : D → Option Int → Option Int → Mem → QK → Prop) : V → Option Int → Option Int → Hp → VK → Prop := fun x l u H Q => ∃ F M dx q, RM G F M H ∧ RelD G F x dx ∧ Cn G F q Q ∧ w dx l u M q
theorem cut_whole {α : Type} (xs : List α) (lo hi : Option Int) (h : slN xs.length 0 lo = 0 ∧ slN xs.length xs.length hi = xs.length) : cut xs lo hi = xs := by
  unfold cut
  rw [h.1, h.2]
  simp
theorem SlR.or2 {X : Cx} {r : V → Option Int → Option Int → Hp → VK → Prop} (h : ∀ x l u H Q, r x l u H Q → ∃ r', SlR X r' ∧ r' x l u H Q) : SlR X r := by
  intro pins s σ H x v vl vu lo hi sl Q I rx hs pl pu q
  obtain ⟨r', h1, h2⟩ := h x lo hi H Q q
  exact h1 pins s σ H x v vl vu lo hi sl Q I rx hs pl pu h2
theorem slr_sli (hK : X.K = G.K) {fr : Bool} : SlR X (lift3 G (sliW fr)) := by
  refine SlR.or2 fun x lo hi H Q ⟨F, M, dx, q, rm, r1, cn, h⟩ => ?_
  have lists : (match asL M dx with
    | some ds => newL fr (cut ds lo hi) M q
    | none => False) → ∃ r', SlR X r' ∧ r' x lo hi H Q := fun h => by
    cases e : asL M dx with
    | none => rw [e] at h; exact h.elim
    | some ds =>
      rw [e] at h
      obtain ⟨p, vs, rfl, g1, g2⟩ := rd_L rm r1 e
      obtain ⟨_, k⟩ := newL_ok rm (g2.cut lo hi) cn h
      exact ⟨_, sl_list, p, vs, rfl, by rw [hK]; exact g1, by rw [cut_eq]; exact k⟩
  cases dx with
  | str z =>
    cases r1
    refine ⟨_, sl_str, z, rfl, h.1, ?_⟩
    have e : cutS z lo hi = ⟨(cut z.cps.toList lo hi).toArray⟩ := by
      unfold cutS Wp.cut
      simp only [slN_eq]
      rfl
    rw [e]
    exact cn F M H _ _ (Same.refl F) rm (.str _) h.2
  | tup ds =>
    have hh := r1
    obtain ⟨p, vs, rfl, g1, g2⟩ := rd_T rm r1
    refine ⟨_, sl_tupA, p, vs, rfl, by rw [hK]; exact g1, fun e => ?_, fun _ p hp => ?_⟩
    · rw [← slN_eq, ← slN_eq, g2.len] at e
      have h : q (.tup (cut ds lo hi)) M := h
      rw [cut_whole ds lo hi e] at h
      exact cn F M H _ _ (Same.refl F) rm hh h
    · rw [cut_eq]
      exact newT_ok rm (g2.cut lo hi) cn h hp
  | _ => exact lists h
end
end Wp

/-! WpX2: list(text). -/
namespace Wp
open PySem PySem.Spec PyProof.Rows L2
def signsV (z : Str) : List V := z.cps.toList.map fun c => .str ⟨#[c]⟩
theorem vals_signs (z : Str) : ∀ (cs : List Nat) (n : Nat) (vs : List Value), vs.length = cs.length → (∀ (j : Nat) (v : Value), vs[j]? = some v → ∃ (c : Nat) (u : Tok), cs[j]? = some c ∧ v = Value.str ⟨#[c]⟩ u) → Vals (cs.map fun c => V.str ⟨#[c]⟩) vs
  | [], _, [], _, _ => .nil
  | [], _, _ :: _, h, _ => by cases h
  | _ :: _, _, [], h, _ => by cases h
  | c :: cs, n, v :: vs, h, hv => by
    obtain ⟨c', u, e1, e2⟩ := hv 0 v rfl
    cases e1
    subst e2
    exact .cons ⟨u, rfl⟩ (vals_signs z cs n vs (Nat.succ.inj h) fun j v e => hv (j + 1) v e)
section
variable {X : Cx}
theorem call_listS (hc : X.calm = true) : CallR X (.type "list") (fun xs H Q => ∃ z, xs = [.str z] ∧ z.length ≤ sizeLine ∧ ∀ l, H l = none → Q (.ref l) (upd H l (.lst (signsV z)))) := by
  intro pins s σ H xs us Q I r h
  obtain ⟨z, rfl, hz, q⟩ := h
  obtain ⟨u, rfl, t, rfl⟩ : ∃ u, us = [u] ∧ ∃ t, u = .str z t := by
    cases r with
    | cons a b => cases b; obtain ⟨t, e⟩ := a; exact ⟨_, rfl, t, e⟩
  refine call_list_str (I.ok.hd hc) z t (fun h' tk acc c hk hl hi => ?_) hz
  have hv : Vals (signsV z) acc.toList := by
    refine vals_signs z z.cps.toList 0 acc.toList ?_ fun j v e => ?_
    · rw [Array.length_toList, Array.length_toList]; exact hi.1
    · obtain ⟨c, u, e1, e2⟩ := hi.2 j v (by rw [← Array.getElem?_toList]; exact e)
      exact ⟨c, u, by rw [Array.getElem?_toList]; exact e1, e2⟩
  refine ⟨.ref s.heap.objs.size, _, I.laid (t' := tk) (o := .lst (signsV z)) hk (Nat.le_refl _) ?_, rfl, q _ (I.hok.fresh (Nat.le_refl _))⟩
  exact ⟨by unfold signsV; rw [List.length_map, Array.length_toList]; exact hz, _, c, hv, hl⟩
end
end Wp

/-! WpS3: built-ins and methods by values. -/
namespace Wp
open PySem PySem.Spec PyProof.Rows L2
section
variable {G : Gx} {F F' H : Hp} {M : Mem} {X : Cx}
def liftN (G : Gx) (w : List D → Mem → QK → Prop) : List V → Hp → VK → Prop := fun vs H Q => ∃ F M ds q, RM G F M H ∧ RelDs G F vs ds ∧ Cn G F q Q ∧ w ds M q
theorem CallR.or2 {f : Value} {r : List V → Hp → VK → Prop} (h : ∀ xs H Q, r xs H Q → ∃ r', CallR X f r' ∧ r' xs H Q) : CallR X f r := by
  intro pins s σ H xs us Q I rs q
  obtain ⟨r', h1, h2⟩ := h xs H Q q
  exact h1 pins s σ H xs us Q I rs h2
def biV : Bi → Value
  | .len => .builtin "len" | .int_ => .type "int" | .list_ => .type "list" | .tuple_ => .type "tuple" | .str_ => .type "str" | .ord_ => .builtin "ord" | .abs_ => .builtin "abs"
  | .min_ => .builtin "min" | .max_ => .builtin "max" | .sum_ => .builtin "sum" | .all_ => .builtin "all" | .any_ => .builtin "any" | .sorted_ => .builtin "sorted" | .dict_ => .type "dict"
def biNm : Bi → Str
  | .len => "len" | .int_ => "int" | .list_ => "list" | .tuple_ => "tuple" | .str_ => "str" | .ord_ => "ord" | .abs_ => "abs"
  | .min_ => "min" | .max_ => "max" | .sum_ => "sum" | .all_ => "all" | .any_ => "any" | .sorted_ => "sorted" | .dict_ => "dict"
theorem bi_boot (b : Bi) : bootBuiltins (biNm b) = some (biV b) := by cases b <;> decide +kernel
theorem bi_no (b : Bi) : biNm b ≠ "__name__" ∧ (biNm b == ("__debug__" : Str)) = false := by cases b <;> decide +kernel
theorem relds1 {vs : List V} {d : D} (h : RelDs G F vs [d]) : ∃ v, vs = [v] ∧ RelD G F v d := by
  cases h with
  | cons r t => cases t; exact ⟨_, rfl, r⟩
theorem rel_signs (z : Str) : RelDs G F (signsV z) (signs z) := by
  unfold signsV signs
  induction z.cps.toList with
  | nil => exact .nil
  | cons c cs ih => exact .cons (.str _) ih
theorem nu_min2 (i j : Int) : nuMin2 (.int i) (.int j) = some (.int (min2 i j)) := by
  show some (if decide (j < i) = true then V.int j else V.int i) = _
  unfold min2
  by_cases h : j < i
  · rw [if_pos (decide_eq_true h), if_pos h]
  · rw [if_neg (by rw [decide_eq_false h]; decide), if_neg h]
theorem nu_max2 (i j : Int) : nuMax2 (.int i) (.int j) = some (.int (max2 i j)) := by
  show some (if decide (i < j) = true then V.int j else V.int i) = _
  unfold max2
  by_cases h : i < j
  · rw [if_pos (decide_eq_true h), if_pos h]
  · rw [if_neg (by rw [decide_eq_false h]; decide), if_neg h]
theorem nu_min3 (i j k : Int) : nuMin3 (.int i) (.int j) (.int k) = some (.int (min2 (min2 i j) k)) := by
  unfold nuMin3
  rw [nu_min2]
  exact nu_min2 _ _
theorem nu_max3 (i j k : Int) : nuMax3 (.int i) (.int j) (.int k) = some (.int (max2 (max2 i j) k)) := by
  unfold nuMax3
  rw [nu_max2]
  exact nu_max2 _ _
theorem relds3 {vs : List V} {d e f : D} (h : RelDs G F vs [d, e, f]) : ∃ v w x, vs = [v, w, x] ∧ RelD G F v d ∧ RelD G F w e ∧ RelD G F x f := by
  cases h with
  | cons a b => cases b with
    | cons b c => cases c with
      | cons c d => cases d; exact ⟨_, _, _, rfl, a, b, c⟩
theorem relds2 {vs : List V} {d e : D} (h : RelDs G F vs [d, e]) : ∃ v w, vs = [v, w] ∧ RelD G F v d ∧ RelD G F w e := by
  cases h with
  | cons r t => obtain ⟨w, rfl, r2⟩ := relds1 t; exact ⟨_, _, rfl, r, r2⟩
theorem ints_rel : ∀ {vs : List V} {ds : List D} {ns : List Int}, RelDs G F vs ds → intsOf ds = some ns → vs = ns.map V.int
  | _, _, _, .nil, e => by cases e; rfl
  | _, d :: ds, ns, .cons r t, e => by
    cases d with
    | int i =>
      unfold intsOf at e
      cases q : intsOf ds with
      | none => rw [q] at e; cases e
      | some ms =>
        rw [q] at e; cases e
        cases r
        rw [ints_rel t q]; rfl
    | _ => cases e
theorem bools_rel : ∀ {vs : List V} {ds : List D} {ns : List Bool}, RelDs G F vs ds → bools ds = some ns → vs = ns.map V.bl
  | _, _, _, .nil, e => by cases e; rfl
  | _, d :: ds, ns, .cons r t, e => by
    cases d with
    | bl i =>
      unfold bools at e
      cases q : bools ds with
      | none => rw [q] at e; cases e
      | some ms =>
        rw [q] at e; cases e
        cases r
        rw [bools_rel t q]; rfl
    | _ => cases e
theorem strs_rel : ∀ {vs : List V} {ds : List D} {ns : List Str}, RelDs G F vs ds → strsOf ds = some ns → vs = ns.map V.str
  | _, _, _, .nil, e => by cases e; rfl
  | _, d :: ds, ns, .cons r t, e => by
    cases d with
    | str i =>
      unfold strsOf at e
      cases q : strsOf ds with
      | none => rw [q] at e; cases e
      | some ms =>
        rw [q] at e; cases e
        cases r
        rw [strs_rel t q]; rfl
    | _ => cases e
theorem key_relV {G : Gx} {F : Hp} {v : V} {d : D} {k : Sum Int Str} (r : RelD G F v d) (e : keyD d = some k) : v = kV k := by
  cases r <;> first | (cases e; done) | (cases e; rfl)
theorem prs_rel (rm : RM G F M H) : ∀ {vs : List V} {ds : List D} {kvs : List (Sum Int Str × D)}, RelDs G F vs ds → prsD ds = some kvs → ∃ (ps : List Addr) (vks : List (Key × V)), vs = ps.map V.ref ∧ Paired (fun p kv => SqT G.K H p [kV kv.1, kv.2]) ps vks ∧ KVR G F vks kvs
  | _, [], kvs, r, e => by
    cases r
    cases e
    exact ⟨[], [], rfl, .nil, .nil⟩
  | _, d :: ds, kvs, r, e => by
    cases r with
    | cons r t =>
      unfold prsD at e
      split at e
      · rename_i hq
        cases hq
      · rename_i hq
        injection hq with q1 q2
        subst q1 q2
        split at e
        · rename_i e1 e2
          cases e
          obtain ⟨ps, vks, rfl, h1, h2⟩ := prs_rel rm t e2
          obtain ⟨p, us, rfl, g1, g2⟩ := rd_T rm r
          obtain ⟨u, w, rfl, r1, r2⟩ := relds2 g2
          rw [key_relV r1 e1] at g1
          exact ⟨p :: ps, (_, w) :: vks, rfl, .cons g1 h1, .cons r2 h2⟩
        · cases e
      · cases e
theorem KVR.merges : ∀ {r1 : List (Key × V)} {t1 : List (Sum Int Str × D)} {r : List (Key × V)} {t : List (Sum Int Str × D)}, KVR G F r t → KVR G F r1 t1 → KVR G F (mergeK r r1) (mergeD t t1) := by
  intro r1 t1 r t h h1
  induction h1 generalizing r t with
  | nil => exact h
  | cons a _ ih => exact ih (h.put a)
theorem callr_bi (hK : X.K = G.K) (hc : X.calm = true) (b : Bi) {fr : Bool} : CallR X (biV b) (liftN G (biW b fr)) := by
  refine CallR.or2 fun xs H Q ⟨F, M, ds, q, rm, rs, cn, h⟩ => ?_
  have c : ∀ {v d}, RelD G F v d → q d M → Q v H := fun r h => cn F M H _ _ (Same.refl F) rm r h
  have hlen : ∀ x, RelDs G F xs [x] → lenW x M q → ∃ r', CallR X (biV .len) r' ∧ r' xs H Q := fun x rs h => by
    obtain ⟨v, rfl, r⟩ := relds1 rs
    have seqs : (match asS M x with
      | some ds => q (.int ds.length) M
      | none => False) → ∃ r', CallR X (biV .len) r' ∧ r' [v] H Q := fun h => by
      cases e : asS M x with
      | none => rw [e] at h; exact h.elim
      | some ds =>
        rw [e] at h
        obtain ⟨p, vs, rfl, g1, g2⟩ := rd_S rm r e
        exact ⟨_, call_len_seq, p, vs, rfl, by rw [hK]; exact g1, by rw [g2.len]; exact c (.int _) h⟩
    cases x with
    | str z => cases r; exact ⟨_, call_len_str, z, rfl, h.1, c (.int _) h.2⟩
    | _ => exact seqs h
  have hlist : ∀ x, RelDs G F xs [x] → (match asS M x with
      | some ds => newL fr ds M q
      | none => False) → ∃ r', CallR X (biV .list_) r' ∧ r' xs H Q := fun x rs h => by
    obtain ⟨v, rfl, r⟩ := relds1 rs
    cases e : asS M x with
    | none => rw [e] at h; exact h.elim
    | some ds =>
      rw [e] at h
      obtain ⟨p, vs, rfl, g1, g2⟩ := rd_S rm r e
      exact ⟨_, call_list_of, p, vs, rfl, by rw [hK]; exact g1, (newL_ok rm g2 cn h).2⟩
  have htup : ∀ x, RelDs G F xs [x] → (match asL M x with
      | some ds => q (.tup ds) M
      | none => False) → ∃ r', CallR X (biV .tuple_) r' ∧ r' xs H Q := fun x rs h => by
    obtain ⟨v, rfl, r⟩ := relds1 rs
    cases e : asL M x with
    | none => rw [e] at h; exact h.elim
    | some ds =>
      rw [e] at h
      obtain ⟨p, vs, rfl, g1, g2⟩ := rd_L rm r e
      exact ⟨_, call_tuple_of, p, vs, rfl, .inl ⟨by rw [hK]; exact g1, fun l hl => newT_ok rm g2 cn h hl⟩⟩
  have hmin : ∀ x, RelDs G F xs [x] → (match asL M x with
      | some ds => match intsOf ds with
        | some ns => 0 < ns.length ∧ ∀ m, m ∈ ns → (∀ y, y ∈ ns → m ≤ y) → q (.int m) M
        | none => False
      | none => False) → ∃ r', CallR X (biV .min_) r' ∧ r' xs H Q := fun x rs h => by
    obtain ⟨v, rfl, r⟩ := relds1 rs
    cases e : asL M x with
    | none => rw [e] at h; exact h.elim
    | some ds =>
      rw [e] at h
      dsimp only at h
      cases e2 : intsOf ds with
      | none => rw [e2] at h; exact h.elim
      | some ns =>
        rw [e2] at h
        obtain ⟨p, vs, rfl, g1, g2⟩ := rd_L rm r e
        rw [ints_rel g2 e2] at g1
        exact ⟨_, cr_min hc, p, ns, rfl, by rw [hK]; exact g1, h.1, fun m h1 h2 => c (.int _) (h.2 m h1 h2)⟩
  have hmax : ∀ x, RelDs G F xs [x] → (match asL M x with
      | some ds => match intsOf ds with
        | some ns => 0 < ns.length ∧ ∀ m, m ∈ ns → (∀ y, y ∈ ns → y ≤ m) → q (.int m) M
        | none => False
      | none => False) → ∃ r', CallR X (biV .max_) r' ∧ r' xs H Q := fun x rs h => by
    obtain ⟨v, rfl, r⟩ := relds1 rs
    cases e : asL M x with
    | none => rw [e] at h; exact h.elim
    | some ds =>
      rw [e] at h
      dsimp only at h
      cases e2 : intsOf ds with
      | none => rw [e2] at h; exact h.elim
      | some ns =>
        rw [e2] at h
        obtain ⟨p, vs, rfl, g1, g2⟩ := rd_L rm r e
        rw [ints_rel g2 e2] at g1
        exact ⟨_, cr_max hc, p, ns, rfl, by rw [hK]; exact g1, h.1, fun m h1 h2 => c (.int _) (h.2 m h1 h2)⟩
  have hsum : ∀ x, RelDs G F xs [x] → (match asL M x with
      | some ds => match intsOf ds with
        | some ns => q (.int ns.sum) M
        | none => False
      | none => False) → ∃ r', CallR X (biV .sum_) r' ∧ r' xs H Q := fun x rs h => by
    obtain ⟨v, rfl, r⟩ := relds1 rs
    cases e : asL M x with
    | none => rw [e] at h; exact h.elim
    | some ds =>
      rw [e] at h
      dsimp only at h
      cases e2 : intsOf ds with
      | none => rw [e2] at h; exact h.elim
      | some ns =>
        rw [e2] at h
        obtain ⟨p, vs, rfl, g1, g2⟩ := rd_L rm r e
        rw [ints_rel g2 e2] at g1
        exact ⟨_, cr_sum hc, p, ns, rfl, by rw [hK]; exact g1, c (.int _) h⟩
  have hall : ∀ x, RelDs G F xs [x] → (match asL M x with
      | some ds => match bools ds with
        | some bs => q (.bl (bs.all id)) M
        | none => False
      | none => False) → ∃ r', CallR X (biV .all_) r' ∧ r' xs H Q := fun x rs h => by
    obtain ⟨v, rfl, r⟩ := relds1 rs
    cases e : asL M x with
    | none => rw [e] at h; exact h.elim
    | some ds =>
      rw [e] at h
      dsimp only at h
      cases e2 : bools ds with
      | none => rw [e2] at h; exact h.elim
      | some ns =>
        rw [e2] at h
        obtain ⟨p, vs, rfl, g1, g2⟩ := rd_L rm r e
        rw [bools_rel g2 e2] at g1
        exact ⟨_, cr_all hc, p, ns, rfl, by rw [hK]; exact g1, c (.bl _) h⟩
  have hsort : ∀ x, RelDs G F xs [x] → (match asL M x with
      | some ds => match intsOf ds with
        | some ns => ∀ ns' : List Int, ns'.Perm ns → ns'.Pairwise (· ≤ ·) → newL fr (ns'.map D.int) M q
        | none => False
      | none => False) → ∃ r', CallR X (biV .sorted_) r' ∧ r' xs H Q := fun x rs h => by
    obtain ⟨v, rfl, r⟩ := relds1 rs
    cases e : asL M x with
    | none => rw [e] at h; exact h.elim
    | some ds =>
      rw [e] at h
      dsimp only at h
      cases e2 : intsOf ds with
      | none => rw [e2] at h; exact h.elim
      | some ns =>
        rw [e2] at h
        obtain ⟨p, vs, rfl, g1, g2⟩ := rd_L rm r e
        rw [ints_rel g2 e2] at g1
        exact ⟨_, cr_sortedI, p, ns, rfl, by rw [hK]; exact g1, fun ns' p a b hp => (newL_ok rm (RelDs.ints ns') cn (h ns' a b)).2 p hp⟩
  have hdict : ∀ x, RelDs G F xs [x] → (match asL M x with
      | some ds => match prsD ds with
        | some kvs => ∀ p, M p = none → q (.loc p) (M.upd p (.dic (mergeD [] kvs)))
        | none => False
      | none => False) → ∃ r', CallR X (biV .dict_) r' ∧ r' xs H Q := fun x rs h => by
    obtain ⟨v, rfl, r⟩ := relds1 rs
    cases e : asL M x with
    | none => rw [e] at h; exact h.elim
    | some ds =>
      rw [e] at h
      dsimp only at h
      cases e2 : prsD ds with
      | none => rw [e2] at h; exact h.elim
      | some kvs =>
        rw [e2] at h
        obtain ⟨p, vs, rfl, g1, g2⟩ := rd_L rm r e
        obtain ⟨ps, vks, rfl, h1, h2⟩ := prs_rel rm g2 e2
        refine ⟨_, call_dictP hc, p, ps, vks, rfl, by rw [hK]; exact g1, by rw [hK]; exact h1, fun a ha => ?_⟩
        have nF := rm.freeF ha
        exact cn F _ _ _ _ (Same.refl F) (rm.new (ob := .dic (mergeD [] kvs)) ha ⟨_, upd_same, KVR.merges .nil h2⟩) .loc (h a (rm.freeM ha))
  unfold biW at h
  split at h
  · exact hlen _ rs h
  · obtain ⟨v, rfl, r⟩ := relds1 rs
    cases r
    exact ⟨_, call_int1, .inl ⟨_, rfl, c (.int _) h⟩⟩
  · obtain ⟨v, rfl, r⟩ := relds1 rs
    cases r
    exact ⟨_, call_int1, .inr ⟨_, rfl, c (.int _) h⟩⟩
  · obtain ⟨v, rfl, r⟩ := relds1 rs
    cases r
    obtain ⟨hl, h⟩ := h
    split at h
    · rename_i hn
      exact ⟨_, call_int_str, _, _, rfl, hn, hl, c (.int _) h⟩
    · exact h.elim
  · obtain ⟨v, rfl, r⟩ := relds1 rs
    cases r
    exact ⟨_, call_listS hc, _, rfl, h.1, (newL_ok rm (rel_signs _) cn h.2).2⟩
  · exact hlist _ rs h
  · -- tuple of a tuple
    obtain ⟨v, rfl, r⟩ := relds1 rs
    have hh := r
    obtain ⟨p, vs, rfl, g1, g2⟩ := rd_T rm r
    exact ⟨_, call_tuple_of, p, vs, rfl, .inr ⟨by rw [hK]; exact g1, c hh h⟩⟩
  · exact htup _ rs h
  · obtain ⟨v, rfl, r⟩ := relds1 rs
    cases r
    exact ⟨_, call_str_int, _, rfl, h.1, c (.str _) h.2⟩
  · obtain ⟨v, rfl, r⟩ := relds1 rs
    cases r
    exact ⟨_, call_ord, _, rfl, h.1, c (.int _) h.2⟩
  · obtain ⟨v, rfl, r⟩ := relds1 rs
    cases r
    exact ⟨_, call_abs, _, rfl, c (.int _) h⟩
  · obtain ⟨v, w, rfl, r, r2⟩ := relds2 rs
    cases r; cases r2
    exact ⟨_, call_min2 hc, _, _, rfl, c (.int _) h⟩
  · obtain ⟨v, w, rfl, r, r2⟩ := relds2 rs
    cases r; cases r2
    exact ⟨_, call_max2 hc, _, _, rfl, c (.int _) h⟩
  · obtain ⟨v, w, z, rfl, r, r2, r3⟩ := relds3 rs
    cases r; cases r2; cases r3
    exact ⟨_, call_min3Nu hc, _, _, _, _, rfl, nu_min3 _ _ _, c (.int _) h⟩
  · obtain ⟨v, w, z, rfl, r, r2, r3⟩ := relds3 rs
    cases r; cases r2; cases r3
    exact ⟨_, call_max3Nu hc, _, _, _, _, rfl, nu_max3 _ _ _, c (.int _) h⟩
  · exact hmin _ rs h
  · exact hmax _ rs h
  · exact hsum _ rs h
  · exact hsort _ rs h
  · exact hall _ rs h
  · exact hdict _ rs h
  · exact h.elim

/-! ### isinstance -/
def tyN : Ty → String
  | .int_ => "int" | .bool_ => "bool" | .str_ => "str" | .tuple_ => "tuple" | .list_ => "list" | .dict_ => "dict"
def tyNm : Ty → Str
  | .int_ => "int" | .bool_ => "bool" | .str_ => "str" | .tuple_ => "tuple" | .list_ => "list" | .dict_ => "dict"
theorem ty_boot (t : Ty) : bootBuiltins (tyNm t) = some (.type (tyN t)) := by cases t <;> decide +kernel
theorem ty_no (t : Ty) : tyNm t ≠ "__name__" ∧ (tyNm t == ("__debug__" : Str)) = false := by cases t <;> decide +kernel
theorem isi_all {K : PySem.W.Frag} (hK : K = G.K) (rm : RM G F M H) {t : Ty} {d : D} {v : V} {b : Bool} (r : RelD G F v d) (e : isiB t d M = some b) :
    ∃ n : String, TyX K H v (.type n) ∧ ∀ t b, isiB t d M = some b → PySem.W.kitOne K (.type n) (.type (tyN t)) = some b := by
  subst hK
  cases r with
  | non => exact ⟨_, .base .non, fun t b e => by cases e; exact kit_ty (by cases t <;> decide +kernel)⟩
  | bl x => exact ⟨_, .base (.bl x), fun t b e => by cases e; exact kit_ty (by cases t <;> decide +kernel)⟩
  | int x => exact ⟨_, .base (.int x), fun t b e => by cases e; exact kit_ty (by cases t <;> decide +kernel)⟩
  | str x => exact ⟨_, .base (.str x), fun t b e => by cases e; exact kit_ty (by cases t <;> decide +kernel)⟩
  | tup h1 h2 =>
    have g := same_t rm.fz h1
    refine ⟨"tuple", ?_, fun t b e => by cases e; exact kit_ty (by cases t <;> decide +kernel)⟩
    rcases g with (g | ⟨o, g⟩) | ⟨o, its, n, g, c, _⟩
    · exact .base (.tup g)
    · exact .fTuple g
    · exact .kTuple g c
  | lst h1 h2 => exact ⟨_, .base (.lst (rm.fz _ _ h1)), fun t b e => by cases e; exact kit_ty (by cases t <;> decide +kernel)⟩
  | scr h1 =>
    have g := rm.fz.seq h1
    refine ⟨"list", ?_, fun t b e => by cases e; exact kit_ty (by cases t <;> decide +kernel)⟩
    rcases g with (g | ⟨o, g⟩) | ⟨o, its, n, g, c, _⟩
    · exact .base (.lst g)
    · exact .base (.frz g)
    · exact .kList g c
  | emp h1 => exact ⟨_, .base (.dK (rm.fz _ _ h1)), fun t b e => by cases e; exact kit_ty (by cases t <;> decide +kernel)⟩
  | @loc a =>
    dsimp only [isiB] at e
    cases q : M a with
    | none => rw [q] at e; cases e
    | some ob =>
      rw [q] at e
      cases ob with
      | lst ds =>
        obtain ⟨_, vs, h1, _⟩ := rm.mt a _ q
        exact ⟨_, .base (.lst h1), fun t b e => by dsimp only [isiB] at e; rw [q] at e; cases e; exact kit_ty (by cases t <;> decide +kernel)⟩
      | dic _ =>
        obtain ⟨_, vs, h1, _⟩ := rm.mt a _ q
        exact ⟨_, .base (.dK h1), fun t b e => by dsimp only [isiB] at e; rw [q] at e; cases e; exact kit_ty (by cases t <;> decide +kernel)⟩
      | ins _ _ => cases e
      | obj _ _ => cases e
theorem isi_ok {K : PySem.W.Frag} (hK : K = G.K) (rm : RM G F M H) {t : Ty} {d : D} {v : V} {b : Bool} (r : RelD G F v d) (e : isiB t d M = some b) :
    ∃ n : String, TyX K H v (.type n) ∧ PySem.W.kitOne K (.type n) (.type (tyN t)) = some b := by
  obtain ⟨n, h1, h2⟩ := isi_all hK rm r e
  exact ⟨n, h1, h2 t b e⟩
theorem ist_kit {K : PySem.W.Frag} {n : String} {d : D} (h : ∀ t b, isiB t d M = some b → PySem.W.kitOne K (.type n) (.type (tyN t)) = some b) : ∀ {ts : List Ty} {b : Bool}, istB ts d M = some b → PySem.W.kitAny K (.type n) (ts.map fun t => .type (tyN t)) = some b
  | [], b, e => e
  | t :: ts, b, e => by
    unfold istB at e
    split at e
    · rename_i a c h1 h2
      cases e
      refine kitAny_cons (h t a h1) (fun hb => ?_) fun hb => ?_
      · subst hb
        rw [ist_kit h h2]; rfl
      · subst hb; rfl
    · cases e
theorem ist_ok {K : PySem.W.Frag} (hK : K = G.K) (rm : RM G F M H) {t : Ty} {ts : List Ty} {d : D} {v : V} {b : Bool} (r : RelD G F v d) (e : istB (t :: ts) d M = some b) :
    ∃ n : String, TyX K H v (.type n) ∧ PySem.W.kitAny K (.type n) ((t :: ts).map fun t => .type (tyN t)) = some b := by
  have e2 := e
  unfold istB at e2
  split at e2
  · rename_i a c h1 h2
    obtain ⟨n, h3, h4⟩ := isi_all hK rm r h1
    exact ⟨n, h3, ist_kit h4 e⟩
  · cases e2

/-! ### methods -/
def bmT : Bm → String
  | .append => "list" | .extend => "list" | .index => "list" | .pop => "list" | .reverse_ => "list" | .clear => "list" | .insert => "list"
  | _ => "str"
def bmNm : Bm → Str
  | .append => "append" | .extend => "extend" | .index => "index" | .join => "join" | .pop => "pop" | .reverse_ => "reverse" | .clear => "clear" | .insert => "insert" | .find => "find" | .upper => "upper" | .split => "split" | .partition => "partition"
def liftM (G : Gx) (w : D → List D → Mem → QK → Prop) : V → List V → Hp → VK → Prop := fun v vs H Q => ∃ F M d ds q, RM G F M H ∧ RelD G F v d ∧ RelDs G F vs ds ∧ Cn G F q Q ∧ w d ds M q
theorem rcv_ok {K : PySem.W.Frag} (hK : K = G.K) (rm : RM G F M H) {b : Bm} {d : D} {v : V} (r : RelD G F v d) (h : rcvW b d M) : tyV K (bmT b) v H := by
  subst hK
  have lists : (asL M d).isSome = true → tyV G.K "list" v H := fun h => by
    obtain ⟨ds, e⟩ := Option.isSome_iff_exists.mp h
    obtain ⟨p, vs, rfl, g1, _⟩ := rd_L rm r e
    exact .inl ⟨rfl, vs, g1⟩
  cases b <;> first
    | exact lists h
    | (cases d <;> first | exact (show False from h).elim | (cases r; exact rfl))
/-- a list in the memory and what stands there -/
theorem rd_loc (rm : RM G F M H) {a : Addr} {ds : List D} (q : M a = some (.lst ds)) : ∃ vs, H a = some (.lst vs) ∧ RelDs G F vs ds := (rm.mt a _ q).2
theorem put_ok (rm : RM G F M H) {a : Addr} {ds es : List D} {ws : List V} {q : QK} {Q : VK} {d : D} {v : V} (hq : M a = some (.lst ds)) (rs : RelDs G F ws es) (rd : RelD G F v d) (cn : Cn G F q Q) (h : q d (M.upd a (.lst es))) : Q v (upd H a (.lst ws)) :=
  cn F _ _ _ _ (Same.refl F) (rm.put (ob' := .lst es) hq ⟨ws, upd_same, rs⟩) rd h
theorem first_ok {d : PyData} : ∀ {ps : List PyData} {n j : Nat}, firstOf d ps n = some j → ∃ i z, j = n + i ∧ ps[i]? = some z ∧ PyData.eqv z d = true ∧ ∀ (m : Nat) (z' : PyData), m < i → ps[m]? = some z' → PyData.eqv z' d = false
  | [], _, _, e => by cases e
  | z :: zs, n, j, e => by
    unfold firstOf at e
    by_cases h : PyData.eqv z d = true
    · rw [if_pos h] at e
      cases e
      exact ⟨0, z, rfl, rfl, h, fun m z' hm => absurd hm (Nat.not_lt_zero _)⟩
    · rw [if_neg h] at e
      obtain ⟨i, y, h1, h2, h3, h4⟩ := first_ok e
      refine ⟨i + 1, y, by omega, h2, h3, fun m z' hm hz => ?_⟩
      cases m with
      | zero =>
        have e : z = z' := by simpa using hz
        rw [← e]
        exact Bool.eq_false_iff.mpr h
      | succ m => exact h4 m z' (by omega) hz
end
end Wp

/-! WpS4: when a text is the tree (a check that runs), and that what must hold ahead by the tree is enough for the text: expressions. -/
namespace Wp
open PySem PySem.Spec PyProof.Rows L2

mutual
def eqD : D → D → Bool
  | .non, .non => true
  | .bl a, .bl b => a == b
  | .int a, .int b => decide (a = b)
  | .str a, .str b => decide (a = b)
  | .tup a, .tup b => eqDs a b
  | .lst a, .lst b => eqDs a b
  | _, _ => false
def eqDs : List D → List D → Bool
  | [], [] => true
  | a :: as, b :: bs => eqD a b && eqDs as bs
  | _, _ => false
end
mutual
theorem eqD_eq : ∀ {a b : D}, eqD a b = true → a = b
  | .non, b, h => by cases b <;> first | rfl | cases h
  | .bl x, b, h => by
    cases b with
    | bl y => exact congrArg D.bl (by cases x <;> cases y <;> first | rfl | cases h)
    | _ => cases h
  | .int x, b, h => by
    cases b with
    | int y => exact congrArg D.int (of_decide_eq_true h)
    | _ => cases h
  | .str x, b, h => by
    cases b with
    | str y => exact congrArg D.str (of_decide_eq_true h)
    | _ => cases h
  | .tup x, b, h => by
    cases b with
    | tup y => exact congrArg D.tup (eqDs_eq h)
    | _ => cases h
  | .lst x, b, h => by
    cases b with
    | lst y => exact congrArg D.lst (eqDs_eq h)
    | _ => cases h
  | .scr _, b, h => by cases b <;> cases h
  | .emp, b, h => by cases b <;> cases h
  | .loc _, b, h => by cases b <;> cases h
theorem eqDs_eq : ∀ {a b : List D}, eqDs a b = true → a = b
  | [], b, h => by cases b <;> first | rfl | cases h
  | x :: xs, b, h => by
    cases b with
    | nil => cases h
    | cons y ys =>
      have h : (eqD x y && eqDs xs ys) = true := h
      rw [Bool.and_eq_true] at h
      rw [eqD_eq h.1, eqDs_eq h.2]
end

/-- a law's table: the defs' names by number, how many parameters each has, the module's constants, the names that are built in -/
structure Tb where
  nm : Nat → Option Str
  ar : Nat → Nat
  cs : List (Str × D)
  bn : List Str
  -- classes of exceptions by number; the field that a class's own __init__ writes
  xc : List (Nat × Str) := []
  xr : List (Nat × Str) := []
  -- classes without an own __init__ that are made
  xo : List Nat := []
  -- classes whose __init__ writes at and side
  xb : List Nat := []
  -- methods by number: the class, the name; own classes by number; the names of fields
  me : Nat → Option (Nat × Str) := fun _ => none
  oc : List (Nat × Str) := []
  of : List Str := []
  -- no suite of an except clause
  hot : Bool := true
/-- what may stand in an except suite -/
def Tb.cold (tb : Tb) : Tb := { tb with nm := fun _ => none, bn := tb.bn.filter fun x => x == "isinstance" || x == "ValueError", xr := [], xo := [], xb := [], me := fun _ => none, oc := [], hot := false }

def visB (sc : Scope) (x : Str) : Bool := match sc.names.lookup x with
  | some .local => true
  | some .cell => true
  | some .free => true
  | _ => false
def okB (x : Str) : Bool := !(x == ("__debug__" : Str)) && !(x == ("__classdict__" : Str))
def glB (sc : Scope) (x : Str) : Bool := decide (sc.names.lookup x = some .globalImplicit) && okB x
def bnB (tb : Tb) (sc : Scope) (x : Str) : Bool := glB sc x && tb.bn.any fun y => decide (y = x)
def noStar : Expr → Bool
  | .Starred _ _ => false
  | _ => true
def noSlice : Expr → Bool
  | .Slice _ _ _ _ => false
  | _ => true
def plainT : Expr → Bool
  | .UnaryOp .Not _ _ => false
  | .BoolOp _ _ _ => false
  | .IfExp _ _ _ _ => false
  | .Compare _ _ _ _ => false
  | _ => true
def plainO : Expr → Bool
  | .Call (.Name id _) [] [] _ => !(id == "super")
  | _ => true
/-- a target -/
def locB (sc : Scope) (top : Bool) (x : Str) : Bool := match sc.names.lookup x with
  | some .local => true
  | some .cell => top
  | _ => false
mutual
def chkG (N : List Str) (sc : Scope) (top : Bool) : Tg → Expr → Bool
  | .nm i, x0 => match x0 with
    | .Name x _ => decide (N[i]? = some x) && locB sc top x
    | _ => false
  | .no, x0 => match x0 with
    | .Tuple [] _ _ => true
    | _ => false
  | .co t ts, x0 => match x0 with
    | .Tuple (e :: es) _ _ => chkG N sc top t e && noStar e && chkGs N sc top ts es
    | _ => false
def chkGs (N : List Str) (sc : Scope) (top : Bool) : Tg → List Expr → Bool
  | .no, x0 => match x0 with
    | [] => true
    | _ => false
  | .co t ts, x0 => match x0 with
    | e :: es => chkG N sc top t e && noStar e && chkGs N sc top ts es
    | _ => false
  | .nm _, _ => false
end
def isTupT : Expr → Bool
  | .Tuple _ _ _ => true
  | _ => false
def noSet : Expr → Bool
  | .Set _ _ _ => false
  | _ => true
/-- written keys -/
def keyB : Sum Int Str → Option Expr → Bool
  | .inl i, x0 => match x0 with
    | some (.Constant (.int j) _ _) => decide (i = j)
    | _ => false
  | .inr s, x0 => match x0 with
    | some (.Constant (.str t) _ _) => decide (s = t)
    | _ => false
def chkK : List (Sum Int Str) → List (Option Expr) → Bool
  | [], [] => true
  | k :: ks, e :: es => keyB k e && chkK ks es
  | _, _ => false
def slots : Tg → List Nat
  | .nm i => [i]
  | .no => []
  | .co t ts => slots t ++ slots ts
def ownOf (N : List Str) (own : List Nat) : List (Str × Nat) := own.map fun i => (N.getD i "", i)

/-- a class by its name; 0: ValueError -/
def xnB (tb : Tb) (sc : Scope) (c : Nat) (y : Str) : Bool := (decide (c = 0) && decide (y = "ValueError") && bnB tb sc y) || ((tb.xc.any fun p => decide (p = (c, y))) && glB sc y)
/-- own classes, name by name -/
def chkC (tb : Tb) (sc : Scope) : List Nat → List Expr → Bool
  | [], [] => true
  | c :: cs, .Name y _ :: es => (tb.xc.any fun p => decide (p = (c, y))) && glB sc y && chkC tb sc cs es
  | _, _ => false
def tyNm4 : Ty → Str
  | .int_ => "int" | .bool_ => "bool" | .str_ => "str" | .tuple_ => "tuple" | .list_ => "list" | .dict_ => "dict"
def chkTy (tb : Tb) (sc : Scope) : List Ty → List Expr → Bool
  | [], [] => true
  | t :: ts, .Name y _ :: es => decide (tyNm4 t = y) && bnB tb sc y && chkTy tb sc ts es
  | _, _ => false
def chkFn (tb : Tb) (sc : Scope) : List Nat → List Expr → Bool
  | [], [] => true
  | f :: fs, .Name y _ :: es => decide (tb.nm f = some y) && glB sc y && chkFn tb sc fs es
  | _, _ => false
def fldN (f : Str) : Bool := decide (f = "at") || decide (f = "side")
section
variable (tb : Tb) (N : List Str)
mutual
/-- the text e is the tree -/
def chkE : Ex → Scope → Expr → Bool
  | .var i, sc, x0 => match x0 with
    | .Name x _ => decide (N[i]? = some x) && visB sc x && okB x
    | _ => false
  | .non, _, x0 => match x0 with
    | .Constant .none _ _ => true
    | _ => false
  | .bl b, _, x0 => match x0 with
    | .Constant (.bool c) _ _ => b == c
    | _ => false
  | .int i, _, x0 => match x0 with
    | .Constant (.int j) _ _ => decide (i = j)
    | _ => false
  | .str x, _, x0 => match x0 with
    | .Constant (.str y) _ _ => decide (x = y)
    | _ => false
  | .glob x d, sc, x0 => match x0 with
    | .Name y _ => decide (x = y) && glB sc y && tb.cs.any fun p => decide (p.1 = x) && eqD p.2 d
    | _ => false
  | .bin op _ a b, sc, x0 => match x0 with
    | .BinOp a' op' b' _ => decide (op = op') && chkE a sc a' && chkE b sc b'
    | _ => false
  | .neg a, sc, x0 => match x0 with
    | .UnaryOp .USub a' _ => chkE a sc a'
    | _ => false
  | .not a, sc, x0 => match x0 with
    | .UnaryOp .Not a' _ => chkE a sc a'
    | _ => false
  | .and a b, sc, x0 => match x0 with
    | .BoolOp .And (a' :: b' :: r) pos => chkE a sc a' && match r with
      | [] => chkE b sc b'
      | c' :: r' => chkE b sc (.BoolOp .And (b' :: c' :: r') pos)
    | _ => false
  | .or a b, sc, x0 => match x0 with
    | .BoolOp .Or (a' :: b' :: r) pos => chkE a sc a' && match r with
      | [] => chkE b sc b'
      | c' :: r' => chkE b sc (.BoolOp .Or (b' :: c' :: r') pos)
    | _ => false
  | .cmp op a b, sc, x0 => match x0 with
    | .Compare a' [op'] [b'] _ => decide (op = op') && chkE a sc a' && chkE b sc b' && noSet b'
    | _ => false
  | .ch2 o1 o2 a b c, sc, x0 => match x0 with
    | .Compare a' [p1, p2] [b', c'] _ => decide (o1 = p1) && decide (o2 = p2) && chkE a sc a' && chkE b sc b' && chkE c sc c' && noSet c'
    | _ => false
  | .ch3 o1 o2 o3 a b c d, sc, x0 => match x0 with
    | .Compare a' [p1, p2, p3] [b', c', d'] _ => decide (o1 = p1) && decide (o2 = p2) && decide (o3 = p3) && chkE a sc a' && chkE b sc b' && chkE c sc c' && chkE d sc d' && noSet d'
    | _ => false
  | .ife t a b, sc, x0 => match x0 with
    | .IfExp t' a' b' _ => chkE t sc t' && chkE a sc a' && chkE b sc b'
    | _ => false
  | .tup es, sc, x0 => match x0 with
    | .Tuple es' _ _ => chkA es sc es'
    | _ => false
  | .lst _ es, sc, x0 => match x0 with
    | .List es' _ => chkA es sc es'
    | _ => false
  | .emp, _, x0 => match x0 with
    | .Dict [] [] _ => true
    | _ => false
  | .dct ks es, sc, x0 => match x0 with
    | .Dict [] [] _ => decide (ks.length = 0) && chkA es sc []
    | .Dict keys values _ => chkK ks keys && chkA es sc values && decide (0 < ks.length) && decide (ks.length ≤ 15) && decide (values.length = ks.length)
    | _ => false
  | .dget a i, sc, x0 => match x0 with
    | .Subscript a' i' _ => chkE a sc a' && chkE i sc i' && noSlice i'
    | _ => false
  | .call f es, sc, x0 => match x0 with
    | .Call (.Name x _) (e :: es') [] _ => decide (tb.nm f = some x) && glB sc x && chkA es sc (e :: es')
    | _ => false
  | .cll fs i es, sc, x0 => match x0 with
    | .Call (.Subscript (.List ns _) i' _) (e :: es') [] _ => chkFn tb sc fs ns && decide (fs.length ≤ 20) && decide (0 < fs.length) && chkE i sc i' && noSlice i' && chkA es sc (e :: es')
    | _ => false
  | .bi b _ es, sc, x0 => match x0 with
    | .Call (.Name x _) (e :: es') [] _ => decide (biNm b = x) && bnB tb sc x && chkA es sc (e :: es')
    | _ => false
  | .isi a t, sc, x0 => match x0 with
    | .Call (.Name x _) [a', .Name y _] [] _ => decide (x = "isinstance") && bnB tb sc x && chkE a sc a' && noStar a' && decide (tyNm t = y) && bnB tb sc y
    | _ => false
  | .ist a ts, sc, x0 => match x0 with
    | .Call (.Name x _) [a', .Tuple es _ _] [] _ => decide (x = "isinstance") && bnB tb sc x && chkE a sc a' && noStar a' && chkTy tb sc ts es && decide (ts.length ≤ 20) && decide (0 < ts.length)
    | _ => false
  | .dgt d k, sc, x0 => match x0 with
    | .Call (.Attribute o' m ap) [k'] [] cp => decide (m = "get") && (ap.endLine == cp.line) && chkE d sc o' && plainO o' && chkE k sc k' && noStar k'
    | _ => false
  | .isx a c, sc, x0 => match x0 with
    | .Call (.Name x _) [a', .Name y _] [] _ => decide (x = "isinstance") && bnB tb sc x && chkE a sc a' && noStar a' && xnB tb sc c y
    | _ => false
  | .ixs a cs, sc, x0 => match x0 with
    | .Call (.Name x _) [a', .Tuple es _ _] [] _ => decide (x = "isinstance") && bnB tb sc x && chkE a sc a' && noStar a' && chkC tb sc cs es && decide (cs.length ≤ 20)
    | _ => false
  | .atr a f, sc, x0 => match x0 with
    | .Attribute a' n _ => decide (f = n) && chkE a sc a' && plainO a' && fldN f
    | _ => false
  | .fld a f, sc, x0 => match x0 with
    | .Attribute a' n _ => decide (f = n) && chkE a sc a' && plainO a' && tb.of.any fun g => decide (g = f)
    | _ => false
  | .mth o c m f es, sc, x0 => match x0 with
    | .Call (.Attribute o' m' ap) es' [] cp => decide (m = m') && (ap.endLine == cp.line) && chkE o sc o' && plainO o' && chkA es sc es' && decide (es'.length < 20) && decide (tb.me f = some (c, m))
    | _ => false
  | .mk c f es, sc, x0 => match x0 with
    | .Call (.Name x _) es' [] _ => (tb.oc.any fun p => decide (p = (c, x))) && glB sc x && decide (tb.me f = some (c, ("__init__" : Str))) && chkA es sc es'
    | _ => false
  | .bm b _ o es, sc, x0 => match x0 with
    | .Call (.Attribute o' m ap) es' [] cp => decide (bmNm b = m) && (ap.endLine == cp.line) && chkE o sc o' && plainO o' && chkA es sc es' && decide (es'.length < 20)
    | _ => false
  | .idx a i, sc, x0 => match x0 with
    | .Subscript a' i' _ => chkE a sc a' && chkE i sc i' && noSlice i'
    | _ => false
  | .sli _ a lo hi, sc, x0 => match x0 with
    | .Subscript a' (.Slice lo' hi' none _) _ => chkE a sc a' && chkP lo sc lo' && chkP hi sc hi'
    | _ => false
  | .rev _ a, sc, x0 => match x0 with
    | .Subscript a' (.Slice none none (some (.UnaryOp .USub (.Constant (.int 1) _ _) _)) _) _ => chkE a sc a'
    | _ => false
  | .lrg _ es, sc, x0 => match x0 with
    | .Call (.Name x _) [.Call (.Name y _) (e :: es') [] _] [] _ => decide (x = "list") && bnB tb sc x && decide (y = "range") && bnB tb sc y && chkA es sc (e :: es')
    | _ => false
  | .comp _ own tg iter cond elt, sc, x0 => match x0 with
    | .ListComp elt' [⟨tg', iter', ifs', 0⟩] scope _ => blkC N sc scope (ownOf N own) && chkW iter sc (isTupT tg') iter' && chkG N (relS scope sc) false tg tg' && ((slots tg).all fun i => own.any fun j => i == j) && chkF cond (relS scope sc) ifs' && chkE elt (relS scope sc) elt' && (noSet iter' && tb.hot)
    | _ => false
  | _, _, _ => false
def chkA : Ex → Scope → List Expr → Bool
  | .nil, _, x0 => match x0 with
    | [] => true
    | _ => false
  | .cons e es, sc, x0 => match x0 with
    | e' :: es' => chkE e sc e' && noStar e' && chkA es sc es'
    | _ => false
  | _, _, _ => false
def chkP : Ex → Scope → Option Expr → Bool
  | .nopart, _, x0 => match x0 with
    | none => true
    | _ => false
  | .part e, sc, x0 => match x0 with
    | some e' => chkE e sc e'
    | _ => false
  | _, _, _ => false
def chkF : Ex → Scope → List Expr → Bool
  | .nopart, _, x0 => match x0 with
    | [] => true
    | _ => false
  | .part e, sc, x0 => match x0 with
    | [e'] => chkE e sc e'
    | _ => false
  | _, _, _ => false
/-- what is walked; tp: the target is a written tuple -/
def chkW : Ex → Scope → Bool → Expr → Bool
  | .itl e, sc, _, e' => chkE e sc e'
  | .itt e, sc, _, e' => chkE e sc e'
  | .its e, sc, _, e' => chkE e sc e'
  | .it1 a, sc, _, x0 => match x0 with
    | .Call (.Name x _) [a'] [] _ => decide (x = "range") && bnB tb sc x && chkE a sc a' && noStar a'
    | _ => false
  | .it2 a b, sc, _, x0 => match x0 with
    | .Call (.Name x _) [a', b'] [] _ => decide (x = "range") && bnB tb sc x && chkE a sc a' && noStar a' && chkE b sc b' && noStar b'
    | _ => false
  | .it3 a b c, sc, _, x0 => match x0 with
    | .Call (.Name x _) [a', b', c'] [] _ => decide (x = "range") && bnB tb sc x && chkE a sc a' && noStar a' && chkE b sc b' && noStar b' && chkE c sc c' && noStar c'
    | _ => false
  | .ite e, sc, tp, x0 => match x0 with
    | .Call (.Name x _) [e'] [] _ => tp && decide (x = "enumerate") && bnB tb sc x && chkE e sc e' && noStar e'
    | _ => false
  | .itr e, sc, _, x0 => match x0 with
    | .Call (.Name x _) [e'] [] _ => decide (x = "reversed") && bnB tb sc x && chkE e sc e' && noStar e'
    | _ => false
  | .itz a b, sc, tp, x0 => match x0 with
    | .Call (.Name x _) [a', b'] [] _ => tp && decide (x = "zip") && bnB tb sc x && chkE a sc a' && noStar a' && chkE b sc b' && noStar b'
    | _ => false
  | _, _, _, _ => false
end
end
end Wp

/-! WpM: what is enough for less is enough for what follows from it. -/
namespace Wp
open PySem
section
variable {q q' : QK} (hq : ∀ d M, q d M → q' d M)
include hq
theorem newL_mono {fr : Bool} {ds : List D} {M : Mem} : newL fr ds M q → newL fr ds M q' := by
  cases fr with
  | true => exact fun h => ⟨h.1, hq _ _ h.2⟩
  | false => exact fun h => ⟨h.1, fun p hp => hq _ _ (h.2 p hp)⟩
theorem addW_mono {fr : Bool} {x y : D} {M : Mem} : addW fr x y M q → addW fr x y M q' := by
  unfold addW
  split
  · exact hq _ _
  · exact fun h => ⟨h.1, hq _ _ h.2⟩
  · exact fun h => ⟨h.1, hq _ _ h.2⟩
  · split
    · exact newL_mono hq
    · exact id
theorem mulW_mono {fr : Bool} {x y : D} {M : Mem} : mulW fr x y M q → mulW fr x y M q' := by
  unfold mulW
  split
  · exact fun h => ⟨h.1, hq _ _ h.2⟩
  · exact fun h => ⟨h.1, h.2.1, h.2.2.1, hq _ _ h.2.2.2⟩
  · exact fun h => ⟨h.1, h.2.1, h.2.2.1, hq _ _ h.2.2.2⟩
  · split
    · exact fun h => ⟨h.1, h.2.1, h.2.2.1, newL_mono hq h.2.2.2⟩
    · exact id
  · exact id
theorem binW_mono {op : Operator} {fr : Bool} {x y : D} {M : Mem} : binW op fr x y M q → binW op fr x y M q' := by
  unfold binW
  split
  · exact addW_mono hq
  · exact mulW_mono hq
  · split
    · exact hq _ _
    · exact id
  · split
    · exact fun h => ⟨h.1, hq _ _ h.2⟩
    · exact id
  · split
    · exact fun h => ⟨h.1, h.2.1, hq _ _ h.2.2⟩
    · exact id
  · split
    · exact fun h => ⟨h.1, hq _ _ h.2⟩
    · exact id
  · exact id
theorem negW_mono {x : D} {M : Mem} : negW x M q → negW x M q' := by
  unfold negW
  split
  · exact hq _ _
  · exact id
theorem eqX_mono {neg : Bool} {x y : D} {M : Mem} : eqX neg x y M q → eqX neg x y M q' := by
  unfold eqX
  split
  · exact fun h => ⟨h.1, h.2.1, hq _ _ h.2.2⟩
  · exact fun h => ⟨h.1, hq _ _ h.2⟩
  · exact fun h => ⟨h.1, h.2.1, hq _ _ h.2.2⟩
  · exact hq _ _
  · exact hq _ _
  · exact hq _ _
  · split
    · split
      · exact hq _ _
      · exact id
    · exact id
  · exact id
theorem eqF_mono {neg : Bool} {x y : D} {M : Mem} : eqF neg x y M q → eqF neg x y M q' := by
  unfold eqF
  split
  · exact fun h => ⟨h.1, h.2.1, hq _ _ h.2.2⟩
  · exact eqX_mono hq
theorem eqP_mono {neg : Bool} {x y : D} {M : Mem} : eqP neg x y M q → eqP neg x y M q' := by
  unfold eqP
  split
  · exact fun h => ⟨h.1, h.2.1, hq _ _ h.2.2⟩
  · exact eqF_mono hq
theorem eqW_mono {neg : Bool} {x y : D} {M : Mem} : eqW neg x y M q → eqW neg x y M q' := by
  unfold eqW
  split
  · exact hq _ _
  unfold eqL
  split
  · split
    · exact eqP_mono hq
    · exact hq _ _
  · split
    · exact hq _ _
    · exact eqP_mono hq
theorem inS_mono {neg : Bool} {x y : D} {M : Mem} : inS neg x y M q → inS neg x y M q' := by
  unfold inS
  split
  · exact hq _ _
  · exact fun h => ⟨h.1, hq _ _ h.2⟩
  · split
    · split
      · exact fun h => ⟨h.1, h.2.1, hq _ _ h.2.2⟩
      · exact id
    · exact id
theorem inW_mono {neg : Bool} {x y : D} {M : Mem} : inW neg x y M q → inW neg x y M q' := by
  unfold inW
  split
  · split
    · exact hq _ _
    · exact id
  · exact inS_mono hq
theorem cmpW_mono {op : CmpOp} {x y : D} {M : Mem} : cmpW op x y M q → cmpW op x y M q' := by
  unfold cmpW
  split
  · exact eqW_mono hq
  · exact eqW_mono hq
  · split <;> first | exact hq _ _ | exact id
  · split <;> first | exact hq _ _ | exact id
  · split
    · exact hq _ _
    · exact hq _ _
    · split
      · split
        · exact hq _ _
        · exact id
      · exact id
  · split <;> first | exact hq _ _ | exact id
  · split <;> first | exact hq _ _ | exact id
  · split <;> first | exact hq _ _ | exact id
  · exact inW_mono hq
  · exact inW_mono hq
theorem idxW_mono {x y : D} {M : Mem} : idxW x y M q → idxW x y M q' := by
  unfold idxW
  split
  · refine fun h => ⟨h.1, ?_⟩
    have h := h.2
    revert h
    split
    · exact hq _ _
    · exact id
  · split
    · split
      · exact hq _ _
      · exact id
    · exact id
  · exact id
theorem sliW_mono {fr : Bool} {x : D} {l u : Option Int} {M : Mem} : sliW fr x l u M q → sliW fr x l u M q' := by
  unfold sliW
  split
  · exact fun h => ⟨h.1, hq _ _ h.2⟩
  · exact hq _ _
  · split
    · exact newL_mono hq
    · exact id
theorem revW_mono {fr : Bool} {x : D} {M : Mem} : revW fr x M q → revW fr x M q' := by
  unfold revW
  split
  · exact hq _ _
  · split
    · exact newL_mono hq
    · exact id
theorem isxW_mono {x : D} {c : Nat} {M : Mem} : isxW x c M q → isxW x c M q' := by
  unfold isxW
  split
  · split
    · exact hq _ _
    · exact id
  · exact id
theorem ixsW_mono {x : D} {cs : List Nat} {M : Mem} : ixsW x cs M q → ixsW x cs M q' := by
  unfold ixsW
  split
  · split
    · exact hq _ _
    · exact id
  · exact id
theorem atrW_mono {x : D} {f : Str} {M : Mem} : atrW x f M q → atrW x f M q' := by
  unfold atrW
  split
  · split
    · split
      · exact hq _ _
      · exact id
    · exact id
  · exact id
theorem fldW_mono {x : D} {f : Str} {M : Mem} : fldW x f M q → fldW x f M q' := by
  unfold fldW
  split
  · split
    · split
      · exact hq _ _
      · exact id
    · exact id
  · exact id
theorem biW_mono {b : Bi} {fr : Bool} {ds : List D} {M : Mem} : biW b fr ds M q → biW b fr ds M q' := by
  unfold biW lenW
  split
  · split
    · exact fun h => ⟨h.1, hq _ _ h.2⟩
    · split
      · exact hq _ _
      · exact id
  · exact hq _ _
  · exact hq _ _
  · refine fun h => ⟨h.1, ?_⟩
    have h := h.2
    revert h
    split
    · exact hq _ _
    · exact id
  · exact fun h => ⟨h.1, newL_mono hq h.2⟩
  · split
    · exact newL_mono hq
    · exact id
  · exact hq _ _
  · split
    · exact hq _ _
    · exact id
  · exact fun h => ⟨h.1, hq _ _ h.2⟩
  · exact fun h => ⟨h.1, hq _ _ h.2⟩
  · exact hq _ _
  · exact hq _ _
  · exact hq _ _
  · exact hq _ _
  · exact hq _ _
  · split
    · split
      · exact fun h => ⟨h.1, fun m h1 h2 => hq _ _ (h.2 m h1 h2)⟩
      · exact id
    · exact id
  · split
    · split
      · exact fun h => ⟨h.1, fun m h1 h2 => hq _ _ (h.2 m h1 h2)⟩
      · exact id
    · exact id
  · split
    · split
      · exact hq _ _
      · exact id
    · exact id
  · split
    · split
      · exact fun h ns' a b => newL_mono hq (h ns' a b)
      · exact id
    · exact id
  · split
    · split
      · exact hq _ _
      · exact id
    · exact id
  · split
    · split
      · exact fun h p hp => hq _ _ (h p hp)
      · exact id
    · exact id
  · exact id
theorem bmW_mono {b : Bm} {fr : Bool} {x : D} {ds : List D} {M : Mem} : bmW b fr x ds M q → bmW b fr x ds M q' := by
  unfold bmW
  split
  · split
    · exact fun h => ⟨h.1, hq _ _ h.2⟩
    · exact id
  · split
    · exact fun h => ⟨h.1, hq _ _ h.2⟩
    · exact id
  · split
    · exact hq _ _
    · exact id
  · split
    · exact hq _ _
    · exact id
  · split
    · exact fun h => ⟨h.1, h.2.1, h.2.2.1, hq _ _ h.2.2.2⟩
    · exact id
  · split
    · refine fun h => ⟨h.1, h.2.1, ?_⟩
      have h := h.2.2
      revert h
      split
      · exact hq _ _
      · exact id
    · exact id
  · split
    · split
      · exact hq _ _
      · exact id
    · exact id
  · split
    · split
      · exact fun h => ⟨h.1, hq _ _ h.2⟩
      · exact id
    · exact id
  · split
    · split
      · refine fun h => ⟨h.1, h.2.1, ?_⟩
        have h := h.2.2
        revert h
        split
        · exact hq _ _
        · exact id
      · exact id
    · exact id
  · exact hq _ _
  · exact fun h => ⟨h.1, hq _ _ h.2⟩
  · exact fun h => ⟨h.1, h.2.1, newL_mono hq h.2.2⟩
  · exact fun h => ⟨h.1, h.2.1, hq _ _ h.2.2⟩
  · exact id
end
theorem truW_mono {q q' : BK} (hq : ∀ c M, q c M → q' c M) {x : D} {M : Mem} : truW x M q → truW x M q' := by
  unfold truW
  split
  · exact hq _ _
  · exact hq _ _
  · exact hq _ _
  · exact fun h => ⟨h.1, hq _ _ h.2⟩
  · exact hq _ _
  · split
    · exact hq _ _
    · exact id
mutual
theorem tgW_mono : ∀ (t : Tg) {d : D} {env : Env} {Q Q' : Env → Prop}, (∀ e, Q e → Q' e) → tgW t d env Q → tgW t d env Q'
  | .nm _, _, _, _, _, hq, h => hq _ h
  | .no, d, env, Q, Q', hq, h => by
    unfold tgW at h ⊢
    split at h
    · exact hq _ h
    · exact hq _ h
    · exact h.elim
  | .co t ts, d, env, Q, Q', hq, h => by
    unfold tgW at h ⊢
    split at h
    · exact tgW_mono t (fun e h => tgsW_mono ts hq h) h
    · exact tgW_mono t (fun e h => tgsW_mono ts hq h) h
    · exact h.elim
theorem tgsW_mono : ∀ (t : Tg) {ds : List D} {env : Env} {Q Q' : Env → Prop}, (∀ e, Q e → Q' e) → tgsW t ds env Q → tgsW t ds env Q'
  | .nm _, ds, _, _, _, _, h => by cases ds <;> exact (show False from h).elim
  | .no, ds, env, Q, Q', hq, h => by
    cases ds with
    | nil => exact hq _ h
    | cons a b => exact (show False from h).elim
  | .co t ts, ds, env, Q, Q', hq, h => by
    cases ds with
    | nil => exact (show False from h).elim
    | cons d ds => exact tgW_mono t (fun e h => tgsW_mono ts hq h) (show tgW t d env (fun e => tgsW ts ds e Q) from h)
end
theorem compW_mono {step step' : D → Env → Mem → (Option D → Mem → Prop) → Prop} (hs : ∀ d e M P P', (∀ o M, P o M → P' o M) → step d e M P → step' d e M P') {still : Mem → Prop} {env : Env} {Q Q' : AK} (hq : ∀ ds M, Q ds M → Q' ds M) :
    ∀ {items acc : List D} {M : Mem}, compW step still env items acc M Q → compW step' still env items acc M Q'
  | [], _, _, h => ⟨h.1, hq _ _ h.2⟩
  | d :: ds, acc, M, h => ⟨h.1, hs _ _ _ _ _ (fun o M1 h => by
      cases o with
      | none => exact compW_mono hs hq h
      | some y => exact ⟨h.1, compW_mono hs hq h.2⟩) h.2⟩
theorem walkL_mono {Q Q' : Wk → Mem → Prop} (hq : ∀ w M, Q w M → Q' w M) {d : D} {M : Mem} : walkL d M Q → walkL d M Q' := by
  unfold walkL
  split
  · exact hq _ _
  · split
    · exact hq _ _
    · exact id
theorem walkT_mono {Q Q' : Wk → Mem → Prop} (hq : ∀ w M, Q w M → Q' w M) {d : D} {M : Mem} : walkT d M Q → walkT d M Q' := by
  unfold walkT
  split
  · exact hq _ _
  · exact id
theorem walkS_mono {Q Q' : Wk → Mem → Prop} (hq : ∀ w M, Q w M → Q' w M) {d : D} {M : Mem} : walkS d M Q → walkS d M Q' := by
  unfold walkS
  split
  · exact hq _ _
  · exact id
theorem walkR_mono {Q Q' : Wk → Mem → Prop} (hq : ∀ w M, Q w M → Q' w M) {ds : List D} {M : Mem} : walkR ds M Q → walkR ds M Q' := by
  unfold walkR
  split
  · exact fun h => ⟨h.1, hq _ _ h.2⟩
  · exact fun h => ⟨h.1, hq _ _ h.2⟩
  · split
    · exact fun h => ⟨h.1, hq _ _ h.2⟩
    · exact fun h => ⟨h.1, hq _ _ h.2⟩
  · exact id
theorem dgetW_mono {q q' : QK} (hq : ∀ d M, q d M → q' d M) {x k : D} {M : Mem} : dgetW x k M q → dgetW x k M q' := by
  unfold dgetW
  split
  · split
    · split
      · exact hq _ _
      · exact id
    · exact id
  · exact id
theorem dgtW_mono {q q' : QK} (hq : ∀ d M, q d M → q' d M) {x k : D} {M : Mem} : dgtW x k M q → dgtW x k M q' := by
  unfold dgtW
  split
  · exact hq _ _
  · exact id
theorem dputW_mono {q q' : Mem → Prop} (hq : ∀ M, q M → q' M) {o k v : D} {M : Mem} : dputW o k v M q → dputW o k v M q' := by
  unfold dputW
  split
  · split
    · exact fun h => ⟨h.1, hq _ h.2⟩
    · exact id
  · exact id
theorem sflW_mono {q q' : Mem → Prop} (hq : ∀ M, q M → q' M) {o v : D} {f : Str} {M : Mem} : sflW o f v M q → sflW o f v M q' := by
  unfold sflW
  split
  · split
    · exact fun h => ⟨h.1, hq _ h.2⟩
    · exact id
  · exact id
theorem zipW_mono {Q Q' : Wk → Mem → Prop} (hq : ∀ w M, Q w M → Q' w M) {x y : D} {M : Mem} : zipW x y M Q → zipW x y M Q' := by
  unfold zipW
  split
  · exact hq _ _
  · split
    · exact hq _ _
    · exact id

/-- a semantics of calls that is monotone -/
def MonR (R R' : Nat → List D → Mem → QK → XQ → Prop) : Prop := ∀ f ds M Q Q' E E', (∀ d M, Q d M → Q' d M) → (∀ z M, E z M → E' z M) → R f ds M Q E → R' f ds M Q' E'
/-- what is wanted of an expression's parts -/
structure MonX (R R' : Nat → List D → Mem → QK → XQ → Prop) (ex : Ex) : Prop where
  E : ∀ {env : Env} {M : Mem} {Q Q' : QK} {E E' : XQ}, (∀ d M, Q d M → Q' d M) → (∀ z M, E z M → E' z M) → wpE R ex env M Q E → wpE R' ex env M Q' E'
  A : ∀ {env : Env} {M : Mem} {Q Q' : AK} {E E' : XQ}, (∀ d M, Q d M → Q' d M) → (∀ z M, E z M → E' z M) → wpA R ex env M Q E → wpA R' ex env M Q' E'
  P : ∀ {env : Env} {M : Mem} {Q Q' : Option Int → Mem → Prop} {E E' : XQ}, (∀ d M, Q d M → Q' d M) → (∀ z M, E z M → E' z M) → wpP R ex env M Q E → wpP R' ex env M Q' E'
  C : ∀ {env : Env} {M : Mem} {Q Q' : BK} {E E' : XQ}, (∀ d M, Q d M → Q' d M) → (∀ z M, E z M → E' z M) → wpC R ex env M Q E → wpC R' ex env M Q' E'
  W : ∀ {env : Env} {M : Mem} {Q Q' : Wk → Mem → Prop} {E E' : XQ}, (∀ d M, Q d M → Q' d M) → (∀ z M, E z M → E' z M) → wpW R ex env M Q E → wpW R' ex env M Q' E'
theorem mon (R R' : Nat → List D → Mem → QK → XQ → Prop) (hR : MonR R R') (ex : Ex) : MonX R R' ex := by
  induction ex with
  | var i =>
    refine ⟨fun hq he h => ?_, fun hq he h => h.elim, fun hq he h => h.elim, fun hq he h => h.elim, fun hq he h => h.elim⟩
    revert h
    dsimp only [wpE]
    split
    · exact hq _ _
    · exact id
  | non => exact ⟨fun hq he h => hq _ _ h, fun hq he h => h.elim, fun hq he h => h.elim, fun hq he h => h.elim, fun hq he h => h.elim⟩
  | bl b => exact ⟨fun hq he h => hq _ _ h, fun hq he h => h.elim, fun hq he h => h.elim, fun hq he h => h.elim, fun hq he h => h.elim⟩
  | int b => exact ⟨fun hq he h => hq _ _ h, fun hq he h => h.elim, fun hq he h => h.elim, fun hq he h => h.elim, fun hq he h => h.elim⟩
  | str b => exact ⟨fun hq he h => hq _ _ h, fun hq he h => h.elim, fun hq he h => h.elim, fun hq he h => h.elim, fun hq he h => h.elim⟩
  | glob b d => exact ⟨fun hq he h => hq _ _ h, fun hq he h => h.elim, fun hq he h => h.elim, fun hq he h => h.elim, fun hq he h => h.elim⟩
  | emp => exact ⟨fun hq he h => hq _ _ h, fun hq he h => h.elim, fun hq he h => h.elim, fun hq he h => h.elim, fun hq he h => h.elim⟩
  | dct ks es h1 => exact ⟨fun hq he h => ⟨h.1, fun p hp => h1.A (fun ds M1 h => ⟨h.1, h.2.1, hq _ _ h.2.2⟩) he (h.2 p hp)⟩, fun hq he h => h.elim, fun hq he h => h.elim, fun hq he h => h.elim, fun hq he h => h.elim⟩
  | dget a i h1 h2 => exact ⟨fun hq he h => h1.E (fun x M1 h => h2.E (fun y M2 h => dgetW_mono hq h) he h) he h, fun hq he h => h.elim, fun hq he h => h.elim, fun hq he h => h.elim, fun hq he h => h.elim⟩
  | bin op fr a b ha hb => exact ⟨fun hq he h => ha.E (fun x M1 h => hb.E (fun y M2 h => binW_mono hq h) he h) he h, fun hq he h => h.elim, fun hq he h => h.elim, fun hq he h => h.elim, fun hq he h => h.elim⟩
  | neg a ha => exact ⟨fun hq he h => ha.E (fun x M1 h => negW_mono hq h) he h, fun hq he h => h.elim, fun hq he h => h.elim, fun hq he h => h.elim, fun hq he h => h.elim⟩
  | not a ha => exact ⟨fun hq he h => ha.E (fun x M1 h => truW_mono (fun c M h => hq _ _ h) h) he h, fun hq he h => h.elim, fun hq he h => h.elim, fun hq he h => h.elim, fun hq he h => h.elim⟩
  | and a b ha hb => exact ⟨fun hq he h => ha.E (fun x M1 h => truW_mono (fun c M h => by
      cases c with
      | true => exact hb.E hq he h
      | false => exact hq _ _ h) h) he h, fun hq he h => h.elim, fun hq he h => h.elim, fun hq he h => h.elim, fun hq he h => h.elim⟩
  | or a b ha hb => exact ⟨fun hq he h => ha.E (fun x M1 h => truW_mono (fun c M h => by
      cases c with
      | false => exact hb.E hq he h
      | true => exact hq _ _ h) h) he h, fun hq he h => h.elim, fun hq he h => h.elim, fun hq he h => h.elim, fun hq he h => h.elim⟩
  | cmp op a b ha hb => exact ⟨fun hq he h => ha.E (fun x M1 h => hb.E (fun y M2 h => cmpW_mono hq h) he h) he h, fun hq he h => h.elim, fun hq he h => h.elim, fun hq he h => h.elim, fun hq he h => h.elim⟩
  | ch2 o1 o2 a b c ha hb hc => exact ⟨fun hq he h => ha.E (fun x M1 h => hb.E (fun y M2 h => cmpW_mono (fun r M3 h => by
      revert h
      split
      · exact hc.E (fun z M4 h => cmpW_mono hq h) he
      · exact hq _ _
      · exact id) h) he h) he h, fun hq he h => h.elim, fun hq he h => h.elim, fun hq he h => h.elim, fun hq he h => h.elim⟩
  | ch3 o1 o2 o3 a b c d ha hb hc hd => exact ⟨fun hq he h => ha.E (fun x M1 h => hb.E (fun y M2 h => cmpW_mono (fun r M3 h => by
      revert h
      split
      · exact hc.E (fun z M4 h => cmpW_mono (fun r M5 h => by
          revert h
          split
          · exact hd.E (fun z M4 h => cmpW_mono hq h) he
          · exact hq _ _
          · exact id) h) he
      · exact hq _ _
      · exact id) h) he h) he h, fun hq he h => h.elim, fun hq he h => h.elim, fun hq he h => h.elim, fun hq he h => h.elim⟩
  | ife t a b ht ha hb => exact ⟨fun hq he h => ht.E (fun x M1 h => truW_mono (fun c M h => by
      cases c with
      | true => exact ha.E hq he h
      | false => exact hb.E hq he h) h) he h, fun hq he h => h.elim, fun hq he h => h.elim, fun hq he h => h.elim, fun hq he h => h.elim⟩
  | tup es hs => exact ⟨fun hq he h => hs.A (fun ds M1 h => ⟨h.1, hq _ _ h.2⟩) he h, fun hq he h => h.elim, fun hq he h => h.elim, fun hq he h => h.elim, fun hq he h => h.elim⟩
  | lst fr es hs => exact ⟨fun hq he h => hs.A (fun ds M1 h => newL_mono hq h) he h, fun hq he h => h.elim, fun hq he h => h.elim, fun hq he h => h.elim, fun hq he h => h.elim⟩
  | nil => exact ⟨fun hq he h => h.elim, fun hq he h => hq _ _ h, fun hq he h => h.elim, fun hq he h => h.elim, fun hq he h => h.elim⟩
  | cons e es h1 h2 => exact ⟨fun hq he h => h.elim, fun hq he h => h1.E (fun x M1 h => h2.A (fun ds M2 h => hq _ _ h) he h) he h, fun hq he h => h.elim, fun hq he h => h.elim, fun hq he h => h.elim⟩
  | call f es hs => exact ⟨fun hq he h => hs.A (fun ds M1 h => hR _ _ _ _ _ _ _ hq he h) he h, fun hq he h => h.elim, fun hq he h => h.elim, fun hq he h => h.elim, fun hq he h => h.elim⟩
  | cll fs i es h1 hs => exact ⟨fun hq he h => h1.E (fun y M1 h => by
      cases y with
      | int k =>
        revert h
        dsimp only
        cases atI fs k with
        | none => exact fun h => h
        | some f => exact fun h => hs.A (fun ds M2 h => hR _ _ _ _ _ _ _ hq he h) he h
      | _ => exact h.elim) he h, fun hq he h => h.elim, fun hq he h => h.elim, fun hq he h => h.elim, fun hq he h => h.elim⟩
  | bi b fr es hs => exact ⟨fun hq he h => hs.A (fun ds M1 h => biW_mono hq h) he h, fun hq he h => h.elim, fun hq he h => h.elim, fun hq he h => h.elim, fun hq he h => h.elim⟩
  | isi a t ha => exact ⟨fun hq he h => ha.E (fun x M1 h => by
      revert h
      split
      · exact hq _ _
      · exact id) he h, fun hq he h => h.elim, fun hq he h => h.elim, fun hq he h => h.elim, fun hq he h => h.elim⟩
  | ist a ts ha => exact ⟨fun hq he h => ha.E (fun x M1 h => by
      revert h
      split
      · exact hq _ _
      · exact id) he h, fun hq he h => h.elim, fun hq he h => h.elim, fun hq he h => h.elim, fun hq he h => h.elim⟩
  | dgt a i h1 h2 => exact ⟨fun hq he h => h1.E (fun x M1 h => ⟨h.1, h2.E (fun y M2 h => dgtW_mono hq h) he h.2⟩) he h, fun hq he h => h.elim, fun hq he h => h.elim, fun hq he h => h.elim, fun hq he h => h.elim⟩
  | itr e h1 => exact ⟨fun hq he h => h.elim, fun hq he h => h.elim, fun hq he h => h.elim, fun hq he h => h.elim, fun hq he h => h1.E (fun x M1 h => by
      revert h
      split
      · exact hq _ _
      · exact id) he h⟩
  | isx a c ha => exact ⟨fun hq he h => ha.E (fun x M1 h => isxW_mono hq h) he h, fun hq he h => h.elim, fun hq he h => h.elim, fun hq he h => h.elim, fun hq he h => h.elim⟩
  | ixs a cs ha => exact ⟨fun hq he h => ha.E (fun x M1 h => ixsW_mono hq h) he h, fun hq he h => h.elim, fun hq he h => h.elim, fun hq he h => h.elim, fun hq he h => h.elim⟩
  | atr a f ha => exact ⟨fun hq he h => ha.E (fun x M1 h => atrW_mono hq h) he h, fun hq he h => h.elim, fun hq he h => h.elim, fun hq he h => h.elim, fun hq he h => h.elim⟩
  | fld a f ha => exact ⟨fun hq he h => ha.E (fun x M1 h => fldW_mono hq h) he h, fun hq he h => h.elim, fun hq he h => h.elim, fun hq he h => h.elim, fun hq he h => h.elim⟩
  | mth o c m f es ho hs => exact ⟨fun hq he h => ho.E (fun x M1 h => ⟨h.1, hs.A (fun ds M2 h => hR _ _ _ _ _ _ _ hq he h) he h.2⟩) he h, fun hq he h => h.elim, fun hq he h => h.elim, fun hq he h => h.elim, fun hq he h => h.elim⟩
  | mk c f es hs => exact ⟨fun hq he h => hs.A (fun ds M1 h p hp => hR _ _ _ _ _ _ _ (fun v M2 h => ⟨h.1, hq _ _ h.2⟩) he (h p hp)) he h, fun hq he h => h.elim, fun hq he h => h.elim, fun hq he h => h.elim, fun hq he h => h.elim⟩
  | bm b fr o es ho hs => exact ⟨fun hq he h => ho.E (fun x M1 h => ⟨h.1, hs.A (fun ds M2 h => bmW_mono hq h) he h.2⟩) he h, fun hq he h => h.elim, fun hq he h => h.elim, fun hq he h => h.elim, fun hq he h => h.elim⟩
  | idx a i ha hi => exact ⟨fun hq he h => ha.E (fun x M1 h => hi.E (fun y M2 h => idxW_mono hq h) he h) he h, fun hq he h => h.elim, fun hq he h => h.elim, fun hq he h => h.elim, fun hq he h => h.elim⟩
  | sli fr a lo hi ha hl hh => exact ⟨fun hq he h => ha.E (fun x M1 h => hl.P (fun l M2 h => hh.P (fun u M3 h => sliW_mono hq h) he h) he h) he h, fun hq he h => h.elim, fun hq he h => h.elim, fun hq he h => h.elim, fun hq he h => h.elim⟩
  | rev fr a ha => exact ⟨fun hq he h => ha.E (fun x M1 h => revW_mono hq h) he h, fun hq he h => h.elim, fun hq he h => h.elim, fun hq he h => h.elim, fun hq he h => h.elim⟩
  | lrg fr es hs => exact ⟨fun hq he h => hs.A (fun ds M1 h => walkR_mono (fun w M2 h => newL_mono hq h) h) he h, fun hq he h => h.elim, fun hq he h => h.elim, fun hq he h => h.elim, fun hq he h => h.elim⟩
  | part e h1 => exact ⟨fun hq he h => h.elim, fun hq he h => h.elim, fun hq he h => h1.E (fun x M1 h => by
      revert h
      split
      · exact hq _ _
      · exact id) he h, fun hq he h => h1.E (fun x M1 h => truW_mono hq h) he h, fun hq he h => h.elim⟩
  | nopart => exact ⟨fun hq he h => h.elim, fun hq he h => h.elim, fun hq he h => hq _ _ h, fun hq he h => hq _ _ h, fun hq he h => h.elim⟩
  | comp fr own tg iter cond elt hi hc he1 => exact ⟨fun hq he h => hi.W (fun w M1 h => compW_mono (fun d e M P P' hp h => tgW_mono tg (fun e' h => hc.C (fun b M1 h => by
      cases b with
      | true => exact he1.E (fun y M2 h => hp _ _ h) (fun _ _ z => z) h
      | false => exact hp _ _ h) (fun _ _ z => z) h) h) (fun ds M2 h => newL_mono hq h) h) he h, fun hq he h => h.elim, fun hq he h => h.elim, fun hq he h => h.elim, fun hq he h => h.elim⟩
  | itl e h1 => exact ⟨fun hq he h => h.elim, fun hq he h => h.elim, fun hq he h => h.elim, fun hq he h => h.elim, fun hq he h => h1.E (fun x M1 h => walkL_mono hq h) he h⟩
  | itt e h1 => exact ⟨fun hq he h => h.elim, fun hq he h => h.elim, fun hq he h => h.elim, fun hq he h => h.elim, fun hq he h => h1.E (fun x M1 h => walkT_mono hq h) he h⟩
  | its e h1 => exact ⟨fun hq he h => h.elim, fun hq he h => h.elim, fun hq he h => h.elim, fun hq he h => h.elim, fun hq he h => h1.E (fun x M1 h => walkS_mono hq h) he h⟩
  | it1 a h1 => exact ⟨fun hq he h => h.elim, fun hq he h => h.elim, fun hq he h => h.elim, fun hq he h => h.elim, fun hq he h => h1.E (fun x M1 h => walkR_mono hq h) he h⟩
  | it2 a b h1 h2 => exact ⟨fun hq he h => h.elim, fun hq he h => h.elim, fun hq he h => h.elim, fun hq he h => h.elim, fun hq he h => h1.E (fun x M1 h => h2.E (fun y M2 h => walkR_mono hq h) he h) he h⟩
  | it3 a b c h1 h2 h3 => exact ⟨fun hq he h => h.elim, fun hq he h => h.elim, fun hq he h => h.elim, fun hq he h => h.elim, fun hq he h => h1.E (fun x M1 h => h2.E (fun y M2 h => h3.E (fun z M3 h => walkR_mono hq h) he h) he h) he h⟩
  | ite e h1 => exact ⟨fun hq he h => h.elim, fun hq he h => h.elim, fun hq he h => h.elim, fun hq he h => h.elim, fun hq he h => h1.E (fun x M1 h => by
      revert h
      unfold enumW
      split
      · exact hq _ _
      · split
        · exact hq _ _
        · exact id) he h⟩
  | itz a b h1 h2 => exact ⟨fun hq he h => h.elim, fun hq he h => h.elim, fun hq he h => h.elim, fun hq he h => h.elim, fun hq he h => h1.E (fun x M1 h => h2.E (fun y M2 h => zipW_mono hq h) he h) he h⟩
end Wp

/-! WpS5: expressions. -/
namespace Wp
open PySem PySem.Spec PyProof.Rows L2

/-! ### readings by trees -/
section
variable (G : Gx) (W : WX)
def liftE (w : Env → Mem → QK → XQ → Prop) : TE := fun σ H Q => ∃ F M env q e, RM G F M H ∧ EnvR G F env σ ∧ Cn G F q Q ∧ CnX G F e (fun c d H => W c d σ H) ∧ w env M q e
def liftT (w : Env → Mem → BK → XQ → Prop) : TT := fun σ H Q => ∃ F M env q e, RM G F M H ∧ EnvR G F env σ ∧ CnB G F q Q ∧ CnX G F e (fun c d H => W c d σ H) ∧ w env M q e
def liftA (w : Env → Mem → AK → XQ → Prop) : TA := fun σ H Q => ∃ F M env q e, RM G F M H ∧ EnvR G F env σ ∧ CnA G F q Q ∧ CnX G F e (fun c d H => W c d σ H) ∧ w env M q e
def CnP (F : Hp) (q : Option Int → Mem → Prop) (Q : Option Int → Hp → Prop) : Prop := ∀ F' M' H' o, Same F F' → RM G F' M' H' → q o M' → Q o H'
def liftP (w : Env → Mem → (Option Int → Mem → Prop) → XQ → Prop) : TO := fun σ H Q => ∃ F M env q e, RM G F M H ∧ EnvR G F env σ ∧ CnP G F q Q ∧ CnX G F e (fun c d H => W c d σ H) ∧ w env M q e
/-- the things that a walk yields, one by one -/
def Real (F : Hp) (J : It) (wk : Wk) : Prop := ∀ P i F' M H, Same F F' → RM (G.hide P) F' M H → wk.still M →
  (∀ d, wk.items[i]? = some d → J.go i H ∧ ∀ x H', J.yld i H x H' → ∃ F2, Same F' F2 ∧ RM (G.hide P) F2 M H' ∧ RelD G F2 x d) ∧ (i = wk.items.length → J.stop i H)
def CnW (F : Hp) (q : Wk → Mem → Prop) (Rr : It → Hp → Prop) : Prop := ∀ F' M' H' wk J, Same F F' → RM G F' M' H' → Real G F' J wk → q wk M' → Rr J H'
def liftW (w : Env → Mem → (Wk → Mem → Prop) → XQ → Prop) : TI := fun σ H Q => ∃ F M env q e, RM G F M H ∧ EnvR G F env σ ∧ CnW G F q Q ∧ CnX G F e (fun c d H => W c d σ H) ∧ w env M q e
end
/-- a def's promise by trees -/
def liftSp (G : Gx) (n : Nat) (r : List D → Mem → QK → XQ → Prop) : Sp := fun vs H Q E => vs.length = n ∧ ∃ P F M ds q e, RM (G.hide P) F M H ∧ RelDs G F vs ds ∧ Cn (G.hide P) F q Q ∧ CnX (G.hide P) F e E ∧ r ds M q e
section
variable {X : Cx} {e : Expr}
theorem PE.imp {t t' : TE} (h : PE X e t) (hi : ∀ σ H Q, t' σ H Q → t σ H Q) : PE X e t' := ⟨fun pins s σ H Q I q => h.run pins s σ H Q I (hi _ _ _ q)⟩
theorem PT.imp {t t' : TT} (h : PT X e t) (hi : ∀ σ H Q, t' σ H Q → t σ H Q) : PT X e t' := ⟨fun pins s σ H Q I q => h.run pins s σ H Q I (hi _ _ _ q)⟩
theorem PA.imp {es : List Expr} {t t' : TA} (h : PA X es t) (hi : ∀ σ H Q, t' σ H Q → t σ H Q) : PA X es t' := ⟨fun pos pins s σ H Q I q => h.run pos pins s σ H Q I (hi _ _ _ q)⟩
theorem PI.imp {tg : Expr} {t t' : TI} (h : PI X tg e t) (hi : ∀ σ H Q, t' σ H Q → t σ H Q) : PI X tg e t' := ⟨fun pins s σ H Q I q => h.run pins s σ H Q I (hi _ _ _ q)⟩
end

/-- the classes of exceptions: what the written part says of them -/
structure XTab (K : PySem.W.Frag) (mg : Str → Option Value) (cl : Nat → Option Addr) (xc : List (Nat × Str)) : Prop where
  nm : ∀ p ∈ xc, ∃ C, mg p.2 = some (.ref C) ∧ cl p.1 = some C
  xc : ∀ c C, cl c = some C → L2.XcC K C
  ve : ∀ c C, cl c = some C → PySem.W.kitOne K (.ref C) (.type "ValueError") = some true
  sub : ∀ c C d D, cl c = some C → cl d = some D → PySem.W.kitOne K (.ref C) (.ref D) = some (subX c d) ∧ PySem.W.exmOne K (.ref C) (.ref D) = some (subX c d)
  na : ∀ c C f, cl c = some C → fldN f = true → PySem.W.findIn K (.ref C) f = some none
/-- __init__(self, v): self.f = v -/
def spI (C : Addr) (f : Str) : Sp := fun vs H Q _ => ∃ (a : Addr) (v : V), vs = [.ref a, v] ∧ H a = some (L2.exo a C none) ∧ ∀ dx, H dx = none → dx ≠ a → Q .non (upd (upd H dx (L2.exd dx [(f, v)])) a (L2.exo a C (some dx)))
/-- an own exception class whose __init__ writes one field -/
structure XMk (P : Program) (w : World) (K : PySem.W.Frag) (mg : Str → Option Value) (base : Heap) (cl : Nat → Option Addr) (c : Nat) (x f : Str) : Prop where
  ex : ∃ (C fI : Addr) (fd : FuncData) (ps : List Str), cl c = some C ∧ mg x = some (.ref C) ∧ PySem.W.keepIn K (.ref C) = true ∧ L2.OexC K C ∧ PySem.W.findIn K (.ref C) "__init__" = some (some (.ref fI)) ∧
    PySem.W.typeIn K (.ref fI) = some (.type "function") ∧ Binds K fd ps [] ∧ FnOk P w K mg base L2.CX0 1 fI fd ps (spI C f)
/-- __init__(self, v, y): self.at = v; self.side = y -/
def spB (C : Addr) : Sp := fun vs H Q _ => ∃ (a : Addr) (v y : V), vs = [.ref a, v, y] ∧ H a = some (L2.exo a C none) ∧ ∀ dx, H dx = none → dx ≠ a → Q .non (upd (upd (upd H dx (L2.exd dx [("at", v)])) a (L2.exo a C (some dx))) dx (L2.exd dx [("side", y), ("at", v)]))
structure XMb (P : Program) (w : World) (K : PySem.W.Frag) (mg : Str → Option Value) (base : Heap) (cl : Nat → Option Addr) (c : Nat) (x : Str) : Prop where
  ex : ∃ (C fI : Addr) (fd : FuncData) (ps : List Str), cl c = some C ∧ mg x = some (.ref C) ∧ PySem.W.keepIn K (.ref C) = true ∧ L2.OexC K C ∧ PySem.W.findIn K (.ref C) "__init__" = some (some (.ref fI)) ∧
    PySem.W.typeIn K (.ref fI) = some (.type "function") ∧ Binds K fd ps [] ∧ Binds K fd ps [.none] ∧ FnOk P w K mg base L2.CX0 1 fI fd ps (spB C)
/-- own classes, their methods -/
structure GoodO (G : Gx) (tb : Tb) (R : Nat → List D → Mem → QK → XQ → Prop) (k : Nat) (P : Program) (w : World) (K : PySem.W.Frag) (mg : Str → Option Value) (base : Heap) : Prop where
  mts : ∀ f c m, tb.me f = some (c, m) → ∃ C ad fd ps, G.co c = some C ∧ Meth K C m ad ∧ Binds K fd ps [] ∧ ps.length = tb.ar f ∧ FnOk P w K mg base (L2.CX P w) k ad fd ps (liftSp G (tb.ar f) (R f))
  hot : ∀ f c m, tb.me f = some (c, m) → tb.hot = true
  len : ∀ f c m ds M q e, tb.me f = some (c, m) → R f ds M q e → ds.length = tb.ar f
  cls : ∀ c C, G.co c = some C → Cls K C ∧ ∀ f ∈ tb.of, NoAttr K C f
  mks : ∀ c x, (c, x) ∈ tb.oc → ∃ C, G.co c = some C ∧ mg x = some (.ref C) ∧ PySem.W.makesIn K C = true ∧ PySem.W.keepIn K (.ref C) = true
  xbs : ∀ c x, c ∈ tb.xb → (c, x) ∈ tb.xc → XMb P w K mg base G.cl c x
/-- an own exception class without an own __init__ -/
structure XOwn (K : PySem.W.Frag) (mg : Str → Option Value) (cl : Nat → Option Addr) (c : Nat) (x : Str) : Prop where
  ex : ∃ C : Addr, cl c = some C ∧ mg x = some (.ref C) ∧ PySem.W.keepIn K (.ref C) = true ∧ PySem.W.excIn K C He.veBase "ValueError.__new__" = true ∧ PySem.W.subIn K (.ref C) (.type "BaseException") = some true ∧ PySem.W.typeIn K (.ref C) = some (.type "type")
/-- what a context must have -/
structure Good (G : Gx) (tb : Tb) (R : Nat → List D → Mem → QK → XQ → Prop) (k : Nat) (W : WX) (X : Cx) : Prop where
  hK : X.K = G.K
  nd : X.N.Nodup
  calm : tb.hot = true → X.calm = true
  room : tb.hot = true → Room (k + 1) X.A
  un : X.A.units + 200 < cLine
  hn : ∀ f x, tb.nm f = some x → tb.hot = true
  hb : ∀ b : Bi, biNm b ∈ tb.bn → tb.hot = true
  tk : Takes X W
  fns : ∀ f x, tb.nm f = some x → ∃ ad fd ps, X.mg x = some (.ref ad) ∧ PySem.W.keepIn X.K (.ref ad) = true ∧ Binds X.K fd ps [] ∧ ps.length = tb.ar f ∧ FnOk X.prog X.w X.K X.mg X.base (L2.CX X.prog X.w) k ad fd ps (liftSp G (tb.ar f) (R f))
  glb : ∀ p ∈ tb.cs, ∃ v u, X.mg p.1 = some u ∧ RelV v u ∧ ∀ F, RelD G F v p.2
  bnn : ∀ x ∈ tb.bn, X.mg x = none
  len : ∀ f x ds M q e, tb.nm f = some x → R f ds M q e → ds.length = tb.ar f
  mon : MonR R R
  k2 : 2 ≤ k
  xt : XTab X.K X.mg G.cl tb.xc
  mkr : ∀ c f x, (c, f) ∈ tb.xr → (c, x) ∈ tb.xc → XMk X.prog X.w X.K X.mg X.base G.cl c x f
  own : ∀ c x, c ∈ tb.xo → (c, x) ∈ tb.xc → XOwn X.K X.mg G.cl c x
  ob : GoodO G tb R k X.prog X.w X.K X.mg X.base
theorem liftSp_hide {G : Gx} {P : Hp} {n : Nat} {r : List D → Mem → QK → XQ → Prop} : liftSp (G.hide P) n r = liftSp G n r := by
  funext vs H Q E
  apply propext
  constructor
  · rintro ⟨hl, P', F, M, ds, q, e, rm, rs, cn, cx, h⟩
    exact ⟨hl, P', F, M, ds, q, e, rm, rs.unhide, cn, cx, h⟩
  · rintro ⟨hl, P', F, M, ds, q, e, rm, rs, cn, cx, h⟩
    exact ⟨hl, P', F, M, ds, q, e, rm, rs.hide P, cn, cx, h⟩
theorem Good.hide {G : Gx} {tb : Tb} {R : Nat → List D → Mem → QK → XQ → Prop} {k : Nat} {W : WX} {X : Cx} (g : Good G tb R k W X) (P : Hp) : Good (G.hide P) tb R k W X :=
  ⟨g.hK, g.nd, g.calm, g.room, g.un, g.hn, g.hb, g.tk, fun f x e => by
    obtain ⟨ad, fd, ps, h1, h2, h3, h4, h5⟩ := g.fns f x e
    exact ⟨ad, fd, ps, h1, h2, h3, h4, by rw [liftSp_hide]; exact h5⟩, fun p hp => by
    obtain ⟨v, u, h1, h2, h3⟩ := g.glb p hp
    exact ⟨v, u, h1, h2, fun F => (h3 F).hide P⟩, g.bnn, g.len, g.mon, g.k2, g.xt, g.mkr, g.own, ⟨fun f c m e => by
    obtain ⟨C, ad, fd, ps, h1, h2, h3, h4, h5⟩ := g.ob.mts f c m e
    exact ⟨C, ad, fd, ps, h1, h2, h3, h4, by rw [liftSp_hide]; exact h5⟩, g.ob.hot, g.ob.len, g.ob.cls, g.ob.mks, g.ob.xbs⟩⟩
theorem Good.blk {G : Gx} {tb : Tb} {R : Nat → List D → Mem → QK → XQ → Prop} {k : Nat} {W : WX} {X : Cx} (g : Good G tb R k W X) {s : Shared} {H : Hp} {scope : Scope} {ce : PySem.Env} {fp : List Addr} :
    Good G tb R k (fun _ _ _ _ => False) (X.blk s H scope ce fp) :=
  ⟨g.hK, g.nd, g.calm, g.room, g.un, g.hn, g.hb, takes0, g.fns, g.glb, g.bnn, g.len, g.mon, g.k2, g.xt, g.mkr, g.own, g.ob⟩

/-! ### side conditions -/
section
variable {X : Cx}
theorem star_ok {e : Expr} {es : List Expr} {env : PySem.Env} (h : noStar e = true) : starEach (e :: es) env = (false, eval e env) :: starEach es env := by
  cases e <;> first | rfl | cases h
theorem plainIx_ok {e : Expr} (h : noSlice e = true) : PlainIx e := by
  cases e <;> first | exact fun _ _ => rfl | cases h
theorem noset_ok {e : Expr} {op : CmpOp} (h : noSet e = true) : behindInMarks op e = false := by
  cases e <;> first | rfl | cases h
theorem fold_ok {e : Expr} {env : PySem.Env} (h : noSet e = true) (x : Value) : foldedSetIterable e env x = pure x := by
  cases e <;> first | rfl | cases h
theorem plainO_ok {e : Expr} {m : Str} {env : PySem.Env} (h : plainO e = true) : attributeBase e m env (eval e env) = eval e env := by
  cases e <;> try rfl
  case Call f es kw p =>
    cases f <;> try rfl
    case Name id p2 =>
      cases es <;> cases kw <;> try rfl
      have h : (!(id == "super")) = true := h
      unfold attributeBase
      have : (id != "super") = true := h
      simp [this]
theorem mem_lastMarks {o1 o2 : CmpOp} {b c : Expr} (h : noSet c = true) : lastMarks [o1, o2] [b, c] = false := noset_ok h
theorem mem_lastMarks3 {o1 o2 o3 : CmpOp} {b c d : Expr} (h : noSet d = true) : lastMarks [o1, o2, o3] [b, c, d] = false := noset_ok h
theorem plainT_ok {e : Expr} {env : PySem.Env} (h : plainT e = true) (whole : Sem Value) : isTrue e env whole = (do let v ← whole; standAt e.pos; holding [v] (truthy v)) := by
  cases e <;> try rfl
  case UnaryOp op a p => cases op <;> first | rfl | cases h
  all_goals cases h
end
end Wp

/-! WpIt: enumerate(tuple). -/
namespace Wp
open PySem PySem.Spec PyProof.Rows L2
/-- the tuple at a, each item in a new pair -/
def IteT (K : PySem.W.Frag) (a : Addr) : It :=
  ⟨fun i H => ∃ (xs : List V) (x : V), SqT K H a xs ∧ xs[i]? = some x, fun i H v H' => ∃ T x, v = .ref T ∧ H T = none ∧ H' = upd H T (.tup [.int (i : Nat), x]) ∧ ∀ xs, SqT K H a xs → xs[i]? = some x, fun i H => ∃ xs : List V, SqT K H a xs ∧ xs.length ≤ i⟩
theorem tup_ne {h : Heap} {a it : Addr} {i : Nat} {items : Array Value} (hit : h.IsTupleIter it a i) (p : h.IsTuple a items) : a ≠ it := by
  rintro rfl
  obtain ⟨o, ho, hc, _⟩ := hit
  obtain ⟨o2, ho2, hc2, _⟩ := p
  rw [ho] at ho2
  cases ho2
  rw [hc] at hc2
  injection hc2 with z
  exact absurd z (by decide)
theorem enum_ne {h : Heap} {a e it : Addr} {i : Int} {old : Value} {items : Array Value} (he : IsEnum h e it i old) (p : h.IsTuple a items) : e ≠ a := by
  rintro rfl
  obtain ⟨o2, ho2, hc2, _⟩ := p
  have he : h.get? e = some _ := he
  rw [he] at ho2
  cases ho2
  injection hc2 with z
  exact absurd z (by decide)
theorem turn_enumT {P : Program} {w : World} {K : PySem.W.Frag} {elts : List Expr} {kk : Nat} {tpos : Pos} (a e it : Addr) :
    Turn P w K (.Tuple elts kk tpos) (IteT K a) [e, it] e (fun i h => (∃ old, IsEnum h e it ((i : Nat) : Int) old) ∧ h.IsTupleIter it a i ∧ e ≠ it) where
  mem := by simp
  obj := fun i h st b hb => by
    obtain ⟨⟨old, he⟩, ⟨o, ho, hc, hd⟩, _⟩ := st
    have e' : b = e ∨ b = it := by simpa using hb
    rcases e' with z | z
    · rw [z]; exact ⟨_, he, fun v q => nomatch q⟩
    · rw [z]; exact ⟨o, ho, fun v q => by rw [hd] at q; cases q⟩
  keep := fun i h h' st k => let ⟨⟨old, he⟩, hi, hne⟩ := st; ⟨⟨old, k e (by simp) _ he⟩, hi.at fun o q => k it (by simp) o q, hne⟩
  item := by
    intro X hP hw hK hc i pins s σ H E I hf st hg
    subst hP hw hK
    obtain ⟨⟨old, he⟩, hit, hne⟩ := st
    obtain ⟨xs, x, hq, hx⟩ := hg
    obtain ⟨its, rv, p, hz⟩ := I.tuple hq
    obtain ⟨u, hu, ru⟩ := rv.get hx
    have hel : e < s.heap.objs.size := Heap.lt_size he
    have hil : it < s.heap.objs.size := by obtain ⟨_, q, _⟩ := hit; exact Heap.lt_size q
    have hai := tup_ne hit p
    have hea := enum_ne he p
    have D := Draws.tuple (prog := X.prog) (w := X.w) (A := X.A.in1) (show X.A.in1.handled = none from I.ok.hd hc) it a hai its.toArray
    have hlt : i < its.toArray.size := by
      have := (List.getElem?_eq_some_iff.mp hu).1
      simpa using this
    refine wpAny_pyNext_enum_itemD D he ⟨hit, p⟩ hlt hne (by simp [hne, hea]) fun x' h' tk hPx ho st' hT hsz hk => ?_
    have ex : x' = u := by
      have q1 : its.toArray[i]? = some x' := hPx
      have q2 : its.toArray[i]? = some u := by simpa using hu
      rw [q1] at q2
      cases q2; rfl
    subst ex
    have hit' := st'.1
    refine ⟨_, rfl, wpAny_letOwnedTupleGo_enum (s := { s with heap := h', toks := tk + 1 }) ho fun h'' he' sb => ?_⟩
    have hT2 : h''.get? s.heap.objs.size = some { cls := .type "tuple", data := .seq #[.int i tk, x'] } := (sb.2 _ (Nat.ne_of_gt hel)).trans hT
    have new : ObjOk X.prog X.w (upd H s.heap.objs.size (.tup [.int (i : Nat), x])) h'' s.heap.objs.size (.tup [.int (i : Nat), x]) :=
      ⟨by show 2 ≤ sizeLine; decide, [.int i tk, x'], .cons ⟨_, rfl⟩ (.cons ru .nil), ⟨_, hT2, rfl, _, rfl⟩⟩
    have I1 : Inv X pins σ (upd H s.heap.objs.size (.tup [.int (i : Nat), x])) { s with heap := h'', toks := tk + 1 } :=
      I.turnedNew (ch := [e, it]) (fun b ob hb q => (sb.2 b (fun z => hb (by simp [z]))).trans (hk b ob (fun z => hb (by simp [z])) (fun z => hb (by simp [z])) q)) hf (Nat.le_refl _) new
    refine ⟨.ref s.heap.objs.size, _, I1, rfl, ⟨_, x, rfl, I.hok.fresh (Nat.le_refl _), rfl, fun ys hy => by rw [I.tuple_inj hy hq]; exact hx⟩, ⟨⟨x', ?_⟩, hit'.at fun o q => (sb.2 it (Ne.symm hne)).trans q, hne⟩, fun b hb => ?_⟩
    · have e1 : ((i + 1 : Nat) : Int) = (i : Int) + 1 := by omega
      rw [e1]; exact he'
    · have hb' : b < s.heap.objs.size := by
        have e' : b = e ∨ b = it := by simpa using hb
        rcases e' with z | z
        · rw [z]; exact hel
        · rw [z]; exact hil
      rw [upd_ne (Nat.ne_of_lt hb')]
      exact (hf b hb).1
  done := by
    intro X hP hw hK hc i pins s σ H E I hf st hg
    subst hP hw hK
    obtain ⟨⟨old, he⟩, hit, hne⟩ := st
    obtain ⟨xs, hq, hx⟩ := hg
    obtain ⟨its, rv, p, hz⟩ := I.tuple hq
    obtain ⟨f0, f1, f2, f3, f4, f5⟩ := hf it (by simp)
    have hl := rv.length
    have hT : s.TypeIs (.ref e) "enumerate" := ⟨_, he, rfl⟩
    unfold pyNext
    refine wpAny_bind (wpAny_attempt (wpAny_callSpecial?_slot (name := Str.ofString "__next__") hT F.slot_enumerate_next
      (wpAny_call_entry F.slot_enumerate_next hT F.entry_enumerate_next ?_ (F.args_enumerate_next_1 _))))
    show wpAny _ _ (field (.ref e) 2 >>= _) _ _ _
    refine wpAny_bind (wpAny_field he rfl (x := .ref it) rfl ?_)
    refine wpAny_bind (wpAny_nextOf_tuple_end (show X.A.in1.in1.handled = none from I.ok.hd hc) hit p (by simp; omega) fun h' z eb hz' => ?_)
    obtain ⟨o, ho, hcl⟩ := hz'
    refine wpAny_bind (wpAny_isInstance (T := "StopIteration") (b := true) ⟨o, ho, hcl⟩ isSubtype_stop ?_)
    exact wpAny_pure ⟨rfl, I.turned (t' := s.toks) (fun b o hb q => eb b o hb q) f0 f1 f3 f4 f5⟩
  self := fun A i s Q E st h => let ⟨⟨_, he⟩, _⟩ := st; wpAny_pyIter_enum he h
open Sem (wp)
set_option maxHeartbeats 1000000 in
theorem meets_enumT (t : Addr) (items : Array Value) :
    Meets (Builtin.«enumerate.__new__» ⟨[.type "enumerate", .ref t], []⟩) (fun _ R s => s.heap.IsTuple t items ∧
      R (.ok (.ret (.ref (s.heap.push { cls := .type "tuple_iterator", data := .fields #[.ref t, .int 0 0] }).objs.size)))
        { s with heap := (s.heap.push { cls := .type "tuple_iterator", data := .fields #[.ref t, .int 0 0] }).push { cls := .type "enumerate", data := .fields #[.none, .bool false, .ref s.heap.objs.size, rawInt 0, .none, .none] } }) :=
  .of_wp fun prog w A R s h => by
    obtain ⟨hp, g, d, tk, os⟩ := s; obtain ⟨h1, h⟩ := h
    have hsub := sub_enumerate
    have q1 : ∀ {A' : Around} {E : Value → Shared → Prop} {Q : Value → Shared → Prop}, Q (.ref hp.objs.size) ⟨hp.push { cls := .type "tuple_iterator", data := .fields #[.ref t, .int 0 0] }, g, d, tk, os⟩ → PySem.wpAny (model prog w) A' (pyIter (.ref t)) Q E ⟨hp, g, d, tk, os⟩ :=
      fun q => wpAny_pyIter_tuple (s := ⟨hp, g, d, tk, os⟩) h1 q
    wp_walk using q1
    refine wpAny_stack_any fun st => wpAny_pure ?_
    split
    · rename_i c _ _ _ _ _
      cases (c == Value.type "enumerate")
      · wp_walk using q1
        exact ⟨_, rfl, h⟩
      · wp_walk using q1
        exact ⟨_, rfl, h⟩
    · wp_walk using q1
      exact ⟨_, rfl, h⟩
theorem call_enumT {prog : Program} {w : World} {A : Around} {E : Value → Shared → Prop} {s : Shared} {t : Addr} {items : Array Value} {Q : Value → Shared → Prop} (hL : s.heap.IsTuple t items)
    (h : ∀ h', IsEnum h' (s.heap.objs.size + 1) s.heap.objs.size 0 .none → h'.IsTupleIter s.heap.objs.size t 0 → h'.objs.size = s.heap.objs.size + 2 →
      (∀ b o, s.heap.get? b = some o → h'.get? b = some o) → Q (.ref (s.heap.objs.size + 1)) { s with heap := h' }) :
    wpAny (model prog w) A (call (.type "enumerate") [.ref t]) Q E s := by
  refine callType_new F.called_enumerate (by decide) (F.typeCall_enumerate_1 _) (F.newCall_enumerate_1 _) (fun obj => F.args_object_init_2 obj _) F.entry_enumerate_new
    (meets_enumT t items) ⟨hL, ?_⟩
  have hz : (s.heap.push { cls := .type "tuple_iterator", data := .fields #[.ref t, .int 0 0] }).objs.size = s.heap.objs.size + 1 := Heap.size_push ..
  show _ ∧ _
  rw [hz]
  have he : IsEnum ((s.heap.push { cls := .type "tuple_iterator", data := .fields #[.ref t, .int 0 0] }).push
      { cls := .type "enumerate", data := .fields #[.none, .bool false, .ref s.heap.objs.size, rawInt 0, .none, .none] }) (s.heap.objs.size + 1) s.heap.objs.size 0 .none := by
    have := Heap.get?_push_size (s.heap.push { cls := .type "tuple_iterator", data := .fields #[.ref t, .int 0 0] })
      (o := { cls := .type "enumerate", data := .fields #[.none, .bool false, .ref s.heap.objs.size, rawInt 0, .none, .none] }) rfl
    rw [hz] at this; exact this
  refine ⟨⟨_, he, rfl⟩, h _ he ⟨_, Heap.get?_push_of_some _ (Heap.get?_push_size _ rfl), rfl, rfl⟩ (by rw [Heap.size_push, hz]) fun b o x => Heap.get?_push_of_some _ (Heap.get?_push_of_some _ x)⟩
def iEnumA (K : PySem.W.Frag) (ta : TA) : TI := fun σ H R => ta σ H fun vs H1 => ∃ a xs, vs = [.ref a] ∧ ((SqL K H1 a xs ∧ R (Ite K a) H1) ∨ (SqT K H1 a xs ∧ R (IteT K a) H1))
theorem pi_enumA {X : Cx} {e : Expr} {ta : TA} {p pos tpos : Pos} {elts : List Expr} {kk : Nat} (hg : Gl X "enumerate") (hm : X.mg "enumerate" = none) (ha : PA X [e] ta) (hs : starEach [e] X.env = [(false, eval e X.env)]) :
    PI X (.Tuple elts kk tpos) (.Call (.Name "enumerate" p) [e] [] pos) (iEnumA X.K ta) := by
  refine ⟨fun pins s σ H R I h => ?_⟩
  refine Call_ (ld_blt I hg hm boot_enumerate (PyProof.Rows.callWith_type1 (thn (ha.run pos pins s σ H _ I h) fun us s1 ⟨vs, H1, I1, r1, q1⟩ => ?_) hs rfl))
  obtain ⟨a, xs, ex, q⟩ := q1
  subst ex
  cases r1 with
  | cons r rr =>
    cases rr
    cases r
    have fresh : ∀ b ∈ [s1.heap.objs.size + 1, s1.heap.objs.size], s1.heap.objs.size ≤ b := fun b hb => by
      have e' : b = s1.heap.objs.size + 1 ∨ b = s1.heap.objs.size := by simpa using hb
      rcases e' with z | z
      · rw [z]; exact Nat.le_add_right _ _
      · rw [z]; exact Nat.le_refl _
    rcases q with ⟨hq, q⟩ | ⟨hq, q⟩
    · obtain ⟨its, rv, p', hz⟩ := I1.list hq
      refine call_enumerate_list p'.isList fun h' he hit hsz hk => wpAny_pyIter_enum he ?_
      have I2 : Inv X pins σ H1 { s1 with heap := h' } := I1.kept (t' := s1.toks) hk
      exact ⟨s1.heap.objs.size + 1, [s1.heap.objs.size + 1, s1.heap.objs.size], _, _, H1, rfl, I2, turn_enum a (s1.heap.objs.size + 1) s1.heap.objs.size, ⟨⟨.none, he⟩, hit, Nat.succ_ne_self _⟩, fun b hb => I1.fpOk (fresh b hb) (I1.hok.fresh (fresh b hb)), q⟩
    · obtain ⟨its, rv, p', hz⟩ := I1.tuple hq
      refine call_enumT p' fun h' he hit hsz hk => wpAny_pyIter_enum he ?_
      have I2 : Inv X pins σ H1 { s1 with heap := h' } := I1.kept (t' := s1.toks) hk
      exact ⟨s1.heap.objs.size + 1, [s1.heap.objs.size + 1, s1.heap.objs.size], _, _, H1, rfl, I2, turn_enumT a (s1.heap.objs.size + 1) s1.heap.objs.size, ⟨⟨.none, he⟩, hit, Nat.succ_ne_self _⟩, fun b hb => I1.fpOk (fresh b hb) (I1.hok.fresh (fresh b hb)), q⟩
end Wp

/-! WpS6: that the tree is enough for the text: expressions. -/
namespace Wp
open PySem PySem.Spec PyProof.Rows L2

theorem vis_of {sc : Scope} {x : Str} (h : visB sc x = true) : Vis sc x := by
  unfold visB at h
  unfold Vis
  split at h
  · exact .inl (by assumption)
  · exact .inr (.inl (by assumption))
  · exact .inr (.inr (by assumption))
  · cases h
theorem ok_of {x : Str} (h : okB x = true) : (x == ("__debug__" : Str)) = false ∧ (x == ("__classdict__" : Str)) = false := by
  unfold okB at h
  rw [Bool.and_eq_true] at h
  exact ⟨by simpa using h.1, by simpa using h.2⟩
theorem gl_of {X : Cx} {sc : Scope} {x : Str} (hs : X.env.scope = sc) (h : glB sc x = true) : Gl X x ∧ (x == ("__debug__" : Str)) = false := by
  unfold glB at h
  rw [Bool.and_eq_true] at h
  refine ⟨?_, (ok_of h.2).1⟩
  show X.env.scope.names.lookup x = _
  rw [hs]
  exact of_decide_eq_true h.1
theorem bn_of {G : Gx} {tb : Tb} {R : Nat → List D → Mem → QK → XQ → Prop} {k : Nat} {W : WX} {X : Cx} {sc : Scope} {x : Str} (g : Good G tb R k W X) (hs : X.env.scope = sc) (h : bnB tb sc x = true) : Gl X x ∧ (x == ("__debug__" : Str)) = false ∧ X.mg x = none := by
  unfold bnB at h
  rw [Bool.and_eq_true] at h
  obtain ⟨h1, h2⟩ := gl_of hs h.1
  refine ⟨h1, h2, g.bnn x ?_⟩
  obtain ⟨y, hy, e⟩ := List.any_eq_true.mp h.2
  rw [← of_decide_eq_true e]
  exact hy

/-! ### values put together -/
section
variable {G : Gx} {W : WX} {X : Cx}
/-- a value wanted by trees is wanted -/
theorem cn_here {F H : Hp} {M : Mem} {q : QK} {Q : VK} {v : V} {d : D} (rm : RM G F M H) (cn : Cn G F q Q) (r : RelD G F v d) (h : q d M) : Q v H := cn F M H v d (Same.refl F) rm r h
theorem enter {w : Env → Mem → QK → XQ → Prop} {F H : Hp} {M : Mem} {env : Env} {σ : L2.St} {q : QK} {e : XQ} {Q : VK} (rm : RM G F M H) (er : EnvR G F env σ) (cx : CnX G F e fun c d H => W c d σ H) (h : w env M q e)
    (k : ∀ F' M' H' v d, Same F F' → RM G F' M' H' → EnvR G F' env σ → CnX G F' e (fun c d H => W c d σ H) → RelD G F' v d → q d M' → Q v H') : liftE G W w σ H Q :=
  ⟨F, M, env, q, e, rm, er, fun F' M' H' v d s rm' r hq => k F' M' H' v d s rm' (er.mono s) (cx.mono s) r hq, cx, h⟩
theorem enterA {w : Env → Mem → AK → XQ → Prop} {F H : Hp} {M : Mem} {env : Env} {σ : L2.St} {q : AK} {e : XQ} {Q : List V → Hp → Prop} (rm : RM G F M H) (er : EnvR G F env σ) (cx : CnX G F e fun c d H => W c d σ H) (h : w env M q e)
    (k : ∀ F' M' H' v d, Same F F' → RM G F' M' H' → EnvR G F' env σ → CnX G F' e (fun c d H => W c d σ H) → RelDs G F' v d → q d M' → Q v H') : liftA G W w σ H Q :=
  ⟨F, M, env, q, e, rm, er, fun F' M' H' v d s rm' r hq => k F' M' H' v d s rm' (er.mono s) (cx.mono s) r hq, cx, h⟩
theorem enterP {w : Env → Mem → (Option Int → Mem → Prop) → XQ → Prop} {F H : Hp} {M : Mem} {env : Env} {σ : L2.St} {q : Option Int → Mem → Prop} {e : XQ} {Q : Option Int → Hp → Prop} (rm : RM G F M H) (er : EnvR G F env σ) (cx : CnX G F e fun c d H => W c d σ H) (h : w env M q e)
    (k : ∀ F' M' H' o, Same F F' → RM G F' M' H' → EnvR G F' env σ → CnX G F' e (fun c d H => W c d σ H) → q o M' → Q o H') : liftP G W w σ H Q :=
  ⟨F, M, env, q, e, rm, er, fun F' M' H' o s rm' hq => k F' M' H' o s rm' (er.mono s) (cx.mono s) hq, cx, h⟩
end

/-! ### truth is one -/
theorem tru_det {M : Mem} {x : D} {P : BK} (h : truW x M P) : ∃ c, P c M ∧ ∀ Q : BK, (Q c M → truW x M Q) ∧ (truW x M Q → Q c M) := by
  have seqs : (match asS M x with
    | some ds => P (!ds.isEmpty) M
    | none => False) → ∃ c, P c M ∧ ∀ Q : BK, (Q c M → (match asS M x with
    | some ds => Q (!ds.isEmpty) M
    | none => False)) ∧ ((match asS M x with
    | some ds => Q (!ds.isEmpty) M
    | none => False) → Q c M) := fun h => by
    cases e : asS M x with
    | none => rw [e] at h; exact h.elim
    | some ds => rw [e] at h; exact ⟨_, h, fun Q => ⟨fun q => q, fun q => q⟩⟩
  cases x with
  | non => exact ⟨_, h, fun Q => ⟨fun q => q, fun q => q⟩⟩
  | bl b => exact ⟨_, h, fun Q => ⟨fun q => q, fun q => q⟩⟩
  | int i => exact ⟨_, h, fun Q => ⟨fun q => q, fun q => q⟩⟩
  | emp => exact ⟨_, h, fun Q => ⟨fun q => q, fun q => q⟩⟩
  | str y => exact ⟨_, h.2, fun Q => ⟨fun q => ⟨h.1, q⟩, fun q => q.2⟩⟩
  | _ => exact seqs h

/-! ### a walk's things -/
section
variable {G : Gx} {F H : Hp} {M : Mem}
/-- where a list that is read stands -/
theorem still_of {v : V} {d : D} {ds : List D} (rm : RM G F M H) (r : RelD G F v d) (e : asL M d = some ds) : ∃ a vs, v = .ref a ∧ SqL G.K H a vs ∧ RelDs G F vs ds ∧ stillAt d ds M ∧ ∀ P F' M H, Same F F' → RM (G.hide P) F' M H → stillAt d ds M → ∃ ws, SqL G.K H a ws ∧ RelDs G F' ws ds := by
  cases r with
  | lst h1 h2 =>
    cases e
    exact ⟨_, _, rfl, .of (rm.fz _ _ h1), h2, trivial, fun P F' M H s rm' _ => ⟨_, .of (rm'.fz _ _ (s _ _ h1)), h2.mono s⟩⟩
  | scr h1 =>
    cases e
    exact ⟨_, _, rfl, rm.fz.seq h1, RelDs.ints _, trivial, fun P F' M H s rm' _ => ⟨_, rm'.fz.seq (s.seq h1), RelDs.ints _⟩⟩
  | @loc a =>
    dsimp only [asL] at e
    cases q : M a with
    | none => rw [q] at e; cases e
    | some ob =>
      rw [q] at e
      cases ob with
      | lst ds' =>
        cases e
        obtain ⟨_, vs, h1, h2⟩ := rm.mt a _ q
        refine ⟨a, vs, rfl, .of h1, h2, q, fun P F' M H s rm' st => ?_⟩
        obtain ⟨_, ws, g1, g2⟩ := rm'.mt a _ (show M a = some (.lst ds) from st)
        exact ⟨ws, .of g1, g2.unhide⟩
      | dic _ => cases e
      | ins _ _ => cases e
      | obj _ _ => cases e
  | _ => cases e
theorem real_L {a : Addr} {d : D} {ds : List D} (hst : ∀ P F' M H, Same F F' → RM (G.hide P) F' M H → stillAt d ds M → ∃ ws, SqL G.K H a ws ∧ RelDs G F' ws ds) : Real G F (Itl G.K a) ⟨ds, stillAt d ds⟩ := by
  intro P i F' M H s rm st
  obtain ⟨ws, hs, rs⟩ := hst P F' M H s rm st
  refine ⟨fun e he => ?_, fun hi => ⟨ws, hs, by rw [rs.len]; exact Nat.le_of_eq hi.symm⟩⟩
  obtain ⟨v, hv, r⟩ := rs.get he
  refine ⟨⟨ws, v, hs, hv⟩, fun x H' y => ?_⟩
  obtain ⟨e1, y⟩ := y
  subst e1
  have e2 := y ws hs
  rw [hv] at e2
  cases e2
  exact ⟨F', Same.refl _, rm, r⟩
theorem real_rev {a : Addr} {d : D} {ds : List D} (hst : ∀ P F' M H, Same F F' → RM (G.hide P) F' M H → stillAt d ds M → ∃ ws, SqL G.K H a ws ∧ RelDs G F' ws ds) : Real G F (Itv G.K a ds.length) ⟨ds.reverse, stillAt d ds⟩ := by
  intro P i F' M H s rm st
  obtain ⟨ws, hs, rs⟩ := hst P F' M H s rm st
  refine ⟨fun e he => ?_, fun hi => ?_⟩
  · have he : ds.reverse[i]? = some e := he
    have hi : i < ds.length := by
      have := (List.getElem?_eq_some_iff.mp he).1
      rw [List.length_reverse] at this
      exact this
    rw [List.getElem?_reverse hi] at he
    obtain ⟨v, hv, r⟩ := rs.get he
    refine ⟨⟨hi, ws, v, hs, hv⟩, fun x H' y => ?_⟩
    obtain ⟨e1, y⟩ := y
    subst e1
    have e2 := y ws hs
    rw [hv] at e2
    cases e2
    exact ⟨F', Same.refl _, rm, r⟩
  · have hi : i = ds.reverse.length := hi
    rw [List.length_reverse] at hi
    exact Nat.le_of_eq hi.symm
theorem real_T {a : Addr} {ds : List D} {vs : List V} (h : SqT G.K F a vs) (rs : RelDs G F vs ds) : Real G F (Itt G.K a) ⟨ds, fun _ => True⟩ := by
  intro P i F' M H s rm _
  have hs := same_t rm.fz (same_t s h)
  refine ⟨fun e he => ?_, fun hi => ⟨vs, hs, by rw [rs.len]; exact Nat.le_of_eq hi.symm⟩⟩
  obtain ⟨v, hv, r⟩ := (rs.mono s).get he
  refine ⟨⟨vs, v, hs, hv⟩, fun x H' y => ?_⟩
  obtain ⟨e1, y⟩ := y
  subst e1
  have e2 := y vs hs
  rw [hv] at e2
  cases e2
  exact ⟨F', Same.refl _, rm, r⟩
theorem real_S {z : Str} : Real G F (Its z) ⟨signs z, fun _ => True⟩ := by
  intro P i F' M H s rm _
  have hlen : (signs z).length = z.cps.size := by unfold signs; rw [List.length_map, Array.length_toList]
  refine ⟨fun d he => ?_, fun hi => by show z.cps.size ≤ i; rw [hi, ← hlen]; exact Nat.le_refl _⟩
  unfold signs at he
  rw [List.getElem?_map] at he
  cases q : z.cps.toList[i]? with
  | none => rw [q] at he; cases he
  | some c =>
    rw [q] at he
    cases he
    have hi : i < z.cps.size := by
      have := (List.getElem?_eq_some_iff.mp q).1
      rwa [Array.length_toList] at this
    refine ⟨hi, fun x H' y => ?_⟩
    obtain ⟨e1, c', hc, e2⟩ := y
    subst e1 e2
    rw [Array.getElem?_toList] at q
    rw [q] at hc
    cases hc
    exact ⟨F', Same.refl _, rm, .str _⟩
theorem real_rng {lo : Int} {n : Nat} : Real G F (Itr lo n) ⟨rng lo n, fun _ => True⟩ := by
  intro P i F' M H s rm _
  have hlen : (rng lo n).length = n := by unfold rng; rw [List.length_map, List.length_range]
  refine ⟨fun d he => ?_, fun hi => by show n ≤ i; rw [hi, hlen]; exact Nat.le_refl _⟩
  have hi : i < n := by
    have := (List.getElem?_eq_some_iff.mp he).1
    rwa [hlen] at this
  refine ⟨hi, fun x H' y => ?_⟩
  obtain ⟨e1, e2⟩ := y
  subst e1 e2
  unfold rng at he
  rw [List.getElem?_map, List.getElem?_range hi] at he
  cases he
  exact ⟨F', Same.refl _, rm, .int _⟩
theorem real_rngC {lo c : Int} {n : Nat} : Real G F (Itc lo c n) ⟨rngC lo c n, fun _ => True⟩ := by
  intro P i F' M H s rm _
  have hlen : (rngC lo c n).length = n := by unfold rngC; rw [List.length_map, List.length_range]
  refine ⟨fun d he => ?_, fun hi => by show n ≤ i; rw [hi, hlen]; exact Nat.le_refl _⟩
  have hi : i < n := by
    have := (List.getElem?_eq_some_iff.mp he).1
    rwa [hlen] at this
  refine ⟨hi, fun x H' y => ?_⟩
  obtain ⟨e1, e2⟩ := y
  subst e1 e2
  unfold rngC at he
  rw [List.getElem?_map, List.getElem?_range hi] at he
  cases he
  exact ⟨F', Same.refl _, rm, .int _⟩
theorem enum_get : ∀ {n i : Nat} {ds : List D} {d : D}, (enumD n ds)[i]? = some d → ∃ e, ds[i]? = some e ∧ d = .tup [.int ((n + i : Nat)), e]
  | _, _, [], _, h => by simp [enumD] at h
  | n, 0, e :: ds, d, h => by
    simp [enumD] at h
    exact ⟨e, rfl, by rw [← h]; simp⟩
  | n, i + 1, e :: ds, d, h => by
    have h : (enumD (n + 1) ds)[i]? = some d := by simpa [enumD] using h
    obtain ⟨e', h1, h2⟩ := enum_get h
    exact ⟨e', h1, by rw [h2]; congr 4; omega⟩
theorem enum_len : ∀ (n : Nat) (ds : List D), (enumD n ds).length = ds.length
  | _, [] => rfl
  | n, _ :: ds => congrArg Nat.succ (enum_len (n + 1) ds)
theorem real_enum {a : Addr} {d : D} {ds : List D} (hst : ∀ P F' M H, Same F F' → RM (G.hide P) F' M H → stillAt d ds M → ∃ ws, SqL G.K H a ws ∧ RelDs G F' ws ds) : Real G F (Ite G.K a) ⟨enumD 0 ds, stillAt d ds⟩ := by
  intro P i F' M H s rm st
  obtain ⟨ws, hs, rs⟩ := hst P F' M H s rm st
  refine ⟨fun e he => ?_, fun hi => ⟨ws, hs, by rw [rs.len]; rw [show (Wk.mk (enumD 0 ds) (stillAt d ds)).items = enumD 0 ds from rfl, enum_len] at hi; exact Nat.le_of_eq hi.symm⟩⟩
  obtain ⟨e', h1, h2⟩ := enum_get he
  subst h2
  obtain ⟨v, hv, r⟩ := rs.get h1
  refine ⟨⟨ws, v, hs, hv⟩, fun x H' y => ?_⟩
  obtain ⟨T, x', rfl, hT, rfl, hx⟩ := y
  have e2 := hx ws hs
  rw [hv] at e2
  cases e2
  have s2 := same_upd (o := .tup [.int (i : Nat), v]) (rm.freeF hT)
  refine ⟨upd F' T (.tup [.int (i : Nat), v]), s2, rm.frz hT, .tup (.of upd_same) (.cons ?_ (.cons (r.mono s2) .nil))⟩
  rw [Nat.zero_add]
  exact .int _
theorem real_enumT {a : Addr} {vs : List V} {ds : List D} (h : SqT G.K F a vs) (rs : RelDs G F vs ds) : Real G F (IteT G.K a) ⟨enumD 0 ds, fun _ => True⟩ := by
  intro P i F' M H s rm _
  have hs := same_t rm.fz (same_t s h)
  refine ⟨fun e he => ?_, fun hi => ⟨vs, hs, by rw [rs.len]; rw [show (Wk.mk (enumD 0 ds) (fun _ => True)).items = enumD 0 ds from rfl, enum_len] at hi; exact Nat.le_of_eq hi.symm⟩⟩
  obtain ⟨e', h1, h2⟩ := enum_get he
  subst h2
  obtain ⟨v, hv, r⟩ := (rs.mono s).get h1
  refine ⟨⟨vs, v, hs, hv⟩, fun x H' y => ?_⟩
  obtain ⟨T, x', rfl, hT, rfl, hx⟩ := y
  have e2 := hx vs hs
  rw [hv] at e2
  cases e2
  have s2 := same_upd (o := .tup [.int (i : Nat), v]) (rm.freeF hT)
  refine ⟨upd F' T (.tup [.int (i : Nat), v]), s2, rm.frz hT, .tup (.of upd_same) (.cons ?_ (.cons (r.mono s2) .nil))⟩
  rw [Nat.zero_add]
  exact .int _
theorem enum_inv {x : D} {M : Mem} {Q : Wk → Mem → Prop} (h : enumW x M Q) : (∃ ds, x = .tup ds ∧ Q ⟨enumD 0 ds, fun _ => True⟩ M) ∨ (∃ ds, asL M x = some ds ∧ Q ⟨enumD 0 ds, stillAt x ds⟩ M) := by
  unfold enumW at h
  split at h
  · exact .inl ⟨_, rfl, h⟩
  · split at h
    · exact .inr ⟨_, by assumption, h⟩
    · exact h.elim
theorem zip_get : ∀ {i : Nat} {ds es : List D} {d : D}, (zipD ds es)[i]? = some d → ∃ x y, ds[i]? = some x ∧ es[i]? = some y ∧ d = .tup [x, y]
  | _, [], _, _, h => by simp [zipD] at h
  | _, _ :: _, [], _, h => by simp [zipD] at h
  | 0, x :: ds, y :: es, d, h => by
    simp [zipD] at h
    exact ⟨x, y, rfl, rfl, h.symm⟩
  | i + 1, x :: ds, y :: es, d, h => by
    have h : (zipD ds es)[i]? = some d := by simpa [zipD] using h
    obtain ⟨x', y', h1, h2, h3⟩ := zip_get h
    exact ⟨x', y', h1, h2, h3⟩
theorem zip_len : ∀ (ds es : List D), (zipD ds es).length = min ds.length es.length
  | [], _ => by simp [zipD]
  | _ :: _, [] => by simp [zipD]
  | _ :: ds, _ :: es => by simp [zipD, zip_len ds es, Nat.succ_min_succ]
theorem real_zip {a b : Addr} {d e : D} {ds es : List D} (hst : ∀ P F' M H, Same F F' → RM (G.hide P) F' M H → stillAt d ds M → ∃ ws, SqL G.K H a ws ∧ RelDs G F' ws ds)
    (hst2 : ∀ P F' M H, Same F F' → RM (G.hide P) F' M H → stillAt e es M → ∃ ws, SqL G.K H b ws ∧ RelDs G F' ws es) : Real G F (Itz G.K a b) ⟨zipD ds es, fun M => stillAt d ds M ∧ stillAt e es M⟩ := by
  intro P i F' M H s rm ⟨st1, st2⟩
  obtain ⟨ws, hs, rs⟩ := hst P F' M H s rm st1
  obtain ⟨us, hs2, rs2⟩ := hst2 P F' M H s rm st2
  refine ⟨fun t ht => ?_, fun hi => ⟨ws, us, hs, hs2, ?_⟩⟩
  · obtain ⟨x, y, h1, h2, h3⟩ := zip_get ht
    subst h3
    obtain ⟨v, hv, r⟩ := rs.get h1
    obtain ⟨u, hu, r2⟩ := rs2.get h2
    refine ⟨⟨ws, us, v, u, hs, hs2, hv, hu⟩, fun x H' y => ?_⟩
    obtain ⟨T, x', y', rfl, hT, rfl, hx, hy⟩ := y
    have e2 := hx ws hs
    have e3 := hy us hs2
    rw [hv] at e2
    rw [hu] at e3
    cases e2
    cases e3
    have s2 := same_upd (o := .tup [v, u]) (rm.freeF hT)
    exact ⟨upd F' T (.tup [v, u]), s2, rm.frz hT, .tup (.of upd_same) (.cons (r.mono s2) (.cons (r2.mono s2) .nil))⟩
  · have hi : i = min ds.length es.length := by rw [← zip_len]; exact hi
    rw [rs.len, rs2.len]
    omega
theorem real_zipT {a b : Addr} {vs ws : List V} {ds es : List D} (h : SqT G.K F a vs) (rs : RelDs G F vs ds) (h2 : SqT G.K F b ws) (rs2 : RelDs G F ws es) : Real G F (RZ.ItzT G.K a b) ⟨zipD ds es, fun _ => True⟩ := by
  intro P i F' M H s rm _
  have hs := same_t rm.fz (same_t s h)
  have hs2 := same_t rm.fz (same_t s h2)
  refine ⟨fun t ht => ?_, fun hi => ⟨vs, ws, hs, hs2, ?_⟩⟩
  · obtain ⟨x, y, h1, h2, h3⟩ := zip_get ht
    subst h3
    obtain ⟨v, hv, r⟩ := (rs.mono s).get h1
    obtain ⟨u, hu, r2⟩ := (rs2.mono s).get h2
    refine ⟨⟨vs, ws, v, u, hs, hs2, hv, hu⟩, fun x H' y => ?_⟩
    obtain ⟨T, x', y', rfl, hT, rfl, hx, hy⟩ := y
    have e2 := hx vs hs
    have e3 := hy ws hs2
    rw [hv] at e2
    rw [hu] at e3
    cases e2
    cases e3
    have s2 := same_upd (o := .tup [v, u]) (rm.freeF hT)
    exact ⟨upd F' T (.tup [v, u]), s2, rm.frz hT, .tup (.of upd_same) (.cons (r.mono s2) (.cons (r2.mono s2) .nil))⟩
  · have hi : i = min ds.length es.length := by rw [← zip_len]; exact hi
    rw [rs.len, rs2.len]
    omega
theorem zip_inv {x y : D} {M : Mem} {Q : Wk → Mem → Prop} (h : zipW x y M Q) : (∃ ds es, x = .tup ds ∧ y = .tup es ∧ Q ⟨zipD ds es, fun _ => True⟩ M) ∨ (∃ ds es, asL M x = some ds ∧ asL M y = some es ∧ Q ⟨zipD ds es, fun M => stillAt x ds M ∧ stillAt y es M⟩ M) := by
  unfold zipW at h
  split at h
  · exact .inl ⟨_, _, rfl, rfl, h⟩
  · split at h
    · exact .inr ⟨_, _, by assumption, by assumption, h⟩
    · exact h.elim
end
end Wp

/-! WpS7: targets, comprehensions. -/
namespace Wp
open PySem PySem.Spec PyProof.Rows L2

/-! ### targets -/
def OffT (t : Tg) (σ σ' : L2.St) : Prop := σ'.length = σ.length ∧ ∀ j, j ∉ slots t → σ'[j]? = σ[j]?
def liftG (G : Gx) (t : Tg) : TG := fun v σ H Q => ∃ F M env d Qe, RM G F M H ∧ EnvR G F env σ ∧ RelD G F v d ∧ tgW t d env Qe ∧ ∀ env' σ', EnvR G F env' σ' → OffT t σ σ' → Qe env' → Q σ' H
def liftGs (G : Gx) (t : Tg) : TGs := fun vs σ H Q => ∃ F M env ds Qe, RM G F M H ∧ EnvR G F env σ ∧ RelDs G F vs ds ∧ tgsW t ds env Qe ∧ ∀ env' σ', EnvR G F env' σ' → OffT t σ σ' → Qe env' → Q σ' H
theorem PG.imp {X : Cx} {e : Expr} {t t' : TG} (h : PG X e t) (hi : ∀ v σ H Q, t' v σ H Q → t v σ H Q) : PG X e t' := ⟨fun pins s σ H v u Q I r q => h.run pins s σ H v u Q I r (hi _ _ _ _ q)⟩
theorem PGs.imp {X : Cx} {e : List Expr} {t t' : TGs} (h : PGs X e t) (hi : ∀ v σ H Q, t' v σ H Q → t v σ H Q) : PGs X e t' := ⟨fun pins s σ H v u Q I r q => h.run pins s σ H v u Q I r (hi _ _ _ _ q)⟩
theorem asg_ok {e : Expr} {es : List Expr} {env : PySem.Env} (h : noStar e = true) : assignEach (e :: es) env = (false, assign e env) :: assignEach es env := by
  cases e <;> first | rfl | cases h
theorem asg_len {N : List Str} {sc : Scope} {top : Bool} {env : PySem.Env} : ∀ {t : Tg} {es : List Expr}, chkGs N sc top t es = true → (assignEach es env).length = es.length ∧ (assignEach es env).findIdx? (·.1) = none
  | .no, [], _ => ⟨rfl, rfl⟩
  | .no, _ :: _, h => by cases h
  | .nm _, es, h => by cases h
  | .co t ts, [], h => by cases h
  | .co t ts, e :: es, h => by
    have h : (chkG N sc top t e && noStar e && chkGs N sc top ts es) = true := h
    rw [Bool.and_eq_true, Bool.and_eq_true] at h
    obtain ⟨⟨_, h2⟩, h3⟩ := h
    obtain ⟨i1, i2⟩ := asg_len (env := env) h3
    rw [asg_ok h2]
    refine ⟨congrArg Nat.succ i1, ?_⟩
    rw [List.findIdx?_cons]
    simp [i2]
theorem loc_of {X : Cx} {sc : Scope} {top : Bool} {x : Str} (hs : X.env.scope = sc) (hf : top = true → X.fn = fun _ => true) (h : locB sc top x = true) : Loc X.env.scope x ∧ (X.fn x = true ∨ X.env.scope.names.lookup x = some .local) := by
  unfold locB at h
  split at h
  · rename_i e
    refine ⟨?_, .inr ?_⟩
    · rw [hs]; exact .inl e
    · rw [hs]; exact e
  · rename_i e
    refine ⟨?_, .inl ?_⟩
    · rw [hs]; exact .inr e
    · rw [hf h]
  · cases h
section
variable {G : Gx} {X : Cx} {N : List Str} {sc : Scope} {top : Bool}
theorem off_refl {t : Tg} {σ : L2.St} : OffT t σ σ := ⟨rfl, fun _ _ => rfl⟩
theorem off_trans {t ts : Tg} {σ σ1 σ2 : L2.St} (a : OffT t σ σ1) (b : OffT ts σ1 σ2) : OffT (.co t ts) σ σ2 := by
  refine ⟨b.1.trans a.1, fun j hj => ?_⟩
  have hj : j ∉ slots t ++ slots ts := hj
  rw [List.mem_append, not_or] at hj
  exact (b.2 j hj.2).trans (a.2 j hj.1)
mutual
theorem tg_ex : ∀ (t : Tg) {d : D} {env : Env} {Q : Env → Prop}, tgW t d env Q → ∃ e, Q e
  | .nm i, _, _, _, h => ⟨_, h⟩
  | .no, d, env, Q, h => by
    unfold tgW at h
    split at h
    · exact ⟨_, h⟩
    · exact ⟨_, h⟩
    · exact h.elim
  | .co t ts, d, env, Q, h => by
    unfold tgW at h
    split at h
    · obtain ⟨e, h2⟩ := tg_ex t h
      exact tgs_ex ts h2
    · obtain ⟨e, h2⟩ := tg_ex t h
      exact tgs_ex ts h2
    · exact h.elim
theorem tgs_ex : ∀ (t : Tg) {ds : List D} {env : Env} {Q : Env → Prop}, tgsW t ds env Q → ∃ e, Q e
  | .nm _, ds, _, _, h => by cases ds <;> exact (show False from h).elim
  | .no, ds, env, Q, h => by
    cases ds with
    | nil => exact ⟨_, h⟩
    | cons a b => exact (show False from h).elim
  | .co t ts, ds, env, Q, h => by
    cases ds with
    | nil => exact (show False from h).elim
    | cons d ds =>
      obtain ⟨e, h2⟩ := tg_ex t (show tgW t d env (fun e => tgsW ts ds e Q) from h)
      exact tgs_ex ts h2
end
/-- a tuple is as long as its target -/
theorem tgs_len : ∀ {t : Tg} {es : List Expr} {ds : List D} {env : Env} {Q : Env → Prop}, chkGs N sc top t es = true → tgsW t ds env Q → ds.length = es.length
  | .nm _, _, _, _, _, h, _ => by cases h
  | .no, es, ds, _, _, h, q => by
    cases es with
    | nil => cases ds with
      | nil => rfl
      | cons a b => exact (show False from q).elim
    | cons a b => cases h
  | .co t ts, es, ds, env, Q, h, q => by
    cases es with
    | nil => cases h
    | cons e es =>
      cases ds with
      | nil => exact (show False from q).elim
      | cons d ds =>
        have h : (chkG N sc top t e && noStar e && chkGs N sc top ts es) = true := h
        rw [Bool.and_eq_true, Bool.and_eq_true] at h
        obtain ⟨e', q2⟩ := tg_ex t (show tgW t d env (fun e => tgsW ts ds e Q) from q)
        exact congrArg Nat.succ (tgs_len h.2 q2)
theorem PG.or {X : Cx} {e : Expr} {t t' : TG} (h : PG X e t) (h' : PG X e t') : PG X e (fun v σ H Q => t v σ H Q ∨ t' v σ H Q) :=
  ⟨fun pins s σ H v u Q I r q => q.elim (h.run pins s σ H v u Q I r) (h'.run pins s σ H v u Q I r)⟩
mutual
theorem snd_G (hK : X.K = G.K) (hN : X.N = N) (nd : X.N.Nodup) (hs : X.env.scope = sc) (hc : X.calm = true) (hf : top = true → X.fn = fun _ => true) : ∀ (t : Tg) {e : Expr}, chkG N sc top t e = true → PG X e (liftG G t)
  | .nm i, e, h => by
    unfold chkG at h
    split at h
    · rename_i x p
      rw [Bool.and_eq_true] at h
      obtain ⟨h1, h2⟩ := loc_of hs hf h.2
      refine PG.imp (pg_name nd (by rw [hN]; exact of_decide_eq_true h.1) h1 h2) fun v σ H Q ⟨F, M, env, d, Qe, rm, er, r, q, k⟩ => ?_
      refine k _ _ (er.set r) ⟨List.length_set, fun j hj => ?_⟩ q
      have : i ≠ j := fun z => hj (by subst z; exact List.mem_singleton.mpr rfl)
      exact List.getElem?_set_ne this
    · cases h
  | .no, e, h => by
    unfold chkG at h
    split at h
    · refine PG.imp (PG.or (pg_tup hc pgs_nil rfl rfl) (pg_lst hc pgs_nil rfl rfl)) fun v σ H Q ⟨F, M, env, d, Qe, rm, er, r, q, k⟩ => ?_
      unfold tgW at q
      split at q
      · obtain ⟨p, vs, rfl, g1, g2⟩ := rd_T rm r
        cases g2
        exact .inl ⟨p, [], rfl, by rw [hK]; exact g1, rfl, rfl, k _ _ er off_refl q⟩
      · obtain ⟨p, vs, rfl, g1, g2⟩ := rd_L rm r rfl
        cases g2
        exact .inr ⟨p, [], rfl, by rw [hK]; exact g1, rfl, rfl, k _ _ er off_refl q⟩
      · exact q.elim
    · cases h
  | .co t ts, e, h => by
    unfold chkG at h
    split at h
    · rename_i e es k0 p
      have hh : chkGs N sc top (.co t ts) (e :: es) = true := h
      rw [Bool.and_eq_true, Bool.and_eq_true] at h
      obtain ⟨⟨h1, h2⟩, h3⟩ := h
      obtain ⟨l1, l2⟩ := asg_len (env := X.env) hh
      have gs := pgs_cons (snd_G hK hN nd hs hc hf t h1) (snd_Gs hK hN nd hs hc hf ts h3) (by rw [asg_ok h2]; rfl)
      refine PG.imp (PG.or (pg_tup hc gs l1 l2) (pg_lst hc gs l1 l2)) fun v σ H Q ⟨F, M, env, d, Qe, rm, er, r, q, k⟩ => ?_
      unfold tgW at q
      split at q
      · rename_i d ds
        obtain ⟨p, vs, rfl, g1, g2⟩ := rd_T rm r
        obtain ⟨_, qq⟩ := tg_ex t q
        have hl : vs.length = (e :: es).length := by
          rw [g2.len]
          exact congrArg Nat.succ (tgs_len h3 qq)
        cases g2 with
        | cons a b =>
          refine .inl ⟨p, _, rfl, by rw [hK]; exact g1, hl, _, _, rfl, F, M, env, _, _, rm, er, a, q, fun env' σ' er' o1 q' => ?_⟩
          exact ⟨F, M, env', _, Qe, rm, er', b, q', fun env2 σ2 er2 o2 q2 => k _ _ er2 (off_trans o1 o2) q2⟩
      · rename_i d ds
        obtain ⟨p, vs, rfl, g1, g2⟩ := rd_L rm r rfl
        obtain ⟨_, qq⟩ := tg_ex t q
        have hl : vs.length = (e :: es).length := by
          rw [g2.len]
          exact congrArg Nat.succ (tgs_len h3 qq)
        cases g2 with
        | cons a b =>
          refine .inr ⟨p, _, rfl, by rw [hK]; exact g1, hl, _, _, rfl, F, M, env, _, _, rm, er, a, q, fun env' σ' er' o1 q' => ?_⟩
          exact ⟨F, M, env', _, Qe, rm, er', b, q', fun env2 σ2 er2 o2 q2 => k _ _ er2 (off_trans o1 o2) q2⟩
      · exact q.elim
    · cases h
theorem snd_Gs (hK : X.K = G.K) (hN : X.N = N) (nd : X.N.Nodup) (hs : X.env.scope = sc) (hc : X.calm = true) (hf : top = true → X.fn = fun _ => true) : ∀ (t : Tg) {es : List Expr}, chkGs N sc top t es = true → PGs X es (liftGs G t)
  | .no, es, h => by
    cases es with
    | nil =>
      refine PGs.imp pgs_nil fun v σ H Q ⟨F, M, env, d, Qe, rm, er, r, q, k⟩ => ?_
      cases r with
      | nil => exact ⟨rfl, k _ _ er off_refl q⟩
      | cons a b => exact (show False from q).elim
    | cons a b => cases h
  | .nm _, es, h => by cases h
  | .co t ts, es, h => by
    cases es with
    | nil => cases h
    | cons e es =>
      have h : (chkG N sc top t e && noStar e && chkGs N sc top ts es) = true := h
      rw [Bool.and_eq_true, Bool.and_eq_true] at h
      obtain ⟨⟨h1, h2⟩, h3⟩ := h
      refine PGs.imp (pgs_cons (snd_G hK hN nd hs hc hf t h1) (snd_Gs hK hN nd hs hc hf ts h3) (by rw [asg_ok h2]; rfl)) fun v σ H Q ⟨F, M, env, d, Qe, rm, er, r, q, k⟩ => ?_
      cases r with
      | nil => exact (show False from q).elim
      | cons a b =>
        refine ⟨_, _, rfl, F, M, env, _, _, rm, er, a, q, fun env' σ' er' o1 q' => ?_⟩
        exact ⟨F, M, env', _, Qe, rm, er', b, q', fun env2 σ2 er2 o2 q2 => k _ _ er2 (off_trans o1 o2) q2⟩
end
end
end Wp

/-! WpS8: that the tree is enough for the text: comprehensions, expressions. -/
namespace Wp
open PySem PySem.Spec PyProof.Rows L2
theorem PE.ex {X : Cx} {e : Expr} {ι : Type} {t : ι → TE} (h : ∀ i, PE X e (t i)) : PE X e (fun σ H Q => ∃ i, t i σ H Q) := ⟨fun pins s σ H Q I ⟨i, q⟩ => (h i).run pins s σ H Q I q⟩
theorem PG.ex {X : Cx} {e : Expr} {ι : Type} {t : ι → TG} (h : ∀ i, PG X e (t i)) : PG X e (fun v σ H Q => ∃ i, t i v σ H Q) := ⟨fun pins s σ H v u Q I r ⟨i, q⟩ => (h i).run pins s σ H v u Q I r q⟩
theorem PTs.ex {X : Cx} {e : List Expr} {ι : Type} {t : ι → TT} (h : ∀ i, PTs X e (t i)) : PTs X e (fun σ H Q => ∃ i, t i σ H Q) := ⟨fun pins s σ H Q I ⟨i, q⟩ => (h i).run pins s σ H Q I q⟩
theorem PTs.imp {X : Cx} {e : List Expr} {t t' : TT} (h : PTs X e t) (hi : ∀ σ H Q, t' σ H Q → t σ H Q) : PTs X e t' := ⟨fun pins s σ H Q I q => h.run pins s σ H Q I (hi _ _ _ q)⟩
theorem PW.imp {X : Cx} {e : Expr} {t t' : TT} (h : L2.PW X e t) (hi : ∀ σ H Q, t' σ H Q → t σ H Q) : L2.PW X e t' := ⟨fun wh pins s σ H Q I q => h.run wh pins s σ H Q I (hi _ _ _ q)⟩

/-! ### a hidden thing -/
theorem ins_hide {G : Gx} {P F H H' : Hp} {a : Addr} {c : Nat} {fs : List (Str × D)} (e : H' a = H a) (h : RelOb G F H a (.ins c fs)) : RelOb (G.hide P) F H' a (.ins c fs) := by
  obtain ⟨C, dd, h1, h2, h3⟩ := h
  refine ⟨C, dd, h1, e.trans h2, ?_⟩
  rcases h3 with h3 | ⟨d, fvs, h4, h5, h6⟩
  · exact .inl h3
  · exact .inr ⟨d, fvs, h4, h5, Paired.mapP h6 fun p q z => ⟨z.1, z.2.hide P⟩⟩
theorem obj_hide {G : Gx} {P F H H' : Hp} {a : Addr} {c : Nat} {fs : List (Str × D)} (e : H' a = H a) (h : RelOb G F H a (.obj c fs)) : RelOb (G.hide P) F H' a (.obj c fs) := by
  obtain ⟨C, dx, fvs, h1, h2, h3⟩ := h
  exact ⟨C, dx, fvs, h1, e.trans h2, Paired.mapP h3 fun p q z => ⟨z.1, z.2.hide P⟩⟩
theorem obj_unhide {G : Gx} {P F H : Hp} {a : Addr} {c : Nat} {fs : List (Str × D)} (h : RelOb (G.hide P) F H a (.obj c fs)) : RelOb G F H a (.obj c fs) := obj_hide (G := G.hide P) (P := G.P) rfl h
theorem ins_unhide {G : Gx} {P F H : Hp} {a : Addr} {c : Nat} {fs : List (Str × D)} (h : RelOb (G.hide P) F H a (.ins c fs)) : RelOb G F H a (.ins c fs) := ins_hide (G := G.hide P) (P := G.P) rfl h
section
variable {G : Gx} {F H : Hp} {M : Mem} {P : Hp} {dd : Addr} {o o' : HO}
theorem RM.hid (r : RM G F M H) (hD : H dd = none) : RM (G.hide (upd G.P dd o)) F M (upd H dd o) := by
  have nF := r.freeF hD
  have nM := r.freeM hD
  refine ⟨fun b u e => by rw [upd_ne (ne_of_none e nF)]; exact r.fz b u e, fun a ob e => ?_, fun a u e => ?_⟩
  · obtain ⟨h1, h2⟩ := r.mt a ob e
    have ne : a ≠ dd := fun z => by rw [z, nM] at e; cases e
    refine ⟨h1, ?_⟩
    cases ob with
    | lst ds => obtain ⟨vs, h3, h4⟩ := h2; exact ⟨vs, (upd_ne ne).trans h3, h4.hide _⟩
    | dic ds => obtain ⟨vs, h3, h4⟩ := h2; exact ⟨vs, (upd_ne ne).trans h3, h4.hide _⟩
    | ins _ _ => exact ins_hide (upd_ne ne) h2
    | obj _ _ => exact obj_hide (upd_ne ne) h2
  · have e : upd G.P dd o a = some u := e
    by_cases ha : a = dd
    · subst ha
      rw [upd_same] at e
      cases e
      exact ⟨upd_same, nF, nM⟩
    · rw [upd_ne ha] at e
      rw [upd_ne ha]
      exact r.hd a u e
/-- .. changed -/
theorem RM.rehid (r : RM (G.hide (upd P dd o)) F M H) : RM (G.hide (upd P dd o')) F M (upd H dd o') := by
  obtain ⟨h0, nF, nM⟩ := r.hd dd o upd_same
  refine ⟨fun b u e => by rw [upd_ne (ne_of_none e nF)]; exact r.fz b u e, fun a ob e => ?_, fun a u e => ?_⟩
  · obtain ⟨h1, h2⟩ := r.mt a ob e
    have ne : a ≠ dd := fun z => by rw [z, nM] at e; cases e
    refine ⟨h1, ?_⟩
    cases ob with
    | lst ds => obtain ⟨vs, h3, h4⟩ := h2; exact ⟨vs, (upd_ne ne).trans h3, (h4.unhide).hide _⟩
    | dic ds => obtain ⟨vs, h3, h4⟩ := h2; exact ⟨vs, (upd_ne ne).trans h3, (h4.unhide).hide _⟩
    | ins _ _ => exact ins_hide (upd_ne ne) (ins_unhide h2)
    | obj _ _ => exact obj_hide (upd_ne ne) (obj_unhide h2)
  · have e : upd P dd o' a = some u := e
    by_cases ha : a = dd
    · subst ha
      rw [upd_same] at e
      cases e
      exact ⟨upd_same, nF, nM⟩
    · rw [upd_ne ha] at e
      rw [upd_ne ha]
      exact r.hd a u (by show upd P dd o a = some u; rw [upd_ne ha]; exact e)
/-- .. told: it stays from here on, or may change -/
theorem RM.told {vs : List V} (hP : G.P dd = none) (r : RM (G.hide (upd G.P dd (.lst vs))) F M H) : F dd = none ∧ RM G (upd F dd (.lst vs)) M H := by
  obtain ⟨h0, nF, nM⟩ := r.hd dd _ upd_same
  have s := same_upd (o := .lst vs) nF
  refine ⟨nF, fun b u e => ?_, fun a ob e => ?_, fun a u e => ?_⟩
  · by_cases hb : b = dd
    · subst hb; rw [upd_same] at e; cases e; exact h0
    · rw [upd_ne hb] at e; exact r.fz b u e
  · obtain ⟨h1, h2⟩ := r.mt a ob e
    have ne : a ≠ dd := fun z => by rw [z, nM] at e; cases e
    refine ⟨by rw [upd_ne ne]; exact h1, ?_⟩
    cases ob with
    | lst ds => obtain ⟨vs, h3, h4⟩ := h2; exact ⟨vs, h3, h4.unhide.mono s⟩
    | dic ds => obtain ⟨vs, h3, h4⟩ := h2; exact ⟨vs, h3, h4.unhide.mono s⟩
    | ins _ _ => exact (ins_unhide h2).at s rfl
    | obj _ _ => exact (obj_unhide h2).at s rfl
  · have ne : a ≠ dd := fun z => by rw [z, hP] at e; cases e
    obtain ⟨g1, g2, g3⟩ := r.hd a u (by show upd G.P dd _ a = some u; rw [upd_ne ne]; exact e)
    exact ⟨g1, by rw [upd_ne ne]; exact g2, g3⟩
theorem RM.toldM {vs : List V} {ds : List D} (hP : G.P dd = none) (r : RM (G.hide (upd G.P dd (.lst vs))) F M H) (rs : RelDs G F vs ds) : M dd = none ∧ RM G F (M.upd dd (.lst ds)) H := by
  obtain ⟨h0, nF, nM⟩ := r.hd dd _ upd_same
  refine ⟨nM, r.fz, fun a ob e => ?_, fun a u e => ?_⟩
  · unfold Mem.upd at e
    by_cases ha : a = dd
    · subst ha; rw [if_pos rfl] at e; cases e; exact ⟨nF, vs, h0, rs⟩
    · rw [if_neg ha] at e
      obtain ⟨h1, h2⟩ := r.mt a ob e
      refine ⟨h1, ?_⟩
      cases ob with
      | lst ds => obtain ⟨vs, h3, h4⟩ := h2; exact ⟨vs, h3, h4.unhide⟩
      | dic ds => obtain ⟨vs, h3, h4⟩ := h2; exact ⟨vs, h3, h4.unhide⟩
      | ins _ _ => exact ins_unhide h2
      | obj _ _ => exact obj_unhide h2
  · have ne : a ≠ dd := fun z => by rw [z, hP] at e; cases e
    obtain ⟨g1, g2, g3⟩ := r.hd a u (by show upd G.P dd _ a = some u; rw [upd_ne ne]; exact e)
    refine ⟨g1, g2, ?_⟩
    unfold Mem.upd
    rw [if_neg ne]
    exact g3
end

/-! ### the block's own names -/
theorem wipe_get (σ : L2.St) (j : Nat) : ∀ vs : List Nat, (L2.wipe σ vs)[j]? = if j ∈ vs ∧ j < σ.length then some none else σ[j]?
  | [] => by simp [L2.wipe]
  | v :: vs => by
    show ((L2.wipe σ vs).set v none)[j]? = _
    have ih := wipe_get σ j vs
    have hl := L2.wipe_length σ vs
    by_cases hv : v = j
    · subst hv
      by_cases hlt : v < σ.length
      · rw [List.getElem?_set_self (by rw [hl]; exact hlt), if_pos ⟨List.mem_cons_self, hlt⟩]
      · rw [List.getElem?_eq_none (by rw [List.length_set, hl]; omega), if_neg (fun z => hlt z.2), List.getElem?_eq_none (by omega)]
    · rw [List.getElem?_set_ne hv, ih]
      have : (j ∈ v :: vs) ↔ j ∈ vs := by
        rw [List.mem_cons]
        exact ⟨fun z => z.resolve_left (fun e => hv e.symm), .inr⟩
      simp only [this]
theorem wipe_off {σ σ2 : L2.St} {vs : List Nat} {t : Tg} (h : OffT t (L2.wipe σ vs) σ2) (hs : ∀ i ∈ slots t, i ∈ vs) : L2.wipe σ2 vs = L2.wipe σ vs := by
  have hl : σ2.length = σ.length := h.1.trans (L2.wipe_length σ vs)
  apply List.ext_getElem?
  intro j
  rw [wipe_get, wipe_get, hl]
  by_cases hj : j ∈ vs ∧ j < σ.length
  · rw [if_pos hj, if_pos hj]
  · rw [if_neg hj, if_neg hj]
    by_cases hm : j ∈ slots t
    · have hv := hs j hm
      have hge : ¬ j < σ.length := fun z => hj ⟨hv, z⟩
      rw [List.getElem?_eq_none (by omega), List.getElem?_eq_none (by omega)]
    · rw [h.2 j hm, wipe_get, if_neg hj]

section
variable {G : Gx} {W : WX} {X : Cx}
/-- THE COMPREHENSION: from the walk, the target, the test, the thing made -/
theorem comp_read {fr : Bool} {own : List Nat} {tg : Tg} {wi : Env → Mem → (Wk → Mem → Prop) → XQ → Prop} {wc : Env → Mem → BK → XQ → Prop} {we : Env → Mem → QK → XQ → Prop} (hsl : ∀ i ∈ slots tg, i ∈ own) {σ : L2.St} {H : Hp} {Q : VK}
    (h : liftE G W (fun env M Q E => wi env M (fun w M1 =>
      compW (fun d e M Q => tgW tg d e fun e' => wc e' M (fun b M1 => match b with
        | true => we e' M1 (fun y M2 => Q (some y) M2) fun _ _ => False
        | false => Q none M1) fun _ _ => False) w.still (wipeE env own) w.items [] M1 fun ds M2 => newL fr ds M2 Q) E) σ H Q) :
    tLc (liftW G W wi) (fun v σ H Q => ∃ P : Hp, liftG (G.hide P) tg v σ H Q) (fun σ H Q => ∃ P : Hp, liftT (G.hide P) (fun _ _ _ _ => False) wc σ H Q) (fun σ H Q => ∃ P : Hp, liftE (G.hide P) (fun _ _ _ _ => False) we σ H Q) own σ H Q := by
  obtain ⟨F, M, env, q, e, rm, er, cn, cx, h⟩ := h
  refine ⟨F, M, env, _, e, rm, er, fun F1 M1 H1 wk J s1 rm1 real hq => ?_, cx, h⟩
  intro Dn hDn
  have hPn : G.P Dn = none := by
    cases z : G.P Dn with
    | none => rfl
    | some u =>
      have := (rm1.hd Dn u z).1
      rw [hDn] at this; cases this
  have er1 := (er.mono s1).wipe own
  refine ⟨fun i m H' => m = wk.items.length - i ∧ i ≤ wk.items.length ∧ ∃ F2 M2 acc accV, Same F1 F2 ∧ RM (G.hide (upd G.P Dn (.lst accV))) F2 M2 H' ∧ RelDs G F2 accV acc ∧
    compW (fun d e M Q => tgW tg d e fun e' => wc e' M (fun b M1 => match b with
        | true => we e' M1 (fun y M2 => Q (some y) M2) fun _ _ => False
        | false => Q none M1) fun _ _ => False) wk.still (wipeE env own) (wk.items.drop i) acc M2 (fun ds M2 => newL fr ds M2 q),
    ⟨wk.items.length, rfl, Nat.zero_le _, F1, M1, [], [], Same.refl _, rm1.hid hDn, .nil, hq⟩, ?_⟩
  rintro i m H' ⟨rfl, hi, F2, M2, acc, accV, s2, rm2, rs, cw⟩
  by_cases hlt : i < wk.items.length
  · -- one turn
    rw [List.drop_eq_getElem_cons hlt] at cw
    obtain ⟨st, cw⟩ := cw
    obtain ⟨rl, _⟩ := real (upd G.P Dn (.lst accV)) i F2 M2 H' s2 rm2 st
    obtain ⟨go, yl⟩ := rl wk.items[i] (List.getElem?_eq_getElem hlt)
    refine .inr ⟨go, fun H'' => ∃ F2 M2 acc accV, Same F1 F2 ∧ RM (G.hide (upd G.P Dn (.lst accV))) F2 M2 H'' ∧ RelDs G F2 accV acc ∧
      compW (fun d e M Q => tgW tg d e fun e' => wc e' M (fun b M1 => match b with
        | true => we e' M1 (fun y M2 => Q (some y) M2) fun _ _ => False
        | false => Q none M1) fun _ _ => False) wk.still (wipeE env own) (wk.items.drop (i + 1)) acc M2 (fun ds M2 => newL fr ds M2 q), fun H'' x => ⟨_, by omega, rfl, hlt, x⟩, fun x H3 y => ?_⟩
    obtain ⟨F3, s3, rm3, r3⟩ := yl x H3 y
    have er3 : EnvR (G.hide (upd G.P Dn (.lst accV))) F3 (wipeE env own) (L2.wipe σ own) := ⟨(er1.mono (s2.trans s3)).len, fun i d e => by
      obtain ⟨v, h1, h2⟩ := (er1.mono (s2.trans s3)).at_ i d e
      exact ⟨v, h1, h2.hide _⟩⟩
    refine ⟨upd G.P Dn (.lst accV), F3, M2, _, _, _, rm3, er3, r3.hide _, cw, fun env' σ' er' off cw => ?_⟩
    refine ⟨wipe_off off hsl, upd G.P Dn (.lst accV), F3, M2, env', _, _, rm3, er', fun F4 M4 H4 b s4 rm4 cw => ?_, fun _ _ _ _ _ _ _ _ _ z => z, cw⟩
    cases b with
    | false =>
      rw [if_neg Bool.false_ne_true]
      exact ⟨F4, M4, acc, accV, s2.trans (s3.trans s4), rm4, rs.mono (s3.trans s4), cw⟩
    | true =>
      rw [if_pos rfl]
      refine ⟨upd G.P Dn (.lst accV), F4, M4, env', _, _, rm4, er'.mono s4, fun F5 M5 H5 v d s5 rm5 r5 cw => ?_, fun _ _ _ _ _ _ _ _ _ z => z, cw⟩
      obtain ⟨hz, cw⟩ := cw
      have ss := s3.trans (s4.trans s5)
      refine ⟨accV, (rm5.hd Dn _ upd_same).1, by rw [rs.len]; exact hz, F5, M5, acc ++ [d], accV ++ [v], s2.trans ss, rm5.rehid, (rs.mono ss).app (.cons r5.unhide .nil), cw⟩
  · -- the end
    have e1 : i = wk.items.length := by omega
    subst e1
    rw [List.drop_length] at cw
    obtain ⟨st, cw⟩ := cw
    refine .inl ⟨(real (upd G.P Dn (.lst accV)) _ F2 M2 H' s2 rm2 st).2 rfl, ?_⟩
    obtain ⟨hz, cw⟩ := cw
    cases fr with
    | true =>
      obtain ⟨nF, rm6⟩ := RM.told hPn rm2
      have s6 := same_upd (o := .lst accV) nF
      exact cn _ M2 H' _ _ (s1.trans (s2.trans s6)) rm6 (.lst upd_same (rs.mono s6)) cw
    | false =>
      obtain ⟨nM, rm6⟩ := RM.toldM hPn rm2 rs
      exact cn F2 _ H' _ _ (s1.trans s2) rm6 .loc (cw Dn nM)
end
end Wp

/-! WpS8d: dicts. -/
namespace Wp
open PySem PySem.Spec PyProof.Rows L2
def exLen : Ex → Nat
  | .cons _ es => exLen es + 1
  | _ => 0
section
variable (G : Gx) (W : WX) (R : Nat → List D → Mem → QK → XQ → Prop)
def tCst (k : Sum Int Str) : TE := fun _ H Q => Q (kV k) H
def trsOf : List (Sum Int Str) → Ex → List (TE × TE)
  | k :: ks, .cons e es => (tCst k, liftE G W (wpE R e)) :: trsOf ks es
  | _, _ => []
end
theorem pairs_read {G : Gx} {W : WX} {R : Nat → List D → Mem → QK → XQ → Prop} {env : Env} {σ : L2.St} {e : XQ} (es : Ex) : ∀ {ks : List (Sum Int Str)} {F H : Hp} {M : Mem} {q : AK} {Q : List (V × V) → Hp → Prop}, RM G F M H → EnvR G F env σ → (CnX G F e fun c d H => W c d σ H) → wpA R es env M q e → exLen es = ks.length →
    (∀ F' M' H' vs ds, Same F F' → RM G F' M' H' → RelDs G F' vs ds → q ds M' → Q ((ks.map kV).zip vs) H') → tPairs (trsOf G W R ks es) σ H Q := by
  induction es with
  | nil =>
    intro ks F H M q Q rm er cx h hl k
    have : ks = [] := List.eq_nil_of_length_eq_zero hl.symm
    subst this
    exact k F M H [] [] (Same.refl F) rm .nil h
  | cons x xs _ ih =>
    intro ks F H M q Q rm er cx h hl k
    match ks, hl with
    | k0 :: ks, hl =>
      have hl : exLen xs + 1 = ks.length + 1 := hl
      show liftE G W (wpE R x) σ H fun y H2 => tPairs (trsOf G W R ks xs) σ H2 fun ps H3 => Q ((kV k0, y) :: ps) H3
      exact enter rm er cx h fun F1 M1 H1 v1 d1 s1 rm1 er1 cx1 r1 h => ih (ks := ks) rm1 er1 cx1 h (by omega) fun F2 M2 H2 vs ds s2 rm2 rs h => k F2 M2 H2 (v1 :: vs) (d1 :: ds) (s1.trans s2) rm2 (.cons (r1.mono s2) rs) h
  | _ => exact fun rm er cx h hl k => (show False from h).elim
theorem zip_kV : ∀ (ks : List (Sum Int Str)) (vs : List V), (ks.map kV).zip vs = (ks.zip vs).map fun kv => (kV kv.1, kv.2)
  | [], vs => rfl
  | k :: ks, [] => rfl
  | k :: ks, v :: vs => congrArg ((kV k, v) :: ·) (zip_kV ks vs)
theorem chkK_len : ∀ {ks : List (Sum Int Str)} {keys : List (Option Expr)}, chkK ks keys = true → keys.length = ks.length
  | [], [], _ => rfl
  | k :: ks, e :: es, h => by
    unfold chkK at h
    rw [Bool.and_eq_true] at h
    rw [List.length_cons, List.length_cons, chkK_len h.2]
  | [], _ :: _, h => by cases h
  | _ :: _, [], h => by cases h
theorem keyB_some {k : Sum Int Str} {e : Option Expr} (h : keyB k e = true) : ∃ e', e = some e' := by
  cases e with
  | none => cases k <;> cases h
  | some e => exact ⟨e, rfl⟩
theorem chkK_some : ∀ {ks : List (Sum Int Str)} {keys : List (Option Expr)}, chkK ks keys = true → keys.all (·.isSome) = true
  | [], [], _ => rfl
  | k :: ks, e :: es, h => by
    unfold chkK at h
    rw [Bool.and_eq_true] at h
    obtain ⟨e', rfl⟩ := keyB_some h.1
    rw [List.all_cons, chkK_some h.2]; rfl
  | [], _ :: _, h => by cases h
  | _ :: _, [], h => by cases h
theorem key_pe {X : Cx} {k : Sum Int Str} {e : Expr} (h : keyB k (some e) = true) : PE X e (tCst k) := by
  unfold keyB at h
  split at h
  · split at h
    · rename_i hq
      cases hq
      have e1 := of_decide_eq_true h
      subst e1
      exact PE.imp pe_int fun σ H Q h => h
    · cases h
  · split at h
    · rename_i hq
      cases hq
      have e1 := of_decide_eq_true h
      subst e1
      exact PE.imp pe_str fun σ H Q h => h
    · cases h
theorem dget_inv {x y : D} {M : Mem} {q : QK} (h : dgetW x y M q) : ∃ a kvs k v, x = .loc a ∧ M a = some (.dic kvs) ∧ keyD y = some k ∧ lookD kvs k = some v ∧ q v M := by
  unfold dgetW at h
  split at h
  · split at h
    · split at h
      · exact ⟨_, _, _, _, rfl, by assumption, by assumption, by assumption, h⟩
      · exact h.elim
    · exact h.elim
  · exact h.elim
theorem dput_inv {x y v : D} {M : Mem} {q : Mem → Prop} (h : dputW x y v M q) : ∃ a kvs k, x = .loc a ∧ M a = some (.dic kvs) ∧ keyD y = some k ∧ kvs.length < sizeLine ∧ q (M.upd a (.dic (putD kvs k v))) := by
  unfold dputW at h
  split at h
  · split at h
    · exact ⟨_, _, _, rfl, by assumption, by assumption, h.1, h.2⟩
    · exact h.elim
  · exact h.elim
theorem key_rel {G : Gx} {F : Hp} {v : V} {d : D} {k : Sum Int Str} (r : RelD G F v d) (e : keyD d = some k) : v = kV k := by
  cases r <;> first | (cases e; done) | (cases e; rfl)
theorem nosl_ok {i : Expr} (h : noSlice i = true) : NoSl i := by
  cases i <;> first | exact fun _ _ => rfl | cases h
theorem chkA_len {tb : Tb} {N : List Str} : ∀ {ex : Ex} {sc : Scope} {es : List Expr}, chkA tb N ex sc es = true → exLen ex = es.length := by
  intro ex
  induction ex with
  | nil =>
    intro sc es h
    unfold chkA at h
    split at h
    · rfl
    · cases h
  | cons x xs _ ih =>
    intro sc es h
    unfold chkA at h
    split at h
    · rw [Bool.and_eq_true] at h
      rw [List.length_cons, ← ih h.2]
      rfl
    · cases h
  | _ => intro sc es h; cases h
end Wp

/-! WpX3: t[::-1], t a tuple. -/
namespace Wp
open PySem PySem.Spec PyProof.Rows L2
theorem adjust_rev (n : Nat) : Builtin.Slice.sliceAdjust none none (-1) (n : Int) = ((n : Int) - 1, -1) := by
  unfold Builtin.Slice.sliceAdjust
  simp only [show ((-1 : Int) < 0) from by decide, if_true]
theorem places_rev (n : Nat) : Builtin.Slice.slicePlaces ((n : Int) - 1) (-1) (-1) = n := by
  unfold Builtin.Slice.slicePlaces
  simp only [show ¬ ((-1 : Int) > 0) from by decide, if_false]
  split <;> simp <;> omega
theorem pick_rev (xs : Array Value) : ((List.range xs.size).filterMap fun (m : Nat) => xs[((xs.size : Int) - 1 + (m : Int) * (-1)).toNat]?).toArray = xs.toList.reverse.toArray := by
  have e : (List.range xs.size).filterMap (fun (m : Nat) => xs[((xs.size : Int) - 1 + (m : Int) * (-1)).toNat]?) = xs.toList.reverse := by
    have h : ∀ m, m < xs.size → xs[((xs.size : Int) - 1 + (m : Int) * (-1)).toNat]? = some (xs.toList.reverse[m]?.getD .none) := fun m hm => by
      have : ((xs.size : Int) - 1 + (m : Int) * (-1)).toNat = xs.size - 1 - m := by omega
      have hl : m < xs.toList.length := by rw [Array.length_toList]; exact hm
      rw [this, List.getElem?_reverse hl, Array.length_toList, Array.getElem?_toList, Array.getElem?_eq_getElem (by omega)]
      rfl
    refine List.ext_getElem? fun j => ?_
    have f : (List.range xs.size).filterMap (fun (m : Nat) => xs[((xs.size : Int) - 1 + (m : Int) * (-1)).toNat]?) = (List.range xs.size).map fun m => xs.toList.reverse[m]?.getD .none := by
      have go : ∀ l : List Nat, (∀ m ∈ l, m < xs.size) → l.filterMap (fun (m : Nat) => xs[((xs.size : Int) - 1 + (m : Int) * (-1)).toNat]?) = l.map fun m => xs.toList.reverse[m]?.getD .none := fun l => by
        induction l with
        | nil => exact fun _ => rfl
        | cons a l ih =>
          intro hl
          rw [List.filterMap_cons, h a (hl a (List.mem_cons_self ..)), List.map_cons, ih fun m hm => hl m (List.mem_cons_of_mem _ hm)]
      exact go _ fun m hm => List.mem_range.mp hm
    rw [f, List.getElem?_map]
    by_cases hj : j < xs.size
    · rw [List.getElem?_range hj]
      show some (xs.toList.reverse[j]?.getD .none) = _
      rw [List.getElem?_eq_getElem (by rw [List.length_reverse, Array.length_toList]; exact hj)]
      rfl
    · rw [List.getElem?_eq_none (by rw [List.length_range]; omega), List.getElem?_eq_none (by rw [List.length_reverse, Array.length_toList]; omega)]
      rfl
  rw [e]
section
variable {prog : Program} {w : World} {A : Around} {E : Value → Shared → Prop} {s : Shared}
theorem applied_rev {sl : Addr} {vl vu vs : Value} {n : Nat} {Q : Int × Int × Nat → Shared → Prop} (hs : s.heap.IsSliceOf sl vl vu vs) (pl : IsPart vl none) (pu : IsPart vu none) (ps : IsPart vs (some (-1)))
    (h : Q ((n : Int) - 1, -1, n) s) : wpAny (model prog w) A (Builtin.Slice.sliceApplied (.ref sl) (pure (n : Int))) Q E s := by
  obtain ⟨os, hos, hcs, hds⟩ := id hs
  unfold Builtin.Slice.sliceApplied Builtin.Slice.sliceFields
  refine wpAny_bind (wpAny_bind (wpAny_field hos hds (x := vl) rfl (wpAny_bind (wpAny_field hos hds (x := vu) rfl (wpAny_bind (wpAny_field hos hds (x := vs) rfl (wpAny_pure ?_)))))))
  refine wpAny_bind (HT.slicePart_ ps ?_)
  show wpAny _ _ (if ((-1 : Int) == 0) = true then _ else _) _ _ s
  rw [if_neg (by decide)]
  refine wpAny_bind (HT.slicePart_ pl (wpAny_bind (HT.slicePart_ pu (wpAny_bind (wpAny_pure ?_)))))
  show wpAny _ _ (match Builtin.Slice.sliceAdjust none none (-1) (n : Int) with | (lo, hi) => pure (lo, (-1 : Int), Builtin.Slice.slicePlaces lo hi (-1))) _ _ s
  rw [adjust_rev n]
  show wpAny _ _ (pure ((n : Int) - 1, (-1 : Int), Builtin.Slice.slicePlaces ((n : Int) - 1) (-1) (-1))) _ _ s
  rw [places_rev]
  exact wpAny_pure h
theorem getItem_tuple_rev {t sl : Addr} {items : Array Value} {vl vu vs : Value} {Q : Value → Shared → Prop} (ht : IsTup s.heap t items) (hs : s.heap.IsSliceOf sl vl vu vs) (pl : IsPart vl none) (pu : IsPart vu none) (ps : IsPart vs (some (-1)))
    (h : Q (.ref s.heap.objs.size) { s with heap := s.heap.push { cls := .type "tuple", data := .seq items.toList.reverse.toArray } })
    (hsz : items.size ≤ sizeLine) : wpAny (model prog w) A (getItem (.ref t) (.ref sl)) Q E s := by
  have htake : sizeOk (.seq items.toList.reverse.toArray) := by
    show items.toList.reverse.toArray.size ≤ sizeLine
    rw [List.size_toArray, List.length_reverse, Array.length_toList]
    exact hsz
  obtain ⟨os, hos, hcs, hds⟩ := id hs
  have hTs : s.TypeIs (.ref sl) "slice" := ⟨os, hos, hcs⟩
  unfold getItem
  try with_reducible refine wpAny_holding ?_
  first | refine wpAny_bind (wpAny_pure ?_) | skip
  refine wpAny_bind (wpAny_sequenceKey ht.typeIs (by decide) ?_)
  refine wpAny_bind (wpAny_callSpecial?_slot (name := Str.ofString "__getitem__") ht.typeIs PyProof.Rows.slot_tuple_getitem
    (wpAny_call_entry PyProof.Rows.slot_tuple_getitem ht.typeIs entry_tuple_getitem ?_ (args_tuple_getitem _ _)))
  show wpAny _ _ (Builtin.Tuple.tupleItemsOf (.ref t) >>= _) _ _ s
  refine wpAny_bind (tupleItemsOf_ ht ?_)
  refine wpAny_bind (wpAny_typeOf hTs ?_)
  rw [if_pos (by decide)]
  refine wpAny_bind (applied_rev hs pl pu ps ?_)
  have hno : ¬ ((((items.size : Int) - 1) == 0 && (-1 : Int) == 1 && items.size == items.size) = true) := by
    rw [show ((-1 : Int) == 1) = false from rfl, Bool.and_false, Bool.false_and]
    exact Bool.false_ne_true
  show wpAny _ _ (if (((items.size : Int) - 1) == 0 && (-1 : Int) == 1 && items.size == items.size) = true then _ else _) _ _ s
  rw [if_neg hno, pick_rev]
  first
    | exact wpAny_bind (m := Builtin.Tuple.tupleExact _) (wpAny_newObj_type (wpAny_pure ⟨_, rfl, wpAny_pure h⟩) htake)
    | exact wpAny_bind (m := Builtin.Tuple.tupleExact _) (wpAny_newObj_type (wpAny_bind (wpAny_pure (wpAny_pure ⟨_, rfl, wpAny_pure h⟩))) htake)
    | exact wpAny_bind (wpAny_bind (m := Builtin.Tuple.tupleExact _) (wpAny_newObj_type (wpAny_pure (wpAny_pure ⟨_, rfl, wpAny_pure h⟩)) htake))
    | exact wpAny_bind (wpAny_bind (m := Builtin.Tuple.tupleExact _) (wpAny_newObj_type (wpAny_pure ⟨_, rfl, wpAny_pure h⟩) htake))
end
section
variable {X : Cx}
/-- x[::-1] of a list or a tuple -/
def tRevA (K : PySem.W.Frag) (te : TE) : TE := fun σ H Q => te σ H fun x H1 => (∃ a xs, x = .ref a ∧ SqL K H1 a xs ∧ ∀ p, H1 p = none → Q (.ref p) (upd H1 p (.lst xs.reverse))) ∨ (∃ a xs, x = .ref a ∧ SqT K H1 a xs ∧ ∀ p, H1 p = none → Q (.ref p) (upd H1 p (.tup xs.reverse)))
theorem pe_revA {e : Expr} {te : TE} {k : Nat} {p1 p2 p3 pos : Pos} (he : PE X e te) : PE X (.Subscript e (.Slice none none (some (.UnaryOp .USub (.Constant (.int 1) k p1) p2)) p3) pos) (tRevA X.K te) := by
  refine ⟨fun pins s σ H Q I h => ?_⟩
  refine Subscript_ (thn (he.run pins s σ H _ I h) fun v s1 ⟨x, H1, I1, r1, q1⟩ => ?_)
  have hst : PO X (some (.UnaryOp .USub (.Constant (.int 1) k p1) p2)) (tPart (tUn (rU fun i => .int (-i)) (tC (.int 1)))) := po_some (pe_un un_neg pe_int)
  refine wpAny_Slice (thn (po_none.run pins s1 σ H1 (fun o H2 => o = none ∧ H2 = H1) I1 ⟨rfl, rfl⟩) fun vl s2 ⟨l, H2, I2, pl, el, e2⟩ => ?_)
  subst el e2
  refine thn (po_none.run pins s2 σ H2 (fun o H3 => o = none ∧ H3 = H2) I2 ⟨rfl, rfl⟩) fun vu s3 ⟨u, H3, I3, pu, eu, e3⟩ => ?_
  subst eu e3
  refine thn (hst.run pins s3 σ H3 (fun o H4 => o = some (-1) ∧ H4 = H3) I3 ⟨1, rfl, -1, rfl, rfl, rfl⟩) fun vs s4 ⟨o, H4, I4, ps, eo, e4⟩ => ?_
  subst eo e4
  have I5 : Inv X pins σ H4 { s4 with heap := s4.heap.push { cls := .type "slice", data := .fields #[vl, vu, vs] } } := I4.kept (t' := s4.toks) fun b ob q => Heap.get?_push_of_some _ q
  rcases q1 with ⟨a, xs, ex, hx, q⟩ | ⟨a, xs, ex, hx, q⟩
  · subst ex
    cases r1
    obtain ⟨its, r, ht, hz⟩ := I5.list hx
    have hlen := r.length
    show wpAny (model X.prog X.w) X.A (subscriptTail e (.Slice none none (some (.UnaryOp .USub (.Constant (.int 1) k p1) p2)) p3) (.ref a) (.ref s4.heap.objs.size)) (EP X pins σ Q) X.xe { s4 with heap := s4.heap.push { cls := .type "slice", data := .fields #[vl, vu, vs] } }
    refine tail_any (ops := [.ref a, .ref s4.heap.objs.size]) ht.isList.typeIs (PySem.slot_list_getitem.lookup) ?_ (by with_unfolding_all rfl)
    refine wpAny_getItem_list_slice ht.isList (Heap.IsSliceOf.new _ vl vu vs) pl pu ps (by decide) ?_ (by rw [List.size_toArray]; omega)
    rw [PySem.W.krv_pick]
    refine ⟨.ref _, _, I5.laid (t' := s4.toks) (o := .lst xs.reverse) (fun b ob q => Heap.get?_push_of_some _ q) (Nat.le_refl _) ?_, rfl, q _ (I5.hok.fresh (Nat.le_refl _))⟩
    exact ⟨by rw [List.length_reverse]; exact hz, _, 0, r.reverse, Heap.get?_push_size _ rfl⟩
  · subst ex
    cases r1
    obtain ⟨its, r, ht, hz⟩ := I5.tuple hx
    have hlen := r.length
    show wpAny (model X.prog X.w) X.A (subscriptTail e (.Slice none none (some (.UnaryOp .USub (.Constant (.int 1) k p1) p2)) p3) (.ref a) (.ref s4.heap.objs.size)) (EP X pins σ Q) X.xe { s4 with heap := s4.heap.push { cls := .type "slice", data := .fields #[vl, vu, vs] } }
    refine tail_any (ops := [.ref a, .ref s4.heap.objs.size]) ht.typeIs (PyProof.Rows.slot_tuple_getitem.lookup) ?_ (by with_unfolding_all rfl)
    refine getItem_tuple_rev ht (Heap.IsSliceOf.new _ vl vu vs) pl pu ps ?_ (by rw [List.size_toArray]; omega)
    refine ⟨.ref _, _, I5.laid (t' := s4.toks) (o := .tup xs.reverse) (fun b ob q => Heap.get?_push_of_some _ q) (Nat.le_refl _) ?_, rfl, q _ (I5.hok.fresh (Nat.le_refl _))⟩
    exact ⟨by rw [List.length_reverse]; exact hz, _, r.reverse, IsTup.new _ _⟩
end
end Wp

/-! WpO1: methods and new instances of own classes, where what is raised is wished for at the caller's slots. -/
namespace L2
open PySem PySem.Spec PyProof.Rows
/-- the tree of a method's call -/
theorem meth_tree {o : Expr} {m : Str} {apos pos : Pos} {args : List Expr} {env : Env} (hb : attributeBase o m env (eval o env) = eval o env)
    (hf : methodCallForm (args.length + ([] : List Keyword).length) (backTo pos (starEach args env)) (backToKw pos (keywordEach [] env)) = true) (hl : (apos.endLine == pos.line) = true) :
    eval (.Call (.Attribute o m apos) args [] pos) env = (do
      let ov ← eval o env
      standAt apos.atName
      let (f, first) ← holding [ov] (getMethod ov m (do return (← importBound o env).getD true))
      callWith pos f first (backTo pos (starEach args env)) (backToKw pos (keywordEach [] env))) := by
  have hpos : methodCallPos true o env apos pos = pure pos := by unfold methodCallPos; simp [hl]
  rw [arm_eval_Call, hb]
  refine congrArg _ (funext fun ov => ?_)
  refine congrArg _ (funext fun _ => ?_)
  unfold methodCall
  rw [hf, hpos]
  refine congrArg _ (funext fun p => ?_)
  obtain ⟨f, first⟩ := p
  show (pure pos >>= fun callPos => callWith callPos f first (backTo pos (starEach args env)) (backToKw pos (keywordEach [] env))) = _
  rw [pure_bind]
section
variable {X : Cx} {CX : CXT} {k : Nat} {f C : Addr} {fd : FuncData} {ps : List Str} {sp : Sp} {E : St → XK} {x m : Str} {p pos apos : Pos} {e o : Expr} {es : List Expr} {ta : TE} {t : TA}
/-- o.m(e, ..) -/
def tMethX (C : Addr) (m : Str) (sp : Sp) (E : St → XK) (ta : TE) (t : TA) : TE := fun σ H Q => ta σ H fun x H1 => ∃ a dx fs, x = .ref a ∧ H1 a = some (.ins C dx fs) ∧ fs.lookup m = none ∧ t σ H1 fun vs H2 => sp (x :: vs) H2 Q (E σ)
theorem pe_methX (he : PE X o ta) (c : Cls X.K C) (hm : Meth X.K C m f) (F : FnOk X.prog X.w X.K X.mg X.base CX k f fd ps sp) (hr : Room k X.A) (hb : Binds X.K fd ps []) (hx : ∀ σ, PassesAt CX X σ (E σ)) (ha : PA X (e :: es) t)
    (hbase : attributeBase o m X.env (eval o X.env) = eval o X.env) (hform : methodCallForm ((e :: es).length + ([] : List Keyword).length) (backTo pos (starEach (e :: es) X.env)) (backToKw pos (keywordEach [] X.env)) = true) (hline : (apos.endLine == pos.line) = true)
    (hst : starEach (e :: es) X.env = (false, eval e X.env) :: starEach es X.env) (hpl : (backTo pos (starEach es X.env)).any (·.1) = false) :
    PE X (.Call (.Attribute o m apos) (e :: es) [] pos) (tMethX C m sp E ta t) := by
  refine ⟨fun pins s σ H Q I h => ?_⟩
  refine PySem.W.methodCall_KW (pl := (do return (← importBound o X.env).getD true)) (thn (he.run pins s σ H _ I h) fun u s1 ⟨x, H1, I1, rx, a, dx, fs, ex, ea, l, q⟩ => ?_) (meth_tree hbase hform hline)
  subst ex
  obtain rfl : u = Value.ref a := rx
  refine getmeth_ok I1 ea c hm l ?_
  refine PySem.W.callWith_K (first := [.ref a]) (h₀ := X.base) I.ok.mod.kin hm.kp (thn (ha.run pos pins s1 σ H1 _ I1 q) fun us s2 ⟨vs, H2, I2, r, q2⟩ => ⟨I2.kIn, ?_⟩) hst hpl
  exact run_fnS (us := .ref a :: us) (vs := .ref a :: vs) F hr hb (hx σ) I2 (.cons rfl r) q2
theorem pe_methX0 (he : PE X o ta) (c : Cls X.K C) (hm : Meth X.K C m f) (F : FnOk X.prog X.w X.K X.mg X.base CX k f fd ps sp) (hr : Room k X.A) (hb : Binds X.K fd ps []) (hx : ∀ σ, PassesAt CX X σ (E σ))
    (hbase : attributeBase o m X.env (eval o X.env) = eval o X.env) (hline : (apos.endLine == pos.line) = true) :
    PE X (.Call (.Attribute o m apos) [] [] pos) (tMethX C m sp E ta tNil) := by
  refine ⟨fun pins s σ H Q I h => ?_⟩
  refine PySem.W.methodCall_KW (pl := (do return (← importBound o X.env).getD true)) (thn (he.run pins s σ H _ I h) fun u s1 ⟨x, H1, I1, rx, a, dx, fs, ex, ea, l, q⟩ => ?_) (meth_tree hbase rfl hline)
  subst ex
  obtain rfl : u = Value.ref a := rx
  refine getmeth_ok I1 ea c hm l ?_
  exact PySem.W.callWith_K0 (first := [.ref a]) I1.kIn hm.kp (run_fnS (us := [.ref a]) (vs := [.ref a]) F hr hb (hx σ) I1 (.cons rfl .nil) q)
/-- C(e, ..) -/
def tMakeX (C : Addr) (sp : Sp) (E : St → XK) (t : TA) : TE := fun σ H Q => t σ H fun vs H1 => ∀ x dx, H1 x = none → H1 dx = none → dx ≠ x → sp (.ref x :: vs) (upd (upd H1 dx (.own x)) x (.ins C dx [])) (fun v H2 => v = .non ∧ Q (.ref x) H2) (E σ)
theorem run_makeX {pins : List (Addr × Obj)} {σ : St} {H : Hp} {s : Shared} {Q : VK} {us : List Value} {vs : List V} (M : Mk X.K C f) (F : FnOk X.prog X.w X.K X.mg X.base CX k f fd ps sp) (hr : Room (k + 1) X.A) (hb : Binds X.K fd ps [])
    (hx : PassesAt CX X σ (E σ)) (I : Inv X pins σ H s) (r : Vals vs us)
    (h : ∀ x dx, H x = none → H dx = none → dx ≠ x → sp (.ref x :: vs) (upd (upd H dx (.own x)) x (.ins C dx [])) (fun v H2 => v = .non ∧ Q (.ref x) H2) (E σ)) :
    wpAny (model X.prog X.w) X.A (call (.ref C) us) (EP X pins σ Q) X.xe s := by
  have hq := h (s.heap.objs.size + 1) s.heap.objs.size (I.hok.fresh (Nat.le_succ _)) (I.hok.fresh (Nat.le_refl _)) (Nat.ne_of_lt (Nat.lt_succ_self _))
  have I2 := Inv.made (C := C) I
  have r2 : Vals (V.ref (s.heap.objs.size + 1) :: vs) (Value.ref (s.heap.objs.size + 1) :: us) := .cons rfl r
  have hl : (Value.ref (s.heap.objs.size + 1) :: us).length = ps.length := by
    have e := r2.length
    rw [F.len _ _ _ _ hq] at e
    exact e.symm
  have b := hb _ (Value.ref (s.heap.objs.size + 1) :: us) I2.kIn (by rw [List.append_nil]; exact hl)
  rw [List.append_nil] at b
  refine wpAny_call (make_map (f := f) I.kIn M.makes M.init (beq_iff_eq.mp M.fn) (codeAny_mono (F.run _ X.stack _ _ ⟨Value.ref (s.heap.objs.size + 1) :: us, []⟩ (Value.ref (s.heap.objs.size + 1) :: us) _ _ (E σ) (hr.make C us [])
    (I2.env0.make C us []) b r2 hq) fun r s' hq' => ?_))
  cases r with
  | error e => exact hx pins _ _ e s' I2 hq'
  | ok fl =>
    cases fl with
    | ret u =>
      obtain ⟨v, H', I3, rv, ev, q3⟩ := I2.after hq'
      subst ev
      exact ⟨rv, ⟨V.ref (s.heap.objs.size + 1), H', I3, rfl, q3⟩⟩
    | next => exact False.elim hq'
    | brk => exact False.elim hq'
    | cont => exact False.elim hq'
theorem pe_makeX (M : Mk X.K C f) (F : FnOk X.prog X.w X.K X.mg X.base CX k f fd ps sp) (hr : Room (k + 1) X.A) (hg : Gl X x) (hm : X.mg x = some (.ref C)) (hb : Binds X.K fd ps []) (hx : ∀ σ, PassesAt CX X σ (E σ))
    (ha : PA X (e :: es) t) (hdb : (x == ("__debug__" : Str)) = false) (he : starEach (e :: es) X.env = (false, eval e X.env) :: starEach es X.env) (hpl : (backTo pos (starEach es X.env)).any (·.1) = false) :
    PE X (.Call (.Name x p) (e :: es) [] pos) (tMakeX C sp E t) := by
  refine ⟨fun pins s σ H Q I h => ?_⟩
  refine wpAny_Call_Name_kw (ld_glob I hg hm ?_ hdb)
  refine PySem.W.callWith_K (h₀ := X.base) I.ok.mod.kin M.kp (thn (ha.run pos pins s σ H _ I h) fun us s1 ⟨vs, H1, I1, r, q⟩ => ⟨I1.kIn, ?_⟩) he hpl
  exact run_makeX M F hr hb (hx σ) I1 r q
theorem pe_makeX0 (M : Mk X.K C f) (F : FnOk X.prog X.w X.K X.mg X.base CX k f fd ps sp) (hr : Room (k + 1) X.A) (hg : Gl X x) (hm : X.mg x = some (.ref C)) (hb : Binds X.K fd ps []) (hx : ∀ σ, PassesAt CX X σ (E σ))
    (hdb : (x == ("__debug__" : Str)) = false) : PE X (.Call (.Name x p) [] [] pos) (tMakeX C sp E tNil) := by
  refine ⟨fun pins s σ H Q I h => ?_⟩
  refine wpAny_Call_Name_kw (ld_glob I hg hm ?_ hdb)
  exact PySem.W.callWith_K0 I.kIn M.kp (run_makeX (us := []) M F hr hb (hx σ) I .nil h)
end
end L2

/-! WpS9: that the tree is enough for the text: expressions, all of them. -/
namespace Wp
open PySem PySem.Spec PyProof.Rows L2

/-- a op1 b op2 c op3 d -/
def tChain3 (r r' r'' : R2) (ta tb tc td : TE) : TE := fun σ H Q => ta σ H fun x H1 => tb σ H1 fun y H2 => r x y H2 fun z H3 => ∃ k, z = .bl k ∧
  (if k = true then tc σ H3 fun w' H4 => r' y w' H4 fun z2 H5 => ∃ k2, z2 = .bl k2 ∧ (if k2 = true then td σ H5 fun u H6 => r'' w' u H6 Q else Q (.bl false) H5) else Q (.bl false) H3)
theorem pe_chain3 {X : Cx} {op op' op'' : CmpOp} {r r' r'' : R2} {a b c d : Expr} {ta tb tc td : TE} {pos : Pos} (ho : OpR X (compareOp op) r) (ho' : OpR X (compareOp op') r') (ho'' : OpR X (compareOp op'') r'') (ha : PE X a ta) (hb : PE X b tb) (hc : PE X c tc) (hd : PE X d td)
    (hm : lastMarks [op, op', op''] [b, c, d] = false) : PE X (.Compare a [op, op', op''] [b, c, d] pos) (tChain3 r r' r'' ta tb tc td) := by
  refine ⟨fun pins s σ H Q I h => ?_⟩
  refine Compare_chain (thn (ha.run pins s σ H _ I h) fun v s1 ⟨x, H1, I1, r1, q1⟩ => chain_link (thn (hb.run pins s1 σ H1 _ I1 q1) fun u s2 ⟨y, H2, I2, r2, q2⟩ =>
    thn (ho pins s2 σ H2 x y v u _ I2 r1 r2 q2) fun d s3 ⟨z, H3, I3, r3, k, e, q3⟩ => ?_)) hm
  subst e
  cases r3
  refine wpAny_truthy_bool ?_
  cases k with
  | false => exact ite_ff ⟨.bl false, H3, I3, rfl, q3⟩
  | true =>
    refine ite_tt (chain_link (thn (hc.run pins s3 σ H3 _ I3 q3) fun w' s4 ⟨z', H4, I4, r4, q4⟩ => thn (ho' pins s4 σ H4 y z' u w' _ I4 r2 r4 q4) fun d2 s5 ⟨z2, H5, I5, r5, k2, e2, q5⟩ => ?_))
    subst e2
    cases r5
    refine wpAny_truthy_bool ?_
    cases k2 with
    | false => exact ite_ff ⟨.bl false, H5, I5, rfl, q5⟩
    | true => exact ite_tt (chain_last (thn (hd.run pins s5 σ H5 _ I5 q5) fun w2 s6 ⟨z3, H6, I6, r6, q6⟩ => ho'' pins s6 σ H6 z' z3 w' w2 Q I6 r4 r6 q6))

theorem pt_chain3 {X : Cx} {op op' op'' : CmpOp} {r r' r'' : R2} {a b c d : Expr} {ta tb tc td : TE} {pos : Pos} (ho : OpR X (compareOp op) r) (ho' : OpR X (compareOp op') r') (ho'' : OpR X (compareOp op'') r'') (ha : PE X a ta) (hb : PE X b tb) (hc : PE X c tc) (hd : PE X d td)
    (hm : lastMarks [op, op', op''] [b, c, d] = false) : PT X (.Compare a [op, op', op''] [b, c, d] pos) (tTest (tChain3 r r' r'' ta tb tc td)) := by
  refine ⟨fun pins s σ H Q I h => ?_⟩
  refine isTrue_chain (thn (ha.run pins s σ H _ I h) fun v s1 ⟨x, H1, I1, r1, q1⟩ => test_link (thn (hb.run pins s1 σ H1 _ I1 q1) fun u s2 ⟨y, H2, I2, r2, q2⟩ =>
    thn (ho pins s2 σ H2 x y v u _ I2 r1 r2 q2) fun d s3 ⟨z, H3, I3, r3, k, e, q3⟩ => ?_)) hm
  subst e
  cases r3
  refine wpAny_truthy_bool ?_
  cases k with
  | false =>
    obtain ⟨k', e', q'⟩ := q3
    cases e'
    exact ite_ff ⟨H3, I3, q'⟩
  | true =>
    refine ite_tt (test_link (thn (hc.run pins s3 σ H3 _ I3 q3) fun w' s4 ⟨z', H4, I4, r4, q4⟩ => thn (ho' pins s4 σ H4 y z' u w' _ I4 r2 r4 q4) fun d2 s5 ⟨z2, H5, I5, r5, k2, e2, q5⟩ => ?_))
    subst e2
    cases r5
    refine wpAny_truthy_bool ?_
    cases k2 with
    | false =>
      obtain ⟨k', e', q'⟩ := q5
      cases e'
      exact ite_ff ⟨H5, I5, q'⟩
    | true =>
      refine ite_tt (test_last (thn (hd.run pins s5 σ H5 _ I5 q5) fun w2 s6 ⟨z3, H6, I6, r6, q6⟩ => thn (ho'' pins s6 σ H6 z' z3 w' w2 _ I6 r4 r6 q6) fun d3 s7 ⟨z4, H7, I7, r7, k3, e3, q7⟩ => ?_))
      subst e3
      cases r7
      exact wpAny_truthy_bool ⟨H7, I7, q7⟩
/-- a if c else b, as a test -/
theorem pt_ife {X : Cx} {a b c : Expr} {tc ta tb : TT} {pos : Pos} (hc : PT X c tc) (ha : PT X a ta) (hb : PT X b tb) : PT X (.IfExp c a b pos) (fun σ H Q => tc σ H fun k H1 => if k = true then ta σ H1 Q else tb σ H1 Q) := by
  refine ⟨fun pins s σ H Q I h => ?_⟩
  show wpAny _ _ (do if ← isTrue c X.env (eval c X.env) then isTrue a X.env (eval a X.env) else isTrue b X.env (eval b X.env)) _ _ s
  refine wpAny_bind (thn (hc.run pins s σ H _ I h) fun k s1 ⟨H1, I1, q1⟩ => ?_)
  cases k with
  | true =>
    rw [if_pos rfl] at q1
    rw [if_pos rfl]
    exact ha.run pins s1 σ H1 Q I1 q1
  | false =>
    rw [if_neg Bool.false_ne_true] at q1
    rw [if_neg Bool.false_ne_true]
    exact hb.run pins s1 σ H1 Q I1 q1

def special : Ex → Bool
  | .not _ => true
  | .and _ _ => true
  | .or _ _ => true
  | .ife _ _ _ => true
  | .cmp _ _ _ => true
  | .ch2 _ _ _ _ _ => true
  | .ch3 _ _ _ _ _ _ _ => true
  | _ => false
theorem plain_of {tb : Tb} {N : List Str} {ex : Ex} {sc : Scope} {e : Expr} (h : chkE tb N ex sc e = true) (hx : special ex = false) : plainT e = true := by
  cases ex <;> first
    | (cases hx; done)
    | (cases e <;> first
      | rfl
      | (cases h; done)
      | (rename_i op _ _; cases op <;> first | rfl | (cases h; done)))
/-- the pieces of a written call -/
theorem chkA_cons {tb : Tb} {N : List Str} {ex : Ex} {sc : Scope} {e : Expr} {es : List Expr} (h : chkA tb N ex sc (e :: es) = true) : ∃ x xs, ex = .cons x xs ∧ chkE tb N x sc e = true ∧ noStar e = true ∧ chkA tb N xs sc es = true := by
  cases ex <;> first
    | (cases h; done)
    | skip
  rename_i x xs
  have h : (chkE tb N x sc e && noStar e && chkA tb N xs sc es) = true := h
  rw [Bool.and_eq_true, Bool.and_eq_true] at h
  exact ⟨x, xs, rfl, h.1.1, h.1.2, h.2⟩
theorem chkA_nil {tb : Tb} {N : List Str} {ex : Ex} {sc : Scope} (h : chkA tb N ex sc [] = true) : ex = .nil := by
  cases ex <;> first
    | rfl
    | (cases h; done)
theorem tr_any {tb : Tb} {N : List Str} {env : PySem.Env} {pos : Pos} {sc : Scope} : ∀ {es : List Expr} {ex : Ex}, chkA tb N ex sc es = true → (backTo pos (starEach es env)).any (·.1) = false
  | [], _, _ => rfl
  | a :: b, _, h => by
    obtain ⟨x, xs, rfl, h1, h2, h3⟩ := chkA_cons h
    rw [star_ok h2]
    have ih := tr_any (env := env) (pos := pos) h3
    show (false || (backTo pos (starEach b env)).any (·.1)) = false
    rw [ih]; rfl
theorem tr_all {tb : Tb} {N : List Str} {env : PySem.Env} {pos : Pos} {sc : Scope} : ∀ {es : List Expr} {ex : Ex}, chkA tb N ex sc es = true → (backTo pos (starEach es env)).all (fun x => !x.1) = true
  | [], _, _ => rfl
  | a :: b, _, h => by
    obtain ⟨x, xs, rfl, h1, h2, h3⟩ := chkA_cons h
    rw [star_ok h2]
    have ih := tr_all (env := env) (pos := pos) h3
    show (true && (backTo pos (starEach b env)).all (fun x => !x.1)) = true
    rw [ih]; rfl
theorem tr_head {tb : Tb} {N : List Str} {ex : Ex} {sc : Scope} {e : Expr} {es : List Expr} {env : PySem.Env} {pos : Pos} (h : chkA tb N ex sc (e :: es) = true) :
    starEach (e :: es) env = (false, eval e env) :: starEach es env ∧ (backTo pos (starEach es env)).any (·.1) = false := by
  obtain ⟨x, xs, rfl, h1, h2, h3⟩ := chkA_cons h
  exact ⟨star_ok h2, tr_any h3⟩
theorem env_relS {X : Cx} {s : Shared} {H : Hp} {scope : Scope} {C : Addr} {cl : List (Str × Addr)} {fp : List Addr} {sc : Scope} (hs : X.env.scope = sc) : (X.blk s H scope (compEnvC scope cl C X.env) fp).env.scope = relS scope sc := by
  rw [← hs]; rfl
section
variable {tb : Tb} {R : Nat → List D → Mem → QK → XQ → Prop} {k : Nat} {N : List Str}
theorem bn_mem {tb : Tb} {sc : Scope} {x : Str} (h : bnB tb sc x = true) : x ∈ tb.bn := by
  unfold bnB at h
  rw [Bool.and_eq_true] at h
  obtain ⟨y, hy, e⟩ := List.any_eq_true.mp h.2
  rw [← of_decide_eq_true e]
  exact hy
theorem chkC_ok {G : Gx} {W : WX} {X : Cx} {sc : Scope} (g : Good G tb R k W X) (hs : X.env.scope = sc) : ∀ (cs : List Nat) {es : List Expr}, chkC tb sc cs es = true → ∃ (vs : List V) (us : List Value), PA X es (fun _ H Q => Q vs H) ∧ Paired ClsV vs us ∧ vs.length = cs.length ∧ ∀ c C, G.cl c = some C → PySem.W.kitAny X.K (.ref C) us = some (cs.any fun d => subX c d)
  | [], [], h => ⟨[], [], pa_nil, .nil, rfl, fun c C e => rfl⟩
  | [], _ :: _, h => by cases h
  | c :: cs, [], h => by cases h
  | c :: cs, e :: es, h => by
    unfold chkC at h
    split at h
    · rename_i hq; cases hq
    · rename_i c' cs' y p es' hq1 hq2
      injection hq1 with q1 q2
      injection hq2 with q3 q4
      subst q1 q2 q3 q4
      simp only [Bool.and_eq_true] at h
      obtain ⟨⟨k1, k2⟩, k3⟩ := h
      obtain ⟨q, hq, e2⟩ := List.any_eq_true.mp k1
      have e2 := of_decide_eq_true e2
      subst e2
      obtain ⟨D, m1, m2⟩ := g.xt.nm _ hq
      obtain ⟨j1, j2⟩ := gl_of hs k2
      obtain ⟨vs, us, pa, pu, pl, pk⟩ := chkC_ok g hs cs k3
      refine ⟨.ref D :: vs, .ref D :: us, PA.imp (pa_cons (pe_glob (v := .ref D) j1 m1 rfl j2) pa rfl) fun σ H Q h => h, .cons (.own D) pu, by rw [List.length_cons, List.length_cons, pl], fun d C e => ?_⟩
      refine kitAny_cons (g.xt.sub d C c D e m2).1 (fun hb => ?_) fun hb => ?_
      · rw [pk d C e, List.any_cons, hb, Bool.false_or]
      · rw [List.any_cons, hb, Bool.true_or]
    · cases h
theorem ty4 (t : Ty) : tyNm4 t = tyNm t := by cases t <;> rfl
theorem chkTy_ok {G : Gx} {W : WX} {X : Cx} {sc : Scope} (g : Good G tb R k W X) (hs : X.env.scope = sc) : ∀ (ts : List Ty) {es : List Expr}, chkTy tb sc ts es = true → PA X es (fun _ H Q => Q (ts.map fun t => V.ty (tyN t)) H) ∧ Paired ClsV (ts.map fun t => V.ty (tyN t)) (ts.map fun t => Value.type (tyN t))
  | [], [], h => ⟨pa_nil, .nil⟩
  | [], _ :: _, h => by cases h
  | t :: ts, [], h => by cases h
  | t :: ts, e :: es, h => by
    unfold chkTy at h
    split at h
    · rename_i hq; cases hq
    · rename_i t' ts' y p es' hq1 hq2
      injection hq1 with q1 q2
      injection hq2 with q3 q4
      subst q1 q2 q3 q4
      simp only [Bool.and_eq_true] at h
      obtain ⟨⟨k1, k2⟩, k3⟩ := h
      have e2 := of_decide_eq_true k1
      rw [ty4] at e2
      subst e2
      obtain ⟨j1, j2, j3⟩ := bn_of g hs k2
      obtain ⟨pa, pu⟩ := chkTy_ok g hs ts k3
      have pt : PE X (.Name (tyNm t) p) (tC (.ty (tyN t))) := pe_bltn j1 j3 (ty_boot t) rfl (ty_no t).1 j2
      exact ⟨PA.imp (pa_cons pt pa rfl) fun σ H Q h => h, .cons (.ty _) pu⟩
    · cases h
/-- a def as a value -/
def FnV (G : Gx) (tb : Tb) (R : Nat → List D → Mem → QK → XQ → Prop) (k : Nat) (X : Cx) (v : V) (f : Nat) : Prop :=
  ∃ x ad fd ps, tb.nm f = some x ∧ v = .ref ad ∧ PySem.W.keepIn X.K (.ref ad) = true ∧ Binds X.K fd ps [] ∧ FnOk X.prog X.w X.K X.mg X.base (L2.CX X.prog X.w) k ad fd ps (liftSp G (tb.ar f) (R f))
theorem chkFn_ok {G : Gx} {W : WX} {X : Cx} {sc : Scope} (g : Good G tb R k W X) (hs : X.env.scope = sc) : ∀ (fs : List Nat) {es : List Expr}, chkFn tb sc fs es = true → ∃ vs : List V, PA X es (fun _ H Q => Q vs H) ∧ vs.length = fs.length ∧ ∀ (j f : Nat), fs[j]? = some f → ∃ v, vs[j]? = some v ∧ FnV G tb R k X v f
  | [], [], h => ⟨[], pa_nil, rfl, fun j f e => by simp at e⟩
  | [], _ :: _, h => by cases h
  | t :: ts, [], h => by cases h
  | t :: ts, e :: es, h => by
    unfold chkFn at h
    split at h
    · rename_i hq; cases hq
    · rename_i t' ts' y p es' hq1 hq2
      injection hq1 with q1 q2
      injection hq2 with q3 q4
      subst q1 q2 q3 q4
      simp only [Bool.and_eq_true] at h
      obtain ⟨⟨k1, k2⟩, k3⟩ := h
      have e2 := of_decide_eq_true k1
      obtain ⟨j1, j2⟩ := gl_of hs k2
      obtain ⟨vs, pa, hl, hv⟩ := chkFn_ok g hs ts k3
      obtain ⟨ad, fd, ps, m1, m2, m3, m4, m5⟩ := g.fns t y e2
      have pt : PE X (.Name y p) (tC (.ref ad)) := pe_glob j1 m1 rfl j2
      refine ⟨.ref ad :: vs, PA.imp (pa_cons pt pa rfl) fun σ H Q h => h, congrArg Nat.succ hl, fun j f e => ?_⟩
      cases j with
      | zero =>
        simp at e; subst e
        exact ⟨_, rfl, y, ad, fd, ps, e2, rfl, m2, m3, m5⟩
      | succ j =>
        obtain ⟨v, e3, e4⟩ := hv j f (by simpa using e)
        exact ⟨v, by simpa using e3, e4⟩
    · cases h
theorem atI_map {α β : Type} {xs : List α} {ys : List β} {P : β → α → Prop} (hl : ys.length = xs.length) (h : ∀ (j : Nat) (x : α), xs[j]? = some x → ∃ y, ys[j]? = some y ∧ P y x) {i : Int} {x : α} (e : atI xs i = some x) : ∃ y, atI ys i = some y ∧ P y x := by
  unfold atI at *
  rw [hl]
  cases q : ixN xs.length i with
  | none => rw [q] at e; cases e
  | some j =>
    rw [q] at e
    exact h j x e
/-- f(e, ..), f an expression that gives a def -/
theorem pe_callF {X : Cx} {CX : CXT} {k : Nat} {E : L2.St → XK} {e fe : Expr} {es : List Expr} {tf : TE} {t : TA} {pos : Pos} (hf : PE X fe tf) (hr : Room k X.A) (hx : ∀ σ, L2.PassesAt CX X σ (E σ)) (ha : PA X (e :: es) t)
    (ht : eval (.Call fe (e :: es) [] pos) X.env = (do callWith pos (← eval fe X.env) [] (backTo pos (starEach (e :: es) X.env)) (backToKw pos (keywordEach [] X.env))))
    (he : starEach (e :: es) X.env = (false, eval e X.env) :: starEach es X.env) (hpl : (backTo pos (starEach es X.env)).any (·.1) = false) :
    PE X (.Call fe (e :: es) [] pos) (fun σ H Q => tf σ H fun y H1 => ∃ f fd ps sp, y = V.ref f ∧ PySem.W.keepIn X.K (.ref f) = true ∧ Binds X.K fd ps [] ∧ FnOk X.prog X.w X.K X.mg X.base CX k f fd ps sp ∧ t σ H1 fun vs H2 => sp vs H2 Q (E σ)) := by
  refine ⟨fun pins s σ H Q I h => ?_⟩
  refine Call_ (thn (hf.run pins s σ H _ I h) fun u s1 ⟨y, H1, I1, ry, f, fd, ps, sp, ey, hk, hb, F, q⟩ => ?_) ht
  subst ey
  obtain rfl : u = Value.ref f := ry
  refine PySem.W.callWith_K (h₀ := X.base) I1.ok.mod.kin hk (thn (ha.run pos pins s1 σ H1 _ I1 q) fun us s2 ⟨vs, H2, I2, r, q2⟩ => ⟨I2.kIn, ?_⟩) he hpl
  exact L2.run_fnS F hr hb (hx σ) I2 r q2
/-- a list or a tuple, walked -/
theorem pi_both {X : Cx} {tg l : Expr} {tl : TE} (hl : PE X l tl) : PI X tg l (fun σ H R => tl σ H fun x H1 => ∃ a, x = .ref a ∧ ((∃ xs, SqL X.K H1 a xs) ∧ R (Itl X.K a) H1 ∨ (∃ xs, SqT X.K H1 a xs) ∧ R (Itt X.K a) H1)) := by
  refine ⟨fun pins s σ H R I h => ?_⟩
  refine thn (hl.run pins s σ H _ I h) fun v s1 ⟨x, H1, I1, r1, q1⟩ => ?_
  obtain ⟨a, e, q⟩ := q1
  subst e
  cases r1
  rcases q with ⟨⟨xs, hq⟩, q⟩ | ⟨⟨xs, hq⟩, q⟩
  · obtain ⟨its, rv, p, hz⟩ := I1.list hq
    refine wpAny_pyIter_list p.isList ?_
    refine ⟨s1.heap.objs.size, [s1.heap.objs.size], _, _, H1, rfl, I1.kept (t' := s1.toks) fun b o e => Heap.get?_push_of_some _ e, turn_list a _, ⟨_, Heap.get?_push_size _ rfl, rfl, rfl⟩, fun b hb => ?_, q⟩
    have e : b = s1.heap.objs.size := by simpa using hb
    subst e
    exact I1.fpOk (Nat.le_refl _) (I1.hok.fresh (Nat.le_refl _))
  · obtain ⟨its, rv, p, hz⟩ := I1.tuple hq
    refine wpAny_pyIter_tuple (show s1.heap.IsTuple a its.toArray from p) ?_
    refine ⟨s1.heap.objs.size, [s1.heap.objs.size], _, _, H1, rfl, I1.kept (t' := s1.toks) fun b o e => Heap.get?_push_of_some _ e, turn_tuple a _, ⟨_, Heap.get?_push_size _ rfl, rfl, rfl⟩, fun b hb => ?_, q⟩
    have e : b = s1.heap.objs.size := by simpa using hb
    subst e
    exact I1.fpOk (Nat.le_refl _) (I1.hok.fresh (Nat.le_refl _))
/-- a call of a built-in -/
theorem pe_bi {G : Gx} {W : WX} {X : Cx} {sc : Scope} {b : Bi} {fr : Bool} {x : Str} {e : Expr} {es : List Expr} {p pos : Pos} {t : TA} (g : Good G tb R k W X) (hs : X.env.scope = sc) (hx : biNm b = x) (hb : bnB tb sc x = true) (ha : PA X (e :: es) t)
    (he : starEach (e :: es) X.env = (false, eval e X.env) :: starEach es X.env) (hpl : (backTo pos (starEach es X.env)).any (·.1) = false) : PE X (.Call (.Name x p) (e :: es) [] pos) (tCB (liftN G (biW b fr)) t) := by
  subst hx
  obtain ⟨h1, h2, h3⟩ := bn_of g hs hb
  have hbt := bi_boot b
  have hno := bi_no b
  have hr := callr_bi (G := G) g.hK (g.calm (g.hb b (bn_mem hb))) b (fr := fr)
  cases b <;> first
    | exact pe_callB hr h1 h3 hbt ha hno.1 h2 he hpl
    | exact pe_callTy hr h1 h3 hbt ha hno.1 h2 he hpl

theorem PO.imp {X : Cx} {e : Option Expr} {t t' : TO} (h : PO X e t) (hi : ∀ σ H Q, t' σ H Q → t σ H Q) : PO X e t' := ⟨fun pins s σ H Q I q => h.run pins s σ H Q I (hi _ _ _ q)⟩
/-! ### methods of built-in kinds -/
def bmId : Bm → String
  | .append => "list.append" | .extend => "list.extend" | .index => "list.index" | .join => "str.join" | .pop => "list.pop" | .reverse_ => "list.reverse" | .clear => "list.clear" | .insert => "list.insert" | .find => "str.find" | .upper => "str.upper" | .split => "str.split" | .partition => "str.partition"
theorem MtR.or2 {X : Cx} {id : String} {r : V → List V → Hp → VK → Prop} (h : ∀ x xs H Q, r x xs H Q → ∃ r', MtR X id r' ∧ r' x xs H Q) : MtR X id r := by
  intro pins s σ H x xs v us Q I rx rs q
  obtain ⟨r', h1, h2⟩ := h x xs H Q q
  exact h1 pins s σ H x xs v us Q I rx rs h2
theorem ix_of_nat {n : Nat} {i : Int} (h0 : 0 ≤ i) (h : i.toNat < n) : seqIndex? i n = some i.toNat := by
  obtain ⟨j, rfl⟩ : ∃ j : Nat, i = j := ⟨i.toNat, by omega⟩
  unfold seqIndex?
  have h : j < n := by simpa using h
  have h1 : ¬ (j : Int) < 0 := by omega
  simp [h]
  rw [if_neg h1]
  exact ⟨⟨by omega, by omega⟩, by simp⟩
theorem RelDs.strL {G : Gx} {F : Hp} : ∀ zs : List Str, RelDs G F (zs.map V.str) (zs.map D.str)
  | [] => .nil
  | z :: zs => .cons (.str z) (RelDs.strL zs)
theorem mtr_bm {G : Gx} {X : Cx} (hK : X.K = G.K) (hu : X.A.units + 65 < cLine) (b : Bm) {fr : Bool} : MtR X (bmId b) (liftM G (bmW b fr)) := by
  refine MtR.or2 fun x xs H Q ⟨F, M, d, ds, q, rm, r1, rs, cn, h⟩ => ?_
  unfold bmW at h
  split at h
  · split at h
    · obtain ⟨v, rfl, r⟩ := relds1 rs
      cases r1
      obtain ⟨vs, g1, g2⟩ := rd_loc rm (by assumption)
      exact ⟨_, mt_append, _, vs, v, rfl, rfl, g1, by rw [g2.len]; exact h.1, put_ok rm (by assumption) (g2.app (.cons r .nil)) .non cn h.2⟩
    · exact h.elim
  · split at h
    · obtain ⟨v, rfl, r⟩ := relds1 rs
      cases r1
      obtain ⟨vs, g1, g2⟩ := rd_loc rm (by assumption)
      obtain ⟨p, ws, rfl, g3, g4⟩ := rd_LT rm r (by assumption)
      exact ⟨_, mt_extend, _, p, vs, ws, rfl, rfl, g1, g3, by rw [g2.len, g4.len]; exact h.1, put_ok rm (by assumption) (g2.app g4) .non cn h.2⟩
    · exact h.elim
  · split at h
    · cases rs
      cases r1
      obtain ⟨vs, g1, g2⟩ := rd_loc rm (by assumption)
      exact ⟨_, mt_reverse, _, vs, rfl, rfl, g1, put_ok rm (by assumption) g2.rev .non cn h⟩
    · exact h.elim
  · split at h
    · cases rs
      cases r1
      obtain ⟨vs, g1, g2⟩ := rd_loc rm (by assumption)
      exact ⟨_, mt_clear, _, vs, rfl, rfl, g1, put_ok rm (by assumption) .nil .non cn h⟩
    · exact h.elim
  · split at h
    · obtain ⟨v, w, rfl, r, r2⟩ := relds2 rs
      cases r1
      cases r
      obtain ⟨vs, g1, g2⟩ := rd_loc rm (by assumption)
      obtain ⟨h1, h2, h3, h4⟩ := h
      exact ⟨_, mt_insert, _, vs, _, w, rfl, rfl, g1, by rw [g2.len]; exact h1, h2, h3, put_ok rm (by assumption) (((g2.take _).app (.cons r2 .nil)).app (g2.drop _)) .non cn h4⟩
    · exact h.elim
  · split at h
    · obtain ⟨h1, h2, h3⟩ := h
      split at h3
      · rename_i y hy
        obtain ⟨v, rfl, r⟩ := relds1 rs
        cases r1
        cases r
        obtain ⟨vs, g1, g2⟩ := rd_loc rm (by assumption)
        obtain ⟨w, w1, w2⟩ := g2.get hy
        have hlt := (List.getElem?_eq_some_iff.mp w1).1
        refine ⟨_, mt_popAt, _, vs, _, _, w, rfl, rfl, g1, by omega, h2, ix_of_nat h1 hlt, w1, put_ok rm (by assumption) ?_ w2 cn h3⟩
        rw [List.eraseIdx_eq_take_drop_succ, List.eraseIdx_eq_take_drop_succ]
        exact (g2.take _).app (g2.drop _)
      · exact h3.elim
    · exact h.elim
  · split at h
    · split at h
      · rename_i y hy
        cases rs
        cases r1
        obtain ⟨vs, g1, g2⟩ := rd_loc rm (by assumption)
        obtain ⟨w, w1, w2⟩ := g2.get hy
        refine ⟨_, mt_pop, _, vs, w, rfl, rfl, g1, by rw [g2.len]; exact w1, put_ok rm (by assumption) ?_ w2 cn h⟩
        rw [List.dropLast_eq_take, List.dropLast_eq_take, g2.len]
        exact g2.take _
      · exact h.elim
    · exact h.elim
  · split at h
    · split at h
      · obtain ⟨v, rfl, r⟩ := relds1 rs
        cases r1
        obtain ⟨p, vs, rfl, g1, g2⟩ := rd_S rm r (by assumption)
        rw [strs_rel g2 (by assumption)] at g1
        exact ⟨_, mt_join, _, p, _, rfl, rfl, by rw [hK]; exact g1, h.1, cn_here rm cn (.str _) h.2⟩
      · exact h.elim
    · exact h.elim
  · split at h
    · split at h
      · obtain ⟨h1, h2, h3⟩ := h
        split at h3
        · rename_i j hj
          obtain ⟨v, rfl, r⟩ := relds1 rs
          obtain ⟨p, vs, rfl, g1, g2⟩ := rd_L rm r1 (by assumption)
          obtain ⟨i, z, e1, e2, e3, e4⟩ := first_ok hj
          rw [Nat.zero_add] at e1
          subst e1
          have z1 := dp_M rm r (by assumption)
          have z2 := dp_all rm g2 (by assumption)
          rw [← hK] at z1 z2 g1
          exact ⟨_, mt_indexD hu, p, v, _, _, j, z, rfl, rfl, .lst g1 z2, z1, h1, h2, e2, e3, e4, cn_here rm cn (.int _) h3⟩
        · exact h3.elim
      · exact h.elim
    · exact h.elim
  · obtain ⟨v, rfl, r⟩ := relds1 rs
    cases r1
    cases r
    exact ⟨_, mt_find, _, _, rfl, rfl, cn_here rm cn (.int _) h⟩
  · cases rs
    cases r1
    exact ⟨_, mt_upper, _, rfl, rfl, h.1, cn_here rm cn (.str _) h.2⟩
  · obtain ⟨v, rfl, r⟩ := relds1 rs
    cases r1
    cases r
    refine ⟨_, mt_split, _, _, rfl, rfl, h.1, h.2.1, fun p hp => ?_⟩
    exact (newL_ok rm (RelDs.strL _) cn h.2.2).2 p hp
  · obtain ⟨v, rfl, r⟩ := relds1 rs
    cases r1
    cases r
    exact ⟨_, mt_partition, _, _, rfl, rfl, h.1, h.2.1, fun p hp => newT_ok rm (.cons (.str _) (.cons (.str _) (.cons (.str _) .nil))) cn h.2.2 hp⟩
  · exact h.elim
theorem pe_bmm {G : Gx} {W : WX} {X : Cx} {sc : Scope} {fr : Bool} {o : Expr} {es : List Expr} {ex : Ex} {ap cp : Pos} {wo : Env → Mem → QK → XQ → Prop} (g : Good G tb R k W X) (b : Bm) (ho : PE X o (liftE G W wo)) (hp : plainO o = true) (ha : PA X es (liftA G W (wpA R ex))) (hes : chkA tb N ex sc es = true) (hl : es.length < 20)
    (hline : (ap.endLine == cp.line) = true) : PE X (.Call (.Attribute o (bmNm b) ap) es [] cp) (tBM X.K (bmT b) (liftM G (bmW b fr)) (liftE G W wo) (liftA G W (wpA R ex))) := by
  have hm := mtr_bm (G := G) g.hK (by have := g.un; omega) b (fr := fr)
  have pa : PlainAttrs (bmT b) := by cases b <;> first | exact PySem.F.plainAttrs_list | exact PySem.F.plainAttrs_str
  have sl : Slot (bmT b) (bmNm b) (bmId b) := by
    cases b
    · exact PySem.F.slot_list_append
    · exact PySem.F.slot_list_extend
    · exact PySem.F.slot_list_index
    · exact PySem.F.slot_str_join
    · exact PySem.F.slot_list_pop
    · exact PySem.F.slot_list_reverse
    · exact PySem.F.slot_list_clear
    · exact PySem.F.slot_list_insert
    · exact PySem.F.slot_str_find
    · exact PySem.F.slot_str_upper
    · exact PySem.F.slot_str_split
    · exact PySem.F.slot_str_partition
  have ty : typeOf (.builtin (bmId b)) = pure (.type "method_descriptor") := by
    cases b
    · exact PySem.F.type_list_append
    · exact PySem.F.type_list_extend
    · exact PySem.F.type_list_index
    · exact PySem.F.type_str_join
    · exact PySem.F.type_list_pop
    · exact PySem.F.type_list_reverse
    · exact PySem.F.type_list_clear
    · exact PySem.F.type_list_insert
    · exact PySem.F.type_str_find
    · exact PySem.F.type_str_upper
    · exact PySem.F.type_str_split
    · exact PySem.F.type_str_partition
  cases es with
  | nil =>
    cases chkA_nil hes
    refine PE.imp (pe_bm0 pa sl ty hm ho (plainO_ok hp) hline) fun σ H Q ⟨F, M, env, q, e, rm, er, cn, cx, h⟩ => ?_
    refine ⟨F, M, env, q, e, rm, er, fun F1 M1 H1 v1 d1 s1 rm1 r1 h => ?_, cx, h⟩
    obtain ⟨h1, F2, M2, env2, q2, e2, rm2, er2, cn2, cx2, h2⟩ := cn F1 M1 H1 v1 d1 s1 rm1 r1 h
    exact ⟨h1, cn2 F2 M2 _ _ _ (Same.refl F2) rm2 .nil h2⟩
  | cons e es =>
    obtain ⟨s1, s2⟩ := tr_head (env := X.env) (pos := cp) hes
    refine pe_bm pa sl ty hm ho ha (plainO_ok hp) ?_ hline s1 s2
    rw [tr_all hes]
    show (true && (true && decide ((e :: es).length + 0 + (if ([] : List Keyword).isEmpty then 0 else 1) < 30))) = true
    rw [Bool.true_and, Bool.true_and]
    refine decide_eq_true ?_
    simp only [List.isEmpty_nil, if_true]
    simp only [List.length_cons] at hl ⊢
    omega

theorem tup_of {tg : Expr} (h : isTupT tg = true) : ∃ elts kk tp, tg = .Tuple elts kk tp := by
  cases tg <;> first
    | exact ⟨_, _, _, rfl⟩
    | cases h
theorem small_step {i j c : Int} (h0 : 0 < c) (h1 : c < 1000000) (ha : -(2 ^ 62) ≤ i) (ha' : i < 2 ^ 62) (hb : -(2 ^ 62) ≤ j) (hb' : j < 2 ^ 62) : Builtin.Range.small i j c = true := by
  have e : 0 ≤ Builtin.Range.rangeSize i j c ∧ Builtin.Range.rangeSize i j c ≤ 2 ^ 63 - 1 := by
    unfold Builtin.Range.rangeSize
    rw [if_pos h0]
    split
    · have a := Int.ediv_nonneg (a := j - i - 1) (b := c) (by omega) (by omega)
      have b := Int.ediv_le_self c (show (0 : Int) ≤ j - i - 1 by omega)
      omega
    · omega
  unfold Builtin.Range.small
  generalize Builtin.Range.rangeSize i j c = n at e
  simp only [Builtin.Range.rangeFitsLong, Bool.and_eq_true, Bool.or_eq_true, decide_eq_true_eq, beq_iff_eq, if_pos h0]
  omega
theorem rgC_pos {i j c : Int} (h0 : 0 < c) (h1 : c < 1000000) (b1 : inB i) (b2 : inB j) : L2.RgC i j c (Builtin.Range.rangeSize i j c).toNat := by
  have e : 0 ≤ Builtin.Range.rangeSize i j c := by
    unfold Builtin.Range.rangeSize
    rw [if_pos h0]
    split
    · have a := Int.ediv_nonneg (a := j - i - 1) (b := c) (by omega) (by omega)
      omega
    · omega
  exact ⟨by omega, by omega, small_step h0 h1 b1.1 b1.2 b2.1 b2.2, by omega⟩
theorem walkR3_inv {x y z : D} {M : Mem} {q : Wk → Mem → Prop} (h : walkR [x, y, z] M q) : ∃ (i j c : Int) (n : Nat), x = .int i ∧ y = .int j ∧ z = .int c ∧ L2.RgC i j c n ∧ q ⟨rngC i c n, fun _ => True⟩ M := by
  unfold walkR at h
  split at h
  · rename_i e; cases e
  · rename_i e; cases e
  · rename_i i j c e
    injection e with e1 e2
    injection e2 with e2 e3
    injection e3 with e3 e4
    split at h
    · rename_i hc
      obtain ⟨⟨b1, b2, b3⟩, b4⟩ := h
      exact ⟨i, j, c, _, e1, e2, e3, rgC_pos (of_decide_eq_true hc) b3 b1 b2, b4⟩
    · obtain ⟨⟨b1, b2, b3⟩, b4⟩ := h
      exact ⟨i, j, -1, _, e1, e2, by rw [e3, b3], L2.RgC.neg b1.1 b1.2 b2.1 b2.2, b4⟩
  · exact h.elim
theorem rel_rgc {lo c : Int} : ∀ n : Nat, RelDs G F (rgcV lo c n) (rngC lo c n) := fun n => by
  unfold rgcV rngC
  generalize List.range n = l
  induction l with
  | nil => exact .nil
  | cons a l ih => exact .cons (.int _) ih
theorem rng_rngC {lo : Int} {n : Nat} : rng lo n = rngC lo 1 n := by
  unfold rng rngC
  refine List.map_congr_left fun i _ => ?_
  rw [Int.mul_one]
theorem rgC_one {i j : Int} (b1 : inB i) (b2 : inB j) : L2.RgC i j 1 (j - i).toNat :=
  ⟨by decide, by decide, small_one b1.1 b1.2 b2.1 b2.2, rangeSize_nat i j⟩
theorem lrg_ok {G : Gx} {F : Hp} {M : Mem} {H : Hp} {fr : Bool} {vs : List V} {ds : List D} {q : QK} {Q : VK} (rm : RM G F M H) (rs : RelDs G F vs ds) (cn : Cn G F q Q) (h : walkR ds M fun w M2 => newL fr w.items M2 q) :
    ∃ i j c, Rgs vs i j c ∧ c ≠ 0 ∧ c.natAbs < 1073741824 ∧ ∃ n, L2.RgC i j c n ∧ n ≤ 2 ^ 24 ∧ ∀ p, H p = none → Q (.ref p) (upd H p (.lst (rgcV i c n))) := by
  unfold walkR at h
  split at h
  · rename_i j
    cases rs with
    | cons r t =>
      cases t; cases r
      have g := rgC_one (i := 0) ⟨by decide, by decide⟩ h.1
      rw [Int.sub_zero] at g
      have hl : newL fr (rngC 0 1 j.toNat) M q := by rw [← rng_rngC]; exact h.2
      have k := newL_ok rm (rel_rgc j.toNat) cn hl
      exact ⟨0, j, 1, .inl ⟨rfl, rfl, rfl⟩, g.1, g.2.1, _, g, by have := k.1; rw [rgcV_len] at this; exact this, k.2⟩
  · rename_i i j
    cases rs with
    | cons r t =>
      cases t with
      | cons r' t =>
        cases t; cases r; cases r'
        have g := rgC_one h.1.1 h.1.2
        have hl : newL fr (rngC i 1 (j - i).toNat) M q := by rw [← rng_rngC]; exact h.2
        have k := newL_ok rm (rel_rgc (j - i).toNat) cn hl
        exact ⟨i, j, 1, .inr (.inl ⟨rfl, rfl⟩), g.1, g.2.1, _, g, by have := k.1; rw [rgcV_len] at this; exact this, k.2⟩
  · rename_i i j c
    cases rs with
    | cons r t =>
      cases t with
      | cons r' t =>
        cases t with
        | cons r'' t =>
          cases t; cases r; cases r'; cases r''
          have fin : ∀ n, L2.RgC i j c n → newL fr (rngC i c n) M q → ∃ i' j' c', Rgs [.int i, .int j, .int c] i' j' c' ∧ c' ≠ 0 ∧ c'.natAbs < 1073741824 ∧ ∃ n, L2.RgC i' j' c' n ∧ n ≤ 2 ^ 24 ∧ ∀ p, H p = none → Q (.ref p) (upd H p (.lst (rgcV i' c' n))) := fun n g hl => by
            have k := newL_ok rm (rel_rgc n) cn hl
            exact ⟨i, j, c, .inr (.inr rfl), g.1, g.2.1, _, g, by have := k.1; rw [rgcV_len] at this; exact this, k.2⟩
          split at h
          · rename_i hc
            exact fin _ (rgC_pos (of_decide_eq_true hc) h.1.2.2 h.1.1 h.1.2.1) h.2
          · obtain ⟨⟨b1, b2, b3⟩, b4⟩ := h
            subst b3
            exact fin _ (L2.RgC.neg b1.1 b1.2 b2.1 b2.2) b4
  · exact h.elim
/-- as a value, as a test, in an and, an or -/
structure Snd (R : Nat → List D → Mem → QK → XQ → Prop) (G : Gx) (W : WX) (X : Cx) (ex : Ex) (e : Expr) : Prop where
  E : PE X e (liftE G W (wpE R ex))
  T : PT X e (liftT G W (wpT R ex))
  B : (∃ op es p, e = .BoolOp op es p) → L2.PW X e (liftT G W (wpT R ex))
/-- a test by the value's truth -/
theorem t_plain {G : Gx} {W : WX} {X : Cx} {ex : Ex} {e : Expr} (hK : X.K = G.K) (h : PE X e (liftE G W (wpE R ex))) (hp : plainT e = true) : PT X e (liftT G W (wpT R ex)) := by
  refine PT.imp (pt_truth h (plainT_ok hp)) fun σ H Q ⟨F, M, env, q, e, rm, er, cn, cx, h⟩ => ?_
  refine enter rm er cx h fun F1 M1 H1 v1 d1 s1 rm1 er1 cx1 r1 h => ?_
  obtain ⟨c, t1, t2⟩ := tru_of rm1 r1 (cn.mono s1) h
  exact ⟨c, by rw [hK]; exact t1, t2⟩
theorem Snd.plain {G : Gx} {W : WX} {X : Cx} {ex : Ex} {e : Expr} (hK : X.K = G.K) (hp : plainT e = true) (h : PE X e (liftE G W (wpE R ex))) : Snd R G W X ex e :=
  ⟨h, t_plain hK h hp, fun ⟨_, _, _, z⟩ => by subst z; cases hp⟩

theorem revW_cases {fr : Bool} {x : D} {M : Mem} {Q : QK} (h : revW fr x M Q) : (∃ ds, asL M x = some ds ∧ newL fr ds.reverse M Q) ∨ (∃ ds, x = .tup ds ∧ Q (.tup ds.reverse) M) := by
  unfold revW at h
  split at h
  · exact .inr ⟨_, rfl, h⟩
  · split at h
    · rename_i e
      exact .inl ⟨_, e, h⟩
    · exact h.elim
theorem fvs_none {G : Gx} {F : Hp} {f : Str} : ∀ {fvs : List (Str × V)} {fs : List (Str × D)}, Paired (fun (p : Str × V) (q : Str × D) => p.1 = q.1 ∧ RelD G F p.2 q.2) fvs fs → fs.lookup f = none → fvs.lookup f = none
  | _, _, .nil, _ => rfl
  | (a, v) :: fvs, (b, d) :: fs, .cons h r, e => by
    have e1 : a = b := h.1
    subst e1
    rw [List.lookup_cons] at e ⊢
    cases q : (f == a) with
    | true => rw [q] at e; cases e
    | false => rw [q] at e; exact fvs_none r e
theorem fvs_put {G : Gx} {F : Hp} {f : Str} {v : V} {d : D} (hd : RelD G F v d) : ∀ {fvs : List (Str × V)} {fs : List (Str × D)}, Paired (fun (p : Str × V) (q : Str × D) => p.1 = q.1 ∧ RelD G F p.2 q.2) fvs fs → Paired (fun (p : Str × V) (q : Str × D) => p.1 = q.1 ∧ RelD G F p.2 q.2) (putF f v fvs) (putS f d fs)
  | _, _, .nil => .cons ⟨rfl, hd⟩ .nil
  | (a, w) :: fvs, (b, x) :: fs, .cons h r => by
    have e1 : a = b := h.1
    subst e1
    unfold putF putS
    by_cases q : a = f
    · rw [if_pos q, if_pos q]; exact .cons ⟨rfl, hd⟩ r
    · rw [if_neg q, if_neg q]; exact .cons h (fvs_put hd r)
theorem fvs_len {G : Gx} {F : Hp} : ∀ {fvs : List (Str × V)} {fs : List (Str × D)}, Paired (fun (p : Str × V) (q : Str × D) => p.1 = q.1 ∧ RelD G F p.2 q.2) fvs fs → fvs.length = fs.length
  | _, _, .nil => rfl
  | _ :: _, _ :: _, .cons _ r => congrArg Nat.succ (fvs_len r)
theorem fvs_look {G : Gx} {F : Hp} {f : Str} {d : D} : ∀ {fvs : List (Str × V)} {fs : List (Str × D)}, Paired (fun (p : Str × V) (q : Str × D) => p.1 = q.1 ∧ RelD G F p.2 q.2) fvs fs → fs.lookup f = some d → ∃ v, fvs.lookup f = some v ∧ RelD G F v d
  | _, _, .nil, h => by cases h
  | (a, v) :: fvs, (b, e) :: fs, .cons r t, h => by
    obtain ⟨r1, r2⟩ := r
    have r1 : a = b := r1
    subst r1
    rw [List.lookup_cons] at h ⊢
    cases q : (f == a) with
    | true =>
      rw [q] at h
      cases h
      exact ⟨v, rfl, r2⟩
    | false =>
      rw [q] at h
      exact fvs_look t h
mutual
theorem snd_E : ∀ (ex : Ex) {G : Gx} {W : WX} {X : Cx} {sc : Scope} {e : Expr}, Good G tb R k W X → X.N = N → X.env.scope = sc → chkE tb N ex sc e = true → Snd R G W X ex e
  | .var i, G, W, X, sc, e, g, hN, hs, h => by
    refine .plain g.hK (plain_of h rfl) ?_
    unfold chkE at h; split at h
    · rename_i x p
      rw [Bool.and_eq_true, Bool.and_eq_true] at h
      obtain ⟨o1, o2⟩ := ok_of h.2
      refine PE.imp (pe_var (i := i) (by rw [hN]; exact of_decide_eq_true h.1.1) (by rw [hs]; exact vis_of h.1.2) o1 o2) fun σ H Q ⟨F, M, env, q, e, rm, er, cn, cx, h⟩ => ?_
      dsimp only [wpE] at h
      cases q1 : slv env i with
      | none => rw [q1] at h; exact h.elim
      | some d =>
        rw [q1] at h
        obtain ⟨v, e1, r⟩ := er.at_ i d q1
        exact ⟨v, e1, cn_here rm cn r h⟩
    · cases h
  | .non, G, W, X, sc, e, g, hN, hs, h => by
    refine .plain g.hK (plain_of h rfl) ?_
    unfold chkE at h; split at h
    · exact PE.imp pe_non fun σ H Q ⟨F, M, env, q, e, rm, er, cn, cx, h⟩ => cn_here rm cn .non h
    · cases h
  | .bl b, G, W, X, sc, e, g, hN, hs, h => by
    refine .plain g.hK (plain_of h rfl) ?_
    unfold chkE at h; split at h
    · rename_i c _ _
      have e1 : b = c := eq_of_beq h
      subst e1
      exact PE.imp pe_bl fun σ H Q ⟨F, M, env, q, e, rm, er, cn, cx, h⟩ => cn_here rm cn (.bl _) h
    · cases h
  | .int i, G, W, X, sc, e, g, hN, hs, h => by
    refine .plain g.hK (plain_of h rfl) ?_
    unfold chkE at h; split at h
    · have e1 := of_decide_eq_true h
      subst e1
      exact PE.imp pe_int fun σ H Q ⟨F, M, env, q, e, rm, er, cn, cx, h⟩ => cn_here rm cn (.int _) h
    · cases h
  | .str x, G, W, X, sc, e, g, hN, hs, h => by
    refine .plain g.hK (plain_of h rfl) ?_
    unfold chkE at h; split at h
    · have e1 := of_decide_eq_true h
      subst e1
      exact PE.imp pe_str fun σ H Q ⟨F, M, env, q, e, rm, er, cn, cx, h⟩ => cn_here rm cn (.str _) h
    · cases h
  | .glob x d, G, W, X, sc, e, g, hN, hs, h => by
    refine .plain g.hK (plain_of h rfl) ?_
    unfold chkE at h; split at h
    · rw [Bool.and_eq_true, Bool.and_eq_true] at h
      have e1 := of_decide_eq_true h.1.1
      subst e1
      obtain ⟨g1, g2⟩ := gl_of hs h.1.2
      obtain ⟨p, hp, e2⟩ := List.any_eq_true.mp h.2
      rw [Bool.and_eq_true] at e2
      obtain ⟨v, u, m1, m2, m3⟩ := g.glb p hp
      rw [of_decide_eq_true e2.1] at m1
      refine PE.imp (pe_glob g1 m1 m2 g2) fun σ H Q ⟨F, M, env, q, e, rm, er, cn, cx, h⟩ => ?_
      have r := m3 F
      rw [eqD_eq e2.2] at r
      exact cn_here rm cn r h
    · cases h
  | .bin op fr a b, G, W, X, sc, e, g, hN, hs, h => by
    refine .plain g.hK (plain_of h rfl) ?_
    unfold chkE at h; split at h
    · rw [Bool.and_eq_true, Bool.and_eq_true] at h
      have e1 := of_decide_eq_true h.1.1
      subst e1
      refine PE.imp (pe_op (opr_bin g.hK (fr := fr)) ((snd_E a g hN hs h.1.2).E) ((snd_E b g hN hs h.2).E)) fun σ H Q ⟨F, M, env, q, e, rm, er, cn, cx, h⟩ => ?_
      refine enter rm er cx h fun F1 M1 H1 v1 d1 s1 rm1 er1 cx1 r1 h => enter rm1 er1 cx1 h fun F2 M2 H2 v2 d2 s2 rm2 er2 cx2 r2 h => ?_
      exact ⟨F2, M2, d1, d2, q, rm2, r1.mono s2, r2, cn.mono (s1.trans s2), h⟩
    · cases h
  | .neg a, G, W, X, sc, e, g, hN, hs, h => by
    refine .plain g.hK (plain_of h rfl) ?_
    unfold chkE at h; split at h
    · refine PE.imp (pe_un (unr_neg (G := G)) ((snd_E a g hN hs h).E)) fun σ H Q ⟨F, M, env, q, e, rm, er, cn, cx, h⟩ => ?_
      exact enter rm er cx h fun F1 M1 H1 v1 d1 s1 rm1 er1 cx1 r1 h => ⟨F1, M1, d1, q, rm1, r1, cn.mono s1, h⟩
    · cases h
  | .not a, G, W, X, sc, e, g, hN, hs, h => by
    unfold chkE at h; split at h
    · have A := snd_E a g hN hs h
      refine ⟨?_, ?_, fun ⟨_, _, _, z⟩ => nomatch z⟩
      · refine PE.imp (pe_notT A.E) fun σ H Q ⟨F, M, env, q, e, rm, er, cn, cx, h⟩ => ?_
        refine enter rm er cx h fun F1 M1 H1 v1 d1 s1 rm1 er1 cx1 r1 h => ?_
        obtain ⟨c, t1, t2⟩ := tru_of (Q := fun b H' => Q (.bl (!b)) H') rm1 r1 (fun F2 M2 H2 b s2 rm2 q2 => cn F2 M2 H2 _ _ (s1.trans s2) rm2 (.bl _) q2) h
        exact ⟨c, by rw [g.hK]; exact t1, t2⟩
      · exact PT.imp (pt_not A.T) fun σ H Q ⟨F, M, env, q, e, rm, er, cn, cx, h⟩ => ⟨F, M, env, fun c M => q (!c) M, e, rm, er, fun F1 M1 H1 c s1 rm1 hq => cn F1 M1 H1 _ s1 rm1 hq, cx, h⟩
    · cases h
  | .and a b, G, W, X, sc, e, g, hN, hs, h => by
    unfold chkE at h; split at h
    · rename_i a' b' r pos
      rw [Bool.and_eq_true] at h
      have A := snd_E a g hN hs h.1
      have hb : PE X (.BoolOp .And (b' :: r) pos) (liftE G W (wpE R b)) := by
        cases r with
        | nil => exact pe_one (snd_E b g hN hs h.2).E
        | cons c' r' => exact (snd_E b g hN hs h.2).E
      have hw : L2.PW X (.BoolOp .And (b' :: r) pos) (liftT G W (wpT R b)) := by
        cases r with
        | nil => exact pw_and1 (snd_E b g hN hs h.2).T
        | cons c' r' => exact (snd_E b g hN hs h.2).B ⟨_, _, _, rfl⟩
      have w : L2.PW X (.BoolOp .And (a' :: b' :: r) pos) (liftT G W (wpT R (.and a b))) := by
        refine PW.imp (pw_and A.T hw) fun σ H Q ⟨F, M, env, q, e, rm, er, cn, cx, h⟩ => ?_
        refine ⟨F, M, env, fun c M2 => match c with
          | true => wpT R b env M2 q e
          | false => q false M2, e, rm, er, fun F1 M1 H1 c s1 rm1 hq => ?_, cx, (mon R R g.mon a).E (fun x M1 h => ?_) (fun _ _ h => h) h⟩
        · cases c with
          | true => rw [if_pos rfl]; exact ⟨F1, M1, env, q, e, rm1, er.mono s1, cn.mono s1, cx.mono s1, hq⟩
          | false => rw [if_neg Bool.false_ne_true]; exact cn F1 M1 H1 _ s1 rm1 hq
        · obtain ⟨c, h1, h2⟩ := tru_det h
          refine (h2 _).1 ?_
          cases c with
          | true => exact h1
          | false => exact (h2 _).2 h1
      refine ⟨?_, w.pt, fun _ => w⟩
      · refine PE.imp (pe_andT A.E hb) fun σ H Q ⟨F, M, env, q, e, rm, er, cn, cx, h⟩ => ?_
        refine enter rm er cx h fun F1 M1 H1 v1 d1 s1 rm1 er1 cx1 r1 h => ?_
        obtain ⟨c, t1, t2⟩ := tru_of (Q := fun c H' => if c = true then liftE G W (wpE R b) σ H' Q else Q v1 H') rm1 r1 (fun F2 M2 H2 c s2 rm2 q2 => by
          cases c with
          | true => rw [if_pos rfl]; exact ⟨F2, M2, env, q, e, rm2, er1.mono s2, cn.mono (s1.trans s2), cx1.mono s2, q2⟩
          | false => rw [if_neg Bool.false_ne_true]; exact cn F2 M2 H2 _ _ (s1.trans s2) rm2 (r1.mono s2) q2) h
        exact ⟨c, by rw [g.hK]; exact t1, t2⟩
    · cases h
  | .or a b, G, W, X, sc, e, g, hN, hs, h => by
    unfold chkE at h; split at h
    · rename_i a' b' r pos
      rw [Bool.and_eq_true] at h
      have A := snd_E a g hN hs h.1
      have hb : PE X (.BoolOp .Or (b' :: r) pos) (liftE G W (wpE R b)) := by
        cases r with
        | nil => exact pe_one (snd_E b g hN hs h.2).E
        | cons c' r' => exact (snd_E b g hN hs h.2).E
      have hw : L2.PW X (.BoolOp .Or (b' :: r) pos) (liftT G W (wpT R b)) := by
        cases r with
        | nil => exact pw_or1 (snd_E b g hN hs h.2).T
        | cons c' r' => exact (snd_E b g hN hs h.2).B ⟨_, _, _, rfl⟩
      have w : L2.PW X (.BoolOp .Or (a' :: b' :: r) pos) (liftT G W (wpT R (.or a b))) := by
        refine PW.imp (pw_or A.T hw) fun σ H Q ⟨F, M, env, q, e, rm, er, cn, cx, h⟩ => ?_
        refine ⟨F, M, env, fun c M2 => match c with
          | true => q true M2
          | false => wpT R b env M2 q e, e, rm, er, fun F1 M1 H1 c s1 rm1 hq => ?_, cx, (mon R R g.mon a).E (fun x M1 h => ?_) (fun _ _ h => h) h⟩
        · cases c with
          | true => rw [if_pos rfl]; exact cn F1 M1 H1 _ s1 rm1 hq
          | false => rw [if_neg Bool.false_ne_true]; exact ⟨F1, M1, env, q, e, rm1, er.mono s1, cn.mono s1, cx.mono s1, hq⟩
        · obtain ⟨c, h1, h2⟩ := tru_det h
          refine (h2 _).1 ?_
          cases c with
          | true => exact (h2 _).2 h1
          | false => exact h1
      refine ⟨?_, w.pt, fun _ => w⟩
      · refine PE.imp (pe_orT A.E hb) fun σ H Q ⟨F, M, env, q, e, rm, er, cn, cx, h⟩ => ?_
        refine enter rm er cx h fun F1 M1 H1 v1 d1 s1 rm1 er1 cx1 r1 h => ?_
        obtain ⟨c, t1, t2⟩ := tru_of (Q := fun c H' => if c = true then Q v1 H' else liftE G W (wpE R b) σ H' Q) rm1 r1 (fun F2 M2 H2 c s2 rm2 q2 => by
          cases c with
          | true => rw [if_pos rfl]; exact cn F2 M2 H2 _ _ (s1.trans s2) rm2 (r1.mono s2) q2
          | false => rw [if_neg Bool.false_ne_true]; exact ⟨F2, M2, env, q, e, rm2, er1.mono s2, cn.mono (s1.trans s2), cx1.mono s2, q2⟩) h
        exact ⟨c, by rw [g.hK]; exact t1, t2⟩
    · cases h
  | .cmp op a b, G, W, X, sc, e, g, hN, hs, h => by
    unfold chkE at h; split at h
    · rw [Bool.and_eq_true, Bool.and_eq_true, Bool.and_eq_true] at h
      have e1 := of_decide_eq_true h.1.1.1
      subst e1
      have A := (snd_E a g hN hs h.1.1.2).E
      have B := (snd_E b g hN hs h.1.2).E
      have hu : X.A.units + 65 < cLine := by have := g.un; omega
      refine ⟨?_, ?_, fun ⟨_, _, _, z⟩ => nomatch z⟩
      · refine PE.imp (pe_cmpR (opr_cmp (G := G) g.hK hu) A B (noset_ok h.2)) fun σ H Q ⟨F, M, env, q, e, rm, er, cn, cx, h⟩ => ?_
        refine enter rm er cx h fun F1 M1 H1 v1 d1 s1 rm1 er1 cx1 r1 h => enter rm1 er1 cx1 h fun F2 M2 H2 v2 d2 s2 rm2 er2 cx2 r2 h => ?_
        exact ⟨F2, M2, d1, d2, q, rm2, r1.mono s2, r2, cn.mono (s1.trans s2), h⟩
      · refine PT.imp (pt_cmpR (opr_cmp (G := G) g.hK hu) A B (noset_ok h.2)) fun σ H Q ⟨F, M, env, q, e, rm, er, cn, cx, h⟩ => ?_
        refine enter rm er cx h fun F1 M1 H1 v1 d1 s1 rm1 er1 cx1 r1 h => enter rm1 er1 cx1 h fun F2 M2 H2 v2 d2 s2 rm2 er2 cx2 r2 h => ?_
        refine ⟨F2, M2, d1, d2, _, rm2, r1.mono s2, r2, ?_, lift2_bl h⟩
        rintro F3 M3 H3 v3 d3 s3 rm3 r3 ⟨⟨b, rfl⟩, h⟩
        cases r3
        exact ⟨b, rfl, cn F3 M3 H3 _ (s1.trans (s2.trans s3)) rm3 h⟩
    · cases h
  | .ch2 o1 o2 a b c, G, W, X, sc, e, g, hN, hs, h => by
    unfold chkE at h; split at h
    · simp only [Bool.and_eq_true] at h
      obtain ⟨⟨⟨⟨⟨k1, k2⟩, k3⟩, k4⟩, k5⟩, k6⟩ := h
      have e1 := of_decide_eq_true k1
      have e2 := of_decide_eq_true k2
      subst e1 e2
      have hu : X.A.units + 65 < cLine := by have := g.un; omega
      have A := (snd_E a g hN hs k3).E
      have B := (snd_E b g hN hs k4).E
      have C := (snd_E c g hN hs k5).E
      refine ⟨?_, ?_, fun ⟨_, _, _, z⟩ => nomatch z⟩
      · refine PE.imp (pe_chain (opr_cmp (G := G) g.hK hu) (opr_cmp (G := G) g.hK hu) A B C (mem_lastMarks k6)) fun σ H Q ⟨F, M, env, q, e, rm, er, cn, cx, h⟩ => ?_
        refine enter rm er cx h fun F1 M1 H1 v1 d1 s1 rm1 er1 cx1 r1 h => enter rm1 er1 cx1 h fun F2 M2 H2 v2 d2 s2 rm2 er2 cx2 r2 h => ?_
        refine ⟨F2, M2, d1, d2, _, rm2, r1.mono s2, r2, ?_, lift2_bl h⟩
        rintro F3 M3 H3 v3 d3 s3 rm3 r3 ⟨⟨b, rfl⟩, h⟩
        cases r3
        refine ⟨b, rfl, ?_⟩
        cases b with
        | true =>
          rw [if_pos rfl]
          refine enter rm3 (er2.mono s3) (cx2.mono s3) h fun F4 M4 H4 v4 d4 s4 rm4 er4 cx4 r4 h => ?_
          exact ⟨F4, M4, d2, d4, q, rm4, r2.mono (s3.trans s4), r4, cn.mono (s1.trans (s2.trans (s3.trans s4))), h⟩
        | false =>
          rw [if_neg Bool.false_ne_true]
          exact cn F3 M3 H3 _ _ (s1.trans (s2.trans s3)) rm3 (.bl _) h
      · refine PT.imp (pt_chain (opr_cmp (G := G) g.hK hu) (opr_cmp (G := G) g.hK hu) A B C (mem_lastMarks k6)) fun σ H Q ⟨F, M, env, q, e, rm, er, cn, cx, h⟩ => ?_
        refine enter rm er cx h fun F1 M1 H1 v1 d1 s1 rm1 er1 cx1 r1 h => enter rm1 er1 cx1 h fun F2 M2 H2 v2 d2 s2 rm2 er2 cx2 r2 h => ?_
        refine ⟨F2, M2, d1, d2, _, rm2, r1.mono s2, r2, ?_, lift2_bl h⟩
        rintro F3 M3 H3 v3 d3 s3 rm3 r3 ⟨⟨b, rfl⟩, h⟩
        cases r3
        refine ⟨b, rfl, ?_⟩
        cases b with
        | true =>
          rw [if_pos rfl]
          refine enter rm3 (er2.mono s3) (cx2.mono s3) h fun F4 M4 H4 v4 d4 s4 rm4 er4 cx4 r4 h => ?_
          refine ⟨F4, M4, d2, d4, _, rm4, r2.mono (s3.trans s4), r4, ?_, lift2_bl h⟩
          rintro F5 M5 H5 v5 d5 s5 rm5 r5 ⟨⟨b, rfl⟩, h⟩
          cases r5
          exact ⟨b, rfl, cn F5 M5 H5 _ (s1.trans (s2.trans (s3.trans (s4.trans s5)))) rm5 h⟩
        | false =>
          rw [if_neg Bool.false_ne_true]
          exact ⟨false, rfl, cn F3 M3 H3 _ (s1.trans (s2.trans s3)) rm3 h⟩
    · cases h
  | .ch3 o1 o2 o3 a b c d, G, W, X, sc, e, g, hN, hs, h => by
    unfold chkE at h; split at h
    · simp only [Bool.and_eq_true] at h
      obtain ⟨⟨⟨⟨⟨⟨⟨k1, k2⟩, k3⟩, k4⟩, k5⟩, k6⟩, k7⟩, k8⟩ := h
      have e1 := of_decide_eq_true k1
      have e2 := of_decide_eq_true k2
      have e3 := of_decide_eq_true k3
      subst e1 e2 e3
      have hu : X.A.units + 65 < cLine := by have := g.un; omega
      have A := (snd_E a g hN hs k4).E
      have B := (snd_E b g hN hs k5).E
      have C := (snd_E c g hN hs k6).E
      have D' := (snd_E d g hN hs k7).E
      refine ⟨?_, ?_, fun ⟨_, _, _, z⟩ => nomatch z⟩
      · refine PE.imp (pe_chain3 (opr_cmp (G := G) g.hK hu) (opr_cmp (G := G) g.hK hu) (opr_cmp (G := G) g.hK hu) A B C D' (mem_lastMarks3 k8)) fun σ H Q ⟨F, M, env, q, e, rm, er, cn, cx, h⟩ => ?_
        refine enter rm er cx h fun F1 M1 H1 v1 d1 s1 rm1 er1 cx1 r1 h => enter rm1 er1 cx1 h fun F2 M2 H2 v2 d2 s2 rm2 er2 cx2 r2 h => ?_
        refine ⟨F2, M2, d1, d2, _, rm2, r1.mono s2, r2, ?_, lift2_bl h⟩
        rintro F3 M3 H3 v3 d3 s3 rm3 r3 ⟨⟨b, rfl⟩, h⟩
        cases r3
        refine ⟨b, rfl, ?_⟩
        cases b with
        | true =>
          rw [if_pos rfl]
          refine enter rm3 (er2.mono s3) (cx2.mono s3) h fun F4 M4 H4 v4 d4 s4 rm4 er4 cx4 r4 h => ?_
          refine ⟨F4, M4, d2, d4, _, rm4, r2.mono (s3.trans s4), r4, ?_, lift2_bl h⟩
          rintro F5 M5 H5 v5 d5 s5 rm5 r5 ⟨⟨b, rfl⟩, h⟩
          cases r5
          refine ⟨b, rfl, ?_⟩
          cases b with
          | true =>
            rw [if_pos rfl]
            refine enter rm5 (er4.mono s5) (cx4.mono s5) h fun F6 M6 H6 v6 d6 s6 rm6 er6 cx6 r6 h => ?_
            exact ⟨F6, M6, d4, d6, q, rm6, r4.mono (s5.trans s6), r6, cn.mono (s1.trans (s2.trans (s3.trans (s4.trans (s5.trans s6))))), h⟩
          | false =>
            rw [if_neg Bool.false_ne_true]
            exact cn F5 M5 H5 _ _ (s1.trans (s2.trans (s3.trans (s4.trans s5)))) rm5 (.bl _) h
        | false =>
          rw [if_neg Bool.false_ne_true]
          exact cn F3 M3 H3 _ _ (s1.trans (s2.trans s3)) rm3 (.bl _) h
      · refine PT.imp (pt_chain3 (opr_cmp (G := G) g.hK hu) (opr_cmp (G := G) g.hK hu) (opr_cmp (G := G) g.hK hu) A B C D' (mem_lastMarks3 k8)) fun σ H Q ⟨F, M, env, q, e, rm, er, cn, cx, h⟩ => ?_
        refine enter rm er cx h fun F1 M1 H1 v1 d1 s1 rm1 er1 cx1 r1 h => enter rm1 er1 cx1 h fun F2 M2 H2 v2 d2 s2 rm2 er2 cx2 r2 h => ?_
        refine ⟨F2, M2, d1, d2, _, rm2, r1.mono s2, r2, ?_, lift2_bl h⟩
        rintro F3 M3 H3 v3 d3 s3 rm3 r3 ⟨⟨b, rfl⟩, h⟩
        cases r3
        refine ⟨b, rfl, ?_⟩
        cases b with
        | true =>
          rw [if_pos rfl]
          refine enter rm3 (er2.mono s3) (cx2.mono s3) h fun F4 M4 H4 v4 d4 s4 rm4 er4 cx4 r4 h => ?_
          refine ⟨F4, M4, d2, d4, _, rm4, r2.mono (s3.trans s4), r4, ?_, lift2_bl h⟩
          rintro F5 M5 H5 v5 d5 s5 rm5 r5 ⟨⟨b, rfl⟩, h⟩
          cases r5
          refine ⟨b, rfl, ?_⟩
          cases b with
          | true =>
            rw [if_pos rfl]
            refine enter rm5 (er4.mono s5) (cx4.mono s5) h fun F6 M6 H6 v6 d6 s6 rm6 er6 cx6 r6 h => ?_
            refine ⟨F6, M6, d4, d6, _, rm6, r4.mono (s5.trans s6), r6, ?_, lift2_bl h⟩
            rintro F7 M7 H7 v7 d7 s7 rm7 r7 ⟨⟨b, rfl⟩, h⟩
            cases r7
            exact ⟨b, rfl, cn F7 M7 H7 _ (s1.trans (s2.trans (s3.trans (s4.trans (s5.trans (s6.trans s7)))))) rm7 h⟩
          | false =>
            rw [if_neg Bool.false_ne_true]
            exact ⟨false, rfl, cn F5 M5 H5 _ (s1.trans (s2.trans (s3.trans (s4.trans s5)))) rm5 h⟩
        | false =>
          rw [if_neg Bool.false_ne_true]
          exact ⟨false, rfl, cn F3 M3 H3 _ (s1.trans (s2.trans s3)) rm3 h⟩
    · cases h
  | .ife t a b, G, W, X, sc, e, g, hN, hs, h => by
    unfold chkE at h; split at h
    · rw [Bool.and_eq_true, Bool.and_eq_true] at h
      have TT := snd_E t g hN hs h.1.1
      have A := snd_E a g hN hs h.1.2
      have B := snd_E b g hN hs h.2
      refine ⟨?_, ?_, fun ⟨_, _, _, z⟩ => nomatch z⟩
      · refine PE.imp (pe_ifExp TT.T A.E B.E) fun σ H Q ⟨F, M, env, q, e, rm, er, cn, cx, h⟩ => ?_
        refine ⟨F, M, env, _, e, rm, er, fun F1 M1 H1 c s1 rm1 hq => ?_, cx, h⟩
        cases c with
        | true => rw [if_pos rfl]; exact ⟨F1, M1, env, q, e, rm1, er.mono s1, cn.mono s1, cx.mono s1, hq⟩
        | false => rw [if_neg Bool.false_ne_true]; exact ⟨F1, M1, env, q, e, rm1, er.mono s1, cn.mono s1, cx.mono s1, hq⟩
      · refine PT.imp (pt_ife TT.T A.T B.T) fun σ H Q ⟨F, M, env, q, e, rm, er, cn, cx, h⟩ => ?_
        refine ⟨F, M, env, _, e, rm, er, fun F1 M1 H1 c s1 rm1 hq => ?_, cx, h⟩
        cases c with
        | true => rw [if_pos rfl]; exact ⟨F1, M1, env, q, e, rm1, er.mono s1, cn.mono s1, cx.mono s1, hq⟩
        | false => rw [if_neg Bool.false_ne_true]; exact ⟨F1, M1, env, q, e, rm1, er.mono s1, cn.mono s1, cx.mono s1, hq⟩
    · cases h
  | .tup es, G, W, X, sc, e, g, hN, hs, h => by
    refine .plain g.hK (plain_of h rfl) ?_
    unfold chkE at h; split at h
    · refine PE.imp (pe_tup (snd_A es g hN hs h)) fun σ H Q ⟨F, M, env, q, e, rm, er, cn, cx, h⟩ => ?_
      refine enterA rm er cx h fun F1 M1 H1 vs ds s1 rm1 er1 cx1 rs h => ⟨by rw [rs.len]; exact h.1, fun p hp => newT_ok rm1 rs (cn.mono s1) h.2 hp⟩
    · cases h
  | .lst fr es, G, W, X, sc, e, g, hN, hs, h => by
    refine .plain g.hK (plain_of h rfl) ?_
    unfold chkE at h; split at h
    · refine PE.imp (pe_lst (snd_A es g hN hs h)) fun σ H Q ⟨F, M, env, q, e, rm, er, cn, cx, h⟩ => ?_
      exact enterA rm er cx h fun F1 M1 H1 vs ds s1 rm1 er1 cx1 rs h => newL_ok rm1 rs (cn.mono s1) h
    · cases h
  | .emp, G, W, X, sc, e, g, hN, hs, h => by
    refine .plain g.hK (plain_of h rfl) ?_
    unfold chkE at h; split at h
    · refine PE.imp pe_dnewK fun σ H Q ⟨F, M, env, q, e, rm, er, cn, cx, h⟩ => ?_
      intro d hd
      exact newE_ok rm cn h hd
    · cases h
  | .dct ks es, G, W, X, sc, e, g, hN, hs, h => by
    refine .plain g.hK (plain_of h rfl) ?_
    unfold chkE at h; split at h
    · rw [Bool.and_eq_true] at h
      obtain ⟨k1, k2⟩ := h
      have k1 := of_decide_eq_true k1
      obtain rfl : ks = [] := List.length_eq_zero_iff.mp k1
      obtain rfl : es = .nil := by
        cases es <;> first | rfl | (cases k2; done)
      refine PE.imp pe_dnewK fun σ H Q ⟨F, M, env, q, e, rm, er, cn, cx, h⟩ => ?_
      intro d hd
      have h1 : q (.loc d) ((M.upd d (.dic [])).upd d (.dic [])) := (h.2 d (rm.freeM hd)).2.2
      have e1 : (M.upd d (.dic [])).upd d (.dic []) = M.upd d (.dic []) := funext fun b => by
        by_cases z : b = d
        · subst z; unfold Mem.upd; rw [if_pos rfl, if_pos rfl]
        · unfold Mem.upd; rw [if_neg z]
      rw [e1] at h1
      exact cn F _ _ _ _ (Same.refl F) (rm.new (ob := .dic []) hd ⟨[], upd_same, .nil⟩) .loc h1
    · rename_i keys values pos
      simp only [Bool.and_eq_true] at h
      obtain ⟨⟨⟨⟨k1, k2⟩, k3⟩, k4⟩, k5⟩ := h
      have k3 := of_decide_eq_true k3
      have k4 := of_decide_eq_true k4
      have k5 := of_decide_eq_true k5
      have hl := chkK_len k1
      refine PE.imp (pe_disp (snd_D es g hN hs k1 k2 k5) (chkK_some k1) (hl.trans k5.symm) (by
        intro z
        rw [z, List.length_nil] at hl
        omega) (by rw [hl]; exact k4)) fun σ H Q ⟨F, M, env, q, e, rm, er, cn, cx, h⟩ => ?_
      intro p hp0
      have mp := rm.freeM hp0
      have rm0 : RM G F (M.upd p (.dic [])) (upd H p (.dK [])) := rm.new hp0 ⟨[], upd_same, .nil⟩
      refine pairs_read es rm0 er cx (h.2 p mp) (by rw [chkA_len k2, k5]) ?_
      intro F2 M2 H2 vs ds s2 rm2 rs ⟨h1, h2, h3⟩
      obtain ⟨nf, vks, g1, g2⟩ := rm2.mt p _ h1
      cases g2
      refine ⟨g1, ks.zip vs, zip_kV ks vs, ?_, ?_⟩
      · rw [List.length_zip]
        omega
      · exact cn F2 (M2.upd p (.dic (mergeD [] (ks.zip ds)))) (upd H2 p (.dK (mergeK [] (ks.zip vs)))) _ _ s2 (rm2.put (ob' := .dic (mergeD [] (ks.zip ds))) h1 ⟨_, upd_same, KVR.merge .nil rs⟩) .loc h3
    · cases h
  | .dget a i, G, W, X, sc, e, g, hN, hs, h => by
    refine .plain g.hK (plain_of h rfl) ?_
    unfold chkE at h; split at h
    · rw [Bool.and_eq_true, Bool.and_eq_true] at h
      have hu : X.A.units + 1 < cLine := by have := g.un; omega
      refine PE.imp (pe_dget hu ((snd_E a g hN hs h.1.1).E) ((snd_E i g hN hs h.1.2).E) (nosl_ok h.2)) fun σ H Q ⟨F, M, env, q, e, rm, er, cn, cx, h⟩ => ?_
      refine enter rm er cx h fun F1 M1 H1 v1 d1 s1 rm1 er1 cx1 r1 h => enter rm1 er1 cx1 h fun F2 M2 H2 v2 d2 s2 rm2 er2 cx2 r2 h => ?_
      obtain ⟨a, kvs, k, v, rfl, e1, e2, e3, h⟩ := dget_inv h
      cases r1
      obtain ⟨nf, vks, g1, g2⟩ := rm2.mt a _ e1
      obtain ⟨w, w1, w2⟩ := g2.look e3
      refine ⟨a, w, rfl, ?_, cn F2 M2 H2 _ _ (s1.trans s2) rm2 w2 h⟩
      rw [key_rel r2 e2, ← w1]
      exact DGet.k g1
    · cases h
  | .call f es, G, W, X, sc, e, g, hN, hs, h => by
    refine .plain g.hK (plain_of h rfl) ?_
    unfold chkE at h; split at h
    · rename_i x p e1 es' pos
      rw [Bool.and_eq_true, Bool.and_eq_true] at h
      obtain ⟨g1, g2⟩ := gl_of hs h.1.2
      obtain ⟨ad, fd, ps, m1, m2, m3, m4, m5⟩ := g.fns f x (of_decide_eq_true h.1.1)
      obtain ⟨s1, s2⟩ := tr_head (env := X.env) (pos := pos) h.2
      have nmx := of_decide_eq_true h.1.1
      refine PE.imp (pe_callS (E := WE W) m5 ((g.room (g.hn f x (of_decide_eq_true h.1.1))).mono (Nat.le_succ _)) g1 m1 m2 m3 (passAt g.tk) (snd_A es g hN hs h.2) g2 s1 s2) fun σ H Q ⟨F, M, env, q, e, rm, er, cn, cx, h⟩ => ?_
      exact enterA rm er cx h fun F1 M1 H1 vs ds t1 rm1 er1 cx1 rs h => ⟨by rw [rs.len]; exact g.len f x ds M1 q e nmx h, G.P, F1, M1, ds, q, e, rm1, rs, cn.mono t1, cx1, h⟩
    · cases h
  | .cll fs i es, G, W, X, sc, e, g, hN, hs, h => by
    refine .plain g.hK (plain_of h rfl) ?_
    unfold chkE at h; split at h
    · rename_i ns p1 i' p2 e1 es' pos
      simp only [Bool.and_eq_true] at h
      obtain ⟨⟨⟨⟨⟨k1, k2⟩, k0⟩, k3⟩, k4⟩, k5⟩ := h
      have k2 := of_decide_eq_true k2
      have k0 := of_decide_eq_true k0
      obtain ⟨vs, pa, hl, hv⟩ := chkFn_ok g hs fs k1
      obtain ⟨s1, s2⟩ := tr_head (env := X.env) (pos := pos) k5
      have hot : tb.hot = true := by
        cases fs with
        | nil => cases k0
        | cons f fs =>
          obtain ⟨v, -, x, -, -, -, q, -⟩ := hv 0 f rfl
          exact g.hn f x q
      refine PE.imp (pe_callF (E := WE W) (pe_ix L2.ix_list (pe_lst pa) ((snd_E i g hN hs k3).E) (plainIx_ok k4)) ((g.room hot).mono (Nat.le_succ _)) (passAt g.tk) (snd_A es g hN hs k5) rfl s1 s2) fun σ H Q ⟨F, M, env, q, e, rm, er, cn, cx, h⟩ => ?_
      refine ⟨by rw [hl]; exact Nat.le_trans k2 (by decide), fun p hp => ?_⟩
      have sm := same_upd (o := .lst vs) (rm.freeF hp)
      refine enter (rm.frz hp) (er.mono sm) (cx.mono sm) h fun F1 M1 H1 v1 d1 t1 rm1 er1 cx1 r1 h => ?_
      cases d1 with
      | int j =>
        cases r1
        revert h
        dsimp only
        cases q1 : atI fs j with
        | none => exact fun h => h.elim
        | some f =>
          intro h
          obtain ⟨v, a1, x, ad, fd, ps, b1, rfl, b2, b3, b4⟩ := atI_map hl hv q1
          refine ⟨p, vs, j, _, rfl, rfl, .of (rm1.fz _ _ (t1 _ _ upd_same)), a1, ad, fd, ps, _, rfl, b2, b3, b4, ?_⟩
          exact enterA rm1 er1 cx1 h fun F2 M2 H2 ws ds t2 rm2 er2 cx2 rs h => ⟨by rw [rs.len]; exact g.len f x ds M2 q e b1 h, G.P, F2, M2, ds, q, e, rm2, rs, cn.mono (sm.trans (t1.trans t2)), cx2, h⟩
      | _ => exact h.elim
    · cases h
  | .bi b fr es, G, W, X, sc, e, g, hN, hs, h => by
    refine .plain g.hK (plain_of h rfl) ?_
    unfold chkE at h; split at h
    · rename_i x p e1 es' pos
      rw [Bool.and_eq_true, Bool.and_eq_true] at h
      obtain ⟨s1, s2⟩ := tr_head (env := X.env) (pos := pos) h.2
      refine PE.imp (pe_bi (G := G) (fr := fr) g hs (of_decide_eq_true h.1.1) h.1.2 (snd_A es g hN hs h.2) s1 s2) fun σ H Q ⟨F, M, env, q, e, rm, er, cn, cx, h⟩ => ?_
      exact enterA rm er cx h fun F1 M1 H1 vs ds s1 rm1 er1 cx1 rs h => ⟨F1, M1, ds, q, rm1, rs, cn.mono s1, h⟩
    · cases h
  | .isi a t, G, W, X, sc, e, g, hN, hs, h => by
    refine .plain g.hK (plain_of h rfl) ?_
    unfold chkE at h; split at h
    · rename_i x p a' y p2 pos
      simp only [Bool.and_eq_true] at h
      obtain ⟨⟨⟨⟨⟨k1, k2⟩, k3⟩, k4⟩, k5⟩, k6⟩ := h
      have e1 := of_decide_eq_true k1
      have e2 := of_decide_eq_true k5
      subst e1 e2
      obtain ⟨g1, g2, g3⟩ := bn_of g hs k2
      obtain ⟨j1, j2, j3⟩ := bn_of g hs k6
      have pt : PE X (.Name (tyNm t) p2) (tC (.ty (tyN t))) := pe_bltn j1 j3 (ty_boot t) rfl (ty_no t).1 j2
      refine PE.imp (pe_callB call_isi g1 g3 PyProof.Rows.boot_isinstance (pa_cons ((snd_E a g hN hs k3).E) (pa_cons pt pa_nil rfl) (star_ok k4)) (by decide +kernel) g2 (star_ok k4) rfl) fun σ H Q ⟨F, M, env, q, e, rm, er, cn, cx, h⟩ => ?_
      refine enter rm er cx h fun F1 M1 H1 v1 d1 s1 rm1 er1 cx1 r1 h => ?_
      cases e1 : isiB t d1 M1 with
      | none => rw [e1] at h; exact h.elim
      | some b =>
        rw [e1] at h
        obtain ⟨n, t1, t2⟩ := isi_ok g.hK rm1 r1 e1
        exact ⟨v1, .ty (tyN t), .type n, .type (tyN t), b, rfl, .ty _, t1, t2, cn F1 M1 H1 _ _ s1 rm1 (.bl _) h⟩
    · cases h
  | .itr _, G, W, X, sc, e, g, hN, hs, h => by cases h
  | .ist a ts, G, W, X, sc, e, g, hN, hs, h => by
    refine .plain g.hK (plain_of h rfl) ?_
    unfold chkE at h; split at h
    · rename_i x p a' es p3 p4 pos
      simp only [Bool.and_eq_true] at h
      obtain ⟨⟨⟨⟨⟨⟨k1, k2⟩, k3⟩, k4⟩, k5⟩, k6⟩, k7⟩ := h
      have e1 := of_decide_eq_true k1
      have k6 := of_decide_eq_true k6
      have k7 := of_decide_eq_true k7
      subst e1
      obtain ⟨g1, g2, g3⟩ := bn_of g hs k2
      obtain ⟨pa, pu⟩ := chkTy_ok (G := G) g hs ts k5
      refine PE.imp (pe_callB call_isiT g1 g3 PyProof.Rows.boot_isinstance (pa_cons ((snd_E a g hN hs k3).E) (pa_cons (pe_tup pa) pa_nil rfl) (star_ok k4)) (by decide +kernel) g2 (star_ok k4) rfl) fun σ H Q ⟨F, M, env, q, e, rm, er, cn, cx, h⟩ => ?_
      refine enter rm er cx h fun F1 M1 H1 v1 d1 s1 rm1 er1 cx1 r1 h => ?_
      refine ⟨by rw [List.length_map]; exact Nat.le_trans k6 (by decide), fun tp hp => ?_⟩
      cases e1 : istB ts d1 M1 with
      | none => rw [e1] at h; exact h.elim
      | some b =>
        rw [e1] at h
        have hq9 : q (.bl b) M1 := h
        obtain ⟨t, ts, rfl⟩ : ∃ t ts', ts = t :: ts' := by
          cases ts with
          | nil => exact absurd k7 (Nat.lt_irrefl _)
          | cons t ts => exact ⟨t, ts, rfl⟩
        · obtain ⟨n, t1, t2⟩ := ist_ok g.hK rm1 r1 e1
          have rm2 : RM G (upd F1 tp (.tup ((t :: ts).map fun t => V.ty (tyN t)))) M1 (upd H1 tp (.tup ((t :: ts).map fun t => V.ty (tyN t)))) := rm1.frz hp
          have r2 := r1.mono (same_upd (o := .tup ((t :: ts).map fun t => V.ty (tyN t))) (rm1.freeF hp))
          obtain ⟨n2, u1, u2⟩ := ist_ok g.hK rm2 r2 e1
          exact ⟨v1, tp, _, .type n2, _, b, rfl, upd_same, pu, u1, u2, cn _ M1 _ _ _ (s1.trans (same_upd (rm1.freeF hp))) rm2 (.bl _) hq9⟩
    · cases h
  | .dgt a i, G, W, X, sc, e, g, hN, hs, h => by
    refine .plain g.hK (plain_of h rfl) ?_
    unfold chkE at h; split at h
    · rename_i o' m ap k' cp
      simp only [Bool.and_eq_true] at h
      obtain ⟨⟨⟨⟨⟨k1, k2⟩, k3⟩, k4⟩, k5⟩, k6⟩ := h
      have e1 := of_decide_eq_true k1
      subst e1
      have hu : X.A.units + 1 < cLine := by have := g.un; omega
      have hst := star_ok (env := X.env) (es := []) k6
      refine PE.imp (pe_dget1 hu ((snd_E a g hN hs k3).E) ((snd_E i g hN hs k5).E) ⟨plainO_ok k4, by rw [hst]; rfl, k2, by rw [hst]; rfl⟩) fun σ H Q ⟨F, M, env, q, e, rm, er, cn, cx, h⟩ => ?_
      refine enter rm er cx h fun F1 M1 H1 v1 d1 s1 rm1 er1 cx1 r1 h => ?_
      obtain ⟨h0, h⟩ := h
      obtain ⟨kv0, h0⟩ := Option.isSome_iff_exists.mp h0
      obtain ⟨a, rfl, hm⟩ := dic_in h0
      cases r1
      obtain ⟨nf, vks, g1, g2⟩ := rm1.mt a _ hm
      refine ⟨a, rfl, .inl ⟨_, Rd.of g1⟩, ?_⟩
      refine enter rm1 er1 cx1 h fun F2 M2 H2 v2 d2 s2 rm2 er2 cx2 r2 h => ?_
      unfold dgtW at h
      split at h
      · rename_i kvs k hd hk
        obtain ⟨a', e1, hm2⟩ := dic_in hd
        cases e1
        obtain ⟨nf2, vk2, j1, j2⟩ := rm2.mt a _ hm2
        refine ⟨valV vk2 k, ?_, ?_⟩
        · rw [keyV r2 hk]; exact DGet.k j1
        · cases e2 : lookD kvs k with
          | none =>
            rw [e2] at h
            rw [j2.lookN e2]
            exact cn F2 M2 H2 _ _ (s1.trans s2) rm2 .non h
          | some d =>
            rw [e2] at h
            obtain ⟨w, w1, w2⟩ := j2.look e2
            rw [w1]
            exact cn F2 M2 H2 _ _ (s1.trans s2) rm2 w2 h
      · exact h.elim
    · cases h
  | .isx a c, G, W, X, sc, e, g, hN, hs, h => by
    refine .plain g.hK (plain_of h rfl) ?_
    unfold chkE at h; split at h
    · rename_i x p a' y p2 pos
      simp only [Bool.and_eq_true] at h
      obtain ⟨⟨⟨⟨k1, k2⟩, k3⟩, k4⟩, k5⟩ := h
      have e1 := of_decide_eq_true k1
      subst e1
      obtain ⟨g1, g2, g3⟩ := bn_of g hs k2
      have pt : ∃ cv : V, PE X (.Name y p2) (tC cv) ∧ ∀ k C, G.cl k = some C → ∃ u, L2.ClsV cv u ∧ PySem.W.kitOne X.K (.ref C) u = some (subX k c) := by
        unfold xnB at k5
        rw [Bool.or_eq_true] at k5
        rcases k5 with k5 | k5
        · simp only [Bool.and_eq_true] at k5
          obtain ⟨⟨c1, c2⟩, c3⟩ := k5
          have e1 := of_decide_eq_true c1
          have e2 := of_decide_eq_true c2
          subst e1 e2
          obtain ⟨j1, j2, j3⟩ := bn_of g hs c3
          refine ⟨.ty "ValueError", pe_bltn j1 j3 PyProof.Rows.Boot.«ValueError» rfl (by decide) j2, fun k C hk => ⟨_, .ty _, ?_⟩⟩
          rw [g.xt.ve k C hk]
          unfold subX
          rw [decide_eq_true (show (0 : Nat) ≤ 1 by decide), Bool.or_true]
        · rw [Bool.and_eq_true] at k5
          obtain ⟨q, hq, e2⟩ := List.any_eq_true.mp k5.1
          have e2 := of_decide_eq_true e2
          subst e2
          obtain ⟨D, m1, m2⟩ := g.xt.nm _ hq
          obtain ⟨j1, j2⟩ := gl_of hs k5.2
          exact ⟨.ref D, pe_glob j1 m1 rfl j2, fun k C hk => ⟨_, .own D, (g.xt.sub k C c D hk m2).1⟩⟩
      obtain ⟨cv, pt, ck⟩ := pt
      refine PE.imp (pe_callB L2.call_isX g1 g3 PyProof.Rows.boot_isinstance (pa_cons ((snd_E a g hN hs k3).E) (pa_cons pt pa_nil rfl) (star_ok k4)) (by decide +kernel) g2 (star_ok k4) rfl) fun σ H Q ⟨F, M, env, q, e, rm, er, cn, cx, h⟩ => ?_
      refine enter rm er cx h fun F1 M1 H1 v1 d1 s1 rm1 er1 cx1 r1 h => ?_
      unfold isxW at h
      split at h
      · rename_i p
        split at h
        · rename_i k fs e1
          cases r1
          obtain ⟨nf, C, dd, h1, h2, h3⟩ := rm1.mt p _ e1
          obtain ⟨u, u1, u2⟩ := ck k C h1
          refine ⟨p, C, cv, u, subX k c, rfl, ⟨dd, h2, ?_⟩, by rw [g.hK]; exact (g.hK ▸ g.xt.xc k C h1), u1, u2, cn F1 M1 H1 _ _ s1 rm1 (.bl _) h⟩
          rcases h3 with h3 | ⟨d, fvs, h4, h5, h6⟩
          · exact .inl h3.2
          · exact .inr ⟨d, fvs, h4, rm1.fz _ _ h5⟩
        · exact h.elim
      · exact h.elim
    · cases h
  | .ixs a cs, G, W, X, sc, e, g, hN, hs, h => by
    refine .plain g.hK (plain_of h rfl) ?_
    unfold chkE at h; split at h
    · rename_i x p a' es p3 p4 pos
      simp only [Bool.and_eq_true] at h
      obtain ⟨⟨⟨⟨⟨k1, k2⟩, k3⟩, k4⟩, k5⟩, k6⟩ := h
      have e1 := of_decide_eq_true k1
      have k6 := of_decide_eq_true k6
      subst e1
      obtain ⟨g1, g2, g3⟩ := bn_of g hs k2
      obtain ⟨vs, us, pa, pu, pl, pk⟩ := chkC_ok (G := G) g hs cs k5
      refine PE.imp (pe_callB L2.call_isXT g1 g3 PyProof.Rows.boot_isinstance (pa_cons ((snd_E a g hN hs k3).E) (pa_cons (pe_tup pa) pa_nil rfl) (star_ok k4)) (by decide +kernel) g2 (star_ok k4) rfl) fun σ H Q ⟨F, M, env, q, e, rm, er, cn, cx, h⟩ => ?_
      refine enter rm er cx h fun F1 M1 H1 v1 d1 s1 rm1 er1 cx1 r1 h => ?_
      unfold ixsW at h
      split at h
      · rename_i p
        split at h
        · rename_i k fs e1
          cases r1
          obtain ⟨nf, C, dd, h1, h2, h3⟩ := rm1.mt p _ e1
          refine ⟨by rw [pl]; exact Nat.le_trans k6 (by decide), fun tp ht => ?_⟩
          have nF := rm1.freeF ht
          have s2 := same_upd (o := .tup vs) nF
          refine ⟨p, C, tp, vs, us, _, rfl, upd_same, pu, ⟨dd, by rw [upd_ne (ne_of_none h2 ht)]; exact h2, ?_⟩, by rw [g.hK]; exact (g.hK ▸ g.xt.xc k C h1), pk k C h1, cn (upd F1 tp (.tup vs)) M1 _ _ _ (s1.trans s2) (rm1.frz ht) (.bl _) h⟩
          rcases h3 with h3 | ⟨d, fvs, h4, h5, h6⟩
          · exact .inl h3.2
          · exact .inr ⟨d, fvs, h4, by rw [upd_ne (ne_of_none (rm1.fz _ _ h5) ht)]; exact rm1.fz _ _ h5⟩
        · exact h.elim
      · exact h.elim
    · cases h
  | .atr a f, G, W, X, sc, e, g, hN, hs, h => by
    refine .plain g.hK (plain_of h rfl) ?_
    unfold chkE at h; split at h
    · simp only [Bool.and_eq_true] at h
      obtain ⟨⟨⟨k1, k2⟩, k3⟩, k4⟩ := h
      have e1 := of_decide_eq_true k1
      subst e1
      refine PE.imp (L2.pe_atr ((snd_E a g hN hs k2).E) (plainO_ok k3)) fun σ H Q ⟨F, M, env, q, e, rm, er, cn, cx, h⟩ => ?_
      refine enter rm er cx h fun F1 M1 H1 v1 d1 s1 rm1 er1 cx1 r1 h => ?_
      unfold atrW at h
      split at h
      · rename_i p
        split at h
        · rename_i k fs e1
          split at h
          · rename_i d e2
            cases r1
            obtain ⟨nf, C, dd, h1, h2, h3⟩ := rm1.mt p _ e1
            rcases h3 with h3 | ⟨dx, fvs, h4, h5, h6⟩
            · rw [h3.1] at e2
              cases e2
            · obtain ⟨v, v1, v2⟩ := fvs_look h6 e2
              subst h4
              exact ⟨p, C, dx, fvs, v, rfl, h2, rm1.fz _ _ h5, g.xt.xc k C h1, g.xt.na k C f h1 k4, v1, cn F1 M1 H1 _ _ s1 rm1 v2 h⟩
          · exact h.elim
        · exact h.elim
      · exact h.elim
    · cases h
  | .fld a f, G, W, X, sc, e, g, hN, hs, h => by
    refine .plain g.hK (plain_of h rfl) ?_
    unfold chkE at h; split at h
    · simp only [Bool.and_eq_true] at h
      obtain ⟨⟨⟨k1, k2⟩, k3⟩, k4⟩ := h
      have e1 := of_decide_eq_true k1
      subst e1
      obtain ⟨g1, g2, e4⟩ := List.any_eq_true.mp k4
      have e4 := of_decide_eq_true e4
      subst e4
      refine PE.imp (pe_fld ((snd_E a g hN hs k2).E) (plainO_ok k3)) fun σ H Q ⟨F, M, env, q, e, rm, er, cn, cx, h⟩ => ?_
      refine enter rm er cx h fun F1 M1 H1 v1 d1 s1 rm1 er1 cx1 r1 h => ?_
      unfold fldW at h
      split at h
      · rename_i p
        split at h
        · rename_i k fs e1
          split at h
          · rename_i d e2
            cases r1
            obtain ⟨nf, C, dx, fvs, h1, h2, h3⟩ := rm1.mt p _ e1
            obtain ⟨v, v1, v2⟩ := fvs_look h3 e2
            obtain ⟨c1, c2⟩ := g.ob.cls k C h1
            exact ⟨p, C, dx, fvs, v, rfl, h2, c1, c2 _ g2, v1, cn F1 M1 H1 _ _ s1 rm1 v2 h⟩
          · exact h.elim
        · exact h.elim
      · exact h.elim
    · cases h
  | .mth o c m f es, G, W, X, sc, e, g, hN, hs, h => by
    refine .plain g.hK (plain_of h rfl) ?_
    unfold chkE at h; split at h
    · rename_i o' m' ap es' cp
      simp only [Bool.and_eq_true] at h
      obtain ⟨⟨⟨⟨⟨⟨k1, k2⟩, k3⟩, k4⟩, k5⟩, k6⟩, k7⟩ := h
      have e1 := of_decide_eq_true k1
      subst e1
      have nmx := of_decide_eq_true k7
      obtain ⟨C, ad, fd, ps, m1, m2, m3, m4, m5⟩ := g.ob.mts f c m nmx
      obtain ⟨c1, c2⟩ := g.ob.cls c C m1
      have hr := (g.room (g.ob.hot f c m nmx)).mono (Nat.le_succ _)
      have rd : ∀ {F1 M1 H1 v1 d1}, RM G F1 M1 H1 → RelD G F1 v1 d1 → mthW d1 c m M1 → ∃ a dx fs, v1 = .ref a ∧ H1 a = some (.ins C dx fs) ∧ fs.lookup m = none := fun {F1 M1 H1 v1 d1} rm1 r1 h => by
        unfold mthW at h
        split at h
        · rename_i p
          split at h
          · rename_i k fs e1
            obtain ⟨rfl, h⟩ := h
            cases r1
            obtain ⟨nf, C', dx, fvs, h1, h2, h3⟩ := rm1.mt p _ e1
            rw [m1] at h1
            cases h1
            exact ⟨p, dx, fvs, rfl, h2, fvs_none h3 h⟩
          · exact h.elim
        · exact h.elim
      cases es' with
      | nil =>
        cases chkA_nil k5
        refine PE.imp (L2.pe_methX0 (E := WE W) (snd_E o g hN hs k3).E c1 m2 m5 hr m3 (passAt g.tk) (plainO_ok k4) k2) fun σ H Q ⟨F, M, env, q, e, rm, er, cn, cx, h⟩ => ?_
        refine enter rm er cx h fun F1 M1 H1 v1 d1 s1 rm1 er1 cx1 r1 h => ?_
        obtain ⟨a, dx, fs, z1, z2, z3⟩ := rd rm1 r1 h.1
        exact ⟨a, dx, fs, z1, z2, z3, by rw [show ([v1] : List V).length = [d1].length from rfl]; exact g.ob.len f c m [d1] M1 q e nmx h.2, G.P, F1, M1, [d1], q, e, rm1, .cons r1 .nil, cn.mono s1, cx1, h.2⟩
      | cons e0 es' =>
        obtain ⟨s1, s2⟩ := tr_head (env := X.env) (pos := cp) k5
        refine PE.imp (L2.pe_methX (E := WE W) (snd_E o g hN hs k3).E c1 m2 m5 hr m3 (passAt g.tk) (snd_A es g hN hs k5) (plainO_ok k4) ?_ k2 s1 s2) fun σ H Q ⟨F, M, env, q, e, rm, er, cn, cx, h⟩ => ?_
        · unfold methodCallForm
          rw [tr_all k5]
          show (true && (true && decide ((e0 :: es').length + 0 + (if ([] : List Keyword).isEmpty then 0 else 1) < 30))) = true
          rw [Bool.true_and, Bool.true_and]
          refine decide_eq_true ?_
          have hl := of_decide_eq_true k6
          simp only [List.isEmpty_nil, if_true]
          simp only [List.length_cons] at hl ⊢
          omega
        · refine enter rm er cx h fun F1 M1 H1 v1 d1 s1 rm1 er1 cx1 r1 h => ?_
          obtain ⟨a, dx, fs, z1, z2, z3⟩ := rd rm1 r1 h.1
          refine ⟨a, dx, fs, z1, z2, z3, ?_⟩
          refine enterA rm1 er1 cx1 h.2 fun F2 M2 H2 vs ds s2 rm2 er2 cx2 rs h => ?_
          have rs2 : RelDs G F2 (v1 :: vs) (d1 :: ds) := .cons (r1.mono s2) rs
          exact ⟨by rw [rs2.len]; exact g.ob.len f c m _ M2 q e nmx h, G.P, F2, M2, _, q, e, rm2, rs2, cn.mono (s1.trans s2), cx2, h⟩
    · cases h
  | .mk c f es, G, W, X, sc, e, g, hN, hs, h => by
    refine .plain g.hK (plain_of h rfl) ?_
    unfold chkE at h; split at h
    · rename_i x p es' pos
      simp only [Bool.and_eq_true] at h
      obtain ⟨⟨⟨k1, k2⟩, k3⟩, k4⟩ := h
      obtain ⟨j1, j2⟩ := gl_of hs k2
      have nmx := of_decide_eq_true k3
      have hx : (c, x) ∈ tb.oc := by
        obtain ⟨p, hp, e⟩ := List.any_eq_true.mp k1
        rw [← of_decide_eq_true e]
        exact hp
      obtain ⟨C, ad, fd, ps, m1, m2, m3, m4, m5⟩ := g.ob.mts f c "__init__" nmx
      obtain ⟨C', n1, n2, n3, n4⟩ := g.ob.mks c x hx
      rw [m1] at n1
      cases n1
      have mk : Mk X.K C ad := ⟨n3, m2.at_, m2.fn, n4⟩
      have hr := g.room (g.ob.hot f c _ nmx)
      have fin : ∀ {F1 M1 H1 vs ds q Q e} {σ : L2.St}, RM G F1 M1 H1 → RelDs G F1 vs ds → Cn G F1 q Q → CnX G F1 e (fun c d H => W c d σ H) → (∀ p, M1 p = none → R f (.loc p :: ds) (M1.upd p (.obj c [])) (fun v M2 => v = .non ∧ q (.loc p) M2) e) →
          ∀ x dx, H1 x = none → H1 dx = none → dx ≠ x → liftSp G (tb.ar f) (R f) (.ref x :: vs) (upd (upd H1 dx (.own x)) x (.ins C dx [])) (fun v H2 => v = .non ∧ Q (.ref x) H2) (WE W σ) := fun {F1 M1 H1 vs ds q Q e σ} rm1 rs cn cx h x dx hx hdx ne => by
        have rm2 := rm1.junk (o := .own x) hdx
        have hx2 : upd H1 dx (.own x) x = none := by rw [upd_ne (Ne.symm ne)]; exact hx
        have rm3 : RM G F1 (M1.upd x (.obj c [])) (upd (upd H1 dx (.own x)) x (.ins C dx [])) := rm2.new (ob := .obj c []) hx2 ⟨C, dx, [], m1, upd_same, .nil⟩
        have h := h x (rm1.freeM hx)
        have rs2 : RelDs G F1 (.ref x :: vs) (.loc x :: ds) := .cons .loc rs
        refine ⟨by rw [rs2.len]; exact g.ob.len f c _ _ _ _ _ nmx h, G.P, F1, _, _, _, _, rm3, rs2, fun F2 M2 H2 v d s2 rm' r' hq => ?_, cx, h⟩
        obtain ⟨rfl, hq⟩ := hq
        cases r'
        exact ⟨rfl, cn F2 M2 H2 _ _ s2 rm' .loc hq⟩
      cases es' with
      | nil =>
        cases chkA_nil k4
        refine PE.imp (L2.pe_makeX0 (E := WE W) mk m5 hr j1 n2 m3 (passAt g.tk) j2) fun σ H Q ⟨F, M, env, q, e, rm, er, cn, cx, h⟩ => ?_
        exact fin rm .nil cn cx h
      | cons e0 es' =>
        obtain ⟨s1, s2⟩ := tr_head (env := X.env) (pos := pos) k4
        refine PE.imp (L2.pe_makeX (E := WE W) mk m5 hr j1 n2 m3 (passAt g.tk) (snd_A es g hN hs k4) j2 s1 s2) fun σ H Q ⟨F, M, env, q, e, rm, er, cn, cx, h⟩ => ?_
        exact enterA rm er cx h fun F1 M1 H1 vs ds t1 rm1 er1 cx1 rs h => fin rm1 rs (cn.mono t1) cx1 h
    · cases h
  | .bm b fr o es, G, W, X, sc, e, g, hN, hs, h => by
    refine .plain g.hK (plain_of h rfl) ?_
    unfold chkE at h; split at h
    · rename_i o' m ap es' cp
      simp only [Bool.and_eq_true] at h
      obtain ⟨⟨⟨⟨⟨k1, k2⟩, k3⟩, k4⟩, k5⟩, k6⟩ := h
      have e1 := of_decide_eq_true k1
      subst e1
      refine PE.imp (pe_bmm (G := G) (fr := fr) g b (snd_E o g hN hs k3).E k4 (snd_A es g hN hs k5) k5 (of_decide_eq_true k6) k2) fun σ H Q ⟨F, M, env, q, e, rm, er, cn, cx, h⟩ => ?_
      refine enter rm er cx h fun F1 M1 H1 v1 d1 s1 rm1 er1 cx1 r1 h => ⟨rcv_ok g.hK rm1 r1 h.1, ?_⟩
      exact enterA rm1 er1 cx1 h.2 fun F2 M2 H2 vs ds s2 rm2 er2 cx2 rs h => ⟨F2, M2, d1, ds, q, rm2, r1.mono s2, rs, cn.mono (s1.trans s2), h⟩
    · cases h
  | .idx a i, G, W, X, sc, e, g, hN, hs, h => by
    refine .plain g.hK (plain_of h rfl) ?_
    unfold chkE at h; split at h
    · rw [Bool.and_eq_true, Bool.and_eq_true] at h
      refine PE.imp (pe_ix (ixr_idx (G := G) g.hK) ((snd_E a g hN hs h.1.1).E) ((snd_E i g hN hs h.1.2).E) (plainIx_ok h.2)) fun σ H Q ⟨F, M, env, q, e, rm, er, cn, cx, h⟩ => ?_
      refine enter rm er cx h fun F1 M1 H1 v1 d1 s1 rm1 er1 cx1 r1 h => enter rm1 er1 cx1 h fun F2 M2 H2 v2 d2 s2 rm2 er2 cx2 r2 h => ?_
      exact ⟨F2, M2, d1, d2, q, rm2, r1.mono s2, r2, cn.mono (s1.trans s2), h⟩
    · cases h
  | .sli fr a lo hi, G, W, X, sc, e, g, hN, hs, h => by
    refine .plain g.hK (plain_of h rfl) ?_
    unfold chkE at h; split at h
    · rw [Bool.and_eq_true, Bool.and_eq_true] at h
      refine PE.imp (pe_slice (slr_sli (G := G) g.hK (fr := fr)) ((snd_E a g hN hs h.1.1).E) (snd_P lo g hN hs h.1.2) (snd_P hi g hN hs h.2)) fun σ H Q ⟨F, M, env, q, e, rm, er, cn, cx, h⟩ => ?_
      refine enter rm er cx h fun F1 M1 H1 v1 d1 s1 rm1 er1 cx1 r1 h => enterP rm1 er1 cx1 h fun F2 M2 H2 l s2 rm2 er2 cx2 h => enterP rm2 er2 cx2 h fun F3 M3 H3 u s3 rm3 er3 cx3 h => ?_
      exact ⟨F3, M3, d1, q, rm3, r1.mono (s2.trans s3), cn.mono (s1.trans (s2.trans s3)), h⟩
    · cases h
  | .rev fr a, G, W, X, sc, e, g, hN, hs, h => by
    refine .plain g.hK (plain_of h rfl) ?_
    unfold chkE at h; split at h
    · refine PE.imp (pe_revA ((snd_E a g hN hs h).E)) fun σ H Q ⟨F, M, env, q, e, rm, er, cn, cx, h⟩ => ?_
      refine enter rm er cx h fun F1 M1 H1 v1 d1 s1 rm1 er1 cx1 r1 h => ?_
      rcases revW_cases h with ⟨ds, e1, h⟩ | ⟨ds, e1, h⟩
      · obtain ⟨p, vs, rfl, g1, g2⟩ := rd_L rm1 r1 e1
        exact Or.inl ⟨p, vs, rfl, by rw [g.hK]; exact g1, (newL_ok rm1 g2.rev (cn.mono s1) h).2⟩
      · subst e1
        obtain ⟨p, vs, rfl, g1, g2⟩ := rd_T rm1 r1
        exact Or.inr ⟨p, vs, rfl, by rw [g.hK]; exact g1, fun p hp => newT_ok rm1 g2.rev (cn.mono s1) h hp⟩
    · cases h
  | .lrg fr es, G, W, X, sc, e, g, hN, hs, h => by
    refine .plain g.hK (plain_of h rfl) ?_
    unfold chkE at h; split at h
    · rename_i x p y p2 e1 es' pos2 pos
      simp only [Bool.and_eq_true] at h
      obtain ⟨⟨⟨⟨k1, k2⟩, k3⟩, k4⟩, k5⟩ := h
      have q1 := of_decide_eq_true k1
      have q2 := of_decide_eq_true k3
      subst q1 q2
      obtain ⟨g1, g2, g3⟩ := bn_of g hs k2
      obtain ⟨j1, j2, j3⟩ := bn_of g hs k4
      obtain ⟨s1, s2⟩ := tr_head (env := X.env) (pos := pos2) k5
      refine PE.imp (pe_lrg (g.calm (g.hb .list_ (bn_mem k2))) g1 g3 j1 j3 (snd_A es g hN hs k5) s1 s2) fun σ H Q ⟨F, M, env, q, e, rm, er, cn, cx, h⟩ => ?_
      exact enterA rm er cx h fun F1 M1 H1 vs ds t1 rm1 er1 cx1 rs h => lrg_ok rm1 rs (cn.mono t1) h
    · cases h
  | .comp fr own tg iter cond elt, G, W, X, sc, e, g, hN, hs, h => by
    refine .plain g.hK (plain_of h rfl) ?_
    unfold chkE at h; split at h
    · rename_i elt' tg' iter' ifs' scope pos
      simp only [Bool.and_eq_true] at h
      obtain ⟨⟨⟨⟨⟨⟨k1, k2⟩, k3⟩, k4⟩, k5⟩, k6⟩, k7⟩ := h
      have own_eq : (ownOf N own).map (·.2) = own := by
        unfold ownOf
        rw [List.map_map]
        exact (List.map_congr_left fun a _ => rfl).trans (List.map_id own)
      have hsl : ∀ i ∈ slots tg, i ∈ own := fun i hi => by
        obtain ⟨j, hj, e⟩ := List.any_eq_true.mp (List.all_eq_true.mp k4 i hi)
        rw [eq_of_beq e]
        exact hj
      have hblk := blkOk_by k1
      rw [← hN, ← hs] at hblk
      rw [← hN] at own_eq
      have P := pe_lc (g := fun v σ H Q => ∃ P : Hp, liftG (G.hide P) tg v σ H Q) (tt := fun σ H Q => ∃ P : Hp, liftT (G.hide P) (fun _ _ _ _ => False) (wpC R cond) σ H Q) (te := fun σ H Q => ∃ P : Hp, liftE (G.hide P) (fun _ _ _ _ => False) (wpE R elt) σ H Q)
        (pos := pos) (g.calm k7.2) g.nd (snd_W iter g hN hs k2) hblk
        (fun s H C cl fp => PG.ex fun P => snd_G (G := G.hide P) (X := X.blk s H scope (compEnvC scope cl C X.env) fp) (sc := relS scope sc) (top := false) g.hK hN g.nd (env_relS hs) (g.calm k7.2) (fun z => by cases z) tg k3)
        (fun s H C cl fp => PTs.ex fun P => snd_F cond ((g.hide P).blk) hN (env_relS hs) k5)
        (fun s H C cl fp => PE.ex fun P => (snd_E elt ((g.hide P).blk) hN (env_relS hs) k6).E) (fold_ok k7.1)
      rw [own_eq] at P
      exact PE.imp P fun σ H Q q => comp_read hsl q
    · cases h
  | .nil, G, W, X, sc, e, g, hN, hs, h => by cases h
  | .cons _ _, G, W, X, sc, e, g, hN, hs, h => by cases h
  | .part _, G, W, X, sc, e, g, hN, hs, h => by cases h
  | .nopart, G, W, X, sc, e, g, hN, hs, h => by cases h
  | .itl _, G, W, X, sc, e, g, hN, hs, h => by cases h
  | .itt _, G, W, X, sc, e, g, hN, hs, h => by cases h
  | .its _, G, W, X, sc, e, g, hN, hs, h => by cases h
  | .it1 _, G, W, X, sc, e, g, hN, hs, h => by cases h
  | .it2 _ _, G, W, X, sc, e, g, hN, hs, h => by cases h
  | .it3 _ _ _, G, W, X, sc, e, g, hN, hs, h => by cases h
  | .ite _, G, W, X, sc, e, g, hN, hs, h => by cases h
  | .itz _ _, G, W, X, sc, e, g, hN, hs, h => by cases h
theorem snd_A : ∀ (ex : Ex) {G : Gx} {W : WX} {X : Cx} {sc : Scope} {es : List Expr}, Good G tb R k W X → X.N = N → X.env.scope = sc → chkA tb N ex sc es = true → PA X es (liftA G W (wpA R ex))
  | .nil, G, W, X, sc, es, g, hN, hs, h => by
    unfold chkA at h; split at h
    · exact PA.imp pa_nil fun σ H Q ⟨F, M, env, q, e, rm, er, cn, cx, h⟩ => cn F M H _ _ (Same.refl F) rm .nil h
    · cases h
  | .cons x xs, G, W, X, sc, es, g, hN, hs, h => by
    unfold chkA at h; split at h
    · rw [Bool.and_eq_true, Bool.and_eq_true] at h
      refine PA.imp (pa_cons (snd_E x g hN hs h.1.1).E (snd_A xs g hN hs h.2) (star_ok h.1.2)) fun σ H Q ⟨F, M, env, q, e, rm, er, cn, cx, h⟩ => ?_
      refine enter rm er cx h fun F1 M1 H1 v1 d1 s1 rm1 er1 cx1 r1 h => enterA rm1 er1 cx1 h fun F2 M2 H2 vs ds s2 rm2 er2 cx2 rs h => ?_
      exact cn F2 M2 H2 _ _ (s1.trans s2) rm2 (.cons (r1.mono s2) rs) h
    · cases h
  | .var _, G, W, X, sc, es, g, hN, hs, h => by cases h
  | .non, G, W, X, sc, es, g, hN, hs, h => by cases h
  | .bl _, G, W, X, sc, es, g, hN, hs, h => by cases h
  | .int _, G, W, X, sc, es, g, hN, hs, h => by cases h
  | .str _, G, W, X, sc, es, g, hN, hs, h => by cases h
  | .glob _ _, G, W, X, sc, es, g, hN, hs, h => by cases h
  | .bin _ _ _ _, G, W, X, sc, es, g, hN, hs, h => by cases h
  | .neg _, G, W, X, sc, es, g, hN, hs, h => by cases h
  | .not _, G, W, X, sc, es, g, hN, hs, h => by cases h
  | .and _ _, G, W, X, sc, es, g, hN, hs, h => by cases h
  | .or _ _, G, W, X, sc, es, g, hN, hs, h => by cases h
  | .cmp _ _ _, G, W, X, sc, es, g, hN, hs, h => by cases h
  | .ch2 _ _ _ _ _, G, W, X, sc, es, g, hN, hs, h => by cases h
  | .ch3 _ _ _ _ _ _ _, G, W, X, sc, es, g, hN, hs, h => by cases h
  | .ife _ _ _, G, W, X, sc, es, g, hN, hs, h => by cases h
  | .tup _, G, W, X, sc, es, g, hN, hs, h => by cases h
  | .lst _ _, G, W, X, sc, es, g, hN, hs, h => by cases h
  | .emp, G, W, X, sc, es, g, hN, hs, h => by cases h
  | .dct _ _, G, W, X, sc, es, g, hN, hs, h => by cases h
  | .dget _ _, G, W, X, sc, es, g, hN, hs, h => by cases h
  | .call _ _, G, W, X, sc, es, g, hN, hs, h => by cases h
  | .cll _ _ _, G, W, X, sc, es, g, hN, hs, h => by cases h
  | .bi _ _ _, G, W, X, sc, es, g, hN, hs, h => by cases h
  | .isi _ _, G, W, X, sc, es, g, hN, hs, h => by cases h
  | .ist _ _, G, W, X, sc, es, g, hN, hs, h => by cases h
  | .dgt _ _, G, W, X, sc, es, g, hN, hs, h => by cases h
  | .itr _, G, W, X, sc, es, g, hN, hs, h => by cases h
  | .isx _ _, G, W, X, sc, es, g, hN, hs, h => by cases h
  | .ixs _ _, G, W, X, sc, es, g, hN, hs, h => by cases h
  | .atr _ _, G, W, X, sc, es, g, hN, hs, h => by cases h
  | .bm _ _ _ _, G, W, X, sc, es, g, hN, hs, h => by cases h
  | .fld _ _, G, W, X, sc, es, g, hN, hs, h => by cases h
  | .mth _ _ _ _ _, G, W, X, sc, es, g, hN, hs, h => by cases h
  | .mk _ _ _, G, W, X, sc, es, g, hN, hs, h => by cases h
  | .idx _ _, G, W, X, sc, es, g, hN, hs, h => by cases h
  | .sli _ _ _ _, G, W, X, sc, es, g, hN, hs, h => by cases h
  | .rev _ _, G, W, X, sc, es, g, hN, hs, h => by cases h
  | .lrg _ _, G, W, X, sc, es, g, hN, hs, h => by cases h
  | .comp _ _ _ _ _ _, G, W, X, sc, es, g, hN, hs, h => by cases h
  | .part _, G, W, X, sc, es, g, hN, hs, h => by cases h
  | .nopart, G, W, X, sc, es, g, hN, hs, h => by cases h
  | .itl _, G, W, X, sc, es, g, hN, hs, h => by cases h
  | .itt _, G, W, X, sc, es, g, hN, hs, h => by cases h
  | .its _, G, W, X, sc, es, g, hN, hs, h => by cases h
  | .it1 _, G, W, X, sc, es, g, hN, hs, h => by cases h
  | .it2 _ _, G, W, X, sc, es, g, hN, hs, h => by cases h
  | .it3 _ _ _, G, W, X, sc, es, g, hN, hs, h => by cases h
  | .ite _, G, W, X, sc, es, g, hN, hs, h => by cases h
  | .itz _ _, G, W, X, sc, es, g, hN, hs, h => by cases h
theorem snd_D : ∀ (ex : Ex) {G : Gx} {W : WX} {X : Cx} {sc : Scope} {ks : List (Sum Int Str)} {keys : List (Option Expr)} {es : List Expr} {pos : Pos}, Good G tb R k W X → X.N = N → X.env.scope = sc → chkK ks keys = true → chkA tb N ex sc es = true → es.length = ks.length → PPs X pos keys es (trsOf G W R ks ex)
  | .nil, G, W, X, sc, ks, keys, es, pos, g, hN, hs, hk, h, hl => by
    unfold chkA at h; split at h
    · have : ks = [] := List.eq_nil_of_length_eq_zero hl.symm
      subst this
      have h2 := chkK_len hk
      have : keys = [] := List.eq_nil_of_length_eq_zero h2
      subst this
      exact pps_nil
    · cases h
  | .cons x xs, G, W, X, sc, ks, keys, es, pos, g, hN, hs, hk, h, hl => by
    unfold chkA at h; split at h
    · rename_i e' es'
      rw [Bool.and_eq_true, Bool.and_eq_true] at h
      match ks, keys, hk, hl with
      | k0 :: ks, e0 :: keys, hk, hl =>
        unfold chkK at hk
        rw [Bool.and_eq_true] at hk
        obtain ⟨e1, rfl⟩ := keyB_some hk.1
        exact pps_cons (key_pe hk.1) (snd_E x g hN hs h.1.1).E (snd_D xs g hN hs hk.2 h.2 (by simpa using hl))
      | [], _, _, hl => cases hl
      | _ :: _, [], hk, _ => cases hk
    · cases h
  | .var _, G, W, X, sc, ks, keys, es, pos, g, hN, hs, hk, h, hl => by cases h
  | .non, G, W, X, sc, ks, keys, es, pos, g, hN, hs, hk, h, hl => by cases h
  | .bl _, G, W, X, sc, ks, keys, es, pos, g, hN, hs, hk, h, hl => by cases h
  | .int _, G, W, X, sc, ks, keys, es, pos, g, hN, hs, hk, h, hl => by cases h
  | .str _, G, W, X, sc, ks, keys, es, pos, g, hN, hs, hk, h, hl => by cases h
  | .glob _ _, G, W, X, sc, ks, keys, es, pos, g, hN, hs, hk, h, hl => by cases h
  | .bin _ _ _ _, G, W, X, sc, ks, keys, es, pos, g, hN, hs, hk, h, hl => by cases h
  | .neg _, G, W, X, sc, ks, keys, es, pos, g, hN, hs, hk, h, hl => by cases h
  | .not _, G, W, X, sc, ks, keys, es, pos, g, hN, hs, hk, h, hl => by cases h
  | .and _ _, G, W, X, sc, ks, keys, es, pos, g, hN, hs, hk, h, hl => by cases h
  | .or _ _, G, W, X, sc, ks, keys, es, pos, g, hN, hs, hk, h, hl => by cases h
  | .cmp _ _ _, G, W, X, sc, ks, keys, es, pos, g, hN, hs, hk, h, hl => by cases h
  | .ch2 _ _ _ _ _, G, W, X, sc, ks, keys, es, pos, g, hN, hs, hk, h, hl => by cases h
  | .ch3 _ _ _ _ _ _ _, G, W, X, sc, ks, keys, es, pos, g, hN, hs, hk, h, hl => by cases h
  | .ife _ _ _, G, W, X, sc, ks, keys, es, pos, g, hN, hs, hk, h, hl => by cases h
  | .tup _, G, W, X, sc, ks, keys, es, pos, g, hN, hs, hk, h, hl => by cases h
  | .lst _ _, G, W, X, sc, ks, keys, es, pos, g, hN, hs, hk, h, hl => by cases h
  | .emp, G, W, X, sc, ks, keys, es, pos, g, hN, hs, hk, h, hl => by cases h
  | .dct _ _, G, W, X, sc, ks, keys, es, pos, g, hN, hs, hk, h, hl => by cases h
  | .dget _ _, G, W, X, sc, ks, keys, es, pos, g, hN, hs, hk, h, hl => by cases h
  | .call _ _, G, W, X, sc, ks, keys, es, pos, g, hN, hs, hk, h, hl => by cases h
  | .cll _ _ _, G, W, X, sc, ks, keys, es, pos, g, hN, hs, hk, h, hl => by cases h
  | .bi _ _ _, G, W, X, sc, ks, keys, es, pos, g, hN, hs, hk, h, hl => by cases h
  | .isi _ _, G, W, X, sc, ks, keys, es, pos, g, hN, hs, hk, h, hl => by cases h
  | .ist _ _, G, W, X, sc, ks, keys, es, pos, g, hN, hs, hk, h, hl => by cases h
  | .dgt _ _, G, W, X, sc, ks, keys, es, pos, g, hN, hs, hk, h, hl => by cases h
  | .itr _, G, W, X, sc, ks, keys, es, pos, g, hN, hs, hk, h, hl => by cases h
  | .isx _ _, G, W, X, sc, ks, keys, es, pos, g, hN, hs, hk, h, hl => by cases h
  | .ixs _ _, G, W, X, sc, ks, keys, es, pos, g, hN, hs, hk, h, hl => by cases h
  | .atr _ _, G, W, X, sc, ks, keys, es, pos, g, hN, hs, hk, h, hl => by cases h
  | .bm _ _ _ _, G, W, X, sc, ks, keys, es, pos, g, hN, hs, hk, h, hl => by cases h
  | .fld _ _, G, W, X, sc, ks, keys, es, pos, g, hN, hs, hk, h, hl => by cases h
  | .mth _ _ _ _ _, G, W, X, sc, ks, keys, es, pos, g, hN, hs, hk, h, hl => by cases h
  | .mk _ _ _, G, W, X, sc, ks, keys, es, pos, g, hN, hs, hk, h, hl => by cases h
  | .idx _ _, G, W, X, sc, ks, keys, es, pos, g, hN, hs, hk, h, hl => by cases h
  | .sli _ _ _ _, G, W, X, sc, ks, keys, es, pos, g, hN, hs, hk, h, hl => by cases h
  | .rev _ _, G, W, X, sc, ks, keys, es, pos, g, hN, hs, hk, h, hl => by cases h
  | .lrg _ _, G, W, X, sc, ks, keys, es, pos, g, hN, hs, hk, h, hl => by cases h
  | .comp _ _ _ _ _ _, G, W, X, sc, ks, keys, es, pos, g, hN, hs, hk, h, hl => by cases h
  | .part _, G, W, X, sc, ks, keys, es, pos, g, hN, hs, hk, h, hl => by cases h
  | .nopart, G, W, X, sc, ks, keys, es, pos, g, hN, hs, hk, h, hl => by cases h
  | .itl _, G, W, X, sc, ks, keys, es, pos, g, hN, hs, hk, h, hl => by cases h
  | .itt _, G, W, X, sc, ks, keys, es, pos, g, hN, hs, hk, h, hl => by cases h
  | .its _, G, W, X, sc, ks, keys, es, pos, g, hN, hs, hk, h, hl => by cases h
  | .it1 _, G, W, X, sc, ks, keys, es, pos, g, hN, hs, hk, h, hl => by cases h
  | .it2 _ _, G, W, X, sc, ks, keys, es, pos, g, hN, hs, hk, h, hl => by cases h
  | .it3 _ _ _, G, W, X, sc, ks, keys, es, pos, g, hN, hs, hk, h, hl => by cases h
  | .ite _, G, W, X, sc, ks, keys, es, pos, g, hN, hs, hk, h, hl => by cases h
  | .itz _ _, G, W, X, sc, ks, keys, es, pos, g, hN, hs, hk, h, hl => by cases h
theorem snd_P : ∀ (ex : Ex) {G : Gx} {W : WX} {X : Cx} {sc : Scope} {e : Option Expr}, Good G tb R k W X → X.N = N → X.env.scope = sc → chkP tb N ex sc e = true → PO X e (liftP G W (wpP R ex))
  | .nopart, G, W, X, sc, e, g, hN, hs, h => by
    unfold chkP at h; split at h
    · exact PO.imp po_none fun σ H Q ⟨F, M, env, q, e, rm, er, cn, cx, h⟩ => cn F M H _ (Same.refl F) rm h
    · cases h
  | .part x, G, W, X, sc, e, g, hN, hs, h => by
    unfold chkP at h; split at h
    · refine PO.imp (po_some (snd_E x g hN hs h).E) fun σ H Q ⟨F, M, env, q, e, rm, er, cn, cx, h⟩ => ?_
      refine enter rm er cx h fun F1 M1 H1 v1 d1 s1 rm1 er1 cx1 r1 h => ?_
      cases r1 <;> try exact (show False from h).elim
      exact ⟨_, rfl, cn F1 M1 H1 _ s1 rm1 h⟩
    · cases h
  | .var _, G, W, X, sc, e, g, hN, hs, h => by cases h
  | .non, G, W, X, sc, e, g, hN, hs, h => by cases h
  | .bl _, G, W, X, sc, e, g, hN, hs, h => by cases h
  | .int _, G, W, X, sc, e, g, hN, hs, h => by cases h
  | .str _, G, W, X, sc, e, g, hN, hs, h => by cases h
  | .glob _ _, G, W, X, sc, e, g, hN, hs, h => by cases h
  | .bin _ _ _ _, G, W, X, sc, e, g, hN, hs, h => by cases h
  | .neg _, G, W, X, sc, e, g, hN, hs, h => by cases h
  | .not _, G, W, X, sc, e, g, hN, hs, h => by cases h
  | .and _ _, G, W, X, sc, e, g, hN, hs, h => by cases h
  | .or _ _, G, W, X, sc, e, g, hN, hs, h => by cases h
  | .cmp _ _ _, G, W, X, sc, e, g, hN, hs, h => by cases h
  | .ch2 _ _ _ _ _, G, W, X, sc, e, g, hN, hs, h => by cases h
  | .ch3 _ _ _ _ _ _ _, G, W, X, sc, e, g, hN, hs, h => by cases h
  | .ife _ _ _, G, W, X, sc, e, g, hN, hs, h => by cases h
  | .tup _, G, W, X, sc, e, g, hN, hs, h => by cases h
  | .lst _ _, G, W, X, sc, e, g, hN, hs, h => by cases h
  | .emp, G, W, X, sc, e, g, hN, hs, h => by cases h
  | .dct _ _, G, W, X, sc, e, g, hN, hs, h => by cases h
  | .dget _ _, G, W, X, sc, e, g, hN, hs, h => by cases h
  | .nil, G, W, X, sc, e, g, hN, hs, h => by cases h
  | .cons _ _, G, W, X, sc, e, g, hN, hs, h => by cases h
  | .call _ _, G, W, X, sc, e, g, hN, hs, h => by cases h
  | .cll _ _ _, G, W, X, sc, e, g, hN, hs, h => by cases h
  | .bi _ _ _, G, W, X, sc, e, g, hN, hs, h => by cases h
  | .isi _ _, G, W, X, sc, e, g, hN, hs, h => by cases h
  | .ist _ _, G, W, X, sc, e, g, hN, hs, h => by cases h
  | .dgt _ _, G, W, X, sc, e, g, hN, hs, h => by cases h
  | .itr _, G, W, X, sc, e, g, hN, hs, h => by cases h
  | .isx _ _, G, W, X, sc, e, g, hN, hs, h => by cases h
  | .ixs _ _, G, W, X, sc, e, g, hN, hs, h => by cases h
  | .atr _ _, G, W, X, sc, e, g, hN, hs, h => by cases h
  | .bm _ _ _ _, G, W, X, sc, e, g, hN, hs, h => by cases h
  | .fld _ _, G, W, X, sc, e, g, hN, hs, h => by cases h
  | .mth _ _ _ _ _, G, W, X, sc, e, g, hN, hs, h => by cases h
  | .mk _ _ _, G, W, X, sc, e, g, hN, hs, h => by cases h
  | .idx _ _, G, W, X, sc, e, g, hN, hs, h => by cases h
  | .sli _ _ _ _, G, W, X, sc, e, g, hN, hs, h => by cases h
  | .rev _ _, G, W, X, sc, e, g, hN, hs, h => by cases h
  | .lrg _ _, G, W, X, sc, e, g, hN, hs, h => by cases h
  | .comp _ _ _ _ _ _, G, W, X, sc, e, g, hN, hs, h => by cases h
  | .itl _, G, W, X, sc, e, g, hN, hs, h => by cases h
  | .itt _, G, W, X, sc, e, g, hN, hs, h => by cases h
  | .its _, G, W, X, sc, e, g, hN, hs, h => by cases h
  | .it1 _, G, W, X, sc, e, g, hN, hs, h => by cases h
  | .it2 _ _, G, W, X, sc, e, g, hN, hs, h => by cases h
  | .it3 _ _ _, G, W, X, sc, e, g, hN, hs, h => by cases h
  | .ite _, G, W, X, sc, e, g, hN, hs, h => by cases h
  | .itz _ _, G, W, X, sc, e, g, hN, hs, h => by cases h
theorem snd_F : ∀ (ex : Ex) {G : Gx} {W : WX} {X : Cx} {sc : Scope} {es : List Expr}, Good G tb R k W X → X.N = N → X.env.scope = sc → chkF tb N ex sc es = true → PTs X es (liftT G W (wpC R ex))
  | .nopart, G, W, X, sc, es, g, hN, hs, h => by
    unfold chkF at h; split at h
    · exact PTs.imp pts_nil fun σ H Q ⟨F, M, env, q, e, rm, er, cn, cx, h⟩ => cn F M H _ (Same.refl F) rm h
    · cases h
  | .part x, G, W, X, sc, es, g, hN, hs, h => by
    unfold chkF at h; split at h
    · exact PTs.imp (pts_one (snd_E x g hN hs h).T) fun σ H Q h => h
    · cases h
  | .var _, G, W, X, sc, es, g, hN, hs, h => by cases h
  | .non, G, W, X, sc, es, g, hN, hs, h => by cases h
  | .bl _, G, W, X, sc, es, g, hN, hs, h => by cases h
  | .int _, G, W, X, sc, es, g, hN, hs, h => by cases h
  | .str _, G, W, X, sc, es, g, hN, hs, h => by cases h
  | .glob _ _, G, W, X, sc, es, g, hN, hs, h => by cases h
  | .bin _ _ _ _, G, W, X, sc, es, g, hN, hs, h => by cases h
  | .neg _, G, W, X, sc, es, g, hN, hs, h => by cases h
  | .not _, G, W, X, sc, es, g, hN, hs, h => by cases h
  | .and _ _, G, W, X, sc, es, g, hN, hs, h => by cases h
  | .or _ _, G, W, X, sc, es, g, hN, hs, h => by cases h
  | .cmp _ _ _, G, W, X, sc, es, g, hN, hs, h => by cases h
  | .ch2 _ _ _ _ _, G, W, X, sc, es, g, hN, hs, h => by cases h
  | .ch3 _ _ _ _ _ _ _, G, W, X, sc, es, g, hN, hs, h => by cases h
  | .ife _ _ _, G, W, X, sc, es, g, hN, hs, h => by cases h
  | .tup _, G, W, X, sc, es, g, hN, hs, h => by cases h
  | .lst _ _, G, W, X, sc, es, g, hN, hs, h => by cases h
  | .emp, G, W, X, sc, es, g, hN, hs, h => by cases h
  | .dct _ _, G, W, X, sc, es, g, hN, hs, h => by cases h
  | .dget _ _, G, W, X, sc, es, g, hN, hs, h => by cases h
  | .nil, G, W, X, sc, es, g, hN, hs, h => by cases h
  | .cons _ _, G, W, X, sc, es, g, hN, hs, h => by cases h
  | .call _ _, G, W, X, sc, es, g, hN, hs, h => by cases h
  | .cll _ _ _, G, W, X, sc, es, g, hN, hs, h => by cases h
  | .bi _ _ _, G, W, X, sc, es, g, hN, hs, h => by cases h
  | .isi _ _, G, W, X, sc, es, g, hN, hs, h => by cases h
  | .ist _ _, G, W, X, sc, es, g, hN, hs, h => by cases h
  | .dgt _ _, G, W, X, sc, es, g, hN, hs, h => by cases h
  | .itr _, G, W, X, sc, es, g, hN, hs, h => by cases h
  | .isx _ _, G, W, X, sc, es, g, hN, hs, h => by cases h
  | .ixs _ _, G, W, X, sc, es, g, hN, hs, h => by cases h
  | .atr _ _, G, W, X, sc, es, g, hN, hs, h => by cases h
  | .bm _ _ _ _, G, W, X, sc, es, g, hN, hs, h => by cases h
  | .fld _ _, G, W, X, sc, es, g, hN, hs, h => by cases h
  | .mth _ _ _ _ _, G, W, X, sc, es, g, hN, hs, h => by cases h
  | .mk _ _ _, G, W, X, sc, es, g, hN, hs, h => by cases h
  | .idx _ _, G, W, X, sc, es, g, hN, hs, h => by cases h
  | .sli _ _ _ _, G, W, X, sc, es, g, hN, hs, h => by cases h
  | .rev _ _, G, W, X, sc, es, g, hN, hs, h => by cases h
  | .lrg _ _, G, W, X, sc, es, g, hN, hs, h => by cases h
  | .comp _ _ _ _ _ _, G, W, X, sc, es, g, hN, hs, h => by cases h
  | .itl _, G, W, X, sc, es, g, hN, hs, h => by cases h
  | .itt _, G, W, X, sc, es, g, hN, hs, h => by cases h
  | .its _, G, W, X, sc, es, g, hN, hs, h => by cases h
  | .it1 _, G, W, X, sc, es, g, hN, hs, h => by cases h
  | .it2 _ _, G, W, X, sc, es, g, hN, hs, h => by cases h
  | .it3 _ _ _, G, W, X, sc, es, g, hN, hs, h => by cases h
  | .ite _, G, W, X, sc, es, g, hN, hs, h => by cases h
  | .itz _ _, G, W, X, sc, es, g, hN, hs, h => by cases h
theorem snd_W : ∀ (ex : Ex) {G : Gx} {W : WX} {X : Cx} {sc : Scope} {tg e : Expr}, Good G tb R k W X → X.N = N → X.env.scope = sc → chkW tb N ex sc (isTupT tg) e = true → PI X tg e (liftW G W (wpW R ex))
  | .itl x, G, W, X, sc, tg, e, g, hN, hs, h => by
    have A := (snd_E x g hN hs h).E
    refine PI.imp (pi_both A) fun σ H Q ⟨F, M, env, q, e, rm, er, cn, cx, h⟩ => ?_
    refine enter rm er cx h fun F1 M1 H1 v1 d1 s1 rm1 er1 cx1 r1 h => ?_
    have lists : (match asL M1 d1 with
      | some ds => q ⟨ds, stillAt d1 ds⟩ M1
      | none => False) → ∃ a, v1 = .ref a ∧ ((∃ xs, SqL X.K H1 a xs) ∧ Q (Itl X.K a) H1 ∨ (∃ xs, SqT X.K H1 a xs) ∧ Q (Itt X.K a) H1) := fun h => by
      cases e1 : asL M1 d1 with
      | none => rw [e1] at h; exact h.elim
      | some ds =>
        rw [e1] at h
        obtain ⟨a, vs, rfl, g1, g2, st, hst⟩ := still_of rm1 r1 e1
        rw [g.hK]
        exact ⟨a, rfl, .inl ⟨⟨vs, g1⟩, cn F1 M1 H1 _ _ s1 rm1 (real_L hst) h⟩⟩
    cases d1
    case tup ds =>
      cases r1
      rename_i a vs h1 h2
      rw [g.hK]
      exact ⟨a, rfl, .inr ⟨⟨vs, same_t rm1.fz h1⟩, cn F1 M1 H1 _ _ s1 rm1 (real_T h1 h2) h⟩⟩
    all_goals exact lists h
  | .itt x, G, W, X, sc, tg, e, g, hN, hs, h => by
    have A := (snd_E x g hN hs h).E
    refine PI.imp (pi_tup A) fun σ H Q ⟨F, M, env, q, e, rm, er, cn, cx, h⟩ => ?_
    refine enter rm er cx h fun F1 M1 H1 v1 d1 s1 rm1 er1 cx1 r1 h => ?_
    cases r1 <;> try exact (show False from h).elim
    rename_i a vs ds h1 h2
    rw [g.hK]
    exact ⟨a, rfl, ⟨vs, same_t rm1.fz h1⟩, cn F1 M1 H1 _ _ s1 rm1 (real_T h1 h2) h⟩
  | .its x, G, W, X, sc, tg, e, g, hN, hs, h => by
    have A := (snd_E x g hN hs h).E
    refine PI.imp (pi_str A) fun σ H Q ⟨F, M, env, q, e, rm, er, cn, cx, h⟩ => ?_
    refine enter rm er cx h fun F1 M1 H1 v1 d1 s1 rm1 er1 cx1 r1 h => ?_
    cases r1 <;> try exact (show False from h).elim
    exact ⟨_, rfl, cn F1 M1 H1 _ _ s1 rm1 real_S h⟩
  | .it1 a, G, W, X, sc, tg, e, g, hN, hs, h => by
    unfold chkW at h; split at h
    · rename_i x p a' pos
      simp only [Bool.and_eq_true] at h
      obtain ⟨⟨⟨k1, k2⟩, k3⟩, k4⟩ := h
      have e1 := of_decide_eq_true k1
      subst e1
      obtain ⟨g1, g2, g3⟩ := bn_of g hs k2
      have A := (snd_E a g hN hs k3).E
      refine PI.imp (pi_range1 g1 g3 (pa_cons A pa_nil (star_ok k4)) (star_ok k4)) fun σ H Q ⟨F, M, env, q, e, rm, er, cn, cx, h⟩ => ?_
      refine enter rm er cx h fun F1 M1 H1 v1 d1 s1 rm1 er1 cx1 r1 h => ?_
      cases r1 <;> try exact (show False from h).elim
      exact ⟨_, rfl, h.1.1, h.1.2, cn F1 M1 H1 _ _ s1 rm1 real_rng h.2⟩
    · cases h
  | .it2 a b, G, W, X, sc, tg, e, g, hN, hs, h => by
    unfold chkW at h; split at h
    · rename_i x p a' b' pos
      simp only [Bool.and_eq_true] at h
      obtain ⟨⟨⟨⟨⟨k1, k2⟩, k3⟩, k4⟩, k5⟩, k6⟩ := h
      have e1 := of_decide_eq_true k1
      subst e1
      obtain ⟨g1, g2, g3⟩ := bn_of g hs k2
      have A := (snd_E a g hN hs k3).E
      have B := (snd_E b g hN hs k5).E
      refine PI.imp (pi_range2 g1 g3 (pa_cons A (pa_cons B pa_nil (star_ok k6)) (star_ok k4)) (by rw [star_ok k4, star_ok k6]; rfl) (star_ok k6)) fun σ H Q ⟨F, M, env, q, e, rm, er, cn, cx, h⟩ => ?_
      refine enter rm er cx h fun F1 M1 H1 v1 d1 s1 rm1 er1 cx1 r1 h => enter rm1 er1 cx1 h fun F2 M2 H2 v2 d2 s2 rm2 er2 cx2 r2 h => ?_
      cases r1 <;> cases r2 <;> try exact (show False from h).elim
      exact ⟨_, _, rfl, ⟨h.1.1.1, h.1.1.2, h.1.2.1, h.1.2.2⟩, cn F2 M2 H2 _ _ (s1.trans s2) rm2 real_rng h.2⟩
    · cases h
  | .it3 a b c, G, W, X, sc, tg, e, g, hN, hs, h => by
    unfold chkW at h; split at h
    · rename_i x p a' b' c' pos
      simp only [Bool.and_eq_true] at h
      obtain ⟨⟨⟨⟨⟨⟨⟨k1, k2⟩, k3⟩, k4⟩, k5⟩, k6⟩, k7⟩, k8⟩ := h
      have e1 := of_decide_eq_true k1
      subst e1
      obtain ⟨g1, g2, g3⟩ := bn_of g hs k2
      have A := (snd_E a g hN hs k3).E
      have B := (snd_E b g hN hs k5).E
      have C := (snd_E c g hN hs k7).E
      refine PI.imp (pi_range3 g1 g3 (pa_cons A (pa_cons B (pa_cons C pa_nil (star_ok k8)) (star_ok k6)) (star_ok k4)) (star_ok k4) (by rw [star_ok k6, star_ok k8]; rfl)) fun σ H Q ⟨F, M, env, q, e, rm, er, cn, cx, h⟩ => ?_
      refine enter rm er cx h fun F1 M1 H1 v1 d1 s1 rm1 er1 cx1 r1 h => enter rm1 er1 cx1 h fun F2 M2 H2 v2 d2 s2 rm2 er2 cx2 r2 h => enter rm2 er2 cx2 h fun F3 M3 H3 v3 d3 s3 rm3 er3 cx3 r3 h => ?_
      obtain ⟨i, j, c, n, rfl, rfl, rfl, b1, h⟩ := walkR3_inv h
      cases r1; cases r2; cases r3
      exact ⟨_, _, _, _, rfl, b1, cn F3 M3 H3 _ _ (s1.trans (s2.trans s3)) rm3 real_rngC h⟩
    · cases h
  | .ite x, G, W, X, sc, tg, e, g, hN, hs, h => by
    unfold chkW at h; split at h
    · rename_i xn p e' pos
      simp only [Bool.and_eq_true] at h
      obtain ⟨⟨⟨⟨k0, k1⟩, k2⟩, k3⟩, k4⟩ := h
      obtain ⟨elts, kk, tp, rfl⟩ := tup_of k0
      have e1 := of_decide_eq_true k1
      subst e1
      obtain ⟨g1, g2, g3⟩ := bn_of g hs k2
      have A := (snd_E x g hN hs k3).E
      refine PI.imp (pi_enumA g1 g3 (pa_cons A pa_nil (star_ok k4)) (star_ok k4)) fun σ H Q ⟨F, M, env, q, e, rm, er, cn, cx, h⟩ => ?_
      refine enter rm er cx h fun F1 M1 H1 v1 d1 s1 rm1 er1 cx1 r1 h => ?_
      rw [g.hK]
      rcases enum_inv h with ⟨ds, rfl, h⟩ | ⟨ds, e1, h⟩
      · cases r1 with
        | tup h1 h2 => exact ⟨_, _, rfl, .inr ⟨same_t rm1.fz h1, cn F1 M1 H1 _ _ s1 rm1 (real_enumT h1 h2) h⟩⟩
      · obtain ⟨a, vs, rfl, g1, g2, st, hst⟩ := still_of rm1 r1 e1
        exact ⟨a, vs, rfl, .inl ⟨g1, cn F1 M1 H1 _ _ s1 rm1 (real_enum hst) h⟩⟩
    · cases h
  | .itr x, G, W, X, sc, tg, e, g, hN, hs, h => by
    unfold chkW at h; split at h
    · rename_i xn p e' pos
      simp only [Bool.and_eq_true] at h
      obtain ⟨⟨⟨k1, k2⟩, k3⟩, k4⟩ := h
      have e1 := of_decide_eq_true k1
      subst e1
      obtain ⟨g1, g2, g3⟩ := bn_of g hs k2
      have A := (snd_E x g hN hs k3).E
      refine PI.imp (pi_reversed g1 g3 (pa_cons A pa_nil (star_ok k4)) (star_ok k4)) fun σ H Q ⟨F, M, env, q, e, rm, er, cn, cx, h⟩ => ?_
      refine enter rm er cx h fun F1 M1 H1 v1 d1 s1 rm1 er1 cx1 r1 h => ?_
      cases e1 : asL M1 d1 with
      | none => rw [e1] at h; exact h.elim
      | some ds =>
        rw [e1] at h
        obtain ⟨a, vs, rfl, g1, g2, st, hst⟩ := still_of rm1 r1 e1
        rw [g.hK]
        exact ⟨a, vs, rfl, g1, cn F1 M1 H1 _ _ s1 rm1 (by rw [g2.len]; exact real_rev hst) h⟩
    · cases h
  | .itz a b, G, W, X, sc, tg, e, g, hN, hs, h => by
    unfold chkW at h; split at h
    · rename_i x p a' b' pos
      simp only [Bool.and_eq_true] at h
      obtain ⟨⟨⟨⟨⟨⟨k0, k1⟩, k2⟩, k3⟩, k4⟩, k5⟩, k6⟩ := h
      obtain ⟨elts, kk, tp, rfl⟩ := tup_of k0
      have e1 := of_decide_eq_true k1
      subst e1
      obtain ⟨g1, g2, g3⟩ := bn_of g hs k2
      have A := (snd_E a g hN hs k3).E
      have B := (snd_E b g hN hs k5).E
      refine PI.imp (RZ.pi_zipA g1 g3 (pa_cons A (pa_cons B pa_nil (star_ok k6)) (star_ok k4)) (star_ok k4) (by rw [star_ok k6]; rfl)) fun σ H Q ⟨F, M, env, q, e, rm, er, cn, cx, h⟩ => ?_
      refine enter rm er cx h fun F1 M1 H1 v1 d1 s1 rm1 er1 cx1 r1 h => enter rm1 er1 cx1 h fun F2 M2 H2 v2 d2 s2 rm2 er2 cx2 r2 h => ?_
      rw [g.hK]
      rcases zip_inv h with ⟨ds, es, rfl, rfl, h⟩ | ⟨ds, es, e1, e2, h⟩
      · have r1' := r1.mono s2
        cases r1' with
        | tup h1 h2 =>
          cases r2 with
          | tup j1 j2 => exact ⟨_, _, _, _, rfl, .inr ⟨same_t rm2.fz h1, same_t rm2.fz j1, cn F2 M2 H2 _ _ (s1.trans s2) rm2 (real_zipT h1 h2 j1 j2) h⟩⟩
      · obtain ⟨a, vs, rfl, g1, g2, st, hst⟩ := still_of rm2 (r1.mono s2) e1
        obtain ⟨b, ws, rfl, j1, j2, st2, hst2⟩ := still_of rm2 r2 e2
        exact ⟨a, b, vs, ws, rfl, .inl ⟨g1, j1, cn F2 M2 H2 _ _ (s1.trans s2) rm2 (real_zip hst hst2) h⟩⟩
    · cases h
  | .var _, G, W, X, sc, tg, e, g, hN, hs, h => by cases h
  | .non, G, W, X, sc, tg, e, g, hN, hs, h => by cases h
  | .bl _, G, W, X, sc, tg, e, g, hN, hs, h => by cases h
  | .int _, G, W, X, sc, tg, e, g, hN, hs, h => by cases h
  | .str _, G, W, X, sc, tg, e, g, hN, hs, h => by cases h
  | .glob _ _, G, W, X, sc, tg, e, g, hN, hs, h => by cases h
  | .bin _ _ _ _, G, W, X, sc, tg, e, g, hN, hs, h => by cases h
  | .neg _, G, W, X, sc, tg, e, g, hN, hs, h => by cases h
  | .not _, G, W, X, sc, tg, e, g, hN, hs, h => by cases h
  | .and _ _, G, W, X, sc, tg, e, g, hN, hs, h => by cases h
  | .or _ _, G, W, X, sc, tg, e, g, hN, hs, h => by cases h
  | .cmp _ _ _, G, W, X, sc, tg, e, g, hN, hs, h => by cases h
  | .ch2 _ _ _ _ _, G, W, X, sc, tg, e, g, hN, hs, h => by cases h
  | .ch3 _ _ _ _ _ _ _, G, W, X, sc, tg, e, g, hN, hs, h => by cases h
  | .ife _ _ _, G, W, X, sc, tg, e, g, hN, hs, h => by cases h
  | .tup _, G, W, X, sc, tg, e, g, hN, hs, h => by cases h
  | .lst _ _, G, W, X, sc, tg, e, g, hN, hs, h => by cases h
  | .emp, G, W, X, sc, tg, e, g, hN, hs, h => by cases h
  | .dct _ _, G, W, X, sc, tg, e, g, hN, hs, h => by cases h
  | .dget _ _, G, W, X, sc, tg, e, g, hN, hs, h => by cases h
  | .nil, G, W, X, sc, tg, e, g, hN, hs, h => by cases h
  | .cons _ _, G, W, X, sc, tg, e, g, hN, hs, h => by cases h
  | .call _ _, G, W, X, sc, tg, e, g, hN, hs, h => by cases h
  | .cll _ _ _, G, W, X, sc, tg, e, g, hN, hs, h => by cases h
  | .bi _ _ _, G, W, X, sc, tg, e, g, hN, hs, h => by cases h
  | .isi _ _, G, W, X, sc, tg, e, g, hN, hs, h => by cases h
  | .ist _ _, G, W, X, sc, tg, e, g, hN, hs, h => by cases h
  | .dgt _ _, G, W, X, sc, tg, e, g, hN, hs, h => by cases h
  | .isx _ _, G, W, X, sc, tg, e, g, hN, hs, h => by cases h
  | .ixs _ _, G, W, X, sc, tg, e, g, hN, hs, h => by cases h
  | .atr _ _, G, W, X, sc, tg, e, g, hN, hs, h => by cases h
  | .bm _ _ _ _, G, W, X, sc, tg, e, g, hN, hs, h => by cases h
  | .fld _ _, G, W, X, sc, tg, e, g, hN, hs, h => by cases h
  | .mth _ _ _ _ _, G, W, X, sc, tg, e, g, hN, hs, h => by cases h
  | .mk _ _ _, G, W, X, sc, tg, e, g, hN, hs, h => by cases h
  | .idx _ _, G, W, X, sc, tg, e, g, hN, hs, h => by cases h
  | .sli _ _ _ _, G, W, X, sc, tg, e, g, hN, hs, h => by cases h
  | .rev _ _, G, W, X, sc, tg, e, g, hN, hs, h => by cases h
  | .lrg _ _, G, W, X, sc, tg, e, g, hN, hs, h => by cases h
  | .part _, G, W, X, sc, tg, e, g, hN, hs, h => by cases h
  | .nopart, G, W, X, sc, tg, e, g, hN, hs, h => by cases h
  | .comp _ _ _ _ _ _, G, W, X, sc, tg, e, g, hN, hs, h => by cases h
end
end
end Wp

/-! WpM2: the same of statements and defs. -/
namespace Wp
open PySem
structure EndsLe (N N' : Ends) : Prop where
  nx : ∀ e M, N.nx e M → N'.nx e M
  rt : ∀ d M, N.rt d M → N'.rt d M
  bk : ∀ e M, N.bk e M → N'.bk e M
  ct : ∀ e M, N.ct e M → N'.ct e M
  ex : ∀ z e M, N.ex z e M → N'.ex z e M
theorem putW_mono {q q' : Mem → Prop} (hq : ∀ M, q M → q' M) {o i v : D} {M : Mem} : putW o i v M q → putW o i v M q' := by
  unfold putW
  split
  · split
    · split
      · exact hq _
      · exact id
    · exact id
  · exact id
theorem augW_mono {q q' : QK} (hq : ∀ d M, q d M → q' d M) {op : Operator} {x y : D} {M : Mem} : augW op x y M q → augW op x y M q' := by
  unfold augW
  split
  · exact hq _ _
  · exact hq _ _
  · exact id
theorem eachW_mono {body body' : Ends → Env → Mem → Prop} (hb : ∀ N N' e M, EndsLe N N' → body N e M → body' N' e M) {tg : Tg} {still : Mem → Prop} {N N' : Ends} (hN : EndsLe N N') :
    ∀ {items : List D} {env : Env} {M : Mem}, eachW body tg still N items env M → eachW body' tg still N' items env M
  | [], _, _, h => ⟨h.1, hN.nx _ _ h.2⟩
  | d :: ds, env, M, h => ⟨h.1, tgW_mono tg (fun e h => by
      refine hb _ _ _ _ ?_ h
      exact ⟨fun e M h => eachW_mono hb hN h, hN.rt, fun e M h => hN.nx e M h, fun e M h => eachW_mono hb hN h, hN.ex⟩) h.2⟩
theorem loopW_mono {test test' : Env → Mem → BK → Prop} {body body' : Ends → Env → Mem → Prop} (ht : ∀ e M q q', (∀ c M, q c M → q' c M) → test e M q → test' e M q') (hb : ∀ N N' e M, EndsLe N N' → body N e M → body' N' e M) {N N' : Ends} (hN : EndsLe N N') :
    ∀ {n : Nat} {env : Env} {M : Mem}, loopW test body N n env M → loopW test' body' N' n env M
  | 0, _, _, h => h.elim
  | n + 1, env, M, h => ht _ _ _ _ (fun c M1 h => by
      cases c with
      | true =>
        refine hb _ _ _ _ ?_ h
        exact ⟨fun e M h => loopW_mono ht hb hN h, hN.rt, fun e M h => hN.nx e M h, fun e M h => loopW_mono ht hb hN h, hN.ex⟩
      | false => exact hN.nx _ _ h) h
theorem tsW_mono {R R' : Nat → List D → Mem → QK → XQ → Prop} (hR : MonR R R') : ∀ (ts : List Ts) {ds : List D} {env : Env} {M : Mem} {Q Q' : Env → Mem → Prop} {E E' : Exn → Env → Mem → Prop}, (∀ e M, Q e M → Q' e M) → (∀ z e M, E z e M → E' z e M) → tsW R ts ds env M Q E → tsW R' ts ds env M Q' E'
  | [], [], env, M, Q, Q', E, E', hq, he, h => hq _ _ h
  | [], _ :: _, env, M, Q, Q', E, E', hq, he, h => h.elim
  | .nm i :: ts, [], env, M, Q, Q', E, E', hq, he, h => h.elim
  | .sb o i :: ts, [], env, M, Q, Q', E, E', hq, he, h => h.elim
  | .db o i :: ts, [], env, M, Q, Q', E, E', hq, he, h => h.elim
  | .nm i :: ts, d :: ds, env, M, Q, Q', E, E', hq, he, h => tsW_mono hR ts (ds := ds) hq he h
  | .sb o i :: ts, d :: ds, env, M, Q, Q', E, E', hq, he, h => (mon R R' hR o).E (fun a M2 h => (mon R R' hR i).E (fun k M3 h => putW_mono (fun M4 h => tsW_mono hR ts hq he h) h) (fun z M1 h => he _ _ _ h) h) (fun z M1 h => he _ _ _ h) h
  | .db o i :: ts, d :: ds, env, M, Q, Q', E, E', hq, he, h => (mon R R' hR o).E (fun a M2 h => (mon R R' hR i).E (fun k M3 h => dputW_mono (fun M4 h => tsW_mono hR ts hq he h) h) (fun z M1 h => he _ _ _ h) h) (fun z M1 h => he _ _ _ h) h
theorem clW_mono {t t' : Ends → Env → Mem → Prop} (ht : ∀ N N' e M, EndsLe N N' → t N e M → t' N' e M) {i : Option Nat} {N N' : Ends} (hN : EndsLe N N') {z : Exn} {env : Env} {M : Mem} : clW t i N z env M → clW t' i N' z env M := by
  unfold clW
  split
  · intro h p hp
    refine ht _ _ _ _ ?_ (h p hp)
    exact ⟨fun e M h => hN.nx _ _ h, hN.rt, fun e M h => hN.bk _ _ h, fun e M h => hN.ct _ _ h, fun _ _ _ h => h⟩
  · intro h
    refine ht _ _ _ _ ?_ h
    exact ⟨hN.nx, hN.rt, hN.bk, hN.ct, fun _ _ _ h => h⟩
theorem monS {R R' : Nat → List D → Mem → QK → XQ → Prop} (hR : MonR R R') (s : Sx) : ∀ {N N' : Ends} {env : Env} {M : Mem}, EndsLe N N' → wpS R s N env M → wpS R' s N' env M := by
  induction s with
  | nil => exact fun hN h => hN.nx _ _ h
  | seq s t hs ht =>
    intro N N' env M hN h
    refine hs ?_ h
    exact ⟨fun e M h => ht hN h, hN.rt, hN.bk, hN.ct, hN.ex⟩
  | asg tg e => exact fun hN h => (mon R R' hR e).E (fun x M1 h => tgW_mono tg (fun e' h => hN.nx _ _ h) h) (fun z M1 h => hN.ex _ _ _ h) h
  | sub o i e => exact fun hN h => (mon R R' hR e).E (fun x M1 h => (mon R R' hR o).E (fun a M2 h => (mon R R' hR i).E (fun k M3 h => putW_mono (fun M4 h => hN.nx _ _ h) h) (fun z M1 h => hN.ex _ _ _ h) h) (fun z M1 h => hN.ex _ _ _ h) h) (fun z M1 h => hN.ex _ _ _ h) h
  | dput o i e => exact fun hN h => (mon R R' hR e).E (fun x M1 h => (mon R R' hR o).E (fun a M2 h => (mon R R' hR i).E (fun k M3 h => dputW_mono (fun M4 h => hN.nx _ _ h) h) (fun z M1 h => hN.ex _ _ _ h) h) (fun z M1 h => hN.ex _ _ _ h) h) (fun z M1 h => hN.ex _ _ _ h) h
  | aug i op e =>
    intro N N' env M hN h
    revert h
    dsimp only [wpS]
    split
    · exact (mon R R' hR e).E (fun y M1 h => augW_mono (fun z M2 h => hN.nx _ _ h) h) (fun z M1 h => hN.ex _ _ _ h)
    · exact id
  | drop e => exact fun hN h => (mon R R' hR e).E (fun x M1 h => hN.nx _ _ h) (fun z M1 h => hN.ex _ _ _ h) h
  | ret e => exact fun hN h => (mon R R' hR e).E (fun x M1 h => hN.rt _ _ h) (fun z M1 h => hN.ex _ _ _ h) h
  | ife c s t hs ht => exact fun hN h => (mon R R' hR c).E (fun x M1 h => truW_mono (fun b M2 h => by
      cases b with
      | true => exact hs hN h
      | false => exact ht hN h) h) (fun z M1 h => hN.ex _ _ _ h) h
  | loop c s hs =>
    rintro N N' env M hN ⟨n, h⟩
    refine ⟨n, loopW_mono ?_ ?_ hN h⟩
    · exact fun e M q q' hq h => (mon R R' hR c).E (fun x M1 h => truW_mono hq h) (fun z M1 h => hN.ex _ _ _ h) h
    · exact fun N N' e M hN h => hs hN h
  | each tg w s hs =>
    intro N N' env M hN h
    refine (mon R R' hR w).W (fun w M1 h => ?_) (fun z M1 h => hN.ex _ _ _ h) h
    refine eachW_mono ?_ hN h
    exact fun N N' e M hN h => hs hN h
  | pass => exact fun hN h => hN.nx _ _ h
  | brk => exact fun hN h => hN.bk _ _ h
  | cnt => exact fun hN h => hN.ct _ _ h
  | never => exact fun hN h => h.elim
  | rse c f a => exact fun hN h => (mon R R' hR a).E (fun x M1 h => hN.ex _ _ _ h) (fun z M1 h => hN.ex _ _ _ h) h
  | rsp c a => exact fun hN h => (mon R R' hR a).E (fun x M1 h => hN.ex _ _ _ h) (fun z M1 h => hN.ex _ _ _ h) h
  | tri c i s t hs ht =>
    intro N N' env M hN h
    dsimp only [wpS] at h ⊢
    refine hs ?_ h
    refine ⟨hN.nx, hN.rt, hN.bk, hN.ct, fun z e M h => ?_⟩
    dsimp only at h ⊢
    revert h
    split
    · intro h p hp
      refine ht ?_ (h p hp)
      exact ⟨fun e M h => hN.nx _ _ h, hN.rt, fun e M h => hN.bk _ _ h, fun e M h => hN.ct _ _ h, fun _ _ _ h => h⟩
    · exact hN.ex _ _ _
  | trn c s t hs ht =>
    intro N N' env M hN h
    dsimp only [wpS] at h ⊢
    refine hs ?_ h
    refine ⟨hN.nx, hN.rt, hN.bk, hN.ct, fun z e M h => ?_⟩
    dsimp only at h ⊢
    revert h
    split
    · intro h
      refine ht ?_ h
      exact ⟨hN.nx, hN.rt, hN.bk, hN.ct, fun _ _ _ h => h⟩
    · exact hN.ex _ _ _
  | sfl o f e => exact fun hN h => (mon R R' hR e).E (fun x M1 h => (mon R R' hR o).E (fun a M2 h => sflW_mono (fun M3 h => hN.nx _ _ h) h) (fun z M1 h => hN.ex _ _ _ h) h) (fun z M1 h => hN.ex _ _ _ h) h
  | fau o f op e => exact fun hN h => (mon R R' hR o).E (fun a M1 h => fldW_mono (fun x M2 h => (mon R R' hR e).E (fun y M3 h => augW_mono (fun z M4 h => ⟨h.1, sflW_mono (fun M5 h => hN.nx _ _ h) h.2⟩) h) (fun z M1 h => hN.ex _ _ _ h) h) h) (fun z M1 h => hN.ex _ _ _ h) h
  | dau o i op e => exact fun hN h => (mon R R' hR o).E (fun a M1 h => (mon R R' hR i).E (fun k M2 h => dgetW_mono (fun x M3 h => (mon R R' hR e).E (fun y M4 h => augW_mono (fun z M5 h => dputW_mono (fun M6 h => hN.nx _ _ h) h) h) (fun z M1 h => hN.ex _ _ _ h) h) h) (fun z M1 h => hN.ex _ _ _ h) h) (fun z M1 h => hN.ex _ _ _ h) h
  | asu ts e => exact fun hN h => (mon R R' hR e).E (fun x M1 h => by
      revert h
      split
      · exact fun h => ⟨h.1, tsW_mono hR ts hN.nx hN.ex h.2⟩
      · exact id) (fun z M1 h => hN.ex _ _ _ h) h
  | rsb c es => exact fun hN h => (mon R R' hR es).A (fun ds M1 h => by
      revert h
      split
      · exact hN.ex _ _ _
      · exact hN.ex _ _ _
      · exact id) (fun z M1 h => hN.ex _ _ _ h) h
  | tr2 c i t d j u s ht hu hs =>
    intro N N' env M hN h
    dsimp only [wpS] at h ⊢
    refine hs ?_ h
    refine ⟨hN.nx, hN.rt, hN.bk, hN.ct, fun z e M h => ?_⟩
    dsimp only at h ⊢
    revert h
    split
    · exact clW_mono (t := wpS R t) (t' := wpS R' t) (fun N N' e M hN h => ht hN h) hN
    · split
      · exact clW_mono (t := wpS R u) (t' := wpS R' u) (fun N N' e M hN h => hu hN h) hN
      · exact hN.ex _ _ _
  | frz i =>
    intro N N' env M hN h
    revert h
    dsimp only [wpS]
    split
    · split
      · exact hN.nx _ _
      · exact id
    · exact id
theorem frz_mono {q q' : QK} (hq : ∀ d M, q d M → q' d M) {d : D} {M : Mem} (h : Frz d M q) : Frz d M q' := by
  revert q'
  induction h with
  | done h => exact fun hq => .done (hq _ _ h)
  | step e _ ih => exact fun hq => .step e (ih hq)
theorem run_mono (T : Nat → Option Fn) : ∀ k k', k ≤ k' → MonR (run T k) (run T k')
  | 0, _, _ => fun f ds M Q Q' E E' hq he h => h.elim
  | k + 1, 0, h => absurd h (by omega)
  | k + 1, k' + 1, hk => fun f ds M Q Q' E E' hq he h => by
    revert h
    dsimp only [run]
    split
    · intro h
      refine ⟨h.1, monS (run_mono T k k' (by omega)) _ ?_ h.2⟩
      exact ⟨fun _ M h => frz_mono hq h, fun d M h => frz_mono hq h, fun _ _ h => h, fun _ _ h => h, fun z _ M h => he z M h⟩
    · exact id
end Wp

/-! WpS10: statements, defs, the whole table. -/
namespace Wp
open PySem PySem.Spec PyProof.Rows L2

/-! ### the check -/
def isComp : Expr → Bool
  | .ListComp _ _ _ _ => true
  | .SetComp _ _ _ _ => true
  | .DictComp _ _ _ _ _ => true
  | _ => false
/-- a comprehension whose list goes to a name at once -/
def swB (sc : Scope) (y : Str) (py : Pos) : Expr → Bool
  | .ListComp _ _ scope pos => decide (sc.names.lookup y = some .local) && (py.line == pos.line) && !(scope.names.any fun (n, k) => n == y && (k == .local || k == .cell))
  | _ => false
def cellB (sc : Scope) (y : Str) : Bool := decide (sc.names.lookup y = some .cell)
def noSwapT : Expr → Expr → Bool
  | .Tuple _ _ _, e => !isTupT e
  | .List _ _, _ => false
  | _, _ => true
section
variable (tb : Tb) (N : List Str) (sc : Scope)
/-! an except suite -/
mutual
def chkV : Sx → Stmt → Bool
  | .sfl o f e, x0 => match x0 with
    | .Assign [.Attribute o' n _] e' _ => decide (f = n) && chkE tb N o sc o' && chkE tb N e sc e' && tb.of.any fun g => decide (g = f)
    | _ => false
  | .asg (.nm j) e, x0 => match x0 with
    | .Assign [.Name y _] e' _ => chkE tb N e sc e' && decide (N[j]? = some y) && locB sc true y && !isComp e'
    | _ => false
  | .ife c s t, x0 => match x0 with
    | .If c' a b _ => chkE tb N c sc c' && chkU s a && chkU t b
    | _ => false
  | .ret e, x0 => match x0 with
    | .Return (some e') _ => chkE tb N e sc e'
    | _ => false
  | .pass, x0 => match x0 with
    | .Pass _ => true
    | _ => false
  | _, _ => false
def chkU : Sx → List Stmt → Bool
  | .nil, x0 => match x0 with
    | [] => true
    | _ => false
  | .seq s t, x0 => match x0 with
    | st :: r => chkV s st && chkU t r
    | _ => false
  | _, _ => false
end
/-- targets side by side -/
def chkT : List Ts → List Expr → Bool
  | [], [] => true
  | .nm i :: ts, .Name x _ :: es => decide (N[i]? = some x) && locB sc true x && chkT ts es
  | .sb o i :: ts, .Subscript o' i' _ :: es => chkE tb N o sc o' && chkE tb N i sc i' && noSlice i' && chkT ts es
  | .db o i :: ts, .Subscript o' i' _ :: es => chkE tb N o sc o' && chkE tb N i sc i' && noSlice i' && chkT ts es
  | _, _ => false
/-- an except clause -/
def chkH (c : Nat) (i : Option Nat) (t : Sx) : ExceptHandler → Bool
  | .ExceptHandler (some (.Name x _)) n (b :: suite) _ => (tb.xc.any fun p => decide (p = (c, x))) && glB sc x && (match i, n with
    | some i, some n => decide (N[i]? = some n) && decide (sc.names.lookup n = some .local)
    | none, none => true
    | _, _ => false) && chkU tb.cold N sc t (b :: suite)
  | _ => false
mutual
def chkS : Sx → Stmt → Bool
  | .sfl o f e, x0 => match x0 with
    | .Assign [.Attribute o' n _] e' _ => decide (f = n) && chkE tb N o sc o' && chkE tb N e sc e' && tb.of.any fun g => decide (g = f)
    | _ => false
  | .fau o f op e, x0 => match x0 with
    | .AugAssign (.Attribute o' n _) op' e' _ => decide (op = op') && decide (f = n) && chkE tb N o sc o' && chkE tb N e sc e' && (op == .Add || op == .Sub) && tb.of.any fun g => decide (g = f)
    | _ => false
  | .dau o i op e, x0 => match x0 with
    | .AugAssign (.Subscript o' i' _) op' e' _ => decide (op = op') && chkE tb N o sc o' && chkE tb N i sc i' && noSlice i' && chkE tb N e sc e' && (op == .Add || op == .Sub)
    | _ => false
  | .asu ts e, x0 => match x0 with
    | .Assign [.Tuple tgs _ _] e' _ => chkT tb N sc ts tgs && chkE tb N e sc e' && !isTupT e'
    | _ => false
  | .rsb c es, x0 => match x0 with
    | .Raise (some (.Call (.Name x _) (a' :: es') [] _)) none _ => (tb.xc.any fun p => decide (p = (c, x))) && (tb.xb.any fun n => decide (n = c)) && glB sc x && chkA tb N es sc (a' :: es') && decide (es'.length ≤ 1)
    | _ => false
  | .tr2 c i t d j u s, x0 => match x0 with
    | .Try body [h1, h2] [] [] _ => chkL s body && chkH tb N sc c i t h1 && chkH tb N sc d j u h2
    | _ => false
  | .asg tg e, x0 => match x0 with
    | .Assign [tg'] e' _ => chkE tb N e sc e' && chkG N sc true tg tg' && noSwapT tg' e' && (match tg' with
      | .Name y py => swB sc y py e' || (!isComp e' || cellB sc y)
      | .Tuple _ _ _ => true
      | _ => false)
    | _ => false
  | .sub o i e, x0 => match x0 with
    | .Assign [.Subscript o' i' _] e' _ => chkE tb N o sc o' && chkE tb N i sc i' && noSlice i' && chkE tb N e sc e'
    | _ => false
  | .dput o i e, x0 => match x0 with
    | .Assign [.Subscript o' i' _] e' _ => chkE tb N o sc o' && chkE tb N i sc i' && noSlice i' && chkE tb N e sc e'
    | _ => false
  | .aug i op e, x0 => match x0 with
    | .AugAssign (.Name x _) op' e' _ => decide (op = op') && decide (N[i]? = some x) && locB sc true x && chkE tb N e sc e' && (op == .Add || op == .Sub)
    | _ => false
  | .drop e, x0 => match x0 with
    | .Expr e' _ => chkE tb N e sc e' && !isComp e'
    | _ => false
  | .ret e, x0 => match x0 with
    | .Return (some e') _ => chkE tb N e sc e'
    | _ => false
  | .ife c s t, x0 => match x0 with
    | .If c' a b _ => chkE tb N c sc c' && chkL s a && chkL t b
    | _ => false
  | .loop c s, x0 => match x0 with
    | .While c' a [] _ => chkE tb N c sc c' && chkL s a
    | _ => false
  | .each tg w s, x0 => match x0 with
    | .For tg' w' a [] _ => chkW tb N w sc (isTupT tg') w' && chkG N sc true tg tg' && chkL s a && noSet w'
    | _ => false
  | .pass, x0 => match x0 with
    | .Pass _ => true
    | _ => false
  | .brk, x0 => match x0 with
    | .Break _ => true
    | _ => false
  | .cnt, x0 => match x0 with
    | .Continue _ => true
    | _ => false
  | .never, _ => true
  | .rse c f a, x0 => match x0 with
    | .Raise (some (.Call (.Name x _) [a'] [] _)) none _ => (tb.xc.any fun p => decide (p = (c, x))) && (tb.xr.any fun p => decide (p = (c, f))) && glB sc x && chkE tb N a sc a' && noStar a'
    | _ => false
  | .rsp c a, x0 => match x0 with
    | .Raise (some (.Call (.Name x _) [a'] [] _)) none _ => (tb.xc.any fun p => decide (p = (c, x))) && (tb.xo.any fun n => decide (n = c)) && glB sc x && chkE tb N a sc a' && noStar a'
    | _ => false
  | .tri c i s t, x0 => match x0 with
    | .Try body [.ExceptHandler (some (.Name x _)) (some n) (b :: suite) _] [] [] _ => (tb.xc.any fun p => decide (p = (c, x))) && glB sc x && decide (N[i]? = some n) && decide (sc.names.lookup n = some .local) && chkL s body && chkU tb.cold N sc t (b :: suite)
    | _ => false
  | .trn c s t, x0 => match x0 with
    | .Try body [.ExceptHandler (some (.Name x _)) none (b :: suite) _] [] [] _ => (tb.xc.any fun p => decide (p = (c, x))) && glB sc x && chkL s body && chkU tb.cold N sc t (b :: suite)
    | _ => false
  | _, _ => false
def chkL : Sx → List Stmt → Bool
  | .nil, x0 => match x0 with
    | [] => true
    | _ => false
  | .seq s t, x0 => match s with
    | .frz _ => chkL t x0
    | s => match x0 with
      | st :: r => chkS s st && chkL t r
      | _ => false
  | _, _ => false
end
end

/-! ### readings -/
section
variable (G : Gx) (W : WX)
structure EndsR (F : Hp) (N : Wp.Ends) (D : L2.Ends) : Prop where
  nx : ∀ F' M' H' env' σ', Same F F' → RM G F' M' H' → EnvR G F' env' σ' → N.nx env' M' → D.nx σ' H'
  rt : ∀ F' M' H' v d, Same F F' → RM G F' M' H' → RelD G F' v d → N.rt d M' → D.rt v H'
  bk : ∀ F' M' H' env' σ', Same F F' → RM G F' M' H' → EnvR G F' env' σ' → N.bk env' M' → D.bk σ' H'
  ct : ∀ F' M' H' env' σ', Same F F' → RM G F' M' H' → EnvR G F' env' σ' → N.ct env' M' → D.ct σ' H'
  ex : ∀ F' M' H' env' σ' z c dd, Same F F' → RM G F' M' H' → EnvR G F' env' σ' → RelX G F' H' z c dd → N.ex z env' M' → W c dd σ' H'
def liftS (w : Wp.Ends → Env → Mem → Prop) : TS := fun D σ H => ∃ F M env N, RM G F M H ∧ EnvR G F env σ ∧ EndsR G W F N D ∧ w N env M
end
section
variable {G : Gx} {W : WX} {X : Cx}
theorem EndsR.mono {F F' : Hp} {N : Wp.Ends} {D : L2.Ends} (s : Same F F') (h : EndsR G W F N D) : EndsR G W F' N D :=
  ⟨fun F2 M H e σ s2 => h.nx F2 M H e σ (s.trans s2), fun F2 M H v d s2 => h.rt F2 M H v d (s.trans s2), fun F2 M H e σ s2 => h.bk F2 M H e σ (s.trans s2), fun F2 M H e σ s2 => h.ct F2 M H e σ (s.trans s2), fun F2 M H e σ z c dd s2 => h.ex F2 M H e σ z c dd (s.trans s2)⟩
theorem EndsR.cx {F : Hp} {N : Wp.Ends} {D : L2.Ends} {env : Env} {σ : L2.St} (h : EndsR G W F N D) (er : EnvR G F env σ) : CnX G F (fun z M => N.ex z env M) (fun c d H => W c d σ H) :=
  fun F' M' H' z c dd s rm rx q => h.ex F' M' H' env σ z c dd s rm (er.mono s) rx q
theorem PS.imp {st : Stmt} {t t' : TS} (h : PS X st t) (hi : ∀ D σ H, t' D σ H → t D σ H) : PS X st t' := ⟨fun pins s σ H D I q => h.run pins s σ H D I (hi _ _ _ q)⟩
theorem PSs.imp {st : List Stmt} {t t' : TS} (h : PSs X st t) (hi : ∀ D σ H, t' D σ H → t D σ H) : PSs X st t' := ⟨fun pins s σ H D I q => h.run pins s σ H D I (hi _ _ _ q)⟩
theorem nosw {e : Expr} {tg : Option Expr} {l : Nat} {env : PySem.Env} (h : isComp e = false) : swapsWith e tg l env = pure false := by
  cases e <;> first | rfl | cases h
theorem noswC {e : Expr} {y : Str} {py : Pos} {l : Nat} {env : PySem.Env} (h : env.kindOf y = some .cell) : swapsWith e (some (.Name y py)) l env = pure false := by
  have h2 : (env.kindOf y == some .local) = false := by rw [h]; rfl
  unfold swapsWith
  cases e <;> simp only [h2, Bool.and_false, Bool.false_and] <;> rfl
theorem noswT {e : Expr} {es : List Expr} {k : Nat} {p : Pos} {l : Nat} {env : PySem.Env} : swapsWithSole [.Tuple es k p] e l env = pure false := by
  cases e <;> rfl
theorem noswS {o i e : Expr} {p : Pos} {l : Nat} {env : PySem.Env} : swapsWithSole [.Subscript o i p] e l env = pure false := by
  cases e <;> rfl
theorem noswap {tg e : Expr} {env : PySem.Env} (h : noSwapT tg e = true) : swappedStores [tg] e env = pure none := by
  cases tg <;> cases e <;> first | rfl | cases h
theorem set_ok {o i : Expr} {p : Pos} (h : noSlice i = true) : ∀ v, assign (.Subscript o i p) X.env v = (do
      let ov ← holding [v] (eval o X.env)
      let iv ← holding [v, ov] (eval i X.env)
      standAt p
      holding [v, ov, iv] (setItem ov iv v)
      release [v, ov, iv] []) := by
  intro v
  cases i <;> first | rfl | cases h
end
end Wp

/-! WpE2: several except clauses, each with a name or without one. -/
namespace L2
open PySem PySem.Spec PyProof.Rows
/-- what a clause wishes of an exception of the body -/
def wCl (i : Option Nat) (ts : TS) (D : Ends) (cls : Value) (d : Option Addr) (σ : St) (H : Hp) : Prop :=
  match i with
  | some i => ∀ a, H a = none → ts { nx := fun σ' H' => D.nx (σ'.set i none) H', rt := D.rt, bk := fun σ' H' => D.bk (σ'.set i none) H', ct := fun σ' H' => D.ct (σ'.set i none) H' } (σ.set i (some (.ref a))) (upd H a (ExH cls d a))
  | none => ts D σ H
/-- .. all of them, one after the other -/
def wHds (K : PySem.W.Frag) (Wout : WX) (D : Ends) : List (Value × Option Nat × TS) → WX
  | [] => Wout
  | (c, i, ts) :: r => fun cls d σ H => ∃ b, PySem.W.exmOne K cls c = some b ∧ (b = true → wCl i ts D cls d σ H) ∧ (b = false → wHds K Wout D r cls d σ H)
inductive HdO (X : Cx) : List ExceptHandler → List (Value × Option Nat × TS) → Prop
  | nil : HdO X [] []
  | nmd {x n : Str} {c : Value} {i : Nat} {ts : TS} {b₀ : Stmt} {suite : List Stmt} {np pos' : Pos} {hds : List ExceptHandler} {l : List (Value × Option Nat × TS)} (hc : Names X x c) (hi : X.N[i]? = some n) (hln : X.env.kindOf n = some .local)
      (hsu : ∀ (a : Addr) (pn : List (Addr × Obj)), PSs (X.suite a pn) (b₀ :: suite) ts) (r : HdO X hds l) : HdO X (.ExceptHandler (some (.Name x np)) (some n) (b₀ :: suite) pos' :: hds) ((c, some i, ts) :: l)
  | bare {x : Str} {c : Value} {ts : TS} {b₀ : Stmt} {suite : List Stmt} {np pos' : Pos} {hds : List ExceptHandler} {l : List (Value × Option Nat × TS)} (hc : Names X x c)
      (hsu : ∀ (a : Addr) (pn : List (Addr × Obj)), PSs (X.suite a pn) (b₀ :: suite) ts) (r : HdO X hds l) : HdO X (.ExceptHandler (some (.Name x np)) none (b₀ :: suite) pos' :: hds) ((c, none, ts) :: l)
section
variable {X : Cx} {body : List Stmt} {h₀ : ExceptHandler} {hds : List ExceptHandler} {l : List (Value × Option Nat × TS)} {pos : Pos} {tb : WX → TS} {Wout : WX}
theorem ps_try_hds (hex : X.ex = []) (hs : X.stack = X.env :: X.outer) (hf : X.env.frame = some X.env.locals) (hN : X.N.Nodup) (tk : Takes X Wout)
    (hb : ∀ (W : WX) (pn : List (Addr × Obj)) (xe : Value → Shared → Prop), Takes (X.tr pn xe) W → PassesOwn (model X.prog X.w) X.A X.env xe → PSs (X.tr pn xe) body (tb W))
    (hh : HdO X (h₀ :: hds) l) : PS X (.Try body (h₀ :: hds) [] [] pos) (fun D σ H => tb (wHds X.K Wout D l) D σ H) := by
  refine ⟨fun pins s σ H D I h => ?_⟩
  have ok := I.ok
  have hfr : X.A.frames = some (X.env :: X.outer) := by rw [ok.frames, hs]
  refine wpAny_Try_except ?_
  refine wpAny_mono ((hb (wHds X.K Wout D l) (X.pn ++ pins) (fun e s₁ => wpAny (model X.prog X.w) X.A (noteFrame e X.env) (fun _ s₂ => wpAny (model X.prog X.w) X.A (setFlight e none) (fun _ s₃ =>
    wpAny (model X.prog X.w) X.A (handleBy e X.env (h₀ :: hds)) (SP X pins D) X.xe s₃) X.xe s₂) X.xe s₁) (fun u s' xx => ?_) PassesOwn.looking).run [] s σ H D (I.toTry _) h) (fun f s1 hsp => ?_) (fun e s1 he => he)
  · obtain ⟨a, B, sI, pins', σ', H', cls, d, rfl, J', nb, up, sky, na, os, ag, w⟩ := xx
    have J : Inv X pins σ' H' sI := J'.ofTry ok
    have sky' : Sky B (X.env :: X.outer) a (Zc cls d) X.env.locals s'.heap := by rw [← hs]; exact sky
    show wpAny (model X.prog X.w) X.A (noteFrame (.ref a) X.env) _ _ _
    refine Sky.land Zc.steady hfr hf sky' fun h3 fl3 up3 => ?_
    have J3 : Inv X pins σ' H' { s' with heap := h3 } := J.landed nb fl3.1 (up.trans up3) os ag
    obtain ⟨oe3, vs3, he3, hz3, hd3⟩ := fl3.there
    have nfr : a ∉ frs (X.env :: X.outer) := fun hm => by
      obtain ⟨_, o', e', hnf⟩ := fl3.2.2.1.mem hm
      rw [he3] at e'; cases e'
      exact hnf _ hd3
    have nL : a ≠ X.env.locals := fun z => nfr (List.mem_filterMap.mpr ⟨X.env, List.mem_cons_self, by rw [hf, z]⟩)
    have nI : sI.heap.get? a = none := by
      cases q : sI.heap.get? a with
      | none => rfl
      | some o =>
        have z := nb a o q (by rw [hs]; exact nfr)
        rw [fl3.2.1] at z
        cases z
    have n0 : X.s_0.heap.get? a = none := by
      cases q : X.s_0.heap.get? a with
      | none => rfl
      | some o =>
        obtain ⟨o', z⟩ := J.base.there a o q (by rw [hex]; exact fun z => nomatch z)
        rw [nI] at z
        cases z
    have npn : ∀ p ∈ X.pn ++ pins, p.1 ≠ a := fun p hp z => by
      have q := (J.pin p hp).1
      rw [z, nI] at q
      cases q
    have S3 := J3.suite0 a
    have LT : PySem.W.Looks (model X.prog X.w) h3 (typeOf (.ref a)) cls := fun A Q E s k q => wpAny_typeOf_ref (k _ _ he3) (by rw [hz3.1]; exact q)
    have go : ∀ {hds' : List ExceptHandler} {l' : List (Value × Option Nat × TS)}, HdO X hds' l' → wHds X.K Wout D l' cls d σ' H' →
        wpAny (model X.prog X.w) X.A (handleBy (.ref a) X.env hds') (SP X pins D) X.xe { s' with heap := h3 } := by
      intro hds' l' hk
      induction hk with
      | nil =>
        intro w
        refine wpAny_handleBy_nil ?_
        obtain ⟨k1, k2, k3, oe, vs, T, oT, ts', he, hz, hd, h1, hr⟩ := id fl3
        unfold PySem.passOn
        refine wpAny_bind (wpAny_field he hd h1 ?_)
        rw [if_neg (show ¬ ((Value.ref T == Value.none) = true) from by simp)]
        have fin : wpAny (model X.prog X.w) X.A (setFlight (.ref a) X.env.frame) (fun _ s4 => wpAny (model X.prog X.w) X.A (throw (.ref a) : Sem Flow) (SP X pins D) X.xe s4) X.xe { s' with heap := h3 } := by
          rw [hf]
          refine HandSPX.setFlight_upZ fl3 fun h4 hh4 up4 => wpAny_throw (tk _ _ ?_)
          exact ⟨a, B, sI, pins, σ', H', cls, d, rfl, J, nb, (up.trans up3).trans up4, .inr (.inr (by rw [hs]; exact hh4)), na, os, ag, w⟩
        first
          | exact wpAny_bind (wpAny_pure (wpAny_bind fin))
          | exact wpAny_bind fin
      | @nmd x n c i ts b₀ suite np pos' hds2 l2 hc hi hln hsu r ih =>
        intro w
        obtain ⟨b, hb1, hyes, hno⟩ := w
        refine wpAny_handleBy_cons (codeAny_handlers_test ?_) (by intro q; cases q)
        have LM := PySem.W.exm_one (M := model X.prog X.w) (J3.kIn) LT hb1
        have test : ∀ {Q : Value → Shared → Prop} {E : Value → Shared → Prop}, Q c { s' with heap := h3 } → wpAny (model X.prog X.w) (X.A.mark (some (.ref a))) (eval (.Name x np) X.env) Q E { s' with heap := h3 } := fun {Q E} q => by
          obtain ⟨hg, hdbg, hm | ⟨hm, hv, hnn⟩⟩ := hc
          · exact ld_glob (X := X.suite a (X.pn ++ pins)) S3 hg hm q hdbg
          · exact ld_blt (X := X.suite a (X.pn ++ pins)) S3 hg hm hv q hnn hdbg
        refine test (LM.here ?_)
        have hloc : Loc X.env.scope n := .inl hln
        cases b with
        | true =>
          refine codeAny_handlers_suite_as ?_
          refine HandSPX.lands_againZ fl3 fun h4 fl4 up4 => ?_
          have J4 : Inv X pins σ' H' { s' with heap := h4 } := J.landed nb fl4.1 ((up.trans up3).trans up4) os ag
          obtain ⟨oe4, vs4, he4, hz4, hd4⟩ := fl4.there
          have J5 : Inv X pins σ' (upd H' a (ExH cls d a)) { s' with heap := h4 } := J4.track na n0 he4 hd4 nL npn (exH_ok he4 hz4 hd4)
          have S5 := J5.suite0 a
          refine store_ok (X := X.suite a (X.pn ++ pins)) (v := .ref a) S5 hN hi hloc rfl (fun s5 S5 => ?_) (.inr hln)
          refine wpAny_mono ((hsu a (X.pn ++ pins)).run [] s5 _ _ _ S5 (hyes rfl a na)) (fun f s6 hsp => ?_) (fun _ _ z => False.elim z)
          have end_ : ∀ {σ6 : St} {H6 : Hp} {Q : Shared → Prop}, Inv (X.suite a (X.pn ++ pins)) [] σ6 H6 s6 → (∀ s7, Inv X pins (σ6.set i none) H6 s7 → Q s7) →
              wpAny (model X.prog X.w) X.A (do bindName X.env n .none; unbindBehindTheSuite X.env n pos') (fun _ s7 => Q s7) X.xe s6 := fun {σ6 H6 Q} S6 hq => gone_ok (S6.unsuite0 ok) hN hi hln hq
          cases f with
          | next =>
            obtain ⟨σ6, H6, S6, q6⟩ := hsp
            exact end_ S6 fun s7 J7 => ⟨_, _, J7, q6⟩
          | brk =>
            obtain ⟨σ6, H6, S6, q6⟩ := hsp
            exact end_ S6 fun s7 J7 => ⟨_, _, J7, q6⟩
          | cont =>
            obtain ⟨σ6, H6, S6, q6⟩ := hsp
            exact end_ S6 fun s7 J7 => ⟨_, _, J7, q6⟩
          | ret u =>
            obtain ⟨v6, σ6, H6, S6, r6, q6⟩ := hsp
            exact end_ S6 fun s7 J7 => ⟨_, _, _, J7, r6, q6⟩
        | false =>
          show wpAny _ X.A (handleBy (.ref a) X.env hds2) _ _ _
          exact ih (hno rfl)
      | @bare x c ts b₀ suite np pos' hds2 l2 hc hsu r ih =>
        intro w
        obtain ⟨b, hb1, hyes, hno⟩ := w
        refine wpAny_handleBy_cons (codeAny_handlers_test ?_) (by intro q; cases q)
        have LM := PySem.W.exm_one (M := model X.prog X.w) (J3.kIn) LT hb1
        have test : ∀ {Q : Value → Shared → Prop} {E : Value → Shared → Prop}, Q c { s' with heap := h3 } → wpAny (model X.prog X.w) (X.A.mark (some (.ref a))) (eval (.Name x np) X.env) Q E { s' with heap := h3 } := fun {Q E} q => by
          obtain ⟨hg, hdbg, hm | ⟨hm, hv, hnn⟩⟩ := hc
          · exact ld_glob (X := X.suite a (X.pn ++ pins)) S3 hg hm q hdbg
          · exact ld_blt (X := X.suite a (X.pn ++ pins)) S3 hg hm hv q hnn hdbg
        refine test (LM.here ?_)
        cases b with
        | true =>
          refine codeAny_handlers_suite ?_
          refine HandSPX.lands_againZ fl3 fun h4 fl4 up4 => ?_
          have J4 : Inv X pins σ' H' { s' with heap := h4 } := J.landed nb fl4.1 ((up.trans up3).trans up4) os ag
          have S4 := J4.suite0 a
          refine wpAny_mono ((hsu a (X.pn ++ pins)).run [] _ _ H' _ S4 (hyes rfl)) (fun f s6 hsp => ?_) (fun _ _ z => False.elim z)
          cases f with
          | next =>
            obtain ⟨σ6, H6, S6, q6⟩ := hsp
            exact ⟨_, _, S6.unsuite0 ok, q6⟩
          | brk =>
            obtain ⟨σ6, H6, S6, q6⟩ := hsp
            exact ⟨_, _, S6.unsuite0 ok, q6⟩
          | cont =>
            obtain ⟨σ6, H6, S6, q6⟩ := hsp
            exact ⟨_, _, S6.unsuite0 ok, q6⟩
          | ret u =>
            obtain ⟨v6, σ6, H6, S6, r6, q6⟩ := hsp
            exact ⟨_, _, _, S6.unsuite0 ok, r6, q6⟩
        | false =>
          show wpAny _ X.A (handleBy (.ref a) X.env hds2) _ _ _
          exact ih (hno rfl)
    exact go hh w
  · cases f with
    | next =>
      obtain ⟨σ', H', J', q⟩ := hsp
      exact wpAny_execs_nil ⟨σ', H', J'.ofTry ok, q⟩
    | brk =>
      obtain ⟨σ', H', J', q⟩ := hsp
      exact ⟨σ', H', J'.ofTry ok, q⟩
    | cont =>
      obtain ⟨σ', H', J', q⟩ := hsp
      exact ⟨σ', H', J'.ofTry ok, q⟩
    | ret u =>
      obtain ⟨v, σ', H', J', r, q⟩ := hsp
      exact ⟨v, σ', H', J'.ofTry ok, r, q⟩
end
end L2

/-! WpS11: statements, defs, the whole table: that the tree is enough for the text. -/
namespace Wp
open PySem PySem.Spec PyProof.Rows L2
theorem set_of {G : Gx} : PSet X (fun o i v H Q => ∃ F M a k x q, RM G F M H ∧ RelD G F o a ∧ RelD G F i k ∧ RelD G F v x ∧ putW a k x M q ∧ ∀ M' H', RM G F M' H' → q M' → Q H') := by
  intro pins s σ H o i v ov iv u Q I ro ri rv ⟨F, M, a, k, x, q, rm, r1, r2, r3, h, cn⟩
  unfold putW at h
  split at h
  · split at h
    · split at h
      · rename_i p k _ xs e1 _ j e2
        cases r1
        cases r2
        obtain ⟨vs, g1, g2⟩ := rd_loc rm e1
        refine set_list pins s σ H _ _ v ov iv u Q I ro ri rv ⟨p, vs, k, j, rfl, rfl, g1, by rw [g2.len]; exact e2, ?_⟩
        exact cn _ _ (rm.put (ob' := .lst (xs.set j x)) e1 ⟨_, upd_same, g2.set j r3⟩) h
      · exact h.elim
    · exact h.elim
  · exact h.elim
theorem ip_of {G : Gx} {X : Cx} {op : Operator} (ho : (op == .Add || op == .Sub) = true) : PIp X op (fun x y H Q => ∃ F M a b q, RM G F M H ∧ RelD G F x a ∧ RelD G F y b ∧ Cn G F q Q ∧ augW op a b M q) := by
  intro pins s σ H x y v u Q I r1 r2 ⟨F, M, a, b, q, rm, d1, d2, cn, h⟩
  unfold augW at h
  split at h
  · cases d1; cases d2
    exact ip_add pins s σ H _ _ v u Q I r1 r2 ⟨_, _, rfl, rfl, cn_here rm cn (.int _) h⟩
  · cases d1; cases d2
    exact ip_sub pins s σ H _ _ v u Q I r1 r2 ⟨_, _, rfl, rfl, cn_here rm cn (.int _) h⟩
  · exact h.elim
section
variable {tb : Tb} {R : Nat → List D → Mem → QK → XQ → Prop} {k : Nat} {N : List Str} {G : Gx} {W : WX} {X : Cx} {sc : Scope}
/-- a loop over things -/
theorem for_read {tg : Tg} {ww : Env → Mem → (Wk → Mem → Prop) → XQ → Prop} {ws : Wp.Ends → Env → Mem → Prop} {D : L2.Ends} {σ : L2.St} {H : Hp}
    (h : liftS G W (fun N env M => ww env M (fun w M1 => eachW ws tg w.still N w.items env M1) fun z M1 => N.ex z env M1) D σ H) : tFor (liftW G W ww) (liftG G tg) (liftS G W ws) D σ H := by
  obtain ⟨F, M, env, N, rm, er, en, h⟩ := h
  refine ⟨F, M, env, _, _, rm, er, fun F1 M1 H1 wk J s1 rm1 real hq => ?_, en.cx er, h⟩
  refine ⟨fun i m σ H => m = wk.items.length - i ∧ i ≤ wk.items.length ∧ ∃ F2 M2 env2, Same F1 F2 ∧ RM G F2 M2 H ∧ EnvR G F2 env2 σ ∧ eachW ws tg wk.still N (wk.items.drop i) env2 M2,
    ⟨wk.items.length, rfl, Nat.zero_le _, F1, M1, env, Same.refl _, rm1, er.mono s1, hq⟩, ?_⟩
  rintro i m σ H ⟨rfl, hi, F2, M2, env2, s2, rm2, er2, cw⟩
  by_cases hlt : i < wk.items.length
  · rw [List.drop_eq_getElem_cons hlt] at cw
    obtain ⟨st, cw⟩ := cw
    obtain ⟨rl, _⟩ := real G.P i F2 M2 H s2 rm2 st
    obtain ⟨go, yl⟩ := rl wk.items[i] (List.getElem?_eq_getElem hlt)
    refine .inr ⟨go, fun σ' H' => ∃ F2 M2 env2, Same F1 F2 ∧ RM G F2 M2 H' ∧ EnvR G F2 env2 σ' ∧ eachW ws tg wk.still N (wk.items.drop (i + 1)) env2 M2, fun σ' H' x => ⟨_, by omega, rfl, hlt, x⟩, fun x H3 y => ?_⟩
    obtain ⟨F3, s3, rm3, r3⟩ := yl x H3 y
    refine ⟨F3, M2, env2, _, _, rm3, er2.mono s3, r3, cw, fun env' σ' er' off cw => ?_⟩
    have en3 := en.mono (s1.trans (s2.trans s3))
    have ss := s2.trans s3
    refine ⟨F3, M2, env', _, rm3, er', ?_, cw⟩
    exact ⟨fun F4 M4 H4 e4 σ4 s4 rm4 er4 q => ⟨F4, M4, e4, ss.trans s4, rm4, er4, q⟩, en3.rt, en3.nx, fun F4 M4 H4 e4 σ4 s4 rm4 er4 q => ⟨F4, M4, e4, ss.trans s4, rm4, er4, q⟩, en3.ex⟩
  · have e1 : i = wk.items.length := by omega
    subst e1
    rw [List.drop_length] at cw
    obtain ⟨st, cw⟩ := cw
    exact .inl ⟨(real G.P _ F2 M2 H s2 rm2 st).2 rfl, en.nx F2 M2 H env2 σ (s1.trans s2) rm2 er2 cw⟩
theorem while_read {wt : Env → Mem → BK → XQ → Prop} {ws : Wp.Ends → Env → Mem → Prop} {D : L2.Ends} {σ : L2.St} {H : Hp}
    (h : liftS G W (fun N env M => ∃ n, loopW (fun e M Q => wt e M Q fun z M1 => N.ex z e M1) ws N n env M) D σ H) : tWhile (liftT G W wt) (liftS G W ws) D σ H := by
  obtain ⟨F, M, env, N, rm, er, en, n, h⟩ := h
  refine ⟨fun m σ H => ∃ F2 M2 env2, Same F F2 ∧ RM G F2 M2 H ∧ EnvR G F2 env2 σ ∧ loopW (fun e M Q => wt e M Q fun z M1 => N.ex z e M1) ws N m env2 M2, ⟨n, F, M, env, Same.refl _, rm, er, h⟩, ?_⟩
  rintro m σ H ⟨F2, M2, env2, s2, rm2, er2, cw⟩
  cases m with
  | zero => exact cw.elim
  | succ m =>
    refine ⟨F2, M2, env2, _, _, rm2, er2, fun F3 M3 H3 c s3 rm3 cw => ?_, (en.mono s2).cx er2, cw⟩
    have en3 := en.mono (s2.trans s3)
    cases c with
    | true =>
      show if true = true then _ else _
      rw [if_pos rfl]
      refine ⟨fun σ' H' => ∃ F2 M2 env2, Same F F2 ∧ RM G F2 M2 H' ∧ EnvR G F2 env2 σ' ∧ loopW (fun e M Q => wt e M Q fun z M1 => N.ex z e M1) ws N m env2 M2, fun σ' H' x => ⟨m, Nat.lt_succ_self _, x⟩, ?_⟩
      have ss := s2.trans s3
      refine ⟨F3, M3, env2, _, rm3, er2.mono s3, ?_, cw⟩
      exact ⟨fun F4 M4 H4 e4 σ4 s4 rm4 er4 q => ⟨F4, M4, e4, ss.trans s4, rm4, er4, q⟩, en3.rt, en3.nx, fun F4 M4 H4 e4 σ4 s4 rm4 er4 q => ⟨F4, M4, e4, ss.trans s4, rm4, er4, q⟩, en3.ex⟩
    | false =>
      show if false = true then _ else _
      rw [if_neg Bool.false_ne_true]
      exact en3.nx F3 M3 H3 env2 σ (Same.refl _) rm3 (er2.mono s3) cw
/-- a store to a target -/
theorem tg_read {F H : Hp} {M : Mem} {tg : Tg} {d : D} {v : V} {env : Env} {σ : L2.St} {N : Wp.Ends} {D : L2.Ends} (rm : RM G F M H) (er : EnvR G F env σ) (en : EndsR G W F N D) (r : RelD G F v d) (h : tgW tg d env fun e' => N.nx e' M) : liftG G tg v σ H D.nx :=
  ⟨F, M, env, d, _, rm, er, r, h, fun env' σ' er' _ q => en.nx F M H env' σ' (Same.refl _) rm er' q⟩
/-- a comprehension's list that goes to a name at once -/
theorem set_comp {e : Ex} {tg : Tg} {e' : Expr} {y : Str} {py pos : Pos} (g : Good G tb R k W X) (hN : X.N = N) (hs : X.env.scope = sc) (k1 : chkE tb N e sc e' = true) (hsw : swB sc y py e' = true) (k2 : chkG N sc true tg (.Name y py) = true) :
    PS X (.Assign [.Name y py] e' pos) (tAsg (liftE G W (wpE R e)) (liftG G tg)) := by
  refine ⟨fun pins s σ H D I q => ?_⟩
  have hk := I.ok.kind
  revert q
  cases tg with
  | no => cases k2
  | co _ _ => cases k2
  | nm i =>
    intro q
    have k2 : (decide (N[i]? = some y) && locB sc true y) = true := k2
    rw [Bool.and_eq_true] at k2
    unfold swB at hsw
    split at hsw
    · rename_i elt' gens scope p2
      simp only [Bool.and_eq_true] at hsw
      obtain ⟨⟨w1, w2⟩, w3⟩ := hsw
      have w1 : X.env.scope.names.lookup y = some .local := by rw [hs]; exact of_decide_eq_true w1
      cases e <;> first
        | (cases k1; done)
        | skip
      rename_i fr own tg iter cond elt
      unfold chkE at k1
      split at k1
      · rename_i hq
        injection hq with q1 q2 q3 q4
        subst q1 q2 q3 q4
        rename_i tg' iter' ifs' _
        simp only [Bool.and_eq_true] at k1
        obtain ⟨⟨⟨⟨⟨⟨k1, k3⟩, k4⟩, k5⟩, k6⟩, k7⟩, k8⟩ := k1
        have own_eq : (ownOf N own).map (·.2) = own := by
          unfold ownOf
          rw [List.map_map]
          exact (List.map_congr_left fun a _ => rfl).trans (List.map_id own)
        have hsl : ∀ i ∈ slots tg, i ∈ own := fun i hi => by
          obtain ⟨j, hj, e⟩ := List.any_eq_true.mp (List.all_eq_true.mp k5 i hi)
          rw [eq_of_beq e]
          exact hj
        have hblk := blkOk_by k1
        rw [← hN, ← hs] at hblk
        rw [← hN] at own_eq
        have P := ps_setLc (i := i) (spos := pos) (py := py) (g := fun v σ H Q => ∃ P : Hp, liftG (G.hide P) tg v σ H Q) (tt := fun σ H Q => ∃ P : Hp, liftT (G.hide P) (fun _ _ _ _ => False) (wpC R cond) σ H Q) (te := fun σ H Q => ∃ P : Hp, liftE (G.hide P) (fun _ _ _ _ => False) (wpE R elt) σ H Q)
          (pos := p2) (g.calm k8.2) g.nd (by rw [hN]; exact of_decide_eq_true k2.1) w1 (sw_true hk w1 w2 (by simpa using w3)) (snd_W iter g hN hs k3) hblk
          (fun s H C cl fp => PG.ex fun P => snd_G (G := G.hide P) (X := X.blk s H scope (compEnvC scope cl C X.env) fp) (sc := relS scope sc) (top := false) g.hK hN g.nd (env_relS hs) (g.calm k8.2) (fun z => by cases z) tg k4)
          (fun s H C cl fp => PTs.ex fun P => snd_F cond ((g.hide P).blk) hN (env_relS hs) k6)
          (fun s H C cl fp => PE.ex fun P => (snd_E elt ((g.hide P).blk) hN (env_relS hs) k7).E) (fold_ok k8.1)
        rw [own_eq] at P
        refine P.run pins s σ H D I (comp_read (fr := fr) hsl ?_)
        obtain ⟨F, M, env, q2, e, rm, er, cn, cx, h⟩ := q
        refine ⟨F, M, env, q2, e, rm, er, fun F1 M1 H1 v d s1 rm1 r1 hq => ?_, cx, h⟩
        obtain ⟨F2, M2, env2, d2, Qe, rm2, er2, r2, q3, k⟩ := cn F1 M1 H1 v d s1 rm1 r1 hq
        refine k _ _ (er2.set r2) ⟨List.length_set, fun j hj => ?_⟩ q3
        have : i ≠ j := fun z => hj (by subst z; exact List.mem_singleton.mpr rfl)
        exact List.getElem?_set_ne this
      · cases k1
    · cases hsw
/-- a def's own frame -/
structure FrOk (X : Cx) : Prop where
  ex : X.ex = []
  st : X.stack = X.env :: X.outer
  fr : X.env.frame = some X.env.locals
theorem any_mem {l : List (Nat × Str)} {q : Nat × Str} (h : (l.any fun p => decide (p = q)) = true) : q ∈ l := by
  obtain ⟨p, hp, e⟩ := List.any_eq_true.mp h
  rw [← of_decide_eq_true e]
  exact hp
theorem EnvR.wipe1 {G : Gx} {F : Hp} {env : Env} {σ : L2.St} (i : Nat) (h : EnvR G F env σ) : EnvR G F (env.set i none) (σ.set i none) := EnvR.wipe h [i]
theorem raise_heap {H : Hp} {a dx : Addr} {o1 o2 o3 o4 : HO} (n1 : H dx = none) (na : H a = none) (ne : dx ≠ a) : upd (L2.del (upd (upd (upd H a o1) dx o2) a o3) a) dx o4 = upd H dx o4 := by
  funext b
  by_cases h1 : b = dx
  · rw [h1, upd_same, upd_same]
  · rw [upd_ne h1, upd_ne h1]
    by_cases h2 : b = a
    · rw [h2, L2.del_same, na]
    · rw [L2.del_ne h2, upd_ne h2, upd_ne h1, upd_ne h2]
/-- in an except suite -/
theorem Good.cold {X : Cx} (g : Good G tb R k W X) (a : Addr) (pn : List (Addr × Obj)) : Good G tb.cold R k (fun _ _ _ _ => False) (X.suite a pn) :=
  ⟨g.hK, g.nd, fun z => (by cases z), fun z => (by cases z), g.un, fun f x e => (by cases e), fun b h => (by
    obtain ⟨_, h⟩ := List.mem_filter.mp h
    have q : (biNm b == "isinstance" || biNm b == "ValueError") = false := by cases b <;> decide +kernel
    rw [q] at h
    cases h), takes0, fun f x e => (by cases e), g.glb, fun x h => g.bnn x (List.mem_filter.mp h).1, fun f x ds M q e h => (by cases h), g.mon, g.k2, g.xt, fun c f x h => (by cases h), fun c x h => (by cases h), ⟨fun f c m e => (by cases e), fun f c m e => (by cases e), fun f c m ds M q e h => (by cases h), g.ob.cls, fun c x h => (by cases h), fun c x h => (by cases h)⟩⟩
theorem noswA {e o : Expr} {f : Str} {p : Pos} {l : Nat} {env : PySem.Env} : swapsWith e (some (.Attribute o f p)) l env = pure false := by
  cases e <;> rfl
theorem noswD {e o i : Expr} {p : Pos} {l : Nat} {env : PySem.Env} : swapsWith e (some (.Subscript o i p)) l env = pure false := by
  cases e <;> rfl
theorem of_mem {f : Str} (h : (tb.of.any fun g => decide (g = f)) = true) : f ∈ tb.of := by
  obtain ⟨g, hg, e⟩ := List.any_eq_true.mp h
  rw [← of_decide_eq_true e]
  exact hg
theorem put_fld {G : Gx} {W : WX} {X : Cx} (g : Good G tb R k W X) {F H : Hp} {M : Mem} {v y : V} {x d : D} {f : Str} {q : Mem → Prop} (hf : f ∈ tb.of) (rm : RM G F M H) (r : RelD G F v x) (ry : RelD G F y d) (h : sflW x f d M q) :
    ∃ a C dx fs, v = .ref a ∧ H a = some (.ins C dx fs) ∧ Cls X.K C ∧ NoAttr X.K C f ∧ fs.length < 1000 ∧ (∃ c, clsW x M = some c ∧ G.co c = some C) ∧ ∃ M', RM G F M' (upd H a (.ins C dx (putF f y fs))) ∧ q M' := by
  unfold sflW at h
  split at h
  · rename_i p
    split at h
    · rename_i c fs e1
      obtain ⟨hl, h⟩ := h
      cases r
      obtain ⟨nf, C, dx, fvs, h1, h2, h3⟩ := rm.mt p _ e1
      obtain ⟨c1, c2⟩ := g.ob.cls c C h1
      exact ⟨p, C, dx, fvs, rfl, h2, c1, c2 f hf, by rw [fvs_len h3]; exact hl, ⟨c, by dsimp only [clsW]; rw [e1], h1⟩, _, rm.put (ob' := .obj c (putS f d fs)) e1 ⟨C, dx, _, h1, upd_same, fvs_put ry h3⟩, h⟩
    · exact h.elim
  · exact h.elim
theorem sfl_read {G : Gx} {W W' : WX} {X : Cx} (g : Good G tb R k W' X) {o e : Ex} {f : Str} {D : L2.Ends} {σ : L2.St} {H : Hp} (k4 : (tb.of.any fun g => decide (g = f)) = true) (q : liftS G W (wpS R (.sfl o f e)) D σ H) : sFld X.K (liftE G W (wpE R o)) (liftE G W (wpE R e)) f D σ H := by
  obtain ⟨F, M, env, N, rm, er, en, h⟩ := q
  refine enter rm er (en.cx er) h fun F1 M1 H1 v1 d1 s1 rm1 er1 cx1 r1 h => enter rm1 er1 cx1 h fun F2 M2 H2 v2 d2 s2 rm2 er2 cx2 r2 h => ?_
  obtain ⟨a, C, dx, fs, z1, z2, z3, z4, z5, _, M', rm', h⟩ := put_fld g (of_mem k4) rm2 r2 (r1.mono s2) h
  exact ⟨a, C, dx, fs, z1, z2, z3, z4, z5, en.nx F2 M' _ env σ (s1.trans s2) rm' er2 h⟩
theorem inop_of {G : Gx} {X : Cx} {op : Operator} (ho : (op == .Add || op == .Sub) = true) : InOp X op (fun x y H Q => ∃ F M a b q, RM G F M H ∧ RelD G F x a ∧ RelD G F y b ∧ Cn G F q Q ∧ augW op a b M q) := by
  intro pins s σ H x y u v Q I r1 r2 ⟨F, M, a, b, q, rm, d1, d2, cn, h⟩
  unfold augW at h
  split at h
  · cases d1; cases d2
    exact in_add pins s σ H _ _ u v Q I r1 r2 ⟨_, _, rfl, rfl, cn_here rm cn (.int _) h⟩
  · cases d1; cases d2
    exact in_sub pins s σ H _ _ u v Q I r1 r2 ⟨_, _, rfl, rfl, cn_here rm cn (.int _) h⟩
  · exact h.elim
theorem set_dic {X : Cx} (hu : X.A.units + 1 < cLine) : PSet X (fun o i v H Q => ∃ a H', o = .ref a ∧ DPut H a i v H' ∧ Q H') := by
  intro pins s σ H o i v ov iv u Q I ro ri rv ⟨a, H', e, g, q⟩
  subst e
  obtain rfl : ov = Value.ref a := ro
  exact d_setItem hu I g ri rv fun s6 I6 => ⟨H', I6, q⟩
/-- targets side by side -/
def liftTs (G : Gx) (W : WX) (R : Nat → List D → Mem → QK → XQ → Prop) (ts : List Ts) : TGs := fun vs σ H Q => ∃ (F : Hp) (M : Mem) (env : Env) (ds : List Wp.D) (nx : Env → Mem → Prop) (ex : Exn → Env → Mem → Prop), RM G F M H ∧ EnvR G F env σ ∧ RelDs G F vs ds ∧ tsW R ts ds env M nx ex ∧
  (∀ F' M' H' env' σ', Same F F' → RM G F' M' H' → EnvR G F' env' σ' → nx env' M' → Q σ' H') ∧ (∀ F' M' H' env' σ' z c dd, Same F F' → RM G F' M' H' → EnvR G F' env' σ' → RelX G F' H' z c dd → ex z env' M' → W c dd σ' H')
theorem ts_len : ∀ {ts : List Ts} {tgs : List Expr}, chkT tb N sc ts tgs = true → ∀ env : PySem.Env, (assignEach tgs env).length = tgs.length ∧ (assignEach tgs env).findIdx? (·.1) = none
  | [], [], _, env => ⟨rfl, rfl⟩
  | [], _ :: _, h, env => by cases h
  | .nm i :: ts, [], h, env => by cases h
  | .sb o i :: ts, [], h, env => by cases h
  | .db o i :: ts, [], h, env => by cases h
  | t :: ts, e :: es, h, env => by
    have key : noStar e = true ∧ chkT tb N sc ts es = true := by
      cases t <;> cases e <;> first
        | (cases h; done)
        | (unfold chkT at h
           simp only [Bool.and_eq_true] at h
           exact ⟨rfl, h.2⟩)
    obtain ⟨a, b⟩ := ts_len key.2 env
    rw [asg_ok key.1, List.length_cons, List.findIdx?_cons, a]
    simp [b]
theorem ts_num : ∀ {ts : List Ts} {tgs : List Expr}, chkT tb N sc ts tgs = true → ts.length = tgs.length
  | [], [], _ => rfl
  | [], _ :: _, h => by cases h
  | .nm i :: ts, [], h => by cases h
  | .sb o i :: ts, [], h => by cases h
  | .db o i :: ts, [], h => by cases h
  | t :: ts, e :: es, h => by
    have key : chkT tb N sc ts es = true := by
      cases t <;> cases e <;> first
        | (cases h; done)
        | (unfold chkT at h
           simp only [Bool.and_eq_true] at h
           exact h.2)
    rw [List.length_cons, List.length_cons, ts_num key]
theorem snd_Ts {G : Gx} {W : WX} {X : Cx} (g : Good G tb R k W X) (hN : X.N = N) (hs : X.env.scope = sc) (hf : X.fn = fun _ => true) : ∀ {ts : List Ts} {tgs : List Expr}, chkT tb N sc ts tgs = true → PGs X tgs (liftTs G W R ts)
  | [], [], _ => by
    refine PGs.imp pgs_nil fun vs σ H Q ⟨F, M, env, ds, nx, ex, rm, er, rs, h, hnx, hex⟩ => ?_
    cases rs with
    | nil => exact ⟨rfl, hnx F M H env σ (Same.refl F) rm er h⟩
    | cons _ _ => exact h.elim
  | [], _ :: _, h => by cases h
  | .nm i :: ts, [], h => by cases h
  | .sb o i :: ts, [], h => by cases h
  | .db o i :: ts, [], h => by cases h
  | .nm i :: ts, e :: es, h => by
    unfold chkT at h
    split at h
    · rename_i h0; cases h0
    · rename_i i' ts' x p es' h0 h1
      injection h0 with h01 h02
      injection h01 with h01
      injection h1 with h11 h12
      subst h01 h02 h11 h12
      simp only [Bool.and_eq_true] at h
      obtain ⟨⟨k1, k2⟩, k3⟩ := h
      obtain ⟨l1, l2⟩ := loc_of hs (fun _ => hf) k2
      refine PGs.imp (pgs_cons (pg_name (i := i) g.nd (by rw [hN]; exact of_decide_eq_true k1) l1 l2) (snd_Ts g hN hs hf k3) (by rw [asg_ok rfl]; rfl)) fun vs σ H Q ⟨F, M, env, ds, nx, ex, rm, er, rs, h, hnx, hex⟩ => ?_
      cases rs with
      | nil => exact h.elim
      | cons r rs => exact ⟨_, _, rfl, F, M, _, _, nx, ex, rm, er.set r, rs, h, hnx, hex⟩
    · rename_i h0 _; cases h0
    · rename_i h0 _; cases h0
    · cases h
  | .sb o i :: ts, e :: es, h => by
    unfold chkT at h
    split at h
    · rename_i h0; cases h0
    · rename_i h0 _; cases h0
    · rename_i o1 i1 ts' o' i' p es' h0 h1
      injection h0 with h01 h02
      injection h01 with h01 h03
      injection h1 with h11 h12
      subst h01 h02 h03 h11 h12
      simp only [Bool.and_eq_true] at h
      obtain ⟨⟨⟨k1, k2⟩, k3⟩, k4⟩ := h
      refine PGs.imp (pgs_cons (pg_sub ((snd_E o g hN hs k1).E) ((snd_E i g hN hs k2).E) (set_of (G := G)) (set_ok k3)) (snd_Ts g hN hs hf k4) (by rw [asg_ok rfl]; rfl)) fun vs σ H Q ⟨F, M, env, ds, nx, ex, rm, er, rs, h, hnx, hex⟩ => ?_
      cases rs with
      | nil => exact h.elim
      | cons r rs =>
        refine ⟨_, _, rfl, ?_⟩
        have cx : CnX G F (fun z M => ex z env M) (fun c d H => W c d σ H) := fun F' M' H' z c dd s rm' rx q => hex F' M' H' env σ z c dd s rm' (er.mono s) rx q
        refine enter rm er cx h fun F1 M1 H1 v1 d1 s1 rm1 er1 cx1 r1 h => enter rm1 er1 cx1 h fun F2 M2 H2 v2 d2 s2 rm2 er2 cx2 r2 h => ?_
        have ss := s1.trans s2
        exact ⟨F2, M2, d1, d2, _, _, rm2, r1.mono s2, r2, r.mono ss, h, fun M' H' rm' q => ⟨F2, M', env, _, nx, ex, rm', er2, rs.mono ss, q, fun F3 M3 H3 e3 σ3 s3 => hnx F3 M3 H3 e3 σ3 (ss.trans s3), fun F3 M3 H3 e3 σ3 z c dd s3 => hex F3 M3 H3 e3 σ3 z c dd (ss.trans s3)⟩⟩
    · rename_i h0 _; cases h0
    · cases h
  | .db o i :: ts, e :: es, h => by
    unfold chkT at h
    split at h
    · rename_i h0; cases h0
    · rename_i h0 _; cases h0
    · rename_i h0 _; cases h0
    · rename_i o1 i1 ts' o' i' p es' h0 h1
      injection h0 with h01 h02
      injection h01 with h01 h03
      injection h1 with h11 h12
      subst h01 h02 h03 h11 h12
      simp only [Bool.and_eq_true] at h
      obtain ⟨⟨⟨k1, k2⟩, k3⟩, k4⟩ := h
      have hu : X.A.units + 1 < cLine := by have := g.un; omega
      refine PGs.imp (pgs_cons (pg_sub ((snd_E o g hN hs k1).E) ((snd_E i g hN hs k2).E) (set_dic hu) (set_ok k3)) (snd_Ts g hN hs hf k4) (by rw [asg_ok rfl]; rfl)) fun vs σ H Q ⟨F, M, env, ds, nx, ex, rm, er, rs, h, hnx, hex⟩ => ?_
      cases rs with
      | nil => exact h.elim
      | @cons v0 _ d0 _ r rs =>
        refine ⟨_, _, rfl, ?_⟩
        have cx : CnX G F (fun z M => ex z env M) (fun c d H => W c d σ H) := fun F' M' H' z c dd s rm' rx q => hex F' M' H' env σ z c dd s rm' (er.mono s) rx q
        refine enter rm er cx h fun F1 M1 H1 v1 d1 s1 rm1 er1 cx1 r1 h => enter rm1 er1 cx1 h fun F2 M2 H2 v2 d2 s2 rm2 er2 cx2 r2 h => ?_
        have ss := s1.trans s2
        obtain ⟨a, kvs, k, rfl, e1, e2, hl, h⟩ := dput_inv h
        cases r1
        obtain ⟨nf, vks, g1, g2⟩ := rm2.mt a _ e1
        refine ⟨a, _, rfl, by rw [key_rel r2 e2]; exact DPut.k g1 (by rw [g2.len]; exact hl), ?_⟩
        exact ⟨F2, _, env, _, nx, ex, rm2.put (ob' := .dic (putD kvs k d0)) (o := .dK (putK vks k v0)) e1 ⟨_, upd_same, g2.put (r.mono ss)⟩, er2, rs.mono ss, h, fun F3 M3 H3 e3 σ3 s3 => hnx F3 M3 H3 e3 σ3 (ss.trans s3), fun F3 M3 H3 e3 σ3 z c dd s3 => hex F3 M3 H3 e3 σ3 z c dd (ss.trans s3)⟩
    · cases h
theorem aug_ok {i : Expr} (h : noSlice i = true) : ∀ ov iv new, augStore i ov iv new = (do holding [new, ov, iv] (setItem ov iv new); release [new, ov, iv] []; pure .next) := by
  intro ov iv new
  cases i <;> first | rfl | cases h
theorem raise_heap2 {H : Hp} {a dx : Addr} {o1 o2 o3 o4 o5 : HO} (na : H a = none) (ne : dx ≠ a) : upd (L2.del (upd (upd (upd (upd H a o1) dx o2) a o3) dx o4) a) dx o5 = upd H dx o5 := by
  funext b
  by_cases h1 : b = dx
  · rw [h1, upd_same, upd_same]
  · rw [upd_ne h1, upd_ne h1]
    by_cases h2 : b = a
    · rw [h2, L2.del_same, na]
    · rw [L2.del_ne h2, upd_ne h1, upd_ne h2, upd_ne h1, upd_ne h2]
/-! an except suite -/
mutual
theorem snd_V {W : WX} {X : Cx} (g : Good G tb.cold R k W X) (hN : X.N = N) (hs : X.env.scope = sc) (hf : X.fn = fun _ => true) : ∀ (t : Sx) {st : Stmt}, chkV tb.cold N sc t st = true → PS X st (liftS G W (wpS R t))
  | .asg (.nm j) e, st, h => by
    unfold chkV at h; split at h
    · rename_i y py e' pos
      simp only [Bool.and_eq_true] at h
      obtain ⟨⟨⟨k1, k2⟩, k3⟩, k4⟩ := h
      obtain ⟨l1, l2⟩ := loc_of hs (fun _ => hf) k3
      have hsf : swapsWith e' (some (.Name y py)) pos.line X.env = pure false := nosw (by simpa using k4)
      refine PS.imp (ps_asg ((snd_E e g hN hs k1).E) (pg_name (i := j) g.nd (by rw [hN]; exact of_decide_eq_true k2) l1 l2) hsf (noswap rfl) rfl) fun D σ H ⟨F, M, env, N, rm, er, en, h⟩ => ?_
      refine enter rm er (en.cx er) h fun F1 M1 H1 v1 d1 s1 rm1 er1 cx1 r1 h => ?_
      exact en.nx F1 M1 H1 (setV env j d1) _ s1 rm1 (er1.set r1) h
    · cases h
  | .ife c s t, st, h => by
    unfold chkV at h; split at h
    · rw [Bool.and_eq_true, Bool.and_eq_true] at h
      refine PS.imp (ps_if (snd_E c g hN hs h.1.1).T (snd_U g hN hs hf s h.1.2) (snd_U g hN hs hf t h.2)) fun D σ H ⟨F, M, env, N, rm, er, en, h⟩ => ?_
      refine ⟨F, M, env, _, _, rm, er, fun F1 M1 H1 b s1 rm1 q => ?_, en.cx er, h⟩
      cases b with
      | true => rw [if_pos rfl]; exact ⟨F1, M1, env, N, rm1, er.mono s1, en.mono s1, q⟩
      | false => rw [if_neg Bool.false_ne_true]; exact ⟨F1, M1, env, N, rm1, er.mono s1, en.mono s1, q⟩
    · cases h
  | .ret e, st, h => by
    unfold chkV at h; split at h
    · have A := (snd_E e g hN hs h).E
      refine PS.imp (ps_ret A) fun D σ H ⟨F, M, env, N, rm, er, en, h⟩ => ?_
      exact enter rm er (en.cx er) h fun F1 M1 H1 v1 d1 s1 rm1 er1 cx1 r1 h => en.rt F1 M1 H1 v1 d1 s1 rm1 r1 h
    · cases h
  | .sfl o f e, st, h => by
    unfold chkV at h; split at h
    · simp only [Bool.and_eq_true] at h
      obtain ⟨⟨⟨k1, k2⟩, k3⟩, k4⟩ := h
      have e1 := of_decide_eq_true k1
      subst e1
      exact PS.imp (ps_fld ((snd_E o g hN hs k2).E) ((snd_E e g hN hs k3).E) noswA) fun D σ H q => sfl_read g k4 q
    · cases h
  | .pass, st, h => by
    unfold chkV at h; split at h
    · exact PS.imp ps_pass fun D σ H ⟨F, M, env, N, rm, er, en, h⟩ => en.nx F M H env σ (Same.refl _) rm er h
    · cases h
  | .asg .no _, st, h => by cases h
  | .asg (.co _ _) _, st, h => by cases h
  | .nil, st, h => by cases h
  | .seq _ _, st, h => by cases h
  | .sub _ _ _, st, h => by cases h
  | .dput _ _ _, st, h => by cases h
  | .aug _ _ _, st, h => by cases h
  | .drop _, st, h => by cases h
  | .loop _ _, st, h => by cases h
  | .each _ _ _, st, h => by cases h
  | .brk, st, h => by cases h
  | .cnt, st, h => by cases h
  | .never, st, h => by cases h
  | .frz _, st, h => by cases h
  | .rse _ _ _, st, h => by cases h
  | .rsp _ _, st, h => by cases h
  | .tri _ _ _ _, st, h => by cases h
  | .trn _ _ _, st, h => by cases h
  | .fau _ _ _ _, st, h => by cases h
  | .dau _ _ _ _, st, h => by cases h
  | .asu _ _, st, h => by cases h
  | .rsb _ _, st, h => by cases h
  | .tr2 _ _ _ _ _ _ _, st, h => by cases h
theorem snd_U {W : WX} {X : Cx} (g : Good G tb.cold R k W X) (hN : X.N = N) (hs : X.env.scope = sc) (hf : X.fn = fun _ => true) : ∀ (t : Sx) {sts : List Stmt}, chkU tb.cold N sc t sts = true → PSs X sts (liftS G W (wpS R t))
  | .nil, sts, h => by
    unfold chkU at h; split at h
    · exact PSs.imp pss_nil fun D σ H ⟨F, M, env, N, rm, er, en, h⟩ => en.nx F M H env σ (Same.refl _) rm er h
    · cases h
  | .seq s t, sts, h => by
    unfold chkU at h; split at h
    · rw [Bool.and_eq_true] at h
      refine PSs.imp (pss_cons (snd_V g hN hs hf s h.1) (snd_U g hN hs hf t h.2)) fun D σ H ⟨F, M, env, N, rm, er, en, h⟩ => ?_
      refine ⟨F, M, env, _, rm, er, ?_, h⟩
      exact ⟨fun F1 M1 H1 e1 σ1 s1 rm1 er1 q => ⟨F1, M1, e1, N, rm1, er1, en.mono s1, q⟩, en.rt, en.bk, en.ct, en.ex⟩
    · cases h
  | .asg _ _, sts, h => by cases h
  | .sub _ _ _, sts, h => by cases h
  | .dput _ _ _, sts, h => by cases h
  | .aug _ _ _, sts, h => by cases h
  | .drop _, sts, h => by cases h
  | .ret _, sts, h => by cases h
  | .ife _ _ _, sts, h => by cases h
  | .loop _ _, sts, h => by cases h
  | .each _ _ _, sts, h => by cases h
  | .pass, sts, h => by cases h
  | .brk, sts, h => by cases h
  | .cnt, sts, h => by cases h
  | .never, sts, h => by cases h
  | .frz _, sts, h => by cases h
  | .rse _ _ _, sts, h => by cases h
  | .rsp _ _, sts, h => by cases h
  | .tri _ _ _ _, sts, h => by cases h
  | .trn _ _ _, sts, h => by cases h
  | .sfl _ _ _, sts, h => by cases h
  | .fau _ _ _ _, sts, h => by cases h
  | .dau _ _ _ _, sts, h => by cases h
  | .asu _ _, sts, h => by cases h
  | .rsb _ _, sts, h => by cases h
  | .tr2 _ _ _ _ _ _ _, sts, h => by cases h
end
theorem hd_ok {G : Gx} {W : WX} {X : Cx} (g : Good G tb R k W X) (hN : X.N = N) (hs : X.env.scope = sc) (hf : X.fn = fun _ => true) {c : Nat} {i : Option Nat} {t : Sx} {h : ExceptHandler} (hk : chkH tb N sc c i t h = true) :
    ∃ C, G.cl c = some C ∧ ∀ {hds : List ExceptHandler} {l : List (Value × Option Nat × TS)}, L2.HdO X hds l → L2.HdO X (h :: hds) ((.ref C, i, liftS G (fun _ _ _ _ => False) (wpS R t)) :: l) := by
  unfold chkH at hk
  split at hk
  · simp only [Bool.and_eq_true] at hk
    obtain ⟨⟨⟨k1, k2⟩, k3⟩, k4⟩ := hk
    obtain ⟨D0, m1, m2⟩ := g.xt.nm _ (any_mem k1)
    obtain ⟨j1, j2⟩ := gl_of hs k2
    refine ⟨D0, m2, fun {hds l} r => ?_⟩
    split at k3
    · rename_i i n
      rw [Bool.and_eq_true] at k3
      have hln : X.env.kindOf n = some .local := by
        show X.env.scope.names.lookup n = _
        rw [hs]
        exact of_decide_eq_true k3.2
      exact .nmd ⟨j1, j2, .inl m1⟩ (by rw [hN]; exact of_decide_eq_true k3.1) hln (fun a pn => snd_U (g.cold a pn) hN hs hf t k4) r
    · exact .bare ⟨j1, j2, .inl m1⟩ (fun a pn => snd_U (g.cold a pn) hN hs hf t k4) r
    · cases k3
  · cases hk
theorem cl_read {G : Gx} {W : WX} {F H : Hp} {M : Mem} {env : Env} {σ : L2.St} {N : Wp.Ends} {D : L2.Ends} {t : Sx} {i : Option Nat} {z : Exn} {cls : Value} {dd : Option Addr} (rm : RM G F M H) (er : EnvR G F env σ) (en : EndsR G W F N D) (rx : RelX G F H z cls dd) (q : clW (wpS R t) i N z env M) :
    L2.wCl i (liftS G (fun _ _ _ _ => False) (wpS R t)) D cls dd σ H := by
  obtain ⟨C, x1, rfl, x2⟩ := rx
  cases i with
  | some i =>
    intro a ha
    have nF := rm.freeF ha
    have hob : RelOb G F (upd H a (L2.ExH (.ref C) dd a)) a (.ins z.c z.fs) := ⟨C, dd, x1, upd_same, x2⟩
    refine ⟨F, M.upd a (.ins z.c z.fs), setV env i (.loc a), _, rm.new ha hob, er.set .loc, ?_, q a (rm.freeM ha)⟩
    exact ⟨fun F2 M2 H2 e2 σ2 s2 rm2 er2 q => en.nx F2 M2 H2 _ _ s2 rm2 (er2.wipe1 i) q, en.rt, fun F2 M2 H2 e2 σ2 s2 rm2 er2 q => en.bk F2 M2 H2 _ _ s2 rm2 (er2.wipe1 i) q, fun F2 M2 H2 e2 σ2 s2 rm2 er2 q => en.ct F2 M2 H2 _ _ s2 rm2 (er2.wipe1 i) q, fun F2 M2 H2 e2 σ2 z c dd s2 rm2 er2 rx q => q.elim⟩
  | none =>
    exact ⟨F, M, env, ⟨N.nx, N.rt, N.bk, N.ct, fun _ _ _ => False⟩, rm, er, ⟨en.nx, en.rt, en.bk, en.ct, fun F2 M2 H2 e2 σ2 z c dd s2 rm2 er2 rx q => q.elim⟩, q⟩
mutual
theorem snd_S (hot : tb.hot = true) : ∀ (s : Sx) {W : WX} {X : Cx}, Good G tb R k W X → X.N = N → X.env.scope = sc → X.fn = (fun _ => true) → PassesOwn (model X.prog X.w) X.A X.env X.xe → FrOk X → ∀ {st : Stmt}, chkS tb N sc s st = true → PS X st (liftS G W (wpS R s))
  | .asg tg e, W, X, g, hN, hs, hf, po, fo, st, h => by
    unfold chkS at h; split at h
    · rename_i tg' e' pos
      simp only [Bool.and_eq_true] at h
      obtain ⟨⟨⟨k1, k2⟩, k3⟩, k4⟩ := h
      have A := (snd_E e g hN hs k1).E
      have B := snd_G (G := G) g.hK hN g.nd hs (g.calm hot) (fun _ => hf) tg k2
      have read : ∀ D σ H, liftS G W (wpS R (.asg tg e)) D σ H → tAsg (liftE G W (wpE R e)) (liftG G tg) D σ H := fun D σ H ⟨F, M, env, N, rm, er, en, h⟩ =>
        enter rm er (en.cx er) h fun F1 M1 H1 v1 d1 s1 rm1 er1 cx1 r1 h => tg_read rm1 er1 (en.mono s1) r1 h
      split at k4
      · rename_i y py
        by_cases hsw : swB sc y py e' = true
        · -- a comprehension's list that goes to the name at once
          exact PS.imp (set_comp g hN hs k1 hsw k2) read
        · have hsf : swapsWith e' (some (.Name y py)) pos.line X.env = pure false := by
            rw [Bool.eq_false_iff.mpr hsw, Bool.false_or, Bool.or_eq_true] at k4
            rcases k4 with k4 | k4
            · exact nosw (by simpa using k4)
            · refine noswC ?_
              show X.env.scope.names.lookup y = _
              rw [hs]
              exact of_decide_eq_true k4
          exact PS.imp (ps_asg A B hsf (noswap k3) rfl) read
      · exact PS.imp (ps_asg A B noswT (noswap k3) rfl) read
      · cases k4
    · cases h
  | .sub o i e, W, X, g, hN, hs, hf, po, fo, st, h => by
    unfold chkS at h; split at h
    · simp only [Bool.and_eq_true] at h
      obtain ⟨⟨⟨k1, k2⟩, k3⟩, k4⟩ := h
      have A := (snd_E o g hN hs k1).E
      have B := (snd_E i g hN hs k2).E
      have C := (snd_E e g hN hs k4).E
      refine PS.imp (ps_asg C (pg_sub A B (set_of (G := G)) (set_ok k3)) noswS (noswap rfl) rfl) fun D σ H ⟨F, M, env, N, rm, er, en, h⟩ => ?_
      refine enter rm er (en.cx er) h fun F1 M1 H1 v1 d1 s1 rm1 er1 cx1 r1 h => enter rm1 er1 cx1 h fun F2 M2 H2 v2 d2 s2 rm2 er2 cx2 r2 h => enter rm2 er2 cx2 h fun F3 M3 H3 v3 d3 s3 rm3 er3 cx3 r3 h => ?_
      exact ⟨F3, M3, d2, d3, d1, _, rm3, r2.mono s3, r3, r1.mono (s2.trans s3), h, fun M' H' rm' q => en.nx F3 M' H' env σ (s1.trans (s2.trans s3)) rm' er3 q⟩
    · cases h
  | .dput o i e, W, X, g, hN, hs, hf, po, fo, st, h => by
    unfold chkS at h; split at h
    · simp only [Bool.and_eq_true] at h
      obtain ⟨⟨⟨k1, k2⟩, k3⟩, k4⟩ := h
      have A := (snd_E o g hN hs k1).E
      have B := (snd_E i g hN hs k2).E
      have C := (snd_E e g hN hs k4).E
      have hu : X.A.units + 1 < cLine := by have := g.un; omega
      refine PS.imp (ps_dput hu A B C noswD) fun D σ H ⟨F, M, env, N, rm, er, en, h⟩ => ?_
      refine enter rm er (en.cx er) h fun F1 M1 H1 v1 d1 s1 rm1 er1 cx1 r1 h => enter rm1 er1 cx1 h fun F2 M2 H2 v2 d2 s2 rm2 er2 cx2 r2 h => enter rm2 er2 cx2 h fun F3 M3 H3 v3 d3 s3 rm3 er3 cx3 r3 h => ?_
      obtain ⟨a, kvs, k, rfl, e1, e2, hl, h⟩ := dput_inv h
      cases r2
      obtain ⟨nf, vks, g1, g2⟩ := rm3.mt a _ e1
      refine ⟨a, _, rfl, ?_, en.nx F3 _ _ env σ (s1.trans (s2.trans s3)) (rm3.put (ob' := .dic (putD kvs k d1)) (o := .dK (putK vks k v1)) e1 ⟨_, upd_same, g2.put (r1.mono (s2.trans s3))⟩) er3 h⟩
      rw [key_rel r3 e2]
      exact DPut.k g1 (by rw [g2.len]; exact hl)
    · cases h
  | .aug i op e, W, X, g, hN, hs, hf, po, fo, st, h => by
    unfold chkS at h; split at h
    · simp only [Bool.and_eq_true] at h
      obtain ⟨⟨⟨⟨k1, k2⟩, k3⟩, k4⟩, k5⟩ := h
      have e1 := of_decide_eq_true k1
      subst e1
      obtain ⟨l1, l2⟩ := loc_of hs (fun _ => hf) k3
      have A := (snd_E e g hN hs k4).E
      refine PS.imp (ps_aug g.nd (by rw [hN]; exact of_decide_eq_true k2) l1 A (ip_of (G := G) k5) l2) fun D σ H ⟨F, M, env, N, rm, er, en, h⟩ => ?_
      dsimp only [wpS] at h
      cases q1 : slv env i with
      | none => rw [q1] at h; exact h.elim
      | some d =>
        rw [q1] at h
        obtain ⟨v, e1, r⟩ := er.at_ i d q1
        refine ⟨v, e1, enter rm er (en.cx er) h fun F1 M1 H1 v1 d1 s1 rm1 er1 cx1 r1 h => ?_⟩
        exact ⟨F1, M1, d, d1, _, rm1, r.mono s1, r1, fun F2 M2 H2 v2 d2 s2 rm2 r2 q => en.nx F2 M2 H2 _ _ (s1.trans s2) rm2 ((er1.mono s2).set r2) q, h⟩
    · cases h
  | .drop e, W, X, g, hN, hs, hf, po, fo, st, h => by
    unfold chkS at h; split at h
    · rw [Bool.and_eq_true] at h
      refine PS.imp (ps_expr (snd_E e g hN hs h.1).E (nosw (by simpa using h.2))) fun D σ H ⟨F, M, env, N, rm, er, en, h⟩ => ?_
      exact enter rm er (en.cx er) h fun F1 M1 H1 v1 d1 s1 rm1 er1 cx1 r1 h => en.nx F1 M1 H1 env σ s1 rm1 er1 h
    · cases h
  | .ret e, W, X, g, hN, hs, hf, po, fo, st, h => by
    unfold chkS at h; split at h
    · refine PS.imp (ps_ret (snd_E e g hN hs h).E) fun D σ H ⟨F, M, env, N, rm, er, en, h⟩ => ?_
      exact enter rm er (en.cx er) h fun F1 M1 H1 v1 d1 s1 rm1 er1 cx1 r1 h => en.rt F1 M1 H1 v1 d1 s1 rm1 r1 h
    · cases h
  | .ife c s t, W, X, g, hN, hs, hf, po, fo, st, h => by
    unfold chkS at h; split at h
    · rw [Bool.and_eq_true, Bool.and_eq_true] at h
      refine PS.imp (ps_if (snd_E c g hN hs h.1.1).T (snd_L hot s g hN hs hf po fo h.1.2) (snd_L hot t g hN hs hf po fo h.2)) fun D σ H ⟨F, M, env, N, rm, er, en, h⟩ => ?_
      refine ⟨F, M, env, _, _, rm, er, fun F1 M1 H1 b s1 rm1 q => ?_, en.cx er, h⟩
      cases b with
      | true => rw [if_pos rfl]; exact ⟨F1, M1, env, N, rm1, er.mono s1, en.mono s1, q⟩
      | false => rw [if_neg Bool.false_ne_true]; exact ⟨F1, M1, env, N, rm1, er.mono s1, en.mono s1, q⟩
    · cases h
  | .loop c s, W, X, g, hN, hs, hf, po, fo, st, h => by
    unfold chkS at h; split at h
    · rw [Bool.and_eq_true] at h
      exact PS.imp (ps_while po (snd_E c g hN hs h.1).T (snd_L hot s g hN hs hf po fo h.2)) fun D σ H q => while_read q
    · cases h
  | .each tg w s, W, X, g, hN, hs, hf, po, fo, st, h => by
    unfold chkS at h; split at h
    · simp only [Bool.and_eq_true] at h
      obtain ⟨⟨⟨k1, k2⟩, k3⟩, k4⟩ := h
      exact PS.imp (ps_for po (g.calm hot) (snd_W w g hN hs k1) (snd_G (G := G) g.hK hN g.nd hs (g.calm hot) (fun _ => hf) tg k2) (snd_L hot s g hN hs hf po fo k3) (fold_ok k4)) fun D σ H q => for_read q
    · cases h
  | .pass, W, X, g, hN, hs, hf, po, fo, st, h => by
    unfold chkS at h; split at h
    · exact PS.imp ps_pass fun D σ H ⟨F, M, env, N, rm, er, en, h⟩ => en.nx F M H env σ (Same.refl _) rm er h
    · cases h
  | .brk, W, X, g, hN, hs, hf, po, fo, st, h => by
    unfold chkS at h; split at h
    · exact PS.imp ps_break fun D σ H ⟨F, M, env, N, rm, er, en, h⟩ => en.bk F M H env σ (Same.refl _) rm er h
    · cases h
  | .cnt, W, X, g, hN, hs, hf, po, fo, st, h => by
    unfold chkS at h; split at h
    · exact PS.imp ps_continue fun D σ H ⟨F, M, env, N, rm, er, en, h⟩ => en.ct F M H env σ (Same.refl _) rm er h
    · cases h
  | .never, W, X, g, hN, hs, hf, po, fo, st, h => PS.imp ps_never fun D σ H ⟨F, M, env, N, rm, er, en, h⟩ => h
  | .rse c f a, W, X, g, hN, hs, hf, po, fo, st, h => by
    unfold chkS at h; split at h
    · rename_i x p1 a' p2 p3
      simp only [Bool.and_eq_true] at h
      obtain ⟨⟨⟨⟨k1, k2⟩, k3⟩, k4⟩, k5⟩ := h
      have hc := any_mem k1
      have hr := any_mem k2
      obtain ⟨C, fI, fd, ps, c1, c2, c3, c4, c5, c6, c7, c8⟩ := (g.mkr c f x hr hc).ex
      obtain ⟨j1, j2⟩ := gl_of hs k3
      have P := L2.pmk_oex (CX := L2.CX0) (k := 1) (ds := []) (dvs := []) (p := p1) (pos := p2) c4 c5 c6 c8 ((g.room hot).mono (Nat.le_succ_of_le g.k2)) c7 .nil L2.pass0 j1 c2 (pa_cons ((snd_E a g hN hs k4).E) pa_nil (star_ok k5)) j2 (star_ok k5) rfl
      refine PS.imp (ps_raise (g.calm hot) g.tk P) fun D σ H ⟨F, M, env, N, rm, er, en, h⟩ => ?_
      refine enter rm er (en.cx er) h fun F1 M1 H1 v1 d1 s1 rm1 er1 cx1 r1 h => ?_
      refine ⟨(by decide : 1 ≤ 1000), fun p hp => ⟨p, v1, rfl, upd_same, fun dx n1 n2 => ⟨rfl, dx, [(f, v1)], upd_same, ?_, ?_, ?_⟩⟩⟩
      · rw [upd_ne n2, upd_same]
      · rw [upd_ne n2] at n1
        exact n1
      · rw [upd_ne n2] at n1
        rw [raise_heap n1 hp n2]
        refine en.ex (upd F1 dx (.xd [(f, v1)])) M1 _ env σ ⟨c, [(f, d1)]⟩ (.ref C) (some dx) (s1.trans (same_upd (rm1.freeF n1))) (rm1.frz n1) (er1.mono (same_upd (rm1.freeF n1))) ⟨C, c1, rfl, .inr ⟨dx, _, rfl, upd_same, .cons ⟨rfl, r1.mono (same_upd (rm1.freeF n1))⟩ .nil⟩⟩ h
    · cases h
  | .rsp c a, W, X, g, hN, hs, hf, po, fo, st, h => by
    unfold chkS at h; split at h
    · rename_i x p1 a' p2 p3
      simp only [Bool.and_eq_true] at h
      obtain ⟨⟨⟨⟨k1, k2⟩, k3⟩, k4⟩, k5⟩ := h
      have hc := any_mem k1
      have hr : c ∈ tb.xo := by
        obtain ⟨p, hp, e⟩ := List.any_eq_true.mp k2
        rw [← of_decide_eq_true e]
        exact hp
      obtain ⟨C, c1, c2, c3, c4, c5, c6⟩ := (g.own c x hr hc).ex
      obtain ⟨j1, j2⟩ := gl_of hs k3
      refine PS.imp (ps_raise (g.calm hot) g.tk (SkE.pmk_own1 PySem.F.excBase_ValueError c4 c2 c3 (raises_own c5 c6) j1 ((snd_E a g hN hs k4).E) (star_ok k5) j2)) fun D σ H ⟨F, M, env, N, rm, er, en, h⟩ => ?_
      refine enter rm er (en.cx er) h fun F1 M1 H1 v1 d1 s1 rm1 er1 cx1 r1 h => ?_
      exact en.ex F1 M1 H1 env σ ⟨c, []⟩ (.ref C) none s1 rm1 er1 ⟨C, c1, rfl, .inl ⟨rfl, rfl⟩⟩ h
    · cases h
  | .tri c i s t, W, X, g, hN, hs, hf, po, fo, st, h => by
    unfold chkS at h; split at h
    · rename_i body x np n b suite pos' pos
      simp only [Bool.and_eq_true] at h
      obtain ⟨⟨⟨⟨⟨k1, k2⟩, k3⟩, k4⟩, k5⟩, k6⟩ := h
      obtain ⟨D0, m1, m2⟩ := g.xt.nm _ (any_mem k1)
      obtain ⟨j1, j2⟩ := gl_of hs k2
      have hln : X.env.kindOf n = some .local := by
        show X.env.scope.names.lookup n = _
        rw [hs]
        exact of_decide_eq_true k4
      refine PS.imp (L2.ps_try_own (i := i) (tb := fun W => liftS G W (wpS R s)) (ts := liftS G (fun _ _ _ _ => False) (wpS R t)) fo.ex fo.st fo.fr g.nd (by rw [hN]; exact of_decide_eq_true k3) hln ⟨j1, j2, .inl m1⟩ g.tk
        (fun W' pn xe tk' po' => snd_L hot s (W := W') (X := X.tr pn xe) ⟨g.hK, g.nd, g.calm, g.room, g.un, g.hn, g.hb, tk', g.fns, g.glb, g.bnn, g.len, g.mon, g.k2, g.xt, g.mkr, g.own, g.ob⟩ hN hs hf po' ⟨fo.ex, fo.st, fo.fr⟩ k5)
        (fun a pn => PSs.imp (snd_U (g.cold a pn) hN hs hf t k6) fun D σ H ⟨F, M, env, N, rm, er, en, h⟩ => ⟨F, M, env, N, rm, er, en, h⟩)) fun D σ H ⟨F, M, env, N, rm, er, en, h⟩ => ?_
      refine ⟨F, M, env, _, rm, er, ?_, h⟩
      refine ⟨en.nx, en.rt, en.bk, en.ct, fun F1 M1 H1 env1 σ1 z cls dd s1 rm1 er1 rx q => ?_⟩
      obtain ⟨C, x1, rfl, x2⟩ := rx
      refine ⟨subX z.c c, (g.xt.sub z.c C c D0 x1 m2).2, fun hb a ha => ?_, fun hb => ?_⟩
      · dsimp only at q
        rw [hb] at q
        have nF := rm1.freeF ha
        have hob : RelOb G F1 (upd H1 a (L2.ExH (.ref C) dd a)) a (.ins z.c z.fs) := ⟨C, dd, x1, upd_same, x2⟩
        refine ⟨F1, M1.upd a (.ins z.c z.fs), setV env1 i (.loc a), _, rm1.new ha hob, er1.set .loc, ?_, q a (rm1.freeM ha)⟩
        have en1 := en.mono s1
        exact ⟨fun F2 M2 H2 e2 σ2 s2 rm2 er2 q => en1.nx F2 M2 H2 _ _ s2 rm2 (er2.wipe1 i) q, en1.rt, fun F2 M2 H2 e2 σ2 s2 rm2 er2 q => en1.bk F2 M2 H2 _ _ s2 rm2 (er2.wipe1 i) q, fun F2 M2 H2 e2 σ2 s2 rm2 er2 q => en1.ct F2 M2 H2 _ _ s2 rm2 (er2.wipe1 i) q, fun F2 M2 H2 e2 σ2 z c dd s2 rm2 er2 rx q => q.elim⟩
      · dsimp only at q
        rw [hb] at q
        exact en.ex F1 M1 H1 env1 σ1 z _ dd s1 rm1 er1 ⟨C, x1, rfl, x2⟩ q
    · cases h
  | .trn c s t, W, X, g, hN, hs, hf, po, fo, st, h => by
    unfold chkS at h; split at h
    · rename_i body x np b suite pos' pos
      simp only [Bool.and_eq_true] at h
      obtain ⟨⟨⟨k1, k2⟩, k5⟩, k6⟩ := h
      obtain ⟨D0, m1, m2⟩ := g.xt.nm _ (any_mem k1)
      obtain ⟨j1, j2⟩ := gl_of hs k2
      refine PS.imp (L2.ps_try_only (tb := fun W => liftS G W (wpS R s)) (ts := fun _ _ _ => liftS G (fun _ _ _ _ => False) (wpS R t)) fo.st fo.fr ⟨j1, j2, .inl m1⟩ g.tk
        (fun W' pn xe tk' po' => snd_L hot s (W := W') (X := X.tr pn xe) ⟨g.hK, g.nd, g.calm, g.room, g.un, g.hn, g.hb, tk', g.fns, g.glb, g.bnn, g.len, g.mon, g.k2, g.xt, g.mkr, g.own, g.ob⟩ hN hs hf po' ⟨fo.ex, fo.st, fo.fr⟩ k5)
        (fun a oe cls d pn _ _ => snd_U (g.cold a ((a, oe) :: pn)) hN hs hf t k6)) fun D σ H ⟨F, M, env, N, rm, er, en, h⟩ => ?_
      refine ⟨F, M, env, _, rm, er, ?_, h⟩
      refine ⟨en.nx, en.rt, en.bk, en.ct, fun F1 M1 H1 env1 σ1 z cls dd s1 rm1 er1 rx q => ?_⟩
      obtain ⟨C, x1, rfl, x2⟩ := rx
      refine ⟨subX z.c c, (g.xt.sub z.c C c D0 x1 m2).2, fun hb a ha => ?_, fun hb => ?_⟩
      · dsimp only at q
        rw [hb] at q
        have en1 := en.mono s1
        exact ⟨F1, M1, env1, ⟨N.nx, N.rt, N.bk, N.ct, fun _ _ _ => False⟩, rm1, er1, ⟨en1.nx, en1.rt, en1.bk, en1.ct, fun F2 M2 H2 e2 σ2 z c dd s2 rm2 er2 rx q => q.elim⟩, q⟩
      · dsimp only at q
        rw [hb] at q
        exact en.ex F1 M1 H1 env1 σ1 z _ dd s1 rm1 er1 ⟨C, x1, rfl, x2⟩ q
    · cases h
  | .sfl o f e, W, X, g, hN, hs, hf, po, fo, st, h => by
    unfold chkS at h; split at h
    · simp only [Bool.and_eq_true] at h
      obtain ⟨⟨⟨k1, k2⟩, k3⟩, k4⟩ := h
      have e1 := of_decide_eq_true k1
      subst e1
      exact PS.imp (ps_fld ((snd_E o g hN hs k2).E) ((snd_E e g hN hs k3).E) noswA) fun D σ H q => sfl_read g k4 q
    · cases h
  | .fau o f op e, W, X, g, hN, hs, hf, po, fo, st, h => by
    unfold chkS at h; split at h
    · simp only [Bool.and_eq_true] at h
      obtain ⟨⟨⟨⟨⟨k1, k2⟩, k3⟩, k4⟩, k5⟩, k6⟩ := h
      have e1 := of_decide_eq_true k1
      have e2 := of_decide_eq_true k2
      subst e1 e2
      refine PS.imp (ps_fldaug ((snd_E o g hN hs k3).E) ((snd_E e g hN hs k4).E) (inop_of (G := G) k5)) fun D σ H ⟨F, M, env, N, rm, er, en, h⟩ => ?_
      refine enter rm er (en.cx er) h fun F1 M1 H1 v1 d1 s1 rm1 er1 cx1 r1 h => ?_
      unfold fldW at h
      split at h
      · rename_i p
        split at h
        · rename_i c fs q1
          split at h
          · rename_i d q2
            cases r1
            obtain ⟨nf, C, dx, fvs, h1, h2, h3⟩ := rm1.mt p _ q1
            obtain ⟨v, w1, w2⟩ := fvs_look h3 q2
            obtain ⟨c1, c2⟩ := g.ob.cls c C h1
            refine ⟨p, C, dx, fvs, v, rfl, h2, c1, c2 f (of_mem k6), w1, ?_⟩
            refine enter rm1 er1 cx1 h fun F2 M2 H2 v2 d2 s2 rm2 er2 cx2 r2 h => ?_
            refine ⟨F2, M2, d, d2, _, rm2, w2.mono s2, r2, fun F3 M3 H3 v3 d3 s3 rm3 r3 h => ?_, h⟩
            obtain ⟨hc, h⟩ := h
            obtain ⟨a, C', dx', fs', z1, z2, z3, z4, z5, ⟨c3, y1, y2⟩, M', rm', h⟩ := put_fld g (of_mem k6) rm3 (.loc (a := p)) r3 h
            cases z1
            have hC : C' = C := by
              have z : clsW (.loc p) M1 = some c := by dsimp only [clsW]; rw [q1]
              rw [y1, z] at hc
              cases hc
              rw [h1] at y2
              cases y2
              rfl
            subst hC
            exact ⟨dx', fs', z2, z5, en.nx F3 M' _ env σ (s1.trans (s2.trans s3)) rm' (er2.mono s3) h⟩
          · exact h.elim
        · exact h.elim
      · exact h.elim
    · cases h
  | .dau o i op e, W, X, g, hN, hs, hf, po, fo, st, h => by
    unfold chkS at h; split at h
    · simp only [Bool.and_eq_true] at h
      obtain ⟨⟨⟨⟨⟨k1, k2⟩, k3⟩, k4⟩, k5⟩, k6⟩ := h
      have e1 := of_decide_eq_true k1
      subst e1
      have hu : X.A.units + 1 < cLine := by have := g.un; omega
      refine PS.imp (ps_daug hu ((snd_E o g hN hs k2).E) ((snd_E i g hN hs k3).E) ((snd_E e g hN hs k5).E) (inop_of (G := G) k6) (aug_ok k4)) fun D σ H ⟨F, M, env, N, rm, er, en, h⟩ => ?_
      refine enter rm er (en.cx er) h fun F1 M1 H1 v1 d1 s1 rm1 er1 cx1 r1 h => enter rm1 er1 cx1 h fun F2 M2 H2 v2 d2 s2 rm2 er2 cx2 r2 h => ?_
      obtain ⟨a, kvs, k, v, rfl, q1, q2, q3, h⟩ := dget_inv h
      cases r1
      obtain ⟨nf, vks, g1, g2⟩ := rm2.mt a _ q1
      obtain ⟨w, w1, w2⟩ := g2.look q3
      refine ⟨a, w, rfl, by rw [key_rel r2 q2, ← w1]; exact DGet.k g1, ?_⟩
      refine enter rm2 er2 cx2 h fun F3 M3 H3 v3 d3 s3 rm3 er3 cx3 r3 h => ?_
      refine ⟨F3, M3, v, d3, _, rm3, w2.mono s3, r3, fun F4 M4 H4 v4 d4 s4 rm4 r4 h => ?_, h⟩
      obtain ⟨a', kvs', k', z1, e1, e2, hl, h⟩ := dput_inv h
      cases z1
      rw [q2] at e2
      cases e2
      obtain ⟨nf', vks', g1', g2'⟩ := rm4.mt a _ e1
      refine ⟨_, by rw [key_rel r2 q2]; exact DPut.k g1' (by rw [g2'.len]; exact hl), ?_⟩
      exact en.nx F4 _ _ env σ (s1.trans (s2.trans (s3.trans s4))) (rm4.put (ob' := .dic (putD kvs' k d4)) (o := .dK (putK vks' k v4)) e1 ⟨_, upd_same, g2'.put r4⟩) (er3.mono s4) h
    · cases h
  | .asu ts e, W, X, g, hN, hs, hf, po, fo, st, h => by
    unfold chkS at h; split at h
    · rename_i tgs kk tp e' pos
      simp only [Bool.and_eq_true] at h
      obtain ⟨⟨k1, k2⟩, k3⟩ := h
      obtain ⟨l1, l2⟩ := ts_len k1 X.env
      refine PS.imp (ps_asg ((snd_E e g hN hs k2).E) (pg_tup (g.calm hot) (snd_Ts g hN hs hf k1) l1 l2) noswT (noswap (by unfold noSwapT; exact k3)) rfl) fun D σ H ⟨F, M, env, N, rm, er, en, h⟩ => ?_
      refine enter rm er (en.cx er) h fun F1 M1 H1 v1 d1 s1 rm1 er1 cx1 r1 h => ?_
      revert h
      split
      · rename_i ds
        intro h
        obtain ⟨p, vs, rfl, g1, g2⟩ := rd_T rm1 r1
        have hl : vs.length = tgs.length := by rw [g2.len, ← ts_num k1]; exact h.1.symm
        refine ⟨p, vs, rfl, by rw [g.hK]; exact g1, hl, F1, M1, env, ds, N.nx, N.ex, rm1, er1, g2, h.2, fun F2 M2 H2 e2 σ2 s2 => en.nx F2 M2 H2 e2 σ2 (s1.trans s2), fun F2 M2 H2 e2 σ2 z c dd s2 => en.ex F2 M2 H2 e2 σ2 z c dd (s1.trans s2)⟩
      · exact fun h => h.elim
    · cases h
  | .rsb c es, W, X, g, hN, hs, hf, po, fo, st, h => by
    unfold chkS at h; split at h
    · rename_i x p1 a' es' p2 p3
      simp only [Bool.and_eq_true] at h
      obtain ⟨⟨⟨⟨k1, k2⟩, k3⟩, k4⟩, k5⟩ := h
      have hc := any_mem k1
      have hr : c ∈ tb.xb := by
        obtain ⟨p, hp, e⟩ := List.any_eq_true.mp k2
        rw [← of_decide_eq_true e]
        exact hp
      obtain ⟨C, fI, fd, ps, c1, c2, c3, c4, c5, c6, c7, c8, c9⟩ := (g.ob.xbs c x hr hc).ex
      obtain ⟨j1, j2⟩ := gl_of hs k3
      obtain ⟨t1, t2⟩ := tr_head (env := X.env) (pos := p2) k4
      have room : Room (1 + 1) X.A := (g.room hot).mono (Nat.le_succ_of_le g.k2)
      have fin : ∀ {F : Hp} {M : Mem} {env : Env} {N : Wp.Ends} {σ : L2.St} {D : L2.Ends} {F1 : Hp} {M1 : Mem} {H1 : Hp} {v1 y1 : V} {d1 e1 : Wp.D}, EndsR G W F N D → Same F F1 → RM G F1 M1 H1 → EnvR G F1 env σ → RelD G F1 v1 d1 → RelD G F1 y1 e1 → N.ex ⟨c, [("side", e1), ("at", d1)]⟩ env M1 →
          ∀ p, H1 p = none → spB C [.ref p, v1, y1] (upd H1 p (L2.exo p C none)) (fun v H2 => v = .non ∧ ∃ (d : Addr) (fs : List (Str × V)), H2 p = some (L2.exo p C (some d)) ∧ H2 d = some (L2.exd d fs) ∧ H1 d = none ∧ W (.ref C) (some d) σ (upd (L2.del H2 p) d (.xd fs))) (fun _ _ _ => False) := fun {F M env N σ D F1 M1 H1 v1 y1 d1 e1} en s1 rm1 er1 r1 r2 h p hp => by
        refine ⟨p, v1, y1, rfl, upd_same, fun dx n1 n2 => ⟨rfl, dx, [("side", y1), ("at", v1)], ?_, upd_same, ?_, ?_⟩⟩
        · rw [upd_ne (Ne.symm n2), upd_same]
        · rw [upd_ne n2] at n1
          exact n1
        · rw [upd_ne n2] at n1
          rw [raise_heap2 hp n2]
          have s2 := same_upd (o := .xd [(("side" : Str), y1), (("at" : Str), v1)]) (rm1.freeF n1)
          exact en.ex _ M1 _ env σ ⟨c, [("side", e1), ("at", d1)]⟩ (.ref C) (some dx) (s1.trans s2) (rm1.frz n1) (er1.mono s2) ⟨C, c1, rfl, .inr ⟨dx, _, rfl, upd_same, .cons ⟨rfl, r2.mono s2⟩ (.cons ⟨rfl, r1.mono s2⟩ .nil)⟩⟩ h
      obtain ⟨x1, xs, rfl, w1, w2, w3⟩ := chkA_cons k4
      cases es' with
      | nil =>
        cases chkA_nil w3
        have P := L2.pmk_oex (CX := L2.CX0) (k := 1) (ds := [.none]) (dvs := [.non]) (p := p1) (pos := p2) c4 c5 c6 c9 room c8 (.cons rfl .nil) L2.pass0 j1 c2 (snd_A (.cons x1 .nil) g hN hs k4) j2 t1 t2
        refine PS.imp (ps_raise (g.calm hot) g.tk P) fun D σ H ⟨F, M, env, N, rm, er, en, h⟩ => ?_
        have h' : wpA R (.cons x1 .nil) env M (fun ds M1 => ∃ d, ds = [d] ∧ N.ex ⟨c, [("side", .non), ("at", d)]⟩ env M1) (fun z M => N.ex z env M) := (mon R R g.mon x1).E (fun d M1 h => ⟨d, rfl, h⟩) (fun _ _ h => h) h
        refine enterA rm er (en.cx er) h' fun F1 M1 H1 vs ds s1 rm1 er1 cx1 rs ⟨d, ed, h⟩ => ?_
        subst ed
        obtain ⟨v, rfl, r⟩ := relds1 rs
        exact ⟨(by decide : 1 ≤ 1000), fin (M := M) en s1 rm1 er1 r .non h⟩
      | cons b' es' =>
        obtain ⟨x2, xs2, rfl, u1, u2, u3⟩ := chkA_cons w3
        cases es' with
        | cons _ _ => exact absurd (of_decide_eq_true k5) (by simp)
        | nil =>
          cases chkA_nil u3
          have P := L2.pmk_oex (CX := L2.CX0) (k := 1) (ds := []) (dvs := []) (p := p1) (pos := p2) c4 c5 c6 c9 room c7 .nil L2.pass0 j1 c2 (snd_A (.cons x1 (.cons x2 .nil)) g hN hs k4) j2 t1 t2
          refine PS.imp (ps_raise (g.calm hot) g.tk P) fun D σ H ⟨F, M, env, N, rm, er, en, h⟩ => ?_
          have h' : wpA R (.cons x1 (.cons x2 .nil)) env M (fun ds M1 => ∃ d e, ds = [d, e] ∧ N.ex ⟨c, [("side", e), ("at", d)]⟩ env M1) (fun z M => N.ex z env M) :=
            (mon R R g.mon x1).E (fun d M1 h => (mon R R g.mon x2).E (fun e M2 h => ⟨d, e, rfl, h⟩) (fun _ _ h => h) h) (fun _ _ h => h) h
          refine enterA rm er (en.cx er) h' fun F1 M1 H1 vs ds s1 rm1 er1 cx1 rs ⟨d, e, ed, h⟩ => ?_
          subst ed
          obtain ⟨v, w, rfl, r, r2⟩ := relds2 rs
          exact ⟨(by decide : 2 ≤ 1000), fin (M := M) en s1 rm1 er1 r r2 h⟩
    · cases h
  | .tr2 c i t d j u s, W, X, g, hN, hs, hf, po, fo, st, h => by
    unfold chkS at h; split at h
    · rename_i body h1 h2 pos
      simp only [Bool.and_eq_true] at h
      obtain ⟨⟨k1, k2⟩, k3⟩ := h
      obtain ⟨C1, m1, n1⟩ := hd_ok g hN hs hf k2
      obtain ⟨C2, m2, n2⟩ := hd_ok g hN hs hf k3
      refine PS.imp (L2.ps_try_hds (tb := fun W => liftS G W (wpS R s)) fo.ex fo.st fo.fr g.nd g.tk
        (fun W' pn xe tk' po' => snd_L hot s (W := W') (X := X.tr pn xe) ⟨g.hK, g.nd, g.calm, g.room, g.un, g.hn, g.hb, tk', g.fns, g.glb, g.bnn, g.len, g.mon, g.k2, g.xt, g.mkr, g.own, g.ob⟩ hN hs hf po' ⟨fo.ex, fo.st, fo.fr⟩ k1)
        (n1 (n2 .nil))) fun D σ H ⟨F, M, env, N, rm, er, en, h⟩ => ?_
      refine ⟨F, M, env, _, rm, er, ?_, h⟩
      refine ⟨en.nx, en.rt, en.bk, en.ct, fun F1 M1 H1 env1 σ1 z cls dd s1 rm1 er1 rx q => ?_⟩
      have rx0 := rx
      obtain ⟨C, x1, rfl, x2⟩ := rx
      refine ⟨subX z.c c, (g.xt.sub z.c C c C1 x1 m1).2, fun hb => ?_, fun hb => ⟨subX z.c d, (g.xt.sub z.c C d C2 x1 m2).2, fun hb2 => ?_, fun hb2 => ?_⟩⟩
      · dsimp only at q
        rw [hb] at q
        exact cl_read (R := R) rm1 er1 (en.mono s1) rx0 q
      · dsimp only at q
        rw [hb] at q
        dsimp only at q
        rw [hb2] at q
        exact cl_read (R := R) rm1 er1 (en.mono s1) rx0 q
      · dsimp only at q
        rw [hb] at q
        dsimp only at q
        rw [hb2] at q
        exact en.ex F1 M1 H1 env1 σ1 z _ dd s1 rm1 er1 rx0 q
    · cases h
  | .nil, W, X, g, hN, hs, hf, po, fo, st, h => by cases h
  | .seq _ _, W, X, g, hN, hs, hf, po, fo, st, h => by cases h
  | .frz _, W, X, g, hN, hs, hf, po, fo, st, h => by cases h
theorem snd_L (hot : tb.hot = true) : ∀ (s : Sx) {W : WX} {X : Cx}, Good G tb R k W X → X.N = N → X.env.scope = sc → X.fn = (fun _ => true) → PassesOwn (model X.prog X.w) X.A X.env X.xe → FrOk X → ∀ {sts : List Stmt}, chkL tb N sc s sts = true → PSs X sts (liftS G W (wpS R s))
  | .nil, W, X, g, hN, hs, hf, po, fo, sts, h => by
    unfold chkL at h; split at h
    · exact PSs.imp pss_nil fun D σ H ⟨F, M, env, N, rm, er, en, h⟩ => en.nx F M H env σ (Same.refl _) rm er h
    · cases h
  | .seq s t, W, X, g, hN, hs, hf, po, fo, sts, h => by
    unfold chkL at h
    split at h
    · rename_i i
      refine PSs.imp (snd_L hot t g hN hs hf po fo h) fun D σ H ⟨F, M, env, N, rm, er, en, h⟩ => ?_
      dsimp only [wpS] at h
      split at h
      · rename_i a e1
        split at h
        · rename_i ds e2
          obtain ⟨vs, f1, f2, f3, f4⟩ := rm.freeze e2
          have s1 := same_upd (o := .lst vs) f1
          refine ⟨_, _, _, N, f4, ?_, en.mono s1, h⟩
          obtain ⟨v, v1, v2⟩ := er.at_ i _ e1
          cases v2
          refine ⟨by unfold setV; rw [List.length_set]; exact er.len, fun j d hj => ?_⟩
          unfold setV at hj
          rw [vals_set] at hj
          by_cases hc : i = j ∧ i < env.length
          · rw [if_pos hc] at hj
            cases hj
            rw [← hc.1]
            exact ⟨_, v1, .lst upd_same (f3.mono s1)⟩
          · rw [if_neg hc] at hj
            obtain ⟨w, w1, w2⟩ := er.at_ j d hj
            exact ⟨w, w1, w2.mono s1⟩
        · exact h.elim
      · exact h.elim
    · split at h
      · rw [Bool.and_eq_true] at h
        refine PSs.imp (pss_cons (snd_S hot _ g hN hs hf po fo h.1) (snd_L hot t g hN hs hf po fo h.2)) fun D σ H ⟨F, M, env, N, rm, er, en, h⟩ => ?_
        refine ⟨F, M, env, _, rm, er, ?_, h⟩
        exact ⟨fun F1 M1 H1 e1 σ1 s1 rm1 er1 q => ⟨F1, M1, e1, N, rm1, er1, en.mono s1, q⟩, en.rt, en.bk, en.ct, en.ex⟩
      · cases h
  | .asg _ _, W, X, g, hN, hs, hf, po, fo, sts, h => by cases h
  | .sub _ _ _, W, X, g, hN, hs, hf, po, fo, sts, h => by cases h
  | .dput _ _ _, W, X, g, hN, hs, hf, po, fo, sts, h => by cases h
  | .aug _ _ _, W, X, g, hN, hs, hf, po, fo, sts, h => by cases h
  | .drop _, W, X, g, hN, hs, hf, po, fo, sts, h => by cases h
  | .ret _, W, X, g, hN, hs, hf, po, fo, sts, h => by cases h
  | .ife _ _ _, W, X, g, hN, hs, hf, po, fo, sts, h => by cases h
  | .loop _ _, W, X, g, hN, hs, hf, po, fo, sts, h => by cases h
  | .each _ _ _, W, X, g, hN, hs, hf, po, fo, sts, h => by cases h
  | .pass, W, X, g, hN, hs, hf, po, fo, sts, h => by cases h
  | .brk, W, X, g, hN, hs, hf, po, fo, sts, h => by cases h
  | .cnt, W, X, g, hN, hs, hf, po, fo, sts, h => by cases h
  | .never, W, X, g, hN, hs, hf, po, fo, sts, h => by cases h
  | .frz _, W, X, g, hN, hs, hf, po, fo, sts, h => by cases h
  | .rse _ _ _, W, X, g, hN, hs, hf, po, fo, sts, h => by cases h
  | .rsp _ _, W, X, g, hN, hs, hf, po, fo, sts, h => by cases h
  | .tri _ _ _ _, W, X, g, hN, hs, hf, po, fo, sts, h => by cases h
  | .trn _ _ _, W, X, g, hN, hs, hf, po, fo, sts, h => by cases h
  | .sfl _ _ _, W, X, g, hN, hs, hf, po, fo, sts, h => by cases h
  | .fau _ _ _ _, W, X, g, hN, hs, hf, po, fo, sts, h => by cases h
  | .dau _ _ _ _, W, X, g, hN, hs, hf, po, fo, sts, h => by cases h
  | .asu _ _, W, X, g, hN, hs, hf, po, fo, sts, h => by cases h
  | .rsb _ _, W, X, g, hN, hs, hf, po, fo, sts, h => by cases h
  | .tr2 _ _ _ _ _ _ _, W, X, g, hN, hs, hf, po, fo, sts, h => by cases h
end
end
end Wp

/-! WpS12: the defs of a table keep what the trees tell. -/
namespace Wp
open PySem PySem.Spec PyProof.Rows L2
mutual
theorem rep_ok {G : Gx} {F : Hp} {a : Addr} {vs : List V} {ds : List D} (nF : F a = none) (rs : RelDs G F vs ds) : ∀ {d : D} {v : V}, RelD G F v d → RelD G (upd F a (.lst vs)) v (repD a ds d)
  | .non, _, h => by cases h; exact .non
  | .bl b, _, h => by cases h; exact .bl b
  | .int b, _, h => by cases h; exact .int b
  | .str b, _, h => by cases h; exact .str b
  | .tup xs, _, h => by
    cases h with
    | tup h1 h2 => exact .tup (same_t (same_upd nF) h1) (reps_ok nF rs h2)
  | .lst xs, _, h => by
    cases h with
    | lst h1 h2 => exact .lst (same_upd nF _ _ h1) (reps_ok nF rs h2)
  | .scr ns, _, h => by
    cases h with
    | scr h1 => exact .scr ((same_upd nF).seq h1)
  | .emp, _, h => by
    cases h with
    | emp h1 => exact .emp (same_upd nF _ _ h1)
  | .loc b, _, h => by
    cases h
    unfold repD
    by_cases e : b = a
    · rw [if_pos e, e]
      exact .lst upd_same (rs.mono (same_upd nF))
    · rw [if_neg e]
      exact .loc
theorem reps_ok {G : Gx} {F : Hp} {a : Addr} {vs : List V} {ds : List D} (nF : F a = none) (rs : RelDs G F vs ds) : ∀ {xs : List D} {us : List V}, RelDs G F us xs → RelDs G (upd F a (.lst vs)) us (repDs a ds xs)
  | [], _, h => by cases h; exact .nil
  | x :: xs, _, h => by
    cases h with
    | cons h1 h2 => exact .cons (rep_ok nF rs h1) (reps_ok nF rs h2)
end
theorem frz_ok {G : Gx} {q : QK} {Q : VK} {v : V} {H : Hp} {d : D} {M : Mem} (h : Frz d M q) : ∀ {F : Hp}, RM G F M H → RelD G F v d → Cn G F q Q → Q v H := by
  induction h with
  | done h => exact fun rm r cn => cn_here rm cn r h
  | step e _ ih =>
    intro F rm r cn
    obtain ⟨vs, nF, h1, h2, rm2⟩ := rm.freeze e
    have s := same_upd (o := .lst vs) nF
    exact ih rm2 (rep_ok nF h2 r) (cn.mono s)

/-- a def of the text that is in the table -/
structure DefOk (K : PySem.W.Frag) (mg : Str → Option Value) (tb : Tb) (T : Nat → Option Fn) (f : Nat) (x : Str) : Prop where
  ex : ∃ (fn : Fn) (ad : Addr) (fd : FuncData) (N ps : List Str) (params : Arguments) (body : List Stmt) (scope : Scope) (nm ql : Str), T f = some fn ∧ mg x = some (.ref ad) ∧ FunD K nm ql params body scope [] [] ad fd ∧ Binds K fd ps [] ∧ FnScope N ps scope ∧
    ps.length = tb.ar f ∧ fn.np = tb.ar f ∧ N.length = fn.ns ∧ chkL tb N scope fn.body body = true
/-- __init__(self, v): self.f = v -/
def iniB (N : List Str) (sc : Scope) (f : Str) : List Stmt → Bool
  | [.Assign [.Attribute (.Name s _) g _] (.Name v _) _] => decide (g = f) && decide (N[0]? = some s) && decide (N[1]? = some v) && visB sc s && visB sc v && okB s && okB v
  | _ => false
structure IniOk (K : PySem.W.Frag) (mg : Str → Option Value) (cl : Nat → Option Addr) (c : Nat) (x f : Str) : Prop where
  ex : ∃ (C fI : Addr) (fd : FuncData) (N ps : List Str) (params : Arguments) (body : List Stmt) (scope : Scope) (nm ql : Str), cl c = some C ∧ mg x = some (.ref C) ∧ PySem.W.keepIn K (.ref C) = true ∧ L2.OexC K C ∧ PySem.W.findIn K (.ref C) "__init__" = some (some (.ref fI)) ∧
    PySem.W.typeIn K (.ref fI) = some (.type "function") ∧ FunD K nm ql params body scope [] [] fI fd ∧ Binds K fd ps [] ∧ FnScope N ps scope ∧ ps.length = 2 ∧ PySem.W.findIn K (.ref C) f = some none ∧ iniB N scope f body = true
theorem ini_ok {P : Program} {w : World} {K : PySem.W.Frag} {mg : Str → Option Value} {base : Heap} {cl : Nat → Option Addr} {c : Nat} {x f : Str} (h : IniOk K mg cl c x f) : XMk P w K mg base cl c x f := by
  obtain ⟨C, fI, fd, N, ps, params, body, scope, nm, ql, h1, h2, h3, h4, h5, h6, FD, hb, S, hp, hno, hc⟩ := h.ex
  refine ⟨C, fI, fd, ps, h1, h2, h3, h4, h5, h6, hb, FD.ok S (fun vs H Q E ⟨a, v, e, _⟩ => by rw [e, hp]; rfl) fun cdv A outer s H vs Q E hr ⟨a, v, e, ha, k⟩ => ?_⟩
  unfold iniB at hc
  split at hc
  · rename_i sn p1 g p2 vn p3 pos
    simp only [Bool.and_eq_true] at hc
    obtain ⟨⟨⟨⟨⟨⟨c1, c2⟩, c3⟩, c4⟩, c5⟩, c6⟩, c7⟩ := hc
    have e1 := of_decide_eq_true c1
    subst e1 e
    obtain ⟨o1, o2⟩ := ok_of c6
    obtain ⟨o3, o4⟩ := ok_of c7
    refine ⟨_, pss_cons (L2.ps_ost (pe_var (i := 0) (of_decide_eq_true c2) (vis_of c4) o1 o2) (pe_var (i := 1) (of_decide_eq_true c3) (vis_of c5) o3 o4) rfl) pss_nil, ?_⟩
    refine ⟨v, rfl, .ref a, rfl, a, C, rfl, h4, hno, .inl ⟨ha, fun dx n1 n2 => ?_⟩⟩
    exact k dx n1 n2
  · cases hc
/-- __init__(self, v, y): self.at = v; self.side = y -/
def iniBB (N : List Str) (sc : Scope) : List Stmt → Bool
  | [.Assign [.Attribute (.Name s _) g _] (.Name v _) _, .Assign [.Attribute (.Name s2 _) g2 _] (.Name y _) _] => decide (g = "at") && decide (g2 = "side") && decide (N[0]? = some s) && decide (N[0]? = some s2) && decide (N[1]? = some v) && decide (N[2]? = some y) && visB sc s && visB sc v && visB sc s2 && visB sc y && okB s && okB v && okB s2 && okB y
  | _ => false
structure IniB (K : PySem.W.Frag) (mg : Str → Option Value) (cl : Nat → Option Addr) (c : Nat) (x : Str) : Prop where
  ex : ∃ (C fI : Addr) (fd : FuncData) (N ps : List Str) (params : Arguments) (body : List Stmt) (scope : Scope) (nm ql : Str) (dvs : List V), cl c = some C ∧ mg x = some (.ref C) ∧ PySem.W.keepIn K (.ref C) = true ∧ L2.OexC K C ∧ PySem.W.findIn K (.ref C) "__init__" = some (some (.ref fI)) ∧
    PySem.W.typeIn K (.ref fI) = some (.type "function") ∧ FunD K nm ql params body scope dvs [] fI fd ∧ Binds K fd ps [] ∧ Binds K fd ps [.none] ∧ FnScope N ps scope ∧ ps.length = 3 ∧ PySem.W.findIn K (.ref C) "at" = some none ∧ PySem.W.findIn K (.ref C) "side" = some none ∧ iniBB N scope body = true
theorem inib_ok {P : Program} {w : World} {K : PySem.W.Frag} {mg : Str → Option Value} {base : Heap} {cl : Nat → Option Addr} {c : Nat} {x : Str} (h : IniB K mg cl c x) : XMb P w K mg base cl c x := by
  obtain ⟨C, fI, fd, N, ps, params, body, scope, nm, ql, dvs, h1, h2, h3, h4, h5, h6, FD, hb, hb2, S, hp, hn1, hn2, hc⟩ := h.ex
  refine ⟨C, fI, fd, ps, h1, h2, h3, h4, h5, h6, hb, hb2, FD.ok S (fun vs H Q E ⟨a, v, y, e, _⟩ => by rw [e, hp]; rfl) fun cdv A outer s H vs Q E hr ⟨a, v, y, e, ha, k⟩ => ?_⟩
  unfold iniBB at hc
  split at hc
  · rename_i sn p1 g p2 vn p3 pos sn2 p4 g2 p5 yn p6 pos2
    simp only [Bool.and_eq_true] at hc
    obtain ⟨⟨⟨⟨⟨⟨⟨⟨⟨⟨⟨⟨⟨c1, c2⟩, c3⟩, c4⟩, c5⟩, c6⟩, c7⟩, c8⟩, c9⟩, d1⟩, d2⟩, d3⟩, d4⟩, d5⟩ := hc
    have e1 := of_decide_eq_true c1
    have e2 := of_decide_eq_true c2
    subst e1 e2 e
    obtain ⟨o1, o2⟩ := ok_of d2
    obtain ⟨o3, o4⟩ := ok_of d3
    obtain ⟨o5, o6⟩ := ok_of d4
    obtain ⟨o7, o8⟩ := ok_of d5
    refine ⟨_, pss_cons (L2.ps_ost (pe_var (i := 0) (of_decide_eq_true c3) (vis_of c7) o1 o2) (pe_var (i := 1) (of_decide_eq_true c5) (vis_of c8) o3 o4) rfl)
      (pss_cons (L2.ps_ost (pe_var (i := 0) (of_decide_eq_true c4) (vis_of c9) o5 o6) (pe_var (i := 2) (of_decide_eq_true c6) (vis_of d1) o7 o8) rfl) pss_nil), ?_⟩
    refine ⟨v, rfl, .ref a, rfl, a, C, rfl, h4, hn1, .inl ⟨ha, fun dx n1 n2 => ?_⟩⟩
    refine ⟨y, rfl, .ref a, rfl, a, C, rfl, h4, hn2, .inr ⟨dx, [("at", v)], upd_same, by rw [upd_ne n2, upd_same], Nat.le_of_ble_eq_true rfl, ?_⟩⟩
    exact k dx n1 n2
  · cases hc
/-- a method of the text that is in the table -/
structure MethOk (K : PySem.W.Frag) (co : Nat → Option Addr) (tb : Tb) (T : Nat → Option Fn) (f c : Nat) (m : Str) : Prop where
  ex : ∃ (fn : Fn) (C ad : Addr) (fd : FuncData) (N ps : List Str) (params : Arguments) (body : List Stmt) (scope : Scope) (nm ql : Str), T f = some fn ∧ co c = some C ∧ Meth K C m ad ∧ FunD K nm ql params body scope [] [] ad fd ∧ Binds K fd ps [] ∧ FnScope N ps scope ∧
    ps.length = tb.ar f ∧ fn.np = tb.ar f ∧ N.length = fn.ns ∧ chkL tb N scope fn.body body = true
/-- the table and the text -/
structure Prg (K : PySem.W.Frag) (mg : Str → Option Value) (tb : Tb) (T : Nat → Option Fn) (cl co : Nat → Option Addr) : Prop where
  defs : ∀ f x, tb.nm f = some x → DefOk K mg tb T f x
  cons : ∀ p ∈ tb.cs, ∃ v u, mg p.1 = some u ∧ RelV v u ∧ ∀ (G : Gx) (F : Hp), G.K = K → RelD G F v p.2
  blts : ∀ x ∈ tb.bn, mg x = none
  xt : XTab K mg cl tb.xc
  mkr : ∀ c f x, (c, f) ∈ tb.xr → (c, x) ∈ tb.xc → IniOk K mg cl c x f
  own : ∀ c x, c ∈ tb.xo → (c, x) ∈ tb.xc → XOwn K mg cl c x
  hot : tb.hot = true
  mts : ∀ f c m, tb.me f = some (c, m) → MethOk K co tb T f c m
  cls : ∀ c C, co c = some C → Cls K C ∧ ∀ f ∈ tb.of, NoAttr K C f
  mks : ∀ c x, (c, x) ∈ tb.oc → ∃ C, co c = some C ∧ mg x = some (.ref C) ∧ PySem.W.makesIn K C = true ∧ PySem.W.keepIn K (.ref C) = true
  xbs : ∀ c x, c ∈ tb.xb → (c, x) ∈ tb.xc → IniB K mg cl c x
theorem xt_no {K : PySem.W.Frag} {mg : Str → Option Value} : XTab K mg (fun _ => none) [] :=
  ⟨fun p hp => (by cases hp), fun c C h => (by cases h), fun c C h => (by cases h), fun c C d D h => (by cases h), fun c C f h => (by cases h)⟩

theorem start_rel {G : Gx} {F : Hp} {vs : List V} {ds : List D} (rs : RelDs G F vs ds) (N : List Str) (fn : Fn) (hn : N.length = fn.ns) (hp : ds.length = fn.np) : EnvR G F (Wp.start fn ds) (L2.start N vs) := by
  have hl := rs.len
  refine ⟨?_, fun i d e => ?_⟩
  · unfold Wp.start L2.start
    rw [List.length_append, List.length_append, List.length_map, List.length_map, List.length_replicate, List.length_replicate, hl, hn, hp]
  · unfold Wp.start slv at e
    by_cases hi : i < ds.length
    · rw [List.getElem?_append_left (by rw [List.length_map]; exact hi), List.getElem?_map] at e
      cases q : ds[i]? with
      | none => rw [q] at e; cases e
      | some d' =>
        rw [q] at e
        cases e
        obtain ⟨v, h1, h2⟩ := rs.get q
        refine ⟨v, ?_, h2⟩
        unfold L2.start
        rw [List.getElem?_append_left (by rw [List.length_map, hl]; exact hi), List.getElem?_map, h1]
        rfl
    · rw [List.getElem?_append_right (by rw [List.length_map]; omega), List.getElem?_replicate] at e
      split at e <;> cases e

abbrev FnAt (P : Program) (w : World) (K : PySem.W.Frag) (mg : Str → Option Value) (base : Heap) (tb : Tb) (T : Nat → Option Fn) (cl co : Nat → Option Addr) (k : Nat) : Prop :=
  (∀ (f : Nat) (x : Str), tb.nm f = some x → ∃ ad fd ps, mg x = some (.ref ad) ∧ PySem.W.keepIn K (.ref ad) = true ∧ Binds K fd ps [] ∧ ps.length = tb.ar f ∧ FnOk P w K mg base (L2.CX P w) (2 * k + 2) ad fd ps (liftSp ⟨K, cl, co, fun _ => none⟩ (tb.ar f) (run T k f))) ∧
  (∀ (f c : Nat) (m : Str), tb.me f = some (c, m) → ∃ C ad fd ps, co c = some C ∧ Meth K C m ad ∧ Binds K fd ps [] ∧ ps.length = tb.ar f ∧ FnOk P w K mg base (L2.CX P w) (2 * k + 2) ad fd ps (liftSp ⟨K, cl, co, fun _ => none⟩ (tb.ar f) (run T k f)))
/-- one level up -/
theorem run_step {P : Program} {w : World} {K : PySem.W.Frag} {mg : Str → Option Value} {base : Heap} {tb : Tb} {T : Nat → Option Fn} {cl co : Nat → Option Addr} (Pr : Prg K mg tb T cl co) {k f : Nat} {x y : Str}
    (ih : FnAt P w K mg base tb T cl co k)
    {fn : Fn} {ad : Addr} {fd : FuncData} {N ps : List Str} {params : Arguments} {body : List Stmt} {scope : Scope} (hT : T f = some fn) (FD : FunD K x y params body scope [] [] ad fd) (S : FnScope N ps scope)
    (h1 : ps.length = tb.ar f) (h2 : fn.np = tb.ar f) (h3 : N.length = fn.ns) (hc : chkL tb N scope fn.body body = true) :
    FnOk P w K mg base (L2.CX P w) (2 * (k + 1) + 2) ad fd ps (liftSp ⟨K, cl, co, fun _ => none⟩ (tb.ar f) (run T (k + 1) f)) := by
  refine FD.ok (k := 2 * k + 3) S (fun vs H Q E h => by rw [h1]; exact h.1) fun cdv A outer s H vs Q E hr h => ?_
  obtain ⟨hl, Ph, F, M, ds, q, e, rm, rs, cn, cx, h⟩ := h
  dsimp only [run] at h
  rw [hT] at h
  obtain ⟨hlen, h⟩ := h
  have g : Good ((⟨K, cl, co, fun _ => none⟩ : Gx).hide Ph) tb (run T k) (2 * k + 2) (fun cls d _ H => E cls d H) (cxOf (L2.CX P w) P w K mg base N y scope ad cdv A outer s H E) :=
    Good.hide (G := ⟨K, cl, co, fun _ => none⟩) ⟨rfl, S.nd, fun _ => rfl, fun _ => hr, Nat.lt_of_le_of_lt (Nat.add_le_add_right (Nat.le_add_right _ (16 * (2 * k + 3))) 200) hr.un, fun _ _ _ => Pr.hot, fun _ _ => Pr.hot, takes_of rfl rfl rfl rfl, fun f' x' hx' => ih.1 f' x' hx', fun p hp => by
      obtain ⟨v, u, c1, c2, c3⟩ := Pr.cons p hp
      exact ⟨v, u, c1, c2, fun F => c3 _ F rfl⟩, Pr.blts, fun f' x' ds' M' q' e' hx' hr' => by
        obtain ⟨fn', _, _, _, _, _, _, _, _, _, hT', _, _, _, _, _, h2', _, _⟩ := (Pr.defs f' x' hx').ex
        cases k with
        | zero => exact hr'.elim
        | succ k =>
          dsimp only [run] at hr'
          rw [hT'] at hr'
          exact hr'.1.trans h2', run_mono T k k (Nat.le_refl _), by omega, Pr.xt, fun c f x h1 h2 => ini_ok (Pr.mkr c f x h1 h2), Pr.own, ⟨fun f' c' m' hx' => ih.2 f' c' m' hx', fun _ _ _ _ => Pr.hot, fun f' c' m' ds' M' q' e' hx' hr' => by
        obtain ⟨fn', _, _, _, _, _, _, _, _, _, _, hT', _, _, _, _, _, _, h2', _, _⟩ := (Pr.mts f' c' m' hx').ex
        cases k with
        | zero => exact hr'.elim
        | succ k =>
          dsimp only [run] at hr'
          rw [hT'] at hr'
          exact hr'.1.trans h2', Pr.cls, Pr.mks, fun c x h1 h2 => inib_ok (Pr.xbs c x h1 h2)⟩⟩ Ph
  refine ⟨_, snd_L Pr.hot fn.body g rfl rfl rfl (passes_of rfl) ⟨rfl, rfl, rfl⟩ hc, ?_⟩
  refine ⟨F, M, Wp.start fn ds, _, rm, start_rel (rs.hide Ph) N fn h3 hlen, ?_, h⟩
  exact ⟨fun F' M' H' env' σ' s' rm' er' q' => frz_ok q' rm' .non (cn.mono s'), fun F' M' H' v d s' rm' r' q' => frz_ok q' rm' r' (cn.mono s'), fun F' M' H' env' σ' s' rm' er' q' => q'.elim, fun F' M' H' env' σ' s' rm' er' q' => q'.elim, fun F' M' H' env' σ' z c dd s' rm' er' rx q' => cx F' M' H' z c dd s' rm' rx q'⟩
/-- THE TABLE: every def, every method keeps, at every level, what the trees tell -/
theorem run_all {P : Program} {w : World} {K : PySem.W.Frag} {mg : Str → Option Value} {base : Heap} {tb : Tb} {T : Nat → Option Fn} {cl co : Nat → Option Addr} (Pr : Prg K mg tb T cl co) : ∀ (k : Nat), FnAt P w K mg base tb T cl co k
  | 0 => by
    refine ⟨fun f x hx => ?_, fun f c m hx => ?_⟩
    · obtain ⟨fn, ad, fd, N, ps, params, body, scope, nm, ql, hT, hm, FD, hb, S, h1, h2, h3, hc⟩ := (Pr.defs f x hx).ex
      refine ⟨ad, fd, ps, hm, FD.kp, hb, h1, ⟨fun vs H Q E h => by rw [h1]; exact h.1, fun A outer s H args us vs Q E hr he hbt hv h => ?_⟩⟩
      obtain ⟨_, _, _, _, _, _, _, _, _, _, _, h⟩ := h
      exact h.elim
    · obtain ⟨fn, C, ad, fd, N, ps, params, body, scope, nm, ql, hT, hm, hM, FD, hb, S, h1, h2, h3, hc⟩ := (Pr.mts f c m hx).ex
      refine ⟨C, ad, fd, ps, hm, hM, hb, h1, ⟨fun vs H Q E h => by rw [h1]; exact h.1, fun A outer s H args us vs Q E hr he hbt hv h => ?_⟩⟩
      obtain ⟨_, _, _, _, _, _, _, _, _, _, _, h⟩ := h
      exact h.elim
  | k + 1 => by
    refine ⟨fun f x hx => ?_, fun f c m hx => ?_⟩
    · obtain ⟨fn, ad, fd, N, ps, params, body, scope, nm, ql, hT, hm, FD, hb, S, h1, h2, h3, hc⟩ := (Pr.defs f x hx).ex
      exact ⟨ad, fd, ps, hm, FD.kp, hb, h1, run_step Pr (run_all Pr k) hT FD S h1 h2 h3 hc⟩
    · obtain ⟨fn, C, ad, fd, N, ps, params, body, scope, nm, ql, hT, hm, hM, FD, hb, S, h1, h2, h3, hc⟩ := (Pr.mts f c m hx).ex
      exact ⟨C, ad, fd, ps, hm, hM, hb, h1, run_step Pr (run_all Pr k) hT FD S h1 h2 h3 hc⟩
theorem run_ok {P : Program} {w : World} {K : PySem.W.Frag} {mg : Str → Option Value} {base : Heap} {tb : Tb} {T : Nat → Option Fn} {cl co : Nat → Option Addr} (Pr : Prg K mg tb T cl co) (k f : Nat) (x : Str) (hx : tb.nm f = some x) :
    ∃ ad fd ps, mg x = some (.ref ad) ∧ PySem.W.keepIn K (.ref ad) = true ∧ Binds K fd ps [] ∧ ps.length = tb.ar f ∧ FnOk P w K mg base (L2.CX P w) (2 * k + 2) ad fd ps (liftSp ⟨K, cl, co, fun _ => none⟩ (tb.ar f) (run T k f)) := (run_all Pr k).1 f x hx
end Wp

/-! WpEnd: from the table to a law's end. -/
namespace Wp
open PySem PySem.Spec PyProof.Rows L2
/-- a law: F gives the written part, the function object, the promise over every base; the exceptions' reading may know the world -/
theorem walk_ofW {l : PySem.W.OpenLaw} {n k : Nat} {q : Program} {loose : List Str} {XP : (Str → Option Value) → Heap → Prop} {YP : World → Heap → Prop} {d : DefRec} {CXw : World → CXT} {x : Str}
    (hn : l.most = some n) (hn2 : n ≤ sizeLine) (hdf : d.params.defaults = []) (hr : Room k callerA)
    (F : ∀ (w : World) (mg : Str → Option Value) (fa : Addr) (h : Heap), YP w h → h.Ns mainGlobals mg → mg d.name = some (.ref fa) →
      ∃ (K : PySem.W.Frag) (fd : FuncData) (sp : Sp), K.In h ∧ (∀ (s : Shared) (u : Value), BindsTo s fd ⟨[u], []⟩ [(x, u)]) ∧
        (∀ (H : Hp) (a : Addr) (ns : List Int), ns.length ≤ n → (∀ z ∈ ns, Builtin.Int.intBits z ≤ 1048576) → Only H → SqL K H a (ns.map V.int) → sp [.ref a] H (fun v _ => v = .bl true) fun _ _ _ => False) ∧
        ∀ base : Heap, K.In base → base.Ns mainGlobals mg → FnOk l.prog w K mg base (CXw w) k fa fd [x] sp)
    (hCX : ∀ (w : World) (H : Hp) (s : Shared) (e : Value) (s' : Shared), CXw w [] H s (fun _ _ _ => False) e s' → False) :
    PySem.W.WalkO q loose XP YP l.row.toRowW d [] (fun f vs => PySem.call f vs) := by
  refine Att.attach_callB hn hdf fun w s₀ s₁ mg mb fa o pm cd doc a vs ns G Y ho hd hcd hmg hobj hints hlen hbits hg => ?_
  obtain ⟨K, fd, sp, KX, hb, hsp, hF⟩ := F w mg fa _ Y G.T.g hmg
  exact law_call KX G.T.g G.T.b G.T.builtins G.T.nolimit hg hobj hints (Nat.le_trans hlen hn2) hr hF hb (fun H hO hS => hsp H a ns hlen hbits hO hS) fun H e s' => hCX w H s₁ e s'

theorem rm_start (K : PySem.W.Frag) (cl co : Nat → Option Addr) (P H : Hp) (hP : ∀ a, P a = none) : RM (⟨K, cl, co, P⟩ : Gx) H (fun _ => none) H :=
  ⟨fun _ _ e => e, (fun _ _ e => by cases e), (fun a o e => by dsimp only at e; rw [hP a] at e; cases e)⟩

theorem law_end {P : Program} {w : World} {K : PySem.W.Frag} {mg : Str → Option Value} {tb : Tb} {T : Nat → Option Fn} {h : Heap} {f k : Nat} {x : Str} {cl co : Nat → Option Addr} (Pr : Prg K mg tb T cl co) (KX : K.In h)
    {fn : Fn} {ad : Addr} {fd : FuncData} {N : List Str} {params : Arguments} {body : List Stmt} {scope : Scope} (hT : T f = some fn) (FD : FunD K "law" "law" params body scope [] [] ad fd)
    (hb : ∀ (s : Shared) (us : List Value), us.length = 1 → BindsTo s fd ⟨us, []⟩ ([x].zip us)) (S : FnScope N [x] scope)
    (h1 : 1 = tb.ar f) (h2 : fn.np = tb.ar f) (h3 : N.length = fn.ns) (hc : chkL tb N scope fn.body body = true)
    (L : ∀ ns : List Int, ns.length ≤ 63 → (∀ z ∈ ns, Builtin.Int.intBits z ≤ 1048576) → run T (k + 1) f [.scr ns] (fun _ => none) (fun d _ => d = .bl true) (fun _ _ => False)) :
    ∃ (K : PySem.W.Frag) (fd : FuncData) (sp : Sp), K.In h ∧ (∀ (s : Shared) (u : Value), BindsTo s fd ⟨[u], []⟩ [(x, u)]) ∧
        (∀ (H : Hp) (a : Addr) (ns : List Int), ns.length ≤ 63 → (∀ z ∈ ns, Builtin.Int.intBits z ≤ 1048576) → Only H → SqL K H a (ns.map V.int) → sp [.ref a] H (fun v _ => v = .bl true) fun _ _ _ => False) ∧
        ∀ base : Heap, K.In base → base.Ns mainGlobals mg → FnOk P w K mg base (L2.CX P w) (2 * (k + 1) + 2) ad fd [x] sp := by
  refine ⟨K, fd, liftSp ⟨K, cl, co, fun _ => none⟩ (tb.ar f) (run T (k + 1) f), KX, fun s u => hb s [u] rfl, fun H a ns hn hbits hO hS => ?_, fun base hK hN => run_step Pr (run_all Pr k) hT FD S h1 h2 h3 hc⟩
  refine ⟨h1, fun _ => none, H, fun _ => none, [.scr ns], _, _, rm_start _ _ _ _ _ (fun a => rfl), .cons (.scr hS) .nil, ?_, ?_, L ns hn hbits⟩
  · intro F' M' H' v d s rm r q
    subst q
    cases r
    rfl
  · exact fun F' M' H' z c dd s rm rx q => q.elim
end Wp

/-! WpTup: tuples of the module's top: what is looked at once the top has run. -/
namespace Wp
open PySem PySem.Spec PyProof.Rows L2
/-- a tuple of ints and texts that stands at a name -/
def atB : Sum Int Str → Value → Bool
  | .inl i, .int j _ => decide (i = j)
  | .inr x, .str y _ => decide (x = y)
  | _, _ => false
def itsB : List (Sum Int Str) → List Value → Bool
  | [], [] => true
  | k :: ks, v :: vs => atB k v && itsB ks vs
  | _, _ => false
def tupB (K : PySem.W.Frag) (u : Str × List (Sum Int Str)) : Bool := match K.lookup (He.ga K u.1) with
  | some ⟨.type c, _, .seq its _, _⟩ => decide (c = "tuple") && decide (its.size ≤ 100) && itsB u.2 its.toList
  | _ => false
def keyVs : Sum Int Str → D
  | .inl i => .int i
  | .inr x => .str x
theorem atB_ok {k : Sum Int Str} {u : Value} (h : atB k u = true) : RelV (kV k) u := by
  unfold atB at h
  split at h
  · have e := of_decide_eq_true h
    subst e
    exact ⟨_, rfl⟩
  · have e := of_decide_eq_true h
    subst e
    exact ⟨_, rfl⟩
  · cases h
theorem itsB_ok : ∀ {ks : List (Sum Int Str)} {us : List Value}, itsB ks us = true → Vals (ks.map kV) us
  | [], [], _ => .nil
  | k :: ks, u :: us, h => by
    unfold itsB at h
    rw [Bool.and_eq_true] at h
    exact .cons (atB_ok h.1) (itsB_ok h.2)
  | [], _ :: _, h => by cases h
  | _ :: _, [], h => by cases h
theorem keys_rel {G : Gx} {F : Hp} : ∀ (ks : List (Sum Int Str)), RelDs G F (ks.map kV) (ks.map keyVs)
  | [] => .nil
  | .inl i :: ks => .cons (.int i) (keys_rel ks)
  | .inr x :: ks => .cons (.str x) (keys_rel ks)
theorem tupB_ok {K : PySem.W.Frag} {u : Str × List (Sum Int Str)} (h : tupB K u = true) {G : Gx} {F : Hp} (hK : G.K = K) : RelD G F (.ref (He.ga K u.1)) (.tup (u.2.map keyVs)) := by
  subst hK
  unfold tupB at h
  split at h
  · rename_i c dd its n sl e
    rw [Bool.and_eq_true, Bool.and_eq_true] at h
    have hc := of_decide_eq_true h.1.1
    subst hc
    refine .tup (.inr ⟨_, its, n, e, rfl, rfl, Nat.le_trans (of_decide_eq_true h.1.2) (by decide), itsB_ok h.2⟩) (keys_rel u.2)
  · cases h
/-! ### the hook -/
abbrev AlU : Type := He.AlD × Bool
def obsU (fa : List He.Fa) (fn : List He.DefD) (us : List (Str × List (Sum Int Str))) (K : PySem.W.Frag) : AlU := (He.obsD fa fn K, us.all fun u => tupB K u)
def SaysU (fa : List He.Fa) (fn : List He.DefD) (us : List (Str × List (Sum Int Str))) (K : PySem.W.Frag) : Prop := obsU fa fn us K = (He.valD fn, true)
def obsUG (n : Nat) (fa : List He.Fa) (fn : List He.DefD) (us : List (Str × List (Sum Int Str))) (g : Addr → Option Obj) : AlU := obsU fa fn us (He.frG g (He.asD g n))
def hookU (n : Nat) (fa : List He.Fa) (fn : List He.DefD) (us : List (Str × List (Sum Int Str))) : PySem.W.Hook where
  α := AlU
  obs := fun s => obsUG n fa fn us s.heap.get?
  val := fun _ => (He.valD fn, true)
  says := fun _ h => ∃ K : PySem.W.Frag, K.In h ∧ SaysU fa fn us K
  of := fun _ _ e => ⟨_, He.frG_in, e⟩
  keeps := fun _ _ _ ⟨K, hK, c⟩ k => ⟨K, PySem.W.Frag.In.keeps hK k, c⟩
theorem obsUG_eq {n : Nat} {fa : List He.Fa} {fn : List He.DefD} {us : List (Str × List (Sum Int Str))} {g : Addr → Option Obj} {s : Shared} (h : ∀ a, g a = s.heap.get? a) : obsUG n fa fn us g = (hookU n fa fn us).obs s := by
  have e : g = s.heap.get? := funext h
  rw [e] <;> rfl
theorem SaysU.d {fa : List He.Fa} {fn : List He.DefD} {us : List (Str × List (Sum Int Str))} {K : PySem.W.Frag} (c : SaysU fa fn us K) : He.SaysD fa fn K := congrArg (fun z : AlU => z.1) c
theorem SaysU.tup {fa : List He.Fa} {fn : List He.DefD} {us : List (Str × List (Sum Int Str))} {K : PySem.W.Frag} (c : SaysU fa fn us K) (i : Nat) {u : Str × List (Sum Int Str)} (h : us[i]? = some u := by rfl) : tupB K u = true := by
  have c1 : (us.all fun u => tupB K u) = true := congrArg (fun z : AlU => z.2) c
  exact List.all_eq_true.mp c1 u (List.mem_of_getElem? h)
end Wp

/-! WpExc: the classes of exceptions: what is looked at once the top has run. -/
namespace Wp
open PySem PySem.Spec PyProof.Rows L2
def clOf (K : PySem.W.Frag) (xc : List (Nat × Str)) (c : Nat) : Option Addr := (xc.lookup c).map (He.ga K)
def x1B (K : PySem.W.Frag) (xc : List (Nat × Str)) (p : Nat × Str) : Bool :=
  decide (xc.lookup p.1 = some p.2) && (He.eqO (PySem.W.nsIn K mainGlobals p.2) (some (some (.ref (He.ga K p.2)))) && (xcB K (He.ga K p.2) && (decide (PySem.W.kitOne K (.ref (He.ga K p.2)) (.type "ValueError") = some true) &&
  (decide (PySem.W.findIn K (.ref (He.ga K p.2)) "at" = some none) && (decide (PySem.W.findIn K (.ref (He.ga K p.2)) "side" = some none) &&
  xc.all fun q => decide (PySem.W.kitOne K (.ref (He.ga K p.2)) (.ref (He.ga K q.2)) = some (subX p.1 q.1)) && decide (PySem.W.exmOne K (.ref (He.ga K p.2)) (.ref (He.ga K q.2)) = some (subX p.1 q.1)))))))
def oexB (K : PySem.W.Frag) (C : Addr) : Bool := match K.lookup C with
  | some ⟨.type "type", _, .cls cd, sl⟩ => (match cd.mro, sl.toList with
    | .ref C' :: bm, [_, _, _, _, some (.builtin n), _] => C' == C && n == "ValueError.__new__" && !cd.hasDel && cd.hasDict && PySem.HandSPX.refsVE bm
    | _, _ => false)
  | _ => false
theorem oexB_ok {K : PySem.W.Frag} {C : Addr} (q : oexB K C = true) : ∃ nm q N bs bm sn sub ab col dd k0 k1 k2 k3 k5, K.lookup C = some (excClassObj nm q C N bs bm true sn sub ab col dd k0 k1 k2 k3 k5 "ValueError.__new__") ∧ PySem.HandSPX.refsVE bm = true := by
  unfold oexB at q
  split at q
  · rename_i dd cd sl ho
    split at q
    · rename_i C' bm k0 k1 k2 k3 n k5 hm hs
      simp only [Bool.and_eq_true, beq_iff_eq, Bool.not_eq_true'] at q
      obtain ⟨⟨⟨⟨rfl, rfl⟩, hdel⟩, hdc⟩, ht⟩ := q
      obtain ⟨nm, bs, mro, ns, qn, hd, sn, sub, ab, col, del⟩ := cd
      dsimp only at hm hdel hdc
      subst hm hdel hdc
      have hsl : sl = #[k0, k1, k2, k3, some (.builtin "ValueError.__new__"), k5] := by
        obtain ⟨l⟩ := sl
        simp only at hs
        rw [hs]
      subst hsl
      exact ⟨nm, qn, ns, bs, bm, sn, sub, ab, col, dd, k0, k1, k2, k3, k5, ho, ht⟩
    · cases q
  · cases q
def mkB (K : PySem.W.Frag) (p : Str × Str) : Bool :=
  PySem.W.keepIn K (.ref (He.ga K p.1)) && (oexB K (He.ga K p.1) && (He.eqO (PySem.W.findIn K (.ref (He.ga K p.1)) "__setattr__") (some (some (.builtin "object.__setattr__"))) &&
  (decide (PySem.W.subIn K (.ref (He.ga K p.1)) (.type "BaseException") = some true) && (decide (PySem.W.typeIn K (.ref (He.ga K p.1)) = some (.type "type")) &&
  (He.eqO (PySem.W.findIn K (.ref (He.ga K p.1)) "__init__") (some (some (.ref (He.ma K (He.ga K p.1) "__init__")))) && decide (PySem.W.typeIn K (.ref (He.ma K (He.ga K p.1) "__init__")) = some (.type "function")))))))
section
variable {K : PySem.W.Frag} {h : Heap} {mg : Str → Option Value} {xc : List (Nat × Str)}
theorem look_mem {c : Nat} {x : Str} : ∀ {l : List (Nat × Str)}, l.lookup c = some x → (c, x) ∈ l
  | [], h => by cases h
  | (a, y) :: l, h => by
    rw [List.lookup_cons] at h
    cases q : (c == a) with
    | true =>
      rw [q] at h
      cases h
      rw [eq_of_beq q]
      exact List.mem_cons_self ..
    | false =>
      rw [q] at h
      exact List.mem_cons_of_mem _ (look_mem h)
theorem clOf_inv {c : Nat} {C : Addr} (e : clOf K xc c = some C) : ∃ x, (c, x) ∈ xc ∧ C = He.ga K x := by
  unfold clOf at e
  cases q : xc.lookup c with
  | none => rw [q] at e; cases e
  | some x =>
    rw [q] at e
    exact ⟨x, look_mem q, (Option.some.inj e).symm⟩
theorem xt_of (X : K.In h) (G : h.Ns mainGlobals mg) (c : (xc.all fun p => x1B K xc p) = true) : XTab K mg (clOf K xc) xc := by
  have all : ∀ p ∈ xc, x1B K xc p = true := fun p hp => List.all_eq_true.mp c p hp
  refine ⟨fun p hp => ?_, fun c C e => ?_, fun c C e => ?_, fun c C d D e e' => ?_, fun c C f e hf => ?_⟩
  · obtain ⟨c1, c2⟩ := He.ba (all p hp)
    obtain ⟨c2, c3⟩ := He.ba c2
    refine ⟨He.ga K p.2, PySem.W.mg_of X G (He.eqO_ok c2), ?_⟩
    unfold clOf
    rw [of_decide_eq_true c1]
    rfl
  · obtain ⟨x, hx, rfl⟩ := clOf_inv e
    obtain ⟨c1, c2⟩ := He.ba (all _ hx)
    obtain ⟨c2, c3⟩ := He.ba c2
    exact xcB_ok (He.ba c3).1
  · obtain ⟨x, hx, rfl⟩ := clOf_inv e
    obtain ⟨c1, c2⟩ := He.ba (all _ hx)
    obtain ⟨c2, c3⟩ := He.ba c2
    obtain ⟨c3, c4⟩ := He.ba c3
    exact of_decide_eq_true (He.ba c4).1
  · obtain ⟨x, hx, rfl⟩ := clOf_inv e
    obtain ⟨y, hy, rfl⟩ := clOf_inv e'
    obtain ⟨c1, c2⟩ := He.ba (all _ hx)
    obtain ⟨c2, c3⟩ := He.ba c2
    obtain ⟨c3, c4⟩ := He.ba c3
    obtain ⟨c4, c5⟩ := He.ba c4
    obtain ⟨c5, c6⟩ := He.ba c5
    obtain ⟨c6, c7⟩ := He.ba c6
    obtain ⟨d1, d2⟩ := He.ba (List.all_eq_true.mp c7 _ hy)
    exact ⟨of_decide_eq_true d1, of_decide_eq_true d2⟩
  · obtain ⟨x, hx, rfl⟩ := clOf_inv e
    obtain ⟨c1, c2⟩ := He.ba (all _ hx)
    obtain ⟨c2, c3⟩ := He.ba c2
    obtain ⟨c3, c4⟩ := He.ba c3
    obtain ⟨c4, c5⟩ := He.ba c4
    obtain ⟨c5, c6⟩ := He.ba c5
    obtain ⟨c6, c7⟩ := He.ba c6
    unfold fldN at hf
    rw [Bool.or_eq_true] at hf
    rcases hf with hf | hf
    · rw [of_decide_eq_true hf]
      exact of_decide_eq_true c5
    · rw [of_decide_eq_true hf]
      exact of_decide_eq_true c6
theorem ini_of (X : K.In h) (G : h.Ns mainGlobals mg) (cx : (xc.all fun p => x1B K xc p) = true) {c : Nat} {x f : Str} (hx : (c, x) ∈ xc) (m : mkB K (x, f) = true) (hf : fldN f = true) {nm ql : Str} {params : Arguments} {body : List Stmt} {scope : Scope} {fd : FuncData} {N ps : List Str}
    (F : FunD K nm ql params body scope [] [] (He.fAd K (x, some "__init__")) fd) (hb : Binds K fd ps []) (S : FnScope N ps scope) (hp : ps.length = 2) (hi : iniB N scope f body = true) : IniOk K mg (clOf K xc) c x f := by
  have T := xt_of X G cx
  obtain ⟨C, m1, m2⟩ := T.nm _ hx
  obtain ⟨y, hy, e⟩ := clOf_inv m2
  have c1 := (He.ba (List.all_eq_true.mp cx _ hx)).1
  have c2 := (He.ba (List.all_eq_true.mp cx _ hy)).1
  have e3 : x = y := by
    have a := of_decide_eq_true c1
    have b := of_decide_eq_true c2
    dsimp only at a b
    rw [a] at b
    exact Option.some.inj b
  subst e3
  subst e
  obtain ⟨k1, k2⟩ := He.ba m
  obtain ⟨k2, k3⟩ := He.ba k2
  obtain ⟨k3, k4⟩ := He.ba k3
  obtain ⟨k4, k5⟩ := He.ba k4
  obtain ⟨k5, k6⟩ := He.ba k5
  obtain ⟨k6, k7⟩ := He.ba k6
  exact ⟨He.ga K x, He.ma K (He.ga K x) "__init__", fd, N, ps, params, body, scope, nm, ql, m2, m1, k1, ⟨oexB_ok k2, He.eqO_ok k3, of_decide_eq_true k4, of_decide_eq_true k5, k1⟩, He.eqO_ok k6, of_decide_eq_true k7, F, hb, S, hp, T.na _ _ _ m2 hf, hi⟩
/-- C's own __init__ with at and side, side None at first -/
theorem inib_of (X : K.In h) (G : h.Ns mainGlobals mg) (cx : (xc.all fun p => x1B K xc p) = true) {c : Nat} {x f : Str} (hx : (c, x) ∈ xc) (m : mkB K (x, f) = true) {nm ql : Str} {params : Arguments} {body : List Stmt} {scope : Scope} {fd : FuncData} {N ps : List Str} {dvs : List V}
    (F : FunD K nm ql params body scope dvs [] (He.fAd K (x, some "__init__")) fd) (hb : ∃ ds, Vals [] ds ∧ Binds K fd ps ds) (hb2 : ∃ ds, Vals [.non] ds ∧ Binds K fd ps ds) (S : FnScope N ps scope) (hp : ps.length = 3) (hi : iniBB N scope body = true) : IniB K mg (clOf K xc) c x := by
  have T := xt_of X G cx
  obtain ⟨C, m1, m2⟩ := T.nm _ hx
  obtain ⟨y, hy, e⟩ := clOf_inv m2
  have c1 := (He.ba (List.all_eq_true.mp cx _ hx)).1
  have c2 := (He.ba (List.all_eq_true.mp cx _ hy)).1
  have e3 : x = y := by
    have a := of_decide_eq_true c1
    have b := of_decide_eq_true c2
    dsimp only at a b
    rw [a] at b
    exact Option.some.inj b
  subst e3
  subst e
  obtain ⟨k1, k2⟩ := He.ba m
  obtain ⟨k2, k3⟩ := He.ba k2
  obtain ⟨k3, k4⟩ := He.ba k3
  obtain ⟨k4, k5⟩ := He.ba k4
  obtain ⟨k5, k6⟩ := He.ba k5
  obtain ⟨k6, k7⟩ := He.ba k6
  obtain ⟨d1, z1, b1⟩ := hb
  obtain ⟨d2, z2, b2⟩ := hb2
  cases z1
  have e4 : d2 = [.none] := by
    cases z2 with
    | cons r t => cases t; cases r; rfl
  subst e4
  exact ⟨He.ga K x, He.ma K (He.ga K x) "__init__", fd, N, ps, params, body, scope, nm, ql, dvs, m2, m1, k1, ⟨oexB_ok k2, He.eqO_ok k3, of_decide_eq_true k4, of_decide_eq_true k5, k1⟩, He.eqO_ok k6, of_decide_eq_true k7, F, b1, b2, S, hp, T.na _ _ _ m2 rfl, T.na _ _ _ m2 rfl, hi⟩
end
/-! ### own classes -/
def ownFa (oc : List (Nat × Str)) (fs : List Str) : List He.Fa := oc.flatMap fun p => [.glo p.2, .cls p.2, .mkr p.2] ++ fs.map fun f => .noat p.2 f
section
variable {K : PySem.W.Frag} {h : Heap} {mg : Str → Option Value} {fa : List He.Fa} {fn : List He.DefD} {oc : List (Nat × Str)} {fs : List Str}
theorem fact_mem (c : He.SaysD fa fn K) {f : He.Fa} (h : f ∈ fa) : f.ok K = true :=
  List.all_eq_true.mp (He.ba (show ((fa.all fun f => f.ok K) && fn.all fun d => d.ok K) = true from congrArg (fun z : He.AlD => z.1) c)).1 f h
theorem own_cls (c : He.SaysD fa fn K) (hfa : ∀ x ∈ ownFa oc fs, x ∈ fa) (k : Nat) (C : Addr) (e : clOf K oc k = some C) : Cls K C ∧ ∀ f ∈ fs, NoAttr K C f := by
  obtain ⟨x, hx, rfl⟩ := clOf_inv e
  refine ⟨He.cls_ok (fact_mem c (hfa _ (List.mem_flatMap.mpr ⟨_, hx, ?_⟩))), fun f hf => He.noat_ok (fact_mem c (hfa _ (List.mem_flatMap.mpr ⟨_, hx, ?_⟩)))⟩
  · exact List.mem_append_left _ (List.mem_cons_of_mem _ (List.mem_cons_self ..))
  · exact List.mem_append_right _ (List.mem_map.mpr ⟨f, hf, rfl⟩)
theorem own_mks (X : K.In h) (G : h.Ns mainGlobals mg) (c : He.SaysD fa fn K) (hfa : ∀ x ∈ ownFa oc fs, x ∈ fa) (hl : ∀ p ∈ oc, oc.lookup p.1 = some p.2) (k : Nat) (x : Str) (hx : (k, x) ∈ oc) :
    ∃ C, clOf K oc k = some C ∧ mg x = some (.ref C) ∧ PySem.W.makesIn K C = true ∧ PySem.W.keepIn K (.ref C) = true := by
  have M := He.mkr_ok (K := K) (x := x) (fact_mem c (hfa _ (List.mem_flatMap.mpr ⟨_, hx, List.mem_append_left _ (List.mem_cons_of_mem _ (List.mem_cons_of_mem _ (List.mem_cons_self ..)))⟩)))
  have g := He.glo_ok (K := K) (x := x) X G (fact_mem c (hfa _ (List.mem_flatMap.mpr ⟨_, hx, List.mem_append_left _ (List.mem_cons_self ..)⟩)))
  refine ⟨He.ga K x, ?_, g, M.makes, M.kp⟩
  unfold clOf
  rw [hl _ hx]
  rfl
end
/-! ### the hook -/
def obsX (fa : List He.Fa) (fn : List He.DefD) (us : List (Str × List (Sum Int Str))) (xc : List (Nat × Str)) (xm : List (Str × Str)) (K : PySem.W.Frag) : AlU := (He.obsD fa fn K, (us.all fun u => tupB K u) && ((xc.all fun p => x1B K xc p) && xm.all fun p => mkB K p))
def SaysX (fa : List He.Fa) (fn : List He.DefD) (us : List (Str × List (Sum Int Str))) (xc : List (Nat × Str)) (xm : List (Str × Str)) (K : PySem.W.Frag) : Prop := obsX fa fn us xc xm K = (He.valD fn, true)
def obsXG (n : Nat) (fa : List He.Fa) (fn : List He.DefD) (us : List (Str × List (Sum Int Str))) (xc : List (Nat × Str)) (xm : List (Str × Str)) (g : Addr → Option Obj) : AlU := obsX fa fn us xc xm (He.frG g (He.asD g n))
def hookX (n : Nat) (fa : List He.Fa) (fn : List He.DefD) (us : List (Str × List (Sum Int Str))) (xc : List (Nat × Str)) (xm : List (Str × Str)) : PySem.W.Hook where
  α := AlU
  obs := fun s => obsXG n fa fn us xc xm s.heap.get?
  val := fun _ => (He.valD fn, true)
  says := fun _ h => ∃ K : PySem.W.Frag, K.In h ∧ SaysX fa fn us xc xm K
  of := fun _ _ e => ⟨_, He.frG_in, e⟩
  keeps := fun _ _ _ ⟨K, hK, c⟩ k => ⟨K, PySem.W.Frag.In.keeps hK k, c⟩
theorem obsXG_eq {n : Nat} {fa : List He.Fa} {fn : List He.DefD} {us : List (Str × List (Sum Int Str))} {xc : List (Nat × Str)} {xm : List (Str × Str)} {g : Addr → Option Obj} {s : Shared} (h : ∀ a, g a = s.heap.get? a) : obsXG n fa fn us xc xm g = (hookX n fa fn us xc xm).obs s := by
  have e : g = s.heap.get? := funext h
  rw [e] <;> rfl
section
variable {fa : List He.Fa} {fn : List He.DefD} {us : List (Str × List (Sum Int Str))} {xc : List (Nat × Str)} {xm : List (Str × Str)} {K : PySem.W.Frag}
theorem SaysX.d (c : SaysX fa fn us xc xm K) : He.SaysD fa fn K := congrArg (fun z : AlU => z.1) c
theorem SaysX.b (c : SaysX fa fn us xc xm K) : ((us.all fun u => tupB K u) && ((xc.all fun p => x1B K xc p) && xm.all fun p => mkB K p)) = true := congrArg (fun z : AlU => z.2) c
theorem SaysX.tup (c : SaysX fa fn us xc xm K) (i : Nat) {u : Str × List (Sum Int Str)} (h : us[i]? = some u := by rfl) : tupB K u = true :=
  List.all_eq_true.mp (He.ba c.b).1 u (List.mem_of_getElem? h)
theorem SaysX.xs (c : SaysX fa fn us xc xm K) : (xc.all fun p => x1B K xc p) = true := (He.ba (He.ba c.b).2).1
theorem SaysX.mk (c : SaysX fa fn us xc xm K) (i : Nat) {u : Str × Str} (h : xm[i]? = some u := by rfl) : mkB K u = true :=
  List.all_eq_true.mp (He.ba (He.ba c.b).2).2 u (List.mem_of_getElem? h)
end
end Wp

namespace Wp
open PySem
abbrev f_bytes_for : Nat := 0
abbrev f_is_within : Nat := 1
abbrev f_least_value : Nat := 2
abbrev f_outside_list : Nat := 3
abbrev f_outside_pair : Nat := 4
abbrev f_outside_choice : Nat := 5
abbrev f_outside : Nat := 6
abbrev f_other_bytes : Nat := 7
abbrev f_parting : Nat := 8
abbrev f_law_pool : Nat := 9
abbrev f_law_take : Nat := 10
abbrev f_law_leaf : Nat := 11
abbrev f_law_part : Nat := 12
abbrev f_law_record : Nat := 13
abbrev f_law_menu : Nat := 14
abbrev f_law_shape : Nat := 15
abbrev f_law_varied_number : Nat := 16
abbrev f_law_varied_choice : Nat := 17
abbrev f_law_varied : Nat := 18
abbrev f_law_places : Nat := 19
abbrev f_law_within : Nat := 20
abbrev f_law_signs : Nat := 21
abbrev f_law_fits : Nat := 22
abbrev f_law_bytes : Nat := 23
abbrev f_law_two : Nat := 24
abbrev f_law_refused : Nat := 25
abbrev f_law_kept : Nat := 26
abbrev f_law_spoil : Nat := 27
abbrev f_law_right : Nat := 28
abbrev f_law_menus : Nat := 29
abbrev f_law_lists : Nat := 30
abbrev f_law_apart : Nat := 31
abbrev f_law_shifted : Nat := 32
abbrev f_law : Nat := 33
/- s=0 span=1 found=2 -/
def b_bytes_for : Fn := ⟨1, 3,
    (.seq (.asg (.nm 1) (.bin .Sub true (.idx (.var 0) (.int 2)) (.idx (.var 0) (.int 1))))
    (.seq (.asg (.nm 2) (.int 0))
    (.seq (.loop (.cmp .Gt (.var 1) (.int 0)) (.seq (.asg (.nm 1) (.bin .FloorDiv true (.var 1) (.int 256)))
    (.seq (.aug 2 .Add (.int 1))
    .nil)))
    (.seq (.ret (.var 2))
    .nil))))⟩
/- s=0 r=1 kind=2 one=3 other=4 -/
def b_is_within : Fn := ⟨2, 5,
    (.seq (.asg (.nm 2) (.idx (.var 0) (.int 0)))
    (.seq (.ife (.cmp .NotEq (.var 2) (.idx (.var 1) (.int 0))) (.seq (.ret (.bl false))
    .nil) .nil)
    (.seq (.ife (.cmp .Eq (.var 2) (.str "number")) (.seq (.ret (.and (.cmp .Eq (.idx (.var 0) (.int 1)) (.idx (.var 1) (.int 1))) (.and (.cmp .Eq (.call f_bytes_for (.cons (.var 0) .nil)) (.call f_bytes_for (.cons (.var 1) .nil))) (.cmp .LtE (.idx (.var 0) (.int 2)) (.idx (.var 1) (.int 2))))))
    .nil) .nil)
    (.seq (.ife (.cmp .Eq (.var 2) (.str "text")) (.seq (.ret (.cmp .LtE (.idx (.var 0) (.int 1)) (.idx (.var 1) (.int 1))))
    .nil) .nil)
    (.seq (.ife (.cmp .Eq (.var 2) (.str "list")) (.seq (.ret (.and (.cmp .LtE (.idx (.var 0) (.int 2)) (.idx (.var 1) (.int 2))) (.or (.cmp .Eq (.idx (.var 0) (.int 2)) (.int 0)) (.call f_is_within (.cons (.idx (.var 0) (.int 1)) (.cons (.idx (.var 1) (.int 1)) .nil))))))
    .nil) .nil)
    (.seq (.ife (.cmp .Eq (.var 2) (.str "pair")) (.seq (.ret (.and (.call f_is_within (.cons (.idx (.var 0) (.int 1)) (.cons (.idx (.var 1) (.int 1)) .nil))) (.call f_is_within (.cons (.idx (.var 0) (.int 2)) (.cons (.idx (.var 1) (.int 2)) .nil)))))
    .nil) .nil)
    (.seq (.ife (.cmp .Eq (.var 2) (.str "choice")) (.seq (.ret (.and (.cmp .LtE (.bi .len true (.cons (.idx (.var 0) (.int 1)) .nil)) (.bi .len true (.cons (.idx (.var 1) (.int 1)) .nil))) (.bi .all_ true (.cons (.comp true [3, 4] (.co (.nm 3) (.co (.nm 4) .no)) (.itz (.idx (.var 0) (.int 1)) (.idx (.var 1) (.int 1))) .nopart (.call f_is_within (.cons (.var 3) (.cons (.var 4) .nil)))) .nil))))
    .nil) .nil)
    (.seq (.ret (.bl true))
    .nil))))))))⟩
/- s=0 kind=1 -/
def b_least_value : Fn := ⟨1, 2,
    (.seq (.asg (.nm 1) (.idx (.var 0) (.int 0)))
    (.seq (.ife (.cmp .Eq (.var 1) (.str "number")) (.seq (.ret (.idx (.var 0) (.int 1)))
    .nil) .nil)
    (.seq (.ife (.cmp .Eq (.var 1) (.str "text")) (.seq (.ret (.str ""))
    .nil) .nil)
    (.seq (.ife (.cmp .Eq (.var 1) (.str "list")) (.seq (.ret (.lst false .nil))
    .nil) .nil)
    (.seq (.ife (.cmp .Eq (.var 1) (.str "pair")) (.seq (.ret (.tup (.cons (.call f_least_value (.cons (.idx (.var 0) (.int 1)) .nil)) (.cons (.call f_least_value (.cons (.idx (.var 0) (.int 2)) .nil)) .nil))))
    .nil) .nil)
    (.seq (.ife (.cmp .Eq (.var 1) (.str "choice")) (.seq (.ret (.tup (.cons (.str "of") (.cons (.int 0) (.cons (.call f_least_value (.cons (.idx (.idx (.var 0) (.int 1)) (.int 0)) .nil)) .nil)))))
    .nil) .nil)
    (.seq (.ret .non)
    .nil)))))))⟩
/- s=0 r=1 value=2 k=3 -/
def b_outside_list : Fn := ⟨2, 4,
    (.seq (.ife (.cmp .Gt (.idx (.var 0) (.int 2)) (.idx (.var 1) (.int 2))) (.seq (.ret (.tup (.cons (.comp false [3] (.nm 3) (.it1 (.bin .Add true (.idx (.var 1) (.int 2)) (.int 1))) .nopart (.call f_least_value (.cons (.idx (.var 0) (.int 1)) .nil))) .nil)))
    .nil) .nil)
    (.seq (.ife (.cmp .Eq (.idx (.var 0) (.int 2)) (.int 0)) (.seq (.ret (.tup .nil))
    .nil) .nil)
    (.seq (.ret (.bi .tuple_ true (.cons (.comp true [2] (.nm 2) (.itl (.call f_outside (.cons (.idx (.var 0) (.int 1)) (.cons (.idx (.var 1) (.int 1)) .nil)))) .nopart (.lst false (.cons (.var 2) .nil))) .nil)))
    .nil)))⟩
/- s=0 r=1 first=2 value=3 -/
def b_outside_pair : Fn := ⟨2, 4,
    (.seq (.asg (.nm 2) (.comp true [3] (.nm 3) (.itl (.call f_outside (.cons (.idx (.var 0) (.int 1)) (.cons (.idx (.var 1) (.int 1)) .nil)))) .nopart (.tup (.cons (.var 3) (.cons (.call f_least_value (.cons (.idx (.var 0) (.int 2)) .nil)) .nil)))))
    (.seq (.ret (.sli true (.bi .tuple_ true (.cons (.bin .Add true (.var 2) (.comp true [3] (.nm 3) (.itl (.call f_outside (.cons (.idx (.var 0) (.int 2)) (.cons (.idx (.var 1) (.int 2)) .nil)))) .nopart (.tup (.cons (.call f_least_value (.cons (.idx (.var 0) (.int 1)) .nil)) (.cons (.var 3) .nil))))) .nil)) .nopart (.part (.int 1))))
    .nil))⟩
/- s=0 r=1 found=2 k=3 one=4 value=5 -/
def b_outside_choice : Fn := ⟨2, 6,
    (.seq (.asg (.nm 2) (.lst false .nil))
    (.seq (.each (.co (.nm 3) (.co (.nm 4) .no)) (.ite (.idx (.var 0) (.int 1))) (.seq (.ife (.cmp .GtE (.var 3) (.bi .len true (.cons (.idx (.var 1) (.int 1)) .nil))) (.seq (.drop (.bm .append true (.var 2) (.cons (.tup (.cons (.str "of") (.cons (.var 3) (.cons (.call f_least_value (.cons (.var 4) .nil)) .nil)))) .nil)))
    .nil) (.seq (.drop (.bm .extend true (.var 2) (.cons (.comp true [5] (.nm 5) (.itl (.call f_outside (.cons (.var 4) (.cons (.idx (.idx (.var 1) (.int 1)) (.var 3)) .nil)))) .nopart (.tup (.cons (.str "of") (.cons (.var 3) (.cons (.var 5) .nil))))) .nil)))
    .nil))
    .nil))
    (.seq (.ret (.bi .tuple_ true (.cons (.sli true (.var 2) .nopart (.part (.int 1))) .nil)))
    .nil)))⟩
/- s=0 r=1 kind=2 -/
def b_outside : Fn := ⟨2, 3,
    (.seq (.asg (.nm 2) (.idx (.var 0) (.int 0)))
    (.seq (.ife (.cmp .NotEq (.var 2) (.idx (.var 1) (.int 0))) (.seq (.ret (.tup (.cons (.call f_least_value (.cons (.var 0) .nil)) .nil)))
    .nil) .nil)
    (.seq (.ife (.and (.cmp .Eq (.var 2) (.str "number")) (.cmp .Lt (.idx (.var 0) (.int 1)) (.idx (.var 1) (.int 1)))) (.seq (.ret (.tup (.cons (.idx (.var 0) (.int 1)) .nil)))
    .nil) .nil)
    (.seq (.ife (.and (.cmp .Eq (.var 2) (.str "number")) (.cmp .Gt (.idx (.var 0) (.int 2)) (.idx (.var 1) (.int 2)))) (.seq (.ret (.tup (.cons (.idx (.var 0) (.int 2)) .nil)))
    .nil) .nil)
    (.seq (.ife (.and (.cmp .Eq (.var 2) (.str "text")) (.cmp .Gt (.idx (.var 0) (.int 1)) (.idx (.var 1) (.int 1)))) (.seq (.ret (.tup (.cons (.bin .Mult true (.str "a") (.bin .Add true (.idx (.var 1) (.int 1)) (.int 1))) .nil)))
    .nil) .nil)
    (.seq (.ife (.cmp .Eq (.var 2) (.str "list")) (.seq (.ret (.call f_outside_list (.cons (.var 0) (.cons (.var 1) .nil))))
    .nil) .nil)
    (.seq (.ife (.cmp .Eq (.var 2) (.str "pair")) (.seq (.ret (.call f_outside_pair (.cons (.var 0) (.cons (.var 1) .nil))))
    .nil) .nil)
    (.seq (.ife (.cmp .Eq (.var 2) (.str "choice")) (.seq (.ret (.call f_outside_choice (.cons (.var 0) (.cons (.var 1) .nil))))
    .nil) .nil)
    (.seq (.ret (.tup .nil))
    .nil)))))))))⟩
/- s=0 r=1 kind=2 k=3 one=4 other=5 -/
def b_other_bytes : Fn := ⟨2, 6,
    (.seq (.asg (.nm 2) (.idx (.var 0) (.int 0)))
    (.seq (.ife (.cmp .Eq (.var 2) (.str "list")) (.seq (.ret (.lst false (.cons (.call f_other_bytes (.cons (.idx (.var 0) (.int 1)) (.cons (.idx (.var 1) (.int 1)) .nil))) .nil)))
    .nil) .nil)
    (.seq (.ife (.and (.cmp .Eq (.var 2) (.str "pair")) (.call f_is_within (.cons (.idx (.var 0) (.int 1)) (.cons (.idx (.var 1) (.int 1)) .nil)))) (.seq (.ret (.tup (.cons (.call f_least_value (.cons (.idx (.var 0) (.int 1)) .nil)) (.cons (.call f_other_bytes (.cons (.idx (.var 0) (.int 2)) (.cons (.idx (.var 1) (.int 2)) .nil))) .nil))))
    .nil) .nil)
    (.seq (.ife (.cmp .Eq (.var 2) (.str "pair")) (.seq (.ret (.tup (.cons (.call f_other_bytes (.cons (.idx (.var 0) (.int 1)) (.cons (.idx (.var 1) (.int 1)) .nil))) (.cons (.call f_least_value (.cons (.idx (.var 0) (.int 2)) .nil)) .nil))))
    .nil) .nil)
    (.seq (.ife (.cmp .Eq (.var 2) (.str "choice")) (.seq (.asg (.nm 3) (.bm .index true (.comp true [4, 5] (.co (.nm 4) (.co (.nm 5) .no)) (.itz (.idx (.var 0) (.int 1)) (.idx (.var 1) (.int 1))) .nopart (.call f_is_within (.cons (.var 4) (.cons (.var 5) .nil)))) (.cons (.bl false) .nil)))
    (.seq (.ret (.tup (.cons (.str "of") (.cons (.var 3) (.cons (.call f_other_bytes (.cons (.idx (.idx (.var 0) (.int 1)) (.var 3)) (.cons (.idx (.idx (.var 1) (.int 1)) (.var 3)) .nil))) .nil)))))
    .nil)) .nil)
    (.seq (.ret (.idx (.var 0) (.int 1)))
    .nil))))))⟩
/- s=0 r=1 value=2 -/
def b_parting : Fn := ⟨2, 3,
    (.seq (.ife (.call f_is_within (.cons (.var 0) (.cons (.var 1) .nil))) (.seq (.rsp 2 (.str "no value parts them"))
    .nil) .nil)
    (.seq (.each (.nm 2) (.itl (.call f_outside (.cons (.var 0) (.cons (.var 1) .nil)))) (.seq (.ret (.var 2))
    .nil))
    (.seq (.ret (.call f_other_bytes (.cons (.var 0) (.cons (.var 1) .nil))))
    .nil)))⟩
/- script=0 k=1 cell=2 -/
def b_law_pool : Fn := ⟨2, 3,
    (.seq (.asg (.nm 2) (.int 0))
    (.seq (.ife (.cmp .Lt (.var 1) (.bi .len false (.cons (.var 0) .nil))) (.seq (.asg (.nm 2) (.idx (.var 0) (.var 1)))
    .nil) .nil)
    (.seq (.ife (.cmp .GtE (.var 2) (.bin .Pow false (.int 10) (.int 18))) (.seq (.ret (.lst false (.cons (.bin .Sub false (.var 2) (.bin .Pow false (.int 10) (.int 18))) (.cons (.int 1) (.cons (.int 0) .nil)))))
    .nil) .nil)
    (.seq (.ret (.lst false (.cons (.var 2) (.cons (.int 0) (.cons (.bin .Mult false (.int 13) (.var 1)) .nil)))))
    .nil))))⟩
/- pool=0 many=1 step=2 mark=3 found=4 -/
def b_law_take : Fn := ⟨2, 5,
    (.seq (.ife (.cmp .Eq (.idx (.var 0) (.int 1)) (.int 1)) (.seq (.asg (.nm 4) (.bin .Mod true (.idx (.var 0) (.int 0)) (.var 1)))
    (.seq (.sub (.var 0) (.int 0) (.bin .FloorDiv true (.idx (.var 0) (.int 0)) (.var 1)))
    (.seq (.ret (.var 4))
    .nil))) .nil)
    (.seq (.sub (.var 0) (.int 2) (.bin .Add true (.idx (.var 0) (.int 2)) (.int 1)))
    (.seq (.asg (.nm 2) (.idx (.var 0) (.int 2)))
    (.seq (.asg (.nm 3) (.bin .Mult true (.bin .Add true (.bin .Mod true (.idx (.var 0) (.int 0)) (.int 9999999769)) (.int 733)) (.bin .Add true (.bin .Mult true (.int 9) (.var 2)) (.int 31))))
    (.seq (.asg (.nm 3) (.bin .Add true (.var 3) (.bin .Mult true (.bin .Mult true (.int 2917) (.var 2)) (.var 2))))
    (.seq (.asg (.nm 3) (.bin .Mod true (.bin .Mult true (.var 3) (.var 3)) (.int 99999999821)))
    (.seq (.ret (.bin .Mod true (.bin .FloorDiv true (.bin .Mod true (.bin .Mult true (.var 3) (.bin .Add true (.var 3) (.int 17))) (.int 99999999947)) (.int 61)) (.var 1)))
    .nil)))))))⟩
/- pool=0 kind=1 low=2 some=3 -/
def b_law_leaf : Fn := ⟨1, 4,
    (.seq (.asg (.nm 1) (.call f_law_take (.cons (.var 0) (.cons (.int 6) .nil))))
    (.seq (.ife (.cmp .Eq (.var 1) (.int 0)) (.seq (.ret (.tup (.cons (.str "nothing") .nil)))
    .nil) .nil)
    (.seq (.ife (.cmp .Eq (.var 1) (.int 1)) (.seq (.ret (.tup (.cons (.str "text") (.cons (.idx (.lst true (.cons (.call f_law_take (.cons (.var 0) (.cons (.int 4) .nil))) (.cons (.call f_law_take (.cons (.var 0) (.cons (.int 251) .nil))) (.cons (.int 250) .nil)))) (.call f_law_take (.cons (.var 0) (.cons (.int 3) .nil)))) .nil))))
    .nil) .nil)
    (.seq (.asg (.nm 2) (.idx (.lst true (.cons (.bin .Sub true (.call f_law_take (.cons (.var 0) (.cons (.int 9) .nil))) (.int 4)) (.cons (.bin .Sub true (.call f_law_take (.cons (.var 0) (.cons (.bin .Mult true (.int 2) (.bin .Pow true (.int 10) (.int 17))) .nil))) (.bin .Pow true (.int 10) (.int 17))) .nil))) (.call f_law_take (.cons (.var 0) (.cons (.int 2) .nil)))))
    (.seq (.asg (.nm 3) (.lst true (.cons (.int 0) (.cons (.int 1) (.cons (.bin .Add true (.int 254) (.call f_law_take (.cons (.var 0) (.cons (.int 4) .nil)))) (.cons (.bin .Add true (.int 65534) (.call f_law_take (.cons (.var 0) (.cons (.int 4) .nil)))) (.cons (.call f_law_take (.cons (.var 0) (.cons (.int 1000) .nil))) .nil)))))))
    (.seq (.ret (.tup (.cons (.str "number") (.cons (.var 2) (.cons (.bin .Add true (.var 2) (.idx (.bin .Add true (.var 3) (.lst true (.cons (.call f_law_take (.cons (.var 0) (.cons (.bin .Pow true (.int 10) (.int 17)) .nil))) .nil))) (.call f_law_take (.cons (.var 0) (.cons (.int 6) .nil))))) .nil)))))
    .nil))))))⟩
/- pool=0 deep=1 kind=2 one=3 some=4 at=5 k=6 -/
def b_law_part : Fn := ⟨2, 7,
    (.seq (.asg (.nm 2) (.call f_law_take (.cons (.var 0) (.cons (.int 8) .nil))))
    (.seq (.ife (.or (.cmp .Eq (.var 1) (.int 0)) (.cmp .Lt (.var 2) (.int 3))) (.seq (.ret (.call f_law_leaf (.cons (.var 0) .nil)))
    .nil) .nil)
    (.seq (.asg (.nm 3) (.call f_law_part (.cons (.var 0) (.cons (.bin .Sub true (.var 1) (.int 1)) .nil))))
    (.seq (.ife (.cmp .Eq (.var 2) (.int 3)) (.seq (.ret (.tup (.cons (.str "list") (.cons (.var 3) (.cons (.call f_law_take (.cons (.var 0) (.cons (.int 4) .nil))) .nil)))))
    .nil) .nil)
    (.seq (.ife (.cmp .Lt (.var 2) (.int 6)) (.seq (.ret (.tup (.cons (.str "pair") (.cons (.var 3) (.cons (.call f_law_part (.cons (.var 0) (.cons (.bin .Sub true (.var 1) (.int 1)) .nil))) .nil)))))
    .nil) .nil)
    (.seq (.asg (.nm 4) (.comp true [6] (.nm 6) (.it1 (.call f_law_take (.cons (.var 0) (.cons (.int 9) .nil)))) .nopart (.call f_law_leaf (.cons (.var 0) .nil))))
    (.seq (.asg (.nm 5) (.call f_law_take (.cons (.var 0) (.cons (.bin .Add true (.bi .len true (.cons (.var 4) .nil)) (.int 1)) .nil))))
    (.seq (.ret (.tup (.cons (.str "choice") (.cons (.bi .tuple_ true (.cons (.bin .Add true (.bin .Add true (.sli true (.var 4) .nopart (.part (.var 5))) (.lst true (.cons (.var 3) .nil))) (.sli true (.var 4) (.part (.var 5)) .nopart)) .nil)) .nil))))
    .nil))))))))⟩
/- pool=0 found=1 k=2 -/
def b_law_record : Fn := ⟨1, 3,
    (.seq (.asg (.nm 1) (.call f_law_leaf (.cons (.var 0) .nil)))
    (.seq (.each (.nm 2) (.it1 (.int 3)) (.seq (.asg (.nm 1) (.tup (.cons (.str "pair") (.cons (.call f_law_leaf (.cons (.var 0) .nil)) (.cons (.var 1) .nil)))))
    .nil))
    (.seq (.ret (.var 1))
    .nil)))⟩
/- pool=0 found=1 k=2 one=3 other=4 some=5 -/
def b_law_menu : Fn := ⟨1, 6,
    (.seq (.asg (.nm 1) (.lst false .nil))
    (.seq (.each (.nm 2) (.it1 (.bin .Add true (.int 4) (.call f_law_take (.cons (.var 0) (.cons (.int 5) .nil))))) (.seq (.asg (.nm 3) (.call f_law_leaf (.cons (.var 0) .nil)))
    (.seq (.asg (.nm 4) (.call f_law_leaf (.cons (.var 0) .nil)))
    (.seq (.asg (.nm 5) (.lst true (.cons (.var 3) (.cons (.tup (.cons (.str "pair") (.cons (.var 3) (.cons (.var 4) .nil)))) (.cons (.tup (.cons (.str "list") (.cons (.var 3) (.cons (.call f_law_take (.cons (.var 0) (.cons (.int 4) .nil))) .nil)))) (.cons (.tup (.cons (.str "choice") (.cons (.tup (.cons (.var 3) (.cons (.var 4) .nil))) .nil))) .nil))))))
    (.seq (.drop (.bm .append true (.var 1) (.cons (.idx (.bin .Add true (.var 5) (.lst true (.cons (.call f_law_record (.cons (.var 0) .nil)) .nil))) (.call f_law_take (.cons (.var 0) (.cons (.int 5) .nil)))) .nil)))
    .nil)))))
    (.seq (.ret (.tup (.cons (.str "choice") (.cons (.bi .tuple_ true (.cons (.var 1) .nil)) .nil))))
    .nil)))⟩
/- pool=0 found=1 k=2 leaf=3 some=4 -/
def b_law_shape : Fn := ⟨1, 5,
    (.seq (.asg (.nm 1) (.call f_law_part (.cons (.var 0) (.cons (.call f_law_take (.cons (.var 0) (.cons (.int 4) .nil))) .nil))))
    (.seq (.each (.nm 2) (.it1 (.idx (.lst true (.cons (.int 0) (.cons (.int 0) (.cons (.int 1) (.cons (.int 2) .nil))))) (.call f_law_take (.cons (.var 0) (.cons (.int 4) .nil))))) (.seq (.asg (.nm 3) (.call f_law_leaf (.cons (.var 0) .nil)))
    (.seq (.asg (.nm 4) (.lst true (.cons (.tup (.cons (.str "list") (.cons (.var 1) (.cons (.call f_law_take (.cons (.var 0) (.cons (.int 4) .nil))) .nil)))) (.cons (.tup (.cons (.str "pair") (.cons (.var 3) (.cons (.var 1) .nil)))) (.cons (.tup (.cons (.str "pair") (.cons (.var 1) (.cons (.var 3) .nil)))) .nil)))))
    (.seq (.asg (.nm 1) (.idx (.bin .Add true (.var 4) (.lst true (.cons (.tup (.cons (.str "choice") (.cons (.tup (.cons (.var 3) (.cons (.var 1) .nil))) .nil))) (.cons (.tup (.cons (.str "choice") (.cons (.tup (.cons (.var 1) (.cons (.var 3) .nil))) .nil))) .nil)))) (.call f_law_take (.cons (.var 0) (.cons (.int 5) .nil)))))
    .nil))))
    (.seq (.ife (.cmp .Eq (.call f_law_take (.cons (.var 0) (.cons (.int 8) .nil))) (.int 0)) (.seq (.asg (.nm 1) (.tup (.cons (.str "pair") (.cons (.call f_law_record (.cons (.var 0) .nil)) (.cons (.call f_law_record (.cons (.var 0) .nil)) .nil)))))
    .nil) .nil)
    (.seq (.ret (.var 1))
    .nil))))⟩
/- pool=0 low=1 high=2 some=3 one=4 other=5 -/
def b_law_varied_number : Fn := ⟨3, 6,
    (.seq (.asg (.nm 3) (.lst true (.cons (.tup (.cons (.var 1) (.cons (.bin .Add true (.var 2) (.int 1)) .nil))) (.cons (.tup (.cons (.var 1) (.cons (.bin .Sub true (.var 2) (.int 1)) .nil))) (.cons (.tup (.cons (.bin .Sub true (.var 1) (.int 1)) (.cons (.var 2) .nil))) (.cons (.tup (.cons (.bin .Add true (.var 1) (.int 1)) (.cons (.var 2) .nil))) (.cons (.tup (.cons (.var 1) (.cons (.bin .Add true (.var 2) (.int 255)) .nil))) (.cons (.tup (.cons (.var 1) (.cons (.var 1) .nil))) .nil))))))))
    (.seq (.asg (.co (.nm 4) (.co (.nm 5) .no)) (.idx (.var 3) (.call f_law_take (.cons (.var 0) (.cons (.int 6) .nil)))))
    (.seq (.ret (.tup (.cons (.str "number") (.cons (.bi .min_ true (.cons (.var 4) (.cons (.var 5) .nil))) (.cons (.var 5) .nil)))))
    .nil)))⟩
/- pool=0 shapes=1 way=2 at=3 k=4 -/
def b_law_varied_choice : Fn := ⟨2, 5,
    (.seq (.asg (.nm 2) (.call f_law_take (.cons (.var 0) (.cons (.int 4) .nil))))
    (.seq (.ife (.and (.cmp .Eq (.var 2) (.int 0)) (.cmp .Gt (.bi .len true (.cons (.var 1) .nil)) (.int 1))) (.seq (.ret (.tup (.cons (.str "choice") (.cons (.sli true (.var 1) .nopart (.part (.neg (.int 1)))) .nil))))
    .nil) .nil)
    (.seq (.ife (.and (.cmp .Eq (.var 2) (.int 1)) (.cmp .Lt (.bi .len true (.cons (.var 1) .nil)) (.int 9))) (.seq (.ret (.tup (.cons (.str "choice") (.cons (.bin .Add true (.var 1) (.tup (.cons (.call f_law_leaf (.cons (.var 0) .nil)) .nil))) .nil))))
    .nil) .nil)
    (.seq (.asg (.nm 3) (.call f_law_take (.cons (.var 0) (.cons (.bi .len true (.cons (.var 1) .nil)) .nil))))
    (.seq (.each (.nm 4) (.it1 (.bi .len true (.cons (.var 1) .nil))) (.seq (.ife (.and (.cmp .Eq (.var 2) (.int 2)) (.cmp .In (.idx (.idx (.var 1) (.var 4)) (.int 0)) (.lst true (.cons (.str "list") (.cons (.str "pair") (.cons (.str "choice") .nil)))))) (.seq (.asg (.nm 3) (.var 4))
    .nil) .nil)
    .nil))
    (.seq (.ret (.tup (.cons (.str "choice") (.cons (.bin .Add true (.bin .Add true (.sli true (.var 1) .nopart (.part (.var 3))) (.tup (.cons (.call f_law_varied (.cons (.var 0) (.cons (.idx (.var 1) (.var 3)) .nil))) .nil))) (.sli true (.var 1) (.part (.bin .Add true (.var 3) (.int 1))) .nopart)) .nil))))
    .nil))))))⟩
/- pool=0 s=1 at=2 -/
def b_law_varied : Fn := ⟨2, 3,
    (.seq (.ife (.or (.cmp .Eq (.idx (.var 1) (.int 0)) (.str "nothing")) (.cmp .Eq (.call f_law_take (.cons (.var 0) (.cons (.int 8) .nil))) (.int 0))) (.seq (.ret (.call f_law_leaf (.cons (.var 0) .nil)))
    .nil) .nil)
    (.seq (.ife (.cmp .Eq (.idx (.var 1) (.int 0)) (.str "number")) (.seq (.ret (.call f_law_varied_number (.cons (.var 0) (.cons (.idx (.var 1) (.int 1)) (.cons (.idx (.var 1) (.int 2)) .nil)))))
    .nil) .nil)
    (.seq (.ife (.cmp .Eq (.idx (.var 1) (.int 0)) (.str "choice")) (.seq (.ret (.call f_law_varied_choice (.cons (.var 0) (.cons (.idx (.var 1) (.int 1)) .nil))))
    .nil) .nil)
    (.seq (.ife (.cmp .Eq (.idx (.var 1) (.int 0)) (.str "pair")) (.seq (.asg (.nm 2) (.bin .Add true (.int 1) (.call f_law_take (.cons (.var 0) (.cons (.int 2) .nil)))))
    (.seq (.ret (.bin .Add true (.bin .Add true (.sli true (.var 1) .nopart (.part (.var 2))) (.tup (.cons (.call f_law_varied (.cons (.var 0) (.cons (.idx (.var 1) (.var 2)) .nil))) .nil))) (.sli true (.var 1) (.part (.bin .Add true (.var 2) (.int 1))) .nopart)))
    .nil)) .nil)
    (.seq (.ife (.and (.cmp .Eq (.idx (.var 1) (.int 0)) (.str "list")) (.cmp .Gt (.call f_law_take (.cons (.var 0) (.cons (.int 3) .nil))) (.int 0))) (.seq (.ret (.tup (.cons (.str "list") (.cons (.call f_law_varied (.cons (.var 0) (.cons (.idx (.var 1) (.int 1)) .nil))) (.cons (.idx (.var 1) (.int 2)) .nil)))))
    .nil) .nil)
    (.seq (.ret (.bin .Add true (.sli true (.var 1) .nopart (.part (.neg (.int 1)))) (.tup (.cons (.bi .max_ true (.cons (.int 0) (.cons (.bi .min_ true (.cons (.int 250) (.cons (.bin .Sub true (.bin .Add true (.idx (.var 1) (.neg (.int 1))) (.call f_law_take (.cons (.var 0) (.cons (.int 5) .nil)))) (.int 2)) .nil))) .nil))) .nil))))
    .nil))))))⟩
/- low=0 high=1 many=2 span=3 -/
def b_law_places : Fn := ⟨2, 4,
    (.seq (.asg (.nm 2) (.int 0))
    (.seq (.asg (.nm 3) (.bin .Sub true (.var 1) (.var 0)))
    (.seq (.loop (.cmp .Gt (.var 3) (.int 0)) (.seq (.asg (.nm 3) (.bin .FloorDiv true (.var 3) (.int 256)))
    (.seq (.asg (.nm 2) (.bin .Add true (.var 2) (.int 1)))
    .nil)))
    (.seq (.ret (.var 2))
    .nil))))⟩
/- s=0 r=1 inner=2 one=3 other=4 -/
def b_law_within : Fn := ⟨2, 5,
    (.seq (.ife (.cmp .NotEq (.idx (.var 0) (.int 0)) (.idx (.var 1) (.int 0))) (.seq (.ret (.bl false))
    .nil) .nil)
    (.seq (.ife (.cmp .Eq (.idx (.var 0) (.int 0)) (.str "number")) (.seq (.ret (.and (.cmp .Eq (.idx (.var 0) (.int 1)) (.idx (.var 1) (.int 1))) (.and (.cmp .LtE (.idx (.var 0) (.int 2)) (.idx (.var 1) (.int 2))) (.cmp .Eq (.call f_law_places (.cons (.idx (.var 0) (.int 1)) (.cons (.idx (.var 0) (.int 2)) .nil))) (.call f_law_places (.cons (.idx (.var 1) (.int 1)) (.cons (.idx (.var 1) (.int 2)) .nil)))))))
    .nil) .nil)
    (.seq (.ife (.cmp .Eq (.idx (.var 0) (.int 0)) (.str "text")) (.seq (.ret (.cmp .LtE (.idx (.var 0) (.int 1)) (.idx (.var 1) (.int 1))))
    .nil) .nil)
    (.seq (.ife (.cmp .Eq (.idx (.var 0) (.int 0)) (.str "list")) (.seq (.ret (.and (.cmp .LtE (.idx (.var 0) (.int 2)) (.idx (.var 1) (.int 2))) (.or (.cmp .Eq (.idx (.var 0) (.int 2)) (.int 0)) (.call f_law_within (.cons (.idx (.var 0) (.int 1)) (.cons (.idx (.var 1) (.int 1)) .nil))))))
    .nil) .nil)
    (.seq (.ife (.cmp .Eq (.idx (.var 0) (.int 0)) (.str "pair")) (.seq (.ret (.and (.call f_law_within (.cons (.idx (.var 0) (.int 1)) (.cons (.idx (.var 1) (.int 1)) .nil))) (.call f_law_within (.cons (.idx (.var 0) (.int 2)) (.cons (.idx (.var 1) (.int 2)) .nil)))))
    .nil) .nil)
    (.seq (.ife (.cmp .Eq (.idx (.var 0) (.int 0)) (.str "choice")) (.seq (.asg (.nm 2) (.comp true [3, 4] (.co (.nm 3) (.co (.nm 4) .no)) (.itz (.idx (.var 0) (.int 1)) (.idx (.var 1) (.int 1))) .nopart (.call f_law_within (.cons (.var 3) (.cons (.var 4) .nil)))))
    (.seq (.ret (.and (.cmp .LtE (.bi .len true (.cons (.idx (.var 0) (.int 1)) .nil)) (.bi .len true (.cons (.idx (.var 1) (.int 1)) .nil))) (.cmp .NotIn (.bl false) (.var 2))))
    .nil)) .nil)
    (.seq (.ret (.bl true))
    .nil)))))))⟩
/- text=0 a=1 -/
def b_law_signs : Fn := ⟨1, 2,
    (.seq (.ret (.cmp .Eq (.comp true [1] (.nm 1) (.its (.var 0)) (.part (.or (.not (.ch2 .LtE .LtE (.str " ") (.var 1) (.str "~"))) (.cmp .Eq (.bi .ord_ true (.cons (.var 1) .nil)) (.int 37)))) (.var 1)) (.lst true .nil)))
    .nil)⟩
/- s=0 thing=1 one=2 -/
def b_law_fits : Fn := ⟨2, 3,
    (.seq (.ife (.cmp .Eq (.idx (.var 0) (.int 0)) (.str "nothing")) (.seq (.ret (.cmp .Is (.var 1) .non))
    .nil) .nil)
    (.seq (.ife (.cmp .Eq (.idx (.var 0) (.int 0)) (.str "number")) (.seq (.ret (.and (.isi (.var 1) .int_) (.and (.not (.isi (.var 1) .bool_)) (.ch2 .LtE .LtE (.idx (.var 0) (.int 1)) (.var 1) (.idx (.var 0) (.int 2))))))
    .nil) .nil)
    (.seq (.ife (.cmp .Eq (.idx (.var 0) (.int 0)) (.str "text")) (.seq (.ret (.and (.isi (.var 1) .str_) (.and (.cmp .LtE (.bi .len true (.cons (.var 1) .nil)) (.idx (.var 0) (.int 1))) (.call f_law_signs (.cons (.var 1) .nil)))))
    .nil) .nil)
    (.seq (.ife (.cmp .Eq (.idx (.var 0) (.int 0)) (.str "list")) (.seq (.ife (.or (.not (.isi (.var 1) .list_)) (.cmp .Gt (.bi .len true (.cons (.var 1) .nil)) (.idx (.var 0) (.int 2)))) (.seq (.ret (.bl false))
    .nil) .nil)
    (.seq (.ret (.cmp .Eq (.comp true [2] (.nm 2) (.itl (.var 1)) (.part (.not (.call f_law_fits (.cons (.idx (.var 0) (.int 1)) (.cons (.var 2) .nil))))) (.var 2)) (.lst true .nil)))
    .nil)) .nil)
    (.seq (.ife (.or (.not (.isi (.var 1) .tuple_)) (.cmp .NotEq (.bi .len true (.cons (.var 1) .nil)) (.idx (.lst true (.cons (.int 3) (.cons (.int 2) .nil))) (.bi .int_ true (.cons (.cmp .Eq (.idx (.var 0) (.int 0)) (.str "pair")) .nil))))) (.seq (.ret (.bl false))
    .nil) .nil)
    (.seq (.ife (.cmp .Eq (.idx (.var 0) (.int 0)) (.str "pair")) (.seq (.ret (.and (.call f_law_fits (.cons (.idx (.var 0) (.int 1)) (.cons (.idx (.var 1) (.int 0)) .nil))) (.call f_law_fits (.cons (.idx (.var 0) (.int 2)) (.cons (.idx (.var 1) (.int 1)) .nil)))))
    .nil) .nil)
    (.seq (.ife (.or (.cmp .NotEq (.idx (.var 1) (.int 0)) (.str "of")) (.or (.not (.isi (.idx (.var 1) (.int 1)) .int_)) (.isi (.idx (.var 1) (.int 1)) .bool_))) (.seq (.ret (.bl false))
    .nil) .nil)
    (.seq (.ret (.and (.ch2 .LtE .Lt (.int 0) (.idx (.var 1) (.int 1)) (.bi .len true (.cons (.idx (.var 0) (.int 1)) .nil))) (.call f_law_fits (.cons (.idx (.idx (.var 0) (.int 1)) (.idx (.var 1) (.int 1))) (.cons (.idx (.var 1) (.int 2)) .nil)))))
    .nil))))))))⟩
/- s=0 value=1 found=2 rest=3 k=4 one=5 sign=6 -/
def b_law_bytes : Fn := ⟨2, 7,
    (.seq (.ife (.cmp .Eq (.idx (.var 0) (.int 0)) (.str "nothing")) (.seq (.ret (.lst true .nil))
    .nil) .nil)
    (.seq (.ife (.cmp .Eq (.idx (.var 0) (.int 0)) (.str "number")) (.seq (.asg (.nm 2) (.lst false .nil))
    (.seq (.asg (.nm 3) (.bin .Sub true (.var 1) (.idx (.var 0) (.int 1))))
    (.seq (.each (.nm 4) (.it1 (.call f_law_places (.cons (.idx (.var 0) (.int 1)) (.cons (.idx (.var 0) (.int 2)) .nil)))) (.seq (.drop (.bm .insert true (.var 2) (.cons (.int 0) (.cons (.bin .Mod true (.var 3) (.int 256)) .nil))))
    (.seq (.asg (.nm 3) (.bin .FloorDiv true (.var 3) (.int 256)))
    .nil)))
    (.seq (.ret (.var 2))
    .nil)))) .nil)
    (.seq (.ife (.cmp .Eq (.idx (.var 0) (.int 0)) (.str "text")) (.seq (.ret (.bin .Add true (.lst true (.cons (.bi .len true (.cons (.var 1) .nil)) .nil)) (.comp true [6] (.nm 6) (.its (.var 1)) .nopart (.bi .ord_ true (.cons (.var 6) .nil)))))
    .nil) .nil)
    (.seq (.ife (.cmp .Eq (.idx (.var 0) (.int 0)) (.str "list")) (.seq (.asg (.nm 2) (.lst false (.cons (.bi .len true (.cons (.var 1) .nil)) .nil)))
    (.seq (.each (.nm 5) (.itl (.var 1)) (.seq (.asg (.nm 2) (.bin .Add false (.var 2) (.call f_law_bytes (.cons (.idx (.var 0) (.int 1)) (.cons (.var 5) .nil)))))
    .nil))
    (.seq (.ret (.var 2))
    .nil))) .nil)
    (.seq (.ife (.cmp .Eq (.idx (.var 0) (.int 0)) (.str "pair")) (.seq (.ret (.bin .Add true (.call f_law_bytes (.cons (.idx (.var 0) (.int 1)) (.cons (.idx (.var 1) (.int 0)) .nil))) (.call f_law_bytes (.cons (.idx (.var 0) (.int 2)) (.cons (.idx (.var 1) (.int 1)) .nil)))))
    .nil) .nil)
    (.seq (.ret (.bin .Add true (.lst true (.cons (.idx (.var 1) (.int 1)) .nil)) (.call f_law_bytes (.cons (.idx (.idx (.var 0) (.int 1)) (.idx (.var 1) (.int 1))) (.cons (.idx (.var 1) (.int 2)) .nil)))))
    .nil))))))⟩
/- pool=0 s=1 r=2 k=3 -/
def b_law_two : Fn := ⟨1, 4,
    (.seq (.asg (.nm 1) (.call f_law_shape (.cons (.var 0) .nil)))
    (.seq (.asg (.nm 2) (.var 1))
    (.seq (.each (.nm 3) (.it1 (.call f_law_take (.cons (.var 0) (.cons (.int 4) .nil)))) (.seq (.asg (.nm 2) (.call f_law_varied (.cons (.var 0) (.cons (.var 2) .nil))))
    .nil))
    (.seq (.ife (.cmp .Eq (.call f_law_take (.cons (.var 0) (.cons (.int 4) .nil))) (.int 0)) (.seq (.asg (.nm 2) (.call f_law_shape (.cons (.var 0) .nil)))
    .nil) .nil)
    (.seq (.ret (.idx (.lst true (.cons (.tup (.cons (.var 1) (.cons (.var 2) .nil))) (.cons (.tup (.cons (.var 2) (.cons (.var 1) .nil))) .nil))) (.call f_law_take (.cons (.var 0) (.cons (.int 2) .nil)))))
    .nil)))))⟩
/- s=0 r=1 caught=2 e=3 -/
def b_law_refused : Fn := ⟨2, 4,
    (.seq (.asg (.nm 2) .non)
    (.seq (.tri 1 3 (.seq (.drop (.call f_parting (.cons (.var 0) (.cons (.var 1) .nil))))
    .nil) (.seq (.asg (.nm 2) (.var 3))
    .nil))
    (.seq (.ife (.or (.not (.isx (.var 2) 2)) (.not (.isx (.var 2) 0))) (.seq (.ret (.bl false))
    .nil) .nil)
    (.seq (.ret (.not (.ixs (.var 2) [4, 6, 8, 5, 7, 3])))
    .nil))))⟩
/- thing=0 one=1 -/
def b_law_kept : Fn := ⟨1, 2,
    (.seq (.ife (.isi (.var 0) .list_) (.seq (.ret (.comp true [1] (.nm 1) (.itl (.var 0)) .nopart (.call f_law_kept (.cons (.var 1) .nil))))
    .nil) .nil)
    (.seq (.ife (.isi (.var 0) .tuple_) (.seq (.ret (.bi .tuple_ true (.cons (.comp true [1] (.nm 1) (.itl (.var 0)) .nopart (.call f_law_kept (.cons (.var 1) .nil))) .nil)))
    .nil) .nil)
    (.seq (.ret (.var 0))
    .nil)))⟩
/- thing=0 one=1 -/
def b_law_spoil : Fn := ⟨1, 2,
    (.seq (.ife (.or (.isi (.var 0) .list_) (.isi (.var 0) .tuple_)) (.seq (.each (.nm 1) (.itl (.var 0)) (.seq (.drop (.call f_law_spoil (.cons (.var 1) .nil)))
    .nil))
    .nil) .nil)
    (.seq (.ife (.isi (.var 0) .list_) (.seq (.drop (.bm .append true (.var 0) (.cons (.str "x") .nil)))
    .nil) .nil)
    .nil))⟩
/- s=0 r=1 found=2 kept=3 -/
def b_law_right : Fn := ⟨2, 4,
    (.seq (.ife (.call f_law_within (.cons (.var 0) (.cons (.var 1) .nil))) (.seq (.ret (.call f_law_refused (.cons (.var 0) (.cons (.var 1) .nil))))
    .nil) .nil)
    (.seq (.asg (.nm 2) (.call f_parting (.cons (.var 0) (.cons (.var 1) .nil))))
    (.seq (.ife (.or (.not (.call f_law_fits (.cons (.var 0) (.cons (.var 2) .nil)))) (.and (.call f_law_fits (.cons (.var 1) (.cons (.var 2) .nil))) (.cmp .Eq (.call f_law_bytes (.cons (.var 0) (.cons (.var 2) .nil))) (.call f_law_bytes (.cons (.var 1) (.cons (.var 2) .nil)))))) (.seq (.ret (.bl false))
    .nil) .nil)
    (.seq (.asg (.nm 3) (.call f_law_kept (.cons (.var 2) .nil)))
    (.seq (.drop (.call f_law_spoil (.cons (.var 2) .nil)))
    (.seq (.ret (.cmp .Eq (.call f_parting (.cons (.var 0) (.cons (.var 1) .nil))) (.var 3)))
    .nil))))))⟩
/- pool=0 s=1 shapes=2 k=3 at=4 -/
def b_law_menus : Fn := ⟨1, 5,
    (.seq (.asg (.nm 1) (.call f_law_menu (.cons (.var 0) .nil)))
    (.seq (.asg (.nm 2) (.bi .list_ false (.cons (.idx (.var 1) (.int 1)) .nil)))
    (.seq (.each (.nm 3) (.it1 (.bin .Add true (.int 1) (.call f_law_take (.cons (.var 0) (.cons (.int 2) .nil))))) (.seq (.asg (.nm 4) (.call f_law_take (.cons (.var 0) (.cons (.bi .len true (.cons (.var 2) .nil)) .nil))))
    (.seq (.sub (.var 2) (.var 4) (.call f_law_varied (.cons (.var 0) (.cons (.idx (.var 2) (.var 4)) .nil))))
    .nil)))
    (.seq (.ret (.tup (.cons (.var 1) (.cons (.tup (.cons (.str "choice") (.cons (.bi .tuple_ true (.cons (.var 2) .nil)) .nil))) .nil))))
    .nil))))⟩
/- thing=0 found=1 one=2 -/
def b_law_lists : Fn := ⟨1, 3,
    (.seq (.asg (.nm 1) (.lst false .nil))
    (.seq (.ife (.isi (.var 0) .list_) (.seq (.drop (.bm .append true (.var 1) (.cons (.var 0) .nil)))
    .nil) .nil)
    (.seq (.ife (.or (.isi (.var 0) .list_) (.isi (.var 0) .tuple_)) (.seq (.each (.nm 2) (.itl (.var 0)) (.seq (.asg (.nm 1) (.bin .Add false (.var 1) (.call f_law_lists (.cons (.var 2) .nil))))
    .nil))
    .nil) .nil)
    (.seq (.ret (.var 1))
    .nil))))⟩
/- pool=0 one=1 some=2 inner=3 many=4 s=5 rows=6 sizes=7 row=8 -/
def b_law_apart : Fn := ⟨1, 9,
    (.seq (.asg (.nm 1) (.tup (.cons (.str "list") (.cons (.call f_law_leaf (.cons (.var 0) .nil)) (.cons (.int 3) .nil)))))
    (.seq (.asg (.nm 2) (.lst true (.cons (.var 1) (.cons (.tup (.cons (.str "pair") (.cons (.tup (.cons (.str "nothing") .nil)) (.cons (.var 1) .nil)))) (.cons (.tup (.cons (.str "pair") (.cons (.var 1) (.cons (.var 1) .nil)))) (.cons (.tup (.cons (.str "choice") (.cons (.tup (.cons (.var 1) (.cons (.var 1) .nil))) .nil))) .nil))))))
    (.seq (.asg (.nm 3) (.idx (.var 2) (.call f_law_take (.cons (.var 0) (.cons (.int 4) .nil)))))
    (.seq (.asg (.nm 4) (.bin .Add true (.int 1) (.call f_law_take (.cons (.var 0) (.cons (.int 9) .nil)))))
    (.seq (.asg (.nm 5) (.tup (.cons (.str "list") (.cons (.var 3) (.cons (.bin .Add true (.bin .Add true (.var 4) (.int 1)) (.call f_law_take (.cons (.var 0) (.cons (.int 5) .nil)))) .nil)))))
    (.seq (.asg (.nm 6) (.call f_law_lists (.cons (.call f_parting (.cons (.var 5) (.cons (.tup (.cons (.str "list") (.cons (.var 3) (.cons (.var 4) .nil)))) .nil))) .nil)))
    (.seq (.asg (.nm 7) (.comp true [8] (.nm 8) (.itl (.var 6)) .nopart (.bi .len true (.cons (.var 8) .nil))))
    (.seq (.each (.nm 8) (.itl (.var 6)) (.seq (.drop (.bm .append true (.var 8) (.cons (.str "x") .nil)))
    .nil))
    (.seq (.ret (.and (.cmp .Gt (.bi .len true (.cons (.var 6) .nil)) (.bin .Add true (.var 4) (.int 1))) (.cmp .Eq (.comp true [8] (.nm 8) (.itl (.var 6)) .nopart (.bin .Sub true (.bi .len true (.cons (.var 8) .nil)) (.int 1))) (.var 7))))
    .nil)))))))))⟩
/- pool=0 high=1 one=2 other=3 -/
def b_law_shifted : Fn := ⟨1, 4,
    (.seq (.asg (.nm 1) (.idx (.lst true (.cons (.int 0) (.cons (.int 1) (.cons (.int 255) (.cons (.int 256) (.cons (.int 65535) .nil)))))) (.call f_law_take (.cons (.var 0) (.cons (.int 5) .nil)))))
    (.seq (.asg (.nm 2) (.tup (.cons (.str "number") (.cons (.int 0) (.cons (.var 1) .nil)))))
    (.seq (.asg (.nm 3) (.tup (.cons (.str "number") (.cons (.int 0) (.cons (.idx (.lst true (.cons (.int 255) (.cons (.int 256) (.cons (.int 65536) .nil)))) (.call f_law_take (.cons (.var 0) (.cons (.int 3) .nil)))) .nil)))))
    (.seq (.ret (.lst true (.cons (.tup (.cons (.str "pair") (.cons (.var 2) (.cons (.var 3) .nil)))) (.cons (.tup (.cons (.str "pair") (.cons (.var 3) (.cons (.var 2) .nil)))) .nil))))
    .nil))))⟩
/- script=0 k=1 pool=2 leaf=3 s=4 r=5 one=6 other=7 menu=8 varied=9 -/
def b_law : Fn := ⟨1, 10,
    (.seq (.each (.nm 1) (.it1 (.bi .max_ true (.cons (.int 1) (.cons (.bi .min_ true (.cons (.int 20) (.cons (.bi .len true (.cons (.var 0) .nil)) .nil))) .nil)))) (.seq (.asg (.nm 2) (.call f_law_pool (.cons (.var 0) (.cons (.var 1) .nil))))
    (.seq (.asg (.co (.nm 4) (.co (.nm 5) .no)) (.call f_law_two (.cons (.var 2) .nil)))
    (.seq (.asg (.co (.nm 6) (.co (.nm 7) .no)) (.call f_law_shifted (.cons (.var 2) .nil)))
    (.seq (.asg (.co (.nm 8) (.co (.nm 9) .no)) (.call f_law_menus (.cons (.var 2) .nil)))
    (.seq (.ife (.or (.not (.call f_law_right (.cons (.var 8) (.cons (.var 9) .nil)))) (.not (.call f_law_right (.cons (.var 9) (.cons (.var 8) .nil))))) (.seq (.ret (.bl false))
    .nil) .nil)
    (.seq (.ife (.or (.not (.call f_law_right (.cons (.var 4) (.cons (.var 5) .nil)))) (.or (.not (.call f_law_right (.cons (.var 6) (.cons (.var 7) .nil)))) (.not (.call f_law_right (.cons (.var 7) (.cons (.var 6) .nil)))))) (.seq (.ret (.bl false))
    .nil) .nil)
    (.seq (.asg (.nm 3) (.call f_law_leaf (.cons (.var 2) .nil)))
    (.seq (.ife (.not (.call f_law_apart (.cons (.var 2) .nil))) (.seq (.ret (.bl false))
    .nil) .nil)
    (.seq (.ife (.not (.call f_law_right (.cons (.tup (.cons (.str "list") (.cons (.var 3) (.cons (.call f_law_take (.cons (.var 2) (.cons (.int 151) .nil))) .nil)))) (.cons (.tup (.cons (.str "list") (.cons (.var 3) (.cons (.call f_law_take (.cons (.var 2) (.cons (.int 151) .nil))) .nil)))) .nil)))) (.seq (.ret (.bl false))
    .nil) .nil)
    .nil))))))))))
    (.seq (.ret (.bl true))
    .nil))⟩
def tab : Nat → Option Fn
  | 0 => some b_bytes_for
  | 1 => some b_is_within
  | 2 => some b_least_value
  | 3 => some b_outside_list
  | 4 => some b_outside_pair
  | 5 => some b_outside_choice
  | 6 => some b_outside
  | 7 => some b_other_bytes
  | 8 => some b_parting
  | 9 => some b_law_pool
  | 10 => some b_law_take
  | 11 => some b_law_leaf
  | 12 => some b_law_part
  | 13 => some b_law_record
  | 14 => some b_law_menu
  | 15 => some b_law_shape
  | 16 => some b_law_varied_number
  | 17 => some b_law_varied_choice
  | 18 => some b_law_varied
  | 19 => some b_law_places
  | 20 => some b_law_within
  | 21 => some b_law_signs
  | 22 => some b_law_fits
  | 23 => some b_law_bytes
  | 24 => some b_law_two
  | 25 => some b_law_refused
  | 26 => some b_law_kept
  | 27 => some b_law_spoil
  | 28 => some b_law_right
  | 29 => some b_law_menus
  | 30 => some b_law_lists
  | 31 => some b_law_apart
  | 32 => some b_law_shifted
  | 33 => some b_law
  | _ => none
end Wp

/-! WpL: rules for trees: calls, loops, comprehensions, plain data. -/
namespace Wp
open PySem
theorem mon_run (T : Nat → Option Fn) (k : Nat) : MonR (run T k) (run T k) := run_mono T k k (Nat.le_refl _)
/-- a call: from what is known of it -/
theorem run_use {T : Nat → Option Fn} {n k f : Nat} {ds : List D} {M : Mem} {P Q : QK} {E : XQ} (h : run T n f ds M P fun _ _ => False) (hk : n ≤ k) (hq : ∀ d M', P d M' → Q d M') : run T k f ds M Q E :=
  run_mono T n k hk f ds M P Q _ E hq (fun _ _ z => z.elim) h
/-- a call that gives a thing and leaves the memory -/
theorem run_is {T : Nat → Option Fn} {n k f : Nat} {ds : List D} {M : Mem} {v : D} {Q : QK} {E : XQ} (h : run T n f ds M (fun d M' => d = v ∧ M' = M) fun _ _ => False) (hk : n ≤ k) (hq : Q v M) : run T k f ds M Q E :=
  run_use h hk fun d M' z => by rw [z.1, z.2]; exact hq
/-- a def's body -/
theorem run_in {T : Nat → Option Fn} {k f : Nat} {fn : Fn} {ds : List D} {M : Mem} {Q : QK} {E : XQ} (hT : T f = some fn) (hl : ds.length = fn.np)
    (h : wpS (run T k) fn.body ⟨fun _ M1 => Frz .non M1 Q, fun x M1 => Frz x M1 Q, fun _ _ => False, fun _ _ => False, fun z _ M1 => E z M1⟩ (start fn ds) M) : run T (k + 1) f ds M Q E := by
  unfold run
  rw [hT]
  exact ⟨hl, h⟩

/-! ### loops -/
theorem each_inv {T : Nat → Option Fn} {k : Nat} {s : Sx} {tg : Tg} {still : Mem → Prop} {N : Ends} (I : List D → Env → Mem → Prop)
    (hs : ∀ d ds env M, I (d :: ds) env M → still M ∧ tgW tg d env fun e => wpS (run T k) s { N with nx := I ds, ct := I ds, bk := N.nx } e M)
    (he : ∀ env M, I [] env M → still M ∧ N.nx env M) : ∀ (ds : List D) (env : Env) (M : Mem), I ds env M → eachW (wpS (run T k) s) tg still N ds env M
  | [], env, M, h => he env M h
  | d :: ds, env, M, h => by
    obtain ⟨h1, h2⟩ := hs d ds env M h
    refine ⟨h1, tgW_mono tg (fun e q => monS (mon_run T k) s (N := { N with nx := I ds, ct := I ds, bk := N.nx }) ⟨fun e M q => ?_, fun _ _ q => q, fun _ _ q => q, fun e M q => ?_, fun _ _ _ q => q⟩ q) h2⟩
    · exact each_inv I hs he ds e M q
    · exact each_inv I hs he ds e M q
/-- a while loop: n turns are enough -/
theorem loop_inv {T : Nat → Option Fn} {k : Nat} {s : Sx} {test : Env → Mem → BK → Prop} {N : Ends} (ht : ∀ e M q q', (∀ c M, q c M → q' c M) → test e M q → test e M q') (I : Nat → Env → Mem → Prop)
    (hs : ∀ n env M, I n env M → test env M fun c M1 => match c with
      | true => ∃ m, m < n ∧ wpS (run T k) s { N with nx := I m, ct := I m, bk := N.nx } env M1
      | false => N.nx env M1) : ∀ (n j : Nat) (env : Env) (M : Mem), I j env M → j < n → loopW test (wpS (run T k) s) N n env M
  | 0, j, env, M, h, hj => absurd hj (Nat.not_lt_zero _)
  | n + 1, j, env, M, h, hj => by
    unfold loopW
    refine ht _ _ _ _ (fun c M1 q => ?_) (hs j env M h)
    cases c with
    | false => exact q
    | true =>
      obtain ⟨m, hm, q⟩ := q
      exact monS (mon_run T k) s (N := { N with nx := I m, ct := I m, bk := N.nx }) ⟨fun e M q => loop_inv ht I hs n m e M q (by omega), fun _ _ q => q, fun _ _ q => q, fun e M q => loop_inv ht I hs n m e M q (by omega), fun _ _ _ q => q⟩ q

/-! ### comprehensions -/
abbrev stepC (R : Nat → List D → Mem → QK → XQ → Prop) (tg : Tg) (cond elt : Ex) : D → Env → Mem → (Option D → Mem → Prop) → Prop := fun d e M Q => tgW tg d e fun e' => wpC R cond e' M (fun b M1 => match b with
        | true => wpE R elt e' M1 (fun y M2 => Q (some y) M2) fun _ _ => False
        | false => Q none M1) fun _ _ => False
theorem stepC_mono {T : Nat → Option Fn} {k : Nat} {tg : Tg} {cond elt : Ex} (d : D) (e : Env) (M : Mem) (P P' : Option D → Mem → Prop) (hp : ∀ o M, P o M → P' o M) (h : stepC (run T k) tg cond elt d e M P) : stepC (run T k) tg cond elt d e M P' :=
  tgW_mono tg (fun e' h => (mon _ _ (mon_run T k) cond).C (fun b M1 h => by
    cases b with
    | true => exact (mon _ _ (mon_run T k) elt).E (fun y M2 h => hp _ _ h) (fun _ _ z => z) h
    | false => exact hp _ _ h) (fun _ _ z => z) h) h
theorem comp_inv {T : Nat → Option Fn} {k : Nat} {tg : Tg} {cond elt : Ex} {still : Mem → Prop} {env : Env} {Q : AK} (I : List D → List D → Mem → Prop)
    (hs : ∀ d ds acc M, I (d :: ds) acc M → still M ∧ stepC (run T k) tg cond elt d env M fun o M1 => match o with
      | some y => acc.length < sizeLine ∧ I ds (acc ++ [y]) M1
      | none => I ds acc M1)
    (he : ∀ acc M, I [] acc M → still M ∧ Q acc M) : ∀ (ds acc : List D) (M : Mem), I ds acc M → compW (stepC (run T k) tg cond elt) still env ds acc M Q
  | [], acc, M, h => he acc M h
  | d :: ds, acc, M, h => by
    obtain ⟨h1, h2⟩ := hs d ds acc M h
    refine ⟨h1, stepC_mono d env M _ _ (fun o M1 q => ?_) h2⟩
    cases o with
    | some y => exact ⟨q.1, comp_inv I hs he ds _ M1 q.2⟩
    | none => exact comp_inv I hs he ds _ M1 q
/-- .. that leaves the memory -/
theorem comp_is {step : D → Env → Mem → (Option D → Mem → Prop) → Prop} {still : Mem → Prop} {env : Env} {M : Mem} {Q : AK} (f : D → Option D) (hst : still M) : ∀ (ds acc : List D),
    (∀ d ∈ ds, ∀ P : Option D → Mem → Prop, P (f d) M → step d env M P) → acc.length + ds.length ≤ sizeLine → Q (acc ++ ds.filterMap f) M → compW step still env ds acc M Q
  | [], acc, _, _, q => ⟨hst, by rw [List.filterMap_nil, List.append_nil] at q; exact q⟩
  | d :: ds, acc, hs, hl, q => by
    rw [List.length_cons] at hl
    refine ⟨hst, hs d (List.mem_cons_self ..) _ ?_⟩
    rw [List.filterMap_cons] at q
    cases e : f d with
    | none =>
      rw [e] at q
      exact comp_is f hst ds acc (fun d hd => hs d (List.mem_cons_of_mem _ hd)) (by omega) q
    | some y =>
      rw [e] at q
      exact ⟨by omega, comp_is f hst ds (acc ++ [y]) (fun d hd => hs d (List.mem_cons_of_mem _ hd)) (by rw [List.length_append, List.length_cons, List.length_nil]; omega) (by rw [List.append_assoc]; exact q)⟩

/-! ### memory -/
theorem Mem.upd_same {M : Mem} {a : Addr} {o : Ob} : M.upd a o a = some o := if_pos rfl
theorem Mem.upd_ne {M : Mem} {a b : Addr} {o : Ob} (h : b ≠ a) : M.upd a o b = M b := if_neg h
theorem Mem.del_ne {M : Mem} {a b : Addr} (h : b ≠ a) : M.del a b = M b := if_neg h
theorem Mem.upd_del {M : Mem} {a : Addr} {o : Ob} (h : M a = none) : (M.upd a o).del a = M := funext fun b => by
  by_cases e : b = a
  · subst e; unfold Mem.del; rw [if_pos rfl, h]
  · rw [Mem.del_ne e, Mem.upd_ne e]
theorem Mem.upd_upd {M : Mem} {a : Addr} {o o' : Ob} : (M.upd a o).upd a o' = M.upd a o' := funext fun b => by
  by_cases e : b = a
  · subst e; rw [Mem.upd_same, Mem.upd_same]
  · rw [Mem.upd_ne e, Mem.upd_ne e, Mem.upd_ne e]
theorem Mem.fresh_ne {M : Mem} {a p : Addr} {o : Ob} (h : M a = some o) (hp : M p = none) : a ≠ p := fun e => by rw [e, hp] at h; cases h

/-! ### lists set beside [] -/
theorem eq_nil {l : List D} {M : Mem} {Q : QK} (h : Q (.bl l.isEmpty) M) : eqW false (.lst l) (.lst []) M Q := by
  unfold eqW
  rw [show eqA (.lst l) (.lst []) = none from rfl]
  dsimp only
  unfold eqL
  cases l with
  | nil =>
    refine ⟨by decide, by decide, ?_⟩
    exact h
  | cons a b =>
    exact h
theorem ne_nil {l : List D} {M : Mem} {Q : QK} (h : Q (.bl (!l.isEmpty)) M) : eqW true (.lst l) (.lst []) M Q := by
  unfold eqW
  rw [show eqA (.lst l) (.lst []) = none from rfl]
  dsimp only
  unfold eqL
  cases l with
  | nil =>
    refine ⟨by decide, by decide, ?_⟩
    exact h
  | cons a b =>
    exact h
end Wp
namespace Wp
open PySem
theorem bl_no {b : Bool} (h1 : D.bl b = .bl true → False) (h2 : D.bl b = .bl false → False) : False := by
  cases b
  · exact h2 rfl
  · exact h1 rfl
theorem bl_is {b c : Bool} (h : D.bl b = .bl c) : b = c := by
  cases h; rfl
end Wp
namespace Wp
open PySem
theorem asS_loc {M : Mem} {a : Addr} {ds : List D} (h : M a = some (.lst ds)) : asS M (.loc a) = some ds := by
  show (match M a with
    | some (.lst ds) => some ds
    | _ => none) = _
  rw [h]
theorem asL_loc {M : Mem} {a : Addr} {ds : List D} (h : M a = some (.lst ds)) : asL M (.loc a) = some ds := asS_loc h
theorem asLT_loc {M : Mem} {a : Addr} {ds : List D} (h : M a = some (.lst ds)) : asLT M (.loc a) = some ds := by
  show (match M a with
    | some (.lst ds) => some ds
    | _ => none) = _
  rw [h]
theorem ixN_in {n : Nat} {i : Int} (h0 : 0 ≤ i) (h1 : i < n) : ixN n i = some i.toNat := by
  unfold ixN
  rw [if_pos h0, if_pos h1]
theorem atI_in {α : Type} {xs : List α} {i : Int} (h0 : 0 ≤ i) (h1 : i < xs.length) : ∃ x, xs[i.toNat]? = some x ∧ atI xs i = some x := by
  have h : i.toNat < xs.length := by omega
  refine ⟨xs[i.toNat], List.getElem?_eq_getElem h, ?_⟩
  unfold atI
  rw [ixN_in h0 h1]
  exact List.getElem?_eq_getElem h
theorem put_loc {M : Mem} {a : Addr} {xs ys : List D} {k : Int} {v : D} {Q : Mem → Prop} (h : M a = some (.lst xs)) (h0 : 0 ≤ k) (h1 : k < xs.length) (e : xs.set k.toNat v = ys) (q : Q (M.upd a (.lst ys))) : putW (.loc a) (.int k) v M Q := by
  subst e
  show (match M a with
    | some (.lst xs) => match ixN xs.length k with
      | some j => Q (M.upd a (.lst (xs.set j v)))
      | none => False
    | _ => False)
  rw [h]
  show (match ixN xs.length k with
      | some j => Q (M.upd a (.lst (xs.set j v)))
      | none => False)
  rw [ixN_in h0 h1]
  exact q
end Wp
namespace Wp
open PySem
theorem log2_small {n : Nat} (h : n < 2 ^ 200) : n.log2 < 200 := by
  by_cases e : n = 0
  · rw [e]; decide
  · exact (Nat.log2_lt e).mpr h
theorem mul_ok {i j : Int} (h1 : i.natAbs < 2 ^ 200) (h2 : j.natAbs < 2 ^ 200) : mulOk i j := by
  have a := log2_small h1
  have b := log2_small h2
  unfold mulOk
  omega
end Wp
namespace Wp
open PySem
theorem eq_loc_nil {a : Addr} {l : List D} {M : Mem} {Q : QK} (e : M a = some (.lst l)) (h : Q (.bl l.isEmpty) M) : eqW false (.loc a) (.lst []) M Q := by
  unfold eqW
  rw [show eqA (.loc a) (.lst []) = none from rfl]
  dsimp only
  unfold eqL
  rw [asL_loc e]
  cases l with
  | nil =>
    show eqP _ _ _ _ _
    unfold eqP toPyM toPy1
    dsimp only
    rw [e]
    exact ⟨by decide, by decide, h⟩
  | cons x xs => exact h
theorem ne_loc_nil {a : Addr} {l : List D} {M : Mem} {Q : QK} (e : M a = some (.lst l)) (h : Q (.bl (!l.isEmpty)) M) : eqW true (.loc a) (.lst []) M Q := by
  unfold eqW
  rw [show eqA (.loc a) (.lst []) = none from rfl]
  dsimp only
  unfold eqL
  rw [asL_loc e]
  cases l with
  | nil =>
    show eqP _ _ _ _ _
    unfold eqP toPyM toPy1
    dsimp only
    rw [e]
    exact ⟨by decide, by decide, h⟩
  | cons x xs => exact h
theorem cut_len {α : Type} (xs : List α) (lo hi : Option Int) : (cut xs lo hi).length ≤ xs.length := by
  unfold cut
  rw [List.length_take, List.length_drop]
  omega
theorem cut_map {α β : Type} (f : α → β) (xs : List α) (lo hi : Option Int) : cut (xs.map f) lo hi = (cut xs lo hi).map f := by
  unfold cut
  rw [List.map_take, List.map_drop, List.length_map]
end Wp
namespace Wp
open PySem
/-- a length that is written out -/
theorem lok {n : Nat} (h : Nat.ble n sizeLine = true) : n ≤ sizeLine := Nat.le_of_ble_eq_true h
end Wp
namespace Wp
open PySem
theorem atI_mem {α : Type} {xs : List α} {i : Int} (h0 : 0 ≤ i) (h1 : i < xs.length) : ∃ x, x ∈ xs ∧ atI xs i = some x := by
  obtain ⟨x, e1, e2⟩ := atI_in h0 h1
  exact ⟨x, List.mem_of_getElem? e1, e2⟩
end Wp
namespace Wp
theorem all_nil {α : Type} {P : α → Prop} : ∀ x ∈ ([] : List α), P x := fun x h => by cases h
theorem all_cons {α : Type} {P : α → Prop} {a : α} {l : List α} (h : P a) (t : ∀ x ∈ l, P x) : ∀ x ∈ a :: l, P x := fun x hx => by
  cases hx with
  | head => exact h
  | tail _ hx => exact t x hx
theorem all_app {α : Type} {P : α → Prop} {k l : List α} (h : ∀ x ∈ k, P x) (t : ∀ x ∈ l, P x) : ∀ x ∈ k ++ l, P x := fun x hx => by
  rcases List.mem_append.mp hx with hx | hx
  · exact h x hx
  · exact t x hx
end Wp
namespace Wp
open PySem
def bmL : Bm → Bool
  | .append => true
  | .extend => true
  | .index => true
  | .pop => true
  | .reverse_ => true
  | .clear => true
  | .insert => true
  | _ => false
theorem rcv_loc {b : Bm} {M : Mem} {a : Addr} {ds : List D} (hb : bmL b = true) (h : M a = some (.lst ds)) : rcvW b (.loc a) M := by
  unfold rcvW
  cases b <;> first | (cases hb; done) | (show (asL M (.loc a)).isSome = true; rw [asL_loc h]; rfl)
theorem append_loc {fr : Bool} {M : Mem} {a : Addr} {xs : List D} {y : D} {Q : QK} (h : M a = some (.lst xs)) (hl : xs.length < sizeLine) (q : Q .non (M.upd a (.lst (xs ++ [y])))) : bmW .append fr (.loc a) [y] M Q := by
  show (match M a with
    | some (.lst xs) => xs.length < sizeLine ∧ Q .non (M.upd a (.lst (xs ++ [y])))
    | _ => False)
  rw [h]
  exact ⟨hl, q⟩
theorem newL_fz {ds : List D} {M : Mem} {Q : QK} (hl : ds.length ≤ sizeLine) (q : Q (.lst ds) M) : newL true ds M Q := ⟨hl, q⟩
theorem newL_at {ds : List D} {M : Mem} {Q : QK} (hl : ds.length ≤ sizeLine) (q : ∀ p, M p = none → Q (.loc p) (M.upd p (.lst ds))) : newL false ds M Q := ⟨hl, q⟩
end Wp

/-! PwShapes: shapes and what fits them, plain. -/
namespace Wp
open PySem
inductive Sh where
  | nothing | number (lo hi : Int) | text (m : Int) | list (s : Sh) (m : Int) | pair (a b : Sh) | choice (ss : List Sh)
mutual
def Sh.d : Sh → D
  | .nothing => .tup [.str "nothing"]
  | .number lo hi => .tup [.str "number", .int lo, .int hi]
  | .text m => .tup [.str "text", .int m]
  | .list s m => .tup [.str "list", s.d, .int m]
  | .pair a b => .tup [.str "pair", a.d, b.d]
  | .choice ss => .tup [.str "choice", .tup (Sh.ds ss)]
def Sh.ds : List Sh → List D
  | [] => []
  | s :: ss => s.d :: Sh.ds ss
end
mutual
/-- how deep calls go -/
def Sh.lev : Sh → Nat
  | .nothing => 1
  | .number _ _ => 2
  | .text _ => 2
  | .list s _ => s.lev + 2
  | .pair a b => max a.lev b.lev + 2
  | .choice ss => Sh.levs ss + 2
def Sh.levs : List Sh → Nat
  | [] => 0
  | s :: ss => max s.lev (Sh.levs ss)
end
theorem Sh.ds_len : ∀ ss, (Sh.ds ss).length = ss.length
  | [] => rfl
  | s :: ss => congrArg Nat.succ (Sh.ds_len ss)
mutual
/-- a tree without places, of fitting sizes -/
def okD : D → Bool
  | .non => true
  | .bl _ => true
  | .int _ => true
  | .str z => decide (z.length ≤ sizeLine)
  | .tup ds => decide (ds.length ≤ sizeLine) && okDs ds
  | .lst ds => decide (ds.length ≤ sizeLine) && okDs ds
  | .scr ns => decide (ns.length ≤ sizeLine)
  | .emp => true
  | .loc _ => false
def okDs : List D → Bool
  | [] => true
  | d :: ds => okD d && okDs ds
end
theorem okDs_of : ∀ {ds : List D}, okDs ds = true → ∀ d ∈ ds, okD d = true
  | [], _, d, hd => by cases hd
  | x :: ds, h, d, hd => by
    unfold okDs at h
    rw [Bool.and_eq_true] at h
    cases hd with
    | head => exact h.1
    | tail _ hd => exact okDs_of h.2 d hd
theorem okDs_iff : ∀ {ds : List D}, (∀ d ∈ ds, okD d = true) → okDs ds = true
  | [], _ => rfl
  | x :: ds, h => by
    unfold okDs
    rw [Bool.and_eq_true]
    exact ⟨h x (List.mem_cons_self ..), okDs_iff fun d hd => h d (List.mem_cons_of_mem _ hd)⟩
def isW : D → Bool
  | .int _ => true
  | _ => false
def okSign (c : Nat) : Bool := decide (32 ≤ c) && decide (c ≤ 126) && decide (c ≠ 37)
def textB (m : Int) : D → Bool
  | .str z => decide ((z.length : Int) ≤ m) && z.cps.toList.all okSign
  | _ => false
/-- the things in a list -/
def itemsB : D → Option (List D)
  | .lst ds => some ds
  | .scr ns => some (ns.map .int)
  | _ => none
mutual
def fitsB : Sh → D → Bool
  | .nothing, t => match t with
    | .non => true
    | _ => false
  | .number lo hi, t => match t with
    | .int i => decide (lo ≤ i) && decide (i ≤ hi)
    | _ => false
  | .text m, t => textB m t
  | .list s m, t => match itemsB t with
    | some ds => decide ((ds.length : Int) ≤ m) && ds.all (fitsB s)
    | none => false
  | .pair a b, t => match t with
    | .tup [x, y] => fitsB a x && fitsB b y
    | _ => false
  | .choice ss, t => match t with
    | .tup [.str z, .int i, x] => decide (z = "of") && (decide (0 ≤ i) && fitsN ss i.toNat x)
    | _ => false
def fitsN : List Sh → Nat → D → Bool
  | [], _, _ => false
  | s :: _, 0, t => fitsB s t
  | _ :: ss, n + 1, t => fitsN ss n t
end
end Wp
namespace Wp
open PySem
mutual
theorem repD_ok {a : Addr} {xs : List D} : ∀ {d : D}, okD d = true → repD a xs d = d
  | .non, _ => rfl
  | .bl _, _ => rfl
  | .int _, _ => rfl
  | .str _, _ => rfl
  | .tup ds, h => by
    unfold okD at h
    rw [Bool.and_eq_true] at h
    exact congrArg D.tup (repDs_ok h.2)
  | .lst ds, h => by
    unfold okD at h
    rw [Bool.and_eq_true] at h
    exact congrArg D.lst (repDs_ok h.2)
  | .scr _, _ => rfl
  | .emp, _ => rfl
  | .loc _, h => by cases h
theorem repDs_ok {a : Addr} {xs : List D} : ∀ {ds : List D}, okDs ds = true → repDs a xs ds = ds
  | [], _ => rfl
  | d :: ds, h => by
    unfold okDs at h
    rw [Bool.and_eq_true] at h
    show repD a xs d :: repDs a xs ds = _
    rw [repD_ok h.1, repDs_ok h.2]
end
theorem repD_loc {a : Addr} {xs : List D} : repD a xs (.loc a) = .lst xs := if_pos rfl
/-- at a return: a list in the memory that the value does not hold is let go -/
theorem frz_drop {a : Addr} {xs : List D} {d : D} {M : Mem} {Q : QK} (h : M a = some (.lst xs)) (hd : okD d = true) (q : Frz d (M.del a) Q) : Frz d M Q :=
  .step h (by rw [repD_ok hd]; exact q)
theorem okD_lst {ds : List D} (h : ds.length ≤ sizeLine) (h2 : ∀ d ∈ ds, okD d = true) : okD (.lst ds) = true := by
  unfold okD
  rw [Bool.and_eq_true]
  exact ⟨decide_eq_true h, okDs_iff h2⟩
theorem okD_tp {ds : List D} (h : ds.length ≤ sizeLine) (h2 : ∀ d ∈ ds, okD d = true) : okD (.tup ds) = true := by
  unfold okD
  rw [Bool.and_eq_true]
  exact ⟨decide_eq_true h, okDs_iff h2⟩
end Wp

/-! PwText: texts, plain. -/
namespace Wp
open PySem
/-- all signs are such as a text may hold -/
def okT (z : Str) : Bool := z.cps.toList.all okSign
theorem app_cps (a b : Str) : (a ++ b).cps.toList = a.cps.toList ++ b.cps.toList := by
  show (a.cps ++ b.cps).toList = _
  rw [Array.toList_append]
theorem app_len (a b : Str) : (a ++ b).length = a.length + b.length := Array.size_append
theorem okT_app (a b : Str) : okT (a ++ b) = (okT a && okT b) := by
  unfold okT
  rw [app_cps, List.all_append]
theorem rep_len (z : Str) (n : Nat) : (repS z n).length = z.length * n := by
  show (List.replicate n z.cps.toList).flatten.toArray.size = _
  rw [List.size_toArray, PyProof.Rows.lm_len_rep_flat, Array.length_toList, Nat.mul_comm]
  rfl
theorem okT_rep (z : Str) (h : okT z = true) (n : Nat) : okT (repS z n) = true := by
  show ((List.replicate n z.cps.toList).flatten).all okSign = true
  rw [List.all_eq_true]
  intro x hx
  obtain ⟨l, hl, hx⟩ := List.mem_flatten.mp hx
  rw [(List.mem_replicate.mp hl).2] at hx
  exact List.all_eq_true.mp h x hx
theorem okT_rep_not (z : Str) (h : okT z = false) {n : Nat} (hn : 0 < n) : okT (repS z n) = false := by
  show ((List.replicate n z.cps.toList).flatten).all okSign = false
  match n, hn with
  | n + 1, _ =>
    rw [List.replicate_succ, List.flatten_cons, List.all_append]
    rw [show z.cps.toList.all okSign = false from h]
    rfl
theorem cut_mem {α : Type} {xs : List α} {lo hi : Option Int} {x : α} (h : x ∈ cut xs lo hi) : x ∈ xs := by
  unfold cut at h
  exact List.mem_of_mem_drop (List.mem_of_mem_take h)
theorem cut_to {α : Type} (xs : List α) {i : Int} (h : 0 ≤ i) : cut xs none (some i) = xs.take i.toNat := by
  unfold cut slN
  simp only [Nat.sub_zero, List.drop_zero]
  rw [if_neg (by omega)]
  by_cases e : i.toNat ≤ xs.length
  · rw [Nat.min_eq_left e]
  · rw [Nat.min_eq_right (by omega), List.take_of_length_le (by omega), List.take_of_length_le (by omega)]
theorem fits_text_good {z : Str} {m : Int} (h1 : (z.length : Int) ≤ m) (h2 : okT z = true) : fitsB (.text m) (.str z) = true := by
  show (decide ((z.length : Int) ≤ m) && okT z) = true
  rw [decide_eq_true h1, h2]; rfl
theorem fits_text_long {z : Str} {m : Int} (h1 : m < (z.length : Int)) : fitsB (.text m) (.str z) = false := by
  show (decide ((z.length : Int) ≤ m) && okT z) = false
  rw [decide_eq_false (by omega)]; rfl
theorem fits_text_odd {z : Str} {m : Int} (h2 : okT z = false) : fitsB (.text m) (.str z) = false := by
  show (decide ((z.length : Int) ≤ m) && okT z) = false
  rw [h2, Bool.and_false]
end Wp

/-! PwBy0: the bytes of values, plain. -/
namespace Wp
open PySem
/-- so many bytes for numbers up to one -/
def pl (n : Nat) : Nat := if h : n = 0 then 0 else pl (n / 256) + 1
termination_by n
decreasing_by omega
theorem pl_zero : pl 0 = 0 := by unfold pl; rfl
theorem pl_pos {n : Nat} (h : n ≠ 0) : pl n = pl (n / 256) + 1 := by
  rw [pl.eq_def, dif_neg h]
theorem pl_le : ∀ (k n : Nat), n < 256 ^ k → pl n ≤ k
  | 0, n, h => by
    obtain rfl : n = 0 := by omega
    rw [pl_zero]; exact Nat.le_refl _
  | k + 1, n, h => by
    by_cases e : n = 0
    · rw [e, pl_zero]; omega
    · rw [pl_pos e]
      have := pl_le k (n / 256) (by rw [Nat.pow_succ] at h; omega)
      omega
/-- bytes, the least first -/
def les : Nat → Int → List Int
  | 0, _ => []
  | k + 1, n => n % 256 :: les k (n / 256)
theorem les_len : ∀ (k : Nat) (n : Int), (les k n).length = k
  | 0, _ => rfl
  | k + 1, n => congrArg Nat.succ (les_len k _)
theorem les_snoc : ∀ (k : Nat) (n : Int), les (k + 1) n = les k n ++ [n / 256 ^ k % 256]
  | 0, n => by
    show [n % 256] = [n / 256 ^ 0 % 256]
    rw [Int.pow_zero, Int.ediv_one]
  | k + 1, n => by
    show n % 256 :: les (k + 1) (n / 256) = n % 256 :: (les k (n / 256) ++ [n / 256 ^ (k + 1) % 256])
    rw [les_snoc k]
    rw [Int.pow_succ, Int.mul_comm]
    first
      | rw [Int.ediv_ediv_of_nonneg (by decide)]
      | rw [Int.ediv_ediv_eq_ediv_mul _ (by decide)]
mutual
def bytesB : Sh → D → List Int
  | .nothing, _ => []
  | .number lo hi, t => match t with
    | .int i => (les (pl (hi - lo).toNat) (i - lo)).reverse
    | _ => []
  | .text _, t => match t with
    | .str z => (z.length : Int) :: z.cps.toList.map fun (c : Nat) => (c : Int)
    | _ => []
  | .list s _, t => match t with
    | .lst ds => (ds.length : Int) :: (ds.map (bytesB s)).flatten
    | _ => []
  | .pair a b, t => match t with
    | .tup [x, y] => bytesB a x ++ bytesB b y
    | _ => []
  | .choice ss, t => match t with
    | .tup [_, .int i, x] => i :: bytesN ss i.toNat x
    | _ => []
def bytesN : List Sh → Nat → D → List Int
  | [], _, _ => []
  | s :: _, 0, t => bytesB s t
  | _ :: ss, n + 1, t => bytesN ss n t
end
theorem bytesN_get : ∀ (ss : List Sh) (n : Nat) (t : D) (s : Sh), ss[n]? = some s → bytesN ss n t = bytesB s t
  | [], n, t, s, h => by rw [List.getElem?_nil] at h; cases h
  | s :: ss, 0, t, s', h => by rw [List.getElem?_cons_zero] at h; cases h; unfold bytesN; rfl
  | s :: ss, n + 1, t, s', h => by rw [List.getElem?_cons_succ] at h; unfold bytesN; exact bytesN_get ss n t s' h
end Wp

/-! PwOkb: shapes whose bounds are as they should be. -/
namespace Wp
open PySem
mutual
/-- bounds as they should be -/
def Sh.okb : Sh → Bool
  | .nothing => true
  | .number lo hi => decide (-1000000000000000000 < lo) && (decide (lo ≤ hi) && decide (hi < 1000000000000000000))
  | .text m => decide (0 ≤ m) && decide (m ≤ 250)
  | .list s m => (decide (0 ≤ m) && decide (m ≤ 250)) && s.okb
  | .pair a b => a.okb && b.okb
  | .choice ss => (decide (1 ≤ ss.length) && decide (ss.length ≤ 9)) && Sh.okbs ss
def Sh.okbs : List Sh → Bool
  | [] => true
  | s :: ss => s.okb && Sh.okbs ss
end
end Wp

/-! CsW: one shape within another one, plain: an order; what fits the one fits the other, with the same bytes. -/
namespace Wp
open PySem
mutual
def withinB : Sh → Sh → Bool
  | .nothing, r => match r with
    | .nothing => true
    | _ => false
  | .number lo hi, r => match r with
    | .number lo' hi' => decide (lo = lo') && (decide (pl (hi - lo).toNat = pl (hi' - lo').toNat) && decide (hi ≤ hi'))
    | _ => false
  | .text m, r => match r with
    | .text m' => decide (m ≤ m')
    | _ => false
  | .list s m, r => match r with
    | .list s' m' => decide (m ≤ m') && (decide (m = 0) || withinB s s')
    | _ => false
  | .pair a b, r => match r with
    | .pair a' b' => withinB a a' && withinB b b'
    | _ => false
  | .choice ss, r => match r with
    | .choice rr => decide (ss.length ≤ rr.length) && withinAll ss rr
    | _ => false
def withinAll : List Sh → List Sh → Bool
  | [], _ => true
  | s :: ss, rr => match rr with
    | r :: rr => withinB s r && withinAll ss rr
    | [] => true
end
theorem wi_number {lo hi lo' hi' : Int} : withinB (.number lo hi) (.number lo' hi') = true ↔ lo = lo' ∧ pl (hi - lo).toNat = pl (hi' - lo').toNat ∧ hi ≤ hi' := by
  have e : withinB (.number lo hi) (.number lo' hi') = (decide (lo = lo') && (decide (pl (hi - lo).toNat = pl (hi' - lo').toNat) && decide (hi ≤ hi'))) := by unfold withinB; rfl
  rw [e, Bool.and_eq_true, Bool.and_eq_true, decide_eq_true_eq, decide_eq_true_eq, decide_eq_true_eq]
theorem wi_text {m m' : Int} : withinB (.text m) (.text m') = true ↔ m ≤ m' := by
  have e : withinB (.text m) (.text m') = decide (m ≤ m') := by unfold withinB; rfl
  rw [e, decide_eq_true_eq]
theorem wi_list {s s' : Sh} {m m' : Int} : withinB (.list s m) (.list s' m') = true ↔ m ≤ m' ∧ (m = 0 ∨ withinB s s' = true) := by
  have e : withinB (.list s m) (.list s' m') = (decide (m ≤ m') && (decide (m = 0) || withinB s s')) := by rw [withinB]
  rw [e, Bool.and_eq_true, Bool.or_eq_true, decide_eq_true_eq, decide_eq_true_eq]
theorem wi_pair {a b a' b' : Sh} : withinB (.pair a b) (.pair a' b') = true ↔ withinB a a' = true ∧ withinB b b' = true := by
  have e : withinB (.pair a b) (.pair a' b') = (withinB a a' && withinB b b') := by rw [withinB]
  rw [e, Bool.and_eq_true]
theorem wi_choice {ss rr : List Sh} : withinB (.choice ss) (.choice rr) = true ↔ ss.length ≤ rr.length ∧ withinAll ss rr = true := by
  have e : withinB (.choice ss) (.choice rr) = (decide (ss.length ≤ rr.length) && withinAll ss rr) := by rw [withinB]
  rw [e, Bool.and_eq_true, decide_eq_true_eq]
theorem wi_cons {s r : Sh} {ss rr : List Sh} : withinAll (s :: ss) (r :: rr) = true ↔ withinB s r = true ∧ withinAll ss rr = true := by
  have e : withinAll (s :: ss) (r :: rr) = (withinB s r && withinAll ss rr) := by rw [withinAll]
  rw [e, Bool.and_eq_true]
mutual
theorem within_refl : ∀ s : Sh, withinB s s = true
  | .nothing => by unfold withinB; rfl
  | .number lo hi => wi_number.mpr ⟨rfl, rfl, Int.le_refl _⟩
  | .text m => wi_text.mpr (Int.le_refl _)
  | .list s m => wi_list.mpr ⟨Int.le_refl _, .inr (within_refl s)⟩
  | .pair a b => wi_pair.mpr ⟨within_refl a, within_refl b⟩
  | .choice ss => wi_choice.mpr ⟨Nat.le_refl _, withins_refl ss⟩
theorem withins_refl : ∀ ss : List Sh, withinAll ss ss = true
  | [] => by unfold withinAll; rfl
  | s :: ss => wi_cons.mpr ⟨within_refl s, withins_refl ss⟩
end
mutual
theorem within_trans : ∀ {s r t : Sh}, s.okb = true → withinB s r = true → withinB r t = true → withinB s t = true
  | .nothing, r, t, ok, h1, h2 => by
    cases r <;> first | (unfold withinB at h1; cases h1; done) | exact h2
  | .number lo hi, r, t, ok, h1, h2 => by
    cases r <;> first | (unfold withinB at h1; cases h1; done) | skip
    cases t <;> first | (unfold withinB at h2; cases h2; done) | skip
    obtain ⟨a1, a2, a3⟩ := wi_number.mp h1
    obtain ⟨b1, b2, b3⟩ := wi_number.mp h2
    exact wi_number.mpr ⟨a1.trans b1, a2.trans b2, Int.le_trans a3 b3⟩
  | .text m, r, t, ok, h1, h2 => by
    cases r <;> first | (unfold withinB at h1; cases h1; done) | skip
    cases t <;> first | (unfold withinB at h2; cases h2; done) | skip
    exact wi_text.mpr (Int.le_trans (wi_text.mp h1) (wi_text.mp h2))
  | .list s m, r, t, ok, h1, h2 => by
    cases r <;> first | (unfold withinB at h1; cases h1; done) | skip
    cases t <;> first | (unfold withinB at h2; cases h2; done) | skip
    unfold Sh.okb at ok
    rw [Bool.and_eq_true, Bool.and_eq_true, decide_eq_true_eq, decide_eq_true_eq] at ok
    obtain ⟨a1, a2⟩ := wi_list.mp h1
    obtain ⟨b1, b2⟩ := wi_list.mp h2
    refine wi_list.mpr ⟨Int.le_trans a1 b1, ?_⟩
    by_cases z : m = 0
    · exact .inl z
    · rcases a2 with a2 | a2
      · exact .inl a2
      · rcases b2 with b2 | b2
        · exact .inl (by omega)
        · exact .inr (within_trans ok.2 a2 b2)
  | .pair a b, r, t, ok, h1, h2 => by
    cases r <;> first | (unfold withinB at h1; cases h1; done) | skip
    cases t <;> first | (unfold withinB at h2; cases h2; done) | skip
    unfold Sh.okb at ok
    rw [Bool.and_eq_true] at ok
    obtain ⟨a1, a2⟩ := wi_pair.mp h1
    obtain ⟨b1, b2⟩ := wi_pair.mp h2
    exact wi_pair.mpr ⟨within_trans ok.1 a1 b1, within_trans ok.2 a2 b2⟩
  | .choice ss, r, t, ok, h1, h2 => by
    cases r <;> first | (unfold withinB at h1; cases h1; done) | skip
    cases t <;> first | (unfold withinB at h2; cases h2; done) | skip
    unfold Sh.okb at ok
    rw [Bool.and_eq_true] at ok
    obtain ⟨a1, a2⟩ := wi_choice.mp h1
    obtain ⟨b1, b2⟩ := wi_choice.mp h2
    exact wi_choice.mpr ⟨Nat.le_trans a1 b1, withins_trans ok.2 a1 a2 b2⟩
theorem withins_trans : ∀ {ss rr tt : List Sh}, Sh.okbs ss = true → ss.length ≤ rr.length → withinAll ss rr = true → withinAll rr tt = true → withinAll ss tt = true
  | [], _, _, _, _, _, _ => by unfold withinAll; rfl
  | s :: ss, [], _, _, hl, _, _ => by cases hl
  | s :: ss, r :: rr, [], _, _, _, _ => by unfold withinAll; rfl
  | s :: ss, r :: rr, t :: tt, ok, hl, h1, h2 => by
    unfold Sh.okbs at ok
    rw [Bool.and_eq_true] at ok
    obtain ⟨a1, a2⟩ := wi_cons.mp h1
    obtain ⟨b1, b2⟩ := wi_cons.mp h2
    exact wi_cons.mpr ⟨within_trans ok.1 a1 b1, withins_trans ok.2 (Nat.le_of_succ_le_succ hl) a2 b2⟩
end
mutual
/-- what fits the one fits the other, with the same bytes -/
theorem within_fits : ∀ {s r : Sh} {v : D}, withinB s r = true → fitsB s v = true → fitsB r v = true ∧ bytesB r v = bytesB s v
  | .nothing, r, v, h, f => by
    cases r <;> first | (unfold withinB at h; cases h; done) | exact ⟨f, rfl⟩
  | .number lo hi, r, v, h, f => by
    cases r <;> first | (unfold withinB at h; cases h; done) | skip
    rename_i lo' hi'
    obtain ⟨rfl, a2, a3⟩ := wi_number.mp h
    cases v <;> first | (unfold fitsB at f; cases f; done) | skip
    rename_i i
    have f : (decide (lo ≤ i) && decide (i ≤ hi)) = true := by unfold fitsB at f; exact f
    rw [Bool.and_eq_true, decide_eq_true_eq, decide_eq_true_eq] at f
    refine ⟨?_, ?_⟩
    · show (decide (lo ≤ i) && decide (i ≤ hi')) = true
      rw [decide_eq_true f.1, decide_eq_true (by omega)]; rfl
    · show (les (pl (hi' - lo).toNat) (i - lo)).reverse = (les (pl (hi - lo).toNat) (i - lo)).reverse
      rw [a2]
  | .text m, r, v, h, f => by
    cases r <;> first | (unfold withinB at h; cases h; done) | skip
    rename_i m'
    have a1 := wi_text.mp h
    refine ⟨?_, by unfold bytesB; rfl⟩
    unfold fitsB at f ⊢
    cases v <;> first | (unfold textB at f; cases f; done) | skip
    unfold textB at f ⊢
    rw [Bool.and_eq_true, decide_eq_true_eq] at f ⊢
    exact ⟨by omega, f.2⟩
  | .list s m, r, v, h, f => by
    cases r <;> first | (unfold withinB at h; cases h; done) | skip
    rename_i s' m'
    obtain ⟨a1, a2⟩ := wi_list.mp h
    unfold fitsB at f
    cases e : itemsB v with
    | none => rw [e] at f; cases f
    | some ds =>
      rw [e] at f
      have f : (decide ((ds.length : Int) ≤ m) && ds.all (fitsB s)) = true := f
      rw [Bool.and_eq_true, decide_eq_true_eq] at f
      have hall : ∀ x ∈ ds, fitsB s' x = true ∧ bytesB s' x = bytesB s x := by
        intro x hx
        rcases a2 with rfl | a2
        · cases ds with
          | nil => cases hx
          | cons y ds => exact absurd f.1 (by rw [List.length_cons]; omega)
        · exact within_fits a2 (List.all_eq_true.mp f.2 x hx)
      refine ⟨?_, ?_⟩
      · unfold fitsB
        rw [e]
        show (decide ((ds.length : Int) ≤ m') && ds.all (fitsB s')) = true
        rw [decide_eq_true (by omega), List.all_eq_true.mpr fun x hx => (hall x hx).1]; rfl
      · unfold bytesB
        cases v <;> first | rfl | skip
        cases e
        show ((_ : Nat) : Int) :: (List.map (bytesB s') _).flatten = ((_ : Nat) : Int) :: (List.map (bytesB s) _).flatten
        rw [List.map_congr_left fun x hx => (hall x hx).2]
  | .pair a b, r, v, h, f => by
    cases r <;> first | (unfold withinB at h; cases h; done) | skip
    rename_i a' b'
    obtain ⟨a1, a2⟩ := wi_pair.mp h
    unfold fitsB at f
    split at f
    · rename_i x y
      rw [Bool.and_eq_true] at f
      obtain ⟨c1, c2⟩ := within_fits a1 f.1
      obtain ⟨d1, d2⟩ := within_fits a2 f.2
      refine ⟨?_, ?_⟩
      · unfold fitsB
        show (fitsB a' x && fitsB b' y) = true
        rw [c1, d1]; rfl
      · unfold bytesB
        show bytesB a' x ++ bytesB b' y = bytesB a x ++ bytesB b y
        rw [c2, d2]
    · cases f
  | .choice ss, r, v, h, f => by
    cases r <;> first | (unfold withinB at h; cases h; done) | skip
    rename_i rr
    obtain ⟨a1, a2⟩ := wi_choice.mp h
    unfold fitsB at f
    split at f
    · rename_i z i x
      rw [Bool.and_eq_true, Bool.and_eq_true] at f
      obtain ⟨c1, c2⟩ := withins_fits a1 a2 f.2.2
      refine ⟨?_, ?_⟩
      · unfold fitsB
        show (decide (z = "of") && (decide (0 ≤ i) && fitsN rr i.toNat x)) = true
        rw [f.1, f.2.1, c1]; rfl
      · unfold bytesB
        show i :: bytesN rr i.toNat x = i :: bytesN ss i.toNat x
        rw [c2]
    · cases f
theorem withins_fits : ∀ {ss rr : List Sh} {n : Nat} {v : D}, ss.length ≤ rr.length → withinAll ss rr = true → fitsN ss n v = true → fitsN rr n v = true ∧ bytesN rr n v = bytesN ss n v
  | [], _, n, v, _, _, f => by unfold fitsN at f; cases f
  | s :: ss, [], n, v, hl, _, _ => by cases hl
  | s :: ss, r :: rr, 0, v, hl, h, f => by
    obtain ⟨a1, a2⟩ := wi_cons.mp h
    unfold fitsN at f
    obtain ⟨c1, c2⟩ := within_fits a1 f
    exact ⟨by unfold fitsN; exact c1, by unfold bytesN; exact c2⟩
  | s :: ss, r :: rr, n + 1, v, hl, h, f => by
    obtain ⟨a1, a2⟩ := wi_cons.mp h
    unfold fitsN at f
    obtain ⟨c1, c2⟩ := withins_fits (Nat.le_of_succ_le_succ hl) a2 f
    exact ⟨by unfold fitsN; exact c1, by unfold bytesN; exact c2⟩
end
end Wp

/-! PwSm: plain values of fitting sizes, set beside themselves. -/
namespace Wp
open PySem
mutual
/-- values: of fitting sizes, plain -/
def smV : D → Bool
  | .non => true
  | .bl _ => true
  | .int i => decide (i.natAbs < 10000000000000000000000000000000000000000)
  | .str z => decide (z.length ≤ 1000) && PyData.strOk z
  | .tup ds => decide (ds.length ≤ 1000) && smVs ds
  | .lst ds => decide (ds.length ≤ 1000) && smVs ds
  | _ => false
def smVs : List D → Bool
  | [] => true
  | d :: ds => smV d && smVs ds
end
theorem smVs_of : ∀ {ds : List D}, smVs ds = true → ∀ d ∈ ds, smV d = true
  | [], _, d, hd => by cases hd
  | x :: ds, h, d, hd => by
    unfold smVs at h
    rw [Bool.and_eq_true] at h
    cases hd with
    | head => exact h.1
    | tail _ hd => exact smVs_of h.2 d hd
theorem smVs_iff : ∀ {ds : List D}, (∀ d ∈ ds, smV d = true) → smVs ds = true
  | [], _ => rfl
  | x :: ds, h => by
    unfold smVs
    rw [Bool.and_eq_true]
    exact ⟨h x (List.mem_cons_self ..), smVs_iff fun d hd => h d (List.mem_cons_of_mem _ hd)⟩
theorem smV_tp {ds : List D} (h : ds.length ≤ 1000) (h2 : ∀ d ∈ ds, smV d = true) : smV (.tup ds) = true := by
  unfold smV
  rw [Bool.and_eq_true]
  exact ⟨decide_eq_true h, smVs_iff h2⟩
theorem smV_ls {ds : List D} (h : ds.length ≤ 1000) (h2 : ∀ d ∈ ds, smV d = true) : smV (.lst ds) = true := by
  unfold smV
  rw [Bool.and_eq_true]
  exact ⟨decide_eq_true h, smVs_iff h2⟩
theorem smV_tupH {ds : List D} (h : smV (.tup ds) = true) : ds.length ≤ 1000 ∧ ∀ d ∈ ds, smV d = true := by
  unfold smV at h
  rw [Bool.and_eq_true] at h
  exact ⟨of_decide_eq_true h.1, smVs_of h.2⟩
theorem smV_lstH {ds : List D} (h : smV (.lst ds) = true) : ds.length ≤ 1000 ∧ ∀ d ∈ ds, smV d = true := by
  unfold smV at h
  rw [Bool.and_eq_true] at h
  exact ⟨of_decide_eq_true h.1, smVs_of h.2⟩
mutual
theorem smV_ok : ∀ {d : D}, smV d = true → okD d = true
  | .non, _ => rfl
  | .bl _, _ => rfl
  | .int _, _ => rfl
  | .str z, h => by
    have h : (decide (z.length ≤ 1000) && PyData.strOk z) = true := h
    rw [Bool.and_eq_true] at h
    exact decide_eq_true (Nat.le_trans (of_decide_eq_true h.1) (by decide))
  | .tup ds, h => by
    unfold smV at h
    rw [Bool.and_eq_true] at h
    unfold okD
    rw [decide_eq_true (Nat.le_trans (of_decide_eq_true h.1) (by decide)), smVs_ok h.2]; rfl
  | .lst ds, h => by
    unfold smV at h
    rw [Bool.and_eq_true] at h
    unfold okD
    rw [decide_eq_true (Nat.le_trans (of_decide_eq_true h.1) (by decide)), smVs_ok h.2]; rfl
theorem smVs_ok : ∀ {ds : List D}, smVs ds = true → okDs ds = true
  | [], _ => rfl
  | d :: ds, h => by
    unfold smVs at h
    rw [Bool.and_eq_true] at h
    unfold okDs
    rw [smV_ok h.1, smVs_ok h.2]; rfl
end
mutual
/-- how deep -/
def dep : D → Nat
  | .tup ds => deps ds + 1
  | .lst ds => deps ds + 1
  | _ => 0
def deps : List D → Nat
  | [] => 0
  | d :: ds => max (dep d) (deps ds)
end
theorem deps_le : ∀ {ds : List D} {n : Nat}, (∀ d ∈ ds, dep d ≤ n) → deps ds ≤ n
  | [], n, _ => Nat.zero_le _
  | d :: ds, n, h => by
    unfold deps
    have := h d (List.mem_cons_self ..)
    have := deps_le (ds := ds) fun x hx => h x (List.mem_cons_of_mem _ hx)
    omega
theorem deps_mem : ∀ {ds : List D}, ∀ d ∈ ds, dep d ≤ deps ds
  | x :: ds, d, hd => by
    unfold deps
    rcases List.mem_cons.mp hd with rfl | hd
    · omega
    · have := deps_mem d hd
      omega
mutual
theorem toPy_sm : ∀ {v : D}, smV v = true → ∃ p, toPy v = some p ∧ p.canLay0 = true ∧ p.depth ≤ dep v ∧ PyData.eqv p p = true
  | .non, _ => ⟨.none, rfl, by decide, by decide, by decide⟩
  | .bl b, _ => ⟨.bool b, rfl, by cases b <;> decide, by cases b <;> decide, by cases b <;> decide⟩
  | .int i, _ => ⟨.int i, rfl, rfl, by unfold PyData.depth; exact Nat.zero_le _, by show (i == i) = true; exact beq_self_eq_true i⟩
  | .str z, h => ⟨.str z, rfl, by
      have h : (decide (z.length ≤ 1000) && PyData.strOk z) = true := h
      rw [Bool.and_eq_true] at h
      exact h.2, by unfold PyData.depth; exact Nat.zero_le _, by show (z == z) = true; exact beq_self_eq_true z⟩
  | .tup ds, h => by
    obtain ⟨ps, e, c, d, q⟩ := toPys_sm (smV_tupH h).2
    refine ⟨.tuple ps, by unfold toPy; rw [e]; rfl, by unfold PyData.canLay0; exact c, ?_, by unfold PyData.eqv; exact q⟩
    unfold PyData.depth dep
    omega
  | .lst ds, h => by
    obtain ⟨ps, e, c, d, q⟩ := toPys_sm (smV_lstH h).2
    refine ⟨.list ps, by unfold toPy; rw [e]; rfl, by unfold PyData.canLay0; exact c, ?_, by unfold PyData.eqv; exact q⟩
    unfold PyData.depth dep
    omega
theorem toPys_sm : ∀ {ds : List D}, (∀ d ∈ ds, smV d = true) → ∃ ps, toPys ds = some ps ∧ PyData.canLayAll0 ps = true ∧ PyData.depthAll ps ≤ deps ds ∧ PyData.eqvAll ps ps = true
  | [], _ => ⟨[], rfl, by decide, by decide, by decide⟩
  | d :: ds, h => by
    obtain ⟨p, e, c, dd, q⟩ := toPy_sm (h d (List.mem_cons_self ..))
    obtain ⟨ps, e2, c2, dd2, q2⟩ := toPys_sm (ds := ds) fun x hx => h x (List.mem_cons_of_mem _ hx)
    refine ⟨p :: ps, by unfold toPys; rw [e, e2], by unfold PyData.canLayAll0; rw [c, c2]; rfl, ?_, by unfold PyData.eqvAll; rw [q, q2]; rfl⟩
    unfold PyData.depthAll deps
    omega
end
theorem toPy1_sm {M : Mem} {v : D} (h : smV v = true) : toPy1 M v = toPy v := by
  cases v <;> first
    | rfl
    | (unfold smV at h; cases h)
theorem toPys1_sm {M : Mem} : ∀ {ds : List D}, (∀ d ∈ ds, smV d = true) → toPys1 M ds = toPys ds
  | [], _ => rfl
  | d :: ds, h => by
    unfold toPys1 toPys
    rw [toPy1_sm (h d (List.mem_cons_self ..)), toPys1_sm fun x hx => h x (List.mem_cons_of_mem _ hx)]
theorem toPyM_sm {M : Mem} {v : D} (h : smV v = true) : toPyM M v = toPy v := by
  cases v with
  | tup ds =>
    show (toPys1 M ds).map PyData.tuple = (toPys ds).map PyData.tuple
    rw [toPys1_sm (smV_tupH h).2]
  | _ => exact toPy1_sm (M := M) h
theorem eqP_self {v : D} (h : smV v = true) (hd : dep v ≤ 60) {neg : Bool} {M : Mem} {Q : QK} (q : Q (.bl (!neg)) M) : eqP neg v v M Q := by
  obtain ⟨p, e, c, d, r⟩ := toPy_sm h
  have e2 : toPyM M v = some p := by rw [toPyM_sm h]; exact e
  unfold eqP
  rw [e2]
  refine ⟨?_, ?_, ?_⟩
  · show (p.canLay0 && decide (p.depth ≤ 64)) = true
    rw [c, decide_eq_true (by omega)]; rfl
  · show (p.canLay0 && decide (p.depth ≤ 64)) = true
    rw [c, decide_eq_true (by omega)]; rfl
  · rw [r]
    cases neg <;> exact q
theorem eq_self {v : D} (h : smV v = true) (hd : dep v ≤ 60) {neg : Bool} {M : Mem} {Q : QK} (q : Q (.bl (!neg)) M) : eqW neg v v M Q := by
  cases v
  case non => cases neg <;> exact q
  case bl b =>
    show Q (.bl (if neg then !(decide (b = b)) else decide (b = b))) M
    rw [decide_eq_true rfl]
    cases neg <;> exact q
  case int b =>
    show Q (.bl (if neg then !(decide (b = b)) else decide (b = b))) M
    rw [decide_eq_true rfl]
    cases neg <;> exact q
  case str b =>
    show Q (.bl (if neg then !(decide (b = b)) else decide (b = b))) M
    rw [decide_eq_true rfl]
    cases neg <;> exact q
  case tup ds =>
    show (match eqU (.tup ds) (.tup ds) with
      | true => Q (.bl neg) M
      | false => eqP neg (.tup ds) (.tup ds) M Q)
    rw [show eqU (.tup ds) (.tup ds) = false from by cases ds <;> rfl]
    exact eqP_self h hd q
  case lst ds =>
    show (if ds.length = ds.length then eqP neg (.lst ds) (.lst ds) M Q else Q (.bl neg) M)
    rw [if_pos rfl]
    exact eqP_self h hd q
  all_goals cases h
theorem eqA_self {v : D} (h : smV v = true) : eqA v v = some true ∨ eqA v v = none := by
  cases v
  case non => exact .inl rfl
  case bl b => exact .inl (congrArg some (decide_eq_true rfl))
  case int b => exact .inl (congrArg some (decide_eq_true rfl))
  case str b => exact .inl (congrArg some (decide_eq_true rfl))
  case tup ds => exact .inr rfl
  case lst ds => exact .inr rfl
  all_goals cases h
theorem eqL_self {v : D} (h : smV v = true) (hd : dep v ≤ 60) {neg : Bool} {M : Mem} {Q : QK} (q : Q (.bl (!neg)) M) : eqL neg v v M Q := by
  cases v
  case tup ds =>
    show (match eqU (.tup ds) (.tup ds) with
      | true => Q (.bl neg) M
      | false => eqP neg (.tup ds) (.tup ds) M Q)
    rw [show eqU (.tup ds) (.tup ds) = false from by cases ds <;> rfl]
    exact eqP_self h hd q
  case lst ds =>
    show (if ds.length = ds.length then eqP neg (.lst ds) (.lst ds) M Q else Q (.bl neg) M)
    rw [if_pos rfl]
    exact eqP_self h hd q
  case non => exact eqP_self h hd q
  case bl => exact eqP_self h hd q
  case int => exact eqP_self h hd q
  case str => exact eqP_self h hd q
  all_goals cases h
/-- where a value is set beside itself -/
theorem selfM {v : D} {A : Bool → Prop} {G : Prop} (e : eqA v v = some true ∨ eqA v v = none) (hG : A true → G) (hA : A true) : (match eqA v v with
  | some b => A b
  | none => G) := by
  rcases e with e | e
  · rw [e]; exact hA
  · rw [e]; exact hG hA
end Wp

/-! PwJoin: texts put together of signs. -/
namespace Wp
open PySem
theorem join_cps : ∀ zs : List Str, (Str.join "" zs).cps.toList = (zs.map fun z => z.cps.toList).flatten
  | [] => rfl
  | [x] => by
    show x.cps.toList = x.cps.toList ++ []
    rw [List.append_nil]
  | x :: y :: r => by
    show (x ++ ("" : Str) ++ Str.join "" (y :: r)).cps.toList = _
    rw [app_cps, app_cps, join_cps (y :: r), List.map_cons (l := y :: r), List.flatten_cons]
    show x.cps.toList ++ [] ++ _ = _
    rw [List.append_nil]
theorem tjoin_cps (zs : List Str) : (Txt.join "" zs).cps.toList = (zs.map fun z => z.cps.toList).flatten := by
  rw [show Txt.join "" zs = Str.join "" zs from TL.join_eq "" zs, join_cps]
/-- a text of signs -/
theorem strsOf_str : ∀ zs : List Str, strsOf (zs.map D.str) = some zs
  | [] => rfl
  | z :: zs => by
    rw [List.map_cons]
    unfold strsOf
    rw [strsOf_str zs]
    rfl
def one1 (z : Str) : Prop := z.length = 1 ∧ okT z = true
theorem join_ok : ∀ {zs : List Str}, (∀ z ∈ zs, one1 z) → (zs.map (·.length)).sum = zs.length ∧ ((zs.map fun z => z.cps.toList).flatten).length = zs.length ∧ ((zs.map fun z => z.cps.toList).flatten).all okSign = true
  | [], _ => ⟨rfl, rfl, rfl⟩
  | z :: zs, h => by
    obtain ⟨h1, h2, h3⟩ := join_ok (zs := zs) fun x hx => h x (List.mem_cons_of_mem _ hx)
    obtain ⟨z1, z2⟩ := h z (List.mem_cons_self ..)
    refine ⟨?_, ?_, ?_⟩
    · rw [List.map_cons, List.sum_cons, h1, z1, List.length_cons]; omega
    · rw [List.map_cons, List.flatten_cons, List.length_append, h2, List.length_cons]
      have : z.cps.toList.length = 1 := by rw [Array.length_toList]; exact z1
      omega
    · rw [List.map_cons, List.flatten_cons, List.all_append, h3]
      rw [show z.cps.toList.all okSign = true from z2]; rfl
theorem okT_strOk {z : Str} (h : okT z = true) : PyData.strOk z = true := by
  unfold PyData.strOk
  rw [← Array.all_toList]
  rw [List.all_eq_true]
  intro x hx
  have := List.all_eq_true.mp h x hx
  unfold okSign at this
  rw [Bool.and_eq_true, Bool.and_eq_true] at this
  have := of_decide_eq_true this.1.2
  exact decide_eq_true (by omega)
end Wp

/-! PwRd: values read from bytes, plain. -/
namespace Wp
open PySem
/-- what reading comes to: a value and the place behind it, an end too early, the place of a byte at which nothing goes on -/
inductive Rs where
  | told (t : D) (i : Nat) | short | brk (i : Nat)
def Rs.andThen (r : Rs) (g : D → Nat → Rs) : Rs :=
  match r with
  | .told t j => g t j
  | .short => .short
  | .brk j => .brk j
def inR (lo hi b : Int) : Bool := decide (lo ≤ b) && decide (b ≤ hi)
theorem inR_iff {lo hi b : Int} : inR lo hi b = true ↔ lo ≤ b ∧ b ≤ hi := by
  unfold inR
  rw [Bool.and_eq_true, decide_eq_true_eq, decide_eq_true_eq]
/-- the byte at a place, which must be a good one -/
def byK (bs : List Int) (i : Nat) (gd : Int → Bool) (ok : Int → Rs) : Rs :=
  match bs[i]? with
  | none => .short
  | some b => match gd b with
    | true => ok b
    | false => .brk i
def rdNu (lo span : Int) (bs : List Int) : Nat → Nat → Int → Rs
  | i, 0, f => .told (.int (lo + f)) i
  | i, l + 1, f => byK bs i (fun b => inR 0 255 b && decide ((f * 256 + b) * 256 ^ l ≤ span)) fun b => rdNu lo span bs (i + 1) l (f * 256 + b)
def rdTx (bs : List Int) : Nat → Nat → List Nat → Rs
  | i, 0, acc => .told (.str ⟨acc.toArray⟩) i
  | i, l + 1, acc => byK bs i (fun b => inR 32 126 b && !decide (b = 37)) fun b => rdTx bs (i + 1) l (acc ++ [b.toNat])
def rdIt (f : Nat → Rs) : Nat → Nat → List D → Rs
  | i, 0, acc => .told (.lst acc) i
  | i, l + 1, acc => (f i).andThen fun t j => rdIt f j l (acc ++ [t])
mutual
def rdB : Sh → List Int → Nat → Rs
  | .nothing, _, i => .told .non i
  | .number lo hi, bs, i => rdNu lo (hi - lo) bs i (pl (hi - lo).toNat) 0
  | .text m, bs, i => byK bs i (inR 0 m) fun b => rdTx bs (i + 1) b.toNat []
  | .list s m, bs, i => byK bs i (inR 0 m) fun b => rdIt (fun j => rdB s bs j) (i + 1) b.toNat []
  | .pair a b, bs, i => (rdB a bs i).andThen fun x j => (rdB b bs j).andThen fun y k => .told (.tup [x, y]) k
  | .choice ss, bs, i => byK bs i (inR 0 ((ss.length : Int) - 1)) fun b => (rdBs ss b.toNat bs (i + 1)).andThen fun x j => .told (.tup [.str "of", .int b, x]) j
def rdBs : List Sh → Nat → List Int → Nat → Rs
  | [], _, _, _ => .short
  | s :: _, 0, bs, i => rdB s bs i
  | _ :: ss, n + 1, bs, i => rdBs ss n bs i
end
theorem rdBs_get : ∀ (ss : List Sh) (n : Nat) (bs : List Int) (i : Nat) (s : Sh), ss[n]? = some s → rdBs ss n bs i = rdB s bs i
  | [], n, bs, i, s, h => by rw [List.getElem?_nil] at h; cases h
  | s :: ss, 0, bs, i, s', h => by rw [List.getElem?_cons_zero] at h; cases h; unfold rdBs; rfl
  | s :: ss, n + 1, bs, i, s', h => by
    rw [List.getElem?_cons_succ] at h
    unfold rdBs
    exact rdBs_get ss n bs i s' h
theorem byK_ok {bs : List Int} {i : Nat} {gd : Int → Bool} {b : Int} {ok : Int → Rs} (h : bs[i]? = some b) (hg : gd b = true) : byK bs i gd ok = ok b := by
  unfold byK
  rw [h]
  dsimp only
  rw [hg]
theorem byK_no {bs : List Int} {i : Nat} {gd : Int → Bool} {ok : Int → Rs} (h : bs[i]? = none) : byK bs i gd ok = .short := by
  unfold byK
  rw [h]
theorem byK_bad {bs : List Int} {i : Nat} {gd : Int → Bool} {b : Int} {ok : Int → Rs} (h : bs[i]? = some b) (hg : gd b = false) : byK bs i gd ok = .brk i := by
  unfold byK
  rw [h]
  dsimp only
  rw [hg]
theorem byK_case {bs : List Int} {i : Nat} {gd : Int → Bool} {ok : Int → Rs} {r : Rs} (e : byK bs i gd ok = r) : (bs[i]? = none ∧ r = .short) ∨ ∃ b, bs[i]? = some b ∧ ((gd b = false ∧ r = .brk i) ∨ (gd b = true ∧ ok b = r)) := by
  cases q : bs[i]? with
  | none => rw [byK_no q] at e; exact .inl ⟨rfl, e.symm⟩
  | some b =>
    cases hb : gd b with
    | true => rw [byK_ok q hb] at e; exact .inr ⟨b, rfl, .inr ⟨hb, e⟩⟩
    | false => rw [byK_bad q hb] at e; exact .inr ⟨b, rfl, .inl ⟨hb, e.symm⟩⟩
theorem get_lt {α : Type} {xs : List α} {i : Nat} {x : α} (h : xs[i]? = some x) : i < xs.length := (List.getElem?_eq_some_iff.mp h).1
/-! ### what two lists of bytes have in common -/
/-- how many bytes were looked at -/
def Rs.need : Rs → Nat
  | .told _ j => j
  | .short => 0
  | .brk j => j + 1
/-- a reader: it sees no more than it needs -/
structure Loc (f : List Int → Nat → Rs) : Prop where
  ge : ∀ bs i t j, f bs i = .told t j → i ≤ j
  gb : ∀ bs i j, f bs i = .brk j → i ≤ j
  le : ∀ bs i t j, f bs i = .told t j → j = i ∨ j ≤ bs.length
  lb : ∀ bs i j, f bs i = .brk j → j < bs.length
  at_ : ∀ bs bs' i t j, f bs i = .told t j → (∀ n, i ≤ n → n < j → bs'[n]? = bs[n]?) → f bs' i = .told t j
  ab : ∀ bs bs' i j, f bs i = .brk j → (∀ n, i ≤ n → n ≤ j → bs'[n]? = bs[n]?) → f bs' i = .brk j
  sh : ∀ bs i c, f bs i = .short → f (bs.take c) i = .short
  st : ∀ bs i t j c, f bs i = .told t j → i < j → c < j → f (bs.take c) i = .short
  sb : ∀ bs i j c, f bs i = .brk j → c ≤ j → f (bs.take c) i = .short
theorem get_take {bs : List Int} {c n : Nat} (h : n < c) : (bs.take c)[n]? = bs[n]? := List.getElem?_take_of_lt h
theorem get_take_no {bs : List Int} {c n : Nat} (h : c ≤ n) : (bs.take c)[n]? = none := List.getElem?_eq_none (by rw [List.length_take]; omega)
/-- one byte, then what goes on with it -/
theorem Loc.byte {gd : Int → Bool} {g : Int → List Int → Nat → Rs} (h : ∀ b, gd b = true → Loc (g b)) : Loc fun bs i => byK bs i gd fun b => g b bs (i + 1) := by
  have case_ : ∀ bs i r, (byK bs i gd fun b => g b bs (i + 1)) = r → (bs[i]? = none ∧ r = .short) ∨ ∃ b, bs[i]? = some b ∧ ((gd b = false ∧ r = .brk i) ∨ (Loc (g b) ∧ gd b = true ∧ g b bs (i + 1) = r)) := fun bs i r e => by
    rcases byK_case e with e | ⟨b, q, e | ⟨e1, e2⟩⟩
    · exact .inl e
    · exact .inr ⟨b, q, .inl e⟩
    · exact .inr ⟨b, q, .inr ⟨h b e1, e1, e2⟩⟩
  refine ⟨fun bs i t j e => ?_, fun bs i j e => ?_, fun bs i t j e => ?_, fun bs i j e => ?_, fun bs bs' i t j e hs => ?_, fun bs bs' i j e hs => ?_, fun bs i c e => ?_, fun bs i t j c e h1 h2 => ?_, fun bs i j c e h1 => ?_⟩
  · rcases case_ bs i _ e with ⟨_, e⟩ | ⟨b, q, ⟨_, e⟩ | ⟨hl, hb, e⟩⟩
    · cases e
    · cases e
    · exact Nat.le_of_succ_le (hl.ge _ _ _ _ e)
  · rcases case_ bs i _ e with ⟨_, e⟩ | ⟨b, q, ⟨_, e⟩ | ⟨hl, hb, e⟩⟩
    · cases e
    · cases e; exact Nat.le_refl _
    · exact Nat.le_of_succ_le (hl.gb _ _ _ e)
  · rcases case_ bs i _ e with ⟨_, e⟩ | ⟨b, q, ⟨_, e⟩ | ⟨hl, hb, e⟩⟩
    · cases e
    · cases e
    · rcases hl.le _ _ _ _ e with z | z
      · have := get_lt q; omega
      · exact .inr z
  · rcases case_ bs i _ e with ⟨_, e⟩ | ⟨b, q, ⟨_, e⟩ | ⟨hl, hb, e⟩⟩
    · cases e
    · cases e; exact get_lt q
    · exact hl.lb _ _ _ e
  · rcases case_ bs i _ e with ⟨_, e⟩ | ⟨b, q, ⟨_, e⟩ | ⟨hl, hb, e⟩⟩
    · cases e
    · cases e
    · have := hl.ge _ _ _ _ e
      have q' := (hs i (by omega) (by omega)).trans q
      show (byK bs' i gd fun b => g b bs' (i + 1)) = _
      rw [byK_ok q' hb]
      exact hl.at_ _ _ _ _ _ e fun n h1 h2 => hs n (by omega) h2
  · rcases case_ bs i _ e with ⟨_, e⟩ | ⟨b, q, ⟨hb, e⟩ | ⟨hl, hb, e⟩⟩
    · cases e
    · cases e
      exact byK_bad ((hs i (Nat.le_refl _) (Nat.le_refl _)).trans q) hb
    · have := hl.gb _ _ _ e
      have q' := (hs i (by omega) (by omega)).trans q
      show (byK bs' i gd fun b => g b bs' (i + 1)) = _
      rw [byK_ok q' hb]
      exact hl.ab _ _ _ _ e fun n h1 h2 => hs n (by omega) h2
  · rcases case_ bs i _ e with ⟨q, e⟩ | ⟨b, q, ⟨_, e⟩ | ⟨hl, hb, e⟩⟩
    · refine byK_no ?_
      by_cases hc : i < c
      · rw [get_take hc, q]
      · exact get_take_no (by omega)
    · cases e
    · by_cases hc : i < c
      · show (byK (bs.take c) i gd fun b => g b (bs.take c) (i + 1)) = _
        rw [byK_ok ((get_take hc).trans q) hb]
        exact hl.sh _ _ _ e
      · exact byK_no (get_take_no (by omega))
  · rcases case_ bs i _ e with ⟨q, e⟩ | ⟨b, q, ⟨_, e⟩ | ⟨hl, hb, e⟩⟩
    · cases e
    · cases e
    · by_cases hc : i < c
      · show (byK (bs.take c) i gd fun b => g b (bs.take c) (i + 1)) = _
        rw [byK_ok ((get_take hc).trans q) hb]
        exact hl.st _ _ _ _ _ e (by omega) h2
      · exact byK_no (get_take_no (by omega))
  · rcases case_ bs i _ e with ⟨q, e⟩ | ⟨b, q, ⟨_, e⟩ | ⟨hl, hb, e⟩⟩
    · cases e
    · cases e
      exact byK_no (get_take_no h1)
    · by_cases hc : i < c
      · show (byK (bs.take c) i gd fun b => g b (bs.take c) (i + 1)) = _
        rw [byK_ok ((get_take hc).trans q) hb]
        exact hl.sb _ _ _ _ e h1
      · exact byK_no (get_take_no (by omega))
theorem Loc.told (t : D) : Loc fun _ i => .told t i := by
  refine ⟨fun bs i t j e => ?_, fun bs i j e => ?_, fun bs i t j e => ?_, fun bs i j e => ?_, fun bs bs' i t j e hs => ?_, fun bs bs' i j e hs => ?_, fun bs i c e => ?_, fun bs i t j c e h1 h2 => ?_, fun bs i j c e h1 => ?_⟩
  all_goals cases e
  · exact Nat.le_refl _
  · exact .inl rfl
  · rfl
  · omega
theorem Loc.short : Loc fun _ _ => .short := by
  refine ⟨fun bs i t j e => ?_, fun bs i j e => ?_, fun bs i t j e => ?_, fun bs i j e => ?_, fun bs bs' i t j e hs => ?_, fun bs bs' i j e hs => ?_, fun bs i c e => ?_, fun bs i t j c e h1 h2 => ?_, fun bs i j c e h1 => ?_⟩
  all_goals cases e
  rfl
/-- one reader behind the other -/
theorem Loc.bind {f : List Int → Nat → Rs} {g : D → List Int → Nat → Rs} (hf : Loc f) (hg : ∀ t, Loc (g t)) : Loc fun bs i => (f bs i).andThen fun t j => g t bs j := by
  have case_ : ∀ bs i r, ((f bs i).andThen fun t j => g t bs j) = r → (f bs i = .short ∧ r = .short) ∨ (∃ j, f bs i = .brk j ∧ r = .brk j) ∨ ∃ t j, f bs i = .told t j ∧ g t bs j = r := fun bs i r e => by
    cases q : f bs i with
    | short => rw [q] at e; exact .inl ⟨rfl, e.symm⟩
    | brk j => rw [q] at e; exact .inr (.inl ⟨j, rfl, e.symm⟩)
    | told t j => rw [q] at e; exact .inr (.inr ⟨t, j, rfl, e⟩)
  have cut : ∀ {bs : List Int} {i c : Nat} {t : D} {j : Nat}, f bs i = .told t j → f (bs.take c) i = .short ∧ c < j ∧ i < j ∨ (f (bs.take c) i = .told t j ∧ (j ≤ c ∨ j = i)) := fun {bs i c t j} q => by
    have := hf.ge _ _ _ _ q
    by_cases hc : c < j ∧ i < j
    · exact .inl ⟨hf.st _ _ _ _ _ q hc.2 hc.1, hc⟩
    · exact .inr ⟨hf.at_ bs _ i _ _ q fun n h1 h2 => get_take (by omega), by omega⟩
  have S : ∀ {bs : List Int} {i : Nat}, f bs i = .short → ((f bs i).andThen fun t j => g t bs j) = .short := fun {bs i} e => by rw [e]; rfl
  have B : ∀ {bs : List Int} {i j : Nat}, f bs i = .brk j → ((f bs i).andThen fun t j => g t bs j) = .brk j := fun {bs i j} e => by rw [e]; rfl
  have T : ∀ {bs : List Int} {i : Nat} {t : D} {j : Nat}, f bs i = .told t j → ((f bs i).andThen fun t j => g t bs j) = g t bs j := fun {bs i t j} e => by rw [e]; rfl
  refine ⟨fun bs i t j e => ?_, fun bs i j e => ?_, fun bs i t j e => ?_, fun bs i j e => ?_, fun bs bs' i t j e hs => ?_, fun bs bs' i j e hs => ?_, fun bs i c e => ?_, fun bs i t j c e h1 h2 => ?_, fun bs i j c e h1 => ?_⟩
  all_goals rcases case_ _ _ _ e with ⟨q, e⟩ | ⟨j', q, e⟩ | ⟨t', j', q, e⟩
  all_goals first
    | (cases e; done)
    | skip
  · exact Nat.le_trans (hf.ge _ _ _ _ q) ((hg _).ge _ _ _ _ e)
  · cases e; exact hf.gb _ _ _ q
  · exact Nat.le_trans (hf.ge _ _ _ _ q) ((hg _).gb _ _ _ e)
  · rcases (hg _).le _ _ _ _ e with z | z
    · rw [z]; exact hf.le _ _ _ _ q
    · exact .inr z
  · cases e; exact hf.lb _ _ _ q
  · exact (hg _).lb _ _ _ e
  · have := (hg _).ge _ _ _ _ e
    have := hf.ge _ _ _ _ q
    refine (T (hf.at_ bs bs' i _ _ q fun n h1 h2 => hs n h1 (by omega))).trans ?_
    exact (hg _).at_ _ _ _ _ _ e fun n h1 h2 => hs n (by omega) h2
  · cases e
    exact B (hf.ab bs bs' i _ q hs)
  · have := (hg _).gb _ _ _ e
    have := hf.ge _ _ _ _ q
    refine (T (hf.at_ bs bs' i _ _ q fun n h1 h2 => hs n h1 (by omega))).trans ?_
    exact (hg _).ab _ _ _ _ e fun n h1 h2 => hs n (by omega) h2
  · exact S (hf.sh _ _ _ q)
  · rcases cut (c := c) q with ⟨z, _⟩ | ⟨z, _⟩
    · exact S z
    · exact (T z).trans ((hg _).sh _ _ _ e)
  · rcases cut (c := c) q with ⟨z, _⟩ | ⟨z, hz⟩
    · exact S z
    · have := (hg _).ge _ _ _ _ e
      have := hf.ge _ _ _ _ q
      exact (T z).trans ((hg _).st _ _ _ _ _ e (by omega) h2)
  · cases e
    exact S (hf.sb _ _ _ _ q h1)
  · rcases cut (c := c) q with ⟨z, _⟩ | ⟨z, hz⟩
    · exact S z
    · exact (T z).trans ((hg _).sb _ _ _ _ e h1)
theorem loc_nu (lo span : Int) : ∀ (l : Nat) (f : Int), Loc fun bs i => rdNu lo span bs i l f
  | 0, f => Loc.told _
  | l + 1, f => Loc.byte (g := fun b bs i => rdNu lo span bs i l (f * 256 + b)) fun b _ => loc_nu lo span l _
theorem loc_tx : ∀ (l : Nat) (acc : List Nat), Loc fun bs i => rdTx bs i l acc
  | 0, f => Loc.told _
  | l + 1, acc => Loc.byte (g := fun b bs i => rdTx bs i l (acc ++ [b.toNat])) fun b _ => loc_tx l _
theorem loc_it {f : List Int → Nat → Rs} (h : Loc f) : ∀ (l : Nat) (acc : List D), Loc fun bs i => rdIt (f bs) i l acc
  | 0, acc => Loc.told _
  | l + 1, acc => Loc.bind (g := fun t bs j => rdIt (f bs) j l (acc ++ [t])) h fun t => loc_it h l _
mutual
theorem loc_rd : ∀ s : Sh, Loc (rdB s)
  | .nothing => Loc.told _
  | .number lo hi => loc_nu lo (hi - lo) _ _
  | .text m => Loc.byte (g := fun b bs i => rdTx bs i b.toNat []) fun b _ => loc_tx _ _
  | .list s m => Loc.byte (g := fun b bs i => rdIt (fun j => rdB s bs j) i b.toNat []) fun b _ => loc_it (loc_rd s) _ _
  | .pair a b => Loc.bind (g := fun x bs j => (rdB b bs j).andThen fun y k => .told (.tup [x, y]) k) (loc_rd a) fun x => Loc.bind (g := fun y _ k => .told (.tup [x, y]) k) (loc_rd b) fun y => Loc.told _
  | .choice ss => Loc.byte (g := fun b bs i => (rdBs ss b.toNat bs i).andThen fun x j => .told (.tup [.str "of", .int b, x]) j) fun b _ => Loc.bind (f := fun bs i => rdBs ss b.toNat bs i) (g := fun x _ j => .told (.tup [.str "of", .int b, x]) j) (loc_rds ss _) fun x => Loc.told _
theorem loc_rds : ∀ (ss : List Sh) (n : Nat), Loc fun bs i => rdBs ss n bs i
  | [], n => Loc.short
  | s :: ss, 0 => loc_rd s
  | s :: ss, n + 1 => loc_rds ss n
end
end Wp

/-! PwRd2: what is read of good bytes, and what bytes a value read has; plain. -/
namespace Wp
open PySem
theorem drop_cons {bs : List Int} {i : Nat} {b : Int} {r : List Int} (h : bs.drop i = b :: r) : bs[i]? = some b ∧ bs.drop (i + 1) = r := by
  have e : (bs.drop i)[0]? = some b := by rw [h]; rfl
  rw [List.getElem?_drop] at e
  refine ⟨e, ?_⟩
  have e2 : (bs.drop i).drop 1 = r := by rw [h]; rfl
  rw [List.drop_drop] at e2
  exact e2
theorem drop_at {bs : List Int} {i : Nat} {b : Int} (h : bs[i]? = some b) : bs.drop i = b :: bs.drop (i + 1) := by
  obtain ⟨h1, h2⟩ := List.getElem?_eq_some_iff.mp h
  rw [List.drop_eq_getElem_cons h1, h2]
theorem drop_app {bs xs r : List Int} {i : Nat} (h : bs.drop i = xs ++ r) : bs.drop (i + xs.length) = r := by
  rw [← List.drop_drop, h, List.drop_left]
theorem pl_lt (n : Nat) : n < 256 ^ pl n := by
  induction n using Nat.strongRecOn with
  | ind n ih =>
    by_cases h : n = 0
    · subst h; rw [pl_zero]; decide
    · rw [pl_pos h, Nat.pow_succ]
      have := ih (n / 256) (by omega)
      omega
theorem pl_ltI {s : Int} (h : 0 ≤ s) : s < 256 ^ pl s.toNat := by
  have := pl_lt s.toNat
  have h2 : ((s.toNat : Nat) : Int) < ((256 ^ pl s.toNat : Nat) : Int) := Int.ofNat_lt.mpr this
  rw [Int.natCast_pow, Int.toNat_of_nonneg h] at h2
  exact h2
theorem div_step (n : Int) (j : Nat) : n / 256 ^ (j + 1) * 256 + n / 256 ^ j % 256 = n / 256 ^ j := by
  have : n / 256 ^ (j + 1) = n / 256 ^ j / 256 := by
    rw [Int.pow_succ]
    first
      | rw [Int.ediv_ediv_of_nonneg (Int.le_of_lt (Int.pow_pos (by decide)))]
      | rw [Int.ediv_ediv_eq_ediv_mul _ (Int.le_of_lt (Int.pow_pos (by decide)))]
  rw [this]
  omega
theorem les_rev (l : Nat) (x : Int) : (les (l + 1) x).reverse = (x / 256 ^ l % 256) :: (les l x).reverse := by
  rw [les_snoc, List.reverse_append]; rfl
theorem nu_good (lo span : Int) (bs post : List Int) (x : Int) (h0 : 0 ≤ x) (h1 : x ≤ span) : ∀ (l i : Nat) (f : Int), f = x / 256 ^ l → bs.drop i = (les l x).reverse ++ post → rdNu lo span bs i l f = .told (.int (lo + x)) (i + l)
  | 0, i, f, hf, hb => by
    rw [Int.pow_zero, Int.ediv_one] at hf
    rw [hf]; rfl
  | l + 1, i, f, hf, hb => by
    rw [les_rev] at hb
    obtain ⟨e1, e2⟩ := drop_cons (r := (les l x).reverse ++ post) hb
    have st := div_step x l
    rw [← hf] at st
    have g2 : x / 256 ^ l * 256 ^ l ≤ x := Int.ediv_mul_le _ (Int.ne_of_gt (Int.pow_pos (by decide)))
    have m0 : 0 ≤ x / 256 ^ l % 256 := Int.emod_nonneg _ (by decide)
    have m1 : x / 256 ^ l % 256 < 256 := Int.emod_lt_of_pos _ (by decide)
    unfold rdNu
    rw [byK_ok e1 (by rw [Bool.and_eq_true, inR_iff, decide_eq_true_eq, st]; exact ⟨⟨m0, by omega⟩, by omega⟩), st, nu_good lo span bs post x h0 h1 l (i + 1) _ rfl e2]
    congr 1
    omega
theorem okSign_in {c : Nat} (h : okSign c = true) : inR 32 126 (c : Int) = true ∧ decide ((c : Int) = 37) = false := by
  unfold okSign at h
  rw [Bool.and_eq_true, Bool.and_eq_true] at h
  have a := of_decide_eq_true h.1.1
  have b := of_decide_eq_true h.1.2
  have d := of_decide_eq_true h.2
  exact ⟨inR_iff.mpr ⟨by omega, by omega⟩, decide_eq_false (by omega)⟩
theorem tx_good (bs post : List Int) : ∀ (cs : List Nat) (i : Nat) (acc : List Nat), cs.all okSign = true → bs.drop i = (cs.map fun (c : Nat) => (c : Int)) ++ post → rdTx bs i cs.length acc = .told (.str ⟨(acc ++ cs).toArray⟩) (i + cs.length)
  | [], i, acc, _, _ => by rw [List.append_nil]; rfl
  | c :: cs, i, acc, h, hb => by
    rw [List.all_cons, Bool.and_eq_true] at h
    obtain ⟨e1, e2⟩ := drop_cons (r := (cs.map fun (c : Nat) => (c : Int)) ++ post) hb
    obtain ⟨k1, k2⟩ := okSign_in h.1
    show rdTx bs i (cs.length + 1) acc = _
    unfold rdTx
    rw [byK_ok e1 (by rw [k1, k2]; rfl), tx_good bs post cs (i + 1) _ h.2 e2, Int.toNat_natCast, List.append_assoc, List.length_cons]
    show Rs.told _ _ = .told _ _
    congr 1
    omega
abbrev GoodAt (s : Sh) : Prop := ∀ (t : D) (bs post : List Int) (i : Nat), s.okb = true → smV t = true → fitsB s t = true → bs.drop i = bytesB s t ++ post → rdB s bs i = .told t (i + (bytesB s t).length)
theorem it_good {s : Sh} (ih : GoodAt s) (ok : s.okb = true) (bs post : List Int) : ∀ (ds : List D) (i : Nat) (acc : List D), (∀ d ∈ ds, smV d = true ∧ fitsB s d = true) → bs.drop i = (ds.map (bytesB s)).flatten ++ post → rdIt (fun j => rdB s bs j) i ds.length acc = .told (.lst (acc ++ ds)) (i + ((ds.map (bytesB s)).flatten).length)
  | [], i, acc, _, _ => by rw [List.append_nil]; rfl
  | d :: ds, i, acc, h, hb => by
    rw [List.map_cons, List.flatten_cons, List.append_assoc] at hb
    obtain ⟨h1, h2⟩ := h d (List.mem_cons_self ..)
    have e := ih d bs _ i ok h1 h2 hb
    show rdIt _ i (ds.length + 1) acc = _
    unfold rdIt
    rw [e]
    show rdIt _ (i + (bytesB s d).length) ds.length (acc ++ [d]) = _
    rw [it_good ih ok bs post ds _ _ (fun d hd => h d (List.mem_cons_of_mem _ hd)) (drop_app hb), List.append_assoc, List.map_cons, List.flatten_cons, List.length_append]
    show Rs.told _ _ = .told _ _
    congr 1
    omega
theorem Sh.okbs_at : ∀ {ss : List Sh}, Sh.okbs ss = true → ∀ s ∈ ss, s.okb = true
  | [], _, s, hs => by cases hs
  | x :: ss, h, s, hs => by
    unfold Sh.okbs at h
    rw [Bool.and_eq_true] at h
    rcases List.mem_cons.mp hs with hs | hs
    · rw [hs]; exact h.1
    · exact Sh.okbs_at h.2 s hs
theorem fitsN_at : ∀ (ss : List Sh) (n : Nat) (t : D), fitsN ss n t = true → ∃ s, ss[n]? = some s ∧ fitsB s t = true
  | [], n, t, h => by unfold fitsN at h; cases h
  | s :: ss, 0, t, h => by unfold fitsN at h; exact ⟨s, rfl, h⟩
  | s :: ss, n + 1, t, h => by
    unfold fitsN at h
    rw [List.getElem?_cons_succ]
    exact fitsN_at ss n t h
mutual
theorem rd_good : ∀ s : Sh, GoodAt s
  | .nothing => fun t bs post i ok hs hf hb => by
    cases t
    case non => rfl
    all_goals cases hf
  | .number lo hi => fun t bs post i ok hs hf hb => by
    have ok : (decide (-1000000000000000000 < lo) && (decide (lo ≤ hi) && decide (hi < 1000000000000000000))) = true := ok
    rw [Bool.and_eq_true, Bool.and_eq_true] at ok
    have b2 := of_decide_eq_true ok.2.1
    cases t
    case int n =>
      have hf : (decide (lo ≤ n) && decide (n ≤ hi)) = true := hf
      rw [Bool.and_eq_true] at hf
      have c1 := of_decide_eq_true hf.1
      have c2 := of_decide_eq_true hf.2
      have hlt := pl_ltI (s := hi - lo) (by omega)
      have hl : (bytesB (.number lo hi) (.int n)).length = pl (hi - lo).toNat := by
        show ((les (pl (hi - lo).toNat) (n - lo)).reverse).length = _
        rw [List.length_reverse, les_len]
      rw [hl]
      show rdNu lo (hi - lo) bs i (pl (hi - lo).toNat) 0 = _
      rw [nu_good lo (hi - lo) bs post (n - lo) (by omega) (by omega) _ i 0 (by rw [Int.ediv_eq_zero_of_lt (by omega) (by omega)]) hb, show lo + (n - lo) = n by omega]
    all_goals cases hf
  | .text m => fun t bs post i ok hs hf hb => by
    cases t
    case str z =>
      have hf : (decide ((z.length : Int) ≤ m) && z.cps.toList.all okSign) = true := hf
      rw [Bool.and_eq_true] at hf
      have c1 := of_decide_eq_true hf.1
      obtain ⟨e1, e2⟩ := drop_cons (r := (z.cps.toList.map fun (c : Nat) => (c : Int)) ++ post) hb
      have hl : z.cps.toList.length = z.length := Array.length_toList ..
      show byK bs i (inR 0 m) _ = .told _ (i + ((z.length : Int) :: z.cps.toList.map fun (c : Nat) => (c : Int)).length)
      rw [byK_ok e1 (inR_iff.mpr ⟨by omega, c1⟩), Int.toNat_natCast, ← hl, tx_good bs post _ _ _ hf.2 e2, List.length_cons, List.length_map]
      show Rs.told _ _ = .told _ _
      congr 1
      omega
    all_goals cases hf
  | .list s m => fun t bs post i ok hs hf hb => by
    unfold Sh.okb at ok
    rw [Bool.and_eq_true] at ok
    cases t
    case lst ds =>
      obtain ⟨hdl, hds⟩ := smV_lstH hs
      have hf : (decide ((ds.length : Int) ≤ m) && ds.all (fitsB s)) = true := hf
      rw [Bool.and_eq_true] at hf
      have c1 := of_decide_eq_true hf.1
      have hfi := List.all_eq_true.mp hf.2
      obtain ⟨e1, e2⟩ := drop_cons (r := (ds.map (bytesB s)).flatten ++ post) hb
      show byK bs i (inR 0 m) _ = .told _ (i + ((ds.length : Int) :: (ds.map (bytesB s)).flatten).length)
      rw [byK_ok e1 (inR_iff.mpr ⟨by omega, c1⟩), Int.toNat_natCast, it_good (rd_good s) ok.2 bs post ds _ _ (fun d hd => ⟨hds d hd, hfi d hd⟩) e2, List.length_cons]
      show Rs.told _ _ = .told _ _
      congr 1
      omega
    case scr => cases hs
    all_goals cases hf
  | .pair a b => fun t bs post i ok hs hf hb => by
    unfold Sh.okb at ok
    rw [Bool.and_eq_true] at ok
    cases t
    case tup ds =>
      match ds, hf, hs, hb with
      | [x, y], hf, hs, hb =>
        obtain ⟨hdl, hds⟩ := smV_tupH hs
        have hf : (fitsB a x && fitsB b y) = true := hf
        rw [Bool.and_eq_true] at hf
        have hb : bs.drop i = bytesB a x ++ bytesB b y ++ post := hb
        rw [List.append_assoc] at hb
        have e1 := rd_good a x bs _ i ok.1 (hds x (by simp)) hf.1 hb
        have e2 := rd_good b y bs _ _ ok.2 (hds y (by simp)) hf.2 (drop_app hb)
        show ((rdB a bs i).andThen fun x j => (rdB b bs j).andThen fun y k => .told (.tup [x, y]) k) = .told _ (i + (bytesB a x ++ bytesB b y).length)
        rw [e1]
        dsimp only [Rs.andThen]
        rw [e2]
        dsimp only [Rs.andThen]
        rw [List.length_append, Nat.add_assoc]
      | [], hf, hs, hb => cases hf
      | [x], hf, hs, hb => cases hf
      | x :: y :: z :: w, hf, hs, hb => cases hf
    all_goals cases hf
  | .choice ss => fun t bs post i ok hs hf hb => by
    unfold Sh.okb at ok
    rw [Bool.and_eq_true] at ok
    cases t
    case tup ds =>
      match ds, hf, hs, hb with
      | [.str z, .int n, x], hf, hs, hb =>
        obtain ⟨hdl, hds⟩ := smV_tupH hs
        have hf : (decide (z = "of") && (decide (0 ≤ n) && fitsN ss n.toNat x)) = true := hf
        rw [Bool.and_eq_true, Bool.and_eq_true] at hf
        have z1 := of_decide_eq_true hf.1
        have z2 := of_decide_eq_true hf.2.1
        subst z1
        obtain ⟨s, e, hx⟩ := fitsN_at ss n.toNat x hf.2.2
        have hi := (List.getElem?_eq_some_iff.mp e).1
        have hbe : bytesB (.choice ss) (.tup [.str "of", .int n, x]) = n :: bytesB s x := by
          show n :: bytesN ss n.toNat x = _
          rw [bytesN_get ss _ x s e]
        rw [hbe] at hb ⊢
        obtain ⟨e1, e2⟩ := drop_cons (r := bytesB s x ++ post) hb
        have hsm := List.mem_of_getElem? e
        have e3 := rd_goods ss s hsm x bs post (i + 1) (Sh.okbs_at ok.2 s hsm) (hds x (by simp)) hx e2
        show byK bs i (inR 0 ((ss.length : Int) - 1)) _ = _
        rw [byK_ok e1 (inR_iff.mpr ⟨z2, by omega⟩), rdBs_get ss _ bs _ s e, e3]
        show Rs.told _ _ = .told _ _
        congr 1
        rw [List.length_cons]
        omega
      | [], hf, hs, hb => cases hf
      | [x], hf, hs, hb => cases x <;> cases hf
      | [x, y], hf, hs, hb => cases x <;> cases y <;> cases hf
      | [.non, y, w], hf, hs, hb => cases hf
      | [.bl _, y, w], hf, hs, hb => cases hf
      | [.int _, y, w], hf, hs, hb => cases hf
      | [.tup _, y, w], hf, hs, hb => cases hf
      | [.lst _, y, w], hf, hs, hb => cases hf
      | [.scr _, y, w], hf, hs, hb => cases hf
      | [.emp, y, w], hf, hs, hb => cases hf
      | [.loc _, y, w], hf, hs, hb => cases hf
      | [.str _, .non, w], hf, hs, hb => cases hf
      | [.str _, .bl _, w], hf, hs, hb => cases hf
      | [.str _, .str _, w], hf, hs, hb => cases hf
      | [.str _, .tup _, w], hf, hs, hb => cases hf
      | [.str _, .lst _, w], hf, hs, hb => cases hf
      | [.str _, .scr _, w], hf, hs, hb => cases hf
      | [.str _, .emp, w], hf, hs, hb => cases hf
      | [.str _, .loc _, w], hf, hs, hb => cases hf
      | x :: y :: z :: v :: w, hf, hs, hb => cases x <;> cases y <;> cases hf
    all_goals cases hf
theorem rd_goods : ∀ (ss : List Sh), ∀ s ∈ ss, GoodAt s
  | [], s, h => by cases h
  | x :: ss, s, h => by
    rcases List.mem_cons.mp h with h | h
    · rw [h]; exact rd_good x
    · exact rd_goods ss s h
end
end Wp

/-! PfFits: is_whole, is_text, fits. -/
namespace Wp
open PySem
def signF : D → Option D
  | .str z => if okSign (z.cps.getD 0 0) then none else some (.str z)
  | _ => none
theorem signF_all (z : Str) : ((signs z).filterMap signF).isEmpty = z.cps.toList.all okSign := by
  unfold signs
  induction z.cps.toList with
  | nil => rfl
  | cons c cs ih =>
    rw [List.map_cons, List.filterMap_cons, List.all_cons]
    have : signF (.str ⟨#[c]⟩) = if okSign c then none else some (.str ⟨#[c]⟩) := rfl
    rw [this]
    cases okSign c
    · rfl
    · exact ih
theorem signs_len (z : Str) : (signs z).length = z.length := by
  unfold signs
  rw [List.length_map, Array.length_toList]
  rfl
end Wp
namespace Wp
open PySem
theorem Sh.lev_pos : ∀ s : Sh, 1 ≤ s.lev
  | .nothing => Nat.le_refl _
  | .number _ _ => by unfold Sh.lev; omega
  | .text _ => by unfold Sh.lev; omega
  | .list s m => by unfold Sh.lev; omega
  | .pair a b => by unfold Sh.lev; omega
  | .choice ss => by unfold Sh.lev; omega
theorem Sh.ds_get : ∀ (ss : List Sh) (n : Nat), (Sh.ds ss)[n]? = (ss[n]?).map Sh.d
  | [], n => by unfold Sh.ds; rw [List.getElem?_nil, List.getElem?_nil]; rfl
  | s :: ss, 0 => by unfold Sh.ds; rw [List.getElem?_cons_zero, List.getElem?_cons_zero]; rfl
  | s :: ss, n + 1 => by unfold Sh.ds; rw [List.getElem?_cons_succ, List.getElem?_cons_succ]; exact Sh.ds_get ss n
theorem fitsN_get : ∀ (ss : List Sh) (n : Nat) (t : D), fitsN ss n t = match ss[n]? with
    | some s => fitsB s t
    | none => false
  | [], n, t => by rw [List.getElem?_nil]; unfold fitsN; rfl
  | s :: ss, 0, t => by rw [List.getElem?_cons_zero]; unfold fitsN; rfl
  | s :: ss, n + 1, t => by rw [List.getElem?_cons_succ]; unfold fitsN; exact fitsN_get ss n t
theorem Sh.levs_get : ∀ (ss : List Sh) (n : Nat) (s : Sh), ss[n]? = some s → s.lev ≤ Sh.levs ss
  | [], n, s, h => by rw [List.getElem?_nil] at h; cases h
  | s :: ss, 0, s', h => by rw [List.getElem?_cons_zero] at h; cases h; unfold Sh.levs; omega
  | s :: ss, n + 1, s', h => by
    rw [List.getElem?_cons_succ] at h
    have := Sh.levs_get ss n s' h
    unfold Sh.levs; omega
theorem filter_all {f : D → Bool} : ∀ {ds : List D}, ((ds.filterMap fun d => if f d then none else some d)).isEmpty = ds.all f
  | [] => rfl
  | d :: ds => by
    rw [List.filterMap_cons, List.all_cons]
    cases f d
    · rfl
    · exact filter_all
end Wp
namespace Wp
open PySem
theorem okD_tup {ds : List D} (h : okD (.tup ds) = true) : ∀ d ∈ ds, okD d = true := by
  unfold okD at h
  rw [Bool.and_eq_true] at h
  exact okDs_of h.2
theorem choice_no {ss : List Sh} {ds : List D} (h : ∀ z i x, ds ≠ [.str z, .int i, x]) : fitsB (.choice ss) (.tup ds) = false := by
  unfold fitsB
  split
  · rename_i z i x e
    cases e
    exact absurd rfl (h z i x)
  · rfl
end Wp

/-! PfValue (v25): how deep a shape is. -/
namespace Wp
open PySem
mutual
/-- how deep a shape is -/
def Sh.dep : Sh → Nat
  | .list s _ => s.dep + 1
  | .pair a b => max a.dep b.dep + 1
  | .choice ss => Sh.deps ss + 1
  | _ => 0
def Sh.deps : List Sh → Nat
  | [] => 0
  | s :: ss => max s.dep (Sh.deps ss)
end
theorem Sh.deps_mem : ∀ {ss : List Sh}, ∀ s ∈ ss, s.dep ≤ Sh.deps ss
  | x :: ss, s, hs => by
    unfold Sh.deps
    rcases List.mem_cons.mp hs with rfl | hs
    · omega
    · have := Sh.deps_mem s hs
      omega
end Wp

/-! CsP: what parts two shapes, plain. -/
namespace Wp
open PySem
mutual
/-- how much is in a value -/
def dsz : D → Nat
  | .int _ => 8
  | .str z => z.length + 1
  | .tup ds => dszs ds + 1
  | .lst ds => dszs ds + 1
  | _ => 1
def dszs : List D → Nat
  | [] => 0
  | d :: ds => dsz d + dszs ds
end
theorem dszs_app : ∀ (a b : List D), dszs (a ++ b) = dszs a + dszs b
  | [], b => by rw [List.nil_append]; unfold dszs; omega
  | x :: a, b => by
    rw [List.cons_append]
    show dsz x + dszs (a ++ b) = dsz x + dszs a + dszs b
    rw [dszs_app a b]; omega
theorem dszs_rep (d : D) : ∀ n : Nat, dszs (List.replicate n d) = n * dsz d
  | 0 => by rw [Nat.zero_mul]; rfl
  | n + 1 => by
    rw [List.replicate_succ]
    show dsz d + dszs (List.replicate n d) = _
    rw [dszs_rep d n, Nat.add_mul, Nat.one_mul]; omega
theorem pl_le8 {lo hi : Int} (b1 : -1000000000000000000 < lo) (b3 : hi < 1000000000000000000) : pl (hi - lo).toNat ≤ 8 := pl_le 8 _ (by omega)
mutual
/-- no more bytes than that -/
theorem bytes_dsz : ∀ {s : Sh} {v : D}, s.okb = true → (bytesB s v).length ≤ dsz v
  | .nothing, v, ok => by unfold bytesB; exact Nat.zero_le _
  | .number lo hi, v, ok => by
    unfold Sh.okb at ok
    rw [Bool.and_eq_true, Bool.and_eq_true, decide_eq_true_eq, decide_eq_true_eq, decide_eq_true_eq] at ok
    unfold bytesB
    cases v <;> first | exact Nat.zero_le _ | skip
    show ((les _ _).reverse).length ≤ 8
    rw [List.length_reverse, les_len]
    exact pl_le8 ok.1 ok.2.2
  | .text m, v, ok => by
    unfold bytesB
    cases v <;> first | exact Nat.zero_le _ | skip
    rename_i z
    show ((z.length : Int) :: z.cps.toList.map fun (c : Nat) => (c : Int)).length ≤ z.length + 1
    rw [List.length_cons, List.length_map, Array.length_toList]
    exact Nat.le_refl _
  | .list s m, v, ok => by
    unfold Sh.okb at ok
    rw [Bool.and_eq_true] at ok
    unfold bytesB
    cases v <;> first | exact Nat.zero_le _ | skip
    rename_i ds
    show ((ds.length : Int) :: (ds.map (bytesB s)).flatten).length ≤ dszs ds + 1
    rw [List.length_cons]
    have go : ∀ ds : List D, ((ds.map (bytesB s)).flatten).length ≤ dszs ds := by
      intro ds
      induction ds with
      | nil => exact Nat.zero_le _
      | cons d ds ih =>
        rw [List.map_cons, List.flatten_cons, List.length_append]
        have := bytes_dsz (v := d) ok.2
        show _ ≤ dsz d + dszs ds
        omega
    have := go ds
    omega
  | .pair a b, v, ok => by
    unfold Sh.okb at ok
    rw [Bool.and_eq_true] at ok
    unfold bytesB
    split
    · rename_i x y
      rw [List.length_append]
      have := bytes_dsz (v := x) ok.1
      have := bytes_dsz (v := y) ok.2
      show _ ≤ dsz x + (dsz y + 0) + 1
      omega
    · exact Nat.zero_le _
  | .choice ss, v, ok => by
    unfold Sh.okb at ok
    rw [Bool.and_eq_true] at ok
    unfold bytesB
    split
    · rename_i t i x
      rw [List.length_cons]
      have := bytesN_dsz (n := i.toNat) (v := x) ok.2
      show _ ≤ dsz t + (8 + (dsz x + 0)) + 1
      omega
    · exact Nat.zero_le _
theorem bytesN_dsz : ∀ {ss : List Sh} {n : Nat} {v : D}, Sh.okbs ss = true → (bytesN ss n v).length ≤ dsz v
  | [], n, v, ok => by unfold bytesN; exact Nat.zero_le _
  | s :: ss, 0, v, ok => by
    unfold Sh.okbs at ok
    rw [Bool.and_eq_true] at ok
    unfold bytesN
    exact bytes_dsz ok.1
  | s :: ss, n + 1, v, ok => by
    unfold Sh.okbs at ok
    rw [Bool.and_eq_true] at ok
    unfold bytesN
    exact bytesN_dsz ok.2
end
/-- a thing chosen -/
abbrev ofD (k : Nat) (v : D) : D := .tup [.str "of", .int (k : Nat), v]
mutual
def least : Sh → D
  | .nothing => .non
  | .number lo _ => .int lo
  | .text _ => .str ""
  | .list _ _ => .lst []
  | .pair a b => .tup [least a, least b]
  | .choice ss => ofD 0 (least0 ss)
def least0 : List Sh → D
  | [] => .non
  | s :: _ => least s
end
mutual
def outL : Sh → Sh → List D
  | .nothing, r => match r with
    | .nothing => []
    | _ => [least .nothing]
  | .number lo hi, r => match r with
    | .number lo' hi' => if lo < lo' then [.int lo] else if hi > hi' then [.int hi] else []
    | _ => [least (.number lo hi)]
  | .text m, r => match r with
    | .text m' => if m > m' then [.str (repS "a" (m' + 1).toNat)] else []
    | _ => [least (.text m)]
  | .list s m, r => match r with
    | .list s' m' => if m > m' then [.lst (List.replicate (m' + 1).toNat (least s))] else if m = 0 then [] else (outL s s').map fun v => .lst [v]
    | _ => [least (.list s m)]
  | .pair a b, r => match r with
    | .pair a' b' => ((outL a a').map (fun v => D.tup [v, least b]) ++ (outL b b').map (fun v => D.tup [least a, v])).take 1
    | _ => [least (.pair a b)]
  | .choice ss, r => match r with
    | .choice rr => (outC 0 ss rr).take 1
    | _ => [least (.choice ss)]
def outC : Nat → List Sh → List Sh → List D
  | _, [], _ => []
  | k, s :: ss, rr => match rr with
    | [] => ofD k (least s) :: outC (k + 1) ss []
    | r :: rr => (outL s r).map (ofD k) ++ outC (k + 1) ss rr
end
/-- the first that is not within -/
def fidx : List Sh → List Sh → Nat
  | s :: ss, r :: rr => if withinB s r then fidx ss rr + 1 else 0
  | _, _ => 0
mutual
def oth : Sh → Sh → D
  | .list s _, r => match r with
    | .list s' _ => .lst [oth s s']
    | _ => .non
  | .pair a b, r => match r with
    | .pair a' b' => if withinB a a' then .tup [least a, oth b b'] else .tup [oth a a', least b]
    | _ => .non
  | .choice ss, r => match r with
    | .choice rr => ofD (fidx ss rr) (othN ss rr)
    | _ => .non
  | .number lo _, _ => .int lo
  | _, _ => .non
def othN : List Sh → List Sh → D
  | [], _ => .non
  | s :: ss, rr => match rr with
    | [] => .non
    | r :: rr => if withinB s r then othN ss rr else oth s r
end
def partV (s r : Sh) : D := match outL s r with
  | v :: _ => v
  | [] => oth s r
def ls : Nat → Nat
  | 0 => 10
  | d + 1 => 2 * ls d + 12
theorem ls_up {a b : Nat} (h : a ≤ b) : ls a ≤ ls b := by
  induction h with
  | refl => exact Nat.le_refl _
  | step _ ih => exact Nat.le_trans ih (by show _ ≤ 2 * ls _ + 12; omega)
structure Lv (s : Sh) (n : Nat) (v : D) : Prop where
  sm : smV v = true
  fi : fitsB s v = true
  sz : dsz v ≤ n
theorem smV_int {i : Int} (b1 : -1000000000000000000 < i) (b2 : i < 1000000000000000000) : smV (.int i) = true := by unfold smV; exact decide_eq_true (by omega)
theorem fits_pr {a b : Sh} {x y : D} (h1 : fitsB a x = true) (h2 : fitsB b y = true) : fitsB (.pair a b) (.tup [x, y]) = true := by
  unfold fitsB
  show (fitsB a x && fitsB b y) = true
  rw [h1, h2]; rfl
theorem fits_of {ss : List Sh} {k : Nat} {x : D} (h : fitsN ss k x = true) : fitsB (.choice ss) (ofD k x) = true := by
  unfold fitsB
  show (decide (("of" : Str) = "of") && (decide (0 ≤ (k : Int)) && fitsN ss (k : Int).toNat x)) = true
  rw [Int.toNat_natCast, h, decide_eq_true rfl, decide_eq_true (by omega)]; rfl
theorem fits_ls {s : Sh} {m : Int} {ds : List D} (hl : (ds.length : Int) ≤ m) (h : ∀ d ∈ ds, fitsB s d = true) : fitsB (.list s m) (.lst ds) = true := by
  unfold fitsB
  show (decide ((ds.length : Int) ≤ m) && ds.all (fitsB s)) = true
  rw [decide_eq_true hl, List.all_eq_true.mpr h]; rfl
theorem smV_of {k : Nat} (hk : k ≤ 1000000) {x : D} (h : smV x = true) : smV (ofD k x) = true :=
  smV_tp (by show 3 ≤ 1000; decide) (all_cons (by decide +kernel) (all_cons (by unfold smV; exact decide_eq_true (by omega)) (all_cons h all_nil)))
theorem smV_two {x y : D} (h : smV x = true) (h2 : smV y = true) : smV (.tup [x, y]) = true := smV_tp (by show 2 ≤ 1000; decide) (all_cons h (all_cons h2 all_nil))
theorem dsz_of (k : Nat) (x : D) : dsz (ofD k x) = dsz x + 12 := by
  show (("of" : Str).length + 1) + (8 + (dsz x + 0)) + 1 = _
  have : ("of" : Str).length = 2 := by decide +kernel
  omega
mutual
theorem least_lv : ∀ {s : Sh}, s.okb = true → Lv s (ls s.dep) (least s)
  | .nothing, ok => ⟨rfl, rfl, by show 1 ≤ ls _; have := ls_up (Nat.zero_le (Sh.nothing).dep); have : ls 0 = 10 := rfl; omega⟩
  | .number lo hi, ok => by
    unfold Sh.okb at ok
    rw [Bool.and_eq_true, Bool.and_eq_true, decide_eq_true_eq, decide_eq_true_eq, decide_eq_true_eq] at ok
    refine ⟨smV_int ok.1 (by omega), ?_, by show 8 ≤ 10; decide⟩
    show (decide (lo ≤ lo) && decide (lo ≤ hi)) = true
    rw [decide_eq_true (Int.le_refl _), decide_eq_true ok.2.1]; rfl
  | .text m, ok => by
    have ok : (decide (0 ≤ m) && decide (m ≤ 250)) = true := ok
    rw [Bool.and_eq_true, decide_eq_true_eq] at ok
    exact ⟨by show smV (.str "") = true; decide +kernel, fits_text_good (by show (0 : Int) ≤ m; exact ok.1) (by decide +kernel), by show 1 ≤ 10; decide⟩
  | .list s m, ok => by
    unfold Sh.okb at ok
    rw [Bool.and_eq_true, Bool.and_eq_true, decide_eq_true_eq] at ok
    refine ⟨rfl, fits_ls (by show (0 : Int) ≤ m; exact ok.1.1) all_nil, ?_⟩
    show 1 ≤ 2 * ls s.dep + 12
    omega
  | .pair a b, ok => by
    unfold Sh.okb at ok
    rw [Bool.and_eq_true] at ok
    have h1 := least_lv ok.1
    have h2 := least_lv ok.2
    have va : ls a.dep ≤ ls (max a.dep b.dep) := ls_up (by omega)
    have vb : ls b.dep ≤ ls (max a.dep b.dep) := ls_up (by omega)
    have z1 := h1.sz
    have z2 := h2.sz
    refine ⟨smV_two h1.sm h2.sm, fits_pr h1.fi h2.fi, ?_⟩
    show dsz (least a) + (dsz (least b) + 0) + 1 ≤ 2 * ls (max a.dep b.dep) + 12
    omega
  | .choice ss, ok => by
    unfold Sh.okb at ok
    rw [Bool.and_eq_true, Bool.and_eq_true, decide_eq_true_eq] at ok
    obtain ⟨h1, h2, h3⟩ := least0_lv ok.1.1 ok.2
    refine ⟨smV_of (by omega) h1, fits_of h2, ?_⟩
    show dsz (ofD 0 (least0 ss)) ≤ 2 * ls (Sh.deps ss) + 12
    rw [dsz_of]
    omega
theorem least0_lv : ∀ {ss : List Sh}, 1 ≤ ss.length → Sh.okbs ss = true → smV (least0 ss) = true ∧ fitsN ss 0 (least0 ss) = true ∧ dsz (least0 ss) ≤ ls (Sh.deps ss)
  | [], h, _ => by cases h
  | s :: ss, _, ok => by
    unfold Sh.okbs at ok
    rw [Bool.and_eq_true] at ok
    have h := least_lv ok.1
    refine ⟨h.sm, by unfold fitsN; exact h.fi, Nat.le_trans h.sz (ls_up ?_)⟩
    show s.dep ≤ max s.dep (Sh.deps ss)
    omega
end
end Wp

/-! CsQ: what parts two shapes, plain: that it does. -/
namespace Wp
open PySem
theorem ls0 (d : Nat) : 10 ≤ ls d := ls_up (Nat.zero_le d)
theorem Lv.out {s : Sh} {n : Nat} {v : D} (h : Lv s n v) (hn : n ≤ ls s.dep) : dsz v ≤ 300 * ls s.dep := by have := h.sz; omega
/-- a value of the one that the other does not let by -/
structure Out (s r : Sh) (v : D) : Prop where
  sm : smV v = true
  fi : fitsB s v = true
  no : fitsB r v = false
  sz : dsz v ≤ 300 * ls s.dep
theorem out_least {s r : Sh} (ok : s.okb = true) (h : fitsB r (least s) = false) : Out s r (least s) := by
  have l := least_lv ok
  exact ⟨l.sm, l.fi, h, l.out (Nat.le_refl _)⟩
theorem rep_okT (n : Nat) : okT (repS "a" n) = true ∧ (repS "a" n).length = n := by
  have e : (repS "a" n).cps.toList = List.replicate n 97 := by
    show ((List.replicate n (("a" : Str).cps.toList)).flatten.toArray).toList = _
    have : ("a" : Str).cps.toList = [97] := by decide +kernel
    rw [this]
    induction n with
    | zero => rfl
    | succ n ih =>
      have ih : (List.replicate n [97]).flatten = List.replicate n 97 := ih
      show (List.replicate (n + 1) [97]).flatten = _
      rw [List.replicate_succ, List.flatten_cons, ih]; rfl
  refine ⟨?_, ?_⟩
  · unfold okT
    rw [e]
    exact List.all_eq_true.mpr fun c hc => by rw [(List.mem_replicate.mp hc).2]; decide
  · show (repS "a" n).cps.size = n
    rw [← Array.length_toList, e, List.length_replicate]
theorem no_fit {m : Int} {z : Str} (h : m < (z.length : Int)) : fitsB (.text m) (.str z) = false := by
  unfold fitsB textB
  show (decide ((z.length : Int) ≤ m) && z.cps.toList.all okSign) = false
  rw [decide_eq_false (by omega)]; rfl
theorem fits_pr_inv {a b : Sh} {x y : D} : fitsB (.pair a b) (.tup [x, y]) = (fitsB a x && fitsB b y) := by conv => { lhs; unfold fitsB }
theorem fits_of_inv {ss : List Sh} {k : Nat} {x : D} : fitsB (.choice ss) (ofD k x) = fitsN ss k x := by
  unfold fitsB
  show (decide (("of" : Str) = "of") && (decide (0 ≤ (k : Int)) && fitsN ss (k : Int).toNat x)) = _
  rw [Int.toNat_natCast, decide_eq_true rfl, decide_eq_true (by omega)]; rfl
theorem fits_ls_inv {s : Sh} {m : Int} {ds : List D} : fitsB (.list s m) (.lst ds) = (decide ((ds.length : Int) ≤ m) && ds.all (fitsB s)) := by
  conv => { lhs; unfold fitsB }
  rfl
mutual
theorem out_ok : ∀ {s r : Sh} {v : D}, s.okb = true → r.okb = true → v ∈ outL s r → Out s r v
  | .nothing, r, v, ok, rk, h => by
    cases r
    case nothing => unfold outL at h; cases h
    all_goals
      unfold outL at h
      obtain rfl := List.mem_singleton.mp h
      exact out_least ok (by unfold fitsB; rfl)
  | .number lo hi, r, v, ok, rk, h => by
    cases r
    case number lo' hi' =>
      unfold Sh.okb at ok
      rw [Bool.and_eq_true, Bool.and_eq_true, decide_eq_true_eq, decide_eq_true_eq, decide_eq_true_eq] at ok
      have h : v ∈ (if lo < lo' then [D.int lo] else if hi > hi' then [D.int hi] else []) := by unfold outL at h; exact h
      have i8 : ∀ i : Int, dsz (.int i) ≤ 300 * ls (Sh.number lo hi).dep := fun i => by show 8 ≤ 300 * ls _; have := ls0 (Sh.number lo hi).dep; omega
      split at h
      · obtain rfl := List.mem_singleton.mp h
        refine ⟨smV_int ok.1 (by omega), ?_, ?_, i8 _⟩
        · show (decide (lo ≤ lo) && decide (lo ≤ hi)) = true
          rw [decide_eq_true (Int.le_refl _), decide_eq_true ok.2.1]; rfl
        · show (decide (lo' ≤ lo) && decide (lo ≤ hi')) = false
          rw [decide_eq_false (by omega)]; rfl
      · split at h
        · obtain rfl := List.mem_singleton.mp h
          refine ⟨smV_int (by omega) ok.2.2, ?_, ?_, i8 _⟩
          · show (decide (lo ≤ hi) && decide (hi ≤ hi)) = true
            rw [decide_eq_true (Int.le_refl _), decide_eq_true ok.2.1]; rfl
          · show (decide (lo' ≤ hi) && decide (hi ≤ hi')) = false
            rw [decide_eq_false (show ¬ hi ≤ hi' by omega), Bool.and_false]
        · cases h
    all_goals
      unfold outL at h
      obtain rfl := List.mem_singleton.mp h
      exact out_least ok (by unfold fitsB; rfl)
  | .text m, r, v, ok, rk, h => by
    cases r
    case text m' =>
      unfold Sh.okb at ok rk
      rw [Bool.and_eq_true, decide_eq_true_eq, decide_eq_true_eq] at ok rk
      have h : v ∈ (if m > m' then [D.str (repS "a" (m' + 1).toNat)] else []) := by unfold outL at h; exact h
      split at h
      · obtain rfl := List.mem_singleton.mp h
        obtain ⟨t1, t2⟩ := rep_okT (m' + 1).toNat
        refine ⟨?_, fits_text_good (by rw [t2]; omega) t1, no_fit (by rw [t2]; omega), ?_⟩
        · show (decide ((repS "a" (m' + 1).toNat).length ≤ 1000) && PyData.strOk (repS "a" (m' + 1).toNat)) = true
          rw [decide_eq_true (by rw [t2]; omega), okT_strOk t1]; rfl
        · show (repS "a" (m' + 1).toNat).length + 1 ≤ 300 * ls _
          have := ls0 (Sh.text m).dep
          rw [t2]; omega
      · cases h
    all_goals
      unfold outL at h
      obtain rfl := List.mem_singleton.mp h
      refine out_least ok ?_
      first
        | (unfold fitsB; rfl)
        | (show fitsB (.text _) (.str "") = false; unfold fitsB; rfl)
  | .list s m, r, v, ok, rk, h => by
    cases r
    case list s' m' =>
      unfold Sh.okb at ok rk
      rw [Bool.and_eq_true, Bool.and_eq_true, decide_eq_true_eq, decide_eq_true_eq] at ok rk
      have h : v ∈ (if m > m' then [D.lst (List.replicate (m' + 1).toNat (least s))] else if m = 0 then [] else (outL s s').map fun v => D.lst [v]) := by unfold outL at h; exact h
      have hd : ls (Sh.list s m).dep = 2 * ls s.dep + 12 := rfl
      split at h
      · obtain rfl := List.mem_singleton.mp h
        have l := least_lv ok.2
        have lz := l.sz
        refine ⟨smV_ls (by rw [List.length_replicate]; omega) fun d h => by rw [(List.mem_replicate.mp h).2]; exact l.sm, fits_ls (by rw [List.length_replicate]; omega) fun d h => by rw [(List.mem_replicate.mp h).2]; exact l.fi, ?_, ?_⟩
        · rw [fits_ls_inv, List.length_replicate, decide_eq_false (by omega)]; rfl
        · show dszs (List.replicate (m' + 1).toNat (least s)) + 1 ≤ 300 * ls (Sh.list s m).dep
          rw [dszs_rep, hd]
          have : (m' + 1).toNat * dsz (least s) ≤ 251 * ls s.dep := Nat.mul_le_mul (by omega) lz
          omega
      · split at h
        · cases h
        · obtain ⟨w, hw, rfl⟩ := List.mem_map.mp h
          have o := out_ok ok.2 rk.2 hw
          have oz := o.sz
          refine ⟨smV_ls (by show 1 ≤ 1000; decide) (all_cons o.sm all_nil), fits_ls (by show (1 : Int) ≤ m; omega) (all_cons o.fi all_nil), ?_, ?_⟩
          · rw [fits_ls_inv, List.all_cons, o.no, Bool.false_and, Bool.and_false]
          · show dsz w + 0 + 1 ≤ 300 * ls (Sh.list s m).dep
            rw [hd]; omega
    all_goals
      unfold outL at h
      obtain rfl := List.mem_singleton.mp h
      exact out_least ok (by unfold fitsB; rfl)
  | .pair a b, r, v, ok, rk, h => by
    cases r
    case pair a' b' =>
      unfold Sh.okb at ok rk
      rw [Bool.and_eq_true] at ok rk
      have h : v ∈ ((outL a a').map (fun v => D.tup [v, least b]) ++ (outL b b').map (fun v => D.tup [least a, v])).take 1 := by unfold outL at h; exact h
      have h := List.mem_of_mem_take h
      have l1 := least_lv ok.1
      have l2 := least_lv ok.2
      have z1 := l1.sz
      have z2 := l2.sz
      have va : ls a.dep ≤ ls (max a.dep b.dep) := ls_up (by omega)
      have vb : ls b.dep ≤ ls (max a.dep b.dep) := ls_up (by omega)
      have hd : ls (Sh.pair a b).dep = 2 * ls (max a.dep b.dep) + 12 := rfl
      rcases List.mem_append.mp h with h | h
      · obtain ⟨w, hw, rfl⟩ := List.mem_map.mp h
        have o := out_ok ok.1 rk.1 hw
        have oz := o.sz
        refine ⟨smV_two o.sm l2.sm, fits_pr o.fi l2.fi, by rw [fits_pr_inv, o.no]; rfl, ?_⟩
        show dsz w + (dsz (least b) + 0) + 1 ≤ 300 * ls (Sh.pair a b).dep
        rw [hd]; omega
      · obtain ⟨w, hw, rfl⟩ := List.mem_map.mp h
        have o := out_ok ok.2 rk.2 hw
        have oz := o.sz
        refine ⟨smV_two l1.sm o.sm, fits_pr l1.fi o.fi, by rw [fits_pr_inv, o.no, Bool.and_false], ?_⟩
        show dsz (least a) + (dsz w + 0) + 1 ≤ 300 * ls (Sh.pair a b).dep
        rw [hd]; omega
    all_goals
      unfold outL at h
      obtain rfl := List.mem_singleton.mp h
      refine out_least ok ?_
      first
        | (unfold fitsB; rfl)
        | exact choice_no fun z i x e => absurd (congrArg List.length e) (show ¬ (2 : Nat) = 3 by decide)
  | .choice ss, r, v, ok, rk, h => by
    cases r
    case choice rr =>
      unfold Sh.okb at ok rk
      rw [Bool.and_eq_true, Bool.and_eq_true, decide_eq_true_eq, decide_eq_true_eq] at ok rk
      have h : v ∈ (outC 0 ss rr).take 1 := by unfold outL at h; exact h
      obtain ⟨j, w, rfl, hj, sm, f1, f2, sz⟩ := outC_ok (k := 0) ok.2 rk.2 (List.mem_of_mem_take h)
      rw [Nat.zero_add]
      refine ⟨smV_of (by omega) sm, fits_of f1, by rw [fits_of_inv]; exact f2, ?_⟩
      rw [dsz_of]
      have hd : ls (Sh.choice ss).dep = 2 * ls (Sh.deps ss) + 12 := rfl
      rw [hd]; omega
    all_goals
      unfold outL at h
      obtain rfl := List.mem_singleton.mp h
      exact out_least ok (by unfold fitsB; rfl)
theorem outC_ok : ∀ {ss rr : List Sh} {k : Nat} {v : D}, Sh.okbs ss = true → Sh.okbs rr = true → v ∈ outC k ss rr → ∃ (j : Nat) (w : D), v = ofD (k + j) w ∧ j < ss.length ∧ smV w = true ∧ fitsN ss j w = true ∧ fitsN rr j w = false ∧ dsz w ≤ 300 * ls (Sh.deps ss)
  | [], rr, k, v, ok, rk, h => by unfold outC at h; cases h
  | s :: ss, rr, k, v, ok, rk, h => by
    unfold Sh.okbs at ok
    rw [Bool.and_eq_true] at ok
    have vs : ls s.dep ≤ ls (Sh.deps (s :: ss)) := ls_up (by show s.dep ≤ max s.dep _; omega)
    have vt : ls (Sh.deps ss) ≤ ls (Sh.deps (s :: ss)) := ls_up (by show Sh.deps ss ≤ max s.dep _; omega)
    cases rr with
    | nil =>
      have h : v ∈ ofD k (least s) :: outC (k + 1) ss [] := by unfold outC at h; exact h
      rcases List.mem_cons.mp h with rfl | h
      · have l := least_lv ok.1
        have lz := l.sz
        exact ⟨0, least s, rfl, Nat.succ_pos _, l.sm, by unfold fitsN; exact l.fi, by unfold fitsN; rfl, by omega⟩
      · obtain ⟨j, w, rfl, hj, sm, f1, f2, sz⟩ := outC_ok ok.2 rk h
        exact ⟨j + 1, w, by rw [Nat.add_assoc, Nat.add_comm 1 j], Nat.succ_lt_succ hj, sm, by unfold fitsN; exact f1, by unfold fitsN; rfl, by omega⟩
    | cons r rr =>
      unfold Sh.okbs at rk
      rw [Bool.and_eq_true] at rk
      have h : v ∈ (outL s r).map (ofD k) ++ outC (k + 1) ss rr := by unfold outC at h; exact h
      rcases List.mem_append.mp h with h | h
      · obtain ⟨w, hw, rfl⟩ := List.mem_map.mp h
        have o := out_ok ok.1 rk.1 hw
        have oz := o.sz
        exact ⟨0, w, rfl, Nat.succ_pos _, o.sm, by unfold fitsN; exact o.fi, by unfold fitsN; exact o.no, by omega⟩
      · obtain ⟨j, w, rfl, hj, sm, f1, f2, sz⟩ := outC_ok ok.2 rk.2 h
        exact ⟨j + 1, w, by rw [Nat.add_assoc, Nat.add_comm 1 j], Nat.succ_lt_succ hj, sm, by unfold fitsN; exact f1, by unfold fitsN; exact f2, by omega⟩
end
end Wp

/-! CsR: where all values of the one fit the other one; other bytes. -/
namespace Wp
open PySem
theorem pl_mono {a b : Nat} (h : a ≤ b) : pl a ≤ pl b := pl_le _ _ (Nat.lt_of_le_of_lt h (pl_lt b))
theorem les_zero : ∀ (w : Nat) (n : Int), 0 ≤ n → n < 256 ^ w → les w n = les w 0 → n = 0
  | 0, n, h0, h1, _ => by
    have : (256 : Int) ^ 0 = 1 := rfl
    omega
  | w + 1, n, h0, h1, e => by
    injection e with e1 e2
    have z : n / 256 = 0 := les_zero w (n / 256) (Int.ediv_nonneg h0 (by decide)) (by
      rw [Int.pow_succ] at h1
      exact Int.ediv_lt_of_lt_mul (by decide) h1) (by rw [e2]; rfl)
    omega
theorem take1_nil {α : Type} {l : List α} (h : l.take 1 = []) : l = [] := by
  cases l with
  | nil => rfl
  | cons x l => cases h
mutual
theorem none_fits : ∀ {s r : Sh} {v : D}, s.okb = true → r.okb = true → outL s r = [] → fitsB s v = true → fitsB r v = true ∧ (bytesB s v).length ≤ (bytesB r v).length
  | .nothing, r, v, ok, rk, h, f => by
    cases r
    case nothing => exact ⟨f, Nat.le_refl _⟩
    all_goals (unfold outL at h; cases h)
  | .number lo hi, r, v, ok, rk, h, f => by
    cases r
    case number lo' hi' =>
      have h : (if lo < lo' then [D.int lo] else if hi > hi' then [D.int hi] else []) = [] := by unfold outL at h; exact h
      split at h
      · cases h
      · split at h
        · cases h
        · cases v <;> first | (unfold fitsB at f; cases f; done) | skip
          rename_i i
          have f : (decide (lo ≤ i) && decide (i ≤ hi)) = true := by unfold fitsB at f; exact f
          rw [Bool.and_eq_true, decide_eq_true_eq, decide_eq_true_eq] at f
          refine ⟨?_, ?_⟩
          · show (decide (lo' ≤ i) && decide (i ≤ hi')) = true
            rw [decide_eq_true (by omega), decide_eq_true (by omega)]; rfl
          · show ((les (pl (hi - lo).toNat) (i - lo)).reverse).length ≤ ((les (pl (hi' - lo').toNat) (i - lo')).reverse).length
            rw [List.length_reverse, List.length_reverse, les_len, les_len]
            exact pl_mono (by omega)
    all_goals (unfold outL at h; cases h)
  | .text m, r, v, ok, rk, h, f => by
    cases r
    case text m' =>
      have h : (if m > m' then [D.str (repS "a" (m' + 1).toNat)] else []) = [] := by unfold outL at h; exact h
      split at h
      · cases h
      · have w : withinB (.text m) (.text m') = true := wi_text.mpr (by omega)
        obtain ⟨a, b⟩ := within_fits w f
        exact ⟨a, by rw [b]; exact Nat.le_refl _⟩
    all_goals (unfold outL at h; cases h)
  | .list s m, r, v, ok, rk, h, f => by
    cases r
    case list s' m' =>
      unfold Sh.okb at ok rk
      rw [Bool.and_eq_true, Bool.and_eq_true, decide_eq_true_eq, decide_eq_true_eq] at ok rk
      have h : (if m > m' then [D.lst (List.replicate (m' + 1).toNat (least s))] else if m = 0 then [] else (outL s s').map fun v => D.lst [v]) = [] := by unfold outL at h; exact h
      split at h
      · cases h
      · rename_i hm
        have key : m = 0 ∨ outL s s' = [] := by
          split at h
          · exact .inl (by assumption)
          · exact .inr (List.map_eq_nil_iff.mp h)
        unfold fitsB at f
        cases e : itemsB v with
        | none => rw [e] at f; cases f
        | some ds =>
          rw [e] at f
          have f : (decide ((ds.length : Int) ≤ m) && ds.all (fitsB s)) = true := f
          rw [Bool.and_eq_true, decide_eq_true_eq] at f
          have hall : ∀ x ∈ ds, fitsB s' x = true ∧ (bytesB s x).length ≤ (bytesB s' x).length := by
            intro x hx
            rcases key with rfl | key
            · cases ds with
              | nil => cases hx
              | cons y ds => exact absurd f.1 (by rw [List.length_cons]; omega)
            · exact none_fits ok.2 rk.2 key (List.all_eq_true.mp f.2 x hx)
          refine ⟨?_, ?_⟩
          · unfold fitsB
            rw [e]
            show (decide ((ds.length : Int) ≤ m') && ds.all (fitsB s')) = true
            rw [decide_eq_true (by omega), List.all_eq_true.mpr fun x hx => (hall x hx).1]; rfl
          · cases v <;> first | exact Nat.zero_le _ | skip
            rename_i es
            have e9 : some es = some ds := e
            injection e9 with e9
            rw [e9]
            show ((ds.length : Int) :: (ds.map (bytesB s)).flatten).length ≤ ((ds.length : Int) :: (ds.map (bytesB s')).flatten).length
            rw [List.length_cons, List.length_cons]
            have go : ∀ l : List D, (∀ x ∈ l, (bytesB s x).length ≤ (bytesB s' x).length) → ((l.map (bytesB s)).flatten).length ≤ ((l.map (bytesB s')).flatten).length := by
              intro l
              induction l with
              | nil => exact fun _ => Nat.le_refl _
              | cons x l ih =>
                intro hl
                rw [List.map_cons, List.map_cons, List.flatten_cons, List.flatten_cons, List.length_append, List.length_append]
                have a1 := hl x (List.mem_cons_self ..)
                have a2 := ih fun y hy => hl y (List.mem_cons_of_mem _ hy)
                omega
            have := go ds fun x hx => (hall x hx).2
            omega
    all_goals (unfold outL at h; cases h)
  | .pair a b, r, v, ok, rk, h, f => by
    cases r
    case pair a' b' =>
      unfold Sh.okb at ok rk
      rw [Bool.and_eq_true] at ok rk
      have h : ((outL a a').map (fun v => D.tup [v, least b]) ++ (outL b b').map (fun v => D.tup [least a, v])).take 1 = [] := by unfold outL at h; exact h
      obtain ⟨h1, h2⟩ := List.append_eq_nil_iff.mp (take1_nil h)
      have h1 := List.map_eq_nil_iff.mp h1
      have h2 := List.map_eq_nil_iff.mp h2
      unfold fitsB at f
      split at f
      · rename_i x y
        rw [Bool.and_eq_true] at f
        obtain ⟨c1, c2⟩ := none_fits ok.1 rk.1 h1 f.1
        obtain ⟨d1, d2⟩ := none_fits ok.2 rk.2 h2 f.2
        refine ⟨fits_pr c1 d1, ?_⟩
        show (bytesB a x ++ bytesB b y).length ≤ (bytesB a' x ++ bytesB b' y).length
        rw [List.length_append, List.length_append]
        omega
      · cases f
    all_goals (unfold outL at h; cases h)
  | .choice ss, r, v, ok, rk, h, f => by
    cases r
    case choice rr =>
      unfold Sh.okb at ok rk
      rw [Bool.and_eq_true] at ok rk
      have h : (outC 0 ss rr).take 1 = [] := by unfold outL at h; exact h
      have h := take1_nil h
      unfold fitsB at f
      split at f
      · rename_i z i x
        rw [Bool.and_eq_true, Bool.and_eq_true] at f
        obtain ⟨c1, c2⟩ := none_fitsN ok.2 rk.2 h f.2.2
        refine ⟨?_, ?_⟩
        · unfold fitsB
          show (decide (z = "of") && (decide (0 ≤ i) && fitsN rr i.toNat x)) = true
          rw [f.1, f.2.1, c1]; rfl
        · show (i :: bytesN ss i.toNat x).length ≤ (i :: bytesN rr i.toNat x).length
          rw [List.length_cons, List.length_cons]
          omega
      · cases f
    all_goals (unfold outL at h; cases h)
theorem none_fitsN : ∀ {ss rr : List Sh} {k n : Nat} {v : D}, Sh.okbs ss = true → Sh.okbs rr = true → outC k ss rr = [] → fitsN ss n v = true → fitsN rr n v = true ∧ (bytesN ss n v).length ≤ (bytesN rr n v).length
  | [], rr, k, n, v, ok, rk, h, f => by unfold fitsN at f; cases f
  | s :: ss, rr, k, n, v, ok, rk, h, f => by
    unfold Sh.okbs at ok
    rw [Bool.and_eq_true] at ok
    cases rr with
    | nil => unfold outC at h; cases h
    | cons r rr =>
      unfold Sh.okbs at rk
      rw [Bool.and_eq_true] at rk
      have h : (outL s r).map (ofD k) ++ outC (k + 1) ss rr = [] := by unfold outC at h; exact h
      obtain ⟨h1, h2⟩ := List.append_eq_nil_iff.mp h
      have h1 := List.map_eq_nil_iff.mp h1
      cases n with
      | zero =>
        unfold fitsN at f ⊢
        unfold bytesN
        exact none_fits ok.1 rk.1 h1 f
      | succ n =>
        unfold fitsN at f ⊢
        unfold bytesN
        exact none_fitsN ok.2 rk.2 h2 f
end
theorem outC_len : ∀ {ss rr : List Sh} {k : Nat}, outC k ss rr = [] → ss.length ≤ rr.length
  | [], rr, k, h => Nat.zero_le _
  | s :: ss, [], k, h => by unfold outC at h; cases h
  | s :: ss, r :: rr, k, h => by
    have h : (outL s r).map (ofD k) ++ outC (k + 1) ss rr = [] := by unfold outC at h; exact h
    exact Nat.succ_le_succ (outC_len (List.append_eq_nil_iff.mp h).2)
/-- a value that fits the one, with other bytes by the other one -/
structure Oth (s r : Sh) (v : D) : Prop where
  sm : smV v = true
  fi : fitsB s v = true
  ne : bytesB r v ≠ bytesB s v
  sz : dsz v ≤ 300 * ls s.dep
theorem app_ne {a b c d : List Int} (hl : a.length ≤ c.length) (hl2 : b.length ≤ d.length) (h : c ≠ a) : c ++ d ≠ a ++ b := by
  intro e
  have l := congrArg List.length e
  rw [List.length_append, List.length_append] at l
  exact h (List.append_inj e (by omega)).1
mutual
theorem oth_ok : ∀ {s r : Sh}, s.okb = true → r.okb = true → outL s r = [] → withinB s r = false → Oth s r (oth s r)
  | .nothing, r, ok, rk, h, w => by
    cases r
    case nothing => unfold withinB at w; cases w
    all_goals (unfold outL at h; cases h)
  | .number lo hi, r, ok, rk, h, w => by
    cases r
    case number lo' hi' =>
      have l := least_lv ok
      unfold Sh.okb at ok
      rw [Bool.and_eq_true, Bool.and_eq_true, decide_eq_true_eq, decide_eq_true_eq, decide_eq_true_eq] at ok
      have h : (if lo < lo' then [D.int lo] else if hi > hi' then [D.int hi] else []) = [] := by unfold outL at h; exact h
      split at h
      · cases h
      · split at h
        · cases h
        · refine ⟨l.sm, l.fi, ?_, l.out (Nat.le_refl _)⟩
          show (les (pl (hi' - lo').toNat) (lo - lo')).reverse ≠ (les (pl (hi - lo).toNat) (lo - lo)).reverse
          intro e
          have e := List.reverse_inj.mp e
          have el := congrArg List.length e
          rw [les_len, les_len] at el
          rw [← el, show lo - lo = 0 by omega] at e
          have z := les_zero _ _ (by omega) (Int.lt_of_le_of_lt (show lo - lo' ≤ hi' - lo' by omega) (pl_ltI (by omega))) e
          have : withinB (.number lo hi) (.number lo' hi') = true := wi_number.mpr ⟨by omega, el.symm, by omega⟩
          rw [w] at this
          cases this
    all_goals (unfold outL at h; cases h)
  | .text m, r, ok, rk, h, w => by
    cases r
    case text m' =>
      have h : (if m > m' then [D.str (repS "a" (m' + 1).toNat)] else []) = [] := by unfold outL at h; exact h
      split at h
      · cases h
      · have : withinB (.text m) (.text m') = true := wi_text.mpr (by omega)
        rw [w] at this
        cases this
    all_goals (unfold outL at h; cases h)
  | .list s m, r, ok, rk, h, w => by
    cases r
    case list s' m' =>
      unfold Sh.okb at ok rk
      rw [Bool.and_eq_true, Bool.and_eq_true, decide_eq_true_eq, decide_eq_true_eq] at ok rk
      have h : (if m > m' then [D.lst (List.replicate (m' + 1).toNat (least s))] else if m = 0 then [] else (outL s s').map fun v => D.lst [v]) = [] := by unfold outL at h; exact h
      split at h
      · cases h
      · split at h
        · rename_i hm z
          have : withinB (.list s m) (.list s' m') = true := wi_list.mpr ⟨by omega, .inl z⟩
          rw [w] at this
          cases this
        · rename_i hm z
          have h := List.map_eq_nil_iff.mp h
          have ws : withinB s s' = false := by
            cases q : withinB s s' with
            | false => rfl
            | true =>
              have : withinB (.list s m) (.list s' m') = true := wi_list.mpr ⟨by omega, .inr q⟩
              rw [w] at this
              cases this
          have o := oth_ok ok.2 rk.2 h ws
          have oz := o.sz
          refine ⟨smV_ls (by show 1 ≤ 1000; decide) (all_cons o.sm all_nil), fits_ls (by show (1 : Int) ≤ m; omega) (all_cons o.fi all_nil), ?_, ?_⟩
          · show ((1 : Nat) : Int) :: (bytesB s' (oth s s') ++ []) ≠ ((1 : Nat) : Int) :: (bytesB s (oth s s') ++ [])
            rw [List.append_nil, List.append_nil]
            intro e
            injection e with _ e
            exact o.ne e
          · show dsz (oth s s') + 0 + 1 ≤ 300 * (2 * ls s.dep + 12)
            omega
    all_goals (unfold outL at h; cases h)
  | .pair a b, r, ok, rk, h, w => by
    cases r
    case pair a' b' =>
      unfold Sh.okb at ok rk
      rw [Bool.and_eq_true] at ok rk
      have h : ((outL a a').map (fun v => D.tup [v, least b]) ++ (outL b b').map (fun v => D.tup [least a, v])).take 1 = [] := by unfold outL at h; exact h
      obtain ⟨h1, h2⟩ := List.append_eq_nil_iff.mp (take1_nil h)
      have h1 := List.map_eq_nil_iff.mp h1
      have h2 := List.map_eq_nil_iff.mp h2
      have l1 := least_lv ok.1
      have l2 := least_lv ok.2
      have z1 := l1.sz
      have z2 := l2.sz
      have va : ls a.dep ≤ ls (max a.dep b.dep) := ls_up (by omega)
      have vb : ls b.dep ≤ ls (max a.dep b.dep) := ls_up (by omega)
      cases q : withinB a a' with
      | true =>
        have wb : withinB b b' = false := by
          cases q2 : withinB b b' with
          | false => rfl
          | true =>
            have : withinB (.pair a b) (.pair a' b') = true := wi_pair.mpr ⟨q, q2⟩
            rw [w] at this
            cases this
        have o := oth_ok ok.2 rk.2 h2 wb
        have oz := o.sz
        have e : oth (.pair a b) (.pair a' b') = .tup [least a, oth b b'] := by
          conv => { lhs; unfold oth }
          show (if withinB a a' = true then D.tup [least a, oth b b'] else D.tup [oth a a', least b]) = _
          rw [q] <;> rfl
        rw [e]
        refine ⟨smV_two l1.sm o.sm, fits_pr l1.fi o.fi, ?_, ?_⟩
        · show bytesB a' (least a) ++ bytesB b' (oth b b') ≠ bytesB a (least a) ++ bytesB b (oth b b')
          rw [(within_fits q l1.fi).2]
          intro e
          exact o.ne (List.append_cancel_left e)
        · show dsz (least a) + (dsz (oth b b') + 0) + 1 ≤ 300 * (2 * ls (max a.dep b.dep) + 12)
          omega
      | false =>
        have o := oth_ok ok.1 rk.1 h1 q
        have oz := o.sz
        have e : oth (.pair a b) (.pair a' b') = .tup [oth a a', least b] := by
          conv => { lhs; unfold oth }
          show (if withinB a a' = true then D.tup [least a, oth b b'] else D.tup [oth a a', least b]) = _
          rw [q] <;> rfl
        rw [e]
        refine ⟨smV_two o.sm l2.sm, fits_pr o.fi l2.fi, ?_, ?_⟩
        · exact app_ne (none_fits ok.1 rk.1 h1 o.fi).2 (none_fits ok.2 rk.2 h2 l2.fi).2 o.ne
        · show dsz (oth a a') + (dsz (least b) + 0) + 1 ≤ 300 * (2 * ls (max a.dep b.dep) + 12)
          omega
    all_goals (unfold outL at h; cases h)
  | .choice ss, r, ok, rk, h, w => by
    cases r
    case choice rr =>
      unfold Sh.okb at ok rk
      rw [Bool.and_eq_true, Bool.and_eq_true, decide_eq_true_eq, decide_eq_true_eq] at ok rk
      have h : (outC 0 ss rr).take 1 = [] := by unfold outL at h; exact h
      have h := take1_nil h
      have wa : withinAll ss rr = false := by
        cases q : withinAll ss rr with
        | false => rfl
        | true =>
          have : withinB (.choice ss) (.choice rr) = true := wi_choice.mpr ⟨outC_len h, q⟩
          rw [w] at this
          cases this
      obtain ⟨hj, sm, fi, ne, sz⟩ := othN_ok ok.2 rk.2 h wa
      refine ⟨smV_of (by omega) sm, fits_of fi, ?_, ?_⟩
      · show ((fidx ss rr : Nat) : Int) :: bytesN rr ((fidx ss rr : Nat) : Int).toNat (othN ss rr) ≠ ((fidx ss rr : Nat) : Int) :: bytesN ss ((fidx ss rr : Nat) : Int).toNat (othN ss rr)
        rw [Int.toNat_natCast]
        intro e
        injection e with _ e
        exact ne e
      · show dsz (ofD (fidx ss rr) (othN ss rr)) ≤ 300 * (2 * ls (Sh.deps ss) + 12)
        rw [dsz_of]
        omega
    all_goals (unfold outL at h; cases h)
theorem othN_ok : ∀ {ss rr : List Sh} {k : Nat}, Sh.okbs ss = true → Sh.okbs rr = true → outC k ss rr = [] → withinAll ss rr = false → fidx ss rr < ss.length ∧ smV (othN ss rr) = true ∧ fitsN ss (fidx ss rr) (othN ss rr) = true ∧ bytesN rr (fidx ss rr) (othN ss rr) ≠ bytesN ss (fidx ss rr) (othN ss rr) ∧ dsz (othN ss rr) ≤ 300 * ls (Sh.deps ss)
  | [], rr, k, ok, rk, h, w => by unfold withinAll at w; cases w
  | s :: ss, [], k, ok, rk, h, w => by unfold withinAll at w; cases w
  | s :: ss, r :: rr, k, ok, rk, h, w => by
    unfold Sh.okbs at ok rk
    rw [Bool.and_eq_true] at ok rk
    have vs : ls s.dep ≤ ls (Sh.deps (s :: ss)) := ls_up (by show s.dep ≤ max s.dep _; omega)
    have vt : ls (Sh.deps ss) ≤ ls (Sh.deps (s :: ss)) := ls_up (by show Sh.deps ss ≤ max s.dep _; omega)
    have h : (outL s r).map (ofD k) ++ outC (k + 1) ss rr = [] := by unfold outC at h; exact h
    obtain ⟨h1, h2⟩ := List.append_eq_nil_iff.mp h
    have h1 := List.map_eq_nil_iff.mp h1
    have w : (withinB s r && withinAll ss rr) = false := by rw [withinAll] at w; exact w
    have e1 : fidx (s :: ss) (r :: rr) = if withinB s r then fidx ss rr + 1 else 0 := rfl
    have e2 : othN (s :: ss) (r :: rr) = if withinB s r then othN ss rr else oth s r := by rw [othN]
    cases q : withinB s r with
    | true =>
      rw [q] at e1 e2 w
      rw [e1, e2]
      obtain ⟨a1, a2, a3, a4, a5⟩ := othN_ok ok.2 rk.2 h2 w
      refine ⟨Nat.succ_lt_succ a1, a2, ?_, ?_, Nat.le_trans a5 (by omega)⟩
      · show fitsN (s :: ss) (fidx ss rr + 1) (othN ss rr) = true
        unfold fitsN; exact a3
      · show bytesN (r :: rr) (fidx ss rr + 1) (othN ss rr) ≠ bytesN (s :: ss) (fidx ss rr + 1) (othN ss rr)
        unfold bytesN; exact a4
    | false =>
      rw [q] at e1 e2
      rw [e1, e2]
      have o := oth_ok ok.1 rk.1 h1 q
      refine ⟨Nat.succ_pos _, o.sm, ?_, ?_, Nat.le_trans o.sz (by omega)⟩
      · show fitsN (s :: ss) 0 (oth s r) = true
        unfold fitsN; exact o.fi
      · show bytesN (r :: rr) 0 (oth s r) ≠ bytesN (s :: ss) 0 (oth s r)
        unfold bytesN; exact o.ne
end
/-- it parts them -/
theorem part_ok {s r : Sh} (ok : s.okb = true) (rk : r.okb = true) (w : withinB s r = false) : smV (partV s r) = true ∧ fitsB s (partV s r) = true ∧ dsz (partV s r) ≤ 300 * ls s.dep ∧ (fitsB r (partV s r) = true → bytesB r (partV s r) ≠ bytesB s (partV s r)) := by
  unfold partV
  cases e : outL s r with
  | nil =>
    have o := oth_ok ok rk e w
    exact ⟨o.sm, o.fi, o.sz, fun _ => o.ne⟩
  | cons v l =>
    have o := out_ok ok rk (by rw [e]; exact List.mem_cons_self ..)
    exact ⟨o.sm, o.fi, o.sz, fun z => by rw [o.no] at z; cases z⟩
end Wp

/-! PfCount (v25): cut. -/
namespace Wp
open PySem
theorem Sh.levs_mem : ∀ {ss : List Sh}, ∀ s ∈ ss, s.lev ≤ Sh.levs ss
  | x :: ss, s, hs => by
    unfold Sh.levs
    rcases List.mem_cons.mp hs with rfl | hs
    · omega
    · have := Sh.levs_mem s hs
      omega
theorem Sh.okbs_mem : ∀ {ss : List Sh}, Sh.okbs ss = true → ∀ s ∈ ss, s.okb = true
  | [], _, s, h => by cases h
  | x :: ss, ok, s, h => by
    unfold Sh.okbs at ok
    rw [Bool.and_eq_true] at ok
    rcases List.mem_cons.mp h with h | h
    · rw [h]; exact ok.1
    · exact Sh.okbs_mem ok.2 s h
theorem rng_len {lo : Int} {n : Nat} : (rng lo n).length = n := by
  unfold rng
  rw [List.length_map, List.length_range]
end Wp

/-! CsA: the pool; leaves, parts (as K50a, with bounds). -/
namespace Wp
open PySem
/-- a pool: three numbers in the memory -/
def Pl (p : Addr) (n : Nat) (M : Mem) : Prop := ∃ (a f t : Int), M p = some (.lst [.int a, .int f, .int t]) ∧ 0 ≤ t ∧ t ≤ (n : Int)
def Off1 (p : Addr) (M M' : Mem) : Prop := ∀ a, a ≠ p → M' a = M a
theorem Off1.refl {p : Addr} {M : Mem} : Off1 p M M := fun _ _ => rfl
theorem Off1.trans {p : Addr} {M M1 M2 : Mem} (h : Off1 p M M1) (h2 : Off1 p M1 M2) : Off1 p M M2 := fun a h3 => (h2 a h3).trans (h a h3)
theorem Off1.at {p q : Addr} {M M' : Mem} {x : Option Ob} (h : Off1 p M M') (h1 : q ≠ p) (e : M q = x) : M' q = x := (h q h1).trans e
theorem Pl.up {p : Addr} {n n' : Nat} {M : Mem} (h : Pl p n M) (hn : n ≤ n') : Pl p n' M := by
  obtain ⟨a, f, t, e, h1, h2⟩ := h
  exact ⟨a, f, t, e, h1, by omega⟩
theorem Pl.ne {p q : Addr} {n : Nat} {M : Mem} (h : Pl p n M) (hq : M q = none) : p ≠ q := by
  obtain ⟨a, f, t, e, _⟩ := h
  exact Mem.fresh_ne e hq
theorem Pl.keep {p q : Addr} {n : Nat} {M : Mem} {o : Ob} (h : Pl p n M) (hq : p ≠ q) : Pl p n (M.upd q o) := by
  obtain ⟨a, f, t, e, h1, h2⟩ := h
  exact ⟨a, f, t, by rw [Mem.upd_ne hq]; exact e, h1, h2⟩
theorem mulb {a b A B : Int} (a0 : 0 ≤ a) (a1 : a ≤ A) (b0 : 0 ≤ b) (b1 : b ≤ B) : 0 ≤ a * b ∧ a * b ≤ A * B :=
  ⟨Int.mul_nonneg a0 b0, Int.mul_le_mul a1 b1 b0 (Int.le_trans a0 a1)⟩
theorem rng_int {lo : Int} {n : Nat} : ∀ x ∈ rng lo n, ∃ i : Nat, x = D.int (lo + (i : Nat)) ∧ i < n := by
  intro x hx
  unfold rng at hx
  obtain ⟨i, hi, rfl⟩ := List.mem_map.mp hx
  exact ⟨i, rfl, List.mem_range.mp hi⟩
theorem pick {xs : List D} {lo hi : Int} {i : Int} (h0 : 0 ≤ i) (h1 : i < xs.length) (h : ∀ x ∈ xs, ∃ j, x = D.int j ∧ lo ≤ j ∧ j ≤ hi) : ∃ j, atI xs i = some (.int j) ∧ lo ≤ j ∧ j ≤ hi := by
  obtain ⟨x, hx, e⟩ := atI_mem h0 h1
  obtain ⟨j, rfl, a, b⟩ := h x hx
  exact ⟨j, e, a, b⟩
set_option maxHeartbeats 0 in
theorem use_take {p : Addr} {n k : Nat} {M : Mem} {many : Int} {Q : QK} {E : XQ} (hP : Pl p n M) (hn : n < 1000000000000) (h0 : 0 < many) (hm : many.natAbs.log2 < 9000) (hk : 1 ≤ k)
    (h : ∀ (i : Int) (M' : Mem), 0 ≤ i → i < many → Pl p (n + 1) M' → Off1 p M M' → Q (.int i) M') : run tab k f_law_take [.loc p, .int many] M Q E := by
  obtain ⟨k, rfl⟩ : ∃ j, k = j + 1 := ⟨k - 1, by omega⟩
  obtain ⟨a, f, t, e, t0, t1⟩ := hP
  refine run_in rfl rfl ?_
  conv => whnf
  rw [asS_loc e]
  conv => whnf
  split
  · conv => whnf
    rw [asS_loc e]
    conv => whnf
    refine ⟨h0, ?_⟩
    conv => whnf
    rw [asS_loc e]
    conv => whnf
    refine ⟨h0, hm, ?_⟩
    conv => whnf
    refine put_loc (ys := [.int (a / many), .int f, .int t]) e (by decide) (by simp) rfl ?_
    conv => whnf
    exact .done (h _ _ (Int.emod_nonneg _ (by omega)) (Int.emod_lt_of_pos _ h0) ⟨_, _, _, Mem.upd_same, t0, by omega⟩ fun b hb => Mem.upd_ne hb)
  · conv => whnf
    rw [asS_loc e]
    conv => whnf
    refine put_loc (ys := [.int a, .int f, .int (t + 1)]) e (by decide) (by simp) rfl ?_
    have e1 : (M.upd p (.lst [.int a, .int f, .int (t + 1)])) p = some (.lst [.int a, .int f, .int (t + 1)]) := Mem.upd_same
    have o1 : Off1 p M (M.upd p (.lst [.int a, .int f, .int (t + 1)])) := fun b hb => Mem.upd_ne hb
    generalize M.upd p (.lst [.int a, .int f, .int (t + 1)]) = M1 at e1 o1
    conv => whnf
    rw [asS_loc e1]
    conv => whnf
    rw [asS_loc e1]
    conv => whnf
    refine ⟨by decide, ?_⟩
    have q0 : 0 ≤ a % 9999999769 := Int.emod_nonneg _ (by decide)
    have q1 : a % 9999999769 < 9999999769 := Int.emod_lt_of_pos _ (by decide)
    generalize a % 9999999769 = x at q0 q1
    conv => whnf
    refine ⟨mul_ok (by decide) (by omega), ?_⟩
    conv => whnf
    obtain ⟨p0, p1⟩ := mulb (a := x + 733) (b := 9 * (t + 1) + 31) (A := 10000001000) (B := 10000000000000) (by omega) (by omega) (by omega) (by omega)
    refine ⟨mul_ok (by omega) (by omega), ?_⟩
    generalize (x + 733) * (9 * (t + 1) + 31) = y at p0 p1
    conv => whnf
    refine ⟨mul_ok (by decide) (by omega), ?_⟩
    refine ⟨mul_ok (by omega) (by omega), ?_⟩
    obtain ⟨r0, r1⟩ := mulb (a := 2917 * (t + 1)) (b := t + 1) (A := 2917000000000000) (B := 1000000000000) (by omega) (by omega) (by omega) (by omega)
    generalize 2917 * (t + 1) * (t + 1) = z at r0 r1
    conv => whnf
    refine ⟨mul_ok (by omega) (by omega), ?_⟩
    conv => whnf
    refine ⟨by decide, ?_⟩
    have u0 : 0 ≤ (y + z) * (y + z) % 99999999821 := Int.emod_nonneg _ (by decide)
    have u1 : (y + z) * (y + z) % 99999999821 < 99999999821 := Int.emod_lt_of_pos _ (by decide)
    generalize (y + z) * (y + z) % 99999999821 = u at u0 u1
    conv => whnf
    refine ⟨mul_ok (by omega) (by omega), ?_⟩
    refine ⟨by decide, ?_⟩
    refine ⟨by decide, by decide, ?_⟩
    refine ⟨h0, ?_⟩
    conv => whnf
    exact .done (h _ _ (Int.emod_nonneg _ (by omega)) (Int.emod_lt_of_pos _ h0) ⟨_, _, _, e1, by omega, by omega⟩ o1)
mutual
/-- choices of one to nine; numbers within b -/
def Sh.okc (b : Int) : Sh → Bool
  | .nothing => true
  | .number lo hi => decide (-b ≤ lo) && (decide (lo ≤ hi) && decide (hi ≤ b))
  | .text m => decide (0 ≤ m) && decide (m ≤ 250)
  | .list s m => (decide (0 ≤ m) && decide (m ≤ 250)) && s.okc b
  | .pair x y => x.okc b && y.okc b
  | .choice ss => (decide (1 ≤ ss.length) && decide (ss.length ≤ 9)) && Sh.okcs b ss
def Sh.okcs (b : Int) : List Sh → Bool
  | [] => true
  | s :: ss => s.okc b && Sh.okcs b ss
end
mutual
theorem Sh.okc_up {b c : Int} (h : b ≤ c) : ∀ {s : Sh}, s.okc b = true → s.okc c = true
  | .nothing, _ => rfl
  | .number lo hi, q => by
    unfold Sh.okc at *
    rw [Bool.and_eq_true, Bool.and_eq_true, decide_eq_true_eq, decide_eq_true_eq, decide_eq_true_eq] at *
    omega
  | .text m, q => q
  | .list s m, q => by
    unfold Sh.okc at *
    rw [Bool.and_eq_true] at *
    exact ⟨q.1, Sh.okc_up h q.2⟩
  | .pair x y, q => by
    unfold Sh.okc at *
    rw [Bool.and_eq_true] at *
    exact ⟨Sh.okc_up h q.1, Sh.okc_up h q.2⟩
  | .choice ss, q => by
    unfold Sh.okc at *
    rw [Bool.and_eq_true] at *
    exact ⟨q.1, Sh.okcs_up h q.2⟩
theorem Sh.okcs_up {b c : Int} (h : b ≤ c) : ∀ {ss : List Sh}, Sh.okcs b ss = true → Sh.okcs c ss = true
  | [], _ => rfl
  | s :: ss, q => by
    unfold Sh.okcs at *
    rw [Bool.and_eq_true] at *
    exact ⟨Sh.okc_up h q.1, Sh.okcs_up h q.2⟩
end
mutual
theorem Sh.okc_b {b : Int} (h : b < 1000000000000000000) : ∀ {s : Sh}, s.okc b = true → s.okb = true
  | .nothing, _ => rfl
  | .number lo hi, q => by
    unfold Sh.okc at q
    unfold Sh.okb
    rw [Bool.and_eq_true, Bool.and_eq_true, decide_eq_true_eq, decide_eq_true_eq, decide_eq_true_eq] at *
    omega
  | .text m, q => q
  | .list s m, q => by
    unfold Sh.okc at q
    unfold Sh.okb
    rw [Bool.and_eq_true] at *
    exact ⟨q.1, Sh.okc_b h q.2⟩
  | .pair x y, q => by
    unfold Sh.okc at q
    unfold Sh.okb
    rw [Bool.and_eq_true] at *
    exact ⟨Sh.okc_b h q.1, Sh.okc_b h q.2⟩
  | .choice ss, q => by
    unfold Sh.okc at q
    unfold Sh.okb
    rw [Bool.and_eq_true] at *
    exact ⟨q.1, Sh.okcs_b h q.2⟩
theorem Sh.okcs_b {b : Int} (h : b < 1000000000000000000) : ∀ {ss : List Sh}, Sh.okcs b ss = true → Sh.okbs ss = true
  | [], _ => rfl
  | s :: ss, q => by
    unfold Sh.okcs at q
    unfold Sh.okbs
    rw [Bool.and_eq_true] at *
    exact ⟨Sh.okc_b h q.1, Sh.okcs_b h q.2⟩
end
mutual
theorem Sh.lev_dep : ∀ {s : Sh}, s.lev ≤ 2 * s.dep + 2
  | .nothing => by unfold Sh.lev Sh.dep; omega
  | .number _ _ => by unfold Sh.lev Sh.dep; omega
  | .text _ => by unfold Sh.lev Sh.dep; omega
  | .list s _ => by have := Sh.lev_dep (s := s); unfold Sh.lev Sh.dep; omega
  | .pair x y => by have := Sh.lev_dep (s := x); have := Sh.lev_dep (s := y); unfold Sh.lev Sh.dep; omega
  | .choice ss => by have := Sh.levs_dep (ss := ss); unfold Sh.lev Sh.dep; omega
theorem Sh.levs_dep : ∀ {ss : List Sh}, Sh.levs ss ≤ 2 * Sh.deps ss + 2
  | [] => by unfold Sh.levs; omega
  | s :: ss => by have := Sh.lev_dep (s := s); have := Sh.levs_dep (ss := ss); unfold Sh.levs Sh.deps; omega
end
theorem Sh.okcs_mem : ∀ {b : Int} {ss : List Sh}, Sh.okcs b ss = true → ∀ s ∈ ss, s.okc b = true
  | _, [], _, s, h => by cases h
  | _, x :: ss, ok, s, h => by
    unfold Sh.okcs at ok
    rw [Bool.and_eq_true] at ok
    rcases List.mem_cons.mp h with h | h
    · rw [h]; exact ok.1
    · exact Sh.okcs_mem ok.2 s h
theorem Sh.okcs_of : ∀ {b : Int} {ss : List Sh}, (∀ s ∈ ss, s.okc b = true) → Sh.okcs b ss = true
  | _, [], _ => rfl
  | _, x :: ss, h => by
    unfold Sh.okcs
    rw [h x (List.mem_cons_self ..), Sh.okcs_of fun s hs => h s (List.mem_cons_of_mem _ hs)]; rfl
theorem Sh.deps_le : ∀ {ss : List Sh} {n : Nat}, (∀ s ∈ ss, s.dep ≤ n) → Sh.deps ss ≤ n
  | [], n, _ => Nat.zero_le _
  | s :: ss, n, h => by
    unfold Sh.deps
    have := h s (List.mem_cons_self ..)
    have := Sh.deps_le (ss := ss) fun x hx => h x (List.mem_cons_of_mem _ hx)
    omega
theorem Sh.ds_map : ∀ ss : List Sh, Sh.ds ss = ss.map Sh.d
  | [] => rfl
  | s :: ss => congrArg (s.d :: ·) (Sh.ds_map ss)
structure SDb (b : Int) (n : Nat) (s : Sh) : Prop where
  ok : s.okc b = true
  de : s.dep ≤ n
theorem SDb.up {b : Int} {n n' : Nat} {s : Sh} (h : SDb b n s) (hn : n ≤ n') : SDb b n' s := ⟨h.ok, Nat.le_trans h.de hn⟩
theorem SDb.upb {b c : Int} {n n' : Nat} {s : Sh} (h : SDb b n s) (hb : b ≤ c) (hn : n ≤ n') : SDb c n' s := ⟨Sh.okc_up hb h.ok, Nat.le_trans h.de hn⟩
theorem SDb.list {b : Int} {n : Nat} {s : Sh} (m : Int) (m0 : 0 ≤ m) (m1 : m ≤ 250) (h : SDb b n s) : SDb b (n + 1) (.list s m) := ⟨by unfold Sh.okc; rw [decide_eq_true m0, decide_eq_true m1, h.ok]; rfl, Nat.succ_le_succ h.de⟩
theorem SDb.text {b : Int} {n : Nat} {m : Int} (m0 : 0 ≤ m) (m1 : m ≤ 250) : SDb b n (.text m) := ⟨by unfold Sh.okc; rw [decide_eq_true m0, decide_eq_true m1]; rfl, Nat.zero_le _⟩
theorem SDb.number {b : Int} {n : Nat} {lo hi : Int} (m0 : -b ≤ lo) (m1 : lo ≤ hi) (m2 : hi ≤ b) : SDb b n (.number lo hi) := ⟨by unfold Sh.okc; rw [decide_eq_true m0, decide_eq_true m1, decide_eq_true m2]; rfl, Nat.zero_le _⟩
theorem SDb.nothing {b : Int} {n : Nat} : SDb b n .nothing := ⟨rfl, Nat.zero_le _⟩
theorem SDb.pair {b : Int} {n : Nat} {x y : Sh} (h : SDb b n x) (h2 : SDb b n y) : SDb b (n + 1) (.pair x y) := ⟨by unfold Sh.okc; rw [h.ok, h2.ok]; rfl, by have := h.de; have := h2.de; show max x.dep y.dep + 1 ≤ _; omega⟩
theorem SDb.choice {b : Int} {n : Nat} {ss : List Sh} (h1 : 1 ≤ ss.length) (h9 : ss.length ≤ 9) (h : ∀ s ∈ ss, SDb b n s) : SDb b (n + 1) (.choice ss) :=
  ⟨by unfold Sh.okc; rw [decide_eq_true h1, decide_eq_true h9, Sh.okcs_of fun s hs => (h s hs).ok]; rfl, Nat.succ_le_succ (Sh.deps_le fun s hs => (h s hs).de)⟩
abbrev B0 : Int := 400000000000000000
abbrev SD (n : Nat) (s : Sh) : Prop := SDb B0 n s
/-- what a def that draws a shape keeps -/
def Dr (p : Addr) (n c m : Nat) (M : Mem) (v : D) (M' : Mem) : Prop := ∃ s : Sh, v = s.d ∧ SD m s ∧ Pl p (n + c) M' ∧ Off1 p M M'
set_option maxHeartbeats 0 in
theorem r_leaf {p : Addr} {n : Nat} {M : Mem} (hP : Pl p n M) (hn : n < 900000000000) (k : Nat) (hk : 2 ≤ k) : run tab k f_law_leaf [.loc p] M (Dr p n 12 0 M) fun _ _ => False := by
  obtain ⟨k, rfl⟩ : ∃ j, k = j + 1 := ⟨k - 1, by omega⟩
  refine run_in rfl rfl ?_
  conv => whnf
  refine use_take hP (by omega) (by decide) (by decide) (by omega) fun i1 M1 a1 b1 h1 o1 => ?_
  conv => whnf
  split
  · conv => whnf
    refine ⟨lok rfl, ?_⟩
    conv => whnf
    exact .done ⟨.nothing, rfl, .nothing, h1.up (by omega), o1⟩
  · conv => whnf
    split
    · conv => whnf
      refine use_take h1 (by omega) (by decide) (by decide) (by omega) fun i2 M2 a2 b2 h2 o2 => ?_
      conv => whnf
      refine use_take h2 (by omega) (by decide) (by decide) (by omega) fun i3 M3 a3 b3 h3 o3 => ?_
      refine ⟨lok rfl, ?_⟩
      conv => whnf
      refine use_take h3 (by omega) (by decide) (by decide) (by omega) fun i4 M4 a4 b4 h4 o4 => ?_
      conv => whnf
      obtain ⟨m, e, m1, m2⟩ := pick (xs := [D.int i2, D.int i3, D.int 250]) (lo := 0) (hi := 250) a4 b4
        (all_cons ⟨_, rfl, by omega, by omega⟩ (all_cons ⟨_, rfl, by omega, by omega⟩ (all_cons ⟨_, rfl, by omega, by omega⟩ all_nil)))
      rw [e]
      refine ⟨lok rfl, ?_⟩
      conv => whnf
      exact .done ⟨.text m, rfl, .text m1 m2, h4.up (by omega), ((o1.trans o2).trans o3).trans o4⟩
    · conv => whnf
      refine use_take h1 (by omega) (by decide) (by decide) (by omega) fun i2 M2 a2 b2 h2 o2 => ?_
      conv => whnf
      refine ⟨by decide, ?_⟩
      conv => whnf
      refine ⟨mul_ok (by decide) (by decide), ?_⟩
      conv => whnf
      refine use_take h2 (by omega) (by decide) (by decide) (by omega) fun i3 M3 a3 b3 h3 o3 => ?_
      conv => whnf
      refine ⟨by decide, ?_⟩
      refine ⟨lok rfl, ?_⟩
      conv => whnf
      refine use_take h3 (by omega) (by decide) (by decide) (by omega) fun i4 M4 a4 b4 h4 o4 => ?_
      conv => whnf
      obtain ⟨low, e, l1, l2⟩ := pick (xs := [D.int (i2 - 4), D.int (i3 - 10 ^ Int.toNat 17)]) (lo := -100000000000000000) (hi := 100000000000000000) a4 b4
        (all_cons ⟨_, rfl, by omega, by omega⟩ (all_cons ⟨_, rfl, by have : (10 : Int) ^ Int.toNat 17 = 100000000000000000 := rfl; omega, by
          have e17 : (10 : Int) ^ Int.toNat 17 = 100000000000000000 := rfl
          have e18 : (2 : Int) * 10 ^ Int.toNat 17 = 200000000000000000 := rfl
          omega⟩ all_nil))
      rw [e]
      conv => whnf
      refine use_take h4 (by omega) (by decide) (by decide) (by omega) fun i5 M5 a5 b5 h5 o5 => ?_
      conv => whnf
      refine use_take h5 (by omega) (by decide) (by decide) (by omega) fun i6 M6 a6 b6 h6 o6 => ?_
      conv => whnf
      refine use_take h6 (by omega) (by decide) (by decide) (by omega) fun i7 M7 a7 b7 h7 o7 => ?_
      refine ⟨lok rfl, ?_⟩
      conv => whnf
      refine ⟨by decide, ?_⟩
      conv => whnf
      refine use_take h7 (by omega) (by decide) (by decide) (by omega) fun i8 M8 a8 b8 h8 o8 => ?_
      refine ⟨lok rfl, ?_⟩
      conv => whnf
      refine ⟨lok rfl, ?_⟩
      conv => whnf
      refine use_take h8 (by omega) (by decide) (by decide) (by omega) fun i9 M9 a9 b9 h9 o9 => ?_
      conv => whnf
      obtain ⟨up, e, u1, u2⟩ := pick (xs := [D.int 0, D.int 1, D.int (254 + i5), D.int (65534 + i6), D.int i7] ++ [D.int i8]) (lo := 0) (hi := i8 + 1000000) a9 b9
        (all_app (all_cons ⟨_, rfl, by omega, by omega⟩ (all_cons ⟨_, rfl, by omega, by omega⟩ (all_cons ⟨_, rfl, by omega, by omega⟩ (all_cons ⟨_, rfl, by omega, by omega⟩ (all_cons ⟨_, rfl, by omega, by omega⟩ all_nil))))) (all_cons ⟨_, rfl, by omega, by omega⟩ all_nil))
      rw [e]
      refine ⟨lok rfl, ?_⟩
      conv => whnf
      exact .done ⟨.number low (low + up), rfl, .number (by show -400000000000000000 ≤ low; omega) (by omega) (by show low + up ≤ 400000000000000000; have e17 : (10 : Int) ^ Int.toNat 17 = 100000000000000000 := rfl; omega), h9.up (by omega), ((((((((o1.trans o2).trans o3).trans o4).trans o5).trans o6).trans o7).trans o8).trans o9)⟩
theorem use_leaf {p : Addr} {n k : Nat} {M : Mem} {Q : QK} {E : XQ} (hP : Pl p n M) (hn : n < 900000000000) (hk : 2 ≤ k)
    (h : ∀ (s : Sh) (M' : Mem), SD 0 s → Pl p (n + 12) M' → Off1 p M M' → Q s.d M') : run tab k f_law_leaf [.loc p] M Q E :=
  run_use (r_leaf hP hn k hk) (Nat.le_refl _) fun v M' ⟨s, e, hs, h1, o⟩ => by rw [e]; exact h s M' hs h1 o
def pt : Nat → Nat
  | 0 => 20
  | d + 1 => 2 * pt d + 140
set_option maxHeartbeats 0 in
theorem r_part : ∀ (deep : Nat) (p : Addr) (n k : Nat) (di : Int) (M : Mem), di = (deep : Int) → Pl p n M → n + pt deep < 900000000000 → deep + 3 ≤ k →
    run tab k f_law_part [.loc p, .int di] M (Dr p n (pt deep) deep M) fun _ _ => False
  | 0, p, n, k, di, M, hdi, hP, hn, hk => by
    obtain ⟨k, rfl⟩ : ∃ j, k = j + 1 := ⟨k - 1, by omega⟩
    have hp0 : pt 0 = 20 := rfl
    refine run_in rfl rfl ?_
    conv => whnf
    refine use_take hP (by omega) (by decide) (by decide) (by omega) fun i1 M1 a1 b1 h1 o1 => ?_
    conv => whnf
    rw [decide_eq_true (show di = 0 by omega)]
    conv => whnf
    refine use_leaf h1 (by omega) (by omega) fun s M2 hs h2 o2 => ?_
    exact .done ⟨s, rfl, hs, h2.up (by omega), o1.trans o2⟩
  | deep + 1, p, n, k, di, M, hdi, hP, hn, hk => by
    obtain ⟨k, rfl⟩ : ∃ j, k = j + 1 := ⟨k - 1, by omega⟩
    have hp0 : pt (deep + 1) = 2 * pt deep + 140 := rfl
    have h2000 : 2000 ≤ sizeLine := by decide
    refine run_in rfl rfl ?_
    conv => whnf
    refine use_take hP (by omega) (by decide) (by decide) (by omega) fun i1 M1 a1 b1 h1 o1 => ?_
    conv => whnf
    rw [decide_eq_false (show ¬ di = 0 by omega)]
    conv => whnf
    split
    · conv => whnf
      refine use_leaf h1 (by omega) (by omega) fun s M2 hs h2 o2 => ?_
      exact .done ⟨s, rfl, hs.up (Nat.zero_le _), h2.up (by omega), o1.trans o2⟩
    · conv => whnf
      refine run_use (r_part deep p _ k (di - 1) M1 (by omega) h1 (by omega) (by omega)) (Nat.le_refl _) fun v M2 h => ?_
      obtain ⟨one, rfl, hs, h2, o2⟩ := h
      conv => whnf
      split
      · conv => whnf
        refine use_take h2 (by omega) (by decide) (by decide) (by omega) fun i3 M3 a3 b3 h3 o3 => ?_
        conv => whnf
        refine ⟨lok rfl, ?_⟩
        conv => whnf
        exact .done ⟨.list one i3, rfl, hs.list i3 (by omega) (by omega), h3.up (by omega), (o1.trans o2).trans o3⟩
      · conv => whnf
        split
        · conv => whnf
          refine run_use (r_part deep p _ k (di - 1) M2 (by omega) h2 (by omega) (by omega)) (Nat.le_refl _) fun v M3 h => ?_
          obtain ⟨two, rfl, hs2, h3, o3⟩ := h
          refine ⟨lok rfl, ?_⟩
          conv => whnf
          exact .done ⟨.pair one two, rfl, hs.pair hs2, h3.up (by omega), (o1.trans o2).trans o3⟩
        · conv => whnf
          refine use_take h2 (by omega) (by decide) (by decide) (by omega) fun i3 M3 a3 b3 h3 o3 => ?_
          conv => whnf
          refine ⟨⟨by omega, by omega⟩, ?_⟩
          refine comp_inv (fun ds acc M' => ∃ ss, acc = List.map Sh.d ss ∧ ds.length + ss.length = i3.toNat ∧ (∀ s ∈ ss, SD 0 s) ∧ Pl p (n + 1 + pt deep + 1 + 12 * ss.length) M' ∧ Off1 p M M') ?_ ?_ _ _ _ ⟨[], rfl, by rw [rng_len]; rfl, all_nil, h3, (o1.trans o2).trans o3⟩
          · rintro x ds acc M' ⟨ss, rfl, hl, hss, h4, o4⟩
            rw [List.length_cons] at hl
            refine ⟨trivial, ?_⟩
            conv => whnf
            refine use_leaf h4 (by omega) (by omega) fun s M5 hs5 h5 o5 => ?_
            refine ⟨by rw [List.length_map]; omega, ss ++ [s], by rw [List.map_append]; rfl, by rw [List.length_append, List.length_cons, List.length_nil]; omega, all_app hss (all_cons hs5 all_nil), h5.up ?_, o4.trans o5⟩
            rw [List.length_append, List.length_cons, List.length_nil]; omega
          · rintro acc M' ⟨ss, rfl, hl, hss, h4, o4⟩
            rw [List.length_nil, Nat.zero_add] at hl
            refine ⟨trivial, ?_⟩
            refine newL_fz (by rw [List.length_map]; omega) ?_
            conv => whnf
            have hl2 : (ss.map Sh.d).length = ss.length := List.length_map ..
            refine use_take h4 (by omega) (by omega) (Nat.lt_trans (log2_small (by omega)) (by decide)) (by omega) fun i5 M5 a5 b5 h5 o5 => ?_
            conv => whnf
            have c1 := cut_len ss none (some i5)
            have c2 := cut_len ss (some i5) none
            rw [cut_map]
            refine ⟨by rw [List.length_map]; omega, ?_⟩
            conv => whnf
            refine ⟨lok rfl, ?_⟩
            conv => whnf
            refine ⟨by rw [List.length_append, List.length_map, List.length_cons, List.length_nil]; omega, ?_⟩
            conv => whnf
            rw [cut_map]
            refine ⟨by rw [List.length_map]; omega, ?_⟩
            conv => whnf
            refine ⟨by rw [List.length_append, List.length_append, List.length_map, List.length_map, List.length_cons, List.length_nil]; omega, ?_⟩
            conv => whnf
            refine ⟨lok rfl, ?_⟩
            conv => whnf
            refine .done ⟨.choice (cut ss none (some i5) ++ [one] ++ cut ss (some i5) none), ?_, SDb.choice ?_ ?_ ?_, h5.up (by omega), o4.trans o5⟩
            · show _ = D.tup [.str "choice", .tup (Sh.ds (cut ss none (some i5) ++ [one] ++ cut ss (some i5) none))]
              rw [Sh.ds_map, List.map_append, List.map_append]
              rfl
            · rw [List.length_append, List.length_append, List.length_cons]; omega
            · have hcut : (cut ss none (some i5)).length + (cut ss (some i5) none).length ≤ ss.length := by
                unfold cut slN
                simp only [List.length_take, List.length_drop]
                rw [if_neg (by omega)]
                omega
              rw [List.length_append, List.length_append, List.length_cons, List.length_nil]
              omega
            · exact all_app (all_app (fun s h => (hss s (cut_mem h)).up (Nat.zero_le _)) (all_cons hs all_nil)) (fun s h => (hss s (cut_mem h)).up (Nat.zero_le _))
end Wp

/-! CsB: records, menus, shapes (as K50b). -/
namespace Wp
open PySem
set_option maxHeartbeats 0 in
theorem r_record {p : Addr} {n : Nat} {M : Mem} (hP : Pl p n M) (hn : n < 800000000000) (k : Nat) (hk : 3 ≤ k) : run tab k f_law_record [.loc p] M (Dr p n 48 3 M) fun _ _ => False := by
  obtain ⟨k, rfl⟩ : ∃ j, k = j + 1 := ⟨k - 1, by omega⟩
  refine run_in rfl rfl ?_
  conv => whnf
  refine use_leaf hP (by omega) (by omega) fun s M1 hs h1 o1 => ?_
  conv => whnf
  refine ⟨⟨by decide, by decide⟩, ?_⟩
  refine each_inv (fun rem env M' => ∃ (s : Sh) (e2 : Option D), env = [some (.loc p), some s.d, e2] ∧ rem.length ≤ 3 ∧ SD (3 - rem.length) s ∧ Pl p (n + 12 + 12 * (3 - rem.length)) M' ∧ Off1 p M M') ?_ ?_ _ _ _ ⟨s, none, rfl, Nat.le_of_ble_eq_true rfl, hs, h1.up (Nat.le_add_right _ _), o1⟩
  · rintro x rem env M' ⟨s, e2, rfl, hr, hs, h2, o2⟩
    rw [List.length_cons] at hr hs h2
    refine ⟨trivial, ?_⟩
    conv => whnf
    refine use_leaf h2 (by omega) (by omega) fun t M3 ht h3 o3 => ?_
    refine ⟨lok rfl, ?_⟩
    conv => whnf
    exact ⟨.pair t s, _, rfl, by omega, ((ht.up (Nat.zero_le _)).pair hs).up (by omega), h3.up (by omega), o2.trans o3⟩
  · rintro env M' ⟨s, e2, rfl, hr, hs, h2, o2⟩
    rw [List.length_nil] at hs h2
    refine ⟨trivial, ?_⟩
    conv => whnf
    exact .done ⟨s, rfl, hs, h2.up (by omega), o2⟩
theorem atI_P {xs : List D} {i n : Int} {P : D → Prop} (h0 : 0 ≤ i) (h1 : i < n) (hl : n = xs.length) (h : ∀ x ∈ xs, P x) : ∃ x, atI xs i = some x ∧ P x := by
  obtain ⟨x, hx, e⟩ := atI_mem h0 (by rw [← hl]; exact h1)
  exact ⟨x, e, h x hx⟩
theorem sh_mem {L : List D} {P : D → Prop} {x : D} (hx : x ∈ L) (h : ∀ x ∈ L, P x) : P x := h x hx
set_option maxHeartbeats 0 in
theorem r_menu {p : Addr} {n : Nat} {M : Mem} (hP : Pl p n M) (hn : n < 700000000000) (k : Nat) (hk : 4 ≤ k) : run tab k f_law_menu [.loc p] M (fun v M' => ∃ ss : List Sh, v = (Sh.choice ss).d ∧ 1 ≤ ss.length ∧ ss.length ≤ 9 ∧ (∀ s ∈ ss, SD 3 s) ∧ Pl p (n + 700) M' ∧ True) fun _ _ => False := by
  obtain ⟨k, rfl⟩ : ∃ j, k = j + 1 := ⟨k - 1, by omega⟩
  have h2000 : 2000 ≤ sizeLine := by decide
  refine run_in rfl rfl ?_
  conv => whnf
  refine ⟨lok rfl, fun q hq => ?_⟩
  have pq := hP.ne hq
  have hP' : Pl p n (M.upd q (.lst [])) := hP.keep pq
  conv => whnf
  refine use_take hP' (by omega) (by decide) (by decide) (by omega) fun i1 M1 a1 b1 h1 o1 => ?_
  have m1 : M1 q = some (.lst []) := o1.at (Ne.symm pq) Mem.upd_same
  conv => whnf
  refine ⟨⟨by omega, by omega⟩, ?_⟩
  refine each_inv (fun rem env M' => ∃ (ss : List Sh) (e2 e3 e4 e5 : Option D), env = [some (.loc p), some (.loc q), e2, e3, e4, e5] ∧ M' q = some (.lst (ss.map Sh.d)) ∧ rem.length + ss.length = (4 + i1).toNat ∧ (∀ s ∈ ss, SD 3 s) ∧ Pl p (n + 1 + 80 * ss.length) M') ?_ ?_ _ _ _ ⟨[], none, none, none, none, rfl, m1, by rw [rng_len]; rfl, all_nil, h1⟩
  · rintro x rem env M2 ⟨ss, e2, e3, e4, e5, rfl, hm, hl, hss, h2⟩
    rw [List.length_cons] at hl
    refine ⟨trivial, ?_⟩
    conv => whnf
    refine use_leaf h2 (by omega) (by omega) fun one M3 hs3 h3 o3 => ?_
    conv => whnf
    refine use_leaf h3 (by omega) (by omega) fun two M4 hs4 h4 o4 => ?_
    conv => whnf
    refine ⟨lok rfl, ?_⟩
    conv => whnf
    refine use_take h4 (by omega) (by decide) (by decide) (by omega) fun i5 M5 a5 b5 h5 o5 => ?_
    refine ⟨lok rfl, ?_⟩
    refine ⟨lok rfl, ?_⟩
    refine ⟨lok rfl, ?_⟩
    refine ⟨lok rfl, ?_⟩
    conv => whnf
    have m5 : M5 q = some (.lst (ss.map Sh.d)) := ((o3.trans o4).trans o5).at (Ne.symm pq) hm
    refine ⟨rcv_loc (by decide) m5, ?_⟩
    conv => whnf
    refine run_use (r_record h5 (by omega) k (by omega)) (Nat.le_refl _) fun v M6 h => ?_
    obtain ⟨rec, rfl, hs6, h6, o6⟩ := h
    refine ⟨lok rfl, ?_⟩
    conv => whnf
    refine ⟨lok rfl, ?_⟩
    conv => whnf
    refine use_take h6 (by omega) (by decide) (by decide) (by omega) fun i7 M7 a7 b7 h7 o7 => ?_
    conv => whnf
    obtain ⟨y, e, hsh⟩ : ∃ y, atI ([one.d, D.tup [D.str "pair", one.d, two.d], D.tup [D.str "list", one.d, D.int i5], D.tup [D.str "choice", D.tup [one.d, two.d]]] ++ [rec.d]) i7 = some y ∧ ∃ s : Sh, y = s.d ∧ SD 3 s := by
      refine atI_P (n := 5) a7 b7 rfl ?_
      exact all_app (all_cons ⟨one, rfl, hs3.up (by omega)⟩ (all_cons ⟨.pair one two, rfl, (hs3.pair hs4).up (by omega)⟩ (all_cons ⟨.list one i5, rfl, (hs3.list i5 (by omega) (by omega)).up (by omega)⟩ (all_cons ⟨.choice [one, two], rfl, (SDb.choice (ss := [one, two]) (by simp) (by simp) (all_cons hs3 (all_cons hs4 all_nil))).up (by omega)⟩ all_nil)))) (all_cons ⟨rec, rfl, hs6⟩ all_nil)
    obtain ⟨s, rfl, hs⟩ := hsh
    have m7 : M7 q = some (.lst (ss.map Sh.d)) := (o6.trans o7).at (Ne.symm pq) m5
    rw [e]
    conv => whnf
    rw [m7]
    refine ⟨by rw [List.length_map]; omega, ?_⟩
    refine ⟨ss ++ [s], _, _, _, _, rfl, by rw [Mem.upd_same, List.map_append]; rfl, by rw [List.length_append, List.length_cons, List.length_nil]; omega, all_app hss (all_cons hs all_nil), (h7.keep pq).up ?_⟩
    rw [List.length_append, List.length_cons, List.length_nil]; omega
  · rintro env M2 ⟨ss, e2, e3, e4, e5, rfl, hm, hl, hss, h2⟩
    rw [List.length_nil, Nat.zero_add] at hl
    refine ⟨trivial, ?_⟩
    conv => whnf
    rw [asL_loc hm]
    refine ⟨lok rfl, ?_⟩
    refine .done ⟨ss, by rw [← Sh.ds_map]; rfl, by omega, by omega, hss, h2.up (by omega), trivial⟩
set_option maxHeartbeats 0 in
theorem r_shape {p : Addr} {n : Nat} {M : Mem} (hP : Pl p n M) (hn : n < 700000000000) (k : Nat) (hk : 8 ≤ k) : run tab k f_law_shape [.loc p] M (Dr p n 1600 5 M) fun _ _ => False := by
  obtain ⟨k, rfl⟩ : ∃ j, k = j + 1 := ⟨k - 1, by omega⟩
  have h2000 : 2000 ≤ sizeLine := by decide
  refine run_in rfl rfl ?_
  conv => whnf
  refine use_take hP (by omega) (by decide) (by decide) (by omega) fun i1 M1 a1 b1 h1 o1 => ?_
  have hpt : pt i1.toNat ≤ 1140 := by
    rcases (show i1 = 0 ∨ i1 = 1 ∨ i1 = 2 ∨ i1 = 3 by omega) with rfl | rfl | rfl | rfl <;> decide
  refine run_use (r_part i1.toNat p _ k i1 M1 (by omega) h1 (by omega) (by omega)) (Nat.le_refl _) fun v M2 h => ?_
  obtain ⟨s, rfl, hs, h2, o2⟩ := h
  conv => whnf
  refine ⟨lok rfl, ?_⟩
  conv => whnf
  refine use_take h2 (by omega) (by decide) (by decide) (by omega) fun i3 M3 a3 b3 h3 o3 => ?_
  conv => whnf
  obtain ⟨m, e, m1, m2⟩ := pick (xs := [D.int 0, D.int 0, D.int 1, D.int 2]) (lo := 0) (hi := 2) a3 b3
    (all_cons ⟨_, rfl, by omega, by omega⟩ (all_cons ⟨_, rfl, by omega, by omega⟩ (all_cons ⟨_, rfl, by omega, by omega⟩ (all_cons ⟨_, rfl, by omega, by omega⟩ all_nil))))
  rw [e]
  refine ⟨⟨by omega, by omega⟩, ?_⟩
  refine each_inv (fun rem env M' => ∃ (s : Sh) (e2 e3 e4 : Option D), env = [some (.loc p), some s.d, e2, e3, e4] ∧ rem.length ≤ 2 ∧ SD (3 + (2 - rem.length)) s ∧ Pl p (n + 1 + 1140 + 1 + 20 * (2 - rem.length)) M' ∧ Off1 p M M') ?_ ?_ _ _ _ ⟨s, none, none, none, rfl, by rw [rng_len]; omega, hs.up (by omega), h3.up (by omega), (o1.trans o2).trans o3⟩
  · rintro x rem env M4 ⟨s, e2, e3, e4, rfl, hr, hs, h4, o4⟩
    rw [List.length_cons] at hr hs h4
    refine ⟨trivial, ?_⟩
    conv => whnf
    refine use_leaf h4 (by omega) (by omega) fun one M5 hs5 h5 o5 => ?_
    conv => whnf
    refine use_take h5 (by omega) (by decide) (by decide) (by omega) fun i6 M6 a6 b6 h6 o6 => ?_
    refine ⟨lok rfl, ?_⟩
    refine ⟨lok rfl, ?_⟩
    refine ⟨lok rfl, ?_⟩
    refine ⟨lok rfl, ?_⟩
    conv => whnf
    refine ⟨lok rfl, ?_⟩
    refine ⟨lok rfl, ?_⟩
    refine ⟨lok rfl, ?_⟩
    refine ⟨lok rfl, ?_⟩
    refine ⟨lok rfl, ?_⟩
    conv => whnf
    refine ⟨lok rfl, ?_⟩
    conv => whnf
    refine use_take h6 (by omega) (by decide) (by decide) (by omega) fun i7 M7 a7 b7 h7 o7 => ?_
    conv => whnf
    have hs0 := hs5.up (Nat.zero_le (3 + (2 - (rem.length + 1))))
    obtain ⟨y, e, hsh⟩ : ∃ y, atI ([D.tup [D.str "list", s.d, D.int i6], D.tup [D.str "pair", one.d, s.d], D.tup [D.str "pair", s.d, one.d]] ++ [D.tup [D.str "choice", D.tup [one.d, s.d]], D.tup [D.str "choice", D.tup [s.d, one.d]]]) i7 = some y ∧ ∃ t : Sh, y = t.d ∧ SD (3 + (2 - (rem.length + 1)) + 1) t := by
      refine atI_P (n := 5) a7 b7 rfl ?_
      exact all_app (all_cons ⟨.list s i6, rfl, hs.list i6 (by omega) (by omega)⟩ (all_cons ⟨.pair one s, rfl, hs0.pair hs⟩ (all_cons ⟨.pair s one, rfl, hs.pair hs0⟩ all_nil))) (all_cons ⟨.choice [one, s], rfl, SDb.choice (ss := [one, s]) (by simp) (by simp) (all_cons hs0 (all_cons hs all_nil))⟩ (all_cons ⟨.choice [s, one], rfl, SDb.choice (ss := [s, one]) (by simp) (by simp) (all_cons hs (all_cons hs0 all_nil))⟩ all_nil))
    obtain ⟨t, rfl, ht⟩ := hsh
    rw [e]
    conv => whnf
    exact ⟨t, _, _, _, rfl, by omega, ht.up (by omega), h7.up (by omega), ((o4.trans o5).trans o6).trans o7⟩
  · rintro env M4 ⟨s, e2, e3, e4, rfl, hr, hs, h4, o4⟩
    rw [List.length_nil] at hs h4
    refine ⟨trivial, ?_⟩
    conv => whnf
    refine use_take h4 (by omega) (by decide) (by decide) (by omega) fun i5 M5 a5 b5 h5 o5 => ?_
    conv => whnf
    split
    · conv => whnf
      refine run_use (r_record h5 (by omega) k (by omega)) (Nat.le_refl _) fun v M6 h => ?_
      obtain ⟨r1, rfl, hs6, h6, o6⟩ := h
      conv => whnf
      refine run_use (r_record h6 (by omega) k (by omega)) (Nat.le_refl _) fun v M7 h => ?_
      obtain ⟨r2, rfl, hs7, h7, o7⟩ := h
      refine ⟨lok rfl, ?_⟩
      conv => whnf
      exact .done ⟨.pair r1 r2, rfl, (hs6.pair hs7).up (by omega), h7.up (by omega), ((o4.trans o5).trans o6).trans o7⟩
    · conv => whnf
      exact .done ⟨s, rfl, hs, h5.up (by omega), o4.trans o5⟩
end Wp

/-! CsC: shapes varied (as K50c, with bounds). -/
namespace Wp
open PySem
theorem Sh.ds_at {ss : List Sh} {i : Int} (h0 : 0 ≤ i) (h1 : i < ((Sh.ds ss).length : Int)) : ∃ s, s ∈ ss ∧ atI (Sh.ds ss) i = some s.d := by
  rw [Sh.ds_map] at *
  obtain ⟨x, hx, e⟩ := atI_mem h0 h1
  obtain ⟨s, hs, rfl⟩ := List.mem_map.mp hx
  exact ⟨s, hs, e⟩
def vr (n : Nat) : Nat := 60 * (n + 1)
/-- a varied one, none deeper -/
def Vd (β : Int) (p : Addr) (n c m : Nat) (M : Mem) (v : D) (M' : Mem) : Prop := ∃ s : Sh, v = s.d ∧ SDb (β + 300) m s ∧ Pl p (n + c) M' ∧ Off1 p M M'
abbrev VariedAt (s : Sh) : Prop := ∀ (β : Int) (p : Addr) (n k : Nat) (M : Mem), B0 ≤ β → s.okc β = true → Pl p n M → n + 60 * (s.dep + 1) < 800000000000 → 2 * s.dep + 5 ≤ k → run tab k f_law_varied [.loc p, s.d] M (Vd β p n (60 * (s.dep + 1)) s.dep M) fun _ _ => False
theorem vd_leaf {β : Int} {p : Addr} {n n1 c m k : Nat} {M M1 : Mem} {E : XQ} (hβ : B0 ≤ β) (hP : Pl p n1 M1) (o : Off1 p M M1) (hn : n1 + 12 ≤ n + c) (hn2 : n1 < 900000000000) (hk : 2 ≤ k) : run tab k f_law_leaf [.loc p] M1 (fun x M' => Frz x M' (Vd β p n c m M)) E :=
  use_leaf hP hn2 hk fun s M' hs h2 o2 => .done ⟨s, rfl, hs.upb (by omega) (Nat.zero_le _), h2.up hn, o.trans o2⟩
theorem varied_nothing : VariedAt .nothing := by
  intro β p n k M hβ ok hP hn hk
  obtain ⟨k, rfl⟩ : ∃ j, k = j + 1 := ⟨k - 1, by omega⟩
  have hd : Sh.nothing.dep = 0 := rfl
  rw [hd] at hn hk ⊢
  refine run_in rfl rfl ?_
  conv => whnf
  exact vd_leaf (n := n) (c := 60 * (0 + 1)) (m := 0) (k := k) hβ hP .refl (by omega) (by omega) (by omega)
set_option maxHeartbeats 0 in
theorem r_varied_number {β : Int} {p : Addr} {n : Nat} {lo hi : Int} {M : Mem} (b1 : -β ≤ lo) (b2 : lo ≤ hi) (b3 : hi ≤ β) (hP : Pl p n M) (hn : n < 900000000000) (k : Nat) (hk : 2 ≤ k) : run tab k f_law_varied_number [.loc p, .int lo, .int hi] M (Vd β p n 1 0 M) fun _ _ => False := by
  obtain ⟨k, rfl⟩ : ∃ j, k = j + 1 := ⟨k - 1, by omega⟩
  refine run_in rfl rfl ?_
  conv => whnf
  refine ⟨lok rfl, ?_⟩
  refine ⟨lok rfl, ?_⟩
  refine ⟨lok rfl, ?_⟩
  refine ⟨lok rfl, ?_⟩
  refine ⟨lok rfl, ?_⟩
  refine ⟨lok rfl, ?_⟩
  refine ⟨lok rfl, ?_⟩
  conv => whnf
  refine use_take hP (by omega) (by decide) (by decide) (by omega) fun i1 M1 a1 b1 h1 o1 => ?_
  conv => whnf
  obtain ⟨y, e, u, v, rfl, c1, c2, c3⟩ : ∃ y, atI [D.tup [D.int lo, D.int (hi + 1)], D.tup [D.int lo, D.int (hi - 1)], D.tup [D.int (lo - 1), D.int hi], D.tup [D.int (lo + 1), D.int hi], D.tup [D.int lo, D.int (hi + 255)], D.tup [D.int lo, D.int lo]] i1 = some y ∧ ∃ u v : Int, y = D.tup [.int u, .int v] ∧ -(β + 300) ≤ u ∧ -(β + 300) ≤ v ∧ v ≤ β + 300 := by
    refine atI_P (n := 6) a1 b1 rfl ?_
    exact all_cons ⟨_, _, rfl, by omega, by omega, by omega⟩ (all_cons ⟨_, _, rfl, by omega, by omega, by omega⟩ (all_cons ⟨_, _, rfl, by omega, by omega, by omega⟩ (all_cons ⟨_, _, rfl, by omega, by omega, by omega⟩ (all_cons ⟨_, _, rfl, by omega, by omega, by omega⟩ (all_cons ⟨_, _, rfl, by omega, by omega, by omega⟩ all_nil)))))
  rw [e]
  conv => whnf
  refine ⟨lok rfl, ?_⟩
  conv => whnf
  exact .done ⟨.number (if v < u then v else u) v, rfl, .number (by split <;> omega) (by split <;> omega) c3, h1, o1⟩
set_option maxHeartbeats 0 in
theorem varied_number (lo hi : Int) : VariedAt (.number lo hi) := by
  intro β p n k M hβ ok hP hn hk
  obtain ⟨k, rfl⟩ : ∃ j, k = j + 1 := ⟨k - 1, by omega⟩
  have hd : (Sh.number lo hi).dep = 0 := rfl
  rw [hd] at hn hk ⊢
  have ok : (decide (-β ≤ lo) && (decide (lo ≤ hi) && decide (hi ≤ β))) = true := ok
  rw [Bool.and_eq_true, Bool.and_eq_true, decide_eq_true_eq, decide_eq_true_eq, decide_eq_true_eq] at ok
  refine run_in rfl rfl ?_
  conv => whnf
  refine use_take hP (by omega) (by decide) (by decide) (by omega) fun i1 M1 a1 b1 h1 o1 => ?_
  conv => whnf
  split
  · conv => whnf
    exact vd_leaf (n := n) (c := 60 * (0 + 1)) (m := 0) (k := k) hβ h1 o1 (by omega) (by omega) (by omega)
  · conv => whnf
    refine run_use (r_varied_number ok.1 ok.2.1 ok.2.2 h1 (by omega) k (by omega)) (Nat.le_refl _) fun v M2 h => ?_
    obtain ⟨s, rfl, hs, h2, o2⟩ := h
    exact .done ⟨s, rfl, hs, h2.up (by omega), o1.trans o2⟩
set_option maxHeartbeats 0 in
theorem varied_text (m : Int) : VariedAt (.text m) := by
  intro β p n k M hβ ok hP hn hk
  obtain ⟨k, rfl⟩ : ∃ j, k = j + 1 := ⟨k - 1, by omega⟩
  have hd : (Sh.text m).dep = 0 := rfl
  rw [hd] at hn hk ⊢
  refine run_in rfl rfl ?_
  conv => whnf
  refine use_take hP (by omega) (by decide) (by decide) (by omega) fun i1 M1 a1 b1 h1 o1 => ?_
  conv => whnf
  split
  · conv => whnf
    exact vd_leaf (n := n) (c := 60 * (0 + 1)) (m := 0) (k := k) hβ h1 o1 (by omega) (by omega) (by omega)
  · conv => whnf
    refine use_take h1 (by omega) (by decide) (by decide) (by omega) fun i2 M2 a2 b2 h2 o2 => ?_
    refine ⟨lok rfl, ?_⟩
    conv => whnf
    refine ⟨lok rfl, ?_⟩
    conv => whnf
    exact .done ⟨.text _, rfl, .text (by (repeat' split) <;> omega) (by (repeat' split) <;> omega), h2.up (by omega), o1.trans o2⟩
set_option maxHeartbeats 0 in
theorem varied_list {s : Sh} (m : Int) (ih : VariedAt s) : VariedAt (.list s m) := by
  intro β p n k M hβ ok hP hn hk
  obtain ⟨k, rfl⟩ : ∃ j, k = j + 1 := ⟨k - 1, by omega⟩
  have hd : (Sh.list s m).dep = s.dep + 1 := rfl
  have ok : ((decide (0 ≤ m) && decide (m ≤ 250)) && s.okc β) = true := ok
  rw [Bool.and_eq_true, Bool.and_eq_true, decide_eq_true_eq, decide_eq_true_eq] at ok
  have m1 := ok.1.1
  have m2 := ok.1.2
  have ok := ok.2
  rw [hd] at hn hk ⊢
  refine run_in rfl rfl ?_
  conv => whnf
  refine use_take hP (by omega) (by decide) (by decide) (by omega) fun i1 M1 a1 b1 h1 o1 => ?_
  conv => whnf
  split
  · conv => whnf
    exact vd_leaf (n := n) (c := 60 * (s.dep + 1 + 1)) (m := s.dep + 1) (k := k) hβ h1 o1 (by omega) (by omega) (by omega)
  · conv => whnf
    refine use_take h1 (by omega) (by decide) (by decide) (by omega) fun i2 M2 a2 b2 h2 o2 => ?_
    conv => whnf
    split
    · conv => whnf
      refine run_use (ih β p _ k M2 hβ ok h2 (by omega) (by omega)) (Nat.le_refl _) fun v M3 h => ?_
      obtain ⟨t, rfl, ht, h3, o3⟩ := h
      refine ⟨lok rfl, ?_⟩
      conv => whnf
      exact .done ⟨.list t m, rfl, ht.list m m1 m2, h3.up (by omega), (o1.trans o2).trans o3⟩
    · conv => whnf
      refine use_take h2 (by omega) (by decide) (by decide) (by omega) fun i3 M3 a3 b3 h3 o3 => ?_
      refine ⟨lok rfl, ?_⟩
      conv => whnf
      refine ⟨lok rfl, ?_⟩
      conv => whnf
      exact .done ⟨.list s _, rfl, .list _ (by (repeat' split) <;> omega) (by (repeat' split) <;> omega) ⟨Sh.okc_up (by omega) ok, Nat.le_refl _⟩, h3.up (by omega), (o1.trans o2).trans o3⟩
set_option maxHeartbeats 0 in
theorem varied_pair {a b : Sh} (iha : VariedAt a) (ihb : VariedAt b) : VariedAt (.pair a b) := by
  intro β p n k M hβ ok hP hn hk
  obtain ⟨k, rfl⟩ : ∃ j, k = j + 1 := ⟨k - 1, by omega⟩
  have hd : (Sh.pair a b).dep = max a.dep b.dep + 1 := rfl
  have ok : (a.okc β && b.okc β) = true := ok
  rw [Bool.and_eq_true] at ok
  rw [hd] at hn hk ⊢
  have sa : SDb (β + 300) (max a.dep b.dep) a := ⟨Sh.okc_up (by omega) ok.1, by omega⟩
  have sb : SDb (β + 300) (max a.dep b.dep) b := ⟨Sh.okc_up (by omega) ok.2, by omega⟩
  refine run_in rfl rfl ?_
  conv => whnf
  refine use_take hP (by omega) (by decide) (by decide) (by omega) fun i1 M1 a1 b1 h1 o1 => ?_
  conv => whnf
  split
  · conv => whnf
    exact vd_leaf (n := n) (c := 60 * (max a.dep b.dep + 1 + 1)) (m := max a.dep b.dep + 1) (k := k) hβ h1 o1 (by omega) (by omega) (by omega)
  · conv => whnf
    refine use_take h1 (by omega) (by decide) (by decide) (by omega) fun i2 M2 a2 b2 h2 o2 => ?_
    rcases (show i2 = 0 ∨ i2 = 1 by omega) with rfl | rfl
    · conv => whnf
      refine run_use (iha β p _ k M2 hβ ok.1 h2 (by omega) (by omega)) (Nat.le_refl _) fun v M3 h => ?_
      obtain ⟨t, rfl, ht, h3, o3⟩ := h
      conv => whnf
      repeat (first
        | (refine ⟨lok rfl, ?_⟩; conv => whnf)
        | (refine ⟨by decide, ?_⟩; conv => whnf))
      exact .done ⟨.pair t b, rfl, (ht.up (by omega)).pair sb, h3.up (by omega), (o1.trans o2).trans o3⟩
    · conv => whnf
      refine run_use (ihb β p _ k M2 hβ ok.2 h2 (by omega) (by omega)) (Nat.le_refl _) fun v M3 h => ?_
      obtain ⟨t, rfl, ht, h3, o3⟩ := h
      conv => whnf
      repeat (first
        | (refine ⟨lok rfl, ?_⟩; conv => whnf)
        | (refine ⟨by decide, ?_⟩; conv => whnf))
      exact .done ⟨.pair a t, rfl, sa.pair (ht.up (by omega)), h3.up (by omega), (o1.trans o2).trans o3⟩
theorem cut_mem' {α : Type} {xs : List α} {lo hi : Option Int} {P : α → Prop} (h : ∀ x ∈ xs, P x) : ∀ x ∈ cut xs lo hi, P x := fun x hx => h x (cut_mem hx)
theorem cut_two {α : Type} (xs : List α) {i : Int} (h0 : 0 ≤ i) (h1 : i < xs.length) : (cut xs none (some i)).length + 1 + (cut xs (some (i + 1)) none).length = xs.length := by
  unfold cut slN
  simp only [List.length_take, List.length_drop]
  rw [if_neg (by omega), if_neg (by omega)]
  omega
set_option maxHeartbeats 0 in
theorem r_varied_choice {ss : List Sh} (ih : ∀ s ∈ ss, VariedAt s) {β : Int} {p : Addr} {n : Nat} {M : Mem} (hβ : B0 ≤ β) (ok : (Sh.choice ss).okc β = true) (hP : Pl p n M) (hn : n + 60 * (Sh.deps ss + 1) + 30 < 800000000000) (k : Nat) (hk : 2 * Sh.deps ss + 6 ≤ k) :
    run tab k f_law_varied_choice [.loc p, .tup (Sh.ds ss)] M (Vd β p n (60 * (Sh.deps ss + 1) + 20) (Sh.deps ss + 1) M) fun _ _ => False := by
  obtain ⟨k, rfl⟩ : ∃ j, k = j + 1 := ⟨k - 1, by omega⟩
  have h2000 : 2000 ≤ sizeLine := by decide
  have ok : ((decide (1 ≤ ss.length) && decide (ss.length ≤ 9)) && Sh.okcs β ss) = true := ok
  rw [Bool.and_eq_true, Bool.and_eq_true] at ok
  have l1 := of_decide_eq_true ok.1.1
  have l9 := of_decide_eq_true ok.1.2
  have hall0 : ∀ s ∈ ss, SDb β (Sh.deps ss) s := fun s hs => ⟨Sh.okcs_mem ok.2 s hs, Sh.deps_mem s hs⟩
  have hall : ∀ s ∈ ss, SDb (β + 300) (Sh.deps ss) s := fun s hs => (hall0 s hs).upb (by omega) (Nat.le_refl _)
  have hln : (Sh.ds ss).length = ss.length := Sh.ds_len ss
  refine run_in rfl rfl ?_
  conv => whnf
  refine use_take hP (by omega) (by decide) (by decide) (by omega) fun w M1 a1 b1 h1 o1 => ?_
  -- the last way
  have last : ∀ {N : Ends}, (∀ v M', Vd β p n (60 * (Sh.deps ss + 1) + 20) (Sh.deps ss + 1) M v M' → N.rt v M') →
      wpS (run tab k) (match b_law_varied_choice.body with
        | .seq _ (.seq _ (.seq _ t)) => t
        | s => s) N [some (.loc p), some (.tup (Sh.ds ss)), some (.int w), none, none] M1 := by
    intro N hN
    conv => whnf
    refine use_take h1 (by omega) (by omega) (Nat.lt_trans (log2_small (by omega)) (by decide)) (by omega) fun i2 M2 a2 b2 h2 o2 => ?_
    conv => whnf
    refine ⟨⟨by omega, by omega⟩, ?_⟩
    refine each_inv (fun rem env M' => ∃ (i : Int) (e4 : Option D), env = [some (.loc p), some (.tup (Sh.ds ss)), some (.int w), some (.int i), e4] ∧ 0 ≤ i ∧ i < ((Sh.ds ss).length : Int) ∧ M' = M2 ∧ ∀ x ∈ rem, ∃ j : Int, x = D.int j ∧ 0 ≤ j ∧ j < ((Sh.ds ss).length : Int)) ?_ ?_ _ _ _ ⟨i2, none, rfl, a2, b2, rfl, fun x hx => ?_⟩
    · rintro x rem env M' ⟨i, e4, rfl, i0, i1, rfl, hx⟩
      obtain ⟨j, rfl, j0, j1⟩ := hx _ (List.mem_cons_self ..)
      have hx' : ∀ x ∈ rem, ∃ j : Int, x = D.int j ∧ 0 ≤ j ∧ j < ((Sh.ds ss).length : Int) := fun x h => hx x (List.mem_cons_of_mem _ h)
      refine ⟨trivial, ?_⟩
      conv => whnf
      split
      · conv => whnf
        obtain ⟨s, hs, e⟩ := Sh.ds_at j0 j1
        rw [e]
        cases s
        all_goals
          conv => whnf
          refine ⟨lok rfl, ?_⟩
          conv => whnf
          refine ⟨by decide +kernel, by decide +kernel, ?_⟩
          conv => whnf
          first
            | exact ⟨j, _, rfl, j0, j1, rfl, hx'⟩
            | exact ⟨i, _, rfl, i0, i1, rfl, hx'⟩
      · rename_i hw
        conv => whnf
        rw [hw]
        exact ⟨i, _, rfl, i0, i1, rfl, hx'⟩
    · rintro env M' ⟨i, e4, rfl, i0, i1, rfl, -⟩
      refine ⟨trivial, ?_⟩
      conv => whnf
      obtain ⟨s, hs, e⟩ := Sh.ds_at i0 i1
      have hsd := (hall s hs).de
      rw [e]
      conv => whnf
      refine run_use (ih s hs β p _ k _ hβ (hall0 s hs).ok h2 (by omega) (by omega)) (Nat.le_refl _) fun v M3 h => ?_
      obtain ⟨t, rfl, ht, h3, o3⟩ := h
      have c1 := cut_len ss none (some i)
      have c2 := cut_len ss (some (i + 1)) none
      refine ⟨lok rfl, ?_⟩
      conv => whnf
      rw [Sh.ds_map, cut_map]
      refine ⟨by rw [List.length_map, List.length_cons, List.length_nil]; omega, ?_⟩
      conv => whnf
      rw [cut_map]
      refine ⟨by rw [List.length_append, List.length_map, List.length_map, List.length_cons, List.length_nil]; omega, ?_⟩
      conv => whnf
      refine ⟨lok rfl, ?_⟩
      conv => whnf
      have htwo := cut_two ss i0 (by rw [← hln]; exact i1)
      refine hN _ _ ⟨.choice (cut ss none (some i) ++ [t] ++ cut ss (some (i + 1)) none), ?_, SDb.choice ?_ ?_ ?_, h3.up (by omega), (o1.trans o2).trans o3⟩
      · show _ = D.tup [.str "choice", .tup (Sh.ds (cut ss none (some i) ++ [t] ++ cut ss (some (i + 1)) none))]
        rw [Sh.ds_map, List.map_append, List.map_append]
        rfl
      · rw [List.length_append, List.length_append, List.length_cons]; omega
      · rw [List.length_append, List.length_append, List.length_cons, List.length_nil]; omega
      · exact all_app (all_app (cut_mem' hall) (all_cons (ht.up hsd) all_nil)) (cut_mem' hall)
    · obtain ⟨j, rfl, hj⟩ := rng_int x hx
      exact ⟨_, rfl, by omega, by omega⟩
  have more : ∀ {N : Ends}, (∀ v M', Vd β p n (60 * (Sh.deps ss + 1) + 20) (Sh.deps ss + 1) M v M' → N.rt v M') →
      wpS (run tab k) (match b_law_varied_choice.body with
        | .seq _ (.seq _ t) => t
        | s => s) N [some (.loc p), some (.tup (Sh.ds ss)), some (.int w), none, none] M1 := by
    intro N hN
    conv => whnf
    split
    · conv => whnf
      split
      · rename_i h9
        have h9 : ss.length < 9 := by have := of_decide_eq_true h9; rw [hln] at this; omega
        conv => whnf
        refine use_leaf h1 (by omega) (by omega) fun t M2 ht h2 o2 => ?_
        refine ⟨lok rfl, ?_⟩
        conv => whnf
        refine ⟨by rw [hln, List.length_cons, List.length_nil]; omega, ?_⟩
        conv => whnf
        refine ⟨lok rfl, ?_⟩
        conv => whnf
        refine hN _ _ ⟨.choice (ss ++ [t]), ?_, SDb.choice ?_ ?_ ?_, h2.up (by omega), o1.trans o2⟩
        · show _ = D.tup [.str "choice", .tup (Sh.ds (ss ++ [t]))]
          rw [Sh.ds_map, Sh.ds_map, List.map_append]
          rfl
        · rw [List.length_append]; omega
        · rw [List.length_append, List.length_cons, List.length_nil]; omega
        · exact all_app hall (all_cons (ht.upb (by omega) (Nat.zero_le _)) all_nil)
      · exact last hN
    · rename_i hw
      conv => whnf
      rw [hw]
      exact last hN
  conv => whnf
  split
  · conv => whnf
    split
    · rename_i h9
      have h9 : 1 < ss.length := by have := of_decide_eq_true h9; rw [hln] at this; omega
      conv => whnf
      rw [Sh.ds_map, cut_map]
      refine ⟨lok rfl, ?_⟩
      conv => whnf
      have c1 := cut_len ss none (some (-1))
      have c2 : (cut ss none (some (-1))).length = ss.length - 1 := by
        unfold cut slN
        simp only [List.length_take, List.length_drop]
        rw [if_pos (by decide)]
        omega
      refine .done ⟨.choice (cut ss none (some (-1))), ?_, SDb.choice (by omega) (by omega) (cut_mem' hall), h1.up (by omega), o1⟩
      show _ = D.tup [.str "choice", .tup (Sh.ds (cut ss none (some (-1))))]
      rw [Sh.ds_map]
    · exact more fun v M' h => .done h
  · rename_i hw
    conv => whnf
    rw [hw]
    exact more fun v M' h => .done h
theorem varied_choice {ss : List Sh} (ih : ∀ s ∈ ss, VariedAt s) : VariedAt (.choice ss) := by
  intro β p n k M hβ ok hP hn hk
  obtain ⟨k, rfl⟩ : ∃ j, k = j + 1 := ⟨k - 1, by omega⟩
  have hd : (Sh.choice ss).dep = Sh.deps ss + 1 := rfl
  rw [hd] at hn hk ⊢
  refine run_in rfl rfl ?_
  conv => whnf
  refine use_take hP (by omega) (by decide) (by decide) (by omega) fun i1 M1 a1 b1 h1 o1 => ?_
  conv => whnf
  split
  · conv => whnf
    exact vd_leaf (n := n) (c := 60 * (Sh.deps ss + 1 + 1)) (m := Sh.deps ss + 1) (k := k) hβ h1 o1 (by omega) (by omega) (by omega)
  · conv => whnf
    refine run_use (r_varied_choice ih hβ ok h1 (by omega) k (by omega)) (Nat.le_refl _) fun v M2 h => ?_
    obtain ⟨s, rfl, hs, h2, o2⟩ := h
    exact .done ⟨s, rfl, hs, h2.up (by omega), o1.trans o2⟩
mutual
theorem r_varied : ∀ s : Sh, VariedAt s
  | .nothing => varied_nothing
  | .number lo hi => varied_number lo hi
  | .text m => varied_text m
  | .list s m => varied_list m (r_varied s)
  | .pair a b => varied_pair (r_varied a) (r_varied b)
  | .choice ss => varied_choice (r_varieds ss)
theorem r_varieds : ∀ (ss : List Sh), ∀ s ∈ ss, VariedAt s
  | [], s, h => by cases h
  | x :: ss, s, h => by
    rcases List.mem_cons.mp h with h | h
    · rw [h]; exact r_varied x
    · exact r_varieds ss s h
end
end Wp

/-! CsD: is_within (as K50d, with bounds). -/
namespace Wp
open PySem
set_option maxHeartbeats 0 in
theorem r_bytes_for {lo hi : Int} {M : Mem} (k : Nat) (hk : 1 ≤ k) : run tab k f_bytes_for [(Sh.number lo hi).d] M (fun v M' => v = .int (pl (hi - lo).toNat : Nat) ∧ M' = M) fun _ _ => False := by
  obtain ⟨k, rfl⟩ : ∃ j, k = j + 1 := ⟨k - 1, by omega⟩
  refine run_in rfl rfl ?_
  conv => whnf
  refine ⟨(hi - lo).toNat + 2, loop_inv ?_ (fun j env M' => ∃ (m f : Nat) (mi : Int), mi.toNat = m ∧ env = [some (Sh.number lo hi).d, some (.int mi), some (.int (f : Nat))] ∧ f + pl m = pl (hi - lo).toNat ∧ m ≤ j ∧ M' = M) ?_ _ (hi - lo).toNat _ _ ⟨(hi - lo).toNat, 0, hi - lo, rfl, rfl, Nat.zero_add _, Nat.le_refl _, rfl⟩ (by omega)⟩
  · intro e M q q' hq h
    exact (mon _ _ (mon_run tab k) _).E (fun d M1 h => truW_mono (fun b M2 h => hq b M2 h) h) (fun _ _ h => h) h
  · rintro j env M' ⟨m, f, mi, hmi, rfl, hf, hj, rfl⟩
    conv => whnf
    by_cases e : m = 0
    · rw [decide_eq_false (by omega)]
      conv => whnf
      refine .done ⟨?_, rfl⟩
      subst e
      rw [pl_zero, Nat.add_zero] at hf
      rw [hf]
    · rw [decide_eq_true (by omega)]
      rw [pl_pos e] at hf
      refine ⟨j - 1, by omega, ?_⟩
      conv => whnf
      refine ⟨by decide, by decide, ?_⟩
      conv => whnf
      exact ⟨m / 256, f + 1, _, by omega, rfl, by omega, by omega, rfl⟩
set_option maxHeartbeats 0 in
theorem r_places {lo hi : Int} {M : Mem} (k : Nat) (hk : 1 ≤ k) : run tab k f_law_places [.int lo, .int hi] M (fun v M' => v = .int (pl (hi - lo).toNat : Nat) ∧ M' = M) fun _ _ => False := by
  obtain ⟨k, rfl⟩ : ∃ j, k = j + 1 := ⟨k - 1, by omega⟩
  refine run_in rfl rfl ?_
  conv => whnf
  refine ⟨(hi - lo).toNat + 2, loop_inv ?_ (fun j env M' => ∃ (m f : Nat) (mi : Int), mi.toNat = m ∧ env = [some (.int lo), some (.int hi), some (.int (f : Nat)), some (.int mi)] ∧ f + pl m = pl (hi - lo).toNat ∧ m ≤ j ∧ M' = M) ?_ _ (hi - lo).toNat _ _ ⟨(hi - lo).toNat, 0, hi - lo, rfl, rfl, Nat.zero_add _, Nat.le_refl _, rfl⟩ (by omega)⟩
  · intro e M q q' hq h
    exact (mon _ _ (mon_run tab k) _).E (fun d M1 h => truW_mono (fun b M2 h => hq b M2 h) h) (fun _ _ h => h) h
  · rintro j env M' ⟨m, f, mi, hmi, rfl, hf, hj, rfl⟩
    conv => whnf
    by_cases e : m = 0
    · rw [decide_eq_false (by omega)]
      conv => whnf
      refine .done ⟨?_, rfl⟩
      subst e
      rw [pl_zero, Nat.add_zero] at hf
      rw [hf]
    · rw [decide_eq_true (by omega)]
      rw [pl_pos e] at hf
      refine ⟨j - 1, by omega, ?_⟩
      conv => whnf
      refine ⟨by decide, by decide, ?_⟩
      conv => whnf
      exact ⟨m / 256, f + 1, _, by omega, rfl, by omega, by omega, rfl⟩
theorem bools_bl : ∀ bs : List Bool, bools (bs.map D.bl) = some bs
  | [] => rfl
  | b :: bs => by
    rw [List.map_cons]
    unfold bools
    rw [bools_bl bs]
    rfl
theorem toPys_bl : ∀ (bs : List Bool), toPys (bs.map D.bl) = some (bs.map PyData.bool)
  | [] => rfl
  | b :: bs => by
    rw [List.map_cons]
    unfold toPys
    rw [toPys_bl bs]
    rfl
theorem canLay_bl : ∀ (bs : List Bool), PyData.canLayAll0 (bs.map PyData.bool) = true
  | [] => rfl
  | b :: bs => by
    rw [List.map_cons]
    unfold PyData.canLayAll0
    rw [canLay_bl bs]
    rfl
theorem depth_bl : ∀ (bs : List Bool), PyData.depthAll (bs.map PyData.bool) = 0
  | [] => by decide
  | b :: bs => by
    rw [List.map_cons]
    unfold PyData.depthAll
    rw [depth_bl bs]
    unfold PyData.depth
    rfl
theorem any_bl : ∀ (bs : List Bool), (!((bs.map PyData.bool).any fun z => PyData.eqv z (.bool false))) = bs.all id
  | [] => rfl
  | b :: bs => by
    rw [List.map_cons, List.any_cons, List.all_cons, Bool.not_or, any_bl bs]
    cases b <;> rfl
theorem notin_false {bs : List Bool} {M : Mem} {Q : QK} (h : Q (.bl (bs.all id)) M) : inW true (.bl false) (.lst (bs.map .bl)) M Q := by
  show (match toPys (bs.map .bl) with
      | some ds => SeqAt.shaped (.bool false) = true ∧ SeqAt.shaped (.list ds) = true ∧ Q (.bl (if true then !(ds.any fun z => PyData.eqv z (.bool false)) else ds.any fun z => PyData.eqv z (.bool false))) M
      | none => False)
  rw [toPys_bl]
  refine ⟨rfl, ?_, ?_⟩
  · show (PyData.canLayAll0 (bs.map PyData.bool) && decide (PyData.depth (.list (bs.map PyData.bool)) ≤ 64)) = true
    rw [canLay_bl]
    unfold PyData.depth
    rw [depth_bl]
    rfl
  · show Q (.bl (!((bs.map PyData.bool).any fun z => PyData.eqv z (.bool false)))) M
    rw [any_bl]
    exact h
/-- pairs side by side -/
def prD (l : List (Sh × Sh)) : List D := l.map fun p => .tup [p.1.d, p.2.d]
theorem zip_ds : ∀ (ss rr : List Sh), zipD (Sh.ds ss) (Sh.ds rr) = prD (ss.zip rr)
  | [], rr => rfl
  | s :: ss, [] => rfl
  | s :: ss, r :: rr => congrArg (D.tup [s.d, r.d] :: ·) (zip_ds ss rr)
theorem all_zip : ∀ (ss rr : List Sh), withinAll ss rr = (ss.zip rr).all fun p => withinB p.1 p.2
  | [], rr => by unfold withinAll; rfl
  | s :: ss, [] => by unfold withinAll; rfl
  | s :: ss, r :: rr => by
    unfold withinAll
    rw [List.zip_cons_cons, List.all_cons, ← all_zip ss rr]
theorem okbs_mem : ∀ {ss : List Sh}, Sh.okbs ss = true → ∀ s ∈ ss, s.okb = true
  | [], _, s, h => by cases h
  | x :: ss, ok, s, h => by
    unfold Sh.okbs at ok
    rw [Bool.and_eq_true] at ok
    rcases List.mem_cons.mp h with h | h
    · rw [h]; exact ok.1
    · exact okbs_mem ok.2 s h
abbrev WithAt (f : Nat) (s : Sh) : Prop := ∀ (r : Sh) (k : Nat) (M : Mem), s.okb = true → s.dep + 3 ≤ k → run tab k f [s.d, r.d] M (fun v M' => v = .bl (withinB s r) ∧ M' = M) fun _ _ => False
/-- the comprehension over pairs -/
theorem comp_zip {f k : Nat} {ss rr : List Sh} (ih : ∀ s ∈ ss, WithAt f s) (hk : Sh.deps ss + 3 ≤ k) (ok : Sh.okbs ss = true) (hl : ss.length ≤ 9) {env : Env} (henv : env.length = 5) {M : Mem} {Q : AK} (hQ : ∀ bs : List Bool, bs.length ≤ 9 → bs.all id = withinAll ss rr → Q (bs.map .bl) M) :
    compW (stepC (run tab k) (.co (.nm 3) (.co (.nm 4) .no)) .nopart (.call f (.cons (.var 3) (.cons (.var 4) .nil)))) (fun _ => True) env (zipD (Sh.ds ss) (Sh.ds rr)) [] M Q := by
  rw [zip_ds]
  refine comp_inv (fun ds acc M' => ∃ (l : List (Sh × Sh)) (bs : List Bool), ds = prD l ∧ (∀ p ∈ l, p.1 ∈ ss) ∧ acc = bs.map .bl ∧ bs.length + l.length ≤ 9 ∧ (bs.all id && l.all fun p => withinB p.1 p.2) = withinAll ss rr ∧ M' = M) ?_ ?_ _ _ _ ⟨ss.zip rr, [], rfl, fun p hp => (List.of_mem_zip hp).1, rfl, ?_, ?_, rfl⟩
  · rintro x ds acc M' ⟨l, bs, hd, hm, rfl, hlen, hW, rfl⟩
    match l, hd with
    | p :: l, hd =>
      injection hd with hx hd'
      subst hx
      rw [List.length_cons] at hlen
      have hp := hm p (List.mem_cons_self ..)
      obtain ⟨e0, e1, e2, e3, e4, rfl⟩ : ∃ e0 e1 e2 e3 e4, env = [e0, e1, e2, e3, e4] := by
        match env, henv with
        | [a, b, c, d, e], _ => exact ⟨a, b, c, d, e, rfl⟩
      refine ⟨trivial, ?_⟩
      conv => whnf
      refine run_is (ih p.1 hp p.2 k M' (okbs_mem ok _ hp) (by have := Sh.deps_mem p.1 hp; omega)) (Nat.le_refl _) ?_
      have h9 : 9 < sizeLine := by decide
      refine ⟨by rw [List.length_map]; omega, l, bs ++ [withinB p.1 p.2], hd', fun q hq => hm q (List.mem_cons_of_mem _ hq), by rw [List.map_append]; rfl, by rw [List.length_append, List.length_cons, List.length_nil]; omega, ?_, rfl⟩
      rw [← hW, List.all_append, List.all_cons, List.all_cons, List.all_nil, Bool.and_true, Bool.and_assoc]
      rfl
  · rintro acc M' ⟨l, bs, hd, hm, rfl, hlen, hW, rfl⟩
    match l, hd with
    | [], hd =>
      refine ⟨trivial, hQ bs (by rw [List.length_nil] at hlen; omega) ?_⟩
      rw [← hW, List.all_nil, Bool.and_true]
  · rw [List.length_zip, List.length_nil]; omega
  · rw [all_zip]; rfl
set_option maxHeartbeats 0 in
theorem is_within_leafs {s : Sh} (hs : s.dep = 0 ∧ (∀ ss, s ≠ .choice ss)) : WithAt f_is_within s := by
  intro r k M ok hk
  obtain ⟨k, rfl⟩ : ∃ j, k = j + 1 := ⟨k - 1, by omega⟩
  refine run_in rfl rfl ?_
  cases s
  case list => exact absurd hs.1 (by unfold Sh.dep; omega)
  case pair => exact absurd hs.1 (by unfold Sh.dep; omega)
  case choice ss => exact absurd rfl (hs.2 ss)
  case nothing =>
    cases r
    all_goals
      conv => whnf
      exact .done ⟨rfl, rfl⟩
  case text m =>
    cases r
    all_goals
      conv => whnf
      exact .done ⟨rfl, rfl⟩
  case number lo hi =>
    cases r
    case number lo' hi' =>
      have goal : withinB (.number lo hi) (.number lo' hi') = (decide (lo = lo') && (decide (pl (hi - lo).toNat = pl (hi' - lo').toNat) && decide (hi ≤ hi'))) := by unfold withinB; rfl
      rw [goal]
      conv => whnf
      cases h1 : decide (lo = lo')
      · conv => whnf
        exact .done ⟨rfl, rfl⟩
      · conv => whnf
        refine run_is (r_bytes_for k (by omega)) (Nat.le_refl _) ?_
        conv => whnf
        refine run_is (r_bytes_for k (by omega)) (Nat.le_refl _) ?_
        conv => whnf
        by_cases h2 : pl (hi - lo).toNat = pl (hi' - lo').toNat
        · rw [decide_eq_true (show ((pl (hi - lo).toNat : Nat) : Int) = (pl (hi' - lo').toNat : Nat) by rw [h2]), decide_eq_true h2]
          conv => whnf
          exact .done ⟨rfl, rfl⟩
        · rw [decide_eq_false (show ¬ ((pl (hi - lo).toNat : Nat) : Int) = (pl (hi' - lo').toNat : Nat) by omega), decide_eq_false h2]
          conv => whnf
          exact .done ⟨rfl, rfl⟩
    all_goals
      conv => whnf
      exact .done ⟨rfl, rfl⟩
set_option maxHeartbeats 0 in
theorem is_within_list {s : Sh} (m : Int) (ih : WithAt f_is_within s) : WithAt f_is_within (.list s m) := by
  intro r k M ok hk
  have ok : s.okb = true := by
    unfold Sh.okb at ok
    rw [Bool.and_eq_true] at ok
    exact ok.2
  have hk : s.dep + 1 + 3 ≤ k := hk
  obtain ⟨k, rfl⟩ : ∃ j, k = j + 1 := ⟨k - 1, by omega⟩
  refine run_in rfl rfl ?_
  cases r
  case list s' m' =>
    have goal : withinB (.list s m) (.list s' m') = (decide (m ≤ m') && (decide (m = 0) || withinB s s')) := by rw [withinB]
    rw [goal]
    conv => whnf
    cases h1 : decide (m ≤ m')
    · conv => whnf
      exact .done ⟨rfl, rfl⟩
    · conv => whnf
      cases h2 : decide (m = 0)
      · conv => whnf
        refine run_is (ih s' k M ok (by omega)) (Nat.le_refl _) ?_
        conv => whnf
        exact .done ⟨rfl, rfl⟩
      · conv => whnf
        exact .done ⟨rfl, rfl⟩
  all_goals
    conv => whnf
    exact .done ⟨rfl, rfl⟩
set_option maxHeartbeats 0 in
theorem is_within_pair {a b : Sh} (iha : WithAt f_is_within a) (ihb : WithAt f_is_within b) : WithAt f_is_within (.pair a b) := by
  intro r k M ok hk
  have hk : max a.dep b.dep + 1 + 3 ≤ k := hk
  have ok : (a.okb && b.okb) = true := ok
  rw [Bool.and_eq_true] at ok
  obtain ⟨k, rfl⟩ : ∃ j, k = j + 1 := ⟨k - 1, by omega⟩
  refine run_in rfl rfl ?_
  cases r
  case pair a' b' =>
    have goal : withinB (.pair a b) (.pair a' b') = (withinB a a' && withinB b b') := by rw [withinB]
    rw [goal]
    conv => whnf
    refine run_is (iha a' k M ok.1 (by omega)) (Nat.le_refl _) ?_
    cases withinB a a'
    · conv => whnf
      exact .done ⟨rfl, rfl⟩
    · conv => whnf
      refine run_is (ihb b' k M ok.2 (by omega)) (Nat.le_refl _) ?_
      conv => whnf
      exact .done ⟨rfl, rfl⟩
  all_goals
    conv => whnf
    exact .done ⟨rfl, rfl⟩
set_option maxHeartbeats 0 in
theorem is_within_choice {ss : List Sh} (ih : ∀ s ∈ ss, WithAt f_is_within s) : WithAt f_is_within (.choice ss) := by
  intro r k M ok hk
  have hk : Sh.deps ss + 1 + 3 ≤ k := hk
  have ok : ((decide (1 ≤ ss.length) && decide (ss.length ≤ 9)) && Sh.okbs ss) = true := ok
  rw [Bool.and_eq_true, Bool.and_eq_true] at ok
  have l9 := of_decide_eq_true ok.1.2
  have h2000 : 2000 ≤ sizeLine := by decide
  obtain ⟨k, rfl⟩ : ∃ j, k = j + 1 := ⟨k - 1, by omega⟩
  refine run_in rfl rfl ?_
  cases r
  case choice rr =>
    have goal : withinB (.choice ss) (.choice rr) = (decide (ss.length ≤ rr.length) && withinAll ss rr) := by rw [withinB]
    rw [goal]
    conv => whnf
    have hlen : decide (((Sh.ds ss).length : Int) ≤ ((Sh.ds rr).length : Int)) = decide (ss.length ≤ rr.length) := by
      rw [Sh.ds_len, Sh.ds_len]
      congr 1
      exact propext (by omega)
    rw [hlen]
    cases decide (ss.length ≤ rr.length)
    · conv => whnf
      exact .done ⟨rfl, rfl⟩
    · conv => whnf
      refine comp_zip ih (by omega) ok.2 l9 rfl fun bs hb hW => ?_
      refine newL_fz (by rw [List.length_map]; omega) ?_
      conv => whnf
      rw [bools_bl]
      conv => whnf
      rw [hW]
      exact .done ⟨rfl, rfl⟩
  all_goals
    conv => whnf
    exact .done ⟨rfl, rfl⟩
mutual
theorem r_is_within : ∀ s : Sh, WithAt f_is_within s
  | .nothing => is_within_leafs ⟨rfl, fun _ h => by cases h⟩
  | .number _ _ => is_within_leafs ⟨rfl, fun _ h => by cases h⟩
  | .text _ => is_within_leafs ⟨rfl, fun _ h => by cases h⟩
  | .list s m => is_within_list m (r_is_within s)
  | .pair a b => is_within_pair (r_is_within a) (r_is_within b)
  | .choice ss => is_within_choice (r_is_withins ss)
theorem r_is_withins : ∀ (ss : List Sh), ∀ s ∈ ss, WithAt f_is_within s
  | [], s, h => by cases h
  | x :: ss, s, h => by
    rcases List.mem_cons.mp h with h | h
    · rw [h]; exact r_is_within x
    · exact r_is_withins ss s h
end
end Wp

/-! PwPl: plain data (no truths) set beside one another: alike just where they are the same. -/
namespace Wp
open PySem
mutual
def plV : D → Bool
  | .non => true
  | .int _ => true
  | .str z => PyData.strOk z
  | .tup ds => plVs ds
  | .lst ds => plVs ds
  | _ => false
def plVs : List D → Bool
  | [] => true
  | d :: ds => plV d && plVs ds
end
theorem plVs_of : ∀ {ds : List D}, plVs ds = true → ∀ d ∈ ds, plV d = true
  | [], _, d, hd => by cases hd
  | x :: ds, h, d, hd => by
    unfold plVs at h
    rw [Bool.and_eq_true] at h
    cases hd with
    | head => exact h.1
    | tail _ hd => exact plVs_of h.2 d hd
theorem plVs_iff : ∀ {ds : List D}, (∀ d ∈ ds, plV d = true) → plVs ds = true
  | [], _ => by unfold plVs; rfl
  | x :: ds, h => by
    unfold plVs
    rw [Bool.and_eq_true]
    exact ⟨h x (List.mem_cons_self ..), plVs_iff fun d hd => h d (List.mem_cons_of_mem _ hd)⟩
theorem plV_ls {ds : List D} (h : ∀ d ∈ ds, plV d = true) : plV (.lst ds) = true := by unfold plV; exact plVs_iff h
theorem plV_tp {ds : List D} (h : ∀ d ∈ ds, plV d = true) : plV (.tup ds) = true := by unfold plV; exact plVs_iff h
theorem plV_ints (bs : List Int) : plV (.lst (bs.map D.int)) = true := plV_ls fun d hd => by
  obtain ⟨b, _, rfl⟩ := List.mem_map.mp hd
  unfold plV; rfl
mutual
theorem toPy_pl : ∀ {v : D}, plV v = true → ∃ p, toPy v = some p ∧ p.canLay0 = true ∧ p.depth ≤ dep v
  | .non, _ => ⟨.none, rfl, by decide, by decide⟩
  | .int i, _ => ⟨.int i, rfl, rfl, by unfold PyData.depth; exact Nat.zero_le _⟩
  | .str z, h => ⟨.str z, rfl, by unfold plV at h; exact h, by unfold PyData.depth; exact Nat.zero_le _⟩
  | .tup ds, h => by
    unfold plV at h
    obtain ⟨ps, e, c, d⟩ := toPys_pl (plVs_of h)
    refine ⟨.tuple ps, by unfold toPy; rw [e]; rfl, by unfold PyData.canLay0; exact c, ?_⟩
    unfold PyData.depth dep
    omega
  | .lst ds, h => by
    unfold plV at h
    obtain ⟨ps, e, c, d⟩ := toPys_pl (plVs_of h)
    refine ⟨.list ps, by unfold toPy; rw [e]; rfl, by unfold PyData.canLay0; exact c, ?_⟩
    unfold PyData.depth dep
    omega
  | .bl _, h => by unfold plV at h; cases h
  | .scr _, h => by unfold plV at h; cases h
  | .emp, h => by unfold plV at h; cases h
  | .loc _, h => by unfold plV at h; cases h
theorem toPys_pl : ∀ {ds : List D}, (∀ d ∈ ds, plV d = true) → ∃ ps, toPys ds = some ps ∧ PyData.canLayAll0 ps = true ∧ PyData.depthAll ps ≤ deps ds
  | [], _ => ⟨[], rfl, by decide, by decide⟩
  | d :: ds, h => by
    obtain ⟨p, e, c, dd⟩ := toPy_pl (h d (List.mem_cons_self ..))
    obtain ⟨ps, e2, c2, dd2⟩ := toPys_pl (ds := ds) fun x hx => h x (List.mem_cons_of_mem _ hx)
    refine ⟨p :: ps, by unfold toPys; rw [e, e2], by unfold PyData.canLayAll0; rw [c, c2]; rfl, ?_⟩
    unfold PyData.depthAll deps
    omega
end
theorem toPys_consH {d : D} {ds : List D} {ps : List PyData} (h : toPys (d :: ds) = some ps) : ∃ p qs, toPy d = some p ∧ toPys ds = some qs ∧ ps = p :: qs := by
  unfold toPys at h
  split at h
  · rename_i p qs e1 e2
    cases h
    exact ⟨p, qs, e1, e2, rfl⟩
  · cases h
mutual
theorem eqv_pl : ∀ {v w : D} {p q : PyData}, plV v = true → plV w = true → toPy v = some p → toPy w = some q → (PyData.eqv p q = true ↔ v = w)
  | .non, w, p, q, hv, hw, ev, ew => by
    cases ev
    cases w
    case non => cases ew; exact ⟨fun _ => rfl, fun _ => by unfold PyData.eqv; rfl⟩
    case int => cases ew; exact ⟨fun h => (by unfold PyData.eqv at h; cases h), fun h => (by cases h)⟩
    case str => cases ew; exact ⟨fun h => (by unfold PyData.eqv at h; cases h), fun h => (by cases h)⟩
    case tup ds =>
      obtain ⟨ps, e, _⟩ := toPys_pl (plVs_of (by unfold plV at hw; exact hw) : ∀ d ∈ ds, plV d = true)
      unfold toPy at ew; rw [e] at ew; cases ew
      exact ⟨fun h => (by unfold PyData.eqv at h; cases h), fun h => (by cases h)⟩
    case lst ds =>
      obtain ⟨ps, e, _⟩ := toPys_pl (plVs_of (by unfold plV at hw; exact hw) : ∀ d ∈ ds, plV d = true)
      unfold toPy at ew; rw [e] at ew; cases ew
      exact ⟨fun h => (by unfold PyData.eqv at h; cases h), fun h => (by cases h)⟩
    all_goals (unfold plV at hw; cases hw)
  | .int i, w, p, q, hv, hw, ev, ew => by
    cases ev
    cases w
    case non => cases ew; exact ⟨fun h => (by unfold PyData.eqv at h; cases h), fun h => (by cases h)⟩
    case int j =>
      cases ew
      refine ⟨fun h => ?_, fun h => ?_⟩
      · unfold PyData.eqv at h
        rw [eq_of_beq h]
      · cases h
        unfold PyData.eqv
        exact beq_self_eq_true i
    case str => cases ew; exact ⟨fun h => (by unfold PyData.eqv at h; cases h), fun h => (by cases h)⟩
    case tup ds =>
      obtain ⟨ps, e, _⟩ := toPys_pl (plVs_of (by unfold plV at hw; exact hw) : ∀ d ∈ ds, plV d = true)
      unfold toPy at ew; rw [e] at ew; cases ew
      exact ⟨fun h => (by unfold PyData.eqv at h; cases h), fun h => (by cases h)⟩
    case lst ds =>
      obtain ⟨ps, e, _⟩ := toPys_pl (plVs_of (by unfold plV at hw; exact hw) : ∀ d ∈ ds, plV d = true)
      unfold toPy at ew; rw [e] at ew; cases ew
      exact ⟨fun h => (by unfold PyData.eqv at h; cases h), fun h => (by cases h)⟩
    all_goals (unfold plV at hw; cases hw)
  | .str z, w, p, q, hv, hw, ev, ew => by
    cases ev
    cases w
    case non => cases ew; exact ⟨fun h => (by unfold PyData.eqv at h; cases h), fun h => (by cases h)⟩
    case int => cases ew; exact ⟨fun h => (by unfold PyData.eqv at h; cases h), fun h => (by cases h)⟩
    case str y =>
      cases ew
      refine ⟨fun h => ?_, fun h => ?_⟩
      · unfold PyData.eqv at h
        rw [eq_of_beq h]
      · cases h
        unfold PyData.eqv
        exact beq_self_eq_true z
    case tup ds =>
      obtain ⟨ps, e, _⟩ := toPys_pl (plVs_of (by unfold plV at hw; exact hw) : ∀ d ∈ ds, plV d = true)
      unfold toPy at ew; rw [e] at ew; cases ew
      exact ⟨fun h => (by unfold PyData.eqv at h; cases h), fun h => (by cases h)⟩
    case lst ds =>
      obtain ⟨ps, e, _⟩ := toPys_pl (plVs_of (by unfold plV at hw; exact hw) : ∀ d ∈ ds, plV d = true)
      unfold toPy at ew; rw [e] at ew; cases ew
      exact ⟨fun h => (by unfold PyData.eqv at h; cases h), fun h => (by cases h)⟩
    all_goals (unfold plV at hw; cases hw)
  | .tup xs, w, p, q, hv, hw, ev, ew => by
    unfold plV at hv
    obtain ⟨ps, e, _⟩ := toPys_pl (plVs_of hv)
    unfold toPy at ev; rw [e] at ev; cases ev
    cases w
    case non => cases ew; exact ⟨fun h => (by unfold PyData.eqv at h; cases h), fun h => (by cases h)⟩
    case int => cases ew; exact ⟨fun h => (by unfold PyData.eqv at h; cases h), fun h => (by cases h)⟩
    case str => cases ew; exact ⟨fun h => (by unfold PyData.eqv at h; cases h), fun h => (by cases h)⟩
    case tup ds =>
      unfold plV at hw
      obtain ⟨qs, e2, _⟩ := toPys_pl (plVs_of hw)
      unfold toPy at ew; rw [e2] at ew; cases ew
      have k := eqvs_pl (plVs_of hv) (plVs_of hw) e e2
      unfold PyData.eqv
      rw [k]
      exact ⟨fun h => by rw [h], fun h => by cases h; rfl⟩
    case lst ds =>
      obtain ⟨ps, e, _⟩ := toPys_pl (plVs_of (by unfold plV at hw; exact hw) : ∀ d ∈ ds, plV d = true)
      unfold toPy at ew; rw [e] at ew; cases ew
      exact ⟨fun h => (by unfold PyData.eqv at h; cases h), fun h => (by cases h)⟩
    all_goals (unfold plV at hw; cases hw)
  | .lst xs, w, p, q, hv, hw, ev, ew => by
    unfold plV at hv
    obtain ⟨ps, e, _⟩ := toPys_pl (plVs_of hv)
    unfold toPy at ev; rw [e] at ev; cases ev
    cases w
    case non => cases ew; exact ⟨fun h => (by unfold PyData.eqv at h; cases h), fun h => (by cases h)⟩
    case int => cases ew; exact ⟨fun h => (by unfold PyData.eqv at h; cases h), fun h => (by cases h)⟩
    case str => cases ew; exact ⟨fun h => (by unfold PyData.eqv at h; cases h), fun h => (by cases h)⟩
    case lst ds =>
      unfold plV at hw
      obtain ⟨qs, e2, _⟩ := toPys_pl (plVs_of hw)
      unfold toPy at ew; rw [e2] at ew; cases ew
      have k := eqvs_pl (plVs_of hv) (plVs_of hw) e e2
      unfold PyData.eqv
      rw [k]
      exact ⟨fun h => by rw [h], fun h => by cases h; rfl⟩
    case tup ds =>
      obtain ⟨ps, e, _⟩ := toPys_pl (plVs_of (by unfold plV at hw; exact hw) : ∀ d ∈ ds, plV d = true)
      unfold toPy at ew; rw [e] at ew; cases ew
      exact ⟨fun h => (by unfold PyData.eqv at h; cases h), fun h => (by cases h)⟩
    all_goals (unfold plV at hw; cases hw)
  | .bl _, _, _, _, h, _, _, _ => by unfold plV at h; cases h
  | .scr _, _, _, _, h, _, _, _ => by unfold plV at h; cases h
  | .emp, _, _, _, h, _, _, _ => by unfold plV at h; cases h
  | .loc _, _, _, _, h, _, _, _ => by unfold plV at h; cases h
theorem eqvs_pl : ∀ {vs ws : List D} {ps qs : List PyData}, (∀ d ∈ vs, plV d = true) → (∀ d ∈ ws, plV d = true) → toPys vs = some ps → toPys ws = some qs → (PyData.eqvAll ps qs = true ↔ vs = ws)
  | [], ws, ps, qs, hv, hw, ev, ew => by
    cases ev
    cases ws with
    | nil => cases ew; exact ⟨fun _ => rfl, fun _ => by unfold PyData.eqvAll; rfl⟩
    | cons w ws =>
      obtain ⟨q, qs, _, _, rfl⟩ := toPys_consH ew
      exact ⟨fun h => (by unfold PyData.eqvAll at h; cases h), fun h => (by cases h)⟩
  | v :: vs, ws, ps, qs, hv, hw, ev, ew => by
    obtain ⟨p, ps, e1, e2, rfl⟩ := toPys_consH ev
    cases ws with
    | nil =>
      cases ew
      exact ⟨fun h => (by unfold PyData.eqvAll at h; cases h), fun h => (by cases h)⟩
    | cons w ws =>
      obtain ⟨q, qs, e3, e4, rfl⟩ := toPys_consH ew
      have a := eqv_pl (hv v (List.mem_cons_self ..)) (hw w (List.mem_cons_self ..)) e1 e3
      have b := eqvs_pl (fun d hd => hv d (List.mem_cons_of_mem _ hd)) (fun d hd => hw d (List.mem_cons_of_mem _ hd)) e2 e4
      unfold PyData.eqvAll
      rw [Bool.and_eq_true, a, b]
      exact ⟨fun h => by rw [h.1, h.2], fun h => by cases h; exact ⟨rfl, rfl⟩⟩
end
theorem toPy1_pl {M : Mem} {v : D} (h : plV v = true) : toPy1 M v = toPy v := by
  cases v <;> first
    | rfl
    | (unfold plV at h; cases h)
theorem toPys1_pl {M : Mem} : ∀ {ds : List D}, (∀ d ∈ ds, plV d = true) → toPys1 M ds = toPys ds
  | [], _ => rfl
  | d :: ds, h => by
    unfold toPys1 toPys
    rw [toPy1_pl (h d (List.mem_cons_self ..)), toPys1_pl fun x hx => h x (List.mem_cons_of_mem _ hx)]
theorem toPyM_pl {M : Mem} {v : D} (h : plV v = true) : toPyM M v = toPy v := by
  cases v with
  | tup ds =>
    have h2 : plVs ds = true := by unfold plV at h; exact h
    show (toPys1 M ds).map PyData.tuple = (toPys ds).map PyData.tuple
    rw [toPys1_pl (plVs_of h2)]
  | _ => exact toPy1_pl (M := M) h
theorem shaped_pl {v : D} {p : PyData} (h : plV v = true) (hd : dep v ≤ 60) (e : toPy v = some p) : SeqAt.shaped p = true := by
  obtain ⟨q, e2, c, d⟩ := toPy_pl h
  rw [e] at e2
  cases e2
  show (p.canLay0 && decide (p.depth ≤ 64)) = true
  rw [c, decide_eq_true (by omega)]; rfl
/-- by values -/
theorem eqP_pl {v w : D} {neg : Bool} {M : Mem} {Q : QK} (hv : plV v = true) (hw : plV w = true) (dv : dep v ≤ 60) (dw : dep w ≤ 60) (h1 : v = w → Q (.bl (!neg)) M) (h2 : v ≠ w → Q (.bl neg) M) : eqP neg v w M Q := by
  obtain ⟨p, ep, _⟩ := toPy_pl hv
  obtain ⟨q, eq, _⟩ := toPy_pl hw
  unfold eqP
  rw [toPyM_pl hv, toPyM_pl hw, ep, eq]
  refine ⟨shaped_pl hv dv ep, shaped_pl hw dw eq, ?_⟩
  have k := eqv_pl hv hw ep eq
  by_cases e : v = w
  · rw [k.mpr e]
    cases neg <;> exact h1 e
  · rw [Bool.eq_false_iff.mpr fun z => e (k.mp z)]
    cases neg <;> exact h2 e
theorem eqL_pl {v w : D} {neg : Bool} {M : Mem} {Q : QK} (hv : plV v = true) (hw : plV w = true) (dv : dep v ≤ 60) (dw : dep w ≤ 60) (h1 : v = w → Q (.bl (!neg)) M) (h2 : v ≠ w → Q (.bl neg) M) : eqL neg v w M Q := by
  unfold eqL
  have P := eqP_pl (neg := neg) (M := M) (Q := Q) hv hw dv dw h1 h2
  cases q1 : asL M v with
  | none =>
    dsimp only
    cases q3 : eqU v w with
    | false => exact P
    | true => exact h2 fun z => by subst z; cases v <;> first | (cases q3; done) | (rename_i ds; cases ds <;> cases q3)
  | some xs =>
    cases q2 : asL M w with
    | none =>
      dsimp only
      cases q3 : eqU v w with
      | false => exact P
      | true => exact h2 fun z => by subst z; cases v <;> first | (cases q3; done) | (rename_i ds; cases ds <;> cases q3)
    | some ys =>
      dsimp only
      by_cases hl : xs.length = ys.length
      · rw [if_pos hl]; exact P
      · rw [if_neg hl]
        refine h2 fun z => hl ?_
        subst z
        rw [q1] at q2
        cases q2
        rfl
theorem eqA_pl {v w : D} (hv : plV v = true) (hw : plV w = true) {A : Bool → Prop} {G : Prop} (hA : v = w → A true) (hB : v ≠ w → A false) (hG : G) : (match eqA v w with
    | some b => A b
    | none => G) := by
  have key : eqA v w = none ∨ (v = w ∧ eqA v w = some true) ∨ (v ≠ w ∧ eqA v w = some false) := by
    cases v <;> cases w <;> first
      | exact .inl rfl
      | exact .inr (.inl ⟨rfl, rfl⟩)
      | exact .inr (.inr ⟨fun z => (by cases z), rfl⟩)
      | (unfold plV at hv; cases hv; done)
      | (unfold plV at hw; cases hw; done)
      | skip
    all_goals
      rename_i a b
      by_cases e : a = b
      · subst e
        exact .inr (.inl ⟨rfl, congrArg some (decide_eq_true rfl)⟩)
      · exact .inr (.inr ⟨fun z => e (by cases z; rfl), congrArg some (decide_eq_false e)⟩)
  rcases key with e | ⟨z, e⟩ | ⟨z, e⟩
  · rw [e]; exact hG
  · rw [e]; exact hA z
  · rw [e]; exact hB z
theorem eqW_pl {v w : D} {neg : Bool} {M : Mem} {Q : QK} (hv : plV v = true) (hw : plV w = true) (dv : dep v ≤ 60) (dw : dep w ≤ 60) (h1 : v = w → Q (.bl (!neg)) M) (h2 : v ≠ w → Q (.bl neg) M) : eqW neg v w M Q := by
  unfold eqW
  refine eqA_pl (A := fun b => Q (.bl (if neg then !b else b)) M) hv hw (fun e => ?_) (fun e => ?_) (eqL_pl hv hw dv dw h1 h2)
  · have := h1 e; cases neg <;> exact this
  · have := h2 e; cases neg <;> exact this
/-- .. as whnf leaves it -/
theorem plM {v w : D} {A : Bool → Prop} {G : Prop} (hv : plV v = true) (hw : plV w = true) (hG : (v = w → A true) → (v ≠ w → A false) → G) (h1 : v = w → A true) (h2 : v ≠ w → A false) : (match eqA v w with
    | some b => A b
    | none => G) := eqA_pl hv hw h1 h2 (hG h1 h2)
theorem cmpEq_pl {v w : D} {M : Mem} {Q : QK} (hv : plV v = true) (hw : plV w = true) (dv : dep v ≤ 60) (dw : dep w ≤ 60) (h1 : v = w → Q (.bl true) M) (h2 : v ≠ w → Q (.bl false) M) : cmpW .Eq v w M Q := eqW_pl (neg := false) hv hw dv dw h1 h2
theorem cmpNe_pl {v w : D} {M : Mem} {Q : QK} (hv : plV v = true) (hw : plV w = true) (dv : dep v ≤ 60) (dw : dep w ≤ 60) (h1 : v = w → Q (.bl false) M) (h2 : v ≠ w → Q (.bl true) M) : cmpW .NotEq v w M Q := eqW_pl (neg := true) hv hw dv dw h1 h2
/-! lists of numbers -/
theorem deps_intsL {ds : List D} (h : ∀ d ∈ ds, ∃ i : Int, d = .int i) : deps ds = 0 := by
  have : deps ds ≤ 0 := deps_le fun d hd => by
    obtain ⟨i, rfl⟩ := h d hd
    exact Nat.le_refl _
  omega
theorem pl_intsL {ds : List D} (h : ∀ d ∈ ds, ∃ i : Int, d = .int i) : plV (.lst ds) = true ∧ dep (.lst ds) = 1 := by
  refine ⟨plV_ls fun d hd => ?_, ?_⟩
  · obtain ⟨i, rfl⟩ := h d hd
    unfold plV; rfl
  · show deps ds + 1 = 1
    rw [deps_intsL h]
theorem is_ints (bs : List Int) : ∀ d ∈ bs.map D.int, ∃ i : Int, d = .int i := fun d hd => by
  obtain ⟨i, _, e⟩ := List.mem_map.mp hd
  exact ⟨i, e.symm⟩
theorem is_cut {ds : List D} {lo hi : Option Int} (h : ∀ d ∈ ds, ∃ i : Int, d = .int i) : ∀ d ∈ cut ds lo hi, ∃ i : Int, d = .int i := fun d hd => h d (cut_mem hd)
theorem ints_inj : ∀ {a b : List Int}, a.map D.int = b.map D.int → a = b
  | [], [], _ => rfl
  | [], _ :: _, h => by cases h
  | _ :: _, [], h => by cases h
  | x :: a, y :: b, h => by
    injection h with h1 h2
    injection h1 with h1
    rw [h1, ints_inj h2]
theorem cmpEq_ints {xs ys : List D} {M : Mem} {Q : QK} (hx : ∀ d ∈ xs, ∃ i : Int, d = .int i) (hy : ∀ d ∈ ys, ∃ i : Int, d = .int i) (h1 : xs = ys → Q (.bl true) M) (h2 : xs ≠ ys → Q (.bl false) M) : cmpW .Eq (.lst xs) (.lst ys) M Q :=
  cmpEq_pl (pl_intsL hx).1 (pl_intsL hy).1 (by rw [(pl_intsL hx).2]; decide) (by rw [(pl_intsL hy).2]; decide) (fun e => h1 (by injection e)) (fun e => h2 fun z => e (by rw [z]))
theorem cmpNe_ints {xs ys : List D} {M : Mem} {Q : QK} (hx : ∀ d ∈ xs, ∃ i : Int, d = .int i) (hy : ∀ d ∈ ys, ∃ i : Int, d = .int i) (h1 : xs = ys → Q (.bl false) M) (h2 : xs ≠ ys → Q (.bl true) M) : cmpW .NotEq (.lst xs) (.lst ys) M Q :=
  cmpNe_pl (pl_intsL hx).1 (pl_intsL hy).1 (by rw [(pl_intsL hx).2]; decide) (by rw [(pl_intsL hy).2]; decide) (fun e => h1 (by injection e)) (fun e => h2 fun z => e (by rw [z]))
/-! ### membership -/
theorem any_pl {v : D} {p : PyData} (hv : plV v = true) (e : toPy v = some p) : ∀ {ws : List D} {qs : List PyData}, (∀ w ∈ ws, plV w = true) → toPys ws = some qs → ((qs.any fun z => PyData.eqv z p) = true ↔ v ∈ ws)
  | [], qs, _, ew => by cases ew; exact ⟨fun h => (by cases h), fun h => (by cases h)⟩
  | w :: ws, qs, hw, ew => by
    obtain ⟨q, qs, e3, e4, rfl⟩ := toPys_consH ew
    have a := eqv_pl (hw w (List.mem_cons_self ..)) hv e3 e
    have b := any_pl hv e (ws := ws) (fun d hd => hw d (List.mem_cons_of_mem _ hd)) e4
    rw [List.any_cons, Bool.or_eq_true, a, b, List.mem_cons]
    exact ⟨fun h => h.imp Eq.symm id, fun h => h.imp Eq.symm id⟩
theorem inW_pl {v y : D} {ws : List D} {neg : Bool} {M : Mem} {Q : QK} (hy : asS M y = some ws) (hs : ∀ a b, v = .str a → y = .str b → False) (hv : plV v = true) (dv : dep v ≤ 60) (hw : ∀ w ∈ ws, plV w = true) (dw : deps ws ≤ 59) (h1 : v ∈ ws → Q (.bl (!neg)) M) (h2 : v ∉ ws → Q (.bl neg) M) : inW neg v y M Q := by
  obtain ⟨p, ep, _⟩ := toPy_pl hv
  obtain ⟨qs, eq, c, d⟩ := toPys_pl hw
  have hd : dicAt M y = none := by
    cases y <;> first | rfl | skip
    rename_i a
    unfold dicAt
    have hy : (match M a with | some (.lst ds) => some ds | _ => none) = some ws := hy
    dsimp only
    split
    · rename_i e; rw [e] at hy; cases hy
    · rfl
  unfold inW
  rw [hd]
  show inS neg v y M Q
  unfold inS
  split
  · exact (hs _ _ rfl rfl).elim
  · cases hv
  · rw [toPyM_pl hv, ep, hy]
    dsimp only
    rw [eq]
    dsimp only
    refine ⟨shaped_pl hv dv ep, ?_, ?_⟩
    · show (PyData.canLay0 (.list qs) && decide (PyData.depth (.list qs) ≤ 64)) = true
      rw [show PyData.canLay0 (.list qs) = PyData.canLayAll0 qs from by unfold PyData.canLay0; rfl, c, show PyData.depth (.list qs) = PyData.depthAll qs + 1 from by unfold PyData.depth; omega, decide_eq_true (by omega)]; rfl
    · have k := any_pl hv ep hw eq
      by_cases e : v ∈ ws
      · rw [k.mpr e]
        cases neg <;> exact h1 e
      · rw [Bool.eq_false_iff.mpr fun z => e (k.mp z)]
        cases neg <;> exact h2 e
end Wp

/-! PwFit: what fits a shape is plain, no deeper than the shape. -/
namespace Wp
open PySem
theorem fitsN_in : ∀ (ss : List Sh) (n : Nat) (t : D), fitsN ss n t = true → ∃ s, s ∈ ss ∧ fitsB s t = true
  | [], n, t, h => by unfold fitsN at h; cases h
  | s :: ss, 0, t, h => by unfold fitsN at h; exact ⟨s, List.mem_cons_self .., h⟩
  | s :: ss, n + 1, t, h => by
    unfold fitsN at h
    obtain ⟨x, h1, h2⟩ := fitsN_in ss n t h
    exact ⟨x, List.mem_cons_of_mem _ h1, h2⟩
abbrev PlAt (s : Sh) : Prop := ∀ v : D, smV v = true → fitsB s v = true → plV v = true ∧ dep v ≤ s.dep
mutual
theorem fit_pl : ∀ s : Sh, PlAt s
  | .nothing => fun v hs hf => by
    cases v
    case non => exact ⟨by unfold plV; rfl, Nat.zero_le _⟩
    all_goals cases hf
  | .number lo hi => fun v hs hf => by
    cases v
    case int => exact ⟨by unfold plV; rfl, Nat.zero_le _⟩
    all_goals cases hf
  | .text m => fun v hs hf => by
    cases v
    case str z =>
      have h : (decide (z.length ≤ 1000) && PyData.strOk z) = true := hs
      rw [Bool.and_eq_true] at h
      exact ⟨by unfold plV; exact h.2, Nat.zero_le _⟩
    all_goals cases hf
  | .list s m => fun v hs hf => by
    cases v
    case lst ds =>
      obtain ⟨hdl, hds⟩ := smV_lstH hs
      have hf : (decide ((ds.length : Int) ≤ m) && ds.all (fitsB s)) = true := hf
      rw [Bool.and_eq_true] at hf
      have hfi := List.all_eq_true.mp hf.2
      refine ⟨plV_ls fun d hd => (fit_pl s d (hds d hd) (hfi d hd)).1, ?_⟩
      have : deps ds ≤ s.dep := deps_le fun d hd => (fit_pl s d (hds d hd) (hfi d hd)).2
      show deps ds + 1 ≤ s.dep + 1
      omega
    case scr => cases hs
    all_goals cases hf
  | .pair a b => fun v hs hf => by
    cases v
    case tup ds =>
      match ds, hf, hs with
      | [x, y], hf, hs =>
        obtain ⟨hdl, hds⟩ := smV_tupH hs
        have hf : (fitsB a x && fitsB b y) = true := hf
        rw [Bool.and_eq_true] at hf
        have h1 := fit_pl a x (hds x (by simp)) hf.1
        have h2 := fit_pl b y (hds y (by simp)) hf.2
        refine ⟨plV_tp (all_cons h1.1 (all_cons h2.1 all_nil)), ?_⟩
        show max (dep x) (max (dep y) 0) + 1 ≤ max a.dep b.dep + 1
        omega
      | [], hf, hs => cases hf
      | [x], hf, hs => cases hf
      | x :: y :: z :: w, hf, hs => cases hf
    all_goals cases hf
  | .choice ss => fun v hs hf => by
    cases v
    case tup ds =>
      match ds, hf, hs with
      | [.str z, .int n, x], hf, hs =>
        obtain ⟨hdl, hds⟩ := smV_tupH hs
        have hf : (decide (z = "of") && (decide (0 ≤ n) && fitsN ss n.toNat x)) = true := hf
        rw [Bool.and_eq_true, Bool.and_eq_true] at hf
        obtain ⟨s, e, hx⟩ := fitsN_in ss n.toNat x hf.2.2
        have h1 := fit_pls ss s e x (hds x (by simp)) hx
        have hz : (decide (z.length ≤ 1000) && PyData.strOk z) = true := hds (.str z) (by simp)
        rw [Bool.and_eq_true] at hz
        have hm := Sh.deps_mem s e
        refine ⟨plV_tp (all_cons (by unfold plV; exact hz.2) (all_cons (by unfold plV; rfl) (all_cons h1.1 all_nil))), ?_⟩
        show max 0 (max 0 (max (dep x) 0)) + 1 ≤ Sh.deps ss + 1
        omega
      | [], hf, hs => cases hf
      | [x], hf, hs => cases x <;> cases hf
      | [x, y], hf, hs => cases x <;> cases y <;> cases hf
      | [.non, y, w], hf, hs => cases hf
      | [.bl _, y, w], hf, hs => cases hf
      | [.int _, y, w], hf, hs => cases hf
      | [.tup _, y, w], hf, hs => cases hf
      | [.lst _, y, w], hf, hs => cases hf
      | [.scr _, y, w], hf, hs => cases hf
      | [.emp, y, w], hf, hs => cases hf
      | [.loc _, y, w], hf, hs => cases hf
      | [.str _, .non, w], hf, hs => cases hf
      | [.str _, .bl _, w], hf, hs => cases hf
      | [.str _, .str _, w], hf, hs => cases hf
      | [.str _, .tup _, w], hf, hs => cases hf
      | [.str _, .lst _, w], hf, hs => cases hf
      | [.str _, .scr _, w], hf, hs => cases hf
      | [.str _, .emp, w], hf, hs => cases hf
      | [.str _, .loc _, w], hf, hs => cases hf
      | x :: y :: z :: v :: w, hf, hs => cases x <;> cases y <;> cases hf
    all_goals cases hf
theorem fit_pls : ∀ (ss : List Sh), ∀ s ∈ ss, PlAt s
  | [], s, h => by cases h
  | x :: ss, s, h => by
    rcases List.mem_cons.mp h with h | h
    · rw [h]; exact fit_pl x
    · exact fit_pls ss s h
end
end Wp

/-! PwExt: what is there stays; new lists. -/
namespace Wp
open PySem
/-- what is there stays -/
def Ext (M M' : Mem) : Prop := ∀ a o, M a = some o → M' a = some o
theorem Ext.refl {M : Mem} : Ext M M := fun _ _ h => h
theorem Ext.trans {M M1 M2 : Mem} (h : Ext M M1) (h2 : Ext M1 M2) : Ext M M2 := fun a o e => h2 a o (h a o e)
theorem Ext.off {M M' : Mem} (h : Ext M M') {a : Addr} (e : M' a = none) : M a = none := by
  cases q : M a with
  | none => rfl
  | some o => rw [h a o q] at e; cases e
theorem Ext.new {M M' : Mem} (h : Ext M M') {p : Addr} {o : Ob} (hp : M p = none) : Ext M (M'.upd p o) := fun a o' e => by
  have : a ≠ p := fun q => by rw [q, hp] at e; cases e
  rw [Mem.upd_ne this]
  exact h a o' e
theorem Ext.del {M M' : Mem} (h : Ext M M') {p : Addr} (hp : M p = none) : Ext M (M'.del p) := fun a o' e => by
  have : a ≠ p := fun q => by rw [q, hp] at e; cases e
  rw [Mem.del_ne this]
  exact h a o' e
abbrev intsD (bs : List Int) : List D := bs.map .int
/-- a new list of numbers -/
def NewL (M : Mem) (bs : List Int) (v : D) (M' : Mem) : Prop := ∃ p, v = .loc p ∧ M p = none ∧ M' p = some (.lst (intsD bs)) ∧ Ext M M'
end Wp

/-! PwG: grammars, talks and their wires, plain: what knows of no drawing. -/
namespace Wp
open PySem
theorem atI_nat {α : Type} {xs : List α} {i : Nat} {x : α} (h : xs[i]? = some x) : atI xs (i : Int) = some x := by
  have hl : i < xs.length := (List.getElem?_eq_some_iff.mp h).1
  unfold atI ixN
  rw [if_pos (by omega), if_pos (by omega)]
  show xs[(i : Int).toNat]? = _
  rw [Int.toNat_natCast]
  exact h
theorem str_ext {a b : Str} (h : a.cps.toList = b.cps.toList) : a = b := by
  cases a; cases b
  congr 1
  exact Array.toList_inj.mp h
theorem rng_up {lo : Int} {a b : Nat} (h1 : lo = (a : Int)) {n : Nat} (h2 : n = b - a) : rng lo n = rng (a : Int) (b - a) := by
  rw [h1, h2]
/-- what follows is told by a name -/
theorem absN {R : Nat → List D → Mem → QK → XQ → Prop} {s : Sx} {N : Ends} {env : Env} {M : Mem} (h : ∀ K : Ends, (∀ e M, N.nx e M → K.nx e M) → wpS R s K env M) : wpS R s N env M := h N fun _ _ h => h
theorem logN {i : Int} (h : i.natAbs ≤ 1000000000000000000000) : i.natAbs.log2 < 9000 := Nat.lt_trans (log2_small (Nat.lt_of_lt_of_le (show _ < 1000000000000000000001 by omega) (by decide))) (by decide)
theorem atI_ofN {α : Type} {xs : List α} {i : Nat} {x : α} (h : xs[i]? = some x) : atI xs (i : Int) = some x := by
  have := get_lt h
  unfold atI
  rw [ixN_in (by omega) (by omega)]
  show xs[((i : Nat) : Int).toNat]? = _
  rw [Int.toNat_natCast]; exact h
theorem Sh.levs_atG : ∀ {ss : List Sh}, ∀ s ∈ ss, s.lev ≤ Sh.levs ss
  | [], s, h => by cases h
  | x :: ss, s, h => by
    show s.lev ≤ max x.lev (Sh.levs ss)
    rcases List.mem_cons.mp h with h | h
    · rw [h]; omega
    · have := Sh.levs_atG s h; omega
theorem Sh.ds_nthG : ∀ (ss : List Sh) (n : Nat) (s : Sh), ss[n]? = some s → (Sh.ds ss)[n]? = some s.d
  | [], n, s, h => by rw [List.getElem?_nil] at h; cases h
  | x :: ss, 0, s, h => by rw [List.getElem?_cons_zero] at h; cases h; rfl
  | x :: ss, n + 1, s, h => by
    rw [List.getElem?_cons_succ] at h
    exact Sh.ds_nthG ss n s h
theorem Sh.okbs_atG : ∀ {ss : List Sh}, Sh.okbs ss = true → ∀ s ∈ ss, s.okb = true
  | [], _, s, hs => by cases hs
  | x :: ss, h, s, hs => by
    unfold Sh.okbs at h
    rw [Bool.and_eq_true] at h
    rcases List.mem_cons.mp hs with hs | hs
    · rw [hs]; exact h.1
    · exact Sh.okbs_atG h.2 s hs
theorem rng_go {j n : Nat} {x : D} {rem : List D} (hr : x :: rem = rng (j : Int) (n - j)) : j < n ∧ x = .int (j : Int) ∧ rem = rng ((j + 1 : Nat) : Int) (n - (j + 1)) := by
  have hjn : j < n := Decidable.byContradiction fun h => by
    rw [show n - j = 0 by omega] at hr
    cases hr
  obtain ⟨w, hw⟩ : ∃ w, n - j = w + 1 := ⟨n - j - 1, by omega⟩
  rw [hw] at hr
  unfold rng at hr ⊢
  rw [List.range_succ_eq_map, List.map_cons, List.map_map] at hr
  injection hr with h1 h2
  refine ⟨hjn, by rw [h1]; show D.int _ = D.int _; congr 1, ?_⟩
  rw [h2, show n - (j + 1) = w by omega]
  refine List.map_congr_left fun i _ => ?_
  show D.int _ = D.int _
  congr 1
  show (j : Int) + ((i + 1 : Nat) : Int) = ((j + 1 : Nat) : Int) + (i : Int)
  omega
theorem rng_end {j n : Nat} (hr : [] = rng (j : Int) (n - j)) : n ≤ j := by
  have := congrArg List.length hr
  unfold rng at this
  rw [List.length_map, List.length_range, List.length_nil] at this
  omega
theorem intsD_at {bs : List Int} {i : Nat} {b : Int} (h : bs[i]? = some b) : atI (intsD bs) (i : Int) = some (.int b) := by
  refine atI_nat ?_
  unfold intsD
  rw [List.getElem?_map, h]; rfl
abbrev PW := Str × Sh × Int
abbrev PG := Option (Bool × List PW)
def sdS : Bool → Str
  | true => "left"
  | false => "right"
def pwD (w : PW) : D := .tup [.str w.1, w.2.1.d, .int w.2.2]
def pgD : PG → D
  | none => .tup [.str "end"]
  | some (b, ws) => .tup [.str (sdS b), .lst (ws.map pwD)]
/-- a word as it should be -/
structure PWOk (many : Int) (w : PW) : Prop where
  sm : smV (.str w.1) = true
  ok : w.2.1.okb = true
  lv : w.2.1.lev ≤ 62
  dp : w.2.1.dep ≤ 10
  t0 : 0 ≤ w.2.2
  t1 : w.2.2 < many
structure PWsOk (many : Int) (ws : List PW) : Prop where
  l9 : ws.length ≤ 9
  ok : ∀ w ∈ ws, PWOk many w
  nd : ∀ (i j : Nat) (x y : PW), ws[i]? = some x → ws[j]? = some y → x.1 = y.1 → i = j
theorem PWsOk.at {many : Int} {ws : List PW} (h : PWsOk many ws) {j : Nat} {w : PW} (e : ws[j]? = some w) : PWOk many w := h.ok w (List.mem_of_getElem? e)
def PGOk (many : Int) : PG → Prop
  | none => True
  | some (_, ws) => 1 ≤ ws.length ∧ PWsOk many ws
abbrev PMs := Bool × Str × D
def pmD (m : PMs) : D := .tup [.str (sdS m.1), .str m.2.1, m.2.2]
/-- a value of a shape -/
structure VF (s : Sh) (v : D) : Prop where
  sm : smV v = true
  fi : fitsB s v = true
/-- a message of a state, the next one, its bytes -/
def PStep (gs : List PG) (s : Int) (m : PMs) (t : Int) (x : List Int) : Prop := ∃ (b : Bool) (ws : List PW) (j : Nat) (w : PW), gs[s.toNat]? = some (some (b, ws)) ∧ ws[j]? = some w ∧ m = (b, w.1, m.2.2) ∧ VF w.2.1 m.2.2 ∧ t = w.2.2 ∧ x = (j : Int) :: bytesB w.2.1 m.2.2
def sel (b c : Bool) (x : List Int) : List Int := if b = c then x else []
theorem sel_len (b c : Bool) (x : List Int) : (sel b c x).length ≤ x.length := by
  unfold sel
  split
  · exact Nat.le_refl _
  · exact Nat.zero_le _
/-- a talk from a state to a state, and its wires -/
def PTk (gs : List PG) : Int → List PMs → Int → (Bool → List Int) → Prop
  | s, [], t, W => t = s ∧ W = fun _ => []
  | s, m :: ms, t, W => ∃ u x W', PStep gs s m u x ∧ PTk gs u ms t W' ∧ W = fun c => sel m.1 c x ++ W' c
theorem PTk.snoc {gs : List PG} {m : PMs} {u : Int} {x : List Int} : ∀ {s t : Int} {ms : List PMs} {W : Bool → List Int}, PTk gs s ms t W → PStep gs t m u x → PTk gs s (ms ++ [m]) u (fun c => W c ++ sel m.1 c x)
  | s, t, [], W, ⟨h1, h3⟩, h2 => by
    subst h1 h3
    exact ⟨u, x, fun _ => [], h2, ⟨rfl, rfl⟩, by funext c; rw [List.nil_append, List.append_nil]⟩
  | s, t, y :: ms, W, ⟨v, z, W', h1, h, h3⟩, h2 => by
    subst h3
    exact ⟨v, z, _, h1, h.snoc h2, by funext c; rw [List.append_assoc]⟩
/-- a grammar drawn -/
structure GsOk (gs : List PG) : Prop where
  l1 : 1 ≤ gs.length
  l30 : gs.length ≤ 30
  ok : ∀ g ∈ gs, PGOk gs.length g
theorem sd_sm (b : Bool) : smV (.str (sdS b)) = true := by cases b <;> decide +kernel
theorem GsOk.at {gs : List PG} (h : GsOk gs) {s : Int} (h0 : 0 ≤ s) (h1 : s < gs.length) : ∃ g, gs[s.toNat]? = some g ∧ PGOk gs.length g ∧ atI (gs.map pgD) s = some (pgD g) := by
  obtain ⟨n, rfl⟩ : ∃ n : Nat, s = (n : Int) := ⟨s.toNat, by omega⟩
  rw [Int.toNat_natCast]
  have hn : n < gs.length := by omega
  exact ⟨gs[n], List.getElem?_eq_getElem hn, h.ok _ (List.getElem_mem hn), atI_ofN (by rw [List.getElem?_map, List.getElem?_eq_getElem hn]; rfl)⟩
/-- a message as it should be -/
def PMOk (m : PMs) : Prop := smV (.str m.2.1) = true ∧ smV m.2.2 = true
theorem pmD_sm {m : PMs} (h : PMOk m) : smV (pmD m) = true := smV_tp (by show 3 ≤ 1000; decide) (all_cons (sd_sm _) (all_cons h.1 (all_cons h.2 all_nil)))
mutual
theorem shd_pl : ∀ s : Sh, plV s.d = true ∧ dep s.d ≤ 2 * s.dep + 1
  | .nothing => ⟨by decide +kernel, by decide⟩
  | .number lo hi => ⟨plV_tp (all_cons (by decide +kernel) (all_cons (by unfold plV; rfl) (all_cons (by unfold plV; rfl) all_nil))), by show max 0 (max 0 (max 0 0)) + 1 ≤ _; omega⟩
  | .text m => ⟨plV_tp (all_cons (by decide +kernel) (all_cons (by unfold plV; rfl) all_nil)), by show max 0 (max 0 0) + 1 ≤ _; omega⟩
  | .list s m => by
    have h := shd_pl s
    refine ⟨plV_tp (all_cons (by decide +kernel) (all_cons h.1 (all_cons (by unfold plV; rfl) all_nil))), ?_⟩
    show max 0 (max (dep s.d) (max 0 0)) + 1 ≤ 2 * (s.dep + 1) + 1
    omega
  | .pair a b => by
    have h := shd_pl a
    have h2 := shd_pl b
    refine ⟨plV_tp (all_cons (by decide +kernel) (all_cons h.1 (all_cons h2.1 all_nil))), ?_⟩
    show max 0 (max (dep a.d) (max (dep b.d) 0)) + 1 ≤ 2 * (max a.dep b.dep + 1) + 1
    omega
  | .choice ss => by
    have h := shds_pl ss
    refine ⟨plV_tp (all_cons (by decide +kernel) (all_cons (plV_tp h.1) all_nil)), ?_⟩
    show max 0 (max (deps (Sh.ds ss) + 1) 0) + 1 ≤ 2 * (Sh.deps ss + 1) + 1
    have := h.2
    omega
theorem shds_pl : ∀ ss : List Sh, (∀ d ∈ Sh.ds ss, plV d = true) ∧ deps (Sh.ds ss) ≤ 2 * Sh.deps ss + 1
  | [] => ⟨all_nil, Nat.zero_le _⟩
  | s :: ss => by
    have h := shd_pl s
    have h2 := shds_pl ss
    refine ⟨all_cons h.1 h2.1, ?_⟩
    show max (dep s.d) (deps (Sh.ds ss)) ≤ 2 * (max s.dep (Sh.deps ss)) + 1
    omega
end
theorem str_pl {z : Str} (h : smV (.str z) = true) : plV (.str z) = true := by
  have h : (decide (z.length ≤ 1000) && PyData.strOk z) = true := h
  rw [Bool.and_eq_true] at h
  unfold plV
  exact h.2
theorem pwD_pl {many : Int} {w : PW} (h : PWOk many w) : plV (pwD w) = true ∧ dep (pwD w) ≤ 22 := by
  have s := shd_pl w.2.1
  have d := h.dp
  refine ⟨plV_tp (all_cons (str_pl h.sm) (all_cons s.1 (all_cons (by unfold plV; rfl) all_nil))), ?_⟩
  show max 0 (max (dep w.2.1.d) (max 0 0)) + 1 ≤ 22
  omega
theorem pgD_pl {many : Int} {g : PG} (h : PGOk many g) : plV (pgD g) = true ∧ dep (pgD g) ≤ 24 := by
  cases g with
  | none => exact ⟨by decide +kernel, by decide⟩
  | some bw =>
    obtain ⟨b, ws⟩ := bw
    obtain ⟨h1, h9, hw, _⟩ := h
    have key : ∀ x ∈ ws.map pwD, plV x = true ∧ dep x ≤ 22 := fun x hx => by
      obtain ⟨w, hw2, rfl⟩ := List.mem_map.mp hx
      exact pwD_pl (hw w hw2)
    refine ⟨plV_tp (all_cons (str_pl (sd_sm b)) (all_cons (plV_ls fun x hx => (key x hx).1) all_nil)), ?_⟩
    show max 0 (max (deps (ws.map pwD) + 1) 0) + 1 ≤ 24
    have : deps (ws.map pwD) ≤ 22 := deps_le fun x hx => (key x hx).2
    omega
end Wp

/-! PwBytes (v25): cut. -/
namespace Wp
open PySem
end Wp

/-! PfPlc: places_for. -/
namespace Wp
open PySem
theorem pl_loop : ∀ (n : Nat), pl n = 0 ∨ n ≠ 0 := fun n => by
  by_cases e : n = 0
  · rw [e, pl_zero]; exact .inl rfl
  · exact .inr e
end Wp

/-! PwRd3: what is read fits, and has the bytes passed over; bytes that end too early go on with a nought or a blank; plain. -/
namespace Wp
open PySem
/-- a value read of a shape: it fits, its bytes stand there -/
structure Rdd (s : Sh) (bs : List Int) (i : Nat) (t : D) (j : Nat) : Prop where
  fi : fitsB s t = true
  sm : smV t = true
  len : j = i + (bytesB s t).length
  b : bs.drop i = bytesB s t ++ bs.drop j
theorem andThen_told {r : Rs} {g : D → Nat → Rs} {t : D} {j : Nat} (h : r.andThen g = .told t j) : ∃ x k, r = .told x k ∧ g x k = .told t j := by
  cases r with
  | told x k => exact ⟨x, k, rfl, h⟩
  | short => cases h
  | brk k => cases h
theorem andThen_short {r : Rs} {g : D → Nat → Rs} (h : r.andThen g = .short) : r = .short ∨ ∃ x k, r = .told x k ∧ g x k = .short := by
  cases r with
  | told x k => exact .inr ⟨x, k, rfl, h⟩
  | short => exact .inl rfl
  | brk k => cases h
theorem byK_told {bs : List Int} {i : Nat} {gd : Int → Bool} {ok : Int → Rs} {t : D} {j : Nat} (h : byK bs i gd ok = .told t j) : ∃ b, bs[i]? = some b ∧ gd b = true ∧ ok b = .told t j := by
  rcases byK_case h with ⟨_, e⟩ | ⟨b, q, ⟨_, e⟩ | ⟨g, e⟩⟩
  · cases e
  · cases e
  · exact ⟨b, q, g, e⟩
theorem nu_told {lo span : Int} {bs : List Int} : ∀ {l i : Nat} {f : Int} {t : D} {j : Nat}, 0 ≤ f → rdNu lo span bs i l f = .told t j → ∃ x : Int, t = .int (lo + x) ∧ j = i + l ∧ f * 256 ^ l ≤ x ∧ x < (f + 1) * 256 ^ l ∧ (l = 0 ∨ x ≤ span) ∧ bs.drop i = (les l x).reverse ++ bs.drop j
  | 0, i, f, t, j, hf, h => by
    cases h
    exact ⟨f, rfl, rfl, by omega, by omega, .inl rfl, rfl⟩
  | l + 1, i, f, t, j, hf, h => by
    obtain ⟨b, q, g, h⟩ := byK_told h
    rw [Bool.and_eq_true, inR_iff, decide_eq_true_eq] at g
    obtain ⟨⟨g0, g1⟩, g2⟩ := g
    obtain ⟨x, e1, e2, e3, e4, e5, e6⟩ := nu_told (by omega) h
    have p0 : (0 : Int) < 256 ^ l := Int.pow_pos (by decide)
    have hx : x / 256 ^ l = f * 256 + b := by
      refine Int.le_antisymm ?_ ?_
      · exact Int.lt_add_one_iff.mp (Int.ediv_lt_of_lt_mul p0 e4)
      · exact (Int.le_ediv_iff_mul_le p0).mpr e3
    refine ⟨x, e1, by omega, ?_, ?_, ?_, ?_⟩
    · refine Int.le_trans ?_ e3
      rw [Int.pow_succ, Int.mul_comm (256 ^ l) 256, ← Int.mul_assoc]
      exact Int.mul_le_mul_of_nonneg_right (by omega) (Int.le_of_lt p0)
    · refine Int.lt_of_lt_of_le e4 ?_
      rw [Int.pow_succ, Int.mul_comm (256 ^ l) 256, ← Int.mul_assoc]
      exact Int.mul_le_mul_of_nonneg_right (by omega) (Int.le_of_lt p0)
    · right
      rcases e5 with e5 | e5
      · subst e5
        rw [Int.pow_zero, Int.mul_one] at e3 e4 g2
        omega
      · exact e5
    · rw [drop_at q, e6, les_rev, hx, show (f * 256 + b) % 256 = b by omega]
      rfl
theorem tx_told {bs : List Int} : ∀ {l i : Nat} {acc : List Nat} {t : D} {j : Nat}, rdTx bs i l acc = .told t j → ∃ cs : List Nat, cs.length = l ∧ cs.all okSign = true ∧ t = .str ⟨(acc ++ cs).toArray⟩ ∧ j = i + l ∧ bs.drop i = (cs.map fun (c : Nat) => (c : Int)) ++ bs.drop j
  | 0, i, acc, t, j, h => by
    cases h
    exact ⟨[], rfl, rfl, by rw [List.append_nil], rfl, rfl⟩
  | l + 1, i, acc, t, j, h => by
    obtain ⟨b, q, g, h⟩ := byK_told h
    rw [Bool.and_eq_true, inR_iff] at g
    obtain ⟨⟨g0, g1⟩, g2⟩ := g
    have g2 : ¬ b = 37 := by
      intro z
      rw [decide_eq_true z] at g2
      cases g2
    obtain ⟨cs, e1, e2, e3, e4, e5⟩ := tx_told h
    have hb : ((b.toNat : Nat) : Int) = b := by omega
    refine ⟨b.toNat :: cs, by rw [List.length_cons, e1], ?_, by rw [e3, List.append_assoc]; rfl, by omega, ?_⟩
    · rw [List.all_cons, e2, Bool.and_true]
      unfold okSign
      rw [Bool.and_eq_true, Bool.and_eq_true]
      exact ⟨⟨decide_eq_true (by omega), decide_eq_true (by omega)⟩, decide_eq_true (by omega)⟩
    · rw [drop_at q, e5, List.map_cons, hb]
      rfl
theorem it_told {s : Sh} {bs : List Int} (ih : ∀ i t j, rdB s bs i = .told t j → Rdd s bs i t j) : ∀ {l i : Nat} {acc : List D} {t : D} {j : Nat}, rdIt (fun j => rdB s bs j) i l acc = .told t j → ∃ ds : List D, ds.length = l ∧ t = .lst (acc ++ ds) ∧ (∀ d ∈ ds, smV d = true ∧ fitsB s d = true) ∧ j = i + ((ds.map (bytesB s)).flatten).length ∧ bs.drop i = (ds.map (bytesB s)).flatten ++ bs.drop j
  | 0, i, acc, t, j, h => by
    cases h
    exact ⟨[], rfl, by rw [List.append_nil], fun d hd => (by cases hd), rfl, rfl⟩
  | l + 1, i, acc, t, j, h => by
    obtain ⟨x, k, e, h⟩ := andThen_told h
    have r := ih _ _ _ e
    obtain ⟨ds, e1, e2, e3, e4, e5⟩ := it_told ih h
    refine ⟨x :: ds, by rw [List.length_cons, e1], by rw [e2, List.append_assoc]; rfl, all_cons ⟨r.sm, r.fi⟩ e3, ?_, ?_⟩
    · rw [List.map_cons, List.flatten_cons, List.length_append, e4, r.len]; omega
    · rw [r.b, e5, List.map_cons, List.flatten_cons, List.append_assoc]
theorem strOk_codes {cs : List Nat} (h : cs.all okSign = true) : PyData.strOk ⟨cs.toArray⟩ = true := by
  unfold PyData.strOk
  rw [← Array.all_toList]
  rw [List.all_eq_true]
  intro x hx
  have := List.all_eq_true.mp h x (by simpa using hx)
  unfold okSign at this
  rw [Bool.and_eq_true, Bool.and_eq_true] at this
  have := of_decide_eq_true this.1.2
  exact decide_eq_true (by omega)
theorem fitsN_of : ∀ (ss : List Sh) (n : Nat) (t : D) (s : Sh), ss[n]? = some s → fitsN ss n t = fitsB s t
  | [], n, t, s, h => by rw [List.getElem?_nil] at h; cases h
  | x :: ss, 0, t, s, h => by rw [List.getElem?_cons_zero] at h; cases h; unfold fitsN; rfl
  | x :: ss, n + 1, t, s, h => by
    rw [List.getElem?_cons_succ] at h
    unfold fitsN
    exact fitsN_of ss n t s h
abbrev ToldAt (s : Sh) : Prop := ∀ (bs : List Int) (i : Nat) (t : D) (j : Nat), s.okb = true → rdB s bs i = .told t j → Rdd s bs i t j
mutual
theorem rd_told : ∀ s : Sh, ToldAt s
  | .nothing => fun bs i t j ok h => by
    cases h
    exact ⟨rfl, rfl, rfl, rfl⟩
  | .number lo hi => fun bs i t j ok h => by
    have ok : (decide (-1000000000000000000 < lo) && (decide (lo ≤ hi) && decide (hi < 1000000000000000000))) = true := ok
    rw [Bool.and_eq_true, Bool.and_eq_true] at ok
    have b2 := of_decide_eq_true ok.2.1
    obtain ⟨x, rfl, e2, e3, e4, e5, e6⟩ := nu_told (Int.le_refl 0) h
    rw [Int.zero_mul] at e3
    have hx : x ≤ hi - lo := by
      rcases e5 with e5 | e5
      · rw [e5, Int.pow_zero] at e4; omega
      · exact e5
    have hbe : bytesB (.number lo hi) (.int (lo + x)) = (les (pl (hi - lo).toNat) x).reverse := by
      show (les (pl (hi - lo).toNat) (lo + x - lo)).reverse = _
      rw [show lo + x - lo = x by omega]
    have b1 := of_decide_eq_true ok.1
    have b3 := of_decide_eq_true ok.2.2
    refine ⟨?_, by unfold smV; exact decide_eq_true (by omega), ?_, ?_⟩
    · show (decide (lo ≤ lo + x) && decide (lo + x ≤ hi)) = true
      rw [decide_eq_true (by omega), decide_eq_true (by omega)]; rfl
    · rw [hbe, List.length_reverse, les_len]; exact e2
    · rw [hbe]; exact e6
  | .text m => fun bs i t j ok h => by
    have ok : (decide (0 ≤ m) && decide (m ≤ 250)) = true := ok
    rw [Bool.and_eq_true] at ok
    have b2 := of_decide_eq_true ok.2
    obtain ⟨b, q, g, h⟩ := byK_told h
    rw [inR_iff] at g
    obtain ⟨cs, e1, e2, rfl, e4, e5⟩ := tx_told h
    rw [List.nil_append] at *
    have hl : (Str.mk cs.toArray).length = cs.length := List.size_toArray ..
    have hbe : bytesB (.text m) (.str ⟨cs.toArray⟩) = b :: cs.map fun (c : Nat) => (c : Int) := by
      show ((Str.mk cs.toArray).length : Int) :: (cs.map fun (c : Nat) => (c : Int)) = _
      rw [hl, e1, show ((b.toNat : Nat) : Int) = b by omega]
    refine ⟨?_, ?_, ?_, ?_⟩
    · show (decide (((Str.mk cs.toArray).length : Int) ≤ m) && cs.all okSign) = true
      rw [hl, e2, decide_eq_true (by omega)]; rfl
    · show (decide ((Str.mk cs.toArray).length ≤ 1000) && PyData.strOk ⟨cs.toArray⟩) = true
      rw [hl, strOk_codes e2, decide_eq_true (by omega)]; rfl
    · rw [hbe, List.length_cons, List.length_map]; omega
    · rw [hbe, drop_at q, e5]; rfl
  | .list s m => fun bs i t j ok h => by
    have ok : ((decide (0 ≤ m) && decide (m ≤ 250)) && s.okb) = true := ok
    rw [Bool.and_eq_true, Bool.and_eq_true] at ok
    have b2 := of_decide_eq_true ok.1.2
    obtain ⟨b, q, g, h⟩ := byK_told h
    rw [inR_iff] at g
    obtain ⟨ds, e1, rfl, e3, e4, e5⟩ := it_told (fun i t j e => rd_told s bs i t j ok.2 e) h
    rw [List.nil_append] at *
    have hbe : bytesB (.list s m) (.lst ds) = b :: (ds.map (bytesB s)).flatten := by
      show (ds.length : Int) :: (ds.map (bytesB s)).flatten = _
      rw [e1, show ((b.toNat : Nat) : Int) = b by omega]
    refine ⟨?_, ?_, ?_, ?_⟩
    · show (decide ((ds.length : Int) ≤ m) && ds.all (fitsB s)) = true
      rw [decide_eq_true (by omega), List.all_eq_true.mpr fun d hd => (e3 d hd).2]; rfl
    · exact smV_ls (by omega) fun d hd => (e3 d hd).1
    · rw [hbe, List.length_cons]; omega
    · rw [hbe, drop_at q, e5]; rfl
  | .pair a b => fun bs i t j ok h => by
    have ok : (a.okb && b.okb) = true := ok
    rw [Bool.and_eq_true] at ok
    obtain ⟨x, k, e1, h⟩ := andThen_told h
    obtain ⟨y, l, e2, h⟩ := andThen_told h
    cases h
    have r1 := rd_told a bs i x k ok.1 e1
    have r2 := rd_told b bs k y j ok.2 e2
    have hbe : bytesB (.pair a b) (.tup [x, y]) = bytesB a x ++ bytesB b y := rfl
    refine ⟨?_, ?_, ?_, ?_⟩
    · show (fitsB a x && fitsB b y) = true
      rw [r1.fi, r2.fi]; rfl
    · exact smV_tp (by show 2 ≤ 1000; decide) (all_cons r1.sm (all_cons r2.sm all_nil))
    · rw [hbe, List.length_append, r2.len, r1.len]; omega
    · rw [hbe, List.append_assoc, r1.b, r2.b]
  | .choice ss => fun bs i t j ok h => by
    have ok : ((decide (1 ≤ ss.length) && decide (ss.length ≤ 9)) && Sh.okbs ss) = true := ok
    rw [Bool.and_eq_true, Bool.and_eq_true] at ok
    have b2 := of_decide_eq_true ok.1.2
    obtain ⟨b, q, g, h⟩ := byK_told h
    rw [inR_iff] at g
    obtain ⟨x, k, e1, h⟩ := andThen_told h
    cases h
    obtain ⟨s, hs⟩ : ∃ s, ss[b.toNat]? = some s := ⟨ss[b.toNat]'(by omega), List.getElem?_eq_getElem _⟩
    have hm := List.mem_of_getElem? hs
    rw [rdBs_get ss _ bs _ s hs] at e1
    have r := rd_tolds ss s hm bs (i + 1) x j (Sh.okbs_at ok.2 s hm) e1
    have hbe : bytesB (.choice ss) (.tup [.str "of", .int b, x]) = b :: bytesB s x := by
      show b :: bytesN ss b.toNat x = _
      rw [bytesN_get ss _ x s hs]
    refine ⟨?_, ?_, ?_, ?_⟩
    · show (decide (("of" : Str) = "of") && (decide (0 ≤ b) && fitsN ss b.toNat x)) = true
      rw [fitsN_of ss _ x s hs, r.fi, decide_eq_true rfl, decide_eq_true g.1]; rfl
    · exact smV_tp (by show 3 ≤ 1000; decide) (all_cons (by decide +kernel) (all_cons (by unfold smV; exact decide_eq_true (by omega)) (all_cons r.sm all_nil)))
    · rw [hbe, List.length_cons, r.len]; omega
    · rw [hbe, drop_at q, r.b]; rfl
theorem rd_tolds : ∀ (ss : List Sh), ∀ s ∈ ss, ToldAt s
  | [], s, h => by cases h
  | x :: ss, s, h => by
    rcases List.mem_cons.mp h with h | h
    · rw [h]; exact rd_told x
    · exact rd_tolds ss s h
end
/-! ### a nought or a blank -/
def NoB (r : Rs) : Prop := ∀ j, r ≠ .brk j
/-- where bytes end too early a nought or a blank goes on -/
def Goes (f : List Int → Nat → Rs) : Prop := ∀ bs i, i ≤ bs.length → f bs i = .short → NoB (f (bs ++ [0]) i) ∨ NoB (f (bs ++ [32]) i)
theorem app_at {bs : List Int} {b x : Int} {i : Nat} (h : bs[i]? = some b) : (bs ++ [x])[i]? = some b := by
  rw [List.getElem?_append_left (get_lt h)]; exact h
theorem Goes.byte {gd : Int → Bool} {g : Int → List Int → Nat → Rs} (h0 : gd 0 = true ∨ gd 32 = true) (hl : ∀ b, gd b = true → Loc (g b)) (hg : ∀ b, gd b = true → Goes (g b)) : Goes fun bs i => byK bs i gd fun b => g b bs (i + 1) := by
  intro bs i hi h
  rcases byK_case h with ⟨q, _⟩ | ⟨b, q, ⟨_, e⟩ | ⟨hb, e⟩⟩
  · have hi2 : i = bs.length := by
      have := List.getElem?_eq_none_iff.mp q
      omega
    subst hi2
    have fin : ∀ x, gd x = true → NoB (byK (bs ++ [x]) bs.length gd fun b => g b (bs ++ [x]) (bs.length + 1)) := fun x hx j e => by
      have e1 : (bs ++ [x])[bs.length]? = some x := by rw [List.getElem?_append_right (Nat.le_refl _), Nat.sub_self]; rfl
      rw [byK_ok e1 hx] at e
      have a := (hl x hx).gb _ _ _ e
      have b := (hl x hx).lb _ _ _ e
      rw [List.length_append, List.length_singleton] at b
      omega
    exact h0.imp (fin 0) (fin 32)
  · cases e
  · have := get_lt q
    have z := hg b hb bs (i + 1) (by omega) e
    refine z.imp (fun z j e => ?_) (fun z j e => ?_)
    · have e : byK (bs ++ [0]) i gd (fun b => g b (bs ++ [0]) (i + 1)) = .brk j := e
      rw [byK_ok (app_at q) hb] at e
      exact z j e
    · have e : byK (bs ++ [32]) i gd (fun b => g b (bs ++ [32]) (i + 1)) = .brk j := e
      rw [byK_ok (app_at q) hb] at e
      exact z j e
theorem Goes.told (t : D) : Goes fun _ i => .told t i := fun bs i _ h => by cases h
theorem take_snoc {bs : List Int} {x : Int} : (bs ++ [x]).take bs.length = bs := by
  rw [List.take_append_of_le_length (Nat.le_refl _), List.take_length]
theorem Goes.bind {f : List Int → Nat → Rs} {g : D → List Int → Nat → Rs} (lf : Loc f) (hf : Goes f) (lg : ∀ t, Loc (g t)) (hg : ∀ t, Goes (g t)) : Goes fun bs i => (f bs i).andThen fun t j => g t bs j := by
  intro bs i hi h
  rcases andThen_short h with q | ⟨t, k, q, e⟩
  · have key : ∀ x, NoB (f (bs ++ [x]) i) → NoB ((f (bs ++ [x]) i).andThen fun t j => g t (bs ++ [x]) j) := fun x z j e => by
      cases q2 : f (bs ++ [x]) i with
      | short => rw [q2] at e; cases e
      | brk j2 => exact z _ q2
      | told t j2 =>
        rw [q2] at e
        have e : g t (bs ++ [x]) j2 = .brk j := e
        have a := (lg t).gb _ _ _ e
        have b := (lg t).lb _ _ _ e
        rw [List.length_append, List.length_singleton] at b
        have c : j2 ≤ bs.length := by omega
        have d := lf.at_ _ bs _ _ _ q2 fun n _ hn => by rw [List.getElem?_append_left (by omega)]
        rw [q] at d
        cases d
    exact (hf bs i hi q).imp (key 0) (key 32)
  · have hk : k ≤ bs.length := by
      rcases lf.le _ _ _ _ q with z | z
      · rw [z]; exact hi
      · exact z
    have hik := lf.ge _ _ _ _ q
    have key : ∀ x, NoB (g t (bs ++ [x]) k) → NoB ((f (bs ++ [x]) i).andThen fun t j => g t (bs ++ [x]) j) := fun x z j e => by
      have d := lf.at_ _ (bs ++ [x]) _ _ _ q fun n _ hn => by rw [List.getElem?_append_left (by omega)]
      rw [d] at e
      exact z j e
    exact (hg t bs k hk e).imp (key 0) (key 32)
theorem goes_nu {lo span : Int} (hs : 0 ≤ span) : ∀ (l : Nat) (f : Int), 0 ≤ f → f * 256 ^ l ≤ span → Goes fun bs i => rdNu lo span bs i l f
  | 0, f, _, _ => Goes.told _
  | l + 1, f, h0, h => by
    refine Goes.byte (g := fun b bs i => rdNu lo span bs i l (f * 256 + b)) (.inl ?_) (fun b _ => loc_nu lo span l _) fun b hb => ?_
    · rw [Bool.and_eq_true, inR_iff, decide_eq_true_eq]
      refine ⟨by decide, ?_⟩
      rw [Int.pow_succ, Int.mul_comm (256 ^ l) 256, ← Int.mul_assoc] at h
      rw [Int.add_zero]
      exact h
    · rw [Bool.and_eq_true, inR_iff, decide_eq_true_eq] at hb
      exact goes_nu hs l _ (by omega) hb.2
theorem goes_tx : ∀ (l : Nat) (acc : List Nat), Goes fun bs i => rdTx bs i l acc
  | 0, acc => Goes.told _
  | l + 1, acc => Goes.byte (g := fun b bs i => rdTx bs i l (acc ++ [b.toNat])) (.inr (by decide)) (fun b _ => loc_tx l _) fun b _ => goes_tx l _
theorem goes_it {f : List Int → Nat → Rs} (lf : Loc f) (h : Goes f) : ∀ (l : Nat) (acc : List D), Goes fun bs i => rdIt (f bs) i l acc
  | 0, acc => Goes.told _
  | l + 1, acc => Goes.bind (g := fun t bs j => rdIt (f bs) j l (acc ++ [t])) lf h (fun t => loc_it lf l _) fun t => goes_it lf h l _
mutual
theorem goes_rd : ∀ s : Sh, s.okb = true → Goes (rdB s)
  | .nothing, ok => Goes.told _
  | .number lo hi, ok => by
    have ok : (decide (-1000000000000000000 < lo) && (decide (lo ≤ hi) && decide (hi < 1000000000000000000))) = true := ok
    rw [Bool.and_eq_true, Bool.and_eq_true] at ok
    have b2 := of_decide_eq_true ok.2.1
    exact goes_nu (by omega) _ 0 (Int.le_refl 0) (by rw [Int.zero_mul]; omega)
  | .text m, ok => by
    have ok : (decide (0 ≤ m) && decide (m ≤ 250)) = true := ok
    rw [Bool.and_eq_true] at ok
    have b1 := of_decide_eq_true ok.1
    exact Goes.byte (g := fun b bs i => rdTx bs i b.toNat []) (.inl (inR_iff.mpr ⟨Int.le_refl 0, b1⟩)) (fun b _ => loc_tx _ _) fun b _ => goes_tx _ _
  | .list s m, ok => by
    have ok : ((decide (0 ≤ m) && decide (m ≤ 250)) && s.okb) = true := ok
    rw [Bool.and_eq_true, Bool.and_eq_true] at ok
    have b1 := of_decide_eq_true ok.1.1
    exact Goes.byte (g := fun b bs i => rdIt (fun j => rdB s bs j) i b.toNat []) (.inl (inR_iff.mpr ⟨Int.le_refl 0, b1⟩)) (fun b _ => loc_it (loc_rd s) _ _) fun b _ => goes_it (loc_rd s) (goes_rd s ok.2) _ _
  | .pair a b, ok => by
    have ok : (a.okb && b.okb) = true := ok
    rw [Bool.and_eq_true] at ok
    exact Goes.bind (g := fun x bs j => (rdB b bs j).andThen fun y k => .told (.tup [x, y]) k) (loc_rd a) (goes_rd a ok.1) (fun x => Loc.bind (g := fun y _ k => .told (.tup [x, y]) k) (loc_rd b) fun y => Loc.told _) fun x => Goes.bind (g := fun y _ k => .told (.tup [x, y]) k) (loc_rd b) (goes_rd b ok.2) (fun y => Loc.told _) fun y => Goes.told _
  | .choice ss, ok => by
    have ok : ((decide (1 ≤ ss.length) && decide (ss.length ≤ 9)) && Sh.okbs ss) = true := ok
    rw [Bool.and_eq_true, Bool.and_eq_true] at ok
    have b1 := of_decide_eq_true ok.1.1
    refine Goes.byte (g := fun b bs i => (rdBs ss b.toNat bs i).andThen fun x j => .told (.tup [.str "of", .int b, x]) j) (.inl (inR_iff.mpr ⟨Int.le_refl 0, by omega⟩)) (fun b _ => Loc.bind (f := fun bs i => rdBs ss b.toNat bs i) (g := fun x _ j => .told (.tup [.str "of", .int b, x]) j) (loc_rds ss _) fun x => Loc.told _) fun b hb => ?_
    rw [inR_iff] at hb
    exact Goes.bind (f := fun bs i => rdBs ss b.toNat bs i) (g := fun x _ j => .told (.tup [.str "of", .int b, x]) j) (loc_rds ss _) (goes_rds ss _ ok.2 (by omega)) (fun x => Loc.told _) fun x => Goes.told _
theorem goes_rds : ∀ (ss : List Sh) (n : Nat), Sh.okbs ss = true → n < ss.length → Goes fun bs i => rdBs ss n bs i
  | [], n, _, h => absurd h (Nat.not_lt_zero _)
  | s :: ss, 0, ok, _ => by
    unfold Sh.okbs at ok
    rw [Bool.and_eq_true] at ok
    exact goes_rd s ok.1
  | s :: ss, n + 1, ok, h => by
    unfold Sh.okbs at ok
    rw [Bool.and_eq_true] at ok
    exact goes_rds ss n ok.2 (by simpa using h)
end
end Wp

/-! PwGc: what fits a choice; plain. -/
namespace Wp
open PySem
theorem gc_get : ∀ (ss : List Sh) (n : Nat) (t : D), fitsN ss n t = match ss[n]? with
    | some s => fitsB s t
    | none => false
  | [], n, t => by rw [List.getElem?_nil]; unfold fitsN; rfl
  | s :: ss, 0, t => by rw [List.getElem?_cons_zero]; unfold fitsN; rfl
  | s :: ss, n + 1, t => by rw [List.getElem?_cons_succ]; unfold fitsN; exact gc_get ss n t
theorem gc_no {ss : List Sh} {ds : List D} (h : ∀ z i x, ds ≠ [.str z, .int i, x]) : fitsB (.choice ss) (.tup ds) = false := by
  unfold fitsB
  split
  · rename_i z i x e
    cases e
    exact absurd rfl (h z i x)
  · rfl
theorem fits_choice_in {ss : List Sh} {t : D} (h : fitsB (.choice ss) t = true) : ∃ (i : Int) (x : D) (s : Sh), t = .tup [.str "of", .int i, x] ∧ 0 ≤ i ∧ ss[i.toNat]? = some s ∧ fitsB s x = true := by
  cases t
  case tup ds =>
    by_cases q : ∃ z i x, ds = [.str z, .int i, x]
    · obtain ⟨z, i, x, rfl⟩ := q
      have h : (decide (z = "of") && (decide (0 ≤ i) && fitsN ss i.toNat x)) = true := h
      rw [Bool.and_eq_true, Bool.and_eq_true, gc_get] at h
      have hz := of_decide_eq_true h.1
      subst hz
      cases e : ss[i.toNat]? with
      | none => rw [e] at h; cases h.2.2
      | some s =>
        rw [e] at h
        exact ⟨i, x, s, rfl, of_decide_eq_true h.2.1, e, h.2.2⟩
    · rw [gc_no (fun z i x e => q ⟨z, i, x, e⟩)] at h
      cases h
  all_goals cases h
end Wp

/-! PfBytesOf: places_for, number_bytes, bytes_of, value_bytes. -/
namespace Wp
open PySem
theorem ord_map (z : Str) (M : Mem) : (signs z).filterMap (fun d => match d with
    | .str x => some (D.int ((x.cps.getD 0 0 : Nat) : Int))
    | _ => none) = intsD (z.cps.toList.map fun (c : Nat) => (c : Int)) := by
  unfold signs intsD
  induction z.cps.toList with
  | nil => rfl
  | cons c cs ih =>
    rw [List.map_cons, List.filterMap_cons, List.map_cons, List.map_cons]
    exact congrArg (D.int (c : Int) :: ·) ih
end Wp

/-! CsO: what a walk of parting wants, plain. -/
namespace Wp
open PySem
theorem outL_len : ∀ {s r : Sh}, (outL s r).length ≤ 1
  | s, r => by
    cases s <;> cases r <;> unfold outL <;> first
      | exact Nat.le_refl _
      | exact Nat.zero_le _
      | (show (List.take 1 _).length ≤ 1; rw [List.length_take]; omega)
      | (show (if _ then _ else _ : List D).length ≤ 1; split <;> first | exact Nat.le_refl _ | exact Nat.zero_le _ | (split <;> first | exact Nat.le_refl _ | exact Nat.zero_le _ | (rw [List.length_map]; exact outL_len)))
theorem outC_length : ∀ {ss rr : List Sh} {k : Nat}, (outC k ss rr).length ≤ ss.length
  | [], rr, k => by unfold outC; exact Nat.le_refl _
  | s :: ss, [], k => by
    have := outC_length (ss := ss) (rr := []) (k := k + 1)
    unfold outC
    show (outC (k + 1) ss []).length + 1 ≤ ss.length + 1
    omega
  | s :: ss, r :: rr, k => by
    have := outC_length (ss := ss) (rr := rr) (k := k + 1)
    have h := outL_len (s := s) (r := r)
    unfold outC
    show ((outL s r).map (ofD k) ++ outC (k + 1) ss rr).length ≤ ss.length + 1
    rw [List.length_append, List.length_map]
    omega
theorem cut_one {α : Type} (l : List α) : cut l none (some 1) = l.take 1 := by
  unfold cut slN
  cases l with
  | nil => rfl
  | cons x l =>
    show ((x :: l).drop 0).take ((if (1 : Int) < 0 then (1 + ((x :: l).length : Int)).toNat else min (1 : Int).toNat (x :: l).length) - 0) = _
    rw [if_neg (by decide), List.drop_zero]
    congr 1
theorem fm_some {f : D → D} : ∀ l : List D, l.filterMap (fun d => some (f d)) = l.map f
  | [] => rfl
  | x :: l => by rw [List.filterMap_cons, List.map_cons, fm_some l]
theorem enumD_cons (j : Nat) (d : D) (ds : List D) : enumD j (d :: ds) = .tup [.int (j : Nat), d] :: enumD (j + 1) ds := rfl
theorem upd_upd {M : Mem} {a : Addr} {o o' : Ob} : (M.upd a o).upd a o' = M.upd a o' := by
  funext b
  unfold Mem.upd
  split <;> rfl
theorem list_desc {s s' : Sh} {m m' : Int} (h : outL (.list s m) (.list s' m') = []) (w : withinB (.list s m) (.list s' m') = false) : outL s s' = [] ∧ withinB s s' = false := by
  have h : (if m > m' then [D.lst (List.replicate (m' + 1).toNat (least s))] else if m = 0 then [] else (outL s s').map fun v => D.lst [v]) = [] := by unfold outL at h; exact h
  split at h
  · cases h
  · split at h
    · rename_i hm z
      have : withinB (.list s m) (.list s' m') = true := wi_list.mpr ⟨by omega, .inl z⟩
      rw [w] at this
      cases this
    · refine ⟨List.map_eq_nil_iff.mp h, ?_⟩
      cases q : withinB s s' with
      | false => rfl
      | true =>
        have : withinB (.list s m) (.list s' m') = true := wi_list.mpr ⟨by omega, .inr q⟩
        rw [w] at this
        cases this
theorem pair_desc {a b a' b' : Sh} (h : outL (.pair a b) (.pair a' b') = []) : outL a a' = [] ∧ outL b b' = [] := by
  have h : ((outL a a').map (fun v => D.tup [v, least b]) ++ (outL b b').map (fun v => D.tup [least a, v])).take 1 = [] := by unfold outL at h; exact h
  obtain ⟨h1, h2⟩ := List.append_eq_nil_iff.mp (take1_nil h)
  exact ⟨List.map_eq_nil_iff.mp h1, List.map_eq_nil_iff.mp h2⟩
theorem othN_at : ∀ {ss rr : List Sh} {k : Nat}, outC k ss rr = [] → withinAll ss rr = false → ∃ s r, ss[fidx ss rr]? = some s ∧ rr[fidx ss rr]? = some r ∧ othN ss rr = oth s r ∧ outL s r = [] ∧ withinB s r = false
  | [], rr, k, h, w => by unfold withinAll at w; cases w
  | s :: ss, [], k, h, w => by unfold withinAll at w; cases w
  | s :: ss, r :: rr, k, h, w => by
    have h : (outL s r).map (ofD k) ++ outC (k + 1) ss rr = [] := by unfold outC at h; exact h
    obtain ⟨h1, h2⟩ := List.append_eq_nil_iff.mp h
    have h1 := List.map_eq_nil_iff.mp h1
    have w : (withinB s r && withinAll ss rr) = false := by rw [withinAll] at w; exact w
    have e1 : fidx (s :: ss) (r :: rr) = if withinB s r then fidx ss rr + 1 else 0 := rfl
    have e2 : othN (s :: ss) (r :: rr) = if withinB s r then othN ss rr else oth s r := by rw [othN]
    cases q : withinB s r with
    | true =>
      rw [q] at e1 e2 w
      rw [e1, e2]
      obtain ⟨s', r', a1, a2, a3, a4, a5⟩ := othN_at h2 w
      exact ⟨s', r', a1, a2, a3, a4, a5⟩
    | false =>
      rw [q] at e1 e2
      rw [e1, e2]
      exact ⟨s, r, rfl, rfl, rfl, h1, q⟩
theorem first_false : ∀ {ss rr : List Sh} {n : Nat}, withinAll ss rr = false → firstOf (.bool false) ((ss.zip rr).map fun p => PyData.bool (withinB p.1 p.2)) n = some (n + fidx ss rr)
  | [], rr, n, w => by unfold withinAll at w; cases w
  | s :: ss, [], n, w => by unfold withinAll at w; cases w
  | s :: ss, r :: rr, n, w => by
    have w : (withinB s r && withinAll ss rr) = false := by rw [withinAll] at w; exact w
    have e1 : fidx (s :: ss) (r :: rr) = if withinB s r then fidx ss rr + 1 else 0 := rfl
    rw [List.zip_cons_cons, List.map_cons]
    unfold firstOf
    cases q : withinB s r with
    | true =>
      rw [q] at e1 w
      rw [e1]
      have e2 : PyData.eqv (PyData.bool true) (.bool false) = false := rfl
      show (if PyData.eqv (PyData.bool true) (.bool false) = true then some n else firstOf (.bool false) ((ss.zip rr).map fun p => PyData.bool (withinB p.1 p.2)) (n + 1)) = some (n + (fidx ss rr + 1))
      rw [e2, if_neg (by decide), first_false w]
      congr 1
      omega
    | false =>
      rw [q] at e1
      rw [e1]
      have e2 : PyData.eqv (PyData.bool false) (.bool false) = true := rfl
      show (if PyData.eqv (PyData.bool false) (.bool false) = true then some n else firstOf (.bool false) ((ss.zip rr).map fun p => PyData.bool (withinB p.1 p.2)) (n + 1)) = some (n + 0)
      rw [if_pos e2, Nat.add_zero]
/-- the truths of a row of pairs -/
theorem comp_zipB {f k : Nat} {ss rr : List Sh} (ih : ∀ s ∈ ss, WithAt f s) (hk : Sh.deps ss + 3 ≤ k) (ok : Sh.okbs ss = true) (hl : ss.length ≤ 9) {e0 e1 e2 e3 e4 e5 : Option D} {M : Mem} {Q : AK} (hQ : Q ((ss.zip rr).map fun p => D.bl (withinB p.1 p.2)) M) :
    compW (stepC (run tab k) (.co (.nm 4) (.co (.nm 5) .no)) .nopart (.call f (.cons (.var 4) (.cons (.var 5) .nil)))) (fun _ => True) [e0, e1, e2, e3, e4, e5] (zipD (Sh.ds ss) (Sh.ds rr)) [] M Q := by
  rw [zip_ds]
  have h9 : 9 < sizeLine := by decide
  refine comp_inv (fun ds acc M' => ∃ (done l : List (Sh × Sh)), ds = prD l ∧ (∀ p ∈ l, p.1 ∈ ss) ∧ ss.zip rr = done ++ l ∧ acc = done.map (fun p => D.bl (withinB p.1 p.2)) ∧ M' = M) ?_ ?_ _ _ _ ⟨[], ss.zip rr, rfl, fun p hp => (List.of_mem_zip hp).1, rfl, rfl, rfl⟩
  · rintro x ds acc M' ⟨done, l, hd, hm, hz, rfl, rfl⟩
    match l, hd with
    | p :: l, hd =>
      injection hd with hx hd'
      subst hx
      have hp := hm p (List.mem_cons_self ..)
      have hzl : done.length + (l.length + 1) ≤ 9 := by
        have := congrArg List.length hz
        rw [List.length_zip, List.length_append, List.length_cons] at this
        omega
      refine ⟨trivial, ?_⟩
      conv => whnf
      refine run_is (ih p.1 hp p.2 k M' (okbs_mem ok _ hp) (by have := Sh.deps_mem p.1 hp; omega)) (Nat.le_refl _) ?_
      exact ⟨by rw [List.length_map]; omega, done ++ [p], l, hd', fun q hq => hm q (List.mem_cons_of_mem _ hq), by rw [hz, List.append_assoc]; rfl, by rw [List.map_append]; rfl, rfl⟩
  · rintro acc M' ⟨done, l, hd, hm, hz, rfl, rfl⟩
    match l, hd with
    | [], hd =>
      rw [List.append_nil] at hz
      rw [hz] at hQ
      exact ⟨trivial, hQ⟩
end Wp

/-! PwDeep: data with places of lists at any depth, read as trees; set beside one another. -/
namespace Wp
open PySem
mutual
/-- a thing in the memory reads as a tree -/
def Lk (M : Mem) : D → D → Prop
  | x, .lst vs => ∃ xs, (x = .lst xs ∨ ∃ a, x = .loc a ∧ M a = some (.lst xs)) ∧ Lks M xs vs
  | x, .tup vs => ∃ xs, x = .tup xs ∧ Lks M xs vs
  | x, .non => x = .non
  | x, .bl b => x = .bl b
  | x, .int i => x = .int i
  | x, .str z => x = .str z
  | x, .scr ns => x = .scr ns
  | x, .emp => x = .emp
  | _, .loc _ => False
def Lks (M : Mem) : List D → List D → Prop
  | xs, [] => xs = []
  | xs, v :: vs => ∃ x r, xs = x :: r ∧ Lk M x v ∧ Lks M r vs
end
theorem lks_cons {M : Mem} {x v : D} {xs vs : List D} (h : Lk M x v) (t : Lks M xs vs) : Lks M (x :: xs) (v :: vs) := by
  unfold Lks
  exact ⟨x, xs, rfl, h, t⟩
theorem lks_nil {M : Mem} : Lks M [] [] := by unfold Lks; rfl
theorem lks_len {M : Mem} : ∀ {xs vs : List D}, Lks M xs vs → xs.length = vs.length
  | xs, [], h => by unfold Lks at h; rw [h]
  | xs, v :: vs, h => by
    unfold Lks at h
    obtain ⟨x, r, rfl, _, t⟩ := h
    rw [List.length_cons, List.length_cons, lks_len t]
theorem lks_app {M : Mem} : ∀ {xs vs ys ws : List D}, Lks M xs vs → Lks M ys ws → Lks M (xs ++ ys) (vs ++ ws)
  | xs, [], ys, ws, h, t => by unfold Lks at h; rw [h]; exact t
  | xs, v :: vs, ys, ws, h, t => by
    unfold Lks at h
    obtain ⟨x, r, rfl, h1, h2⟩ := h
    exact lks_cons h1 (lks_app h2 t)
theorem lks_get {M : Mem} : ∀ {xs vs : List D} {i : Nat} {v : D}, Lks M xs vs → vs[i]? = some v → ∃ x, xs[i]? = some x ∧ Lk M x v
  | xs, [], i, v, h, e => by rw [List.getElem?_nil] at e; cases e
  | xs, w :: vs, 0, v, h, e => by
    unfold Lks at h
    obtain ⟨x, r, rfl, h1, h2⟩ := h
    rw [List.getElem?_cons_zero] at e
    cases e
    exact ⟨x, rfl, h1⟩
  | xs, w :: vs, i + 1, v, h, e => by
    unfold Lks at h
    obtain ⟨x, r, rfl, h1, h2⟩ := h
    rw [List.getElem?_cons_succ] at e
    obtain ⟨y, e2, h3⟩ := lks_get h2 e
    exact ⟨y, by rw [List.getElem?_cons_succ]; exact e2, h3⟩
theorem lk_tup {M : Mem} {xs vs : List D} (h : Lks M xs vs) : Lk M (.tup xs) (.tup vs) := by unfold Lk; exact ⟨xs, rfl, h⟩
theorem lk_lst {M : Mem} {xs vs : List D} (h : Lks M xs vs) : Lk M (.lst xs) (.lst vs) := by unfold Lk; exact ⟨xs, .inl rfl, h⟩
theorem lk_loc {M : Mem} {a : Addr} {xs vs : List D} (e : M a = some (.lst xs)) (h : Lks M xs vs) : Lk M (.loc a) (.lst vs) := by unfold Lk; exact ⟨xs, .inr ⟨a, rfl, e⟩, h⟩
mutual
/-- a tree reads as itself -/
theorem lk_self {M : Mem} : ∀ {v : D}, plV v = true → Lk M v v
  | .non, _ => by unfold Lk; rfl
  | .int _, _ => by unfold Lk; rfl
  | .str _, _ => by unfold Lk; rfl
  | .tup ds, h => by unfold plV at h; exact lk_tup (lks_self (plVs_of h))
  | .lst ds, h => by unfold plV at h; exact lk_lst (lks_self (plVs_of h))
  | .bl _, h => by unfold plV at h; cases h
  | .scr _, h => by unfold plV at h; cases h
  | .emp, h => by unfold plV at h; cases h
  | .loc _, h => by unfold plV at h; cases h
theorem lks_self {M : Mem} : ∀ {vs : List D}, (∀ v ∈ vs, plV v = true) → Lks M vs vs
  | [], _ => lks_nil
  | v :: vs, h => lks_cons (lk_self (h v (List.mem_cons_self ..))) (lks_self fun w hw => h w (List.mem_cons_of_mem _ hw))
end
theorem optAll_same {f : D → Option PyData} {M : Mem} (ih : ∀ {x v : D}, Lk M x v → plV v = true → dep v ≤ k → f x = toPy v) : ∀ {xs vs : List D}, Lks M xs vs → (∀ v ∈ vs, plV v = true) → deps vs ≤ k → optAll f xs = toPys vs
  | xs, [], h, _, _ => by unfold Lks at h; rw [h]; rfl
  | xs, v :: vs, h, hp, hd => by
    unfold Lks at h
    obtain ⟨x, r, rfl, h1, h2⟩ := h
    unfold deps at hd
    unfold optAll toPys
    rw [ih h1 (hp v (List.mem_cons_self ..)) (by omega), optAll_same ih h2 (fun w hw => hp w (List.mem_cons_of_mem _ hw)) (by omega)]
    cases toPy v <;> cases toPys vs <;> rfl
theorem toPyF_lk {M : Mem} : ∀ (n : Nat) {x v : D}, Lk M x v → plV v = true → dep v < n → toPyF M n x = toPy v
  | 0, _, _, _, _, h => absurd h (Nat.not_lt_zero _)
  | n + 1, x, v, h, hp, hd => by
    cases v with
    | non => unfold Lk at h; rw [h]; rfl
    | int i => unfold Lk at h; rw [h]; rfl
    | str z => unfold Lk at h; rw [h]; rfl
    | tup vs =>
      unfold Lk at h
      obtain ⟨xs, rfl, h⟩ := h
      unfold plV at hp
      unfold dep at hd
      show (optAll (toPyF M n) xs).map PyData.tuple = (toPys vs).map PyData.tuple
      rw [optAll_same (k := n - 1) (fun h1 h2 h3 => toPyF_lk n h1 h2 (by omega)) h (plVs_of hp) (by omega)]
    | lst vs =>
      unfold Lk at h
      obtain ⟨xs, hx, h⟩ := h
      unfold plV at hp
      unfold dep at hd
      have e := optAll_same (k := n - 1) (fun h1 h2 h3 => toPyF_lk n h1 h2 (by omega)) h (plVs_of hp) (by omega)
      rcases hx with rfl | ⟨a, rfl, ha⟩
      · show (optAll (toPyF M n) xs).map PyData.list = (toPys vs).map PyData.list
        rw [e]
      · show (match M a with
          | some (.lst ds) => (optAll (toPyF M n) ds).map PyData.list
          | _ => none) = (toPys vs).map PyData.list
        rw [ha]
        show (optAll (toPyF M n) xs).map PyData.list = (toPys vs).map PyData.list
        rw [e]
    | bl _ => unfold plV at hp; cases hp
    | scr _ => unfold plV at hp; cases hp
    | emp => unfold plV at hp; cases hp
    | loc _ => unfold plV at hp; cases hp
/-- what reads shallowly reads deeply as the same -/
theorem optAll_to {f g : D → Option PyData} (ih : ∀ {x : D} {p q : PyData}, f x = some p → g x = some q → p = q) : ∀ {xs : List D} {ps qs : List PyData}, optAll f xs = some ps → optAll g xs = some qs → ps = qs
  | [], ps, qs, h1, h2 => by cases h1; cases h2; rfl
  | x :: xs, ps, qs, h1, h2 => by
    unfold optAll at h1 h2
    cases e1 : f x with
    | none => rw [e1] at h1; cases h1
    | some p =>
      cases e2 : optAll f xs with
      | none => rw [e1, e2] at h1; cases h1
      | some ps' =>
        cases e3 : g x with
        | none => rw [e3] at h2; cases h2
        | some q =>
          cases e4 : optAll g xs with
          | none => rw [e3, e4] at h2; cases h2
          | some qs' =>
            rw [e1, e2] at h1; rw [e3, e4] at h2
            cases h1; cases h2
            rw [ih e1 e3, optAll_to ih e2 e4]
theorem toPys_opt : ∀ xs : List D, toPys xs = optAll toPy xs
  | [] => rfl
  | x :: xs => by
    unfold toPys optAll
    rw [toPys_opt xs]
    cases toPy x <;> cases optAll toPy xs <;> rfl
theorem toPys1_opt (M : Mem) : ∀ xs : List D, toPys1 M xs = optAll (toPy1 M) xs
  | [] => rfl
  | x :: xs => by
    unfold toPys1 optAll
    rw [toPys1_opt M xs]
    cases toPy1 M x <;> cases optAll (toPy1 M) xs <;> rfl
theorem map_same {α β : Type} {f : α → β} {o o' : Option α} {p q : β} (h : ∀ a b, o = some a → o' = some b → a = b) (h1 : o.map f = some p) (h2 : o'.map f = some q) : p = q := by
  cases o with
  | none => cases h1
  | some a =>
    cases o' with
    | none => cases h2
    | some b => cases h1; cases h2; rw [h a b rfl rfl]
theorem toPy_F {M : Mem} : ∀ (n : Nat) {x : D} {p q : PyData}, toPy x = some p → toPyF M n x = some q → p = q
  | 0, _, _, _, _, h => by cases h
  | n + 1, x, p, q, h1, h2 => by
    cases x with
    | tup ds =>
      have h1 : (toPys ds).map PyData.tuple = some p := by unfold toPy at h1; exact h1
      have h2 : (optAll (toPyF M n) ds).map PyData.tuple = some q := h2
      rw [toPys_opt] at h1
      exact map_same (fun a b e1 e2 => optAll_to (fun k1 k2 => toPy_F n k1 k2) e1 e2) h1 h2
    | lst ds =>
      have h1 : (toPys ds).map PyData.list = some p := by unfold toPy at h1; exact h1
      have h2 : (optAll (toPyF M n) ds).map PyData.list = some q := h2
      rw [toPys_opt] at h1
      exact map_same (fun a b e1 e2 => optAll_to (fun k1 k2 => toPy_F n k1 k2) e1 e2) h1 h2
    | loc a => unfold toPy at h1; cases h1
    | _ =>
      have h2 : toPy _ = some q := h2
      rw [h1] at h2; injection h2
theorem toPy1_F {M : Mem} {n : Nat} {x : D} {p q : PyData} (h1 : toPy1 M x = some p) (h2 : toPyF M n x = some q) : p = q := by
  cases x with
  | loc a =>
    cases n with
    | zero => cases h2
    | succ n =>
      have h1 : (match M a with
        | some (.lst ds) => (toPys ds).map PyData.list
        | _ => none) = some p := h1
      have h2 : (match M a with
        | some (.lst ds) => (optAll (toPyF M n) ds).map PyData.list
        | _ => none) = some q := h2
      cases e : M a with
      | none => rw [e] at h1; cases h1
      | some ob =>
        rw [e] at h1 h2
        cases ob with
        | lst ds =>
          have h1 : (toPys ds).map PyData.list = some p := h1
          have h2 : (optAll (toPyF M n) ds).map PyData.list = some q := h2
          rw [toPys_opt] at h1
          exact map_same (fun a b e1 e2 => optAll_to (fun k1 k2 => toPy_F n k1 k2) e1 e2) h1 h2
        | _ => cases h1
  | _ => exact toPy_F n h1 h2
theorem toPyM_F {M : Mem} {n : Nat} {x : D} {p q : PyData} (h1 : toPyM M x = some p) (h2 : toPyF M n x = some q) : p = q := by
  cases x with
  | tup ds =>
    cases n with
    | zero => cases h2
    | succ n =>
      have h1 : (toPys1 M ds).map PyData.tuple = some p := h1
      have h2 : (optAll (toPyF M n) ds).map PyData.tuple = some q := h2
      rw [toPys1_opt] at h1
      exact map_same (fun a b e1 e2 => optAll_to (fun k1 k2 => toPy1_F k1 k2) e1 e2) h1 h2
  | _ => exact toPy1_F (M := M) (by exact h1) h2
/-- == of things that read as trees -/
theorem eqP_lk {v w x y : D} {neg : Bool} {M : Mem} {Q : QK} (hx : Lk M x v) (hy : Lk M y w) (hv : plV v = true) (hw : plV w = true) (dv : dep v ≤ 28) (dw : dep w ≤ 28) (h1 : v = w → Q (.bl (!neg)) M) (h2 : v ≠ w → Q (.bl neg) M) : eqP neg x y M Q := by
  obtain ⟨p, e1, _, _⟩ := toPy_pl hv
  obtain ⟨q, e2, _, _⟩ := toPy_pl hw
  have f1 : toPyF M 30 x = some p := (toPyF_lk 30 hx hv (by omega)).trans e1
  have f2 : toPyF M 30 y = some q := (toPyF_lk 30 hy hw (by omega)).trans e2
  have main : SeqAt.shaped p = true ∧ SeqAt.shaped q = true ∧ Q (.bl (if neg then !PyData.eqv p q else PyData.eqv p q)) M := by
    refine ⟨shaped_pl hv (by omega) e1, shaped_pl hw (by omega) e2, ?_⟩
    have k := eqv_pl hv hw e1 e2
    by_cases e : v = w
    · rw [k.mpr e]
      cases neg <;> exact h1 e
    · rw [Bool.eq_false_iff.mpr fun z => e (k.mp z)]
      cases neg <;> exact h2 e
  have deep : eqF neg x y M Q := by
    unfold eqF
    rw [f1, f2]
    exact main
  unfold eqP
  cases g1 : toPyM M x with
  | none => exact deep
  | some p' =>
    cases g2 : toPyM M y with
    | none => exact deep
    | some q' =>
      obtain rfl := toPyM_F g1 f1
      obtain rfl := toPyM_F g2 f2
      exact main
theorem lk_asL {M : Mem} {x : D} {vs : List D} (h : Lk M x (.lst vs)) : ∃ xs, asL M x = some xs ∧ Lks M xs vs ∧ (x = .lst xs ∨ ∃ a, x = .loc a ∧ M a = some (.lst xs)) := by
  unfold Lk at h
  obtain ⟨xs, hx, h⟩ := h
  refine ⟨xs, ?_, h, hx⟩
  rcases hx with rfl | ⟨a, rfl, ha⟩
  · rfl
  · exact asL_loc ha
/-- .. of two lists -/
theorem eqW_lk {vs ws : List D} {x y : D} {neg : Bool} {M : Mem} {Q : QK} (hx : Lk M x (.lst vs)) (hy : Lk M y (.lst ws)) (hv : ∀ v ∈ vs, plV v = true) (hw : ∀ v ∈ ws, plV v = true) (dv : deps vs ≤ 27) (dw : deps ws ≤ 27) (h1 : vs = ws → Q (.bl (!neg)) M) (h2 : vs ≠ ws → Q (.bl neg) M) : eqW neg x y M Q := by
  obtain ⟨xs, e1, l1, c1⟩ := lk_asL hx
  obtain ⟨ys, e2, l2, c2⟩ := lk_asL hy
  unfold eqW
  have en : eqA x y = none := by
    rcases c1 with rfl | ⟨a, rfl, _⟩ <;> rcases c2 with rfl | ⟨b, rfl, _⟩ <;> rfl
  rw [en]
  dsimp only
  unfold eqL
  rw [e1, e2]
  dsimp only
  by_cases hl : xs.length = ys.length
  · rw [if_pos hl]
    refine eqP_lk hx hy (plV_ls hv) (plV_ls hw) (by unfold dep; omega) (by unfold dep; omega) (fun e => h1 (by injection e)) (fun e => h2 fun z => e (by rw [z]))
  · rw [if_neg hl]
    refine h2 fun z => hl ?_
    rw [lks_len l1, lks_len l2, z]
/-- .. of two tuples -/
theorem eqW_lkT {vs ws xs ys : List D} {neg : Bool} {M : Mem} {Q : QK} (hx : Lks M xs vs) (hy : Lks M ys ws) (hv : ∀ v ∈ vs, plV v = true) (hw : ∀ v ∈ ws, plV v = true) (dv : deps vs ≤ 27) (dw : deps ws ≤ 27) (h1 : vs = ws → Q (.bl (!neg)) M) (h2 : vs ≠ ws → Q (.bl neg) M) : eqW neg (.tup xs) (.tup ys) M Q := by
  have P : eqP neg (.tup xs) (.tup ys) M Q := eqP_lk (lk_tup hx) (lk_tup hy) (plV_tp hv) (plV_tp hw) (by unfold dep; omega) (by unfold dep; omega) (fun e => h1 (by injection e)) (fun e => h2 fun z => e (by rw [z]))
  show (match eqU (.tup xs) (.tup ys) with
    | true => Q (.bl neg) M
    | false => eqP neg (.tup xs) (.tup ys) M Q)
  cases q : eqU (.tup xs) (.tup ys) with
  | false => exact P
  | true =>
    refine h2 fun z => ?_
    subst z
    have := (lks_len hx).trans (lks_len hy).symm
    cases xs <;> cases ys <;> first | (cases q; done) | (cases this; done)
/-- as whnf leaves it -/
theorem lkM {vs ws : List D} {x y : D} {neg : Bool} {M : Mem} {Q : QK} (hx : Lk M x (.lst vs)) (hy : Lk M y (.lst ws)) (hv : ∀ v ∈ vs, plV v = true) (hw : ∀ v ∈ ws, plV v = true) (dv : deps vs ≤ 27) (dw : deps ws ≤ 27) (h1 : vs = ws → Q (.bl (!neg)) M) (h2 : vs ≠ ws → Q (.bl neg) M) : (match asL M x, asL M y with
    | some xs, some ys => if xs.length = ys.length then eqP neg x y M Q else Q (.bl neg) M
    | _, _ => match eqU x y with
      | true => Q (.bl neg) M
      | false => eqP neg x y M Q) := by
  have h := eqW_lk hx hy hv hw dv dw h1 h2
  obtain ⟨xs, e1, l1, c1⟩ := lk_asL hx
  obtain ⟨ys, e2, l2, c2⟩ := lk_asL hy
  unfold eqW at h
  have en : eqA x y = none := by
    rcases c1 with rfl | ⟨a, rfl, _⟩ <;> rcases c2 with rfl | ⟨b, rfl, _⟩ <;> rfl
  rw [en] at h
  exact h
theorem cmpNe_lk {vs ws : List D} {x y : D} {M : Mem} {Q : QK} (hx : Lk M x (.lst vs)) (hy : Lk M y (.lst ws)) (hv : ∀ v ∈ vs, plV v = true) (hw : ∀ v ∈ ws, plV v = true) (dv : deps vs ≤ 27) (dw : deps ws ≤ 27) (h1 : vs = ws → Q (.bl false) M) (h2 : vs ≠ ws → Q (.bl true) M) : cmpW .NotEq x y M Q :=
  eqW_lk (neg := true) hx hy hv hw dv dw h1 h2
theorem cmpEq_lk {vs ws : List D} {x y : D} {M : Mem} {Q : QK} (hx : Lk M x (.lst vs)) (hy : Lk M y (.lst ws)) (hv : ∀ v ∈ vs, plV v = true) (hw : ∀ v ∈ ws, plV v = true) (dv : deps vs ≤ 27) (dw : deps ws ≤ 27) (h1 : vs = ws → Q (.bl true) M) (h2 : vs ≠ ws → Q (.bl false) M) : cmpW .Eq x y M Q :=
  eqW_lk (neg := false) hx hy hv hw dv dw h1 h2
theorem cmpNe_lkT {vs ws xs ys : List D} {M : Mem} {Q : QK} (hx : Lks M xs vs) (hy : Lks M ys ws) (hv : ∀ v ∈ vs, plV v = true) (hw : ∀ v ∈ ws, plV v = true) (dv : deps vs ≤ 27) (dw : deps ws ≤ 27) (h1 : vs = ws → Q (.bl false) M) (h2 : vs ≠ ws → Q (.bl true) M) : cmpW .NotEq (.tup xs) (.tup ys) M Q :=
  eqW_lkT (neg := true) hx hy hv hw dv dw h1 h2
theorem cmpEq_lkT {vs ws xs ys : List D} {M : Mem} {Q : QK} (hx : Lks M xs vs) (hy : Lks M ys ws) (hv : ∀ v ∈ vs, plV v = true) (hw : ∀ v ∈ ws, plV v = true) (dv : deps vs ≤ 27) (dw : deps ws ≤ 27) (h1 : vs = ws → Q (.bl true) M) (h2 : vs ≠ ws → Q (.bl false) M) : cmpW .Eq (.tup xs) (.tup ys) M Q :=
  eqW_lkT (neg := false) hx hy hv hw dv dw h1 h2
/-- two things that read as the same tree -/
theorem lk_same {M : Mem} {x y v : D} (hx : Lk M x v) (hy : Lk M y v) (hv : plV v = true) (dv : dep v ≤ 28) : ∃ p, toPyF M 30 x = some p ∧ toPyF M 30 y = some p ∧ SeqAt.shaped p = true ∧ PyData.eqv p p = true ∧ (∀ d, toPyM M x = some d → d = p) ∧ ∀ d, toPyM M y = some d → d = p := by
  obtain ⟨p, e1, _, _⟩ := toPy_pl hv
  have f1 : toPyF M 30 x = some p := (toPyF_lk 30 hx hv (by omega)).trans e1
  have f2 : toPyF M 30 y = some p := (toPyF_lk 30 hy hv (by omega)).trans e1
  exact ⟨p, f1, f2, shaped_pl hv (by omega) e1, (eqv_pl hv hv e1 e1).mpr rfl, fun d h => toPyM_F h f1, fun d h => toPyM_F h f2⟩
end Wp

/-! PwOwn: values whose lists, at any depth, stand in the memory, each at a place of its own. -/
namespace Wp
open PySem
mutual
def OwnV (M : Mem) : D → D → List Addr → Prop
  | x, .lst vs, L => ∃ a xs L', x = .loc a ∧ M a = some (.lst xs) ∧ L = a :: L' ∧ OwnVs M xs vs L'
  | x, .tup vs, L => ∃ xs, x = .tup xs ∧ OwnVs M xs vs L
  | x, .non, L => x = .non ∧ L = []
  | x, .int i, L => x = .int i ∧ L = []
  | x, .str z, L => x = .str z ∧ L = []
  | _, .bl _, _ => False
  | _, .scr _, _ => False
  | _, .emp, _ => False
  | _, .loc _, _ => False
def OwnVs (M : Mem) : List D → List D → List Addr → Prop
  | xs, [], L => xs = [] ∧ L = []
  | xs, v :: vs, L => ∃ x r L1 L2, xs = x :: r ∧ L = L1 ++ L2 ∧ OwnV M x v L1 ∧ OwnVs M r vs L2
end
theorem own_nil {M : Mem} : OwnVs M [] [] [] := by unfold OwnVs; exact ⟨rfl, rfl⟩
theorem own_cons {M : Mem} {x v : D} {xs vs : List D} {L1 L2 : List Addr} (h : OwnV M x v L1) (t : OwnVs M xs vs L2) : OwnVs M (x :: xs) (v :: vs) (L1 ++ L2) := by
  unfold OwnVs
  exact ⟨x, xs, L1, L2, rfl, rfl, h, t⟩
theorem own_snoc {M : Mem} {x v : D} {L1 : List Addr} : ∀ {xs vs : List D} {L : List Addr}, OwnVs M xs vs L → OwnV M x v L1 → OwnVs M (xs ++ [x]) (vs ++ [v]) (L ++ L1)
  | xs, [], L, h, hx => by
    unfold OwnVs at h
    obtain ⟨rfl, rfl⟩ := h
    have := own_cons hx (own_nil (M := M))
    rw [List.append_nil] at this
    exact this
  | xs, w :: vs, L, h, hx => by
    unfold OwnVs at h
    obtain ⟨y, r, L2, L3, rfl, rfl, h1, h2⟩ := h
    have := own_cons h1 (own_snoc h2 hx)
    rw [← List.append_assoc] at this
    exact this
theorem own_len {M : Mem} : ∀ {xs vs : List D} {L : List Addr}, OwnVs M xs vs L → xs.length = vs.length
  | xs, [], L, h => by unfold OwnVs at h; rw [h.1]
  | xs, v :: vs, L, h => by
    unfold OwnVs at h
    obtain ⟨y, r, L2, L3, rfl, rfl, h1, h2⟩ := h
    rw [List.length_cons, List.length_cons, own_len h2]
mutual
theorem own_ext {M M' : Mem} : ∀ {x v : D} {L : List Addr}, (∀ a ∈ L, ∀ ob, M a = some ob → M' a = some ob) → OwnV M x v L → OwnV M' x v L
  | x, .lst vs, L, e, h => by
    unfold OwnV at h ⊢
    obtain ⟨a, xs, L', h1, h2, rfl, h4⟩ := h
    exact ⟨a, xs, L', h1, e a (List.mem_cons_self ..) _ h2, rfl, own_exts (fun b hb => e b (List.mem_cons_of_mem _ hb)) h4⟩
  | x, .tup vs, L, e, h => by
    unfold OwnV at h ⊢
    obtain ⟨xs, h1, h4⟩ := h
    exact ⟨xs, h1, own_exts e h4⟩
  | x, .non, L, e, h => by unfold OwnV at h ⊢; exact h
  | x, .int i, L, e, h => by unfold OwnV at h ⊢; exact h
  | x, .str z, L, e, h => by unfold OwnV at h ⊢; exact h
  | x, .bl _, L, e, h => by unfold OwnV at h; exact h.elim
  | x, .scr _, L, e, h => by unfold OwnV at h; exact h.elim
  | x, .emp, L, e, h => by unfold OwnV at h; exact h.elim
  | x, .loc _, L, e, h => by unfold OwnV at h; exact h.elim
theorem own_exts {M M' : Mem} : ∀ {xs vs : List D} {L : List Addr}, (∀ a ∈ L, ∀ ob, M a = some ob → M' a = some ob) → OwnVs M xs vs L → OwnVs M' xs vs L
  | xs, [], L, e, h => by unfold OwnVs at h ⊢; exact h
  | xs, v :: vs, L, e, h => by
    unfold OwnVs at h ⊢
    obtain ⟨y, r, L2, L3, h1, rfl, h3, h4⟩ := h
    exact ⟨y, r, L2, L3, h1, rfl, own_ext (fun a ha => e a (List.mem_append_left _ ha)) h3, own_exts (fun a ha => e a (List.mem_append_right _ ha)) h4⟩
end
mutual
theorem own_lk {M : Mem} : ∀ {x v : D} {L : List Addr}, OwnV M x v L → Lk M x v
  | x, .lst vs, L, h => by
    unfold OwnV at h
    obtain ⟨a, xs, L', rfl, h2, rfl, h4⟩ := h
    exact lk_loc h2 (own_lks h4)
  | x, .tup vs, L, h => by
    unfold OwnV at h
    obtain ⟨xs, rfl, h4⟩ := h
    exact lk_tup (own_lks h4)
  | x, .non, L, h => by unfold OwnV at h; unfold Lk; exact h.1
  | x, .int i, L, h => by unfold OwnV at h; unfold Lk; exact h.1
  | x, .str z, L, h => by unfold OwnV at h; unfold Lk; exact h.1
  | x, .bl _, L, h => by unfold OwnV at h; exact h.elim
  | x, .scr _, L, h => by unfold OwnV at h; exact h.elim
  | x, .emp, L, h => by unfold OwnV at h; exact h.elim
  | x, .loc _, L, h => by unfold OwnV at h; exact h.elim
theorem own_lks {M : Mem} : ∀ {xs vs : List D} {L : List Addr}, OwnVs M xs vs L → Lks M xs vs
  | xs, [], L, h => by unfold OwnVs at h; rw [h.1]; exact lks_nil
  | xs, v :: vs, L, h => by
    unfold OwnVs at h
    obtain ⟨y, r, L2, L3, rfl, rfl, h3, h4⟩ := h
    exact lks_cons (own_lk h3) (own_lks h4)
end
mutual
theorem own_at {M : Mem} : ∀ {x v : D} {L : List Addr}, OwnV M x v L → ∀ a ∈ L, ∃ ds, M a = some (.lst ds)
  | x, .lst vs, L, h => by
    unfold OwnV at h
    obtain ⟨a, xs, L', rfl, h2, rfl, h4⟩ := h
    exact all_cons ⟨xs, h2⟩ (own_ats h4)
  | x, .tup vs, L, h => by
    unfold OwnV at h
    obtain ⟨xs, rfl, h4⟩ := h
    exact own_ats h4
  | x, .non, L, h => by unfold OwnV at h; rw [h.2]; exact all_nil
  | x, .int i, L, h => by unfold OwnV at h; rw [h.2]; exact all_nil
  | x, .str z, L, h => by unfold OwnV at h; rw [h.2]; exact all_nil
  | x, .bl _, L, h => by unfold OwnV at h; exact h.elim
  | x, .scr _, L, h => by unfold OwnV at h; exact h.elim
  | x, .emp, L, h => by unfold OwnV at h; exact h.elim
  | x, .loc _, L, h => by unfold OwnV at h; exact h.elim
theorem own_ats {M : Mem} : ∀ {xs vs : List D} {L : List Addr}, OwnVs M xs vs L → ∀ a ∈ L, ∃ ds, M a = some (.lst ds)
  | xs, [], L, h => by unfold OwnVs at h; rw [h.2]; exact all_nil
  | xs, v :: vs, L, h => by
    unfold OwnVs at h
    obtain ⟨y, r, L2, L3, rfl, rfl, h3, h4⟩ := h
    exact all_app (own_at h3) (own_ats h4)
end
/-- a new value: its lists at new places, each at one of its own -/
structure NewV (M0 M : Mem) (x v : D) (L : List Addr) : Prop where
  own : OwnV M x v L
  nd : L.Nodup
  fr : ∀ a ∈ L, M0 a = none
  ex : Ext M0 M
/-- no list in it -/
def flV : D → Bool
  | .non => true
  | .int _ => true
  | .str _ => true
  | _ => false
theorem own_fl {M : Mem} {v : D} (h : flV v = true) : OwnV M v v [] := by
  cases v <;> first | (cases h; done) | (unfold OwnV; exact ⟨rfl, rfl⟩)
theorem new_fl {M0 M : Mem} {v : D} (h : flV v = true) (e : Ext M0 M) : NewV M0 M v v [] := ⟨own_fl h, List.nodup_nil, all_nil, e⟩
theorem nodup_app {L L2 : List Addr} (h : L.Nodup) (h2 : L2.Nodup) (hd : ∀ a ∈ L, a ∉ L2) : (L ++ L2).Nodup :=
  List.nodup_append.mpr ⟨h, h2, fun a ha b hb e => hd a ha (e ▸ hb)⟩
end Wp

/-! CtA: new values, each list at a place of its own; least_value and outside of lists. -/
namespace Wp
open PySem
structure NewVs (M0 M : Mem) (xs vs : List D) (L : List Addr) : Prop where
  own : OwnVs M xs vs L
  nd : L.Nodup
  fr : ∀ a ∈ L, M0 a = none
  ex : Ext M0 M
theorem NewV.up {M0 M M2 : Mem} {x v : D} {L : List Addr} (h : NewV M0 M x v L) (e : Ext M M2) : NewV M0 M2 x v L := ⟨own_ext (fun a _ ob ho => e a ob ho) h.own, h.nd, h.fr, h.ex.trans e⟩
theorem NewV.dn {M0 M M2 : Mem} {x v : D} {L : List Addr} (h : NewV M M2 x v L) (e : Ext M0 M) : NewV M0 M2 x v L := ⟨h.own, h.nd, fun a ha => e.off (h.fr a ha), e.trans h.ex⟩
theorem news_nil {M : Mem} : NewVs M M [] [] [] := ⟨own_nil, List.nodup_nil, all_nil, .refl⟩
theorem news_snoc {M0 M1 M2 : Mem} {xs vs : List D} {L1 L2 : List Addr} {x v : D} (h : NewVs M0 M1 xs vs L1) (g : NewV M1 M2 x v L2) : NewVs M0 M2 (xs ++ [x]) (vs ++ [v]) (L1 ++ L2) := by
  refine ⟨own_snoc (own_exts (fun a _ ob ho => g.ex a ob ho) h.own) g.own, nodup_app h.nd g.nd fun a ha hb => ?_, all_app h.fr fun a ha => h.ex.off (g.fr a ha), h.ex.trans g.ex⟩
  obtain ⟨ds, hd⟩ := own_ats h.own a ha
  have := g.fr a hb
  rw [hd] at this; cases this
theorem new_tup {M0 M : Mem} {xs vs : List D} {L : List Addr} (h : NewVs M0 M xs vs L) : NewV M0 M (.tup xs) (.tup vs) L :=
  ⟨by unfold OwnV; exact ⟨xs, rfl, h.own⟩, h.nd, h.fr, h.ex⟩
theorem new_lst {M0 M : Mem} {xs vs : List D} {L : List Addr} {p : Addr} (h : NewVs M0 M xs vs L) (hp : M p = none) : NewV M0 (M.upd p (.lst xs)) (.loc p) (.lst vs) (p :: L) := by
  have hL : p ∉ L := fun hx => by
    obtain ⟨ds, hd⟩ := own_ats h.own p hx
    rw [hp] at hd; cases hd
  refine ⟨?_, List.nodup_cons.mpr ⟨hL, h.nd⟩, all_cons (h.ex.off hp) h.fr, h.ex.trans (Ext.new .refl hp)⟩
  unfold OwnV
  exact ⟨p, xs, L, rfl, Mem.upd_same, rfl, own_exts (fun a _ ob ho => Ext.new .refl hp a ob ho) h.own⟩
theorem news_one {M0 M : Mem} {x v : D} {L : List Addr} (h : NewV M0 M x v L) : NewVs M0 M [x] [v] L := by
  have := own_cons h.own (own_nil (M := M))
  rw [List.append_nil] at this
  exact ⟨this, h.nd, h.fr, h.ex⟩
theorem new_two {M0 M1 M2 : Mem} {x v y w : D} {L1 L2 : List Addr} (h : NewV M0 M1 x v L1) (g : NewV M1 M2 y w L2) : NewV M0 M2 (.tup [x, y]) (.tup [v, w]) (L1 ++ L2) :=
  new_tup (news_snoc (news_one h) g)
/-- .. the second one read first -/
theorem new_two2 {M0 M1 M2 : Mem} {x v y w : D} {L1 L2 : List Addr} (g : NewV M0 M1 y w L2) (h : NewV M1 M2 x v L1) : NewV M0 M2 (.tup [x, y]) (.tup [v, w]) (L1 ++ L2) := by
  have g2 := g.up h.ex
  refine ⟨?_, nodup_app h.nd g.nd fun a ha hb => ?_, all_app (fun a ha => g.ex.off (h.fr a ha)) g.fr, g.ex.trans h.ex⟩
  · unfold OwnV
    refine ⟨_, rfl, ?_⟩
    have := own_cons h.own (own_cons g2.own own_nil)
    rw [List.append_nil] at this
    exact this
  · obtain ⟨ds, hd⟩ := own_at g.own a hb
    have := h.fr a ha
    rw [hd] at this; cases this
theorem new_of {M0 M : Mem} {x v : D} {L : List Addr} {k : Nat} (h : NewV M0 M x v L) : NewV M0 M (ofD k x) (ofD k v) L := by
  refine ⟨?_, h.nd, h.fr, h.ex⟩
  unfold OwnV
  refine ⟨_, rfl, ?_⟩
  have := own_cons (own_fl (M := M) (v := .str "of") rfl) (own_cons (own_fl (M := M) (v := .int (k : Nat)) rfl) (own_cons h.own own_nil))
  rw [List.append_nil] at this
  exact this
theorem Ext.one {M : Mem} {p : Addr} {o : Ob} (hp : M p = none) : Ext M (M.upd p o) := Ext.new .refl hp
abbrev NewQ (M : Mem) (v : D) : QK := fun x M' => ∃ L, NewV M M' x v L
abbrev LstAt (s : Sh) : Prop := ∀ (k : Nat) (M : Mem), s.okb = true → s.dep + 1 ≤ k → run tab k f_least_value [s.d] M (NewQ M (least s)) fun _ _ => False
set_option maxHeartbeats 0 in
theorem lst_leaf {s : Sh} (h : s.dep = 0 ∨ ∃ t m, s = .list t m) (hc : ∀ ss, s ≠ .choice ss) : LstAt s := by
  intro k M ok hk
  obtain ⟨k, rfl⟩ : ∃ j, k = j + 1 := ⟨k - 1, by omega⟩
  refine run_in rfl rfl ?_
  cases s
  case pair => rcases h with h | ⟨t, m, h⟩ <;> cases h
  case choice ss => exact absurd rfl (hc ss)
  case list =>
    conv => whnf
    refine ⟨lok rfl, fun p hp => ?_⟩
    conv => whnf
    exact .done ⟨_, new_lst news_nil hp⟩
  all_goals
    conv => whnf
    exact .done ⟨_, new_fl rfl .refl⟩
set_option maxHeartbeats 0 in
theorem lst_pair {a b : Sh} (iha : LstAt a) (ihb : LstAt b) : LstAt (.pair a b) := by
  intro k M ok hk
  have hk : max a.dep b.dep + 1 + 1 ≤ k := hk
  obtain ⟨k, rfl⟩ : ∃ j, k = j + 1 := ⟨k - 1, by omega⟩
  unfold Sh.okb at ok
  rw [Bool.and_eq_true] at ok
  refine run_in rfl rfl ?_
  conv => whnf
  refine run_use (iha k M ok.1 (by omega)) (Nat.le_refl _) fun x M1 h1 => ?_
  obtain ⟨L1, h1⟩ := h1
  conv => whnf
  refine run_use (ihb k M1 ok.2 (by omega)) (Nat.le_refl _) fun y M2 h2 => ?_
  obtain ⟨L2, h2⟩ := h2
  conv => whnf
  refine ⟨lok rfl, ?_⟩
  conv => whnf
  exact .done ⟨_, new_two h1 h2⟩
set_option maxHeartbeats 0 in
theorem lst_choice {ss : List Sh} (ih : ∀ s ∈ ss, LstAt s) : LstAt (.choice ss) := by
  intro k M ok hk
  have hk : Sh.deps ss + 1 + 1 ≤ k := hk
  obtain ⟨k, rfl⟩ : ∃ j, k = j + 1 := ⟨k - 1, by omega⟩
  unfold Sh.okb at ok
  rw [Bool.and_eq_true, Bool.and_eq_true, decide_eq_true_eq] at ok
  match ss, ok with
  | s :: ss, ok =>
    have hd := Sh.deps_mem s (List.mem_cons_self (a := s) (l := ss))
    refine run_in rfl rfl ?_
    conv => whnf
    rw [show atI (Sh.ds (s :: ss)) 0 = some s.d from atI_ofN (i := 0) rfl]
    conv => whnf
    refine run_use (ih s (List.mem_cons_self ..) k M (okbs_mem ok.2 s (List.mem_cons_self ..)) (by omega)) (Nat.le_refl _) fun x M1 h1 => ?_
    obtain ⟨L1, h1⟩ := h1
    conv => whnf
    refine ⟨lok rfl, ?_⟩
    conv => whnf
    exact .done ⟨_, new_of (k := 0) h1⟩
mutual
theorem r_lst : ∀ s : Sh, LstAt s
  | .nothing => lst_leaf (.inl rfl) fun _ h => by cases h
  | .number _ _ => lst_leaf (.inl rfl) fun _ h => by cases h
  | .text _ => lst_leaf (.inl rfl) fun _ h => by cases h
  | .list s m => lst_leaf (.inr ⟨_, _, rfl⟩) fun _ h => by cases h
  | .pair a b => lst_pair (r_lst a) (r_lst b)
  | .choice ss => lst_choice (r_lsts ss)
theorem r_lsts : ∀ (ss : List Sh), ∀ s ∈ ss, LstAt s
  | [], s, h => by cases h
  | x :: ss, s, h => by
    rcases List.mem_cons.mp h with h | h
    · rw [h]; exact r_lst x
    · exact r_lsts ss s h
end
theorem use_lst {s : Sh} {k : Nat} {M : Mem} {Q : QK} {E : XQ} (ok : s.okb = true) (hk : s.dep + 1 ≤ k) (h : ∀ x M' L, NewV M M' x (least s) L → Q x M') : run tab k f_least_value [s.d] M Q E :=
  run_use (r_lst s k M ok hk) (Nat.le_refl _) fun x M' ⟨L, hx⟩ => h x M' L hx
/-- a tuple of at most one new value -/
def OutQ (l : List D) (M : Mem) : QK := fun y M' => match l with
  | [] => y = .tup [] ∧ Ext M M'
  | v :: _ => ∃ x L, y = .tup [x] ∧ NewV M M' x v L
abbrev OuAt (s : Sh) : Prop := ∀ (r : Sh) (k : Nat) (M : Mem), s.okb = true → r.okb = true → 2 * s.dep + 3 ≤ k → run tab k f_outside [s.d, r.d] M (OutQ (outL s r) M) fun _ _ => False
theorem outL_two {s r : Sh} {v w : D} {l : List D} : outL s r ≠ v :: w :: l := fun h => by
  have := outL_len (s := s) (r := r)
  rw [h, List.length_cons, List.length_cons] at this
  omega
/-- at most one -/
theorem outL_cases (s r : Sh) : outL s r = [] ∨ ∃ v, outL s r = [v] := by
  have := outL_len (s := s) (r := r)
  match outL s r, this with
  | [], _ => exact .inl rfl
  | [v], _ => exact .inr ⟨v, rfl⟩
  | _ :: _ :: _, h => rw [List.length_cons, List.length_cons] at h; omega
set_option maxHeartbeats 0 in
theorem r_ou_list {s s' : Sh} {m m' : Int} (ih : OuAt s) (k : Nat) (M : Mem) (ok : (Sh.list s m).okb = true) (rk : (Sh.list s' m').okb = true) (hk : 2 * s.dep + 4 ≤ k) :
    run tab k f_outside_list [(Sh.list s m).d, (Sh.list s' m').d] M (OutQ (outL (.list s m) (.list s' m')) M) fun _ _ => False := by
  obtain ⟨k, rfl⟩ : ∃ j, k = j + 1 := ⟨k - 1, by omega⟩
  have h2000 : 2000 ≤ sizeLine := by decide
  unfold Sh.okb at ok rk
  rw [Bool.and_eq_true, Bool.and_eq_true, decide_eq_true_eq, decide_eq_true_eq] at ok rk
  have e : outL (.list s m) (.list s' m') = (if m > m' then [D.lst (List.replicate (m' + 1).toNat (least s))] else if m = 0 then [] else (outL s s').map fun v => D.lst [v]) := by
    conv => { lhs; unfold outL }
  rw [e]
  refine run_in rfl rfl ?_
  conv => whnf
  by_cases q : m' < m
  · rw [decide_eq_true q, if_pos q]
    conv => whnf
    refine ⟨⟨by omega, by omega⟩, ?_⟩
    refine comp_inv (fun ds acc M' => ∃ L, NewVs M M' acc (List.replicate acc.length (least s)) L ∧ ds.length + acc.length = (m' + 1).toNat) ?_ ?_ _ _ _ ⟨[], news_nil, by rw [rng_len]; rfl⟩
    · rintro x ds acc M' ⟨L, ha, hl⟩
      rw [List.length_cons] at hl
      refine ⟨trivial, ?_⟩
      conv => whnf
      refine use_lst ok.2 (by omega) fun x M2 L2 h2 => ?_
      have hla : (acc ++ [x]).length = acc.length + 1 := by rw [List.length_append]; rfl
      refine ⟨by omega, L ++ L2, ?_, by rw [hla]; omega⟩
      rw [hla, List.replicate_succ']
      exact news_snoc ha h2
    · rintro acc M' ⟨L, ha, hl⟩
      rw [List.length_nil, Nat.zero_add] at hl
      refine ⟨trivial, ?_⟩
      refine newL_at (by omega) fun p hp => ?_
      refine ⟨lok rfl, ?_⟩
      conv => whnf
      refine .done ⟨.loc p, p :: L, rfl, ?_⟩
      rw [← hl]
      exact new_lst ha hp
  · rw [decide_eq_false q, if_neg q]
    conv => whnf
    by_cases z : m = 0
    · rw [decide_eq_true z, if_pos z]
      conv => whnf
      refine ⟨lok rfl, ?_⟩
      exact .done ⟨rfl, .refl⟩
    · rw [decide_eq_false z, if_neg z]
      conv => whnf
      refine run_use (ih s' k M ok.2 rk.2 (by omega)) (Nat.le_refl _) fun y M1 h1 => ?_
      rcases outL_cases s s' with e1 | ⟨v, e1⟩
      · rw [e1] at h1 ⊢
        obtain ⟨rfl, h1⟩ := h1
        conv => whnf
        refine ⟨trivial, ?_⟩
        refine newL_fz (Nat.zero_le _) ?_
        conv => whnf
        exact .done ⟨rfl, h1⟩
      · rw [e1] at h1 ⊢
        obtain ⟨x, L, rfl, h1⟩ := h1
        conv => whnf
        refine ⟨trivial, ?_⟩
        conv => whnf
        refine ⟨lok rfl, fun p hp => ?_⟩
        conv => whnf
        refine ⟨lok rfl, trivial, ?_⟩
        refine newL_fz (by show 1 ≤ _; omega) ?_
        conv => whnf
        exact .done ⟨_, _, rfl, new_lst (news_one h1) hp⟩
end Wp

/-! CtB: outside, of pairs and choices, its lists in the memory. -/
namespace Wp
open PySem
set_option maxHeartbeats 0 in
theorem r_ou_pair {a b a' b' : Sh} (iha : OuAt a) (ihb : OuAt b) (k : Nat) (M : Mem) (ok : (Sh.pair a b).okb = true) (rk : (Sh.pair a' b').okb = true) (hk : 2 * max a.dep b.dep + 4 ≤ k) :
    run tab k f_outside_pair [(Sh.pair a b).d, (Sh.pair a' b').d] M (OutQ (outL (.pair a b) (.pair a' b')) M) fun _ _ => False := by
  obtain ⟨k, rfl⟩ : ∃ j, k = j + 1 := ⟨k - 1, by omega⟩
  have h2000 : 2000 ≤ sizeLine := by decide
  unfold Sh.okb at ok rk
  rw [Bool.and_eq_true] at ok rk
  have e : outL (.pair a b) (.pair a' b') = ((outL a a').map (fun v => D.tup [v, least b]) ++ (outL b b').map (fun v => D.tup [least a, v])).take 1 := by
    conv => { lhs; unfold outL }
  rw [e]
  refine run_in rfl rfl ?_
  conv => whnf
  refine run_use (iha a' k M ok.1 rk.1 (by omega)) (Nat.le_refl _) fun y1 M1 h1 => ?_
  rcases outL_cases a a' with e1 | ⟨v1, e1⟩
  · rw [e1] at h1 ⊢
    obtain ⟨rfl, h1⟩ := h1
    conv => whnf
    refine ⟨trivial, ?_⟩
    refine newL_fz (Nat.zero_le _) ?_
    conv => whnf
    refine run_use (ihb b' k M1 ok.2 rk.2 (by omega)) (Nat.le_refl _) fun y2 M2 h2 => ?_
    rcases outL_cases b b' with e2 | ⟨v2, e2⟩
    · rw [e2] at h2 ⊢
      obtain ⟨rfl, h2⟩ := h2
      conv => whnf
      refine ⟨trivial, ?_⟩
      refine newL_fz (Nat.zero_le _) ?_
      conv => whnf
      refine ⟨lok rfl, ?_⟩
      conv => whnf
      exact .done ⟨rfl, h1.trans h2⟩
    · rw [e2] at h2 ⊢
      obtain ⟨x2, L2, rfl, h2⟩ := h2
      conv => whnf
      refine ⟨trivial, ?_⟩
      conv => whnf
      refine use_lst ok.1 (by omega) fun z M3 L3 h3 => ?_
      refine ⟨lok rfl, ?_⟩
      conv => whnf
      refine ⟨lok rfl, trivial, ?_⟩
      refine newL_fz (by show 1 ≤ _; omega) ?_
      conv => whnf
      refine ⟨lok rfl, ?_⟩
      conv => whnf
      exact .done ⟨_, _, rfl, (new_two2 h2 h3).dn h1⟩
  · rw [e1] at h1 ⊢
    obtain ⟨x1, L1, rfl, h1⟩ := h1
    conv => whnf
    refine ⟨trivial, ?_⟩
    conv => whnf
    refine use_lst ok.2 (by omega) fun z M2 L2 h2 => ?_
    refine ⟨lok rfl, ?_⟩
    conv => whnf
    refine ⟨lok rfl, trivial, ?_⟩
    refine newL_fz (by show 1 ≤ _; omega) ?_
    have n := new_two h1 h2
    conv => whnf
    refine run_use (ihb b' k M2 ok.2 rk.2 (by omega)) (Nat.le_refl _) fun y2 M3 h3 => ?_
    rcases outL_cases b b' with e2 | ⟨v2, e2⟩
    · rw [e2] at h3 ⊢
      obtain ⟨rfl, h3⟩ := h3
      conv => whnf
      refine ⟨trivial, ?_⟩
      refine newL_fz (Nat.zero_le _) ?_
      conv => whnf
      refine ⟨lok rfl, ?_⟩
      conv => whnf
      exact .done ⟨_, _, rfl, n.up h3⟩
    · rw [e2] at h3 ⊢
      obtain ⟨x2, L3, rfl, h3⟩ := h3
      conv => whnf
      refine ⟨trivial, ?_⟩
      conv => whnf
      refine use_lst ok.1 (by omega) fun z M4 L4 h4 => ?_
      refine ⟨lok rfl, ?_⟩
      conv => whnf
      refine ⟨lok rfl, trivial, ?_⟩
      refine newL_fz (by show 1 ≤ _; omega) ?_
      conv => whnf
      refine ⟨lok rfl, ?_⟩
      conv => whnf
      exact .done ⟨_, _, rfl, n.up (h3.ex.trans h4.ex)⟩
/-- a row of values, of which the first one is new -/
def HdV (M M1 : Mem) (xs vs : List D) : Prop := xs.length = vs.length ∧ Ext M M1 ∧ ∀ v ws, vs = v :: ws → ∃ x ys L, xs = x :: ys ∧ NewV M M1 x v L
theorem hd_nil {M : Mem} : HdV M M [] [] := ⟨rfl, .refl, fun v ws h => by cases h⟩
theorem hd_up {M M1 M2 : Mem} {xs vs : List D} (h : HdV M M1 xs vs) (e : Ext M1 M2) : HdV M M2 xs vs := ⟨h.1, h.2.1.trans e, fun v ws q => by
  obtain ⟨x, ys, L, h1, h2⟩ := h.2.2 v ws q
  exact ⟨x, ys, L, h1, h2.up e⟩⟩
theorem hd_snoc {M M1 M2 : Mem} {xs vs : List D} {x v : D} {L : List Addr} (h : HdV M M1 xs vs) (g : NewV M1 M2 x v L) : HdV M M2 (xs ++ [x]) (vs ++ [v]) := by
  have h2 := hd_up h g.ex
  refine ⟨by rw [List.length_append, List.length_append, h.1]; rfl, h2.2.1, fun w ws q => ?_⟩
  cases vs with
  | nil =>
    have : xs = [] := List.length_eq_zero_iff.mp (by rw [h.1]; rfl)
    subst this
    injection q with q1 q2
    subst q1
    exact ⟨x, [], L, rfl, g.dn h.2.1⟩
  | cons v1 vs =>
    injection q with q1 q2
    subst q1
    obtain ⟨y, ys, L2, hx, hn⟩ := h2.2.2 v1 vs rfl
    exact ⟨y, ys ++ [x], L2, by rw [hx]; rfl, hn⟩
/-- .. read beside a place that is set aside -/
theorem new_aside {M1 M2 : Mem} {q : Addr} {ob : Ob} {x v : D} {L : List Addr} (hq : M1 q = none) (h : NewV (M1.upd q ob) M2 x v L) : NewV M1 (M2.del q) x v L ∧ M2 q = some ob := by
  have hm : M2 q = some ob := h.ex q ob Mem.upd_same
  have hL : q ∉ L := fun hx => by
    have := h.fr q hx
    rw [Mem.upd_same] at this
    cases this
  refine ⟨⟨own_ext (fun a ha ob ho => ?_) h.own, h.nd, fun a ha => ?_, fun a o ho => ?_⟩, hm⟩
  · have : a ≠ q := fun z => hL (z ▸ ha)
    rw [Mem.del_ne this]; exact ho
  · have := h.fr a ha
    have hne : a ≠ q := fun z => hL (z ▸ ha)
    rw [Mem.upd_ne hne] at this
    exact this
  · have hne : a ≠ q := fun z => by rw [z, hq] at ho; cases ho
    rw [Mem.del_ne hne]
    exact h.ex a o (by rw [Mem.upd_ne hne]; exact ho)
theorem ext_aside {M1 M2 : Mem} {q : Addr} {ob : Ob} (hq : M1 q = none) (h : Ext (M1.upd q ob) M2) : Ext M1 (M2.del q) ∧ M2 q = some ob := by
  refine ⟨fun a o ho => ?_, h q ob Mem.upd_same⟩
  have hne : a ≠ q := fun z => by rw [z, hq] at ho; cases ho
  rw [Mem.del_ne hne]
  exact h a o (by rw [Mem.upd_ne hne]; exact ho)
theorem del_upd {M : Mem} {q : Addr} {o : Ob} : (M.del q).upd q o = M.upd q o := by
  funext b
  unfold Mem.upd Mem.del
  split
  · rfl
  · rfl
theorem del_off {M : Mem} {q : Addr} : M.del q q = none := if_pos rfl
theorem Mem.upd_same' {M : Mem} {q : Addr} {o : Ob} (h : M q = some o) : M.upd q o = M := by
  funext b
  unfold Mem.upd
  split
  · rename_i e; rw [e, h]
  · rfl
set_option maxHeartbeats 0 in
theorem r_ou_choice {ss rr : List Sh} (ih : ∀ s ∈ ss, OuAt s) (k : Nat) (M : Mem) (ok : (Sh.choice ss).okb = true) (rk : (Sh.choice rr).okb = true) (hk : 2 * Sh.deps ss + 4 ≤ k) :
    run tab k f_outside_choice [(Sh.choice ss).d, (Sh.choice rr).d] M (OutQ (outL (.choice ss) (.choice rr)) M) fun _ _ => False := by
  obtain ⟨k, rfl⟩ : ∃ j, k = j + 1 := ⟨k - 1, by omega⟩
  have h2000 : 2000 ≤ sizeLine := by decide
  have e : outL (.choice ss) (.choice rr) = (outC 0 ss rr).take 1 := by
    conv => { lhs; unfold outL }
  rw [e]
  unfold Sh.okb at ok rk
  rw [Bool.and_eq_true, Bool.and_eq_true, decide_eq_true_eq, decide_eq_true_eq] at ok rk
  have hrl : (Sh.ds rr).length = rr.length := Sh.ds_len rr
  have htot : (outC 0 ss rr).length ≤ 9 := Nat.le_trans outC_length ok.1.2
  generalize hT : outC 0 ss rr = T at htot
  refine run_in rfl rfl ?_
  conv => whnf
  refine ⟨lok rfl, fun q hq => ?_⟩
  conv => whnf
  refine each_inv (fun rem env M' => ∃ (done left : List Sh) (acc xs : List D) (M1 : Mem) (e3 e4 e5 : Option D), ss = done ++ left ∧ rem = enumD done.length (Sh.ds left) ∧ env = [some (Sh.choice ss).d, some (Sh.choice rr).d, some (.loc q), e3, e4, e5] ∧ acc ++ outC done.length left (rr.drop done.length) = T ∧ M' = M1.upd q (.lst xs) ∧ M1 q = none ∧ HdV M M1 xs acc) ?_ ?_ _ _ _ ⟨[], ss, [], [], M, none, none, none, rfl, rfl, rfl, by rw [List.nil_append]; exact hT, rfl, hq, hd_nil⟩
  · rintro x rem env M' ⟨done, left, acc, xs, M1, e3, e4, e5, hss, hd, rfl, hacc, rfl, hq1, hV⟩
    match left, hd with
    | s :: left, hd =>
      injection hd with hx hd'
      subst hx
      have hmem : s ∈ ss := by rw [hss]; exact List.mem_append_right _ (List.mem_cons_self ..)
      have oks := okbs_mem ok.2 s hmem
      have hdp := Sh.deps_mem s hmem
      have hxl := hV.1
      have hal : acc.length ≤ 9 := by rw [← hacc, List.length_append] at htot; omega
      have hss' : ss = (done ++ [s]) ++ left := by rw [hss, List.append_assoc]; rfl
      have hdl : (done ++ [s]).length = done.length + 1 := by rw [List.length_append]; rfl
      refine ⟨trivial, ?_⟩
      conv => whnf
      by_cases z : rr.length ≤ done.length
      · rw [decide_eq_true (show ((Sh.ds rr).length : Int) ≤ ((done.length : Nat) : Int) by omega)]
        have e1 : rr.drop done.length = [] := List.drop_eq_nil_of_le z
        have e2 : rr.drop (done.length + 1) = [] := List.drop_eq_nil_of_le (by omega)
        rw [e1] at hacc
        have e3 : outC done.length (s :: left) [] = ofD done.length (least s) :: outC (done.length + 1) left [] := by conv => { lhs; unfold outC }
        rw [e3] at hacc
        conv => whnf
        refine ⟨rcv_loc (by decide) Mem.upd_same, ?_⟩
        conv => whnf
        refine use_lst oks (by omega) fun z M2 L2 h2 => ?_
        obtain ⟨h3, hm2⟩ := new_aside hq1 h2
        refine ⟨lok rfl, ?_⟩
        conv => whnf
        rw [hm2]
        refine ⟨by omega, ?_⟩
        conv => whnf
        refine ⟨done ++ [s], left, acc ++ [ofD done.length (least s)], xs ++ [ofD done.length z], M2.del q, _, _, _, hss', by rw [hdl]; exact hd', rfl, ?_, del_upd.symm, del_off, hd_snoc hV (new_of h3)⟩
        rw [hdl, e2, List.append_assoc]
        exact hacc
      · rw [decide_eq_false (show ¬ ((Sh.ds rr).length : Int) ≤ ((done.length : Nat) : Int) by omega)]
        obtain ⟨r, hr⟩ : ∃ r, rr[done.length]? = some r := ⟨rr[done.length]'(by omega), List.getElem?_eq_getElem _⟩
        have e1 : rr.drop done.length = r :: rr.drop (done.length + 1) := by
          obtain ⟨h, hg⟩ := List.getElem?_eq_some_iff.mp hr
          rw [← hg]
          exact List.drop_eq_getElem_cons h
        have rks := okbs_mem rk.2 r (List.mem_of_getElem? hr)
        rw [e1] at hacc
        have e3 : outC done.length (s :: left) (r :: rr.drop (done.length + 1)) = (outL s r).map (ofD done.length) ++ outC (done.length + 1) left (rr.drop (done.length + 1)) := by conv => { lhs; unfold outC }
        rw [e3] at hacc
        conv => whnf
        refine ⟨rcv_loc (by decide) Mem.upd_same, ?_⟩
        conv => whnf
        rw [show atI (Sh.ds rr) ((done.length : Nat) : Int) = some r.d from atI_ofN (Sh.ds_nthG rr _ r hr)]
        conv => whnf
        refine run_use (ih s hmem r k _ oks rks (by omega)) (Nat.le_refl _) fun y2 M2 h2 => ?_
        rcases outL_cases s r with e4 | ⟨v4, e4⟩
        · rw [e4] at h2 hacc
          obtain ⟨rfl, h2⟩ := h2
          obtain ⟨h3, hm2⟩ := ext_aside hq1 h2
          conv => whnf
          refine ⟨trivial, ?_⟩
          refine newL_fz (Nat.zero_le _) ?_
          conv => whnf
          rw [hm2]
          refine ⟨by rw [List.length_nil]; omega, ?_⟩
          conv => whnf
          refine ⟨done ++ [s], left, acc, xs, M2.del q, _, _, _, hss', by rw [hdl]; exact hd', rfl, ?_, by rw [List.append_nil, del_upd], del_off, hd_up hV h3⟩
          rw [hdl]
          exact hacc
        · rw [e4] at h2 hacc
          obtain ⟨x, L, rfl, h2⟩ := h2
          obtain ⟨h3, hm2⟩ := new_aside hq1 h2
          conv => whnf
          refine ⟨trivial, ?_⟩
          conv => whnf
          refine ⟨lok rfl, ?_⟩
          refine ⟨lok rfl, trivial, ?_⟩
          refine newL_fz (by show 1 ≤ _; omega) ?_
          conv => whnf
          rw [hm2]
          refine ⟨by show _ + 1 ≤ _; omega, ?_⟩
          conv => whnf
          refine ⟨done ++ [s], left, acc ++ [ofD done.length v4], xs ++ [ofD done.length x], M2.del q, _, _, _, hss', by rw [hdl]; exact hd', rfl, ?_, del_upd.symm, del_off, hd_snoc hV (new_of h3)⟩
          rw [hdl, List.append_assoc]
          exact hacc
  · rintro env M' ⟨done, left, acc, xs, M1, e3, e4, e5, hss, hd, rfl, hacc, rfl, hq1, hV⟩
    match left, hd with
    | [], hd =>
      have e0 : outC done.length [] (rr.drop done.length) = [] := by unfold outC; rfl
      rw [e0, List.append_nil] at hacc
      subst hacc
      refine ⟨trivial, ?_⟩
      conv => whnf
      rw [asL_loc Mem.upd_same]
      conv => whnf
      rw [cut_one]
      have hxl := hV.1
      refine ⟨by rw [List.length_take]; omega, ?_⟩
      conv => whnf
      refine .done ?_
      cases acc with
      | nil =>
        have : xs = [] := List.length_eq_zero_iff.mp (by rw [hxl]; rfl)
        subst this
        exact ⟨rfl, hV.2.1.trans (Ext.one hq1)⟩
      | cons v ws =>
        obtain ⟨x, ys, L, rfl, hn⟩ := hV.2.2 v ws rfl
        exact ⟨x, L, rfl, hn.up (Ext.one hq1)⟩
end Wp

/-! CtC: outside, other_bytes, parting, their lists in the memory. -/
namespace Wp
open PySem
set_option maxHeartbeats 0 in
theorem ou_nothing : OuAt .nothing := by
  intro r k M ok rk hk
  obtain ⟨k, rfl⟩ : ∃ j, k = j + 1 := ⟨k - 1, by omega⟩
  refine run_in rfl rfl ?_
  cases r
  case nothing =>
    conv => whnf
    refine ⟨lok rfl, ?_⟩
    exact .done (by unfold outL; exact ⟨rfl, .refl⟩)
  all_goals
    conv => whnf
    refine use_lst ok (by omega) fun z M2 L2 h2 => ?_
    refine ⟨lok rfl, ?_⟩
    conv => whnf
    exact .done (by unfold outL; exact ⟨_, _, rfl, h2⟩)
set_option maxHeartbeats 0 in
theorem ou_number (lo hi : Int) : OuAt (.number lo hi) := by
  intro r k M ok rk hk
  obtain ⟨k, rfl⟩ : ∃ j, k = j + 1 := ⟨k - 1, by omega⟩
  have hk : 0 + 3 ≤ k + 1 := hk
  have hk2 : (Sh.number lo hi).dep + 1 ≤ k := by show 0 + 1 ≤ k; omega
  refine run_in rfl rfl ?_
  cases r
  case number lo' hi' =>
    have e : outL (.number lo hi) (.number lo' hi') = (if lo < lo' then [D.int lo] else if hi > hi' then [D.int hi] else []) := by conv => { lhs; unfold outL }
    rw [e]
    conv => whnf
    by_cases q : lo < lo'
    · rw [decide_eq_true q, if_pos q]
      conv => whnf
      refine ⟨lok rfl, ?_⟩
      exact .done ⟨_, _, rfl, new_fl rfl .refl⟩
    · rw [decide_eq_false q, if_neg q]
      conv => whnf
      by_cases q2 : hi' < hi
      · rw [decide_eq_true q2, if_pos q2]
        conv => whnf
        refine ⟨lok rfl, ?_⟩
        exact .done ⟨_, _, rfl, new_fl rfl .refl⟩
      · rw [decide_eq_false q2, if_neg q2]
        conv => whnf
        refine ⟨lok rfl, ?_⟩
        exact .done ⟨rfl, .refl⟩
  all_goals
    conv => whnf
    refine use_lst ok hk2 fun z M2 L2 h2 => ?_
    refine ⟨lok rfl, ?_⟩
    conv => whnf
    exact .done (by unfold outL; exact ⟨_, _, rfl, h2⟩)
set_option maxHeartbeats 0 in
theorem ou_text (m : Int) : OuAt (.text m) := by
  intro r k M ok rk hk
  obtain ⟨k, rfl⟩ : ∃ j, k = j + 1 := ⟨k - 1, by omega⟩
  have hk : 0 + 3 ≤ k + 1 := hk
  have hk2 : (Sh.text m).dep + 1 ≤ k := by show 0 + 1 ≤ k; omega
  have h2000 : 2000 ≤ sizeLine := by decide
  refine run_in rfl rfl ?_
  cases r
  case text m' =>
    have rk : (decide (0 ≤ m') && decide (m' ≤ 250)) = true := rk
    rw [Bool.and_eq_true, decide_eq_true_eq, decide_eq_true_eq] at rk
    have e : outL (.text m) (.text m') = (if m > m' then [D.str (repS "a" (m' + 1).toNat)] else []) := by conv => { lhs; unfold outL }
    rw [e]
    conv => whnf
    by_cases q : m' < m
    · rw [decide_eq_true q, if_pos q]
      conv => whnf
      refine ⟨by omega, by omega, ?_, ?_⟩
      · have : ("a" : Str).length = 1 := by decide +kernel
        rw [this]; omega
      conv => whnf
      refine ⟨lok rfl, ?_⟩
      exact .done ⟨_, _, rfl, new_fl rfl .refl⟩
    · rw [decide_eq_false q, if_neg q]
      conv => whnf
      refine ⟨lok rfl, ?_⟩
      exact .done ⟨rfl, .refl⟩
  all_goals
    conv => whnf
    refine use_lst ok hk2 fun z M2 L2 h2 => ?_
    refine ⟨lok rfl, ?_⟩
    conv => whnf
    exact .done (by unfold outL; exact ⟨_, _, rfl, h2⟩)
set_option maxHeartbeats 0 in
theorem ou_list {s : Sh} (m : Int) (ih : OuAt s) : OuAt (.list s m) := by
  intro r k M ok rk hk
  obtain ⟨k, rfl⟩ : ∃ j, k = j + 1 := ⟨k - 1, by omega⟩
  have hk : 2 * (s.dep + 1) + 3 ≤ k + 1 := hk
  have hk2 : (Sh.list s m).dep + 1 ≤ k := by show s.dep + 1 + 1 ≤ k; omega
  refine run_in rfl rfl ?_
  cases r
  case list s' m' =>
    conv => whnf
    refine run_use (r_ou_list ih k M ok rk (by omega)) (Nat.le_refl _) fun y M1 h1 => ?_
    exact .done h1
  all_goals
    conv => whnf
    refine use_lst ok hk2 fun z M2 L2 h2 => ?_
    refine ⟨lok rfl, ?_⟩
    conv => whnf
    exact .done (by unfold outL; exact ⟨_, _, rfl, h2⟩)
set_option maxHeartbeats 0 in
theorem ou_pair {a b : Sh} (iha : OuAt a) (ihb : OuAt b) : OuAt (.pair a b) := by
  intro r k M ok rk hk
  obtain ⟨k, rfl⟩ : ∃ j, k = j + 1 := ⟨k - 1, by omega⟩
  have hk : 2 * (max a.dep b.dep + 1) + 3 ≤ k + 1 := hk
  have hk2 : (Sh.pair a b).dep + 1 ≤ k := by show max a.dep b.dep + 1 + 1 ≤ k; omega
  refine run_in rfl rfl ?_
  cases r
  case pair a' b' =>
    conv => whnf
    refine run_use (r_ou_pair iha ihb k M ok rk (by omega)) (Nat.le_refl _) fun y M1 h1 => ?_
    exact .done h1
  all_goals
    conv => whnf
    refine use_lst ok hk2 fun z M2 L2 h2 => ?_
    refine ⟨lok rfl, ?_⟩
    conv => whnf
    exact .done (by unfold outL; exact ⟨_, _, rfl, h2⟩)
set_option maxHeartbeats 0 in
theorem ou_choice {ss : List Sh} (ih : ∀ s ∈ ss, OuAt s) : OuAt (.choice ss) := by
  intro r k M ok rk hk
  obtain ⟨k, rfl⟩ : ∃ j, k = j + 1 := ⟨k - 1, by omega⟩
  have hk : 2 * (Sh.deps ss + 1) + 3 ≤ k + 1 := hk
  have hk2 : (Sh.choice ss).dep + 1 ≤ k := by show Sh.deps ss + 1 + 1 ≤ k; omega
  refine run_in rfl rfl ?_
  cases r
  case choice rr =>
    conv => whnf
    refine run_use (r_ou_choice ih k M ok rk (by omega)) (Nat.le_refl _) fun y M1 h1 => ?_
    exact .done h1
  all_goals
    conv => whnf
    refine use_lst ok hk2 fun z M2 L2 h2 => ?_
    refine ⟨lok rfl, ?_⟩
    conv => whnf
    exact .done (by unfold outL; exact ⟨_, _, rfl, h2⟩)
mutual
theorem r_ou : ∀ s : Sh, OuAt s
  | .nothing => ou_nothing
  | .number lo hi => ou_number lo hi
  | .text m => ou_text m
  | .list s m => ou_list m (r_ou s)
  | .pair a b => ou_pair (r_ou a) (r_ou b)
  | .choice ss => ou_choice (r_ous ss)
theorem r_ous : ∀ (ss : List Sh), ∀ s ∈ ss, OuAt s
  | [], s, h => by cases h
  | x :: ss, s, h => by
    rcases List.mem_cons.mp h with h | h
    · rw [h]; exact r_ou x
    · exact r_ous ss s h
end
abbrev OtAt (s : Sh) : Prop := ∀ (r : Sh) (k : Nat) (M : Mem), s.okb = true → r.okb = true → outL s r = [] → withinB s r = false → s.dep + 5 ≤ k → run tab k f_other_bytes [s.d, r.d] M (NewQ M (oth s r)) fun _ _ => False
theorem ot_no {s : Sh} (h : ∀ r, outL s r = [] → withinB s r = true) : OtAt s := fun r k M ok rk h1 h2 => absurd (h r h1) (by rw [h2]; decide)
theorem ot_nothing : OtAt .nothing := ot_no fun r h => by
  cases r
  case nothing => exact within_refl _
  all_goals (unfold outL at h; cases h)
theorem ot_text (m : Int) : OtAt (.text m) := ot_no fun r h => by
  cases r
  case text m' =>
    have h : (if m > m' then [D.str (repS "a" (m' + 1).toNat)] else []) = [] := by unfold outL at h; exact h
    split at h
    · cases h
    · exact wi_text.mpr (by omega)
  all_goals (unfold outL at h; cases h)
set_option maxHeartbeats 0 in
theorem ot_number (lo hi : Int) : OtAt (.number lo hi) := by
  intro r k M ok rk h w hk
  obtain ⟨k, rfl⟩ : ∃ j, k = j + 1 := ⟨k - 1, by omega⟩
  refine run_in rfl rfl ?_
  conv => whnf
  refine .done ⟨[], ?_⟩
  unfold oth
  exact new_fl rfl .refl
set_option maxHeartbeats 0 in
theorem ot_list {s : Sh} (m : Int) (ih : OtAt s) : OtAt (.list s m) := by
  intro r k M ok rk h w hk
  obtain ⟨k, rfl⟩ : ∃ j, k = j + 1 := ⟨k - 1, by omega⟩
  have hk : s.dep + 1 + 5 ≤ k + 1 := hk
  cases r
  case list s' m' =>
    obtain ⟨h1, h2⟩ := list_desc h w
    unfold Sh.okb at ok rk
    rw [Bool.and_eq_true] at ok rk
    refine run_in rfl rfl ?_
    conv => whnf
    refine run_use (ih s' k M ok.2 rk.2 h1 h2 (by omega)) (Nat.le_refl _) fun x M1 g1 => ?_
    obtain ⟨L1, g1⟩ := g1
    refine ⟨lok rfl, fun p hp => ?_⟩
    conv => whnf
    have e : oth (.list s m) (.list s' m') = .lst [oth s s'] := by conv => { lhs; unfold oth }
    rw [e]
    exact .done ⟨_, new_lst (news_one g1) hp⟩
  all_goals (unfold outL at h; cases h)
set_option maxHeartbeats 0 in
theorem ot_pair {a b : Sh} (iha : OtAt a) (ihb : OtAt b) : OtAt (.pair a b) := by
  intro r k M ok rk h w hk
  obtain ⟨k, rfl⟩ : ∃ j, k = j + 1 := ⟨k - 1, by omega⟩
  have hk : max a.dep b.dep + 1 + 5 ≤ k + 1 := hk
  cases r
  case pair a' b' =>
    obtain ⟨h1, h2⟩ := pair_desc h
    unfold Sh.okb at ok rk
    rw [Bool.and_eq_true] at ok rk
    have e : oth (.pair a b) (.pair a' b') = if withinB a a' = true then D.tup [least a, oth b b'] else D.tup [oth a a', least b] := by conv => { lhs; unfold oth }
    rw [e]
    refine run_in rfl rfl ?_
    conv => whnf
    refine run_is (r_is_within a a' k M ok.1 (by omega)) (Nat.le_refl _) ?_
    cases q : withinB a a' with
    | true =>
      have wb : withinB b b' = false := by
        cases q2 : withinB b b' with
        | false => rfl
        | true =>
          have : withinB (.pair a b) (.pair a' b') = true := wi_pair.mpr ⟨q, q2⟩
          rw [w] at this
          cases this
      conv => whnf
      refine use_lst ok.1 (by omega) fun x M1 L1 g1 => ?_
      conv => whnf
      refine run_use (ihb b' k M1 ok.2 rk.2 h2 wb (by omega)) (Nat.le_refl _) fun y M2 g2 => ?_
      obtain ⟨L2, g2⟩ := g2
      refine ⟨lok rfl, ?_⟩
      conv => whnf
      exact .done ⟨_, new_two g1 g2⟩
    | false =>
      conv => whnf
      refine run_use (iha a' k M ok.1 rk.1 h1 q (by omega)) (Nat.le_refl _) fun x M1 g1 => ?_
      obtain ⟨L1, g1⟩ := g1
      conv => whnf
      refine use_lst ok.2 (by omega) fun y M2 L2 g2 => ?_
      refine ⟨lok rfl, ?_⟩
      conv => whnf
      exact .done ⟨_, new_two g1 g2⟩
  all_goals (unfold outL at h; cases h)
set_option maxHeartbeats 0 in
theorem ot_choice {ss : List Sh} (ih : ∀ s ∈ ss, OtAt s) : OtAt (.choice ss) := by
  intro r k M ok rk h w hk
  obtain ⟨k, rfl⟩ : ∃ j, k = j + 1 := ⟨k - 1, by omega⟩
  have hk : Sh.deps ss + 1 + 5 ≤ k + 1 := hk
  have h2000 : 2000 ≤ sizeLine := by decide
  cases r
  case choice rr =>
    unfold Sh.okb at ok rk
    rw [Bool.and_eq_true, Bool.and_eq_true, decide_eq_true_eq, decide_eq_true_eq] at ok rk
    have h : (outC 0 ss rr).take 1 = [] := by unfold outL at h; exact h
    have h := take1_nil h
    have wa : withinAll ss rr = false := by
      cases q : withinAll ss rr with
      | false => rfl
      | true =>
        have : withinB (.choice ss) (.choice rr) = true := wi_choice.mpr ⟨outC_len h, q⟩
        rw [w] at this
        cases this
    obtain ⟨s, r, hs, hr, e, h1, h2⟩ := othN_at h wa
    have ff := first_false (n := 0) wa
    rw [Nat.zero_add] at ff
    have eo : oth (.choice ss) (.choice rr) = ofD (fidx ss rr) (othN ss rr) := by conv => { lhs; unfold oth }
    rw [eo, e]
    have hms := List.mem_of_getElem? hs
    have hmr := List.mem_of_getElem? hr
    have hd := Sh.deps_mem s hms
    generalize hj : fidx ss rr = j at hs hr ff
    have len : (ss.zip rr).length ≤ 9 := by rw [List.length_zip]; omega
    have hmap : ((ss.zip rr).map fun p => D.bl (withinB p.1 p.2)) = (((ss.zip rr).map fun p => withinB p.1 p.2).map D.bl) := by rw [List.map_map]; rfl
    have hmap2 : ((ss.zip rr).map fun p => PyData.bool (withinB p.1 p.2)) = (((ss.zip rr).map fun p => withinB p.1 p.2).map PyData.bool) := by rw [List.map_map]; rfl
    rw [hmap2] at ff
    refine run_in rfl rfl ?_
    conv => whnf
    refine comp_zipB (fun s hs => r_is_within s) (by omega) ok.2 ok.1.2 ?_
    rw [hmap]
    have hbl : ((ss.zip rr).map fun p => withinB p.1 p.2).length ≤ 9 := by rw [List.length_map]; exact len
    generalize ((ss.zip rr).map fun p => withinB p.1 p.2) = bs at ff hbl
    refine newL_fz (by rw [List.length_map]; omega) ?_
    conv => whnf
    refine ⟨rfl, ?_⟩
    conv => whnf
    rw [toPys_bl]
    refine ⟨?_, rfl, ?_⟩
    · show (PyData.canLayAll0 (bs.map PyData.bool) && decide (PyData.depth (.list (bs.map PyData.bool)) ≤ 64)) = true
      rw [canLay_bl]
      unfold PyData.depth
      rw [depth_bl]
      rfl
    · rw [ff]
      conv => whnf
      rw [show atI (Sh.ds ss) ((j : Nat) : Int) = some s.d from atI_ofN (Sh.ds_nthG ss _ s hs)]
      conv => whnf
      rw [show atI (Sh.ds rr) ((j : Nat) : Int) = some r.d from atI_ofN (Sh.ds_nthG rr _ r hr)]
      conv => whnf
      refine run_use (ih s hms r k M (okbs_mem ok.2 s hms) (okbs_mem rk.2 r hmr) h1 h2 (by omega)) (Nat.le_refl _) fun x M1 g1 => ?_
      obtain ⟨L1, g1⟩ := g1
      refine ⟨lok rfl, ?_⟩
      conv => whnf
      exact .done ⟨_, new_of g1⟩
  all_goals (unfold outL at h; cases h)
mutual
theorem r_ot : ∀ s : Sh, OtAt s
  | .nothing => ot_nothing
  | .number lo hi => ot_number lo hi
  | .text m => ot_text m
  | .list s m => ot_list m (r_ot s)
  | .pair a b => ot_pair (r_ot a) (r_ot b)
  | .choice ss => ot_choice (r_ots ss)
theorem r_ots : ∀ (ss : List Sh), ∀ s ∈ ss, OtAt s
  | [], s, h => by cases h
  | x :: ss, s, h => by
    rcases List.mem_cons.mp h with h | h
    · rw [h]; exact r_ot x
    · exact r_ots ss s h
end
set_option maxHeartbeats 0 in
theorem r_part_own {s r : Sh} (k : Nat) (M : Mem) (ok : s.okb = true) (rk : r.okb = true) (w : withinB s r = false) (hk : 2 * s.dep + 7 ≤ k) :
    run tab k f_parting [s.d, r.d] M (NewQ M (partV s r)) fun _ _ => False := by
  obtain ⟨k, rfl⟩ : ∃ j, k = j + 1 := ⟨k - 1, by omega⟩
  refine run_in rfl rfl ?_
  conv => whnf
  refine run_is (r_is_within s r k M ok (by omega)) (Nat.le_refl _) ?_
  rw [w]
  conv => whnf
  refine run_use (r_ou s r k M ok rk (by omega)) (Nat.le_refl _) fun y M1 h1 => ?_
  unfold partV
  cases e : outL s r with
  | nil =>
    rw [e] at h1
    obtain ⟨rfl, h1⟩ := h1
    conv => whnf
    refine ⟨trivial, ?_⟩
    conv => whnf
    refine run_use (r_ot s r k M1 ok rk e w (by omega)) (Nat.le_refl _) fun x M2 g2 => ?_
    obtain ⟨L2, g2⟩ := g2
    exact .done ⟨L2, g2.dn h1⟩
  | cons v l =>
    rw [e] at h1
    obtain ⟨x, L, rfl, h1⟩ := h1
    conv => whnf
    refine ⟨trivial, ?_⟩
    conv => whnf
    exact .done ⟨L, h1⟩
end Wp

/-! CtD: the law's own walk of two shapes; what parts none is refused. -/
namespace Wp
open PySem
set_option maxHeartbeats 0 in
theorem lwith_leafs {s : Sh} (hs : s.dep = 0 ∧ (∀ ss, s ≠ .choice ss)) : WithAt f_law_within s := by
  intro r k M ok hk
  obtain ⟨k, rfl⟩ : ∃ j, k = j + 1 := ⟨k - 1, by omega⟩
  refine run_in rfl rfl ?_
  cases s
  case list => exact absurd hs.1 (by unfold Sh.dep; omega)
  case pair => exact absurd hs.1 (by unfold Sh.dep; omega)
  case choice ss => exact absurd rfl (hs.2 ss)
  case nothing =>
    cases r
    all_goals
      conv => whnf
      exact .done ⟨rfl, rfl⟩
  case text m =>
    cases r
    all_goals
      conv => whnf
      exact .done ⟨rfl, rfl⟩
  case number lo hi =>
    cases r
    case number lo' hi' =>
      have goal : withinB (.number lo hi) (.number lo' hi') = (decide (lo = lo') && (decide (pl (hi - lo).toNat = pl (hi' - lo').toNat) && decide (hi ≤ hi'))) := by unfold withinB; rfl
      rw [goal]
      conv => whnf
      cases h1 : decide (lo = lo')
      · conv => whnf
        exact .done ⟨rfl, rfl⟩
      · conv => whnf
        cases h3 : decide (hi ≤ hi')
        · rw [Bool.and_false]
          conv => whnf
          exact .done ⟨rfl, rfl⟩
        · rw [Bool.and_true]
          conv => whnf
          refine run_is (r_places k (by omega)) (Nat.le_refl _) ?_
          conv => whnf
          refine run_is (r_places k (by omega)) (Nat.le_refl _) ?_
          conv => whnf
          by_cases h2 : pl (hi - lo).toNat = pl (hi' - lo').toNat
          · rw [decide_eq_true (show ((pl (hi - lo).toNat : Nat) : Int) = (pl (hi' - lo').toNat : Nat) by rw [h2]), decide_eq_true h2]
            exact .done ⟨rfl, rfl⟩
          · rw [decide_eq_false (show ¬ ((pl (hi - lo).toNat : Nat) : Int) = (pl (hi' - lo').toNat : Nat) by omega), decide_eq_false h2]
            exact .done ⟨rfl, rfl⟩
    all_goals
      conv => whnf
      exact .done ⟨rfl, rfl⟩
set_option maxHeartbeats 0 in
theorem lwith_list {s : Sh} (m : Int) (ih : WithAt f_law_within s) : WithAt f_law_within (.list s m) := by
  intro r k M ok hk
  have ok : s.okb = true := by
    unfold Sh.okb at ok
    rw [Bool.and_eq_true] at ok
    exact ok.2
  have hk : s.dep + 1 + 3 ≤ k := hk
  obtain ⟨k, rfl⟩ : ∃ j, k = j + 1 := ⟨k - 1, by omega⟩
  refine run_in rfl rfl ?_
  cases r
  case list s' m' =>
    have goal : withinB (.list s m) (.list s' m') = (decide (m ≤ m') && (decide (m = 0) || withinB s s')) := by rw [withinB]
    rw [goal]
    conv => whnf
    cases h1 : decide (m ≤ m')
    · conv => whnf
      exact .done ⟨rfl, rfl⟩
    · conv => whnf
      cases h2 : decide (m = 0)
      · conv => whnf
        refine run_is (ih s' k M ok (by omega)) (Nat.le_refl _) ?_
        conv => whnf
        exact .done ⟨rfl, rfl⟩
      · conv => whnf
        exact .done ⟨rfl, rfl⟩
  all_goals
    conv => whnf
    exact .done ⟨rfl, rfl⟩
set_option maxHeartbeats 0 in
theorem lwith_pair {a b : Sh} (iha : WithAt f_law_within a) (ihb : WithAt f_law_within b) : WithAt f_law_within (.pair a b) := by
  intro r k M ok hk
  have hk : max a.dep b.dep + 1 + 3 ≤ k := hk
  have ok : (a.okb && b.okb) = true := ok
  rw [Bool.and_eq_true] at ok
  obtain ⟨k, rfl⟩ : ∃ j, k = j + 1 := ⟨k - 1, by omega⟩
  refine run_in rfl rfl ?_
  cases r
  case pair a' b' =>
    have goal : withinB (.pair a b) (.pair a' b') = (withinB a a' && withinB b b') := by rw [withinB]
    rw [goal]
    conv => whnf
    refine run_is (iha a' k M ok.1 (by omega)) (Nat.le_refl _) ?_
    cases withinB a a'
    · conv => whnf
      exact .done ⟨rfl, rfl⟩
    · conv => whnf
      refine run_is (ihb b' k M ok.2 (by omega)) (Nat.le_refl _) ?_
      conv => whnf
      exact .done ⟨rfl, rfl⟩
  all_goals
    conv => whnf
    exact .done ⟨rfl, rfl⟩
set_option maxHeartbeats 0 in
theorem lwith_choice {ss : List Sh} (ih : ∀ s ∈ ss, WithAt f_law_within s) : WithAt f_law_within (.choice ss) := by
  intro r k M ok hk
  have hk : Sh.deps ss + 1 + 3 ≤ k := hk
  have ok : ((decide (1 ≤ ss.length) && decide (ss.length ≤ 9)) && Sh.okbs ss) = true := ok
  rw [Bool.and_eq_true, Bool.and_eq_true] at ok
  have l9 := of_decide_eq_true ok.1.2
  have h2000 : 2000 ≤ sizeLine := by decide
  obtain ⟨k, rfl⟩ : ∃ j, k = j + 1 := ⟨k - 1, by omega⟩
  refine run_in rfl rfl ?_
  cases r
  case choice rr =>
    have goal : withinB (.choice ss) (.choice rr) = (decide (ss.length ≤ rr.length) && withinAll ss rr) := by rw [withinB]
    rw [goal]
    conv => whnf
    refine comp_zip ih (by omega) ok.2 l9 rfl fun bs hb hW => ?_
    refine newL_fz (by rw [List.length_map]; omega) ?_
    conv => whnf
    have hlen : decide (((Sh.ds ss).length : Int) ≤ ((Sh.ds rr).length : Int)) = decide (ss.length ≤ rr.length) := by
      rw [Sh.ds_len, Sh.ds_len]
      congr 1
      exact propext (by omega)
    rw [hlen]
    cases decide (ss.length ≤ rr.length)
    · conv => whnf
      exact .done ⟨rfl, rfl⟩
    · conv => whnf
      refine notin_false ?_
      rw [hW]
      exact .done ⟨rfl, rfl⟩
  all_goals
    conv => whnf
    exact .done ⟨rfl, rfl⟩
mutual
theorem r_lwith : ∀ s : Sh, WithAt f_law_within s
  | .nothing => lwith_leafs ⟨rfl, fun _ h => by cases h⟩
  | .number _ _ => lwith_leafs ⟨rfl, fun _ h => by cases h⟩
  | .text _ => lwith_leafs ⟨rfl, fun _ h => by cases h⟩
  | .list s m => lwith_list m (r_lwith s)
  | .pair a b => lwith_pair (r_lwith a) (r_lwith b)
  | .choice ss => lwith_choice (r_lwiths ss)
theorem r_lwiths : ∀ (ss : List Sh), ∀ s ∈ ss, WithAt f_law_within s
  | [], s, h => by cases h
  | x :: ss, s, h => by
    rcases List.mem_cons.mp h with h | h
    · rw [h]; exact r_lwith x
    · exact r_lwiths ss s h
end
theorem run_ux {T : Nat → Option Fn} {n k f : Nat} {ds : List D} {M : Mem} {P Q : QK} {F E : XQ} (h : run T n f ds M P F) (hk : n ≤ k) (hq : ∀ d M', P d M' → Q d M') (he : ∀ z M', F z M' → E z M') : run T k f ds M Q E :=
  run_mono T n k hk f ds M P Q F E hq he h
set_option maxHeartbeats 0 in
theorem r_part_no {s r : Sh} (k : Nat) (M : Mem) (ok : s.okb = true) (w : withinB s r = true) (hk : s.dep + 4 ≤ k) :
    run tab k f_parting [s.d, r.d] M (fun _ _ => False) fun z M' => z = ⟨2, []⟩ ∧ M' = M := by
  obtain ⟨k, rfl⟩ : ∃ j, k = j + 1 := ⟨k - 1, by omega⟩
  refine run_in rfl rfl ?_
  conv => whnf
  refine run_is (r_is_within s r k M ok (by omega)) (Nat.le_refl _) ?_
  rw [w]
  conv => whnf
  exact ⟨rfl, rfl⟩
set_option maxHeartbeats 0 in
theorem r_lrefused {s r : Sh} (k : Nat) (M : Mem) (ok : s.okb = true) (w : withinB s r = true) (hk : s.dep + 5 ≤ k) :
    run tab k f_law_refused [s.d, r.d] M (fun v M' => v = .bl true ∧ Ext M M') fun _ _ => False := by
  obtain ⟨k, rfl⟩ : ∃ j, k = j + 1 := ⟨k - 1, by omega⟩
  refine run_in rfl rfl ?_
  conv => whnf
  refine run_ux (r_part_no k M ok w (by omega)) (Nat.le_refl _) (fun d M' h => h.elim) fun z M' h => ?_
  obtain ⟨rfl, rfl⟩ := h
  conv => whnf
  refine fun p hp => ?_
  conv => whnf
  rw [Mem.upd_same]
  conv => whnf
  rw [Mem.upd_same]
  conv => whnf
  rw [Mem.upd_same]
  conv => whnf
  exact .done ⟨rfl, Ext.one hp⟩
end Wp

/-! CtE: the law's own fits, of values whose lists stand in the memory. -/
namespace Wp
open PySem
theorem isi_loc {M : Mem} {a : Addr} {ds : List D} {t : Ty} (h : M a = some (.lst ds)) : isiB t (.loc a) M = some (decide (t = Ty.list_)) := by
  show (match M a with
    | some (.lst _) => some (decide (t = Ty.list_))
    | some (.dic _) => some (decide (t = Ty.dict_))
    | _ => none) = _
  rw [h]
theorem own_lst {M : Mem} {x : D} {vs : List D} {L : List Addr} (h : OwnV M x (.lst vs) L) : ∃ a xs L', x = .loc a ∧ M a = some (.lst xs) ∧ L = a :: L' ∧ OwnVs M xs vs L' := by
  unfold OwnV at h; exact h
theorem own_two {M : Mem} {x v1 v2 : D} {L : List Addr} (h : OwnV M x (.tup [v1, v2]) L) : ∃ x1 x2 L1 L2, x = .tup [x1, x2] ∧ L = L1 ++ L2 ∧ OwnV M x1 v1 L1 ∧ OwnV M x2 v2 L2 := by
  unfold OwnV at h
  obtain ⟨xs, rfl, h⟩ := h
  unfold OwnVs at h
  obtain ⟨x1, r, L1, L2, rfl, rfl, h1, h⟩ := h
  unfold OwnVs at h
  obtain ⟨x2, r, L2, L3, rfl, rfl, h2, h⟩ := h
  unfold OwnVs at h
  obtain ⟨rfl, rfl⟩ := h
  exact ⟨x1, x2, L1, L2, rfl, by rw [List.append_nil], h1, h2⟩
theorem own_of {M : Mem} {x v1 : D} {z : Str} {i : Int} {L : List Addr} (h : OwnV M x (.tup [.str z, .int i, v1]) L) : ∃ x1, x = .tup [.str z, .int i, x1] ∧ OwnV M x1 v1 L := by
  unfold OwnV at h
  obtain ⟨xs, rfl, h⟩ := h
  unfold OwnVs at h
  obtain ⟨x1, r, L1, L2, rfl, rfl, h1, h⟩ := h
  unfold OwnVs at h
  obtain ⟨x2, r, L2, L3, rfl, rfl, h2, h⟩ := h
  unfold OwnVs at h
  obtain ⟨x3, r, L3, L4, rfl, rfl, h3, h⟩ := h
  unfold OwnVs at h
  obtain ⟨rfl, rfl⟩ := h
  unfold OwnV at h1 h2
  obtain ⟨rfl, rfl⟩ := h1
  obtain ⟨rfl, rfl⟩ := h2
  exact ⟨x3, rfl, by rw [List.nil_append, List.nil_append, List.append_nil]; exact h3⟩
/-- what a value that fits may be -/
inductive OwnK (M : Mem) : Sh → D → D → List Addr → Prop
  | non {s : Sh} : OwnK M s .non .non []
  | int {s : Sh} (i : Int) : OwnK M s (.int i) (.int i) []
  | str {s : Sh} (z : Str) : OwnK M s (.str z) (.str z) []
  | lst {s1 : Sh} {m : Int} {a : Addr} {xs vs : List D} {L : List Addr} (hm : M a = some (.lst xs)) (ho : OwnVs M xs vs L) (hf : ∀ w ∈ vs, fitsB s1 w = true) : OwnK M (.list s1 m) (.loc a) (.lst vs) (a :: L)
  | two {s1 s2 : Sh} {x1 x2 v1 v2 : D} {L1 L2 : List Addr} (h1 : OwnV M x1 v1 L1) (h2 : OwnV M x2 v2 L2) (f1 : fitsB s1 v1 = true) (f2 : fitsB s2 v2 = true) : OwnK M (.pair s1 s2) (.tup [x1, x2]) (.tup [v1, v2]) (L1 ++ L2)
  | of {ss : List Sh} {s1 : Sh} {i : Int} {x1 v1 : D} {L : List Addr} (hs : ss[i.toNat]? = some s1) (i0 : 0 ≤ i) (h1 : OwnV M x1 v1 L) (f1 : fitsB s1 v1 = true) : OwnK M (.choice ss) (.tup [.str "of", .int i, x1]) (.tup [.str "of", .int i, v1]) L
theorem own_k {M : Mem} {s : Sh} {x v : D} {L : List Addr} (f : fitsB s v = true) (o : OwnV M x v L) : OwnK M s x v L := by
  cases s with
  | nothing =>
    cases v <;> first | (cases f; done) | skip
    unfold OwnV at o
    obtain ⟨rfl, rfl⟩ := o
    exact .non
  | number lo hi =>
    cases v <;> first | (cases f; done) | skip
    unfold OwnV at o
    obtain ⟨rfl, rfl⟩ := o
    exact .int _
  | text m =>
    cases v <;> first | (cases f; done) | skip
    unfold OwnV at o
    obtain ⟨rfl, rfl⟩ := o
    exact .str _
  | list s1 m =>
    cases v with
    | lst vs =>
      obtain ⟨a, xs, L', rfl, hm, rfl, ho⟩ := own_lst o
      have f : (decide ((vs.length : Int) ≤ m) && vs.all (fitsB s1)) = true := f
      rw [Bool.and_eq_true] at f
      exact .lst hm ho (List.all_eq_true.mp f.2)
    | scr ns => unfold OwnV at o; exact o.elim
    | _ => cases f
  | pair a b =>
    cases v with
    | tup ds =>
      match ds, f, o with
      | [v1, v2], f, o =>
        have f : (fitsB a v1 && fitsB b v2) = true := f
        rw [Bool.and_eq_true] at f
        obtain ⟨x1, x2, L1, L2, rfl, rfl, h1, h2⟩ := own_two o
        exact .two h1 h2 f.1 f.2
      | [], f, o => cases f
      | [x], f, o => cases f
      | x :: y :: z :: w, f, o => cases f
    | _ => cases f
  | choice ss =>
    obtain ⟨i, w, s1, rfl, i0, e, hx⟩ := fits_choice_in f
    obtain ⟨x1, rfl, h1⟩ := own_of o
    exact .of e i0 h1 hx
theorem le_one (c d : Nat) : (!decide ([d] < [c])) = decide (c ≤ d) := by
  have : decide ([d] < [c]) = decide (d < c) := by
    congr 1
    exact propext ⟨fun h => by
      rcases List.cons_lt_cons_iff.mp h with h | h
      · exact h
      · exact absurd h.2 (by simp), fun h => List.cons_lt_cons_iff.mpr (.inl h)⟩
  rw [this]
  by_cases h : c ≤ d
  · rw [decide_eq_true h, decide_eq_false (by omega)]; rfl
  · rw [decide_eq_false h, decide_eq_true (by omega)]; rfl
set_option maxHeartbeats 0 in
theorem r_lsigns {z : Str} {M : Mem} (hz : z.length ≤ 1000) (k : Nat) (hk : 1 ≤ k) : run tab k f_law_signs [.str z] M (fun y M' => y = .bl (z.cps.toList.all okSign) ∧ M' = M) fun _ _ => False := by
  obtain ⟨k, rfl⟩ : ∃ j, k = j + 1 := ⟨k - 1, by omega⟩
  have h2000 : 2000 ≤ sizeLine := by decide
  refine run_in rfl rfl ?_
  conv => whnf
  refine comp_is (still := fun _ => True) signF trivial _ _ (fun d hd P h => ?_) ?_ ?_
  · obtain ⟨c, _, rfl⟩ := List.mem_map.mp hd
    have h : P (if okSign c then none else some (.str ⟨#[c]⟩)) M := h
    unfold okSign at h
    conv => whnf
    rw [show (!decide ((Str.mk #[c]).cps.toList < (Str.ofString " ").cps.toList)) = decide (32 ≤ c) from le_one 32 c]
    cases h1 : decide (32 ≤ c)
    · rw [h1] at h
      conv => whnf
      exact h
    · rw [h1] at h
      conv => whnf
      rw [show (!decide ((Str.ofString "~").cps.toList < (Str.mk #[c]).cps.toList)) = decide (c ≤ 126) from le_one c 126]
      cases h2 : decide (c ≤ 126)
      · rw [h2] at h
        conv => whnf
        exact h
      · rw [h2] at h
        conv => whnf
        refine ⟨rfl, ?_⟩
        conv => whnf
        split
        · rename_i h3
          have h3 : (c : Int) = 37 := of_decide_eq_true h3
          rw [decide_eq_false (show ¬ c ≠ 37 by omega)] at h
          conv => whnf
          exact h
        · rename_i h3
          have h3 : ¬ (c : Int) = 37 := of_decide_eq_false h3
          rw [decide_eq_true (show c ≠ 37 by omega)] at h
          conv => whnf
          exact h
  · show 0 + (signs z).length ≤ sizeLine
    rw [signs_len]; omega
  · show newL true ((signs z).filterMap signF) M _
    refine newL_fz (Nat.le_trans (List.length_filterMap_le _ _) (by rw [signs_len]; omega)) ?_
    conv => whnf
    refine ⟨by decide, ?_⟩
    refine eq_nil ?_
    conv => whnf
    refine .done ⟨?_, rfl⟩
    rw [signF_all]
abbrev LfAt (r : Sh) : Prop := ∀ (s0 : Sh) (v x : D) (L : List Addr) (k : Nat) (M : Mem), fitsB s0 v = true → smV v = true → s0.dep ≤ 20 → OwnV M x v L → r.dep + 2 ≤ k → run tab k f_law_fits [r.d, x] M (fun y M' => y = .bl (fitsB r v) ∧ M' = M) fun _ _ => False
theorem own_sm {vs : List D} (h : smV (.lst vs) = true) : vs.length ≤ 1000 ∧ ∀ d ∈ vs, smV d = true := smV_lstH h
set_option maxHeartbeats 0 in
theorem lf_nothing : LfAt .nothing := by
  intro s0 v x L k M hf hs h20 ho hk
  obtain ⟨k, rfl⟩ : ∃ j, k = j + 1 := ⟨k - 1, by omega⟩
  have K := own_k hf ho
  refine run_in rfl rfl ?_
  cases K
  all_goals
    conv => whnf
    exact .done ⟨rfl, rfl⟩
set_option maxHeartbeats 0 in
theorem lf_number (lo hi : Int) : LfAt (.number lo hi) := by
  intro s0 v x L k M hf hs h20 ho hk
  obtain ⟨k, rfl⟩ : ∃ j, k = j + 1 := ⟨k - 1, by omega⟩
  have K := own_k hf ho
  refine run_in rfl rfl ?_
  cases K
  case int i =>
    have e : fitsB (.number lo hi) (.int i) = (decide (lo ≤ i) && decide (i ≤ hi)) := rfl
    rw [e]
    conv => whnf
    cases h1 : decide (lo ≤ i)
    · conv => whnf
      exact .done ⟨rfl, rfl⟩
    · conv => whnf
      exact .done ⟨rfl, rfl⟩
  case lst hm ho hf2 =>
    conv => whnf
    rw [isi_loc hm]
    conv => whnf
    exact .done ⟨rfl, rfl⟩
  all_goals
    conv => whnf
    exact .done ⟨rfl, rfl⟩
set_option maxHeartbeats 0 in
theorem lf_text (m : Int) : LfAt (.text m) := by
  intro s0 v x L k M hf hs h20 ho hk
  obtain ⟨k, rfl⟩ : ∃ j, k = j + 1 := ⟨k - 1, by omega⟩
  have h2000 : 2000 ≤ sizeLine := by decide
  have K := own_k hf ho
  refine run_in rfl rfl ?_
  cases K
  case str z =>
    have hz : (decide (z.length ≤ 1000) && PyData.strOk z) = true := hs
    rw [Bool.and_eq_true] at hz
    have hzl := of_decide_eq_true hz.1
    have e : fitsB (.text m) (.str z) = (decide ((z.length : Int) ≤ m) && z.cps.toList.all okSign) := by unfold fitsB textB; rfl
    rw [e]
    conv => whnf
    refine ⟨by omega, ?_⟩
    conv => whnf
    cases h1 : decide ((z.length : Int) ≤ m)
    · conv => whnf
      exact .done ⟨rfl, rfl⟩
    · conv => whnf
      refine run_is (r_lsigns hzl k (by omega)) (Nat.le_refl _) ?_
      conv => whnf
      exact .done ⟨rfl, rfl⟩
  case lst hm ho hf2 =>
    conv => whnf
    rw [isi_loc hm]
    conv => whnf
    exact .done ⟨rfl, rfl⟩
  all_goals
    conv => whnf
    exact .done ⟨by unfold fitsB textB; rfl, rfl⟩
/-- those that do not fit, left over -/
theorem lks_of_own {M : Mem} {xs vs : List D} {L : List Addr} (h : OwnVs M xs vs L) : Lks M xs vs := own_lks h
theorem own_split {M : Mem} : ∀ {done : List D} {xs ws : List D} {x : D} {rem : List D} {L : List Addr}, xs = done ++ x :: rem → OwnVs M xs ws L → ∃ d w r L1 L2 L3, ws = d ++ w :: r ∧ L = L1 ++ (L2 ++ L3) ∧ d.length = done.length ∧ OwnVs M done d L1 ∧ OwnV M x w L2 ∧ OwnVs M rem r L3
  | [], xs, ws, x, rem, L, e, h => by
    subst e
    cases ws with
    | nil => unfold OwnVs at h; cases h.1
    | cons w ws =>
      unfold OwnVs at h
      obtain ⟨y, r, L1, L2, e1, rfl, h1, h2⟩ := h
      injection e1 with e1 e2
      subst e1 e2
      exact ⟨[], w, ws, [], L1, L2, rfl, rfl, rfl, own_nil, h1, h2⟩
  | y :: done, xs, ws, x, rem, L, e, h => by
    subst e
    cases ws with
    | nil => unfold OwnVs at h; cases h.1
    | cons w ws =>
      unfold OwnVs at h
      obtain ⟨y', r', L1, L2, e1, rfl, h1, h2⟩ := h
      injection e1 with e1 e2
      subst e1 e2
      obtain ⟨d, w2, r, L3, L4, L5, rfl, rfl, hl, g1, g2, g3⟩ := own_split rfl h2
      exact ⟨w :: d, w2, r, L1 ++ L3, L4, L5, rfl, by rw [List.append_assoc], by rw [List.length_cons, List.length_cons, hl], own_cons h1 g1, g2, g3⟩
set_option maxHeartbeats 0 in
theorem lf_list {s : Sh} (m : Int) (ih : LfAt s) : LfAt (.list s m) := by
  intro s0 v x L k M hf hs h20 ho hk
  obtain ⟨k, rfl⟩ : ∃ j, k = j + 1 := ⟨k - 1, by omega⟩
  have h2000 : 2000 ≤ sizeLine := by decide
  have hk : s.dep + 1 + 2 ≤ k + 1 := hk
  have pl0 := fit_pl s0 v hs hf
  have K := own_k hf ho
  refine run_in rfl rfl ?_
  cases K
  case lst s1 m1 a xs vs L hm ho2 hf2 =>
    obtain ⟨hvl, hvs⟩ := smV_lstH hs
    have hxl := own_len ho2
    have hd : s1.dep + 1 ≤ 20 := h20
    have e : fitsB (.list s m) (.lst vs) = (decide ((vs.length : Int) ≤ m) && vs.all (fitsB s)) := fits_ls_inv
    rw [e, ← hxl]
    conv => whnf
    rw [isi_loc hm]
    conv => whnf
    rw [asS_loc hm]
    conv => whnf
    by_cases h1 : (xs.length : Int) ≤ m
    · rw [decide_eq_true h1, decide_eq_false (show ¬ m < (xs.length : Int) by omega)]
      conv => whnf
      rw [asL_loc hm]
      refine comp_inv (fun rem acc M' => ∃ (done dv : List D) (rv ws : List D), xs = done ++ rem ∧ vs = dv ++ rv ∧ dv.length = done.length ∧ Lks M acc ws ∧ (∀ w ∈ ws, w ∈ vs) ∧ ws.isEmpty = dv.all (fitsB s) ∧ acc.length ≤ done.length ∧ M' = M) ?_ ?_ _ _ _ ⟨[], [], vs, [], rfl, rfl, rfl, lks_nil, all_nil, rfl, Nat.le_refl _, rfl⟩
      · rintro y rem acc M' ⟨done, dv, rv, ws, e1, e2, hl, hlk, hws, he, hal, rfl⟩
        obtain ⟨d, w, r, L1, L2, L3, e3, rfl, hl2, g1, g2, g3⟩ := own_split e1 ho2
        have e4 : d = dv ∧ w :: r = rv := List.append_inj (e3.symm.trans e2) (by omega)
        obtain ⟨rfl, rfl⟩ := e4
        have hw : w ∈ vs := by rw [e3]; exact List.mem_append_right _ (List.mem_cons_self ..)
        have hxl2 : done.length + 1 ≤ 1000 := by
          have := congrArg List.length e1
          rw [List.length_append, List.length_cons] at this
          omega
        refine ⟨hm, ?_⟩
        conv => whnf
        refine run_is (ih s1 w y L2 k M' (hf2 w hw) (hvs w hw) (by omega) g2 (by omega)) (Nat.le_refl _) ?_
        have hall : (d ++ [w]).all (fitsB s) = (d.all (fitsB s) && fitsB s w) := by rw [List.all_append, List.all_cons, List.all_nil, Bool.and_true]
        have hdl : (d ++ [w]).length = (done ++ [y]).length := by rw [List.length_append, List.length_append]; show d.length + 1 = done.length + 1; omega
        cases q : fitsB s w with
        | true =>
          conv => whnf
          exact ⟨done ++ [y], d ++ [w], r, ws, by rw [e1, List.append_assoc]; rfl, by rw [e3, List.append_assoc]; rfl, hdl, hlk, hws, by rw [hall, q, Bool.and_true]; exact he, by rw [List.length_append]; omega, rfl⟩
        | false =>
          conv => whnf
          refine ⟨by omega, done ++ [y], d ++ [w], r, ws ++ [w], by rw [e1, List.append_assoc]; rfl, by rw [e3, List.append_assoc]; rfl, hdl, lks_app hlk (lks_cons (own_lk g2) lks_nil), all_app hws (all_cons hw all_nil), ?_, by rw [List.length_append, List.length_append]; show acc.length + 1 ≤ done.length + 1; omega, rfl⟩
          rw [hall, q, Bool.and_false]
          cases ws <;> rfl
      · rintro acc M' ⟨done, dv, rv, ws, e1, e2, hl, hlk, hws, he, hal, rfl⟩
        rw [List.append_nil] at e1
        subst e1
        have : rv = [] := by
          have h := congrArg List.length e2
          rw [List.length_append] at h
          exact List.length_eq_zero_iff.mp (by omega)
        subst this
        rw [List.append_nil] at e2
        subst e2
        refine ⟨hm, ?_⟩
        refine newL_fz (by omega) ?_
        conv => whnf
        refine ⟨by decide, ?_⟩
        have pv : ∀ w ∈ vs, plV w = true := plVs_of pl0.1
        have dv : dep (.lst vs) ≤ s1.dep + 1 := pl0.2
        refine cmpEq_lk (lk_lst hlk) (lk_lst lks_nil) (fun w hw => pv w (hws w hw)) all_nil ?_ (Nat.zero_le _) (fun q => ?_) (fun q => ?_)
        · exact deps_le fun w hw => by
            have h1 := deps_mem w (hws w hw)
            have h2 : deps vs + 1 ≤ s1.dep + 1 := dv
            omega
        · subst q
          rw [← he]
          conv => whnf
          exact .done ⟨rfl, rfl⟩
        · rw [← he]
          cases ws with
          | nil => exact absurd rfl q
          | cons w ws =>
            conv => whnf
            exact .done ⟨rfl, rfl⟩
    · rw [decide_eq_false h1, decide_eq_true (show m < (xs.length : Int) by omega)]
      conv => whnf
      exact .done ⟨rfl, rfl⟩
  all_goals
    conv => whnf
    exact .done ⟨rfl, rfl⟩
end Wp

/-! CtF: the law's own fits, of pairs and choices. -/
namespace Wp
open PySem
set_option maxHeartbeats 0 in
theorem lf_pair {a b : Sh} (iha : LfAt a) (ihb : LfAt b) : LfAt (.pair a b) := by
  intro s0 v x L k M hf hs h20 ho hk
  obtain ⟨k, rfl⟩ : ∃ j, k = j + 1 := ⟨k - 1, by omega⟩
  have h2000 : 2000 ≤ sizeLine := by decide
  have hk : max a.dep b.dep + 1 + 2 ≤ k + 1 := hk
  have K := own_k hf ho
  refine run_in rfl rfl ?_
  cases K
  case lst s1 m1 q xs vs L hm ho2 hf2 =>
    conv => whnf
    rw [isi_loc hm]
    conv => whnf
    exact .done ⟨rfl, rfl⟩
  case two s1 s2 x1 x2 v1 v2 L1 L2 g1 g2 f1 f2 =>
    have h20 : max s1.dep s2.dep + 1 ≤ 20 := h20
    obtain ⟨-, hvs⟩ := smV_tupH hs
    rw [fits_pr_inv]
    conv => whnf
    refine ⟨lok rfl, ?_⟩
    conv => whnf
    refine run_is (iha s1 v1 x1 L1 k M f1 (hvs _ (List.mem_cons_self ..)) (by omega) g1 (by omega)) (Nat.le_refl _) ?_
    cases fitsB a v1 with
    | false =>
      conv => whnf
      exact .done ⟨rfl, rfl⟩
    | true =>
      conv => whnf
      refine run_is (ihb s2 v2 x2 L2 k M f2 (hvs _ (List.mem_cons_of_mem _ (List.mem_cons_self ..))) (by omega) g2 (by omega)) (Nat.le_refl _) ?_
      conv => whnf
      exact .done ⟨rfl, rfl⟩
  case of =>
    conv => whnf
    refine ⟨lok rfl, ?_⟩
    conv => whnf
    exact .done ⟨rfl, rfl⟩
  all_goals
    conv => whnf
    exact .done ⟨rfl, rfl⟩
set_option maxHeartbeats 0 in
theorem lf_choice {ss : List Sh} (ih : ∀ s ∈ ss, LfAt s) : LfAt (.choice ss) := by
  intro s0 v x L k M hf hs h20 ho hk
  obtain ⟨k, rfl⟩ : ∃ j, k = j + 1 := ⟨k - 1, by omega⟩
  have h2000 : 2000 ≤ sizeLine := by decide
  have hk : Sh.deps ss + 1 + 2 ≤ k + 1 := hk
  have K := own_k hf ho
  refine run_in rfl rfl ?_
  cases K
  case lst s1 m1 q xs vs L hm ho2 hf2 =>
    conv => whnf
    rw [isi_loc hm]
    conv => whnf
    exact .done ⟨rfl, rfl⟩
  case two s1 s2 x1 x2 v1 v2 L1 L2 g1 g2 f1 f2 =>
    have : fitsB (.choice ss) (.tup [v1, v2]) = false := choice_no fun z i x e => absurd (congrArg List.length e) (show ¬ (2 : Nat) = 3 by decide)
    rw [this]
    conv => whnf
    refine ⟨lok rfl, ?_⟩
    conv => whnf
    exact .done ⟨rfl, rfl⟩
  case of s2 s1 i x1 v1 e i0 f1 g1 =>
    obtain ⟨-, hvs⟩ := smV_tupH hs
    have hd := Sh.deps_mem s1 (List.mem_of_getElem? e)
    have h20 : Sh.deps s2 + 1 ≤ 20 := h20
    have ev : fitsB (.choice ss) (.tup [.str "of", .int i, v1]) = fitsN ss i.toNat v1 := by
      unfold fitsB
      show (decide (("of" : Str) = "of") && (decide (0 ≤ i) && fitsN ss i.toNat v1)) = _
      rw [decide_eq_true i0, decide_eq_true rfl]; rfl
    rw [ev]
    conv => whnf
    refine ⟨lok rfl, ?_⟩
    conv => whnf
    rw [decide_eq_true i0]
    conv => whnf
    by_cases q : i < ((Sh.ds ss).length : Int)
    · rw [decide_eq_true q]
      have hdl := Sh.ds_len ss
      have hi : i.toNat < ss.length := by omega
      have es : ss[i.toNat]? = some ss[i.toNat] := List.getElem?_eq_getElem hi
      have hm := List.getElem_mem hi
      rw [fitsN_get, es]
      generalize ss[i.toNat] = s at es hm
      have hsd := Sh.deps_mem s hm
      have hat : atI (Sh.ds ss) i = some s.d := by
        unfold atI
        rw [ixN_in i0 (by omega)]
        show (Sh.ds ss)[i.toNat]? = _
        rw [Sh.ds_get, es]; rfl
      conv => whnf
      rw [hat]
      conv => whnf
      refine run_is (ih s hm s1 v1 x1 _ k M f1 (hvs _ (by simp)) (by omega) g1 (by omega)) (Nat.le_refl _) ?_
      conv => whnf
      exact .done ⟨rfl, rfl⟩
    · rw [decide_eq_false q]
      have hdl := Sh.ds_len ss
      have es : ss[i.toNat]? = none := List.getElem?_eq_none (by omega)
      rw [fitsN_get, es]
      conv => whnf
      exact .done ⟨rfl, rfl⟩
  all_goals
    conv => whnf
    exact .done ⟨rfl, rfl⟩
mutual
theorem r_lf : ∀ s : Sh, LfAt s
  | .nothing => lf_nothing
  | .number lo hi => lf_number lo hi
  | .text m => lf_text m
  | .list s m => lf_list m (r_lf s)
  | .pair a b => lf_pair (r_lf a) (r_lf b)
  | .choice ss => lf_choice (r_lfs ss)
theorem r_lfs : ∀ (ss : List Sh), ∀ s ∈ ss, LfAt s
  | [], s, h => by cases h
  | x :: ss, s, h => by
    rcases List.mem_cons.mp h with h | h
    · rw [h]; exact r_lf x
    · exact r_lfs ss s h
end
end Wp

/-! CtG: the law's own bytes, of values whose lists stand in the memory. -/
namespace Wp
open PySem
/-- a list of numbers -/
def LstL (M : Mem) (bs : List Int) (v : D) (M' : Mem) : Prop := v = .lst (intsD bs) ∧ Ext M M'
abbrev LbAt (s : Sh) : Prop := ∀ (t x : D) (L : List Addr) (k : Nat) (M : Mem), s.okb = true → smV t = true → fitsB s t = true → OwnV M x t L → (bytesB s t).length ≤ 10000000 → s.dep + 2 ≤ k → run tab k f_law_bytes [s.d, x] M (LstL M (bytesB s t)) fun _ _ => False
/-- at a return: a new list that is to be a tree -/
theorem frz_lst {p : Addr} {bs : List Int} {M M0 : Mem} {Q : QK} (h : M p = some (.lst (intsD bs))) (q : Q (.lst (intsD bs)) (M.del p)) : Frz (.loc p) M Q :=
  .step h (by rw [repD_loc]; exact .done q)
theorem lb_nothing : LbAt .nothing := by
  intro t x L k M ok hs hf ho hl hk
  have K := own_k hf ho
  obtain ⟨k, rfl⟩ : ∃ j, k = j + 1 := ⟨k - 1, by omega⟩
  refine run_in rfl rfl ?_
  cases t
  case non =>
    conv => whnf
    refine ⟨lok rfl, ?_⟩
    conv => whnf
    exact .done ⟨rfl, .refl⟩
  all_goals cases hf
set_option maxHeartbeats 0 in
theorem lb_number (lo hi : Int) : LbAt (.number lo hi) := by
  intro t x L k M ok hs hf ho hl hk
  have K := own_k hf ho
  obtain ⟨k, rfl⟩ : ∃ j, k = j + 1 := ⟨k - 1, by omega⟩
  have hk : 0 + 2 ≤ k + 1 := hk
  have h2000 : 2000 ≤ sizeLine := by decide
  have ok : (decide (-1000000000000000000 < lo) && (decide (lo ≤ hi) && decide (hi < 1000000000000000000))) = true := ok
  rw [Bool.and_eq_true, Bool.and_eq_true] at ok
  have b1 := of_decide_eq_true ok.1
  have b2 := of_decide_eq_true ok.2.1
  have b3 := of_decide_eq_true ok.2.2
  cases K
  case int i =>
    refine run_in rfl rfl ?_
    conv => whnf
    refine ⟨lok rfl, fun p hp => ?_⟩
    conv => whnf
    refine run_is (r_places k (by omega)) (Nat.le_refl _) ?_
    have hpl : pl (hi - lo).toNat ≤ 8 := pl_le 8 _ (by omega)
    conv => whnf
    refine ⟨⟨by omega, by omega⟩, ?_⟩
    refine each_inv (fun rem env M' => ∃ (j : Nat) (e5 : Option D), env = [some (Sh.number lo hi).d, some (.int i), some (.loc p), some (.int ((i - lo) / 256 ^ j)), e5, none, none] ∧ M' p = some (.lst (intsD (les j (i - lo)).reverse)) ∧ Ext M M' ∧ j + rem.length = pl (hi - lo).toNat) ?_ ?_ _ _ _ ⟨0, none, by rw [Int.pow_zero, Int.ediv_one]; rfl, Mem.upd_same, Ext.new .refl hp, by rw [rng_len]; omega⟩
    · rintro x rem env M' ⟨j, e5, rfl, hm, he, hl⟩
      rw [List.length_cons] at hl
      refine ⟨trivial, ?_⟩
      conv => whnf
      refine ⟨rcv_loc (by decide) hm, ?_⟩
      conv => whnf
      refine ⟨by decide, ?_⟩
      conv => whnf
      rw [hm]
      refine ⟨by rw [List.length_map, List.length_reverse, les_len]; omega, by decide, by decide, ?_⟩
      conv => whnf
      refine ⟨by decide, by decide, ?_⟩
      conv => whnf
      refine ⟨j + 1, some x, ?_, ?_, he.new hp, by omega⟩
      · have : (i - lo) / 256 ^ (j + 1) = (i - lo) / 256 ^ j / 256 := by
          rw [Int.pow_succ]
          first
            | rw [Int.ediv_ediv_of_nonneg (Int.le_of_lt (Int.pow_pos (by decide)))]
            | rw [Int.ediv_ediv_eq_ediv_mul _ (Int.le_of_lt (Int.pow_pos (by decide)))]
        rw [this]
        rfl
      · rw [Mem.upd_same, les_snoc, List.reverse_append]
        rfl
    · rintro env M' ⟨j, e5, rfl, hm, he, hl⟩
      rw [List.length_nil, Nat.add_zero] at hl
      refine ⟨trivial, ?_⟩
      conv => whnf
      refine frz_lst (M0 := M) hm ⟨?_, he.del hp⟩
      show _ = D.lst (intsD (les (pl (hi - lo).toNat) (i - lo)).reverse)
      rw [hl]
  all_goals cases hf
def ordF : D → Option D
  | .str x => some (D.int ((x.cps.getD 0 0 : Nat) : Int))
  | _ => none
theorem ord_map2 (z : Str) : (signs z).filterMap ordF = intsD (z.cps.toList.map fun (c : Nat) => (c : Int)) := by
  unfold signs intsD
  induction z.cps.toList with
  | nil => rfl
  | cons c cs ih =>
    rw [List.map_cons, List.filterMap_cons, List.map_cons, List.map_cons]
    exact congrArg (D.int (c : Int) :: ·) ih
set_option maxHeartbeats 0 in
theorem lb_text (m : Int) : LbAt (.text m) := by
  intro t x L k M ok hs hf ho hl hk
  have K := own_k hf ho
  obtain ⟨k, rfl⟩ : ∃ j, k = j + 1 := ⟨k - 1, by omega⟩
  have h2000 : 2000 ≤ sizeLine := by decide
  cases K
  case str z =>
    have hz : (decide (z.length ≤ 1000) && PyData.strOk z) = true := hs
    rw [Bool.and_eq_true] at hz
    have hzl := of_decide_eq_true hz.1
    refine run_in rfl rfl ?_
    conv => whnf
    refine ⟨by omega, ?_⟩
    refine ⟨lok rfl, ?_⟩
    conv => whnf
    refine comp_is ordF trivial _ _ (fun d hd P h => ?_) ?_ ?_
    · obtain ⟨ch, _, rfl⟩ := List.mem_map.mp hd
      conv => whnf
      refine ⟨rfl, ?_⟩
      exact h
    · show 0 + (signs z).length ≤ _
      rw [signs_len]; omega
    · show newL true ((signs z).filterMap ordF) M _
      rw [ord_map2 z]
      have hlen : (intsD (z.cps.toList.map fun (c : Nat) => (c : Int))).length = z.length := by
        rw [List.length_map, List.length_map]; exact Array.length_toList ..
      refine newL_fz (by show (intsD _).length ≤ _; rw [hlen]; omega) ?_
      conv => whnf
      refine ⟨?_, ?_⟩
      · rw [List.length_append]
        show 1 + (intsD _).length ≤ _
        rw [hlen]; omega
      conv => whnf
      exact .done ⟨rfl, .refl⟩
  all_goals cases hf
set_option maxHeartbeats 0 in
theorem lb_list {s : Sh} (m : Int) (ih : LbAt s) : LbAt (.list s m) := by
  intro t x L k M ok hs hf ho hl hk
  have K := own_k hf ho
  obtain ⟨k, rfl⟩ : ∃ j, k = j + 1 := ⟨k - 1, by omega⟩
  have hk : s.dep + 1 + 2 ≤ k + 1 := hk
  have h2000 : 10001000 ≤ sizeLine := by decide
  unfold Sh.okb at ok
  rw [Bool.and_eq_true] at ok
  cases t
  case lst ds =>
    obtain ⟨a, xs, L', rfl, hma, rfl, ho2⟩ := own_lst ho
    have hxl := own_len ho2
    obtain ⟨hdl, hds⟩ := smV_lstH hs
    have hf : (decide ((ds.length : Int) ≤ m) && ds.all (fitsB s)) = true := hf
    rw [Bool.and_eq_true] at hf
    have hfi := List.all_eq_true.mp hf.2
    have hl : ((ds.length : Int) :: (ds.map (bytesB s)).flatten).length ≤ 10000000 := hl
    rw [List.length_cons] at hl
    refine run_in rfl rfl ?_
    conv => whnf
    rw [asS_loc hma]
    conv => whnf
    refine ⟨lok rfl, fun p hp => ?_⟩
    conv => whnf
    rw [asL_loc (Ext.one hp a _ hma)]
    refine each_inv (fun rem env M' => ∃ (done gone left : List D) (q : Addr) (e3 : Option D), xs = done ++ rem ∧ ds = gone ++ left ∧ gone.length = done.length ∧ env = [some (Sh.list s m).d, some (.loc a), some (.loc q), none, none, e3, none] ∧ M q = none ∧ M' q = some (.lst (intsD ((ds.length : Int) :: (gone.map (bytesB s)).flatten))) ∧ Ext M M') ?_ ?_ _ _ _ ⟨[], [], ds, p, none, rfl, rfl, rfl, rfl, hp, by rw [← hxl]; exact Mem.upd_same, Ext.new .refl hp⟩
    · rintro y rem env M' ⟨done, gone, left, q, e3, e1, e2, hgl, rfl, hq, hm, he⟩
      obtain ⟨d, w, r, L1, L2, L3, e3', rfl, hl2, g1, g2, g3⟩ := own_split e1 ho2
      have e4 : d = gone ∧ w :: r = left := List.append_inj (e3'.symm.trans e2) (by omega)
      obtain ⟨rfl, rfl⟩ := e4
      have hx : w ∈ ds := by rw [e3']; exact List.mem_append_right _ (List.mem_cons_self ..)
      have hsum : ((d.map (bytesB s)).flatten).length + (bytesB s w).length ≤ ((ds.map (bytesB s)).flatten).length := by
        rw [e3', List.map_append, List.flatten_append, List.length_append, List.map_cons, List.flatten_cons, List.length_append]
        omega
      refine ⟨he a _ hma, ?_⟩
      conv => whnf
      refine run_use (ih w y L2 k M' ok.2 (hds w hx) (hfi w hx) (own_ext (fun b _ ob h => he b ob h) g2) (by omega) (by omega)) (Nat.le_refl _) fun v M1 h => ?_
      obtain ⟨rfl, he1⟩ := h
      have hm1 := he1 q _ hm
      conv => whnf
      rw [asLT_loc hm1]
      refine ⟨?_, fun r2 hr => ?_⟩
      · rw [List.length_append, List.length_map, List.length_map, List.length_cons]; omega
      conv => whnf
      refine ⟨done ++ [y], d ++ [w], r, r2, some y, by rw [e1, List.append_assoc]; rfl, by rw [e3', List.append_assoc]; rfl, by rw [List.length_append, List.length_append, hl2]; rfl, rfl, (he.trans he1).off hr, ?_, (he.trans he1).new ((he.trans he1).off hr)⟩
      rw [Mem.upd_same]
      unfold intsD
      rw [← List.map_append, List.map_append (f := bytesB s), List.flatten_append]
      show some (Ob.lst (List.map D.int ((ds.length : Int) :: ((d.map (bytesB s)).flatten ++ bytesB s w)))) = some (Ob.lst (List.map D.int ((ds.length : Int) :: ((d.map (bytesB s)).flatten ++ (bytesB s w ++ [])))))
      rw [List.append_nil]
    · rintro env M' ⟨done, gone, left, q, e3, e1, e2, hgl, rfl, hq, hm, he⟩
      rw [List.append_nil] at e1
      subst e1
      have : left = [] := by
        have h := congrArg List.length e2
        rw [List.length_append] at h
        exact List.length_eq_zero_iff.mp (by omega)
      subst this
      rw [List.append_nil] at e2
      subst e2
      refine ⟨he a _ hma, ?_⟩
      conv => whnf
      exact frz_lst (M0 := M) hm ⟨rfl, he.del hq⟩
  case scr ns => cases hs
  all_goals cases hf
set_option maxHeartbeats 0 in
theorem lb_pair {a b : Sh} (iha : LbAt a) (ihb : LbAt b) : LbAt (.pair a b) := by
  intro t x L k M ok hs hf ho hl hk
  have K := own_k hf ho
  obtain ⟨k, rfl⟩ : ∃ j, k = j + 1 := ⟨k - 1, by omega⟩
  have hk : max a.dep b.dep + 1 + 2 ≤ k + 1 := hk
  have h2000 : 10000000 ≤ sizeLine := by decide
  unfold Sh.okb at ok
  rw [Bool.and_eq_true] at ok
  cases t
  case tup ds =>
    obtain ⟨hdl, hds⟩ := smV_tupH hs
    match ds, hds, hf, ho, hl with
    | [x, y], hds, hf, ho, hl =>
      obtain ⟨x1, x2, L1, L2, rfl, rfl, g1, g2⟩ := own_two ho
      have hf : (fitsB a x && fitsB b y) = true := hf
      rw [Bool.and_eq_true] at hf
      have hl : (bytesB a x ++ bytesB b y).length ≤ 10000000 := hl
      rw [List.length_append] at hl
      refine run_in rfl rfl ?_
      conv => whnf
      refine run_use (iha x x1 L1 k M ok.1 (hds x (by simp)) hf.1 g1 (by omega) (by omega)) (Nat.le_refl _) fun v M1 h => ?_
      obtain ⟨rfl, he1⟩ := h
      conv => whnf
      refine run_use (ihb y x2 L2 k M1 ok.2 (hds y (by simp)) hf.2 (own_ext (fun b _ ob h => he1 b ob h) g2) (by omega) (by omega)) (Nat.le_refl _) fun w M2 h => ?_
      obtain ⟨rfl, he2⟩ := h
      conv => whnf
      refine ⟨by rw [List.length_append, List.length_map, List.length_map]; omega, ?_⟩
      conv => whnf
      refine .done ⟨?_, he1.trans he2⟩
      unfold intsD
      rw [← List.map_append]
      rfl
    | [], hds, hf, ho, hl => cases hf
    | [x], hds, hf, ho, hl => cases hf
    | x :: y :: z :: w, hds, hf, ho, hl => cases hf
  all_goals cases hf
set_option maxHeartbeats 0 in
theorem lb_choice {ss : List Sh} (ih : ∀ s ∈ ss, LbAt s) : LbAt (.choice ss) := by
  intro t x L k M ok hs hf ho hl hk
  have K := own_k hf ho
  obtain ⟨k, rfl⟩ : ∃ j, k = j + 1 := ⟨k - 1, by omega⟩
  have hk : Sh.deps ss + 1 + 2 ≤ k + 1 := hk
  have h2000 : 10000000 ≤ sizeLine := by decide
  unfold Sh.okb at ok
  rw [Bool.and_eq_true] at ok
  obtain ⟨i, w, s, rfl, i0, e, hx⟩ := fits_choice_in hf
  obtain ⟨x1, rfl, g1⟩ := own_of ho
  obtain ⟨hdl, hds⟩ := smV_tupH hs
  have hsm := List.mem_of_getElem? e
  have hlv := Sh.deps_mem s hsm
  have hl : (i :: bytesN ss i.toNat w).length ≤ 10000000 := hl
  rw [bytesN_get ss _ w s e, List.length_cons] at hl
  have hat : atI (Sh.ds ss) i = some s.d := by
    have hi : i.toNat < ss.length := by
      rcases Nat.lt_or_ge i.toNat ss.length with h | h
      · exact h
      · rw [List.getElem?_eq_none h] at e; cases e
    unfold atI
    rw [ixN_in i0 (by rw [Sh.ds_len]; omega)]
    show (Sh.ds ss)[i.toNat]? = _
    rw [Sh.ds_get, e]; rfl
  refine run_in rfl rfl ?_
  conv => whnf
  refine ⟨lok rfl, ?_⟩
  conv => whnf
  rw [hat]
  conv => whnf
  refine run_use (ih s hsm w x1 _ k M (Sh.okbs_mem ok.2 s hsm) (hds w (by simp)) hx g1 (by omega) (by omega)) (Nat.le_refl _) fun v M1 h => ?_
  obtain ⟨rfl, he1⟩ := h
  conv => whnf
  refine ⟨by rw [List.length_append, List.length_map, List.length_cons, List.length_nil]; omega, ?_⟩
  conv => whnf
  refine .done ⟨?_, he1⟩
  show _ = D.lst (intsD (i :: bytesN ss i.toNat w))
  rw [bytesN_get ss _ w s e]
  rfl
mutual
theorem r_lb : ∀ s : Sh, LbAt s
  | .nothing => lb_nothing
  | .number lo hi => lb_number lo hi
  | .text m => lb_text m
  | .list s m => lb_list m (r_lb s)
  | .pair a b => lb_pair (r_lb a) (r_lb b)
  | .choice ss => lb_choice (r_lbs ss)
theorem r_lbs : ∀ (ss : List Sh), ∀ s ∈ ss, LbAt s
  | [], s, h => by cases h
  | x :: ss, s, h => by
    rcases List.mem_cons.mp h with h | h
    · rw [h]; exact r_lb x
    · exact r_lbs ss s h
end
end Wp

/-! CtH: a value kept, spoilt, its lists. -/
namespace Wp
open PySem
theorem owns_cons {M : Mem} {xs : List D} {v : D} {vs : List D} {L : List Addr} (h : OwnVs M xs (v :: vs) L) : ∃ x r L1 L2, xs = x :: r ∧ L = L1 ++ L2 ∧ OwnV M x v L1 ∧ OwnVs M r vs L2 := by
  unfold OwnVs at h; exact h
theorem owns_uncons {M : Mem} {x : D} {xs vs : List D} {L : List Addr} (h : OwnVs M (x :: xs) vs L) : ∃ v ws L1 L2, vs = v :: ws ∧ L = L1 ++ L2 ∧ OwnV M x v L1 ∧ OwnVs M xs ws L2 := by
  cases vs with
  | nil => unfold OwnVs at h; cases h.1
  | cons v vs =>
    obtain ⟨y, r, L1, L2, e, rfl, h1, h2⟩ := owns_cons h
    injection e with e1 e2
    subst e1 e2
    exact ⟨v, vs, L1, L2, rfl, rfl, h1, h2⟩
theorem owns_end {M : Mem} {vs : List D} {L : List Addr} (h : OwnVs M [] vs L) : vs = [] ∧ L = [] := by
  cases vs with
  | nil => unfold OwnVs at h; exact ⟨rfl, h.2⟩
  | cons v vs =>
    obtain ⟨y, r, L1, L2, e, rfl, h1, h2⟩ := owns_cons h
    cases e
theorem own_tup {M : Mem} {x : D} {vs : List D} {L : List Addr} (h : OwnV M x (.tup vs) L) : ∃ xs, x = .tup xs ∧ OwnVs M xs vs L := by
  unfold OwnV at h; exact h
/-! ### kept -/
abbrev KpAt (v : D) : Prop := ∀ (x : D) (L : List Addr) (k : Nat) (M : Mem), OwnV M x v L → smV v = true → dep v + 1 ≤ k → run tab k f_law_kept [x] M (fun y M' => y = v ∧ M' = M) fun _ _ => False
theorem comp_kept {k : Nat} {xs vs : List D} {L : List Addr} {M : Mem} {still : Mem → Prop} {e0 e1 : Option D} {Q : AK} (hst : still M) (ho : OwnVs M xs vs L) (hv : ∀ v ∈ vs, KpAt v ∧ smV v = true ∧ dep v + 1 ≤ k) (hl : vs.length ≤ 1000) (hQ : Q vs M) :
    compW (stepC (run tab k) (.nm 1) .nopart (.call f_law_kept (.cons (.var 1) .nil))) still [e0, e1] xs [] M Q := by
  have h2000 : 2000 ≤ sizeLine := by decide
  refine comp_inv (fun rem acc M' => ∃ rv L2, vs = acc ++ rv ∧ OwnVs M rem rv L2 ∧ M' = M) ?_ ?_ _ _ _ ⟨vs, L, rfl, ho, rfl⟩
  · rintro x rem acc M' ⟨rv, L2, hvs, ho2, rfl⟩
    obtain ⟨v, ws, L3, L4, rfl, rfl, g1, g2⟩ := owns_uncons ho2
    have hm : v ∈ vs := by rw [hvs]; exact List.mem_append_right _ (List.mem_cons_self ..)
    obtain ⟨a1, a2, a3⟩ := hv v hm
    refine ⟨hst, ?_⟩
    conv => whnf
    refine run_is (a1 x L3 k M' g1 a2 a3) (Nat.le_refl _) ?_
    refine ⟨?_, ws, L4, by rw [hvs, List.append_assoc]; rfl, g2, rfl⟩
    rw [hvs, List.length_append] at hl
    omega
  · rintro acc M' ⟨rv, L2, hvs, ho2, rfl⟩
    obtain ⟨rfl, rfl⟩ := owns_end ho2
    rw [List.append_nil] at hvs
    rw [← hvs]
    exact ⟨hst, hQ⟩
set_option maxHeartbeats 0 in
theorem kp_lst {vs : List D} (ih : ∀ v ∈ vs, KpAt v) : KpAt (.lst vs) := by
  intro x L k M ho hs hk
  obtain ⟨k, rfl⟩ : ∃ j, k = j + 1 := ⟨k - 1, by omega⟩
  have h2000 : 2000 ≤ sizeLine := by decide
  have hk : deps vs + 1 + 1 ≤ k + 1 := hk
  obtain ⟨hl, hvs⟩ := smV_lstH hs
  obtain ⟨a, xs, L', rfl, hm, rfl, ho2⟩ := own_lst ho
  refine run_in rfl rfl ?_
  conv => whnf
  rw [isi_loc hm]
  conv => whnf
  rw [asL_loc hm]
  refine comp_kept hm ho2 (fun v h => ⟨ih v h, hvs v h, by have := deps_mem v h; omega⟩) hl ?_
  refine newL_fz (by omega) ?_
  conv => whnf
  exact .done ⟨rfl, rfl⟩
set_option maxHeartbeats 0 in
theorem kp_tup {vs : List D} (ih : ∀ v ∈ vs, KpAt v) : KpAt (.tup vs) := by
  intro x L k M ho hs hk
  obtain ⟨k, rfl⟩ : ∃ j, k = j + 1 := ⟨k - 1, by omega⟩
  have h2000 : 2000 ≤ sizeLine := by decide
  have hk : deps vs + 1 + 1 ≤ k + 1 := hk
  obtain ⟨hl, hvs⟩ := smV_tupH hs
  obtain ⟨xs, rfl, ho2⟩ := own_tup ho
  refine run_in rfl rfl ?_
  conv => whnf
  refine comp_kept (still := fun _ => True) trivial ho2 (fun v h => ⟨ih v h, hvs v h, by have := deps_mem v h; omega⟩) hl ?_
  refine newL_fz (by omega) ?_
  conv => whnf
  exact .done ⟨rfl, rfl⟩
set_option maxHeartbeats 0 in
theorem kp_fl {v : D} (h : flV v = true) : KpAt v := by
  intro x L k M ho hs hk
  obtain ⟨k, rfl⟩ : ∃ j, k = j + 1 := ⟨k - 1, by omega⟩
  refine run_in rfl rfl ?_
  cases v <;> first | (cases h; done) | skip
  all_goals
    unfold OwnV at ho
    obtain ⟨rfl, rfl⟩ := ho
    conv => whnf
    exact .done ⟨rfl, rfl⟩
theorem kp_no {v : D} (h : ∀ M x L, OwnV M x v L → False) : KpAt v := fun x L k M ho _ _ => (h _ _ _ ho).elim
mutual
theorem r_kept : ∀ v : D, KpAt v
  | .non => kp_fl rfl
  | .int _ => kp_fl rfl
  | .str _ => kp_fl rfl
  | .lst vs => kp_lst (r_kepts vs)
  | .tup vs => kp_tup (r_kepts vs)
  | .bl _ => kp_no fun M x L h => by unfold OwnV at h; exact h
  | .scr _ => kp_no fun M x L h => by unfold OwnV at h; exact h
  | .emp => kp_no fun M x L h => by unfold OwnV at h; exact h
  | .loc _ => kp_no fun M x L h => by unfold OwnV at h; exact h
theorem r_kepts : ∀ (vs : List D), ∀ v ∈ vs, KpAt v
  | [], v, h => by cases h
  | x :: vs, v, h => by
    rcases List.mem_cons.mp h with h | h
    · rw [h]; exact r_kept x
    · exact r_kepts vs v h
end
/-! ### spoilt -/
def Kept (L : List Addr) (M M' : Mem) : Prop := ∀ b, b ∉ L → M' b = M b
abbrev SpAt (v : D) : Prop := ∀ (x : D) (L : List Addr) (k : Nat) (M : Mem), OwnV M x v L → L.Nodup → smV v = true → dep v + 1 ≤ k → run tab k f_law_spoil [x] M (fun y M' => y = .non ∧ Kept L M M') fun _ _ => False
theorem each_spoil {k : Nat} {xs vs : List D} {L : List Addr} {M : Mem} {still : Mem → Prop} {N : Ends} {x0 : D} {e1 : Option D} (hst : ∀ M', Kept L M M' → still M') (ho : OwnVs M xs vs L) (hnd : L.Nodup) (hv : ∀ v ∈ vs, SpAt v ∧ smV v = true ∧ dep v + 1 ≤ k) (hQ : ∀ M' e, Kept L M M' → N.nx [some x0, e] M') :
    eachW (wpS (run tab k) (.seq (.drop (.call f_law_spoil (.cons (.var 1) .nil))) .nil)) (.nm 1) still N xs [some x0, e1] M := by
  refine each_inv (fun rem env M' => ∃ rv Ld Lr e, env = [some x0, e] ∧ L = Ld ++ Lr ∧ OwnVs M rem rv Lr ∧ (∀ w ∈ rv, w ∈ vs) ∧ Kept Ld M M') ?_ ?_ _ _ _ ⟨vs, [], L, e1, rfl, rfl, ho, fun _ h => h, fun _ _ => rfl⟩
  · rintro x rem env M' ⟨rv, Ld, Lr, e, rfl, hL, ho2, hrv, hK⟩
    obtain ⟨v, ws, L3, L4, rfl, rfl, g1, g2⟩ := owns_uncons ho2
    obtain ⟨a1, a2, a3⟩ := hv v (hrv v (List.mem_cons_self ..))
    rw [hL] at hnd
    have n1 := List.nodup_append.mp hnd
    have n2 := List.nodup_append.mp n1.2.1
    refine ⟨hst M' fun b hb => hK b fun h => hb (by rw [hL]; exact List.mem_append_left _ h), ?_⟩
    conv => whnf
    refine run_use (a1 x L3 k M' (own_ext (fun b hb ob ho => ?_) g1) n2.1 a2 a3) (Nat.le_refl _) fun y M2 h => ?_
    · rw [hK b fun h => n1.2.2 b h b (List.mem_append_left _ hb) rfl]; exact ho
    · obtain ⟨rfl, hK2⟩ := h
      conv => whnf
      refine ⟨ws, Ld ++ L3, L4, _, rfl, by rw [hL, List.append_assoc], g2, fun w hw => hrv w (List.mem_cons_of_mem _ hw), fun b hb => ?_⟩
      rw [hK2 b fun h => hb (List.mem_append_right _ h), hK b fun h => hb (List.mem_append_left _ h)]
  · rintro env M' ⟨rv, Ld, Lr, e, rfl, hL, ho2, hrv, hK⟩
    obtain ⟨rfl, rfl⟩ := owns_end ho2
    rw [List.append_nil] at hL
    subst hL
    exact ⟨hst M' hK, hQ M' e hK⟩
set_option maxHeartbeats 0 in
theorem sp_lst {vs : List D} (ih : ∀ v ∈ vs, SpAt v) : SpAt (.lst vs) := by
  intro x L k M ho hnd hs hk
  obtain ⟨k, rfl⟩ : ∃ j, k = j + 1 := ⟨k - 1, by omega⟩
  have h2000 : 2000 ≤ sizeLine := by decide
  have hk : deps vs + 1 + 1 ≤ k + 1 := hk
  obtain ⟨hl, hvs⟩ := smV_lstH hs
  obtain ⟨a, xs, L', rfl, hm, rfl, ho2⟩ := own_lst ho
  have hxl := own_len ho2
  obtain ⟨na, nd⟩ := List.nodup_cons.mp hnd
  refine run_in rfl rfl ?_
  conv => whnf
  rw [isi_loc hm]
  conv => whnf
  rw [asL_loc hm]
  refine each_spoil (fun M' hK => (hK a na).trans hm) ho2 nd (fun v h => ⟨ih v h, hvs v h, by have := deps_mem v h; omega⟩) fun M' e hK => ?_
  have hm2 : M' a = some (.lst xs) := (hK a na).trans hm
  conv => whnf
  rw [isi_loc hm2]
  conv => whnf
  refine ⟨rcv_loc (by decide) hm2, ?_⟩
  conv => whnf
  rw [hm2]
  refine ⟨by omega, ?_⟩
  conv => whnf
  refine .done ⟨rfl, fun b hb => ?_⟩
  rw [Mem.upd_ne fun h => hb (by rw [h]; exact List.mem_cons_self ..)]
  exact hK b fun h => hb (List.mem_cons_of_mem _ h)
set_option maxHeartbeats 0 in
theorem sp_tup {vs : List D} (ih : ∀ v ∈ vs, SpAt v) : SpAt (.tup vs) := by
  intro x L k M ho hnd hs hk
  obtain ⟨k, rfl⟩ : ∃ j, k = j + 1 := ⟨k - 1, by omega⟩
  have h2000 : 2000 ≤ sizeLine := by decide
  have hk : deps vs + 1 + 1 ≤ k + 1 := hk
  obtain ⟨hl, hvs⟩ := smV_tupH hs
  obtain ⟨xs, rfl, ho2⟩ := own_tup ho
  refine run_in rfl rfl ?_
  conv => whnf
  refine each_spoil (still := fun _ => True) (fun _ _ => trivial) ho2 hnd (fun v h => ⟨ih v h, hvs v h, by have := deps_mem v h; omega⟩) fun M' e hK => ?_
  conv => whnf
  exact .done ⟨rfl, hK⟩
set_option maxHeartbeats 0 in
theorem sp_fl {v : D} (h : flV v = true) : SpAt v := by
  intro x L k M ho hnd hs hk
  obtain ⟨k, rfl⟩ : ∃ j, k = j + 1 := ⟨k - 1, by omega⟩
  refine run_in rfl rfl ?_
  cases v <;> first | (cases h; done) | skip
  all_goals
    unfold OwnV at ho
    obtain ⟨rfl, rfl⟩ := ho
    conv => whnf
    exact .done ⟨rfl, fun _ _ => rfl⟩
theorem sp_no {v : D} (h : ∀ M x L, OwnV M x v L → False) : SpAt v := fun x L k M ho _ _ _ => (h _ _ _ ho).elim
mutual
theorem r_spoil : ∀ v : D, SpAt v
  | .non => sp_fl rfl
  | .int _ => sp_fl rfl
  | .str _ => sp_fl rfl
  | .lst vs => sp_lst (r_spoils vs)
  | .tup vs => sp_tup (r_spoils vs)
  | .bl _ => sp_no fun M x L h => by unfold OwnV at h; exact h
  | .scr _ => sp_no fun M x L h => by unfold OwnV at h; exact h
  | .emp => sp_no fun M x L h => by unfold OwnV at h; exact h
  | .loc _ => sp_no fun M x L h => by unfold OwnV at h; exact h
theorem r_spoils : ∀ (vs : List D), ∀ v ∈ vs, SpAt v
  | [], v, h => by cases h
  | x :: vs, v, h => by
    rcases List.mem_cons.mp h with h | h
    · rw [h]; exact r_spoil x
    · exact r_spoils vs v h
end
end Wp

/-! CtI: the lists of a value. -/
namespace Wp
open PySem
mutual
theorem own_dsz {M : Mem} : ∀ {v x : D} {L : List Addr}, OwnV M x v L → L.length ≤ dsz v
  | .lst vs, x, L, h => by
    obtain ⟨a, xs, L', rfl, hm, rfl, ho⟩ := own_lst h
    have := owns_dsz ho
    show L'.length + 1 ≤ dszs vs + 1
    omega
  | .tup vs, x, L, h => by
    obtain ⟨xs, rfl, ho⟩ := own_tup h
    have := owns_dsz ho
    show L.length ≤ dszs vs + 1
    omega
  | .non, x, L, h => by unfold OwnV at h; rw [h.2]; exact Nat.zero_le _
  | .int i, x, L, h => by unfold OwnV at h; rw [h.2]; exact Nat.zero_le _
  | .str z, x, L, h => by unfold OwnV at h; rw [h.2]; exact Nat.zero_le _
  | .bl _, x, L, h => by unfold OwnV at h; exact h.elim
  | .scr _, x, L, h => by unfold OwnV at h; exact h.elim
  | .emp, x, L, h => by unfold OwnV at h; exact h.elim
  | .loc _, x, L, h => by unfold OwnV at h; exact h.elim
theorem owns_dsz {M : Mem} : ∀ {vs xs : List D} {L : List Addr}, OwnVs M xs vs L → L.length ≤ dszs vs
  | [], xs, L, h => by unfold OwnVs at h; rw [h.2]; exact Nat.zero_le _
  | v :: vs, xs, L, h => by
    obtain ⟨x, r, L1, L2, rfl, rfl, h1, h2⟩ := owns_cons h
    have a := own_dsz h1
    have b := owns_dsz h2
    rw [List.length_append]
    show _ ≤ dsz v + dszs vs
    omega
end
theorem dsz_mem : ∀ {vs : List D}, ∀ v ∈ vs, dsz v ≤ dszs vs
  | x :: vs, v, h => by
    show _ ≤ dsz x + dszs vs
    rcases List.mem_cons.mp h with rfl | h
    · omega
    · have := dsz_mem v h; omega
abbrev locsD (L : List Addr) : List D := L.map D.loc
abbrev LiAt (v : D) : Prop := ∀ (x : D) (L : List Addr) (k : Nat) (M : Mem), OwnV M x v L → dsz v ≤ 1000000 → dep v + 1 ≤ k → run tab k f_law_lists [x] M (fun y M' => y = .lst (locsD L) ∧ Ext M M') fun _ _ => False
theorem frz_lstD {p : Addr} {ds : List D} {M : Mem} {Q : QK} (h : M p = some (.lst ds)) (q : Q (.lst ds) (M.del p)) : Frz (.loc p) M Q :=
  .step h (by rw [repD_loc]; exact .done q)
theorem each_lists {k : Nat} {xs vs : List D} {L pre : List Addr} {M M1 : Mem} {still : Mem → Prop} {N : Ends} {x0 : D} {q0 : Addr} {e2 : Option D} (hst : ∀ M', Ext M M' → still M') (ho : OwnVs M xs vs L) (hv : ∀ v ∈ vs, LiAt v ∧ dep v + 1 ≤ k) (hd : dszs vs ≤ 1000000) (hp : pre.length ≤ 1)
    (hq : M q0 = none) (hm : M1 q0 = some (.lst (locsD pre))) (he : Ext M M1) (hQ : ∀ M' q e, M q = none → M' q = some (.lst (locsD (pre ++ L))) → Ext M M' → N.nx [some x0, some (.loc q), e] M') :
    eachW (wpS (run tab k) (.seq (.asg (.nm 1) (.bin .Add false (.var 1) (.call f_law_lists (.cons (.var 2) .nil)))) .nil)) (.nm 2) still N xs [some x0, some (.loc q0), e2] M1 := by
  have big : 1000002 ≤ sizeLine := by decide
  have hLl := owns_dsz ho
  refine each_inv (fun rem env M' => ∃ rv Ld Lr q e, env = [some x0, some (.loc q), e] ∧ L = Ld ++ Lr ∧ OwnVs M rem rv Lr ∧ (∀ w ∈ rv, w ∈ vs) ∧ M q = none ∧ M' q = some (.lst (locsD (pre ++ Ld))) ∧ Ext M M') ?_ ?_ _ _ _ ⟨vs, [], L, q0, e2, rfl, rfl, ho, fun _ h => h, hq, by rw [List.append_nil]; exact hm, he⟩
  · rintro x rem env M' ⟨rv, Ld, Lr, q, e, rfl, hL, ho2, hrv, hq2, hm2, he2⟩
    obtain ⟨v, ws, L3, L4, rfl, rfl, g1, g2⟩ := owns_uncons ho2
    have hvm := hrv v (List.mem_cons_self ..)
    obtain ⟨a1, a2⟩ := hv v hvm
    refine ⟨hst M' he2, ?_⟩
    conv => whnf
    refine run_use (a1 x L3 k M' (own_ext (fun b _ ob h => he2 b ob h) g1) (by have := dsz_mem v hvm; omega) a2) (Nat.le_refl _) fun y M2 h => ?_
    obtain ⟨rfl, he3⟩ := h
    have hm3 := he3 q _ hm2
    conv => whnf
    rw [asLT_loc hm3]
    refine ⟨?_, fun r hr => ?_⟩
    · rw [hL, List.length_append, List.length_append] at hLl
      rw [List.length_append, List.length_map, List.length_map, List.length_append]
      omega
    conv => whnf
    refine ⟨ws, Ld ++ L3, L4, r, _, rfl, by rw [hL, List.append_assoc], g2, fun w hw => hrv w (List.mem_cons_of_mem _ hw), (he2.trans he3).off hr, ?_, (he2.trans he3).new ((he2.trans he3).off hr)⟩
    rw [Mem.upd_same]
    unfold locsD
    rw [← List.map_append, List.append_assoc]
  · rintro env M' ⟨rv, Ld, Lr, q, e, rfl, hL, ho2, hrv, hq2, hm2, he2⟩
    obtain ⟨rfl, rfl⟩ := owns_end ho2
    rw [List.append_nil] at hL
    subst hL
    exact ⟨hst M' he2, hQ M' q e hq2 hm2 he2⟩
set_option maxHeartbeats 0 in
theorem li_lst {vs : List D} (ih : ∀ v ∈ vs, LiAt v) : LiAt (.lst vs) := by
  intro x L k M ho hd hk
  obtain ⟨k, rfl⟩ : ∃ j, k = j + 1 := ⟨k - 1, by omega⟩
  have h2000 : 2000 ≤ sizeLine := by decide
  have hk : deps vs + 1 + 1 ≤ k + 1 := hk
  have hd : dszs vs + 1 ≤ 1000000 := hd
  obtain ⟨a, xs, L', rfl, hm, rfl, ho2⟩ := own_lst ho
  refine run_in rfl rfl ?_
  conv => whnf
  refine ⟨lok rfl, fun p hp => ?_⟩
  have hpa : a ≠ p := Mem.fresh_ne hm hp
  conv => whnf
  rw [isi_loc (Ext.one hp a _ hm)]
  conv => whnf
  refine ⟨rcv_loc (by decide) Mem.upd_same, ?_⟩
  conv => whnf
  rw [Mem.upd_same]
  refine ⟨lok rfl, ?_⟩
  rw [Mem.upd_upd]
  have e0 : Ext M (M.upd p (.lst ([] ++ [.loc a]))) := Ext.one hp
  conv => whnf
  rw [isi_loc (e0 a _ hm)]
  conv => whnf
  rw [asL_loc (e0 a _ hm)]
  refine each_lists (pre := [a]) (fun M' h => h a _ hm) ho2 (fun v h => ⟨ih v h, by have := deps_mem v h; omega⟩) (by omega) (Nat.le_refl _) hp Mem.upd_same e0 fun M' q e hq hm2 he2 => ?_
  conv => whnf
  exact frz_lstD hm2 ⟨rfl, he2.del hq⟩
set_option maxHeartbeats 0 in
theorem li_tup {vs : List D} (ih : ∀ v ∈ vs, LiAt v) : LiAt (.tup vs) := by
  intro x L k M ho hd hk
  obtain ⟨k, rfl⟩ : ∃ j, k = j + 1 := ⟨k - 1, by omega⟩
  have h2000 : 2000 ≤ sizeLine := by decide
  have hk : deps vs + 1 + 1 ≤ k + 1 := hk
  have hd : dszs vs + 1 ≤ 1000000 := hd
  obtain ⟨xs, rfl, ho2⟩ := own_tup ho
  refine run_in rfl rfl ?_
  conv => whnf
  refine ⟨lok rfl, fun p hp => ?_⟩
  conv => whnf
  refine each_lists (pre := []) (still := fun _ => True) (fun _ _ => trivial) ho2 (fun v h => ⟨ih v h, by have := deps_mem v h; omega⟩) (by omega) (Nat.zero_le _) hp Mem.upd_same (Ext.one hp) fun M' q e hq hm2 he2 => ?_
  conv => whnf
  exact frz_lstD hm2 ⟨rfl, he2.del hq⟩
set_option maxHeartbeats 0 in
theorem li_fl {v : D} (h : flV v = true) : LiAt v := by
  intro x L k M ho hd hk
  obtain ⟨k, rfl⟩ : ∃ j, k = j + 1 := ⟨k - 1, by omega⟩
  refine run_in rfl rfl ?_
  cases v <;> first | (cases h; done) | skip
  all_goals
    unfold OwnV at ho
    obtain ⟨rfl, rfl⟩ := ho
    conv => whnf
    refine ⟨lok rfl, fun p hp => ?_⟩
    conv => whnf
    exact frz_lstD Mem.upd_same ⟨rfl, (Ext.one hp).del hp⟩
theorem li_no {v : D} (h : ∀ M x L, OwnV M x v L → False) : LiAt v := fun x L k M ho _ _ => (h _ _ _ ho).elim
mutual
theorem r_lists : ∀ v : D, LiAt v
  | .non => li_fl rfl
  | .int _ => li_fl rfl
  | .str _ => li_fl rfl
  | .lst vs => li_lst (r_listss vs)
  | .tup vs => li_tup (r_listss vs)
  | .bl _ => li_no fun M x L h => by unfold OwnV at h; exact h
  | .scr _ => li_no fun M x L h => by unfold OwnV at h; exact h
  | .emp => li_no fun M x L h => by unfold OwnV at h; exact h
  | .loc _ => li_no fun M x L h => by unfold OwnV at h; exact h
theorem r_listss : ∀ (vs : List D), ∀ v ∈ vs, LiAt v
  | [], v, h => by cases h
  | x :: vs, v, h => by
    rcases List.mem_cons.mp h with h | h
    · rw [h]; exact r_lists x
    · exact r_listss vs v h
end
end Wp

/-! K51a: two shapes set beside one another. -/
namespace Wp
open PySem
abbrev B9 : Int := 400000000000001000
/-- a shape of the law -/
structure Gd (s : Sh) : Prop where
  ok : s.okb = true
  de : s.dep ≤ 6
theorem gd_of {b : Int} {n : Nat} {s : Sh} (hb : b ≤ B9) (hn : n ≤ 6) (h : SDb b n s) : Gd s := ⟨Sh.okc_b (b := b) (by show b < 1000000000000000000; have : b ≤ 400000000000001000 := hb; omega) h.ok, Nat.le_trans h.de hn⟩
theorem cmpEq_own {M : Mem} {x v : D} {L : List Addr} {Q : QK} (ho : OwnV M x v L) (hv : plV v = true) (hs : smV v = true) (dv : dep v ≤ 27) (h : Q (.bl true) M) : cmpW .Eq x v M Q := by
  cases v
  case lst vs =>
    have hp := plVs_of hv
    have hd : deps vs ≤ 27 := by have : deps vs + 1 ≤ 27 := dv; omega
    exact cmpEq_lk (own_lk ho) (lk_self (M := M) hv) hp hp hd hd (fun _ => h) fun z => absurd rfl z
  case tup vs =>
    have hp := plVs_of hv
    have hd : deps vs ≤ 27 := by have : deps vs + 1 ≤ 27 := dv; omega
    obtain ⟨xs, rfl, ho2⟩ := own_tup ho
    exact cmpEq_lkT (own_lks ho2) (lks_self hp) hp hp hd hd (fun _ => h) fun z => absurd rfl z
  case bl => unfold OwnV at ho; exact ho.elim
  case scr => unfold OwnV at ho; exact ho.elim
  case emp => unfold OwnV at ho; exact ho.elim
  case loc => unfold OwnV at ho; exact ho.elim
  all_goals
    unfold OwnV at ho
    obtain ⟨rfl, rfl⟩ := ho
    exact cmpEq_pl hv hv (by omega) (by omega) (fun _ => h) fun z => absurd rfl z
theorem NewV.see {M0 M M2 : Mem} {x v : D} {L : List Addr} (h : NewV M0 M x v L) (e : Ext M M2) : OwnV M2 x v L := own_ext (fun a _ ob ho => e a ob ho) h.own
set_option maxHeartbeats 0 in
theorem r_right {s r : Sh} (gs : Gd s) (gr : Gd r) (k : Nat) (hk : 40 ≤ k) (M : Mem) : run tab k f_law_right [s.d, r.d] M (fun v M' => v = .bl true ∧ Ext M M') fun _ _ => False := by
  obtain ⟨k, rfl⟩ : ∃ j, k = j + 1 := ⟨k - 1, by omega⟩
  have ds := gs.de
  have dr := gr.de
  refine run_in rfl rfl ?_
  conv => whnf
  refine run_is (r_lwith s r k M gs.ok (by omega)) (Nat.le_refl _) ?_
  cases w : withinB s r with
  | true =>
    conv => whnf
    refine run_use (r_lrefused k M gs.ok w (by omega)) (Nat.le_refl _) fun v M1 h => ?_
    exact .done h
  | false =>
    obtain ⟨sm, fi, sz, ne⟩ := part_ok gs.ok gr.ok w
    have big : 300 * ls s.dep ≤ 1000000 := by
      have h6 : ls s.dep ≤ ls 6 := ls_up ds
      have : ls 6 ≤ 3000 := by decide
      omega
    have fp := fit_pl s _ sm fi
    have lv := bytes_dsz (v := partV s r) gs.ok
    conv => whnf
    refine run_use (r_part_own k M gs.ok gr.ok w (by omega)) (Nat.le_refl _) fun x M1 h => ?_
    obtain ⟨L, h1⟩ := h
    have again := fun M' => r_part_own (s := s) (r := r) k M' gs.ok gr.ok w (by omega)
    generalize partV s r = v at h1 sm fi sz ne fp lv again
    have fin : ∀ M2, Ext M1 M2 → wpS (run tab k) (match b_law_right.body with
      | .seq _ (.seq _ (.seq _ t)) => t
      | s => s) ⟨fun _ M1 => Frz .non M1 (fun v M' => v = .bl true ∧ Ext M M'), fun x M1 => Frz x M1 (fun v M' => v = .bl true ∧ Ext M M'), fun _ _ => False, fun _ _ => False, fun z _ M1 => False⟩ [some s.d, some r.d, some x, none] M2 := by
      intro M2 e2
      have o2 := h1.see e2
      conv => whnf
      refine run_is (r_kept v x L k M2 o2 sm (by omega)) (Nat.le_refl _) ?_
      conv => whnf
      refine run_use (r_spoil v x L k M2 o2 h1.nd sm (by omega)) (Nat.le_refl _) fun y M3 h => ?_
      obtain ⟨rfl, hK⟩ := h
      have e3 : Ext M M3 := fun a o ha => by
        rw [hK a fun hL => by rw [h1.fr a hL] at ha; cases ha]
        exact (h1.ex.trans e2) a o ha
      conv => whnf
      refine run_use (again M3) (Nat.le_refl _) fun y M4 h => ?_
      obtain ⟨L2, h4⟩ := h
      conv => whnf
      refine cmpEq_own h4.own fp.1 sm (by omega) ?_
      exact .done ⟨rfl, e3.trans h4.ex⟩
    conv => whnf
    refine run_is (r_lf s s v x L k M1 fi sm (by omega) h1.own (by omega)) (Nat.le_refl _) ?_
    rw [fi]
    conv => whnf
    refine run_is (r_lf r s v x L k M1 fi sm (by omega) h1.own (by omega)) (Nat.le_refl _) ?_
    cases fr : fitsB r v with
    | false =>
      conv => whnf
      exact fin M1 .refl
    | true =>
      have lr := bytes_dsz (v := v) gr.ok
      conv => whnf
      refine run_use (r_lb s v x L k M1 gs.ok sm fi h1.own (by omega) (by omega)) (Nat.le_refl _) fun b1 M2 h => ?_
      obtain ⟨rfl, e2⟩ := h
      conv => whnf
      refine run_use (r_lb r v x L k M2 gr.ok sm fr (h1.see e2) (by omega) (by omega)) (Nat.le_refl _) fun b2 M3 h => ?_
      obtain ⟨rfl, e3⟩ := h
      show cmpW .Eq _ _ _ _
      refine cmpEq_ints (is_ints _) (is_ints _) (fun e => ?_) fun _ => ?_
      · exact absurd (ints_inj e).symm (ne fr)
      · conv => whnf
        exact fin M3 (e2.trans e3)
end Wp

/-! K51b: lists apart; shifted numbers. -/
namespace Wp
open PySem
mutual
theorem own_len1 {M : Mem} : ∀ {v x : D} {L : List Addr}, OwnV M x v L → smV v = true → ∀ a ∈ L, ∃ ds, M a = some (.lst ds) ∧ ds.length ≤ 1000
  | .lst vs, x, L, h, hs => by
    obtain ⟨a, xs, L', rfl, hm, rfl, ho⟩ := own_lst h
    obtain ⟨h1, h2⟩ := smV_lstH hs
    exact all_cons ⟨xs, hm, by rw [own_len ho]; exact h1⟩ (owns_len1 ho h2)
  | .tup vs, x, L, h, hs => by
    obtain ⟨xs, rfl, ho⟩ := own_tup h
    exact owns_len1 ho (smV_tupH hs).2
  | .non, x, L, h, hs => by unfold OwnV at h; rw [h.2]; exact all_nil
  | .int i, x, L, h, hs => by unfold OwnV at h; rw [h.2]; exact all_nil
  | .str z, x, L, h, hs => by unfold OwnV at h; rw [h.2]; exact all_nil
  | .bl _, x, L, h, hs => by unfold OwnV at h; exact h.elim
  | .scr _, x, L, h, hs => by unfold OwnV at h; exact h.elim
  | .emp, x, L, h, hs => by unfold OwnV at h; exact h.elim
  | .loc _, x, L, h, hs => by unfold OwnV at h; exact h.elim
theorem owns_len1 {M : Mem} : ∀ {vs xs : List D} {L : List Addr}, OwnVs M xs vs L → (∀ v ∈ vs, smV v = true) → ∀ a ∈ L, ∃ ds, M a = some (.lst ds) ∧ ds.length ≤ 1000
  | [], xs, L, h, hs => by unfold OwnVs at h; rw [h.2]; exact all_nil
  | v :: vs, xs, L, h, hs => by
    obtain ⟨x, r, L1, L2, rfl, rfl, h1, h2⟩ := owns_cons h
    exact all_app (own_len1 h1 (hs v (List.mem_cons_self ..))) (owns_len1 h2 fun w hw => hs w (List.mem_cons_of_mem _ hw))
end
def OneL (w : D) : Prop := ∀ (M : Mem) (x : D) (L : List Addr), OwnV M x w L → 1 ≤ L.length
theorem owns_rep {M : Mem} {w : D} (hw : OneL w) : ∀ {n : Nat} {xs : List D} {L : List Addr}, OwnVs M xs (List.replicate n w) L → n ≤ L.length
  | 0, xs, L, h => Nat.zero_le _
  | n + 1, xs, L, h => by
    rw [List.replicate_succ] at h
    obtain ⟨x, r, L1, L2, rfl, rfl, h1, h2⟩ := owns_cons h
    have a := hw _ _ _ h1
    have b := owns_rep hw h2
    rw [List.length_append]; omega
theorem one_list {s : Sh} {m : Int} : OneL (least (.list s m)) := fun M x L h => by
  have h : OwnV M x (.lst []) L := by unfold least at h; exact h
  obtain ⟨a, xs, L', rfl, hm, rfl, ho⟩ := own_lst h
  rw [List.length_cons]; omega
theorem one_pair {s t : Sh} (h : OneL (least t)) : OneL (least (.pair s t)) := fun M x L g => by
  have g : OwnV M x (.tup [least s, least t]) L := by unfold least at g; exact g
  obtain ⟨x1, x2, L1, L2, rfl, rfl, g1, g2⟩ := own_two g
  have := h _ _ _ g2
  rw [List.length_append]; omega
theorem one_choice {s : Sh} {ss : List Sh} (h : OneL (least s)) : OneL (least (.choice (s :: ss))) := fun M x L g => by
  have g : OwnV M x (.tup [.str "of", .int (0 : Nat), least s]) L := by
    unfold least at g
    unfold least0 at g
    exact g
  obtain ⟨x1, rfl, g1⟩ := own_of g
  exact h _ _ _ g1
def szA (M : Mem) (a : Addr) : Int := match M a with
  | some (.lst ds) => (ds.length : Int)
  | _ => 0
theorem szA_at {M : Mem} {a : Addr} {ds : List D} (h : M a = some (.lst ds)) : szA M a = (ds.length : Int) := by unfold szA; rw [h]
def szF (M : Mem) (j : Int) : D → Option D
  | .loc a => some (.int (szA M a - j))
  | _ => none
theorem sz_map (M : Mem) (j : Int) : ∀ L : List Addr, (locsD L).filterMap (szF M j) = (L.map fun a => szA M a - j).map D.int
  | [] => rfl
  | a :: L => by
    show D.int (szA M a - j) :: (locsD L).filterMap (szF M j) = _
    rw [sz_map M j L]; rfl
theorem OffL {p : Addr} {M M' : Mem} (h : Off1 p M M') {n : Nat} (hP : Pl p n M) : True := trivial
theorem Pl.ext {p : Addr} {n : Nat} {M M' : Mem} (h : Pl p n M) (e : Ext M M') : Pl p n M' := by
  obtain ⟨a, f, t, h1, h2, h3⟩ := h
  exact ⟨a, f, t, e _ _ h1, h2, h3⟩
abbrev apQ (p : Addr) (n : Nat) : QK := fun v M' => v = .bl true ∧ Pl p (n + 20) M'
set_option maxHeartbeats 0 in
theorem r_apart_rest {p : Addr} {n : Nat} {M : Mem} {inner : Sh} {e1 e2 : D} (hi : SDb B0 2 inner) (h1 : OneL (least inner)) (hP : Pl p (n + 13) M) (hn : n < 800000000000) (k : Nat) (hk : 39 ≤ k) : wpS (run tab k) (match b_law_apart.body with
      | .seq _ (.seq _ (.seq _ t)) => t
      | s => s) ⟨fun _ M1 => Frz .non M1 (apQ p n), fun x M1 => Frz x M1 (apQ p n), fun _ _ => False, fun _ _ => False, fun z _ M1 => False⟩ [some (.loc p), some e1, some e2, some inner.d, none, none, none, none, none] M := by
  have h2000 : 2000 ≤ sizeLine := by decide
  have big : 1000002 ≤ sizeLine := by decide
  conv => whnf
  refine use_take hP (by omega) (by decide) (by decide) (by omega) fun i M1 a1 b1 hP1 o1 => ?_
  conv => whnf
  refine use_take hP1 (by omega) (by decide) (by decide) (by omega) fun j M2 a2 b2 hP2 o2 => ?_
  conv => whnf
  refine ⟨lok rfl, ?_⟩
  conv => whnf
  refine ⟨lok rfl, ?_⟩
  conv => whnf
  have gs : Gd (.list inner (1 + i + 1 + j)) := gd_of (by decide) (Nat.le_refl _) ((hi.list (1 + i + 1 + j) (by omega) (by omega)).up (by decide))
  have gr : Gd (.list inner (1 + i)) := gd_of (by decide) (Nat.le_refl _) ((hi.list (1 + i) (by omega) (by omega)).up (by decide))
  have w : withinB (.list inner (1 + i + 1 + j)) (.list inner (1 + i)) = false := by
    cases q : withinB (.list inner (1 + i + 1 + j)) (.list inner (1 + i)) with
    | false => rfl
    | true => have := (wi_list.mp q).1; omega
  have ev : partV (.list inner (1 + i + 1 + j)) (.list inner (1 + i)) = .lst (List.replicate (1 + i + 1).toNat (least inner)) := by
    have : outL (.list inner (1 + i + 1 + j)) (.list inner (1 + i)) = (if 1 + i + 1 + j > 1 + i then [D.lst (List.replicate (1 + i + 1).toNat (least inner))] else if 1 + i + 1 + j = 0 then [] else (outL inner inner).map fun v => D.lst [v]) := by
      conv => { lhs; unfold outL }
    unfold partV
    rw [this, if_pos (by omega)]
  obtain ⟨sm, fi, sz, ne⟩ := part_ok gs.ok gr.ok w
  have fp := fit_pl _ _ sm fi
  have hde := gs.de
  have bg : 300 * ls (Sh.list inner (1 + i + 1 + j)).dep ≤ 1000000 := by
    have h6 : ls (Sh.list inner (1 + i + 1 + j)).dep ≤ ls 6 := ls_up hde
    have : ls 6 ≤ 3000 := by decide
    omega
  refine run_use (r_part_own k M2 gs.ok gr.ok w (by omega)) (Nat.le_refl _) fun x M3 h => ?_
  obtain ⟨L, h3⟩ := h
  have hcnt : (1 + i + 1).toNat + 1 ≤ L.length := by
    have ho := h3.own
    rw [ev] at ho
    obtain ⟨a, xs, L', rfl, hm, rfl, ho2⟩ := own_lst ho
    have := owns_rep h1 ho2
    rw [List.length_cons]; omega
  have hLs := own_dsz h3.own
  have hL1 := own_len1 h3.own sm
  generalize partV (.list inner (1 + i + 1 + j)) (.list inner (1 + i)) = v at h3 sm fi sz ne fp hLs hL1
  conv => whnf
  refine run_use (r_lists v x L k M3 h3.own (by omega) (by omega)) (Nat.le_refl _) fun y M4 h => ?_
  obtain ⟨rfl, e4⟩ := h
  have hL4 : ∀ a ∈ L, ∃ ds, M4 a = some (.lst ds) ∧ ds.length ≤ 1000 := fun a ha => by
    obtain ⟨ds, h, hd⟩ := hL1 a ha
    exact ⟨ds, e4 a _ h, hd⟩
  have hP4 : Pl p (n + 15) M4 := (hP2.ext h3.ex).ext e4
  have hnp : p ∉ L := fun hx => by
    obtain ⟨a, f, t, e, _⟩ := hP2
    rw [h3.fr p hx] at e; cases e
  have hnd := h3.nd
  clear h3 hL1
  have hll : (locsD L).length = L.length := List.length_map ..
  conv => whnf
  refine comp_is (still := fun _ => True) (szF M4 0) trivial (locsD L) [] (fun d hd P h => ?_) (by rw [List.length_nil]; omega) ?_
  · obtain ⟨a, ha, rfl⟩ := List.mem_map.mp hd
    obtain ⟨ds, hm, hdl⟩ := hL4 a ha
    have h : P (some (.int (szA M4 a - 0))) M4 := h
    rw [szA_at hm, Int.sub_zero] at h
    conv => whnf
    rw [asS_loc hm]
    exact h
  rw [List.nil_append, sz_map]
  refine newL_fz (by rw [List.length_map, List.length_map]; omega) ?_
  conv => whnf
  refine each_inv (fun rem env M' => ∃ L1 L2 e8, env = [some (.loc p), some e1, some e2, some inner.d, some (.int (1 + i)), some (Sh.list inner (1 + i + 1 + j)).d, some (.lst (locsD L)), some (.lst ((L.map fun a => szA M4 a - 0).map D.int)), e8] ∧ rem = locsD L2 ∧ L = L1 ++ L2 ∧ (∀ a ∈ L1, ∃ ds, M' a = some (.lst ds) ∧ (ds.length : Int) = szA M4 a + 1) ∧ ∀ b, b ∉ L1 → M' b = M4 b) ?_ ?_ _ _ _ ⟨[], L, _, rfl, rfl, rfl, all_nil, fun _ _ => rfl⟩
  · rintro x rem env M' ⟨L1, L2, e8, rfl, hr, hL, hg, hK⟩
    match L2, hr with
    | a :: L2, hr0 =>
      injection hr0 with hx hr2
      subst hx
      have haL : a ∈ L := by rw [hL]; exact List.mem_append_right _ (List.mem_cons_self ..)
      have hn1 := List.nodup_append.mp (by rw [hL] at hnd; exact hnd)
      have haL1 : a ∉ L1 := fun hx => hn1.2.2 a hx a (List.mem_cons_self ..) rfl
      obtain ⟨ds, hm, hdl⟩ := hL4 a haL
      have hm' : M' a = some (.lst ds) := (hK a haL1).trans hm
      refine ⟨trivial, ?_⟩
      conv => whnf
      refine ⟨rcv_loc (by decide) hm', ?_⟩
      conv => whnf
      rw [hm']
      refine ⟨by omega, ?_⟩
      conv => whnf
      refine ⟨L1 ++ [a], L2, _, rfl, hr2, by rw [hL, List.append_assoc]; rfl, all_app (fun b hb => ?_) (all_cons ⟨_, Mem.upd_same, by rw [List.length_append, szA_at hm]; rfl⟩ all_nil), fun b hb => ?_⟩
      · obtain ⟨es, he, hel⟩ := hg b hb
        exact ⟨es, by rw [Mem.upd_ne fun z => haL1 (by rw [← z]; exact hb)]; exact he, hel⟩
      · rw [Mem.upd_ne fun z => hb (List.mem_append_right _ (by rw [z]; exact List.mem_cons_self ..))]
        exact hK b fun z => hb (List.mem_append_left _ z)
  · rintro env M' ⟨L1, L2, e8, rfl, hr, hL, hg, hK⟩
    match L2, hr with
    | [], hr =>
      rw [List.append_nil] at hL
      subst hL
      have hP5 : Pl p (n + 15) M' := by
        obtain ⟨a, f, t, e, z⟩ := hP4
        exact ⟨a, f, t, by rw [hK p hnp]; exact e, z⟩
      refine ⟨trivial, ?_⟩
      conv => whnf
      rw [decide_eq_true (show 1 + i + 1 < ((locsD L).length : Int) by omega)]
      conv => whnf
      refine comp_is (still := fun _ => True) (szF M' 1) trivial (locsD L) [] (fun d hd P h => ?_) (by rw [List.length_nil]; omega) ?_
      · obtain ⟨a, ha, rfl⟩ := List.mem_map.mp hd
        obtain ⟨ds, hm, hdl⟩ := hg a ha
        have h : P (some (.int (szA M' a - 1))) M' := h
        rw [szA_at hm] at h
        conv => whnf
        rw [asS_loc hm]
        exact h
      rw [List.nil_append, sz_map]
      have e : (L.map fun a => szA M' a - 1) = (L.map fun a => szA M4 a - 0) := List.map_congr_left fun a ha => by
        obtain ⟨ds, hm, hdl⟩ := hg a ha
        rw [szA_at hm]; omega
      rw [e]
      refine newL_fz (by rw [List.length_map, List.length_map]; omega) ?_
      unfold wpE
      show cmpW .Eq _ _ _ _
      refine cmpEq_ints (is_ints _) (is_ints _) (fun _ => ?_) fun z => absurd rfl z
      exact .done ⟨rfl, hP5.up (by omega)⟩
set_option maxHeartbeats 0 in
theorem r_apart {p : Addr} {n : Nat} {M : Mem} (hP : Pl p n M) (hn : n < 800000000000) (k : Nat) (hk : 40 ≤ k) : run tab k f_law_apart [.loc p] M (fun v M' => v = .bl true ∧ Pl p (n + 20) M') fun _ _ => False := by
  obtain ⟨k, rfl⟩ : ∃ j, k = j + 1 := ⟨k - 1, by omega⟩
  have h2000 : 2000 ≤ sizeLine := by decide
  have big : 1000002 ≤ sizeLine := by decide
  refine run_in rfl rfl ?_
  conv => whnf
  refine use_leaf hP (by omega) (by omega) fun lf M1 hl h1 o1 => ?_
  have hone : SDb B0 1 (.list lf 3) := hl.list 3 (by decide) (by decide)
  have hone1 : OneL (least (.list lf 3)) := one_list
  refine ⟨lok rfl, ?_⟩
  conv => whnf
  refine ⟨lok rfl, ?_⟩
  conv => whnf
  refine ⟨lok rfl, ?_⟩
  conv => whnf
  refine ⟨lok rfl, ?_⟩
  conv => whnf
  refine ⟨lok rfl, ?_⟩
  conv => whnf
  refine ⟨lok rfl, ?_⟩
  conv => whnf
  refine ⟨lok rfl, ?_⟩
  conv => whnf
  refine use_take h1 (by omega) (by decide) (by decide) (by omega) fun i M2 a2 b2 h2 o2 => ?_
  rcases (show i = 0 ∨ i = 1 ∨ i = 2 ∨ i = 3 by omega) with rfl | rfl | rfl | rfl
  · exact r_apart_rest (inner := .list lf 3) (hone.up (by decide)) hone1 h2 (by omega) k (by omega)
  · exact r_apart_rest (inner := .pair .nothing (.list lf 3)) (SDb.pair .nothing hone) (one_pair hone1) h2 (by omega) k (by omega)
  · exact r_apart_rest (inner := .pair (.list lf 3) (.list lf 3)) (SDb.pair hone hone) (one_pair hone1) h2 (by omega) k (by omega)
  · exact r_apart_rest (inner := .choice [.list lf 3, .list lf 3]) (SDb.choice (Nat.le_succ 1) (by show 2 ≤ 9; decide) (all_cons hone (all_cons hone all_nil))) (one_choice hone1) h2 (by omega) k (by omega)
set_option maxHeartbeats 0 in
theorem r_shifted {p : Addr} {n : Nat} {M : Mem} (hP : Pl p n M) (hn : n < 800000000000) (k : Nat) (hk : 40 ≤ k) : run tab k f_law_shifted [.loc p] M (fun v M' => ∃ s r : Sh, v = .lst [s.d, r.d] ∧ SDb B0 1 s ∧ SDb B0 1 r ∧ Pl p (n + 20) M') fun _ _ => False := by
  obtain ⟨k, rfl⟩ : ∃ j, k = j + 1 := ⟨k - 1, by omega⟩
  refine run_in rfl rfl ?_
  conv => whnf
  refine ⟨lok rfl, ?_⟩
  conv => whnf
  refine use_take hP (by omega) (by decide) (by decide) (by omega) fun i M1 a1 b1 h1 o1 => ?_
  conv => whnf
  obtain ⟨hi, e, l1, l2⟩ := pick (xs := [D.int 0, D.int 1, D.int 255, D.int 256, D.int 65535]) (lo := 0) (hi := 65535) a1 b1
    (all_cons ⟨_, rfl, by omega, by omega⟩ (all_cons ⟨_, rfl, by omega, by omega⟩ (all_cons ⟨_, rfl, by omega, by omega⟩ (all_cons ⟨_, rfl, by omega, by omega⟩ (all_cons ⟨_, rfl, by omega, by omega⟩ all_nil)))))
  rw [e]
  conv => whnf
  refine ⟨lok rfl, ?_⟩
  conv => whnf
  refine ⟨lok rfl, ?_⟩
  conv => whnf
  refine use_take h1 (by omega) (by decide) (by decide) (by omega) fun j M2 a2 b2 h2 o2 => ?_
  conv => whnf
  obtain ⟨hj, e, m1, m2⟩ := pick (xs := [D.int 255, D.int 256, D.int 65536]) (lo := 0) (hi := 65536) a2 b2
    (all_cons ⟨_, rfl, by omega, by omega⟩ (all_cons ⟨_, rfl, by omega, by omega⟩ (all_cons ⟨_, rfl, by omega, by omega⟩ all_nil)))
  rw [e]
  refine ⟨lok rfl, ?_⟩
  conv => whnf
  have s1 : SDb B0 0 (.number 0 hi) := .number (by decide) l1 (by show hi ≤ 400000000000000000; omega)
  have s2 : SDb B0 0 (.number 0 hj) := .number (by decide) m1 (by show hj ≤ 400000000000000000; omega)
  refine ⟨lok rfl, ?_⟩
  conv => whnf
  refine ⟨lok rfl, ?_⟩
  conv => whnf
  refine ⟨lok rfl, ?_⟩
  conv => whnf
  exact .done ⟨.pair (.number 0 hi) (.number 0 hj), .pair (.number 0 hj) (.number 0 hi), rfl, SDb.pair s1 s2, SDb.pair s2 s1, h2.up (by omega)⟩
end Wp

/-! CsT: two shapes, two menus (as K50e, with bounds). -/
namespace Wp
open PySem
set_option maxHeartbeats 0 in
theorem r_two {p : Addr} {n : Nat} {M : Mem} (hP : Pl p n M) (hn : n < 600000000000) (k : Nat) (hk : 20 ≤ k) : run tab k f_law_two [.loc p] M (fun v M' => ∃ s r : Sh, v = .tup [s.d, r.d] ∧ SDb (B0 + 900) 5 s ∧ SDb (B0 + 900) 5 r ∧ Pl p (n + 5000) M') fun _ _ => False := by
  obtain ⟨k, rfl⟩ : ∃ j, k = j + 1 := ⟨k - 1, by omega⟩
  refine run_in rfl rfl ?_
  conv => whnf
  refine run_use (r_shape hP (by omega) k (by omega)) (Nat.le_refl _) fun v M1 h => ?_
  obtain ⟨s, rfl, hs, h1, o1⟩ := h
  conv => whnf
  refine use_take h1 (by omega) (by decide) (by decide) (by omega) fun i2 M2 a2 b2 h2 o2 => ?_
  conv => whnf
  refine ⟨⟨by omega, by omega⟩, ?_⟩
  refine each_inv (fun rem env M' => ∃ (r : Sh) (e3 : Option D), env = [some (.loc p), some s.d, some r.d, e3] ∧ SDb (B0 + 300 * (3 - (rem.length : Int))) 5 r ∧ rem.length ≤ 3 ∧ Pl p (n + 1601 + 400 * (3 - rem.length)) M') ?_ ?_ _ _ _ ⟨s, none, rfl, hs.upb (by rw [rng_len]; omega) (Nat.le_refl _), by rw [rng_len]; omega, h2.up (by omega)⟩
  · rintro x rem env M' ⟨r, e3, rfl, hr, hl, h3⟩
    rw [List.length_cons] at hl h3 hr
    have hd := hr.de
    refine ⟨trivial, ?_⟩
    conv => whnf
    refine run_use (r_varied r _ p _ k M' (by omega) hr.ok h3 (by omega) (by omega)) (Nat.le_refl _) fun v M4 h => ?_
    obtain ⟨t, rfl, ht, h4, o4⟩ := h
    conv => whnf
    exact ⟨t, _, rfl, ht.upb (by omega) hd, by omega, h4.up (by omega)⟩
  · rintro env M' ⟨r, e3, rfl, hr, hl, h3⟩
    rw [List.length_nil] at h3 hr
    have hr : SDb (B0 + 900) 5 r := hr.upb (by omega) (Nat.le_refl _)
    have hs : SDb (B0 + 900) 5 s := hs.upb (by omega) (Nat.le_refl _)
    refine ⟨trivial, ?_⟩
    conv => whnf
    refine use_take h3 (by omega) (by decide) (by decide) (by omega) fun i4 M4 a4 b4 h4 o4 => ?_
    have fin : ∀ (r : Sh) (M5 : Mem), SDb (B0 + 900) 5 r → Pl p (n + 4500) M5 → run tab k f_law_take [.loc p, .int 2] M5 (fun y M2 => idxW (.lst [.tup [s.d, r.d], .tup [r.d, s.d]]) y M2 fun x M' => Frz x M' fun v M' => ∃ s r : Sh, v = .tup [s.d, r.d] ∧ SDb (B0 + 900) 5 s ∧ SDb (B0 + 900) 5 r ∧ Pl p (n + 5000) M') fun _ _ => False := by
      intro r M5 hr h5
      refine use_take h5 (by omega) (by decide) (by decide) (by omega) fun i6 M6 a6 b6 h6 o6 => ?_
      rcases (show i6 = 0 ∨ i6 = 1 by omega) with rfl | rfl
      · exact .done ⟨s, r, rfl, hs, hr, h6.up (by omega)⟩
      · exact .done ⟨r, s, rfl, hr, hs, h6.up (by omega)⟩
    conv => whnf
    split
    · conv => whnf
      refine run_use (r_shape h4 (by omega) k (by omega)) (Nat.le_refl _) fun v M5 h => ?_
      obtain ⟨t, rfl, ht, h5, o5⟩ := h
      refine ⟨lok rfl, ?_⟩
      conv => whnf
      refine ⟨lok rfl, ?_⟩
      conv => whnf
      refine ⟨lok rfl, ?_⟩
      conv => whnf
      exact fin t M5 (ht.upb (by omega) (Nat.le_refl _)) (h5.up (by omega))
    · conv => whnf
      refine ⟨lok rfl, ?_⟩
      conv => whnf
      refine ⟨lok rfl, ?_⟩
      conv => whnf
      refine ⟨lok rfl, ?_⟩
      conv => whnf
      exact fin r M4 hr (h4.up (by omega))
set_option maxHeartbeats 0 in
theorem r_menus {p : Addr} {n : Nat} {M : Mem} (hP : Pl p n M) (hn : n < 600000000000) (k : Nat) (hk : 20 ≤ k) : run tab k f_law_menus [.loc p] M (fun v M' => ∃ s r : Sh, v = .tup [s.d, r.d] ∧ SDb (B0 + 900) 5 s ∧ SDb (B0 + 900) 5 r ∧ Pl p (n + 5000) M') fun _ _ => False := by
  obtain ⟨k, rfl⟩ : ∃ j, k = j + 1 := ⟨k - 1, by omega⟩
  have h2000 : 2000 ≤ sizeLine := by decide
  refine run_in rfl rfl ?_
  conv => whnf
  refine run_use (r_menu hP (by omega) k (by omega)) (Nat.le_refl _) fun v M1 h => ?_
  obtain ⟨ss, rfl, l1, l9, hss, h1, -⟩ := h
  have hln : (Sh.ds ss).length = ss.length := Sh.ds_len ss
  conv => whnf
  refine ⟨by omega, fun q hq => ?_⟩
  have pq := h1.ne hq
  conv => whnf
  refine use_take (h1.keep pq) (by omega) (by decide) (by decide) (by omega) fun i2 M2 a2 b2 h2 o2 => ?_
  have m2 : M2 q = some (.lst (Sh.ds ss)) := o2.at (Ne.symm pq) Mem.upd_same
  conv => whnf
  refine ⟨⟨by omega, by omega⟩, ?_⟩
  refine each_inv (fun rem env M' => ∃ (rr : List Sh) (e3 e4 : Option D), env = [some (.loc p), some (Sh.choice ss).d, some (.loc q), e3, e4] ∧ M' q = some (.lst (Sh.ds rr)) ∧ rr.length = ss.length ∧ (∀ s ∈ rr, SDb (B0 + 300 * (2 - (rem.length : Int))) 3 s) ∧ rem.length ≤ 2 ∧ Pl p (n + 701 + 300 * (2 - rem.length)) M') ?_ ?_ _ _ _ ⟨ss, none, none, rfl, m2, rfl, fun s h => (hss s h).upb (by rw [rng_len]; omega) (Nat.le_refl _), by rw [rng_len]; omega, h2.up (by omega)⟩
  · rintro x rem env M' ⟨rr, e3, e4, rfl, hm, hrl, hrr, hl, h3⟩
    rw [List.length_cons] at hl h3 hrr
    have hrn : (Sh.ds rr).length = rr.length := Sh.ds_len rr
    refine ⟨trivial, ?_⟩
    conv => whnf
    rw [asS_loc hm]
    conv => whnf
    refine use_take h3 (by omega) (by omega) (Nat.lt_trans (log2_small (by omega)) (by decide)) (by omega) fun i4 M4 a4 b4 h4 o4 => ?_
    have m4 : M4 q = some (.lst (Sh.ds rr)) := o4.at (Ne.symm pq) hm
    conv => whnf
    rw [asS_loc m4]
    conv => whnf
    obtain ⟨s, hs, e⟩ := Sh.ds_at a4 b4
    have hd := (hrr s hs).de
    rw [e]
    conv => whnf
    refine run_use (r_varied s _ p _ k M4 (by omega) (hrr s hs).ok h4 (by omega) (by omega)) (Nat.le_refl _) fun v M5 h => ?_
    obtain ⟨t, rfl, ht, h5, o5⟩ := h
    have m5 : M5 q = some (.lst (Sh.ds rr)) := o5.at (Ne.symm pq) m4
    conv => whnf
    refine put_loc (ys := Sh.ds (rr.set i4.toNat t)) m5 a4 b4 (by rw [Sh.ds_map, Sh.ds_map, List.map_set]) ?_
    refine ⟨rr.set i4.toNat t, _, _, rfl, Mem.upd_same, by rw [List.length_set]; exact hrl, fun y hy => ?_, by omega, (h5.keep pq).up (by omega)⟩
    rcases List.mem_or_eq_of_mem_set hy with hy | rfl
    · exact (hrr y hy).upb (by omega) (Nat.le_refl _)
    · exact ht.upb (by omega) hd
  · rintro env M' ⟨rr, e3, e4, rfl, hm, hrl, hrr, hl, h3⟩
    refine ⟨trivial, ?_⟩
    conv => whnf
    rw [asL_loc hm]
    refine ⟨lok rfl, ?_⟩
    conv => whnf
    refine ⟨lok rfl, ?_⟩
    conv => whnf
    exact .done ⟨.choice ss, .choice rr, rfl, (SDb.choice l1 l9 hss).upb (by omega) (by omega), (SDb.choice (by omega) (by omega) hrr).upb (by rw [List.length_nil]; omega) (by omega), h3.up (by rw [List.length_nil]; omega)⟩
end Wp

/-! K51c: law k51. -/
namespace Wp
open PySem
set_option maxHeartbeats 0 in
theorem r_pool {ns : List Int} {i : Int} {M : Mem} (i0 : 0 ≤ i) (i1 : i < 40) (k : Nat) (hk : 1 ≤ k) : run tab k f_law_pool [.scr ns, .int i] M (fun v M' => ∃ p, v = .loc p ∧ Pl p 1000 M') fun _ _ => False := by
  obtain ⟨k, rfl⟩ : ∃ j, k = j + 1 := ⟨k - 1, by omega⟩
  refine run_in rfl rfl ?_
  have main : ∀ (cell : Int), wpS (run tab k) (match b_law_pool.body with
      | .seq _ (.seq _ t) => t
      | s => s) ⟨fun _ M1 => Frz .non M1 (fun v M' => ∃ p, v = .loc p ∧ Pl p 1000 M'), fun x M1 => Frz x M1 (fun v M' => ∃ p, v = .loc p ∧ Pl p 1000 M'), fun _ _ => False, fun _ _ => False, fun z _ M1 => False⟩ [some (.scr ns), some (.int i), some (.int cell)] M := by
    intro cell
    conv => whnf
    refine ⟨by decide, ?_⟩
    conv => whnf
    split
    · conv => whnf
      refine ⟨by decide, ?_⟩
      refine ⟨lok rfl, fun p hp => ?_⟩
      conv => whnf
      exact .done ⟨p, rfl, _, _, _, Mem.upd_same, by decide, by decide⟩
    · conv => whnf
      refine ⟨mul_ok (by decide) (by omega), ?_⟩
      refine ⟨lok rfl, fun p hp => ?_⟩
      conv => whnf
      exact .done ⟨p, rfl, _, _, _, Mem.upd_same, by omega, by omega⟩
  conv => whnf
  split
  · rename_i h1
    have h1 := of_decide_eq_true h1
    conv => whnf
    obtain ⟨x, hx, e⟩ := atI_mem (xs := ns.map D.int) i0 h1
    obtain ⟨c, _, rfl⟩ := List.mem_map.mp hx
    rw [e]
    exact main c
  · exact main 0
theorem use_right {s r : Sh} (gs : Gd s) (gr : Gd r) {p : Addr} {n k : Nat} (hk : 40 ≤ k) {M : Mem} (hP : Pl p n M) {Q : QK} {E : XQ} (h : ∀ M', Pl p n M' → Q (.bl true) M') : run tab k f_law_right [s.d, r.d] M Q E :=
  run_use (r_right gs gr k hk M) (Nat.le_refl _) fun v M' ⟨e, he⟩ => by rw [e]; exact h M' (hP.ext he)
set_option maxHeartbeats 0 in
theorem r_body51 {p : Addr} {ns : List Int} {i : Int} {s r t u a b : Sh} {k : Nat} {M : Mem} {N : Ends} {e3 : Option D} (hk : 90 ≤ k) (gs : Gd s) (gr : Gd r) (gt : Gd t) (gu : Gd u) (ga : Gd a) (gb : Gd b) (hP : Pl p 300000 M)
    (hN : ∀ e2 e3 e4 e5 e6 e7 e8 e9 M', N.nx [some (.scr ns), some (.int i), e2, e3, e4, e5, e6, e7, e8, e9] M') :
    wpS (run tab k) (match b_law.body with
      | .seq (.each _ _ (.seq _ (.seq _ (.seq _ (.seq _ t))))) _ => t
      | s => s) N [some (.scr ns), some (.int i), some (.loc p), e3, some s.d, some r.d, some t.d, some u.d, some a.d, some b.d] M := by
  conv => whnf
  refine use_right ga gb (by omega) hP fun M1 h1 => ?_
  conv => whnf
  refine use_right gb ga (by omega) h1 fun M2 h2 => ?_
  conv => whnf
  refine use_right gs gr (by omega) h2 fun M3 h3 => ?_
  conv => whnf
  refine use_right gt gu (by omega) h3 fun M4 h4 => ?_
  conv => whnf
  refine use_right gu gt (by omega) h4 fun M5 h5 => ?_
  conv => whnf
  refine use_leaf h5 (by omega) (by omega) fun lf M6 hl h6 o6 => ?_
  conv => whnf
  refine run_use (r_apart h6 (by omega) k (by omega)) (Nat.le_refl _) fun v M7 h => ?_
  obtain ⟨rfl, h7⟩ := h
  conv => whnf
  refine use_take h7 (by omega) (by decide) (by decide) (by omega) fun x M8 a8 b8 h8 o8 => ?_
  conv => whnf
  refine ⟨lok rfl, ?_⟩
  conv => whnf
  refine use_take h8 (by omega) (by decide) (by decide) (by omega) fun y M9 a9 b9 h9 o9 => ?_
  conv => whnf
  refine ⟨lok rfl, ?_⟩
  conv => whnf
  refine use_right (s := .list lf x) (r := .list lf y) (gd_of (by decide) (by decide) (hl.list x (by omega) (by omega))) (gd_of (by decide) (by decide) (hl.list y (by omega) (by omega))) (by omega) h9 fun M10 h10 => ?_
  conv => whnf
  exact hN _ _ _ _ _ _ _ _ _
set_option maxHeartbeats 0 in
theorem r_law51 (ns : List Int) (hn : ns.length ≤ 63) (k : Nat) (hk : 100 ≤ k) {M : Mem} :
    run tab k f_law [.scr ns] M (fun d _ => d = .bl true) fun _ _ => False := by
  obtain ⟨k, rfl⟩ : ∃ j, k = j + 1 := ⟨k - 1, by omega⟩
  refine run_in rfl rfl ?_
  conv => whnf
  have hb : 1 ≤ (if (if ((ns.map D.int).length : Int) < 20 then ((ns.map D.int).length : Int) else 20) > 1 then (if ((ns.map D.int).length : Int) < 20 then ((ns.map D.int).length : Int) else 20) else 1) ∧ (if (if ((ns.map D.int).length : Int) < 20 then ((ns.map D.int).length : Int) else 20) > 1 then (if ((ns.map D.int).length : Int) < 20 then ((ns.map D.int).length : Int) else 20) else 1) ≤ 20 := by
    split <;> split at * <;> omega
  generalize (if (if ((ns.map D.int).length : Int) < 20 then ((ns.map D.int).length : Int) else 20) > 1 then (if ((ns.map D.int).length : Int) < 20 then ((ns.map D.int).length : Int) else 20) else 1) = w at hb
  refine ⟨⟨by omega, by omega⟩, ?_⟩
  refine each_inv (fun rem env M' => ∃ (e1 e2 e3 e4 e5 e6 e7 e8 e9 : Option D), env = [some (.scr ns), e1, e2, e3, e4, e5, e6, e7, e8, e9] ∧ ∀ x ∈ rem, ∃ i : Int, x = D.int i ∧ 0 ≤ i ∧ i < 20) ?_ ?_ _ _ _ ⟨_, _, _, _, _, _, _, _, _, rfl, fun x hx => ?_⟩
  · rintro x rem env M1 ⟨e1, e2, e3, e4, e5, e6, e7, e8, e9, rfl, hx⟩
    obtain ⟨i, rfl, i0, i1⟩ := hx _ (List.mem_cons_self ..)
    have hx := fun x h => hx x (List.mem_cons_of_mem _ h)
    refine ⟨trivial, ?_⟩
    conv => whnf
    refine run_use (r_pool i0 (by omega) k (by omega)) (Nat.le_refl _) fun v M2 h => ?_
    obtain ⟨p, rfl, h2⟩ := h
    conv => whnf
    refine run_use (r_two h2 (by omega) k (by omega)) (Nat.le_refl _) fun v M3 h => ?_
    obtain ⟨s, r, rfl, hs, hr, h3⟩ := h
    conv => whnf
    refine run_use (r_shifted h3 (by omega) k (by omega)) (Nat.le_refl _) fun v M4 h => ?_
    obtain ⟨t, u, rfl, ht, hu, h4⟩ := h
    conv => whnf
    refine run_use (r_menus h4 (by omega) k (by omega)) (Nat.le_refl _) fun v M5 h => ?_
    obtain ⟨a, b, rfl, ha, hb2, h5⟩ := h
    exact r_body51 (by omega) (gd_of (by decide) (by decide) hs) (gd_of (by decide) (by decide) hr) (gd_of (by decide) (by decide) ht) (gd_of (by decide) (by decide) hu) (gd_of (by decide) (by decide) ha) (gd_of (by decide) (by decide) hb2) (h5.up (by omega)) fun _ _ _ _ _ _ _ _ _ => ⟨_, _, _, _, _, _, _, _, _, rfl, hx⟩
  · rintro env M1 ⟨e1, e2, e3, e4, e5, e6, e7, e8, e9, rfl, -⟩
    refine ⟨trivial, ?_⟩
    conv => whnf
    exact .done rfl
  · obtain ⟨i, rfl, hi⟩ := rng_int x hx
    exact ⟨_, rfl, by omega, by omega⟩
end Wp

namespace Wp
open PySem
def lawK : Nat := 100
theorem law_holds (ns : List Int) (hn : ns.length ≤ 63) : run tab (lawK + 1) f_law [.scr ns] (fun _ => none) (fun d _ => d = .bl true) fun _ _ => False := r_law51 ns hn _ (by decide)
end Wp

namespace Wp
open PySem PySem.Spec PyProof.Rows L2
def topS (i : Nat) : Stmt := PySem.Challenge.pw_wireparley_k51_parting_values.main.body.getD i (.Pass ⟨0, 0, 0, 0⟩)
def xcs : List (Nat × PySem.Str) := [(2, "NoValue"), (4, "Broken"), (6, "NoName"), (8, "NoRow"), (5, "NoTalk"), (7, "NoText"), (3, "Short"), (1, "ParleyError")]
def xms : List (PySem.Str × PySem.Str) := []
def tb : Tb where
  nm := fun f => match f with
    | 0 => some "bytes_for"
    | 1 => some "is_within"
    | 2 => some "least_value"
    | 3 => some "outside_list"
    | 4 => some "outside_pair"
    | 5 => some "outside_choice"
    | 6 => some "outside"
    | 7 => some "other_bytes"
    | 8 => some "parting"
    | 9 => some "_law_pool"
    | 10 => some "_law_take"
    | 11 => some "_law_leaf"
    | 12 => some "_law_part"
    | 13 => some "_law_record"
    | 14 => some "_law_menu"
    | 15 => some "_law_shape"
    | 16 => some "_law_varied_number"
    | 17 => some "_law_varied_choice"
    | 18 => some "_law_varied"
    | 19 => some "_law_places"
    | 20 => some "_law_within"
    | 21 => some "_law_signs"
    | 22 => some "_law_fits"
    | 23 => some "_law_bytes"
    | 24 => some "_law_two"
    | 25 => some "_law_refused"
    | 26 => some "_law_kept"
    | 27 => some "_law_spoil"
    | 28 => some "_law_right"
    | 29 => some "_law_menus"
    | 30 => some "_law_lists"
    | 31 => some "_law_apart"
    | 32 => some "_law_shifted"
    | 33 => some "law"
    | _ => none
  ar := fun f => match f with
    | 0 => 1
    | 1 => 2
    | 2 => 1
    | 3 => 2
    | 4 => 2
    | 5 => 2
    | 6 => 2
    | 7 => 2
    | 8 => 2
    | 9 => 2
    | 10 => 2
    | 11 => 1
    | 12 => 2
    | 13 => 1
    | 14 => 1
    | 15 => 1
    | 16 => 3
    | 17 => 2
    | 18 => 2
    | 19 => 2
    | 20 => 2
    | 21 => 1
    | 22 => 2
    | 23 => 2
    | 24 => 1
    | 25 => 2
    | 26 => 1
    | 27 => 1
    | 28 => 2
    | 29 => 1
    | 30 => 1
    | 31 => 1
    | 32 => 1
    | 33 => 1
    | _ => 0
  cs := []
  bn := ["all", "zip", "len", "tuple", "range", "enumerate", "min", "max", "ord", "isinstance", "bool", "int", "list", "str", "ValueError"]
  xc := xcs
  xr := []
  xo := [2]
def d_bytes_for : He.DefD := ⟨("bytes_for", none), "bytes_for", "bytes_for", defArgs (topS 10), defBody (topS 10), defScope (topS 10), [], []⟩
def n_bytes_for : List Str := ["s", "span", "found"]
theorem c_bytes_for : chkL tb n_bytes_for (defScope (topS 10)) b_bytes_for.body (defBody (topS 10)) = true := by decide +kernel
theorem s_bytes_for : FnScope n_bytes_for ["s"] (defScope (topS 10)) := ⟨by rfl, by rfl, by rfl, by decide +kernel, by rfl, by decide +kernel, by decide +kernel⟩
def d_is_within : He.DefD := ⟨("is_within", none), "is_within", "is_within", defArgs (topS 11), defBody (topS 11), defScope (topS 11), [], []⟩
def n_is_within : List Str := ["s", "r", "kind", "one", "other"]
theorem c_is_within : chkL tb n_is_within (defScope (topS 11)) b_is_within.body (defBody (topS 11)) = true := by decide +kernel
theorem s_is_within : FnScope n_is_within ["s", "r"] (defScope (topS 11)) := ⟨by rfl, by rfl, by rfl, by decide +kernel, by rfl, by decide +kernel, by decide +kernel⟩
def d_least_value : He.DefD := ⟨("least_value", none), "least_value", "least_value", defArgs (topS 12), defBody (topS 12), defScope (topS 12), [], []⟩
def n_least_value : List Str := ["s", "kind"]
theorem c_least_value : chkL tb n_least_value (defScope (topS 12)) b_least_value.body (defBody (topS 12)) = true := by decide +kernel
theorem s_least_value : FnScope n_least_value ["s"] (defScope (topS 12)) := ⟨by rfl, by rfl, by rfl, by decide +kernel, by rfl, by decide +kernel, by decide +kernel⟩
def d_outside_list : He.DefD := ⟨("outside_list", none), "outside_list", "outside_list", defArgs (topS 13), defBody (topS 13), defScope (topS 13), [], []⟩
def n_outside_list : List Str := ["s", "r", "value", "k"]
theorem c_outside_list : chkL tb n_outside_list (defScope (topS 13)) b_outside_list.body (defBody (topS 13)) = true := by decide +kernel
theorem s_outside_list : FnScope n_outside_list ["s", "r"] (defScope (topS 13)) := ⟨by rfl, by rfl, by rfl, by decide +kernel, by rfl, by decide +kernel, by decide +kernel⟩
def d_outside_pair : He.DefD := ⟨("outside_pair", none), "outside_pair", "outside_pair", defArgs (topS 14), defBody (topS 14), defScope (topS 14), [], []⟩
def n_outside_pair : List Str := ["s", "r", "first", "value"]
theorem c_outside_pair : chkL tb n_outside_pair (defScope (topS 14)) b_outside_pair.body (defBody (topS 14)) = true := by decide +kernel
theorem s_outside_pair : FnScope n_outside_pair ["s", "r"] (defScope (topS 14)) := ⟨by rfl, by rfl, by rfl, by decide +kernel, by rfl, by decide +kernel, by decide +kernel⟩
def d_outside_choice : He.DefD := ⟨("outside_choice", none), "outside_choice", "outside_choice", defArgs (topS 15), defBody (topS 15), defScope (topS 15), [], []⟩
def n_outside_choice : List Str := ["s", "r", "found", "k", "one", "value"]
theorem c_outside_choice : chkL tb n_outside_choice (defScope (topS 15)) b_outside_choice.body (defBody (topS 15)) = true := by decide +kernel
theorem s_outside_choice : FnScope n_outside_choice ["s", "r"] (defScope (topS 15)) := ⟨by rfl, by rfl, by rfl, by decide +kernel, by rfl, by decide +kernel, by decide +kernel⟩
def d_outside : He.DefD := ⟨("outside", none), "outside", "outside", defArgs (topS 16), defBody (topS 16), defScope (topS 16), [], []⟩
def n_outside : List Str := ["s", "r", "kind"]
theorem c_outside : chkL tb n_outside (defScope (topS 16)) b_outside.body (defBody (topS 16)) = true := by decide +kernel
theorem s_outside : FnScope n_outside ["s", "r"] (defScope (topS 16)) := ⟨by rfl, by rfl, by rfl, by decide +kernel, by rfl, by decide +kernel, by decide +kernel⟩
def d_other_bytes : He.DefD := ⟨("other_bytes", none), "other_bytes", "other_bytes", defArgs (topS 17), defBody (topS 17), defScope (topS 17), [], []⟩
def n_other_bytes : List Str := ["s", "r", "kind", "k", "one", "other"]
theorem c_other_bytes : chkL tb n_other_bytes (defScope (topS 17)) b_other_bytes.body (defBody (topS 17)) = true := by decide +kernel
theorem s_other_bytes : FnScope n_other_bytes ["s", "r"] (defScope (topS 17)) := ⟨by rfl, by rfl, by rfl, by decide +kernel, by rfl, by decide +kernel, by decide +kernel⟩
def d_parting : He.DefD := ⟨("parting", none), "parting", "parting", defArgs (topS 18), defBody (topS 18), defScope (topS 18), [], []⟩
def n_parting : List Str := ["s", "r", "value"]
theorem c_parting : chkL tb n_parting (defScope (topS 18)) b_parting.body (defBody (topS 18)) = true := by decide +kernel
theorem s_parting : FnScope n_parting ["s", "r"] (defScope (topS 18)) := ⟨by rfl, by rfl, by rfl, by decide +kernel, by rfl, by decide +kernel, by decide +kernel⟩
def d_law_pool : He.DefD := ⟨("_law_pool", none), "_law_pool", "_law_pool", defArgs (topS 20), defBody (topS 20), defScope (topS 20), [], []⟩
def n_law_pool : List Str := ["script", "k", "cell"]
theorem c_law_pool : chkL tb n_law_pool (defScope (topS 20)) b_law_pool.body (defBody (topS 20)) = true := by decide +kernel
theorem s_law_pool : FnScope n_law_pool ["script", "k"] (defScope (topS 20)) := ⟨by rfl, by rfl, by rfl, by decide +kernel, by rfl, by decide +kernel, by decide +kernel⟩
def d_law_take : He.DefD := ⟨("_law_take", none), "_law_take", "_law_take", defArgs (topS 21), defBody (topS 21), defScope (topS 21), [], []⟩
def n_law_take : List Str := ["pool", "many", "step", "mark", "found"]
theorem c_law_take : chkL tb n_law_take (defScope (topS 21)) b_law_take.body (defBody (topS 21)) = true := by decide +kernel
theorem s_law_take : FnScope n_law_take ["pool", "many"] (defScope (topS 21)) := ⟨by rfl, by rfl, by rfl, by decide +kernel, by rfl, by decide +kernel, by decide +kernel⟩
def d_law_leaf : He.DefD := ⟨("_law_leaf", none), "_law_leaf", "_law_leaf", defArgs (topS 22), defBody (topS 22), defScope (topS 22), [], []⟩
def n_law_leaf : List Str := ["pool", "kind", "low", "some"]
theorem c_law_leaf : chkL tb n_law_leaf (defScope (topS 22)) b_law_leaf.body (defBody (topS 22)) = true := by decide +kernel
theorem s_law_leaf : FnScope n_law_leaf ["pool"] (defScope (topS 22)) := ⟨by rfl, by rfl, by rfl, by decide +kernel, by rfl, by decide +kernel, by decide +kernel⟩
def d_law_part : He.DefD := ⟨("_law_part", none), "_law_part", "_law_part", defArgs (topS 23), defBody (topS 23), defScope (topS 23), [], []⟩
def n_law_part : List Str := ["pool", "deep", "kind", "one", "some", "at", "k"]
theorem c_law_part : chkL tb n_law_part (defScope (topS 23)) b_law_part.body (defBody (topS 23)) = true := by decide +kernel
theorem s_law_part : FnScope n_law_part ["pool", "deep"] (defScope (topS 23)) := ⟨by rfl, by rfl, by rfl, by decide +kernel, by rfl, by decide +kernel, by decide +kernel⟩
def d_law_record : He.DefD := ⟨("_law_record", none), "_law_record", "_law_record", defArgs (topS 24), defBody (topS 24), defScope (topS 24), [], []⟩
def n_law_record : List Str := ["pool", "found", "k"]
theorem c_law_record : chkL tb n_law_record (defScope (topS 24)) b_law_record.body (defBody (topS 24)) = true := by decide +kernel
theorem s_law_record : FnScope n_law_record ["pool"] (defScope (topS 24)) := ⟨by rfl, by rfl, by rfl, by decide +kernel, by rfl, by decide +kernel, by decide +kernel⟩
def d_law_menu : He.DefD := ⟨("_law_menu", none), "_law_menu", "_law_menu", defArgs (topS 25), defBody (topS 25), defScope (topS 25), [], []⟩
def n_law_menu : List Str := ["pool", "found", "k", "one", "other", "some"]
theorem c_law_menu : chkL tb n_law_menu (defScope (topS 25)) b_law_menu.body (defBody (topS 25)) = true := by decide +kernel
theorem s_law_menu : FnScope n_law_menu ["pool"] (defScope (topS 25)) := ⟨by rfl, by rfl, by rfl, by decide +kernel, by rfl, by decide +kernel, by decide +kernel⟩
def d_law_shape : He.DefD := ⟨("_law_shape", none), "_law_shape", "_law_shape", defArgs (topS 26), defBody (topS 26), defScope (topS 26), [], []⟩
def n_law_shape : List Str := ["pool", "found", "k", "leaf", "some"]
theorem c_law_shape : chkL tb n_law_shape (defScope (topS 26)) b_law_shape.body (defBody (topS 26)) = true := by decide +kernel
theorem s_law_shape : FnScope n_law_shape ["pool"] (defScope (topS 26)) := ⟨by rfl, by rfl, by rfl, by decide +kernel, by rfl, by decide +kernel, by decide +kernel⟩
def d_law_varied_number : He.DefD := ⟨("_law_varied_number", none), "_law_varied_number", "_law_varied_number", defArgs (topS 27), defBody (topS 27), defScope (topS 27), [], []⟩
def n_law_varied_number : List Str := ["pool", "low", "high", "some", "one", "other"]
theorem c_law_varied_number : chkL tb n_law_varied_number (defScope (topS 27)) b_law_varied_number.body (defBody (topS 27)) = true := by decide +kernel
theorem s_law_varied_number : FnScope n_law_varied_number ["pool", "low", "high"] (defScope (topS 27)) := ⟨by rfl, by rfl, by rfl, by decide +kernel, by rfl, by decide +kernel, by decide +kernel⟩
def d_law_varied_choice : He.DefD := ⟨("_law_varied_choice", none), "_law_varied_choice", "_law_varied_choice", defArgs (topS 28), defBody (topS 28), defScope (topS 28), [], []⟩
def n_law_varied_choice : List Str := ["pool", "shapes", "way", "at", "k"]
theorem c_law_varied_choice : chkL tb n_law_varied_choice (defScope (topS 28)) b_law_varied_choice.body (defBody (topS 28)) = true := by decide +kernel
theorem s_law_varied_choice : FnScope n_law_varied_choice ["pool", "shapes"] (defScope (topS 28)) := ⟨by rfl, by rfl, by rfl, by decide +kernel, by rfl, by decide +kernel, by decide +kernel⟩
def d_law_varied : He.DefD := ⟨("_law_varied", none), "_law_varied", "_law_varied", defArgs (topS 29), defBody (topS 29), defScope (topS 29), [], []⟩
def n_law_varied : List Str := ["pool", "s", "at"]
theorem c_law_varied : chkL tb n_law_varied (defScope (topS 29)) b_law_varied.body (defBody (topS 29)) = true := by decide +kernel
theorem s_law_varied : FnScope n_law_varied ["pool", "s"] (defScope (topS 29)) := ⟨by rfl, by rfl, by rfl, by decide +kernel, by rfl, by decide +kernel, by decide +kernel⟩
def d_law_places : He.DefD := ⟨("_law_places", none), "_law_places", "_law_places", defArgs (topS 30), defBody (topS 30), defScope (topS 30), [], []⟩
def n_law_places : List Str := ["low", "high", "many", "span"]
theorem c_law_places : chkL tb n_law_places (defScope (topS 30)) b_law_places.body (defBody (topS 30)) = true := by decide +kernel
theorem s_law_places : FnScope n_law_places ["low", "high"] (defScope (topS 30)) := ⟨by rfl, by rfl, by rfl, by decide +kernel, by rfl, by decide +kernel, by decide +kernel⟩
def d_law_within : He.DefD := ⟨("_law_within", none), "_law_within", "_law_within", defArgs (topS 31), defBody (topS 31), defScope (topS 31), [], []⟩
def n_law_within : List Str := ["s", "r", "inner", "one", "other"]
theorem c_law_within : chkL tb n_law_within (defScope (topS 31)) b_law_within.body (defBody (topS 31)) = true := by decide +kernel
theorem s_law_within : FnScope n_law_within ["s", "r"] (defScope (topS 31)) := ⟨by rfl, by rfl, by rfl, by decide +kernel, by rfl, by decide +kernel, by decide +kernel⟩
def d_law_signs : He.DefD := ⟨("_law_signs", none), "_law_signs", "_law_signs", defArgs (topS 32), defBody (topS 32), defScope (topS 32), [], []⟩
def n_law_signs : List Str := ["text", "a"]
theorem c_law_signs : chkL tb n_law_signs (defScope (topS 32)) b_law_signs.body (defBody (topS 32)) = true := by decide +kernel
theorem s_law_signs : FnScope n_law_signs ["text"] (defScope (topS 32)) := ⟨by rfl, by rfl, by rfl, by decide +kernel, by rfl, by decide +kernel, by decide +kernel⟩
def d_law_fits : He.DefD := ⟨("_law_fits", none), "_law_fits", "_law_fits", defArgs (topS 33), defBody (topS 33), defScope (topS 33), [], []⟩
def n_law_fits : List Str := ["s", "thing", "one"]
theorem c_law_fits : chkL tb n_law_fits (defScope (topS 33)) b_law_fits.body (defBody (topS 33)) = true := by decide +kernel
theorem s_law_fits : FnScope n_law_fits ["s", "thing"] (defScope (topS 33)) := ⟨by rfl, by rfl, by rfl, by decide +kernel, by rfl, by decide +kernel, by decide +kernel⟩
def d_law_bytes : He.DefD := ⟨("_law_bytes", none), "_law_bytes", "_law_bytes", defArgs (topS 34), defBody (topS 34), defScope (topS 34), [], []⟩
def n_law_bytes : List Str := ["s", "value", "found", "rest", "k", "one", "sign"]
theorem c_law_bytes : chkL tb n_law_bytes (defScope (topS 34)) b_law_bytes.body (defBody (topS 34)) = true := by decide +kernel
theorem s_law_bytes : FnScope n_law_bytes ["s", "value"] (defScope (topS 34)) := ⟨by rfl, by rfl, by rfl, by decide +kernel, by rfl, by decide +kernel, by decide +kernel⟩
def d_law_two : He.DefD := ⟨("_law_two", none), "_law_two", "_law_two", defArgs (topS 35), defBody (topS 35), defScope (topS 35), [], []⟩
def n_law_two : List Str := ["pool", "s", "r", "k"]
theorem c_law_two : chkL tb n_law_two (defScope (topS 35)) b_law_two.body (defBody (topS 35)) = true := by decide +kernel
theorem s_law_two : FnScope n_law_two ["pool"] (defScope (topS 35)) := ⟨by rfl, by rfl, by rfl, by decide +kernel, by rfl, by decide +kernel, by decide +kernel⟩
def d_law_refused : He.DefD := ⟨("_law_refused", none), "_law_refused", "_law_refused", defArgs (topS 36), defBody (topS 36), defScope (topS 36), [], []⟩
def n_law_refused : List Str := ["s", "r", "caught", "e"]
theorem c_law_refused : chkL tb n_law_refused (defScope (topS 36)) b_law_refused.body (defBody (topS 36)) = true := by decide +kernel
theorem s_law_refused : FnScope n_law_refused ["s", "r"] (defScope (topS 36)) := ⟨by rfl, by rfl, by rfl, by decide +kernel, by rfl, by decide +kernel, by decide +kernel⟩
def d_law_kept : He.DefD := ⟨("_law_kept", none), "_law_kept", "_law_kept", defArgs (topS 37), defBody (topS 37), defScope (topS 37), [], []⟩
def n_law_kept : List Str := ["thing", "one"]
theorem c_law_kept : chkL tb n_law_kept (defScope (topS 37)) b_law_kept.body (defBody (topS 37)) = true := by decide +kernel
theorem s_law_kept : FnScope n_law_kept ["thing"] (defScope (topS 37)) := ⟨by rfl, by rfl, by rfl, by decide +kernel, by rfl, by decide +kernel, by decide +kernel⟩
def d_law_spoil : He.DefD := ⟨("_law_spoil", none), "_law_spoil", "_law_spoil", defArgs (topS 38), defBody (topS 38), defScope (topS 38), [], []⟩
def n_law_spoil : List Str := ["thing", "one"]
theorem c_law_spoil : chkL tb n_law_spoil (defScope (topS 38)) b_law_spoil.body (defBody (topS 38)) = true := by decide +kernel
theorem s_law_spoil : FnScope n_law_spoil ["thing"] (defScope (topS 38)) := ⟨by rfl, by rfl, by rfl, by decide +kernel, by rfl, by decide +kernel, by decide +kernel⟩
def d_law_right : He.DefD := ⟨("_law_right", none), "_law_right", "_law_right", defArgs (topS 39), defBody (topS 39), defScope (topS 39), [], []⟩
def n_law_right : List Str := ["s", "r", "found", "kept"]
theorem c_law_right : chkL tb n_law_right (defScope (topS 39)) b_law_right.body (defBody (topS 39)) = true := by decide +kernel
theorem s_law_right : FnScope n_law_right ["s", "r"] (defScope (topS 39)) := ⟨by rfl, by rfl, by rfl, by decide +kernel, by rfl, by decide +kernel, by decide +kernel⟩
def d_law_menus : He.DefD := ⟨("_law_menus", none), "_law_menus", "_law_menus", defArgs (topS 40), defBody (topS 40), defScope (topS 40), [], []⟩
def n_law_menus : List Str := ["pool", "s", "shapes", "k", "at"]
theorem c_law_menus : chkL tb n_law_menus (defScope (topS 40)) b_law_menus.body (defBody (topS 40)) = true := by decide +kernel
theorem s_law_menus : FnScope n_law_menus ["pool"] (defScope (topS 40)) := ⟨by rfl, by rfl, by rfl, by decide +kernel, by rfl, by decide +kernel, by decide +kernel⟩
def d_law_lists : He.DefD := ⟨("_law_lists", none), "_law_lists", "_law_lists", defArgs (topS 41), defBody (topS 41), defScope (topS 41), [], []⟩
def n_law_lists : List Str := ["thing", "found", "one"]
theorem c_law_lists : chkL tb n_law_lists (defScope (topS 41)) b_law_lists.body (defBody (topS 41)) = true := by decide +kernel
theorem s_law_lists : FnScope n_law_lists ["thing"] (defScope (topS 41)) := ⟨by rfl, by rfl, by rfl, by decide +kernel, by rfl, by decide +kernel, by decide +kernel⟩
def d_law_apart : He.DefD := ⟨("_law_apart", none), "_law_apart", "_law_apart", defArgs (topS 42), defBody (topS 42), defScope (topS 42), [], []⟩
def n_law_apart : List Str := ["pool", "one", "some", "inner", "many", "s", "rows", "sizes", "row"]
theorem c_law_apart : chkL tb n_law_apart (defScope (topS 42)) b_law_apart.body (defBody (topS 42)) = true := by decide +kernel
theorem s_law_apart : FnScope n_law_apart ["pool"] (defScope (topS 42)) := ⟨by rfl, by rfl, by rfl, by decide +kernel, by rfl, by decide +kernel, by decide +kernel⟩
def d_law_shifted : He.DefD := ⟨("_law_shifted", none), "_law_shifted", "_law_shifted", defArgs (topS 43), defBody (topS 43), defScope (topS 43), [], []⟩
def n_law_shifted : List Str := ["pool", "high", "one", "other"]
theorem c_law_shifted : chkL tb n_law_shifted (defScope (topS 43)) b_law_shifted.body (defBody (topS 43)) = true := by decide +kernel
theorem s_law_shifted : FnScope n_law_shifted ["pool"] (defScope (topS 43)) := ⟨by rfl, by rfl, by rfl, by decide +kernel, by rfl, by decide +kernel, by decide +kernel⟩
def d_law : He.DefD := ⟨("law", none), "law", "law", defArgs (topS 44), defBody (topS 44), defScope (topS 44), [], []⟩
def n_law : List Str := ["script", "k", "pool", "leaf", "s", "r", "one", "other", "menu", "varied"]
theorem c_law : chkL tb n_law (defScope (topS 44)) b_law.body (defBody (topS 44)) = true := by decide +kernel
theorem s_law : FnScope n_law ["script"] (defScope (topS 44)) := ⟨by rfl, by rfl, by rfl, by decide +kernel, by rfl, by decide +kernel, by decide +kernel⟩
def fa : List He.Fa := [.glo "bytes_for", .glo "is_within", .glo "least_value", .glo "outside_list", .glo "outside_pair", .glo "outside_choice", .glo "outside", .glo "other_bytes", .glo "parting", .glo "_law_pool", .glo "_law_take", .glo "_law_leaf", .glo "_law_part", .glo "_law_record", .glo "_law_menu", .glo "_law_shape", .glo "_law_varied_number", .glo "_law_varied_choice", .glo "_law_varied", .glo "_law_places", .glo "_law_within", .glo "_law_signs", .glo "_law_fits", .glo "_law_bytes", .glo "_law_two", .glo "_law_refused", .glo "_law_kept", .glo "_law_spoil", .glo "_law_right", .glo "_law_menus", .glo "_law_lists", .glo "_law_apart", .glo "_law_shifted", .glo "law", .free "all", .free "zip", .free "len", .free "tuple", .free "range", .free "enumerate", .free "min", .free "max", .free "ord", .free "isinstance", .free "bool", .free "int", .free "list", .free "str", .free "ValueError", .exc "NoValue"]
def us : List (PySem.Str × List (Sum Int PySem.Str)) := []
def fns : List He.DefD := [d_bytes_for, d_is_within, d_least_value, d_outside_list, d_outside_pair, d_outside_choice, d_outside, d_other_bytes, d_parting, d_law_pool, d_law_take, d_law_leaf, d_law_part, d_law_record, d_law_menu, d_law_shape, d_law_varied_number, d_law_varied_choice, d_law_varied, d_law_places, d_law_within, d_law_signs, d_law_fits, d_law_bytes, d_law_two, d_law_refused, d_law_kept, d_law_spoil, d_law_right, d_law_menus, d_law_lists, d_law_apart, d_law_shifted, d_law]
set_option maxHeartbeats 0 in
theorem prg {K : PySem.W.Frag} {h : Heap} {mg : Str → Option Value} (X : K.In h) (G : h.Ns mainGlobals mg) (cu : SaysX fa fns us xcs xms K) : Prg K mg tb tab (clOf K xcs) (fun _ => none) := by
  have c := cu.d
  refine ⟨fun f x hx => ?_, fun p hp => ?_, fun x hx => ?_, xt_of X G cu.xs, fun c0 f x h1 h2 => ?_, fun c0 x h1 h2 => ?_, rfl, fun f c1 m hx => ?_, ?_, ?_, fun c0 x h1 h2 => ?_⟩
  · match f, hx with
    | 0, hx =>
      cases hx
      obtain ⟨fd, F⟩ := c.def_ 0 (d := d_bytes_for) rfl
      exact ⟨b_bytes_for, _, fd, n_bytes_for, _, _, _, _, _, _, rfl, He.glo_ok X G (c.fact 0 (f := .glo "bytes_for") rfl), F, FunD.bindsN (ps := ["s"]) F (fun _ _ _ _ _ _ us hl => match us, hl with | [_], _ => rfl), s_bytes_for, rfl, rfl, rfl, c_bytes_for⟩
    | 1, hx =>
      cases hx
      obtain ⟨fd, F⟩ := c.def_ 1 (d := d_is_within) rfl
      exact ⟨b_is_within, _, fd, n_is_within, _, _, _, _, _, _, rfl, He.glo_ok X G (c.fact 1 (f := .glo "is_within") rfl), F, FunD.bindsN (ps := ["s", "r"]) F (fun _ _ _ _ _ _ us hl => match us, hl with | [_, _], _ => rfl), s_is_within, rfl, rfl, rfl, c_is_within⟩
    | 2, hx =>
      cases hx
      obtain ⟨fd, F⟩ := c.def_ 2 (d := d_least_value) rfl
      exact ⟨b_least_value, _, fd, n_least_value, _, _, _, _, _, _, rfl, He.glo_ok X G (c.fact 2 (f := .glo "least_value") rfl), F, FunD.bindsN (ps := ["s"]) F (fun _ _ _ _ _ _ us hl => match us, hl with | [_], _ => rfl), s_least_value, rfl, rfl, rfl, c_least_value⟩
    | 3, hx =>
      cases hx
      obtain ⟨fd, F⟩ := c.def_ 3 (d := d_outside_list) rfl
      exact ⟨b_outside_list, _, fd, n_outside_list, _, _, _, _, _, _, rfl, He.glo_ok X G (c.fact 3 (f := .glo "outside_list") rfl), F, FunD.bindsN (ps := ["s", "r"]) F (fun _ _ _ _ _ _ us hl => match us, hl with | [_, _], _ => rfl), s_outside_list, rfl, rfl, rfl, c_outside_list⟩
    | 4, hx =>
      cases hx
      obtain ⟨fd, F⟩ := c.def_ 4 (d := d_outside_pair) rfl
      exact ⟨b_outside_pair, _, fd, n_outside_pair, _, _, _, _, _, _, rfl, He.glo_ok X G (c.fact 4 (f := .glo "outside_pair") rfl), F, FunD.bindsN (ps := ["s", "r"]) F (fun _ _ _ _ _ _ us hl => match us, hl with | [_, _], _ => rfl), s_outside_pair, rfl, rfl, rfl, c_outside_pair⟩
    | 5, hx =>
      cases hx
      obtain ⟨fd, F⟩ := c.def_ 5 (d := d_outside_choice) rfl
      exact ⟨b_outside_choice, _, fd, n_outside_choice, _, _, _, _, _, _, rfl, He.glo_ok X G (c.fact 5 (f := .glo "outside_choice") rfl), F, FunD.bindsN (ps := ["s", "r"]) F (fun _ _ _ _ _ _ us hl => match us, hl with | [_, _], _ => rfl), s_outside_choice, rfl, rfl, rfl, c_outside_choice⟩
    | 6, hx =>
      cases hx
      obtain ⟨fd, F⟩ := c.def_ 6 (d := d_outside) rfl
      exact ⟨b_outside, _, fd, n_outside, _, _, _, _, _, _, rfl, He.glo_ok X G (c.fact 6 (f := .glo "outside") rfl), F, FunD.bindsN (ps := ["s", "r"]) F (fun _ _ _ _ _ _ us hl => match us, hl with | [_, _], _ => rfl), s_outside, rfl, rfl, rfl, c_outside⟩
    | 7, hx =>
      cases hx
      obtain ⟨fd, F⟩ := c.def_ 7 (d := d_other_bytes) rfl
      exact ⟨b_other_bytes, _, fd, n_other_bytes, _, _, _, _, _, _, rfl, He.glo_ok X G (c.fact 7 (f := .glo "other_bytes") rfl), F, FunD.bindsN (ps := ["s", "r"]) F (fun _ _ _ _ _ _ us hl => match us, hl with | [_, _], _ => rfl), s_other_bytes, rfl, rfl, rfl, c_other_bytes⟩
    | 8, hx =>
      cases hx
      obtain ⟨fd, F⟩ := c.def_ 8 (d := d_parting) rfl
      exact ⟨b_parting, _, fd, n_parting, _, _, _, _, _, _, rfl, He.glo_ok X G (c.fact 8 (f := .glo "parting") rfl), F, FunD.bindsN (ps := ["s", "r"]) F (fun _ _ _ _ _ _ us hl => match us, hl with | [_, _], _ => rfl), s_parting, rfl, rfl, rfl, c_parting⟩
    | 9, hx =>
      cases hx
      obtain ⟨fd, F⟩ := c.def_ 9 (d := d_law_pool) rfl
      exact ⟨b_law_pool, _, fd, n_law_pool, _, _, _, _, _, _, rfl, He.glo_ok X G (c.fact 9 (f := .glo "_law_pool") rfl), F, FunD.bindsN (ps := ["script", "k"]) F (fun _ _ _ _ _ _ us hl => match us, hl with | [_, _], _ => rfl), s_law_pool, rfl, rfl, rfl, c_law_pool⟩
    | 10, hx =>
      cases hx
      obtain ⟨fd, F⟩ := c.def_ 10 (d := d_law_take) rfl
      exact ⟨b_law_take, _, fd, n_law_take, _, _, _, _, _, _, rfl, He.glo_ok X G (c.fact 10 (f := .glo "_law_take") rfl), F, FunD.bindsN (ps := ["pool", "many"]) F (fun _ _ _ _ _ _ us hl => match us, hl with | [_, _], _ => rfl), s_law_take, rfl, rfl, rfl, c_law_take⟩
    | 11, hx =>
      cases hx
      obtain ⟨fd, F⟩ := c.def_ 11 (d := d_law_leaf) rfl
      exact ⟨b_law_leaf, _, fd, n_law_leaf, _, _, _, _, _, _, rfl, He.glo_ok X G (c.fact 11 (f := .glo "_law_leaf") rfl), F, FunD.bindsN (ps := ["pool"]) F (fun _ _ _ _ _ _ us hl => match us, hl with | [_], _ => rfl), s_law_leaf, rfl, rfl, rfl, c_law_leaf⟩
    | 12, hx =>
      cases hx
      obtain ⟨fd, F⟩ := c.def_ 12 (d := d_law_part) rfl
      exact ⟨b_law_part, _, fd, n_law_part, _, _, _, _, _, _, rfl, He.glo_ok X G (c.fact 12 (f := .glo "_law_part") rfl), F, FunD.bindsN (ps := ["pool", "deep"]) F (fun _ _ _ _ _ _ us hl => match us, hl with | [_, _], _ => rfl), s_law_part, rfl, rfl, rfl, c_law_part⟩
    | 13, hx =>
      cases hx
      obtain ⟨fd, F⟩ := c.def_ 13 (d := d_law_record) rfl
      exact ⟨b_law_record, _, fd, n_law_record, _, _, _, _, _, _, rfl, He.glo_ok X G (c.fact 13 (f := .glo "_law_record") rfl), F, FunD.bindsN (ps := ["pool"]) F (fun _ _ _ _ _ _ us hl => match us, hl with | [_], _ => rfl), s_law_record, rfl, rfl, rfl, c_law_record⟩
    | 14, hx =>
      cases hx
      obtain ⟨fd, F⟩ := c.def_ 14 (d := d_law_menu) rfl
      exact ⟨b_law_menu, _, fd, n_law_menu, _, _, _, _, _, _, rfl, He.glo_ok X G (c.fact 14 (f := .glo "_law_menu") rfl), F, FunD.bindsN (ps := ["pool"]) F (fun _ _ _ _ _ _ us hl => match us, hl with | [_], _ => rfl), s_law_menu, rfl, rfl, rfl, c_law_menu⟩
    | 15, hx =>
      cases hx
      obtain ⟨fd, F⟩ := c.def_ 15 (d := d_law_shape) rfl
      exact ⟨b_law_shape, _, fd, n_law_shape, _, _, _, _, _, _, rfl, He.glo_ok X G (c.fact 15 (f := .glo "_law_shape") rfl), F, FunD.bindsN (ps := ["pool"]) F (fun _ _ _ _ _ _ us hl => match us, hl with | [_], _ => rfl), s_law_shape, rfl, rfl, rfl, c_law_shape⟩
    | 16, hx =>
      cases hx
      obtain ⟨fd, F⟩ := c.def_ 16 (d := d_law_varied_number) rfl
      exact ⟨b_law_varied_number, _, fd, n_law_varied_number, _, _, _, _, _, _, rfl, He.glo_ok X G (c.fact 16 (f := .glo "_law_varied_number") rfl), F, FunD.bindsN (ps := ["pool", "low", "high"]) F (fun _ _ _ _ _ _ us hl => match us, hl with | [_, _, _], _ => rfl), s_law_varied_number, rfl, rfl, rfl, c_law_varied_number⟩
    | 17, hx =>
      cases hx
      obtain ⟨fd, F⟩ := c.def_ 17 (d := d_law_varied_choice) rfl
      exact ⟨b_law_varied_choice, _, fd, n_law_varied_choice, _, _, _, _, _, _, rfl, He.glo_ok X G (c.fact 17 (f := .glo "_law_varied_choice") rfl), F, FunD.bindsN (ps := ["pool", "shapes"]) F (fun _ _ _ _ _ _ us hl => match us, hl with | [_, _], _ => rfl), s_law_varied_choice, rfl, rfl, rfl, c_law_varied_choice⟩
    | 18, hx =>
      cases hx
      obtain ⟨fd, F⟩ := c.def_ 18 (d := d_law_varied) rfl
      exact ⟨b_law_varied, _, fd, n_law_varied, _, _, _, _, _, _, rfl, He.glo_ok X G (c.fact 18 (f := .glo "_law_varied") rfl), F, FunD.bindsN (ps := ["pool", "s"]) F (fun _ _ _ _ _ _ us hl => match us, hl with | [_, _], _ => rfl), s_law_varied, rfl, rfl, rfl, c_law_varied⟩
    | 19, hx =>
      cases hx
      obtain ⟨fd, F⟩ := c.def_ 19 (d := d_law_places) rfl
      exact ⟨b_law_places, _, fd, n_law_places, _, _, _, _, _, _, rfl, He.glo_ok X G (c.fact 19 (f := .glo "_law_places") rfl), F, FunD.bindsN (ps := ["low", "high"]) F (fun _ _ _ _ _ _ us hl => match us, hl with | [_, _], _ => rfl), s_law_places, rfl, rfl, rfl, c_law_places⟩
    | 20, hx =>
      cases hx
      obtain ⟨fd, F⟩ := c.def_ 20 (d := d_law_within) rfl
      exact ⟨b_law_within, _, fd, n_law_within, _, _, _, _, _, _, rfl, He.glo_ok X G (c.fact 20 (f := .glo "_law_within") rfl), F, FunD.bindsN (ps := ["s", "r"]) F (fun _ _ _ _ _ _ us hl => match us, hl with | [_, _], _ => rfl), s_law_within, rfl, rfl, rfl, c_law_within⟩
    | 21, hx =>
      cases hx
      obtain ⟨fd, F⟩ := c.def_ 21 (d := d_law_signs) rfl
      exact ⟨b_law_signs, _, fd, n_law_signs, _, _, _, _, _, _, rfl, He.glo_ok X G (c.fact 21 (f := .glo "_law_signs") rfl), F, FunD.bindsN (ps := ["text"]) F (fun _ _ _ _ _ _ us hl => match us, hl with | [_], _ => rfl), s_law_signs, rfl, rfl, rfl, c_law_signs⟩
    | 22, hx =>
      cases hx
      obtain ⟨fd, F⟩ := c.def_ 22 (d := d_law_fits) rfl
      exact ⟨b_law_fits, _, fd, n_law_fits, _, _, _, _, _, _, rfl, He.glo_ok X G (c.fact 22 (f := .glo "_law_fits") rfl), F, FunD.bindsN (ps := ["s", "thing"]) F (fun _ _ _ _ _ _ us hl => match us, hl with | [_, _], _ => rfl), s_law_fits, rfl, rfl, rfl, c_law_fits⟩
    | 23, hx =>
      cases hx
      obtain ⟨fd, F⟩ := c.def_ 23 (d := d_law_bytes) rfl
      exact ⟨b_law_bytes, _, fd, n_law_bytes, _, _, _, _, _, _, rfl, He.glo_ok X G (c.fact 23 (f := .glo "_law_bytes") rfl), F, FunD.bindsN (ps := ["s", "value"]) F (fun _ _ _ _ _ _ us hl => match us, hl with | [_, _], _ => rfl), s_law_bytes, rfl, rfl, rfl, c_law_bytes⟩
    | 24, hx =>
      cases hx
      obtain ⟨fd, F⟩ := c.def_ 24 (d := d_law_two) rfl
      exact ⟨b_law_two, _, fd, n_law_two, _, _, _, _, _, _, rfl, He.glo_ok X G (c.fact 24 (f := .glo "_law_two") rfl), F, FunD.bindsN (ps := ["pool"]) F (fun _ _ _ _ _ _ us hl => match us, hl with | [_], _ => rfl), s_law_two, rfl, rfl, rfl, c_law_two⟩
    | 25, hx =>
      cases hx
      obtain ⟨fd, F⟩ := c.def_ 25 (d := d_law_refused) rfl
      exact ⟨b_law_refused, _, fd, n_law_refused, _, _, _, _, _, _, rfl, He.glo_ok X G (c.fact 25 (f := .glo "_law_refused") rfl), F, FunD.bindsN (ps := ["s", "r"]) F (fun _ _ _ _ _ _ us hl => match us, hl with | [_, _], _ => rfl), s_law_refused, rfl, rfl, rfl, c_law_refused⟩
    | 26, hx =>
      cases hx
      obtain ⟨fd, F⟩ := c.def_ 26 (d := d_law_kept) rfl
      exact ⟨b_law_kept, _, fd, n_law_kept, _, _, _, _, _, _, rfl, He.glo_ok X G (c.fact 26 (f := .glo "_law_kept") rfl), F, FunD.bindsN (ps := ["thing"]) F (fun _ _ _ _ _ _ us hl => match us, hl with | [_], _ => rfl), s_law_kept, rfl, rfl, rfl, c_law_kept⟩
    | 27, hx =>
      cases hx
      obtain ⟨fd, F⟩ := c.def_ 27 (d := d_law_spoil) rfl
      exact ⟨b_law_spoil, _, fd, n_law_spoil, _, _, _, _, _, _, rfl, He.glo_ok X G (c.fact 27 (f := .glo "_law_spoil") rfl), F, FunD.bindsN (ps := ["thing"]) F (fun _ _ _ _ _ _ us hl => match us, hl with | [_], _ => rfl), s_law_spoil, rfl, rfl, rfl, c_law_spoil⟩
    | 28, hx =>
      cases hx
      obtain ⟨fd, F⟩ := c.def_ 28 (d := d_law_right) rfl
      exact ⟨b_law_right, _, fd, n_law_right, _, _, _, _, _, _, rfl, He.glo_ok X G (c.fact 28 (f := .glo "_law_right") rfl), F, FunD.bindsN (ps := ["s", "r"]) F (fun _ _ _ _ _ _ us hl => match us, hl with | [_, _], _ => rfl), s_law_right, rfl, rfl, rfl, c_law_right⟩
    | 29, hx =>
      cases hx
      obtain ⟨fd, F⟩ := c.def_ 29 (d := d_law_menus) rfl
      exact ⟨b_law_menus, _, fd, n_law_menus, _, _, _, _, _, _, rfl, He.glo_ok X G (c.fact 29 (f := .glo "_law_menus") rfl), F, FunD.bindsN (ps := ["pool"]) F (fun _ _ _ _ _ _ us hl => match us, hl with | [_], _ => rfl), s_law_menus, rfl, rfl, rfl, c_law_menus⟩
    | 30, hx =>
      cases hx
      obtain ⟨fd, F⟩ := c.def_ 30 (d := d_law_lists) rfl
      exact ⟨b_law_lists, _, fd, n_law_lists, _, _, _, _, _, _, rfl, He.glo_ok X G (c.fact 30 (f := .glo "_law_lists") rfl), F, FunD.bindsN (ps := ["thing"]) F (fun _ _ _ _ _ _ us hl => match us, hl with | [_], _ => rfl), s_law_lists, rfl, rfl, rfl, c_law_lists⟩
    | 31, hx =>
      cases hx
      obtain ⟨fd, F⟩ := c.def_ 31 (d := d_law_apart) rfl
      exact ⟨b_law_apart, _, fd, n_law_apart, _, _, _, _, _, _, rfl, He.glo_ok X G (c.fact 31 (f := .glo "_law_apart") rfl), F, FunD.bindsN (ps := ["pool"]) F (fun _ _ _ _ _ _ us hl => match us, hl with | [_], _ => rfl), s_law_apart, rfl, rfl, rfl, c_law_apart⟩
    | 32, hx =>
      cases hx
      obtain ⟨fd, F⟩ := c.def_ 32 (d := d_law_shifted) rfl
      exact ⟨b_law_shifted, _, fd, n_law_shifted, _, _, _, _, _, _, rfl, He.glo_ok X G (c.fact 32 (f := .glo "_law_shifted") rfl), F, FunD.bindsN (ps := ["pool"]) F (fun _ _ _ _ _ _ us hl => match us, hl with | [_], _ => rfl), s_law_shifted, rfl, rfl, rfl, c_law_shifted⟩
    | 33, hx =>
      cases hx
      obtain ⟨fd, F⟩ := c.def_ 33 (d := d_law) rfl
      exact ⟨b_law, _, fd, n_law, _, _, _, _, _, _, rfl, He.glo_ok X G (c.fact 33 (f := .glo "law") rfl), F, FunD.bindsN (ps := ["script"]) F (fun _ _ _ _ _ _ us hl => match us, hl with | [_], _ => rfl), s_law, rfl, rfl, rfl, c_law⟩
    | n + 34, hx => cases hx
  · simp only [tb, List.mem_cons, List.not_mem_nil, or_false] at hp
  · simp only [tb, List.mem_cons, List.not_mem_nil, or_false] at hx
    rcases hx with rfl | rfl | rfl | rfl | rfl | rfl | rfl | rfl | rfl | rfl | rfl | rfl | rfl | rfl | rfl
    · exact He.free_ok X G (c.fact 34 (f := .free "all") rfl)
    · exact He.free_ok X G (c.fact 35 (f := .free "zip") rfl)
    · exact He.free_ok X G (c.fact 36 (f := .free "len") rfl)
    · exact He.free_ok X G (c.fact 37 (f := .free "tuple") rfl)
    · exact He.free_ok X G (c.fact 38 (f := .free "range") rfl)
    · exact He.free_ok X G (c.fact 39 (f := .free "enumerate") rfl)
    · exact He.free_ok X G (c.fact 40 (f := .free "min") rfl)
    · exact He.free_ok X G (c.fact 41 (f := .free "max") rfl)
    · exact He.free_ok X G (c.fact 42 (f := .free "ord") rfl)
    · exact He.free_ok X G (c.fact 43 (f := .free "isinstance") rfl)
    · exact He.free_ok X G (c.fact 44 (f := .free "bool") rfl)
    · exact He.free_ok X G (c.fact 45 (f := .free "int") rfl)
    · exact He.free_ok X G (c.fact 46 (f := .free "list") rfl)
    · exact He.free_ok X G (c.fact 47 (f := .free "str") rfl)
    · exact He.free_ok X G (c.fact 48 (f := .free "ValueError") rfl)
  · cases h1
  · simp only [tb, xcs, List.mem_cons, List.not_mem_nil, or_false, Prod.mk.injEq] at h1 h2
    rcases h1 with rfl
    · rcases h2 with ⟨e, rfl⟩ | ⟨e, rfl⟩ | ⟨e, rfl⟩ | ⟨e, rfl⟩ | ⟨e, rfl⟩ | ⟨e, rfl⟩ | ⟨e, rfl⟩ | ⟨e, rfl⟩
      · obtain ⟨q1, q2, q3, q4⟩ := He.exc_ok (c.fact 49 (f := .exc "NoValue") rfl)
        obtain ⟨C, m1, m2⟩ := (xt_of X G cu.xs).nm (2, "NoValue") (by decide)
        have m3 : some (He.ga K "NoValue") = some C := m2
        cases m3
        exact ⟨_, m2, m1, q2, q1, q3, q4⟩
      · exact absurd e (by decide)
      · exact absurd e (by decide)
      · exact absurd e (by decide)
      · exact absurd e (by decide)
      · exact absurd e (by decide)
      · exact absurd e (by decide)
      · exact absurd e (by decide)
  · cases hx
  · exact fun c C h => (by cases h)
  · exact fun c x h => (by cases h)
  · cases h1
def nm0 : List PySem.Str := ["ParleyError", "NoValue", "Short", "Broken", "NoTalk", "NoName", "NoText", "NoRow", "bytes_for", "is_within", "least_value", "outside_list", "outside_pair", "outside_choice", "outside", "other_bytes", "parting", "_law_pool", "_law_take", "_law_leaf", "_law_part", "_law_record", "_law_menu", "_law_shape", "_law_varied_number", "_law_varied_choice", "_law_varied", "_law_places", "_law_within", "_law_signs"]
def nm1 : List PySem.Str := ["_law_fits", "_law_bytes", "_law_two", "_law_refused", "_law_kept", "_law_spoil", "_law_right", "_law_menus", "_law_lists", "_law_apart", "_law_shifted"]
def loose : List PySem.Str := nm0 ++ nm1
abbrev Rr : PySem.W.OpenRow := PySem.W.OpenLaw.row PySem.Challenge.rw_wireparley_k51_parting_values
abbrev hk : PySem.W.Hook := hookX 4 fa fns us xcs xms
def ob (s : PySem.W.SharedT) : AlU := obsXG 4 fa fns us xcs xms (HandSHeadRun.getT s)
theorem ob_eq (s : PySem.W.SharedT) : ob s = hk.obs s.abs := obsXG_eq (HandSHeadRun.getT_eq s)
theorem hrun (w : World) : HandSHeadRun.RunEq Rr (PySem.W.view Rr.prog [44]) hk ob 6000 loose w := by
  intro os
  kernel_rfl
end Wp
open PySem PySem.W PySem.Calls PyProof.Rows
set_option maxRecDepth 100000 in
set_option maxHeartbeats 0 in
theorem PySem.Challenge.cw_wireparley_k51_parting_values_holds : PySem.Challenge.rw_wireparley_k51_parting_values.Holds := by
  w_on; o_law
  refine HandSHeadRun.head_any (r := OpenLaw.row PySem.Challenge.rw_wireparley_k51_parting_values) (q := view (OpenLaw.row PySem.Challenge.rw_wireparley_k51_parting_values).prog [44]) (H := Wp.hk) (ob := Wp.ob) (M := 6000) (loose := Wp.loose) (d := HandSHeadRun.topDef (OpenLaw.row PySem.Challenge.rw_wireparley_k51_parting_values).prog 44) (kwd := []) Wp.ob_eq
    (by kernel_rfl) (fun s => by kernel_rfl) Wp.hrun (by kernel_rfl) (by kernel_rfl) (by kernel_rfl) (by rfl) (by first | assumption | decide +kernel) (by decide +kernel) ⟨rfl, rfl, rfl, rfl, rfl, by decide +kernel⟩ ?hw ?hc
  case hw => w_witness2
  case hc =>
    refine Wp.walk_ofW (l := PySem.Challenge.rw_wireparley_k51_parting_values) (n := 63) (k := 2 * (Wp.lawK + 1) + 2) (x := "script") (CXw := L2.CX (PySem.Challenge.rw_wireparley_k51_parting_values).prog) rfl (by decide) (by kernel_rfl) ⟨rfl, by decide, by decide⟩ ?F ?X
    case X =>
      intro w H s e s' h
      obtain ⟨_, _, _, _, _, _, _, _, _, _, _, _, z⟩ := h
      exact z
    case F =>
      intro w mg fa h Y G hmg0
      obtain ⟨K, KX, cu⟩ := Y
      have c := cu.d
      have hmg : mg ("law" : PySem.Str) = some (.ref fa) := by
        have e : (HandSHeadRun.topDef (OpenLaw.row PySem.Challenge.rw_wireparley_k51_parting_values).prog 44).name = ("law" : PySem.Str) := by kernel_rfl
        rw [← e]
        exact hmg0
      obtain ⟨fd, F⟩ := c.def_ 33 (d := Wp.d_law) rfl
      have e := hmg.symm.trans (He.glo_ok KX G (c.fact 33 (f := .glo "law") rfl))
      cases e
      exact Wp.law_end (f := Wp.f_law) (N := Wp.n_law) (Wp.prg KX G cu) KX rfl F (L2.FunD.bindsA (ps := ["script"]) F fun _ _ _ _ _ _ us hl => match us, hl with | [_], _ => rfl) Wp.s_law rfl rfl rfl Wp.c_law (fun ns h _ => Wp.law_holds ns h)
