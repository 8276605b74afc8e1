import PyProof.Rows.All
import Wide.All
import OpenK.AllK
import Wide.FinOn
import HandS.ForMost
import HandS.ForExc
import HandS.IsInst
import HandS.Deep
import HandS.Comp
import HandS.TupAny
import HandS.Style
import HandS.SortInts
import HandS.SetFor
import HandS.Flow
import HandS.Conv
import HandS.Exc
import HandS.Iter
import HandS.Defaults
import HandS.EndBits
import KE.KStateDown
import HandS.Head0
import HandS.Head1
import HandS.Head2
import HandS.HeadHook1
import HandS.HeadHook2
import HandS.HeadHook3
import HandS.HeadHook4
import KE.KIntText
import PyProof.ReprLen
import PySem.Challenge.RW_waitedmeets_k62_words_kept_by_notes
set_option Elab.async false
set_option linter.all false
section
set_option linter.all false
namespace Cor
open PySem L2
/-- types that are named -/
inductive Ty where
  | int | bool | str | tuple | list | dict
  deriving DecidableEq, Inhabited
def Ty.nm : Ty → String
  | .int => "int"
  | .bool => "bool"
  | .str => "str"
  | .tuple => "tuple"
  | .list => "list"
  | .dict => "dict"
/-- a value: a tree; what may change stands in the store, by its number -/
inductive D where
  | non | bl (b : Bool) | int (i : Int) | str (x : Str) | tup (ds : List D) | ref (n : Nat) | ty (n : Ty) | glob (x : Str)
  deriving Inhabited
mutual
def D.beq : D → D → Bool
  | .non, .non => true
  | .bl a, .bl b => a == b
  | .int a, .int b => a == b
  | .str a, .str b => a == b
  | .tup a, .tup b => D.beqs a b
  | .ref a, .ref b => a == b
  | .ty a, .ty b => decide (a = b)
  | .glob a, .glob b => a == b
  | _, _ => false
def D.beqs : List D → List D → Bool
  | [], [] => true
  | a :: as, b :: bs => D.beq a b && D.beqs as bs
  | _, _ => false
end
mutual
theorem D.beq_iff : ∀ a b : D, D.beq a b = true ↔ a = b
  | .non, b => by cases b <;> simp [D.beq]
  | .bl a, b => by cases b <;> simp [D.beq]
  | .int a, b => by cases b <;> simp [D.beq]
  | .str a, b => by cases b <;> simp [D.beq]
  | .tup a, b => by cases b <;> simp [D.beq, D.beqs_iff a]
  | .ref a, b => by cases b <;> simp [D.beq]
  | .ty a, b => by cases b <;> simp [D.beq]
  | .glob a, b => by cases b <;> simp [D.beq]
theorem D.beqs_iff : ∀ a b : List D, D.beqs a b = true ↔ a = b
  | [], b => by cases b <;> simp [D.beqs]
  | x :: xs, b => by cases b <;> simp [D.beqs, D.beq_iff x, D.beqs_iff xs]
end
instance : DecidableEq D := fun a b => if h : D.beq a b = true then .isTrue ((D.beq_iff a b).mp h) else .isFalse fun e => h ((D.beq_iff a b).mpr e)
/-- texts compared sign by sign -/
def natsB : List Nat → List Nat → Bool
  | [], [] => true
  | a :: as, b :: bs => Nat.beq a b && natsB as bs
  | _, _ => false
theorem natsB_iff : ∀ {as bs : List Nat}, natsB as bs = true ↔ as = bs
  | [], [] => by simp [natsB]
  | [], _ :: _ => by simp [natsB]
  | _ :: _, [] => by simp [natsB]
  | a :: as, b :: bs => by
    have e : (Nat.beq a b = true) ↔ a = b := ⟨Nat.eq_of_beq_eq_true, fun h => by rw [h]; exact Nat.beq_refl b⟩
    simp only [natsB, Bool.and_eq_true, natsB_iff, e, List.cons.injEq]
def strB (x y : Str) : Bool := natsB x.cps.toList y.cps.toList
theorem strB_eq (x y : Str) : strB x y = (x == y) := by
  rw [Bool.eq_iff_iff, beq_iff_eq]
  unfold strB
  rw [natsB_iff]
  exact ⟨fun h => by cases x; cases y; simp only [Str.mk.injEq]; exact Array.toList_inj.mp h, fun h => by rw [h]⟩
/-- an object of the store: a list, a list that is only read (the script), a dict by ints and texts, an instance of an own class -/
inductive Ob where
  | lst (ds : List D)
  | frz (ds : List D)
  | dK (kvs : List (Key × D))
  | ins (c : Str) (fs : List (Str × D))
  | hid
  deriving DecidableEq
abbrev Sto := List Ob
abbrev DEnv := List (Option D)
inductive R (α : Type) where
  | ok (a : α) (S : Sto)
  | ex (c : Str) (fs : List (Str × D)) (S : Sto)
  | no
def R.bind {α β : Type} (r : R α) (f : α → Sto → R β) : R β :=
  match r with
  | .ok a S => f a S
  | .ex c fs S => .ex c fs S
  | .no => .no
inductive RS where
  | nx (env : DEnv) (S : Sto)
  | rt (d : D) (S : Sto)
  | bk (env : DEnv) (S : Sto)
  | ct (env : DEnv) (S : Sto)
  | ex (c : Str) (fs : List (Str × D)) (env : DEnv) (S : Sto)
  | no
/-- a definite answer or none -/
def ofO {α : Type} (S : Sto) : Option α → R α
  | some a => .ok a S
  | none => .no
def okey : Key → PyData
  | .inl i => .int i
  | .inr x => .str x
def optAll {α β : Type} (f : α → Option β) : List α → Option (List β)
  | [] => some []
  | a :: as => match f a with
    | some b => match optAll f as with
      | some bs => some (b :: bs)
      | none => none
    | none => none
def snap (S : Sto) : Nat → D → Option PyData
  | 0, _ => none
  | n + 1, d => match d with
    | .non => some .none
    | .bl b => some (.bool b)
    | .int i => some (.int i)
    | .str x => some (.str x)
    | .tup ds => match optAll (snap S n) ds with
      | some ps => some (.tuple ps)
      | none => none
    | .ref k => match S[k]? with
      | some (.lst ds) => match optAll (snap S n) ds with
        | some ps => some (.list ps)
        | none => none
      | some (.dK kvs) => match optAll (fun p => snap S n p.2) kvs with
        | some ps => some (.dict ((kvs.map fun p => okey p.1).zip ps))
        | none => none
      | _ => none
    | _ => none
/-- how deep data is looked at -/
def deep : Nat := 24
def snapD (S : Sto) (d : D) : Option PyData := snap S deep d
open PySem.SeqAt in
def eqD (S : Sto) (a b : D) : Option Bool :=
  match a, b with
  | .str x, .str y => some (strB x y)
  | .int x, .int y => some (x == y)
  | .bl x, .bl y => some (x == y)
  | _, _ => match snapD S a with
    | some p => match snapD S b with
      | some q => if shaped p = true ∧ shaped q = true then some (PyData.eqv p q) else none
      | none => none
    | none => none
def truthy (S : Sto) : D → Option Bool
  | .non => some false
  | .bl b => some b
  | .int i => some (i != 0)
  | .str x => if x.length ≤ sizeLine then some ((x.length : Int) != 0) else none
  | .tup ds => some (!ds.isEmpty)
  | .ref k => match S[k]? with
    | some (.lst ds) => some (!ds.isEmpty)
    | some (.frz ds) => some (!ds.isEmpty)
    | some (.dK kvs) => some (!kvs.isEmpty)
    | _ => none
  | _ => none
/-- a new object -/
def newO (o : Ob) (S : Sto) : R D := .ok (.ref S.length) (S ++ [o])
def newL (ds : List D) (S : Sto) : R D := if ds.length ≤ sizeLine then newO (.lst ds) S else .no
def mkTup (ds : List D) (S : Sto) : R D := if ds.length ≤ sizeLine then .ok (.tup ds) S else .no
/-- the items of a list or tuple -/
def seqD (S : Sto) : D → Option (List D)
  | .tup ds => some ds
  | .ref k => match S[k]? with
    | some (.lst ds) => some ds
    | some (.frz ds) => some ds
    | _ => none
  | _ => none
def lstD (S : Sto) : D → Option (List D)
  | .ref k => match S[k]? with
    | some (.lst ds) => some ds
    | some (.frz ds) => some ds
    | _ => none
  | _ => none
/-- the items of a list that may be changed -/
def lstM (S : Sto) : D → Option (List D)
  | .ref k => match S[k]? with
    | some (.lst ds) => some ds
    | _ => none
  | _ => none
def smallI (i : Int) : Prop := Nat.ble i.natAbs 18446744073709551615 = true
instance (i : Int) : Decidable (smallI i) := inferInstanceAs (Decidable (_ = _))
theorem smallI_iff {i : Int} : smallI i ↔ -(2 ^ 64) < i ∧ i < 2 ^ 64 := by
  unfold smallI
  rw [Nat.ble_eq]
  omega
/-- no more than a million, either way -/
def small6 (i : Int) : Prop := Nat.ble i.natAbs 1000000 = true
instance (i : Int) : Decidable (small6 i) := inferInstanceAs (Decidable (_ = _))
theorem small6_iff {i : Int} : small6 i ↔ -1000000 ≤ i ∧ i ≤ 1000000 := by
  unfold small6
  rw [Nat.ble_eq]
  omega
def small9 (i : Int) : Prop := Nat.ble i.natAbs 1073741823 = true
instance (i : Int) : Decidable (small9 i) := inferInstanceAs (Decidable (_ = _))
theorem small9_iff {i : Int} : small9 i ↔ -1073741824 < i ∧ i < 1073741824 := by
  unfold small9
  rw [Nat.ble_eq]
  omega
def binI (op : Operator) (i j : Int) (S : Sto) : R D :=
  match op with
  | .Add => .ok (.int (i + j)) S
  | .Sub => .ok (.int (i - j)) S
  | .Mult => if smallI i ∨ smallI j then .ok (.int (i * j)) S else .no
  | .FloorDiv => if 0 < j ∧ small9 j then .ok (.int (i / j)) S else .no
  | .Mod => if 0 < j then .ok (.int (i % j)) S else .no
  | .Pow => if 0 ≤ j ∧ j ≤ 1000000 ∧ i.natAbs < 2 ^ 64 then .ok (.int (i ^ j.toNat)) S else .no
  | _ => .no
def binD (op : Operator) (a b : D) (S : Sto) : R D :=
  match a, b with
  | .int i, .int j => binI op i j S
  | .str x, .str y => match op with
    | .Add => if x.length + y.length ≤ sizeLine then .ok (.str (x ++ y)) S else .no
    | _ => .no
  | .tup xs, .tup ys => match op with
    | .Add => mkTup (xs ++ ys) S
    | _ => .no
  | .ref _, .ref _ => match op with
    | .Add => match lstM S a with
      | some xs => match lstM S b with
        | some ys => newL (xs ++ ys) S
        | none => .no
      | none => .no
    | _ => .no
  | .ref _, .int k => match op with
    | .Mult => match lstM S a with
      | some xs => if small6 k ∧ xs.length * k.toNat ≤ sizeLine then newL (List.replicate k.toNat xs).flatten S else .no
      | none => .no
    | _ => .no
  | _, _ => .no
def isNone : D → Bool
  | .non => true
  | _ => false
def inStr (x y : Str) : Bool := !(Builtin.Str.occurrences y x 0 y.length 1).isEmpty
open PySem.SeqAt in
def inD (S : Sto) (a b : D) : Option Bool :=
  match a, b with
  | .str x, .str y => some (inStr x y)
  | _, .str _ => none
  | _, .ref k => match S[k]? with
    | some (.lst _) => match snapD S a with
      | some p => match snapD S b with
        | some (.list qs) => if shaped p = true ∧ shaped (.list qs) = true then some (qs.any fun y => PyData.eqv y p) else none
        | _ => none
      | none => none
    | _ => none
  | _, .tup _ => match snapD S a with
    | some p => match snapD S b with
      | some (.tuple qs) => if shaped p = true ∧ shaped (.tuple qs) = true then some (qs.any fun y => PyData.eqv y p) else none
      | _ => none
    | none => none
  | _, _ => none
def cmpO (op : CmpOp) (a b : D) (S : Sto) : Option Bool :=
  match op with
  | .Eq => eqD S a b
  | .NotEq => match eqD S a b with
    | some c => some (!c)
    | none => none
  | .Lt => match a, b with
    | .int i, .int j => some (decide (i < j))
    | _, _ => none
  | .LtE => match a, b with
    | .int i, .int j => some (decide (i ≤ j))
    | _, _ => none
  | .Gt => match a, b with
    | .int i, .int j => some (decide (j < i))
    | _, _ => none
  | .GtE => match a, b with
    | .int i, .int j => some (decide (j ≤ i))
    | _, _ => none
  | .Is => match b with
    | .non => some (isNone a)
    | .bl y => match a with
      | .bl x => some (decide (x = y))
      | _ => none
    | _ => none
  | .IsNot => match b with
    | .non => some (!isNone a)
    | .bl y => match a with
      | .bl x => some (!decide (x = y))
      | _ => none
    | _ => none
  | .In => inD S a b
  | .NotIn => match inD S a b with
    | some c => some (!c)
    | none => none
def cmpD (op : CmpOp) (a b : D) (S : Sto) : R D :=
  match cmpO op a b S with
  | some c => .ok (.bl c) S
  | none => .no
end Cor
end
section
set_option linter.all false
namespace Cor
open PySem L2
def cutL {α : Type} (xs : List α) (lo hi : Option Int) : List α := (xs.drop (HT.sIx xs.length 0 lo)).take (HT.sIx xs.length xs.length hi - HT.sIx xs.length 0 lo)
def ixD (S : Sto) (a i : D) : Option D :=
  match i with
  | .int k => match a with
    | .tup ds => atI ds k
    | .str z => if z.length ≤ sizeLine then match atI z.cps.toList k with
        | some c => some (.str ⟨#[c]⟩)
        | none => none
      else none
    | .ref n => match S[n]? with
      | some (.lst ds) => atI ds k
      | some (.frz ds) => atI ds k
      | _ => none
    | _ => none
  | _ => none
def cutD (a : D) (lo hi : Option Int) (S : Sto) : R D :=
  match a with
  | .tup ds => .ok (.tup (cutL ds lo hi)) S
  | .ref n => match S[n]? with
    | some (.lst ds) => newO (.lst (cutL ds lo hi)) S
    | some (.frz ds) => newO (.lst (cutL ds lo hi)) S
    | _ => .no
  | _ => .no
/-- kinds of values -/
inductive Kd where
  | non | bl | int | str | tup | lst | dic
def Kd.nm : Kd → String
  | .non => "NoneType"
  | .bl => "bool"
  | .int => "int"
  | .str => "str"
  | .tup => "tuple"
  | .lst => "list"
  | .dic => "dict"
def kdOf (S : Sto) : D → Option Kd
  | .non => some .non
  | .bl _ => some .bl
  | .int _ => some .int
  | .str _ => some .str
  | .tup _ => some .tup
  | .ref n => match S[n]? with
    | some (.lst _) => some .lst
    | some (.frz _) => some .lst
    | some (.dK _) => some .dic
    | _ => none
  | _ => none
def kitF : Kd → Ty → Bool
  | .bl, .bool => true
  | .bl, .int => true
  | .int, .int => true
  | .str, .str => true
  | .tup, .tuple => true
  | .lst, .list => true
  | .dic, .dict => true
  | _, _ => false
theorem kitF_ok (k : Kd) (t : Ty) : kitB k.nm t.nm = some (kitF k t) := by cases k <;> cases t <;> kernel_rfl
def tysD : List D → Option (List Ty)
  | [] => some []
  | .ty n :: cs => match tysD cs with
    | some ns => some (n :: ns)
    | none => none
  | _ => none
def isinstD (S : Sto) (a c : D) : Option Bool :=
  match kdOf S a with
  | some k => match c with
    | .ty n => some (kitF k n)
    | .tup cs => match tysD cs with
      | some ns => some (ns.any (kitF k))
      | none => none
    | _ => none
  | none => none
def lenD (S : Sto) : D → Option Nat
  | .str x => if x.length ≤ sizeLine then some x.length else none
  | .tup ds => some ds.length
  | .ref n => match S[n]? with
    | some (.lst ds) => some ds.length
    | some (.frz ds) => some ds.length
    | _ => none
  | _ => none
def blsD : List D → Option (List Bool)
  | [] => some []
  | .bl b :: ds => match blsD ds with
    | some bs => some (b :: bs)
    | none => none
  | _ => none
def intsD : List D → Option (List Int)
  | [] => some []
  | .int b :: ds => match intsD ds with
    | some bs => some (b :: bs)
    | none => none
  | _ => none
/-- nothing within but what is no list, no dict -/
def flatP : PyData → Bool
  | .none => true
  | .bool _ => true
  | .int _ => true
  | .str _ => true
  | _ => false
/-- dicts: only the outermost, of plain things -/
def dictOk : PyData → Bool
  | .dict kvs => kvs.all fun p => flatP p.1 && flatP p.2
  | p => !PyData.hasDict p
def reprD (S : Sto) (d : D) : Option Str :=
  match snapD S d with
  | some p => if PyData.showable p = true ∧ PyData.depth p ≤ 64 ∧ (PyData.shown p).length ≤ sizeLine ∧ dictOk p = true then some (PyData.shown p) else none
  | none => none
/-- the builtins that are called by name -/
inductive BI where
  | len | isinstance | all | any | int | repr | tuple | list | max | min | sorted
  deriving DecidableEq
def biOf (x : Str) : Option BI :=
  if x = "len" then some .len else if x = "isinstance" then some .isinstance else if x = "all" then some .all else if x = "any" then some .any
  else if x = "int" then some .int else if x = "repr" then some .repr else if x = "tuple" then some .tuple else if x = "list" then some .list
  else if x = "max" then some .max else if x = "min" then some .min else if x = "sorted" then some .sorted else none
/-- ints sorted -/
def insI (i : Int) : List Int → List Int
  | [] => [i]
  | j :: js => if i ≤ j then i :: j :: js else j :: insI i js
def sortI : List Int → List Int
  | [] => []
  | i :: is => insI i (sortI is)
def callB (f : BI) (ds : List D) (S : Sto) : R D :=
  match f, ds with
  | .len, [a] => match lenD S a with
    | some n => .ok (.int n) S
    | none => .no
  | .isinstance, [a, c] => match isinstD S a c with
    | some b => .ok (.bl b) S
    | none => .no
  | .all, [a] => match lstD S a with
    | some ds => match blsD ds with
      | some bs => .ok (.bl (bs.all id)) S
      | none => .no
    | none => .no
  | .any, [a] => match lstD S a with
    | some ds => match blsD ds with
      | some bs => .ok (.bl (bs.any id)) S
      | none => .no
    | none => .no
  | .int, [.int i] => .ok (.int i) S
  | .int, [.bl b] => .ok (.int (if b then 1 else 0)) S
  | .repr, [a] => match reprD S a with
    | some x => .ok (.str x) S
    | none => .no
  | .tuple, [a] => match seqD S a with
    | some ds => .ok (.tup ds) S
    | none => .no
  | .list, [a] => match seqD S a with
    | some ds => newO (.lst ds) S
    | none => .no
  | .max, [.int i, .int j] => .ok (.int (if j > i then j else i)) S
  | .min, [.int i, .int j] => .ok (.int (if j < i then j else i)) S
  | .sorted, [a] => match lstD S a with
    | some ds => match intsD ds with
      | some ns => newO (.lst ((sortI ns).map .int)) S
      | none => .no
    | none => .no
  | _, _ => .no
/-- a op= b -/
def augD (op : Operator) (a b : D) (S : Sto) : R D :=
  match op, a, b with
  | .Add, .int i, .int j => .ok (.int (i + j)) S
  | .Sub, .int i, .int j => .ok (.int (i - j)) S
  | .Mult, .int i, .int j => if smallI i ∨ smallI j then .ok (.int (i * j)) S else .no
  | .FloorDiv, .int i, .int j => if 0 < j ∧ small9 j then .ok (.int (i / j)) S else .no
  | .Mod, .int i, .int j => if 0 < j then .ok (.int (i % j)) S else .no
  | .Add, .str x, .str y => if x.length + y.length ≤ sizeLine then .ok (.str (x ++ y)) S else .no
  | _, _, _ => .no
/-- methods of lists, dicts, texts -/
inductive MI where
  | append | index | count | pop
  deriving DecidableEq
def miOf (x : Str) : Option MI :=
  if x = "append" then some .append else if x = "index" then some .index else if x = "count" then some .count else if x = "pop" then some .pop else none
open PySem.SeqAt in
def indexD (S : Sto) (a x : D) : Option Nat :=
  match snapD S x with
  | some p => match snapD S a with
    | some (.list qs) => if shaped p = true ∧ shaped (.list qs) = true then
        (let j := qs.findIdx fun y => PyData.eqv y p
        if j < qs.length then some j else none) else none
    | _ => none
  | none => none
def countM (a : D) (ds : List D) (S : Sto) : R D := match ds with
  | [.int k] => match lstD S a with
    | some ds => match intsD ds with
      | some ns => .ok (.int (ns.count k : Nat)) S
      | none => .no
    | none => .no
  | _ => .no
def popM (a : D) (ds : List D) (S : Sto) : R D := match ds with
  | [.int k] => match a with
    | .ref n => match S[n]? with
      | some (.lst xs) => match ixN xs.length k with
        | some j => match xs[j]? with
          | some d => .ok d (S.set n (.lst (xs.eraseIdx j)))
          | none => .no
        | none => .no
      | _ => .no
    | _ => .no
  | _ => .no
def callM (f : MI) (a : D) (ds : List D) (S : Sto) : R D :=
  match f, a, ds with
  | .append, .ref n, [d] => match S[n]? with
    | some (.lst xs) => if xs.length < sizeLine then .ok .non (S.set n (.lst (xs ++ [d]))) else .no
    | _ => .no
  | .index, .ref n, [d] => match S[n]? with
    | some (.lst xs) => match indexD S a d with
      | some j => .ok (.int j) S
      | none => .no
    | _ => .no
  | .count, a, ds => countM a ds S
  | .pop, a, ds => popM a ds S
  | _, _, _ => .no
/-- a list backwards -/
def revD (a : D) (S : Sto) : R D := match lstD S a with
  | some ds => newO (.lst ds.reverse) S
  | none => .no
/-- a[i] = v -/
def setD (a i v : D) (S : Sto) : R Unit :=
  match a, i with
  | .ref n, .int k => match S[n]? with
    | some (.lst xs) => match ixN xs.length k with
      | some j => .ok () (S.set n (.lst (xs.set j v)))
      | none => .no
    | _ => .no
  | _, _ => .no
structure SC where
  N : List Str
  nm : List (Str × NameKind)
  /-- which of the cells are the block's own -/
  fx : Str → Bool
/-- what the module's names are, what a call comes to -/
structure GT where
  gl : Str → Option D
  fn : Str → List D → Sto → R D
  sig : Str → Option (List Str)
  /-- which calls with keywords there are: the def, how many places, the keywords -/
  kb : Str → Nat → List Str → Bool
  wf : Nat
def slot (N : List Str) (x : Str) : Option Nat := let j := N.findIdx (· == x); if j < N.length then some j else none
def isVis (c : SC) (x : Str) : Bool :=
  match c.nm.lookup x with
  | some .local => true
  | some .cell => true
  | some .free => true
  | _ => false
def isLoc (c : SC) (x : Str) : Bool :=
  match c.nm.lookup x with
  | some .local => true
  | some .cell => c.fx x
  | _ => false
def isGl (c : SC) (x : Str) : Bool :=
  match c.nm.lookup x with
  | some .globalImplicit => true
  | _ => false
/-- a name's value -/
def btyOf (x : Str) : Option Ty :=
  if x = "int" then some .int else if x = "bool" then some .bool else if x = "str" then some .str else if x = "tuple" then some .tuple
  else if x = "list" then some .list else if x = "dict" then some .dict else none
def nameD (T : GT) (c : SC) (x : Str) (env : DEnv) : Option D :=
  if isVis c x then match slot c.N x with
    | some i => match env[i]? with
      | some (some d) => some d
      | _ => none
    | none => none
  else if isGl c x then match T.gl x with
    | some d => some d
    | none => match btyOf x with
      | some n => some (.ty n)
      | none => none
  else none
def constD : Const → Option D
  | .none => some .non
  | .bool b => some (.bl b)
  | .int i => some (.int i)
  | .str x => some (.str x)
  | _ => none
/-- keywords put in their places -/
def placeK {α : Type} (ps : List Str) (ds : List α) (kw : List (Str × α)) : Option (List α) :=
  if ds.length + kw.length = ps.length then match optAll (fun p => kw.lookup p) (ps.drop ds.length) with
    | some r => some (ds ++ r)
    | none => none
  else none
def evAll {α β : Type} (f : α → Sto → R β) : List α → Sto → R (List β)
  | [], S => .ok [] S
  | a :: as, S => (f a S).bind fun b S => (evAll f as S).bind fun bs S => .ok (b :: bs) S
/-- and, or of tests -/
def evTests {α : Type} (f : α → Sto → R D) (stop : Bool) : List α → Sto → R D
  | [], _ => .no
  | [e], S => f e S
  | e :: es, S => (f e S).bind fun d S => match d with
    | .bl b => if b = stop then .ok (.bl stop) S else evTests f stop es S
    | _ => .no
/-- and, or of values -/
def evVals {α : Type} (f : α → Sto → R D) (stop : Bool) : List α → Sto → R D
  | [], _ => .no
  | [e], S => f e S
  | e :: es, S => (f e S).bind fun d S => match truthy S d with
    | some b => if b = stop then .ok d S else evVals f stop es S
    | none => .no
def isStar : Expr → Bool
  | .Starred _ _ => true
  | _ => false
def noStar (es : List Expr) : Bool := es.all fun e => !isStar e
def isStop : BoolOp → Bool
  | .And => false
  | .Or => true
/-- targets: names, tuples of names -/
def asg (c : SC) : Nat → Expr → D → DEnv → Option DEnv
  | 0, _, _, _ => none
  | n + 1, tg, d, env => match tg with
    | .Name x _ => if isLoc c x then match slot c.N x with
        | some i => some (env.set i (some d))
        | none => none
      else none
    | .Tuple es _ _ => match d with
      | .tup ds => if ds.length = es.length ∧ noStar es = true then asgs (asg c n) es ds env else none
      | _ => none
    | _ => none
where asgs (f : Expr → D → DEnv → Option DEnv) : List Expr → List D → DEnv → Option DEnv
  | [], [], env => some env
  | e :: es, d :: ds, env => match f e d env with
    | some env => asgs f es ds env
    | none => none
  | _, _, _ => none
/-- what is walked: the items, and the list that must stay as it is meanwhile -/
structure It where
  ds : List D
  g : Option Nat
def guardOk (J : List D) (g : Option Nat) (S : Sto) : Bool :=
  match g with
  | none => true
  | some k => match S[k]? with
    | some (.lst xs) => decide (xs = J)
    | some (.frz xs) => decide (xs = J)
    | _ => false
def rangeD (lo : Int) : Nat → List D
  | 0 => []
  | n + 1 => .int lo :: rangeD (lo + 1) n
def itD (S : Sto) (d : D) : Option It :=
  match d with
  | .tup ds => some ⟨ds, none⟩
  | .ref k => match S[k]? with
    | some (.lst ds) => some ⟨ds, some k⟩
    | some (.frz ds) => some ⟨ds, some k⟩
    | _ => none
  | .str x => some ⟨x.cps.toList.map fun c => .str ⟨#[c]⟩, none⟩
  | _ => none
def smallR (i : Int) : Prop := Nat.ble i.natAbs 4611686018427387903 = true
instance (i : Int) : Decidable (smallR i) := inferInstanceAs (Decidable (_ = _))
theorem smallR_iff {i : Int} (h : smallR i) : -(2 ^ 62) ≤ i ∧ i < 2 ^ 62 := by
  unfold smallR at h
  rw [Nat.ble_eq] at h
  omega
theorem smallR_of {i : Int} (h : -4611686018427387903 ≤ i ∧ i ≤ 4611686018427387903) : smallR i := by
  unfold smallR
  rw [Nat.ble_eq]
  omega
/-- a range's items -/
def rangeIt : List D → Option It
  | [.int j] => if smallR j then some ⟨rangeD 0 j.toNat, none⟩ else none
  | [.int i, .int j] => if smallR i ∧ smallR j then some ⟨rangeD i (j - i).toNat, none⟩ else none
  | _ => none
/-- a block's names: those of the comprehension's own, as the model makes its scope -/
def inner (c : SC) (sc : Scope) : SC :=
  ⟨c.N, sc.names.map fun (n, k) => if (k == .free && c.nm.lookup n == some .cell) then (n, .cell) else (n, k), fun x => sc.names.lookup x == some .cell⟩
def scopeOf (c : SC) : Scope := ⟨.function, c.nm, false, false, []⟩
def ownOf (N : List Str) (sc : Scope) : List (Str × Nat) :=
  sc.names.filterMap fun (n, k) => if (k == .local || k == .cell) then match slot N n with
    | some i => some (n, i)
    | none => none
  else none
def wipeD (env : DEnv) : List Nat → DEnv
  | [] => env
  | v :: vs => (wipeD env vs).set v none
/-- the loop of a comprehension -/
def compD (J : List D) (g : Option Nat) (turn : D → Sto → R (Option D)) : List D → List D → Sto → R (List D)
  | [], acc, S => if guardOk J g S then .ok acc S else .no
  | d :: ds, acc, S => if guardOk J g S then (turn d S).bind fun o S => match o with
      | some x => if acc.length < sizeLine then compD J g turn ds (acc ++ [x]) S else .no
      | none => compD J g turn ds acc S
    else .no
def evIf {α : Type} (f : α → Sto → R D) : List α → Sto → R Bool
  | [], S => .ok true S
  | [e], S => (f e S).bind fun d S => match d with
    | .bl b => .ok b S
    | _ => .no
  | _, _ => .no
def optE {α : Type} (f : α → Sto → R D) : Option α → Sto → R (Option Int)
  | none, S => .ok none S
  | some e, S => (f e S).bind fun d S => match d with
    | .int i => .ok (some i) S
    | _ => .no
def kwNames : List Keyword → Option (List Str)
  | [] => some []
  | ⟨some x, _, _⟩ :: ks => match kwNames ks with
    | some xs => some (x :: xs)
    | none => none
  | _ => none
def isSliceE : Expr → Bool
  | .Slice _ _ _ _ => true
  | _ => false
def isM1 : Expr → Bool
  | .UnaryOp .USub (.Constant (.int i) _ _) _ => decide (i = 1)
  | _ => false
def isSetE : Expr → Bool
  | .Set _ _ _ => true
  | _ => false
/-- a method's call that we read -/
def isCallE : Expr → Bool
  | .Call _ _ _ _ => true
  | _ => false
def mtOk (o : Expr) (es : List Expr) (ap cp : Pos) : Bool := !isCallE o && noStar es && decide (es.length < 20) && (ap.endLine == cp.line) && !es.isEmpty
/-- what a for or a comprehension walks -/
def evIt (T : GT) (c : SC) (ev : Expr → Sto → R D) (e : Expr) (S : Sto) : R It :=
  if isSetE e then .no else match e with
  | .Call (.Name x _) es [] _ => if isGl c x = true ∧ (T.gl x).isNone = true ∧ x = "range" then
      if noStar es && (es.length == 1 || es.length == 2) then (evAll ev es S).bind fun ds S => ofO S (rangeIt ds) else .no
    else (ev e S).bind fun d S => ofO S (itD S d)
  | e => (ev e S).bind fun d S => ofO S (itD S d)
/-- list(range(..)) -/
def lrOf (T : GT) (c : SC) (x : Str) (es : List Expr) (kws : List Keyword) : Option (List Expr) :=
  match es, kws with
  | [.Call (.Name y _) rs [] _], [] => if x = "list" ∧ isGl c x = true ∧ (T.gl x).isNone = true ∧ y = "range" ∧ isGl c y = true ∧ (T.gl y).isNone = true ∧ noStar rs = true then some rs else none
  | _, _ => none
def listRg (d e : D) (S : Sto) : R D :=
  match d, e with
  | .int i, .int j => if 0 ≤ i ∧ 0 ≤ j ∧ small6 i ∧ small6 j then newO (.lst (rangeD i (j - i).toNat)) S else .no
  | _, _ => .no
def evE (T : GT) : Nat → SC → Bool → Expr → DEnv → Sto → R D
  | 0, _, _, _, _, _ => .no
  | n + 1, c, m, e, env, S => match m with
    | true => match e with
      | .UnaryOp .Not a _ => (evE T n c true a env S).bind fun d S => match d with
        | .bl b => .ok (.bl (!b)) S
        | _ => .no
      | .BoolOp op es _ => evTests (fun e S => evE T n c true e env S) (isStop op) es S
      | .IfExp t a b _ => (evE T n c true t env S).bind fun d S => match d with
        | .bl true => evE T n c true a env S
        | .bl false => evE T n c true b env S
        | _ => .no
      | e => (evE T n c false e env S).bind fun d S => match truthy S d with
        | some b => .ok (.bl b) S
        | none => .no
    | false => match e with
      | .Constant v _ _ => ofO S (constD v)
      | .Name x _ => ofO S (nameD T c x env)
      | .BinOp a op b _ => (evE T n c false a env S).bind fun x S => (evE T n c false b env S).bind fun y S => binD op x y S
      | .UnaryOp .Not a _ => (evE T n c false a env S).bind fun d S => match truthy S d with
        | some b => .ok (.bl (!b)) S
        | none => .no
      | .UnaryOp .USub a _ => (evE T n c false a env S).bind fun d S => match d with
        | .int i => .ok (.int (-i)) S
        | _ => .no
      | .BoolOp op es _ => evVals (fun e S => evE T n c false e env S) (isStop op) es S
      | .IfExp t a b _ => (evE T n c true t env S).bind fun d S => match d with
        | .bl true => evE T n c false a env S
        | .bl false => evE T n c false b env S
        | _ => .no
      | .Compare a [op] [b] _ => if isSetE b then .no else (evE T n c false a env S).bind fun x S => (evE T n c false b env S).bind fun y S => cmpD op x y S
      | .Compare a [op, op'] [b, b'] _ => if isSetE b || isSetE b' then .no else (evE T n c false a env S).bind fun x S => (evE T n c false b env S).bind fun y S =>
        (cmpD op x y S).bind fun d S => match d with
          | .bl true => (evE T n c false b' env S).bind fun z S => cmpD op' y z S
          | .bl false => .ok (.bl false) S
          | _ => .no
      | .List es _ => (evAll (fun e S => evE T n c false e env S) es S).bind fun ds S => newL ds S
      | .Tuple es _ _ => (evAll (fun e S => evE T n c false e env S) es S).bind fun ds S => mkTup ds S
      | .Dict [] [] _ => newO (.dK []) S
      | .Subscript a (.Slice lo hi none _) _ => (evE T n c false a env S).bind fun x S =>
        (optE (fun e S => evE T n c false e env S) lo S).bind fun l S => (optE (fun e S => evE T n c false e env S) hi S).bind fun h S => cutD x l h S
      | .Subscript a (.Slice none none (some st) _) _ => if isM1 st then (evE T n c false a env S).bind fun x S => revD x S else .no
      | .Subscript a i _ => if isSliceE i then .no else (evE T n c false a env S).bind fun x S => (evE T n c false i env S).bind fun y S => ofO S (ixD S x y)
      | .Call (.Name x _) es kws _ => match lrOf T c x es kws with
        | some [a] => (evE T n c false a env S).bind fun d S => listRg (.int 0) d S
        | some [a, b] => (evE T n c false a env S).bind fun d S => (evE T n c false b env S).bind fun e S => listRg d e S
        | some _ => .no
        | none => if isGl c x && noStar es then match T.gl x with
          | some (.glob f) => match T.sig f, kwNames kws with
            | some ps, some ks => if ks.isEmpty then (if es.length = ps.length then (evAll (fun e S => evE T n c false e env S) es S).bind fun ds S => T.fn f ds S else .no)
              else if T.kb f es.length ks = true then (evAll (fun e S => evE T n c false e env S) es S).bind fun ds S =>
                (evAll (fun (q : Keyword) S => evE T n c false q.value env S) kws S).bind fun zs S => match placeK ps ds (ks.zip zs) with
                  | some ds => T.fn f ds S
                  | none => .no
              else .no
            | _, _ => .no
          | some _ => .no
          | none => match kws, biOf x with
            | [], some f => (evAll (fun e S => evE T n c false e env S) es S).bind fun ds S => callB f ds S
            | _, _ => .no
        else .no
      | .Call (.Attribute o m ap) es [] cp => match mtOk o es ap cp, miOf m with
        | true, some f => (evE T n c false o env S).bind fun x S => if (lstD S x).isSome then (evAll (fun e S => evE T n c false e env S) es S).bind fun ds S => callM f x ds S else .no
        | _, _ => .no
      | .ListComp elt [⟨tg, iter, ifs, asy⟩] sc _ => if blkC c.N (scopeOf c) sc (ownOf c.N sc) = true ∧ asy = 0 then
        (evIt T c (fun e S => evE T n c false e env S) iter S).bind fun J S =>
        let c' := inner c sc
        let env' := wipeD env ((ownOf c.N sc).map (·.2))
        match compD J.ds J.g (fun d S => match asg c' 5 tg d env' with
          | some env2 => (evIf (fun e S => evE T n c' true e env2 S) ifs S).bind fun b S => match b with
            | true => (evE T n c' false elt env2 S).bind fun x S => .ok (some x) S
            | false => .ok none S
          | none => .no) J.ds [] S with
        | .ok ds S => newO (.lst ds) S
        | _ => .no
        else .no
      | _ => .no
def evSs {α : Type} (f : α → DEnv → Sto → RS) : List α → DEnv → Sto → RS
  | [], env, S => .nx env S
  | st :: sts, env, S => match f st env S with
    | .nx env S => evSs f sts env S
    | r => r
def R.st {α : Type} (r : R α) (env : DEnv) (f : α → Sto → RS) : RS :=
  match r with
  | .ok a S => f a S
  | .ex c fs S => .ex c fs env S
  | .no => .no
def forD (J : List D) (g : Option Nat) (body : D → DEnv → Sto → RS) : List D → DEnv → Sto → RS
  | [], env, S => if guardOk J g S then .nx env S else .no
  | d :: ds, env, S => if guardOk J g S then match body d env S with
      | .nx env S => forD J g body ds env S
      | .ct env S => forD J g body ds env S
      | .bk env S => .nx env S
      | r => r
    else .no
/-- name = a comprehension: it is stored ahead of the frame's end where -/
def isComp : Expr → Bool
  | .ListComp _ _ _ _ => true
  | .SetComp _ _ _ _ => true
  | .DictComp _ _ _ _ _ => true
  | _ => false
def sameLine (y : Expr) (e : Expr) : Bool := y.pos.line == e.pos.line
def compScope : Expr → Option Scope
  | .ListComp _ _ s _ => some s
  | .SetComp _ _ s _ => some s
  | .DictComp _ _ _ s _ => some s
  | _ => none
/-- what swapsWith tells of a name -/
def swapN (c : SC) (t : Str) (tp : Pos) (e : Expr) : Bool :=
  match compScope e with
  | none => false
  | some sc => c.nm.lookup t == some .local && tp.line == e.pos.line && !(sc.names.any fun (n, k) => n == t && (k == .local || k == .cell))
def swapName (c : SC) (line : Nat) : Expr → Option Str
  | .Name id pos => if c.nm.lookup id == some .local && pos.line == line then some id else none
  | _ => none
/-- what swappedStores tells: none: it doesn't say -/
def swapT (c : SC) (tg e : Expr) : Option (Option (List Str)) :=
  match tg, e with
  | .Tuple ts _ _, .Tuple vs _ _ =>
    if !(ts.length == 2 || ts.length == 3) || vs.length != ts.length then some none
    else if !noStar vs then some none
    else
      let line := (ts.head?.map (·.pos.line)).getD 0
      let names := ts.filterMap (swapName c line)
      if names.length != ts.length || names.eraseDups.length != names.length then some none
      else if vs.all (foldedForSure 8) then some none
      else if vs.all (constantsAlone 8) then none
      else some (some names)
  | .List _ _, _ => none
  | _, _ => some none
/-- two names from two values: their slots -/
def parOf (c : SC) (tg e : Expr) : Option (Nat × Nat) :=
  match tg, e with
  | .Tuple [.Name x _, .Name y _] _ _, .Tuple [_, _] _ _ => match slot c.N x, slot c.N y with
    | some i, some j => if c.nm.lookup x = some .local ∧ c.nm.lookup y = some .local ∧ i ≠ j ∧ swapT c tg e = some (some [x, y]) then some (i, j) else none
    | _, _ => none
  | _, _ => none
/-- name or names = value -/
def asgS (c : SC) (tg e : Expr) (d : D) (env : DEnv) : Option DEnv :=
  match swapT c tg e with
  | some none => asg c 5 tg d env
  | _ => match parOf c tg e, d with
    | some (i, j), .tup [a, b] => some ((env.set i (some a)).set j (some b))
    | _, _ => none
/-- a target that is none of ours -/
def badT (c : SC) (tg e : Expr) : Bool :=
  match tg with
  | .Starred _ _ => true
  | .Name x _ => !(isLoc c x && (slot c.N x).isSome)
  | .Tuple _ _ _ => match swapT c tg e with
    | some none => false
    | _ => (parOf c tg e).isNone
  | _ => true
def whileD (test : DEnv → Sto → R D) (body : DEnv → Sto → RS) : Nat → DEnv → Sto → RS
  | 0, _, _ => .no
  | n + 1, env, S => (test env S).st env fun d S => match d with
    | .bl true => match body env S with
      | .nx env S => whileD test body n env S
      | .ct env S => whileD test body n env S
      | .bk env S => .nx env S
      | r => r
    | .bl false => .nx env S
    | _ => .no
/-- targets of all kinds -/
def tgW (c : SC) (ev : Expr → DEnv → Sto → R D) : Expr → D → DEnv → Sto → R DEnv
  | .Name x _, d, env, S => if isLoc c x then match slot c.N x with
      | some i => .ok (env.set i (some d)) S
      | none => .no
    else .no
  | .Subscript o i _, d, env, S => if isSliceE i then .no else (ev o env S).bind fun x S => (ev i env S).bind fun y S => (setD x y d S).bind fun _ S => .ok env S
  | _, _, _, _ => .no
def tgsW (c : SC) (ev : Expr → DEnv → Sto → R D) : List Expr → List D → DEnv → Sto → R DEnv
  | [], [], env, S => .ok env S
  | t :: ts, d :: ds, env, S => match tgW c ev t d env S with
    | .ok env S => tgsW c ev ts ds env S
    | _ => .no
  | _, _, _, _ => .no
/-- not names alone -/
def isWide : Expr → Bool
  | .Tuple es _ _ => es.any fun e => match e with
    | .Subscript _ _ _ => true
    | _ => false
  | _ => false
def evS (T : GT) : Nat → SC → Stmt → DEnv → Sto → RS
  | 0, _, _, _, _ => .no
  | n + 1, c, st, env, S => match st with
    | .Pass _ => .nx env S
    | .Break _ => .bk env S
    | .Continue _ => .ct env S
    | .Return none _ => .rt .non S
    | .Return (some e) _ => (evE T n c false e env S).st env fun d S => .rt d S
    | .Expr e _ => if isComp e then .no else (evE T n c false e env S).st env fun _ S => .nx env S
    | .If t a b _ => (evE T n c true t env S).st env fun d S => match d with
      | .bl true => evSs (evS T n c) a env S
      | .bl false => evSs (evS T n c) b env S
      | _ => .no
    | .Assign [.Subscript o i _] e _ => if isComp e || isSliceE i then .no else (evE T n c false e env S).st env fun v S => (evE T n c false o env S).st env fun x S =>
      (evE T n c false i env S).st env fun y S => (setD x y v S).st env fun _ S => .nx env S
    | .Assign [tg] e _ => if isWide tg then (match tg with
      | .Tuple es _ _ => if noStar es = true ∧ swapT c tg e = some none then (evE T n c false e env S).st env fun d S => match d with
          | .tup ds => if ds.length = es.length then (match tgsW c (fun e env S => evE T n c false e env S) es ds env S with
            | .ok env S => .nx env S
            | _ => .no) else .no
          | _ => .no
        else .no
      | _ => .no) else if badT c tg e then .no else (evE T n c false e env S).st env fun d S => match asgS c tg e d env with
      | some env => .nx env S
      | none => .no
    | .AugAssign (.Name x _) op e _ => if isLoc c x then match slot c.N x with
        | some i => match env[i]? with
          | some (some a) => (evE T n c false e env S).st env fun b S => (augD op a b S).st env fun r S => .nx (env.set i (some r)) S
          | _ => .no
        | none => .no
      else .no
    | .For tg iter body [] _ => (evIt T c (fun e S => evE T n c false e env S) iter S).st env fun J S =>
      forD J.ds J.g (fun d env S => match asg c 5 tg d env with
        | some env => evSs (evS T n c) body env S
        | none => .no) J.ds env S
    | .While t body [] _ => whileD (fun env S => evE T n c true t env S) (fun env S => evSs (evS T n c) body env S) T.wf env S
    | _ => .no
/-- a def's body -/
def fuel : Nat := 60
def startD (N : List Str) (ds : List D) : DEnv := ds.map some ++ List.replicate (N.length - ds.length) none
def evF (T : GT) (N : List Str) (nm : List (Str × NameKind)) (body : List Stmt) (ds : List D) (S : Sto) : R D :=
  match evSs (evS T fuel ⟨N, nm, fun _ => true⟩) body (startD N ds) S with
  | .nx _ S => .ok .non S
  | .rt d S => .ok d S
  | .ex c fs _ S => .ex c fs S
  | _ => .no
end Cor
end
section
set_option linter.all false
namespace Cor
open PySem L2
structure DefI where
  f : Str
  st : Stmt
  N : List Str
def stBody : Stmt → List Stmt
  | .FunctionDef _ _ body _ _ _ _ _ _ _ => body
  | _ => []
def stArgs : Stmt → Arguments
  | .FunctionDef _ args _ _ _ _ _ _ _ _ => args
  | _ => ⟨[], [], none, [], [], none, []⟩
def stScope : Stmt → Scope
  | .FunctionDef _ _ _ _ _ _ sc _ _ _ => sc
  | _ => ⟨.function, [], false, false, []⟩
def findD (x : Str) : List DefI → Option DefI
  | [] => none
  | d :: ds => if d.f = x then some d else findD x ds
def sigT (ds : List DefI) (f : Str) : Option (List Str) := (findD f ds).map fun d => (stArgs d.st).args.map (·.arg)
mutual
def flat : D → Bool
  | .ref _ => false
  | .tup ds => flats ds
  | _ => true
def flats : List D → Bool
  | [] => true
  | d :: ds => flat d && flats ds
end
mutual
def refsD : D → List Nat
  | .ref n => [n]
  | .tup ds => refsDs ds
  | _ => []
def refsDs : List D → List Nat
  | [] => []
  | d :: ds => refsD d ++ refsDs ds
end
def refsO : Ob → List Nat
  | .lst ds => refsDs ds
  | .dK kvs => refsDs (kvs.map (·.2))
  | .ins _ fs => refsDs (fs.map (·.2))
  | _ => []
def reach : Nat → Sto → List Nat → List Nat → List Nat
  | 0, _, _, acc => acc
  | _ + 1, _, [], acc => acc
  | n + 1, S, k :: ks, acc => if acc.contains k then reach n S ks acc else match S[k]? with
    | some o => reach n S (refsO o ++ ks) (acc ++ [k])
    | none => acc
/-- the place in a list, from 1 on -/
def ixOf (k : Nat) : List Nat → Option Nat
  | [] => none
  | j :: js => if Nat.beq j k then some 1 else match ixOf k js with
    | some i => some (i + 1)
    | none => none
mutual
def renD (L : List Nat) : D → Option D
  | .ref n => match ixOf n L with
    | some i => some (.ref i)
    | none => none
  | .tup ds => match renDs L ds with
    | some es => some (.tup es)
    | none => none
  | .non => some .non
  | .bl b => some (.bl b)
  | .int i => some (.int i)
  | .str x => some (.str x)
  | .ty t => some (.ty t)
  | .glob x => some (.glob x)
def renDs (L : List Nat) : List D → Option (List D)
  | [] => some []
  | d :: ds => match renD L d with
    | some e => match renDs L ds with
      | some es => some (e :: es)
      | none => none
    | none => none
end
def renO (L : List Nat) : Ob → Option Ob
  | .lst ds => match renDs L ds with
    | some es => some (.lst es)
    | none => none
  | .dK kvs => match renDs L (kvs.map (·.2)) with
    | some es => some (.dK ((kvs.map (·.1)).zip es))
    | none => none
  | .ins c fs => match renDs L (fs.map (·.2)) with
    | some es => some (.ins c ((fs.map (·.1)).zip es))
    | none => none
  | _ => none
def renS (L : List Nat) (S : Sto) : List Nat → Option (List Ob)
  | [] => some []
  | k :: ks => match S[k]? with
    | some o => match renO L o with
      | some o' => match renS L S ks with
        | some os => some (o' :: os)
        | none => none
      | none => none
    | none => none
def nodupB : List Nat → Bool
  | [] => true
  | k :: ks => !ks.contains k && nodupB ks
def pureC (g : List D → Sto → R D) (ds : List D) (S : Sto) : R D :=
  let L := reach 10000 S (refsDs ds) []
  if nodupB L && L.all (fun k => Nat.blt 0 k) then match renS L S L with
    | some os => match renDs L ds with
      | some es => match g es (.hid :: os) with
        | .ok r S2 => if flat r = true ∧ S2.take (os.length + 1) = .hid :: os then .ok r S else .no
        | _ => .no
      | none => .no
    | none => .no
  else .no
def fnT (ds : List DefI) (gl : Str → Option D) (kb : Str → Nat → List Str → Bool) (wf : Nat) (pu : Str → Bool) : Nat → Str → List D → Sto → R D
  | 0 => fun _ _ _ => .no
  | n + 1 => fun f xs S => match findD f ds with
    | some d => if xs.length = (stArgs d.st).args.length then (if pu f then pureC (evF ⟨gl, fnT ds gl kb wf pu n, sigT ds, kb, wf⟩ d.N (stScope d.st).names (stBody d.st)) xs S else evF ⟨gl, fnT ds gl kb wf pu n, sigT ds, kb, wf⟩ d.N (stScope d.st).names (stBody d.st) xs S) else .no
    | none => .no
def tab (ds : List DefI) (gl : Str → Option D) (kb : Str → Nat → List Str → Bool) (wf : Nat) (pu : Str → Bool) (n : Nat) : GT := ⟨gl, fnT ds gl kb wf pu n, sigT ds, kb, wf⟩
end Cor
end
section
set_option linter.all false
set_option maxHeartbeats 1000000
namespace Cor
open PySem L2
section
variable (K : PySem.W.Frag) (mg : Str → Option Value) (μ : List Addr) (H : Hp)
mutual
def RD : D → V → Prop
  | .non, v => v = .non
  | .bl b, v => v = .bl b
  | .int i, v => v = .int i
  | .str x, v => v = .str x
  | .tup ds, v => ∃ a xs, v = .ref a ∧ SqT K H a xs ∧ RDs ds xs
  | .ref n, v => ∃ a, v = .ref a ∧ μ[n]? = some a
  | .ty n, v => v = .ty n.nm
  | .glob x, v => ∃ a, v = .ref a ∧ mg x = some (.ref a)
def RDs : List D → List V → Prop
  | [], xs => xs = []
  | d :: ds, xs => ∃ y ys, xs = y :: ys ∧ RD d y ∧ RDs ds ys
end
def ObR (a : Addr) : Ob → Prop
  | .lst ds => ∃ xs, H a = some (.lst xs) ∧ RDs K mg μ H ds xs
  | .frz ds => ∃ xs, RDs K mg μ H ds xs ∧ ((∃ o, H a = some (.frz o (.lst xs))) ∨ ∀ H' : Hp, SqL K H' a xs)
  | .dK kvs => ∃ kv, H a = some (.dK kv) ∧ Paired (fun (p : Key × D) (q : Key × V) => p.1 = q.1 ∧ RD K mg μ H p.2 q.2) kvs kv
  | .hid => True
  | .ins c fs => ∃ C dx fv, mg c = some (.ref C) ∧ H a = some (.ins C dx fv) ∧ Paired (fun (p : Str × D) (q : Str × V) => p.1 = q.1 ∧ RD K mg μ H p.2 q.2) fs fv
end
def Ob.mut : Ob → Bool
  | .frz _ => false
  | .hid => false
  | _ => true
/-- an address of the store other than the script's -/
def InM (μ : List Addr) (a : Addr) : Prop := ∃ n, 0 < n ∧ μ[n]? = some a
structure Sim (K : PySem.W.Frag) (mg : Str → Option Value) (μ : List Addr) (S : Sto) (H : Hp) : Prop where
  len : μ.length = S.length
  ne : 0 < S.length
  mutI : ∀ (n : Nat) o, S[n]? = some o → o.mut = decide (0 < n)
  ob : ∀ (n : Nat) o a, S[n]? = some o → μ[n]? = some a → ObR K mg μ H a o
  inj : ∀ (m n : Nat) om on a, S[m]? = some om → S[n]? = some on → om.mut = true → on.mut = true → μ[m]? = some a → μ[n]? = some a → m = n
/-- what a value keeps its meaning under -/
structure Ext0 (μ : List Addr) (H : Hp) (μ' : List Addr) (H' : Hp) : Prop where
  pre : ∃ ν, μ' = μ ++ ν
  tup : ∀ a xs, H a = some (.tup xs) → H' a = some (.tup xs)
  frz : ∀ a o u, H a = some (.frz o u) → H' a = some (.frz o u)
/-- and what is not of the store stays -/
structure Ext (μ : List Addr) (H : Hp) (μ' : List Addr) (H' : Hp) : Prop extends Ext0 μ H μ' H' where
  out : ∀ a u, H a = some u → ¬ InM μ a → H' a = some u
  new : ∀ a, InM μ' a → ¬ InM μ a → H a = none
theorem Ext.refl {μ H} : Ext μ H μ H := ⟨⟨⟨[], by simp⟩, fun _ _ h => h, fun _ _ _ h => h⟩, fun _ _ h _ => h, fun _ h n => absurd h n⟩
theorem Ext0.trans {μ H μ1 H1 μ2 H2} (a : Ext0 μ H μ1 H1) (b : Ext0 μ1 H1 μ2 H2) : Ext0 μ H μ2 H2 := by
  obtain ⟨⟨n1, e1⟩, t1, f1⟩ := a
  obtain ⟨⟨n2, e2⟩, t2, f2⟩ := b
  exact ⟨⟨n1 ++ n2, by rw [e2, e1, List.append_assoc]⟩, fun a xs h => t2 a xs (t1 a xs h), fun a o u h => f2 a o u (f1 a o u h)⟩
theorem Ext.trans {μ H μ1 H1 μ2 H2} (a : Ext μ H μ1 H1) (b : Ext μ1 H1 μ2 H2) : Ext μ H μ2 H2 := by
  refine ⟨a.toExt0.trans b.toExt0, fun p u h n => ?_, fun p h n => ?_⟩
  · have h1 := a.out p u h n
    refine b.out p u h1 fun m => ?_
    rw [a.new p m n] at h; cases h
  · by_cases m : InM μ1 p
    · exact a.new p m n
    · have h2 := b.new p h m
      cases e : H p with
      | none => rfl
      | some u => rw [a.out p u e n] at h2; cases h2
theorem Ext0.at {μ H μ1 H1} (a : Ext0 μ H μ1 H1) {n : Nat} {x : Addr} (h : μ[n]? = some x) : μ1[n]? = some x := by
  obtain ⟨ν, e⟩ := a.pre
  rw [e, List.getElem?_append_left (List.getElem?_eq_some_iff.mp h).1]
  exact h
theorem Ext0.sqT {K : PySem.W.Frag} {μ H μ1 H1} (a : Ext0 μ H μ1 H1) {p : Addr} {xs : List V} (h : SqT K H p xs) : SqT K H1 p xs := by
  rcases h with (h | ⟨o, h⟩) | h
  · exact .inl (.inl (a.tup _ _ h))
  · exact .inl (.inr ⟨o, a.frz _ _ _ h⟩)
  · exact .inr h
section
variable {K : PySem.W.Frag} {mg : Str → Option Value} {μ μ' : List Addr} {H H' : Hp}
mutual
theorem RD.ext0 (x : Ext0 μ H μ' H') : ∀ {d : D} {v : V}, RD K mg μ H d v → RD K mg μ' H' d v
  | .non, v, h => by simp only [RD] at h ⊢; exact h
  | .bl b, v, h => by simp only [RD] at h ⊢; exact h
  | .int i, v, h => by simp only [RD] at h ⊢; exact h
  | .str y, v, h => by simp only [RD] at h ⊢; exact h
  | .tup ds, v, h => by
    simp only [RD] at h ⊢
    obtain ⟨a, xs, e, s, r⟩ := h
    exact ⟨a, xs, e, x.sqT s, RDs.ext0 x r⟩
  | .ref n, v, h => by
    simp only [RD] at h ⊢
    obtain ⟨a, e, s⟩ := h
    exact ⟨a, e, x.at s⟩
  | .ty n, v, h => by simp only [RD] at h ⊢; exact h
  | .glob y, v, h => by simp only [RD] at h ⊢; exact h
theorem RDs.ext0 (x : Ext0 μ H μ' H') : ∀ {ds : List D} {vs : List V}, RDs K mg μ H ds vs → RDs K mg μ' H' ds vs
  | [], vs, h => by simp only [RDs] at h ⊢; exact h
  | d :: ds, vs, h => by
    simp only [RDs] at h ⊢
    obtain ⟨y, ys, e, r, rs⟩ := h
    exact ⟨y, ys, e, RD.ext0 x r, RDs.ext0 x rs⟩
end
theorem RD.ext {d : D} {v : V} (x : Ext μ H μ' H') (h : RD K mg μ H d v) : RD K mg μ' H' d v := RD.ext0 x.toExt0 h
theorem RDs.ext {ds : List D} {vs : List V} (x : Ext μ H μ' H') (h : RDs K mg μ H ds vs) : RDs K mg μ' H' ds vs := RDs.ext0 x.toExt0 h
theorem rds_nil : RDs K mg μ H [] [] := by simp only [RDs]
theorem rds_cons {d ds v vs} (h : RD K mg μ H d v) (t : RDs K mg μ H ds vs) : RDs K mg μ H (d :: ds) (v :: vs) := by
  simp only [RDs]; exact ⟨v, vs, rfl, h, t⟩
theorem rds_paired : ∀ {ds : List D} {vs : List V}, RDs K mg μ H ds vs ↔ Paired (RD K mg μ H) ds vs
  | [], vs => by
    simp only [RDs]
    constructor
    · rintro rfl; exact .nil
    · intro h; cases h; rfl
  | d :: ds, vs => by
    simp only [RDs]
    constructor
    · rintro ⟨y, ys, rfl, r, t⟩; exact .cons r (rds_paired.mp t)
    · intro h; cases h with
      | cons r t => exact ⟨_, _, rfl, r, rds_paired.mpr t⟩
theorem RDs.length : ∀ {ds : List D} {vs : List V}, RDs K mg μ H ds vs → ds.length = vs.length
  | [], vs, h => by simp only [RDs] at h; subst h; rfl
  | d :: ds, vs, h => by
    simp only [RDs] at h
    obtain ⟨y, ys, rfl, _, t⟩ := h
    simp [RDs.length t]
theorem RDs.get : ∀ {ds : List D} {vs : List V} {i : Nat} {d : D}, RDs K mg μ H ds vs → ds[i]? = some d → ∃ v, vs[i]? = some v ∧ RD K mg μ H d v
  | [], vs, i, d, h, e => by simp at e
  | d' :: ds, vs, 0, d, h, e => by
    simp only [RDs] at h
    obtain ⟨y, ys, rfl, r, t⟩ := h
    simp at e; subst e
    exact ⟨y, rfl, r⟩
  | d' :: ds, vs, i + 1, d, h, e => by
    simp only [RDs] at h
    obtain ⟨y, ys, rfl, r, t⟩ := h
    obtain ⟨v, h1, h2⟩ := RDs.get (i := i) t (by simpa using e)
    exact ⟨v, by simpa using h1, h2⟩
theorem RDs.append : ∀ {ds es : List D} {vs ws : List V}, RDs K mg μ H ds vs → RDs K mg μ H es ws → RDs K mg μ H (ds ++ es) (vs ++ ws)
  | [], es, vs, ws, h, t => by simp only [RDs] at h; subst h; simpa using t
  | d :: ds, es, vs, ws, h, t => by
    simp only [RDs] at h
    obtain ⟨y, ys, rfl, r, q⟩ := h
    exact rds_cons r (RDs.append q t)
theorem RDs.drop : ∀ {ds : List D} {vs : List V} (n : Nat), RDs K mg μ H ds vs → RDs K mg μ H (ds.drop n) (vs.drop n)
  | ds, vs, 0, h => h
  | [], vs, n + 1, h => by simp only [RDs] at h; subst h; exact rds_nil
  | d :: ds, vs, n + 1, h => by
    simp only [RDs] at h
    obtain ⟨y, ys, rfl, r, q⟩ := h
    exact RDs.drop n q
theorem RDs.take : ∀ {ds : List D} {vs : List V} (n : Nat), RDs K mg μ H ds vs → RDs K mg μ H (ds.take n) (vs.take n)
  | ds, vs, 0, h => by simp only [List.take_zero]; exact rds_nil
  | [], vs, n + 1, h => by simp only [RDs] at h; subst h; exact rds_nil
  | d :: ds, vs, n + 1, h => by
    simp only [RDs] at h
    obtain ⟨y, ys, rfl, r, q⟩ := h
    exact rds_cons r (RDs.take n q)
theorem RDs.set {x : D} {u : V} (r : RD K mg μ H x u) : ∀ {ds : List D} {vs : List V} (i : Nat), RDs K mg μ H ds vs → RDs K mg μ H (ds.set i x) (vs.set i u)
  | [], vs, i, h => by simp only [RDs] at h; subst h; exact rds_nil
  | d :: ds, vs, 0, h => by
    simp only [RDs] at h
    obtain ⟨y, ys, rfl, r', q⟩ := h
    exact rds_cons r q
  | d :: ds, vs, i + 1, h => by
    simp only [RDs] at h
    obtain ⟨y, ys, rfl, r', q⟩ := h
    exact rds_cons r' (RDs.set r i q)
theorem RDs.cut {ds : List D} {vs : List V} (h : RDs K mg μ H ds vs) (lo hi : Option Int) : RDs K mg μ H (cutL ds lo hi) (cutV vs lo hi) := by
  unfold cutL cutV
  rw [h.length]
  exact (h.drop _).take _
theorem rds_app1 {ds : List D} {vs : List V} {d : D} {v : V} (h : RDs K mg μ H ds vs) (r : RD K mg μ H d v) : RDs K mg μ H (ds ++ [d]) (vs ++ [v]) := h.append (rds_cons r rds_nil)
theorem RDs.atI {ds : List D} {vs : List V} {i : Int} {d : D} (h : RDs K mg μ H ds vs) (e : L2.atI ds i = some d) : ∃ v, L2.atI vs i = some v ∧ RD K mg μ H d v := by
  unfold L2.atI at e ⊢
  rw [h.length] at e
  cases q : ixN vs.length i with
  | none => rw [q] at e; cases e
  | some j =>
    rw [q] at e
    exact h.get e
theorem ObR.ext0 (x : Ext0 μ H μ' H') {a : Addr} {o : Ob} (hm : o.mut = true → H' a = H a) (h : ObR K mg μ H a o) : ObR K mg μ' H' a o := by
  cases o with
  | lst ds =>
    obtain ⟨xs, e, r⟩ := h
    exact ⟨xs, by rw [hm rfl]; exact e, RDs.ext0 x r⟩
  | frz ds =>
    obtain ⟨xs, r, e⟩ := h
    refine ⟨xs, RDs.ext0 x r, ?_⟩
    rcases e with ⟨o, e⟩ | e
    · exact .inl ⟨o, x.frz _ _ _ e⟩
    · exact .inr e
  | dK kvs =>
    obtain ⟨kv, e, r⟩ := h
    exact ⟨kv, by rw [hm rfl]; exact e, L2.Paired.mapP r fun p q z => ⟨z.1, RD.ext0 x z.2⟩⟩
  | ins c fs =>
    obtain ⟨C, dx, fv, e0, e, r⟩ := h
    exact ⟨C, dx, fv, e0, by rw [hm rfl]; exact e, L2.Paired.mapP r fun p q z => ⟨z.1, RD.ext0 x z.2⟩⟩
  | hid => trivial
theorem ObR.there {a : Addr} {o : Ob} (hm : o.mut = true) (h : ObR K mg μ H a o) : ∃ u, H a = some u := by
  cases o with
  | lst ds => obtain ⟨xs, e, r⟩ := h; exact ⟨_, e⟩
  | frz ds => cases hm
  | dK kvs => obtain ⟨kv, e, r⟩ := h; exact ⟨_, e⟩
  | ins c fs => obtain ⟨C, dx, fv, e0, e, r⟩ := h; exact ⟨_, e⟩
  | hid => cases hm
/-- it is no tuple, nothing frozen -/
theorem ObR.mutH {a : Addr} {o : Ob} (hm : o.mut = true) (h : ObR K mg μ H a o) : Mut (H a) ∧ (∀ xs, H a ≠ some (.tup xs)) ∧ ∀ o u, H a ≠ some (.frz o u) := by
  cases o with
  | lst ds => obtain ⟨xs, e, r⟩ := h; rw [e]; exact ⟨trivial, by simp, by simp⟩
  | frz ds => cases hm
  | dK kvs => obtain ⟨kv, e, r⟩ := h; rw [e]; exact ⟨trivial, by simp, by simp⟩
  | ins c fs => obtain ⟨C, dx, fv, e0, e, r⟩ := h; rw [e]; exact ⟨trivial, by simp, by simp⟩
  | hid => cases hm
theorem Sim.get {S : Sto} (h : Sim K mg μ S H) {n : Nat} {o : Ob} (e : S[n]? = some o) : ∃ a, μ[n]? = some a ∧ ObR K mg μ H a o := by
  have hl := (List.getElem?_eq_some_iff.mp e).1
  rw [← h.len] at hl
  exact ⟨μ[n], List.getElem?_eq_getElem hl, h.ob n o _ e (List.getElem?_eq_getElem hl)⟩
theorem inM_app {p a : Addr} (h : 0 < μ.length) : InM (μ ++ [p]) a → InM μ a ∨ a = p := by
  rintro ⟨n, hn, e⟩
  by_cases hl : n < μ.length
  · rw [List.getElem?_append_left hl] at e
    exact .inl ⟨n, hn, e⟩
  · rw [List.getElem?_append_right (by omega)] at e
    have : n - μ.length = 0 := by
      cases q : n - μ.length with
      | zero => rfl
      | succ m => rw [q] at e; simp at e
    rw [this] at e; simp at e
    exact .inr e.symm
theorem InM.mono {p a : Addr} : InM μ a → InM (μ ++ [p]) a := by
  rintro ⟨n, hn, e⟩
  exact ⟨n, hn, by rw [List.getElem?_append_left (List.getElem?_eq_some_iff.mp e).1]; exact e⟩
/-- something fresh that is not of the store: a tuple, an iterator's record .. -/
theorem Ext.laid {p : Addr} {u : HO} (hp : H p = none) : Ext μ H μ (upd H p u) :=
  ⟨⟨⟨[], by simp⟩, fun a xs h => by rw [upd_ne (ne_of_none h hp)]; exact h, fun a o u h => by rw [upd_ne (ne_of_none h hp)]; exact h⟩, fun a u h _ => by rw [upd_ne (ne_of_none h hp)]; exact h, fun _ h n => absurd h n⟩
theorem Ext.fresh {p : Addr} {u : HO} (hl : 0 < μ.length) (hp : H p = none) : Ext μ H (μ ++ [p]) (upd H p u) :=
  ⟨⟨⟨[p], rfl⟩, (Ext.laid (μ := μ) (u := u) hp).tup, (Ext.laid (μ := μ) (u := u) hp).frz⟩, (Ext.laid (μ := μ) (u := u) hp).out, fun a h n => by
    rcases inM_app hl h with h | h
    · exact absurd h n
    · rw [h]; exact hp⟩
theorem Sim.muts {S : Sto} (h : Sim K mg μ S H) {n : Nat} {o : Ob} {a : Addr} (e : S[n]? = some o) (hm : o.mut = true) (ea : μ[n]? = some a) : InM μ a := by
  have := h.mutI n o e
  rw [hm] at this
  exact ⟨n, by simpa using this.symm, ea⟩
theorem Sim.inM {S : Sto} (h : Sim K mg μ S H) {a : Addr} (m : InM μ a) : ∃ (n : Nat) (o : Ob), S[n]? = some o ∧ o.mut = true ∧ μ[n]? = some a ∧ ObR K mg μ H a o := by
  obtain ⟨n, hn, e⟩ := m
  have hl := (List.getElem?_eq_some_iff.mp e).1
  rw [h.len] at hl
  have e1 : S[n]? = some S[n] := List.getElem?_eq_getElem hl
  exact ⟨n, S[n], e1, by rw [h.mutI n _ e1]; simpa using hn, e, h.ob n _ a e1 e⟩
theorem Sim.notM {S : Sto} (h : Sim K mg μ S H) {a : Addr} (e : H a = none) : ¬ InM μ a := fun m => by
  obtain ⟨n, o, e1, hm, ea, ho⟩ := h.inM m
  obtain ⟨u, hu⟩ := ho.there hm
  rw [e] at hu; cases hu
theorem Sim.ext_same {S : Sto} (h : Sim K mg μ S H) (x : Ext0 μ H μ H') (k : ∀ a u, H a = some u → InM μ a → Mut (some u) → H' a = some u) : Sim K mg μ S H' := by
  refine ⟨h.len, h.ne, h.mutI, fun n o a e1 e2 => (h.ob n o a e1 e2).ext0 x fun hm => ?_, h.inj⟩
  obtain ⟨u, hu⟩ := (h.ob n o a e1 e2).there hm
  have := ((h.ob n o a e1 e2).mutH hm).1
  rw [hu] at this ⊢
  exact k a u hu (h.muts e1 hm e2) this
theorem Sim.laid {S : Sto} (h : Sim K mg μ S H) {p : Addr} {u : HO} (hp : H p = none) : Sim K mg μ S (upd H p u) :=
  h.ext_same (Ext.laid hp).toExt0 fun a o e _ _ => by rw [upd_ne (ne_of_none e hp)]; exact e
/-- a list that is built beside the store -/
theorem Ext0.side {p : Addr} {xs : List V} {u : HO} (hp : H p = some (.lst xs)) : Ext0 μ H μ (upd H p u) :=
  ⟨⟨[], by simp⟩, fun a ys h => by rw [upd_ne (fun z => by rw [z, hp] at h; cases h)]; exact h, fun a o w h => by rw [upd_ne (fun z => by rw [z, hp] at h; cases h)]; exact h⟩
theorem Sim.side {S : Sto} (h : Sim K mg μ S H) {p : Addr} {xs : List V} {u : HO} (hp : H p = some (.lst xs)) (hn : ¬ InM μ p) : Sim K mg μ S (upd H p u) :=
  h.ext_same (Ext0.side hp) fun a o e m _ => by rw [upd_ne (show a ≠ p from fun z => hn (by rw [← z]; exact m))]; exact e
/-- an address comes into the store -/
theorem Sim.adopt {S : Sto} (h : Sim K mg μ S H) {p : Addr} {o : Ob} (x : Ext0 μ H (μ ++ [p]) H') (hn : ¬ InM μ p) (k : ∀ a, a ≠ p → H' a = H a) (hm : o.mut = true) (ho : ObR K mg (μ ++ [p]) H' p o) : Sim K mg (μ ++ [p]) (S ++ [o]) H' := by
  have hne : 0 < S.length := h.ne
  have old : ∀ (j : Nat) oj a, (S ++ [o])[j]? = some oj → (μ ++ [p])[j]? = some a → j < S.length → S[j]? = some oj ∧ μ[j]? = some a := fun j oj a e1 e2 hj => by
    rw [List.getElem?_append_left hj] at e1
    rw [List.getElem?_append_left (by rw [h.len]; exact hj)] at e2
    exact ⟨e1, e2⟩
  have last : ∀ (j : Nat) oj a, (S ++ [o])[j]? = some oj → (μ ++ [p])[j]? = some a → ¬ j < S.length → j = S.length ∧ oj = o ∧ a = p := fun j oj a e1 e2 hj => by
    have := (List.getElem?_eq_some_iff.mp e1).1
    simp at this
    have hj' : j = S.length := by omega
    subst hj'
    simp at e1
    rw [← h.len] at e2
    simp at e2
    exact ⟨rfl, e1.symm, e2.symm⟩
  refine ⟨by simp [h.len], by simp, fun n o' e => ?_, fun n o' a e1 e2 => ?_, fun m n om on a e1 e2 m1 m2 e3 e4 => ?_⟩
  · by_cases hl : n < S.length
    · rw [List.getElem?_append_left hl] at e
      exact h.mutI n o' e
    · have := (List.getElem?_eq_some_iff.mp e).1
      simp at this
      have hj' : n = S.length := by omega
      subst hj'
      simp at e
      rw [← e, hm]; simpa using hne
  · by_cases hl : n < S.length
    · obtain ⟨a1, a2⟩ := old n o' a e1 e2 hl
      exact (h.ob n o' a a1 a2).ext0 x fun hm' => k a fun z => hn (z ▸ h.muts a1 hm' a2)
    · obtain ⟨_, rfl, rfl⟩ := last n o' a e1 e2 hl
      exact ho
  · by_cases hl : m < S.length
    · obtain ⟨a1, a2⟩ := old m om a e1 e3 hl
      by_cases hl2 : n < S.length
      · obtain ⟨b1, b2⟩ := old n on a e2 e4 hl2
        exact h.inj m n om on a a1 b1 m1 m2 a2 b2
      · obtain ⟨_, _, rfl⟩ := last n on a e2 e4 hl2
        exact absurd (h.muts a1 m1 a2) hn
    · obtain ⟨a0, _, rfl⟩ := last m om a e1 e3 hl
      by_cases hl2 : n < S.length
      · obtain ⟨b1, b2⟩ := old n on _ e2 e4 hl2
        exact absurd (h.muts b1 m2 b2) hn
      · exact a0.trans (last n on _ e2 e4 hl2).1.symm
/-- a new object of the store -/
theorem Sim.new {S : Sto} (h : Sim K mg μ S H) {p : Addr} {u : HO} {o : Ob} (hp : H p = none) (hm : o.mut = true) (ho : ObR K mg (μ ++ [p]) (upd H p u) p o) :
    Ext μ H (μ ++ [p]) (upd H p u) ∧ Sim K mg (μ ++ [p]) (S ++ [o]) (upd H p u) := by
  have x : Ext μ H (μ ++ [p]) (upd H p u) := Ext.fresh (by rw [h.len]; exact h.ne) hp
  exact ⟨x, h.adopt x.toExt0 (h.notM hp) (fun a n => upd_ne n) hm ho⟩
/-- an object of the store is written -/
theorem Sim.write {S : Sto} (h : Sim K mg μ S H) {n : Nat} {o o' : Ob} {a : Addr} {u : HO} (e : S[n]? = some o) (hm : o.mut = true) (hm' : o'.mut = true) (ea : μ[n]? = some a)
    (ho : Ext μ H μ (upd H a u) → ObR K mg μ (upd H a u) a o') : Ext μ H μ (upd H a u) ∧ Sim K mg μ (S.set n o') (upd H a u) := by
  obtain ⟨_, nt, nf⟩ := (h.ob n o a e ea).mutH hm
  have im : InM μ a := h.muts e hm ea
  have x : Ext μ H μ (upd H a u) := ⟨⟨⟨[], by simp⟩, fun b xs hb => by rw [upd_ne (fun z => nt xs (by rw [← z]; exact hb))]; exact hb, fun b o u hb => by rw [upd_ne (fun z => nf o u (by rw [← z]; exact hb))]; exact hb⟩,
    fun b w hb hn => by rw [upd_ne (show b ≠ a from fun z => hn (by rw [z]; exact im))]; exact hb, fun _ h n => absurd h n⟩
  have hn := (List.getElem?_eq_some_iff.mp e).1
  have look : ∀ (j : Nat) oj, (S.set n o')[j]? = some oj → (j = n ∧ oj = o') ∨ (j ≠ n ∧ S[j]? = some oj) := fun j oj ej => by
    by_cases hj : j = n
    · subst hj
      rw [List.getElem?_set_self hn] at ej
      exact .inl ⟨rfl, (Option.some.inj ej).symm⟩
    · rw [List.getElem?_set_ne (Ne.symm hj)] at ej
      exact .inr ⟨hj, ej⟩
  refine ⟨x, ⟨by simp [h.len], by simpa using h.ne, fun j oj ej => ?_, fun j oj b e1 e2 => ?_, fun i j oi oj b e1 e2 m1 m2 e3 e4 => ?_⟩⟩
  · rcases look j oj ej with ⟨rfl, rfl⟩ | ⟨hj, e1⟩
    · rw [hm', ← h.mutI j o e, hm]
    · exact h.mutI j oj e1
  · rcases look j oj e1 with ⟨rfl, rfl⟩ | ⟨hj, e1⟩
    · rw [ea] at e2; cases e2; exact ho x
    · refine (h.ob j oj b e1 e2).ext0 x.toExt0 fun hmj => ?_
      rw [upd_ne]
      rintro rfl
      exact hj (h.inj j n oj o b e1 e hmj hm e2 ea)
  · have lift : ∀ (j : Nat) oj, (S.set n o')[j]? = some oj → oj.mut = true → ∃ ok, S[j]? = some ok ∧ ok.mut = true := fun j oj ej hj => by
      rcases look j oj ej with ⟨rfl, rfl⟩ | ⟨_, ej⟩
      · exact ⟨o, e, hm⟩
      · exact ⟨oj, ej, hj⟩
    obtain ⟨o1, a1, b1⟩ := lift i oi e1 m1
    obtain ⟨o2, a2, b2⟩ := lift j oj e2 m2
    exact h.inj i j o1 o2 b a1 a2 b1 b2 e3 e4
end
end Cor
end
section
set_option linter.all false
set_option maxHeartbeats 1000000
namespace Cor
open PySem PySem.Spec PyProof.Rows L2
section
variable (K : PySem.W.Frag) (mg : Str → Option Value) (μ : List Addr) (H : Hp)
/-- what is wanted of a result: no exception -/
def PostQ (Q : VK) : R D → Prop
  | .ok d S' => ∀ μ' H' v, Ext μ H μ' H' → Sim K mg μ' S' H' → RD K mg μ' H' d v → Q v H'
  | _ => False
end
section
variable {K : PySem.W.Frag} {mg : Str → Option Value} {μ μ' : List Addr} {S : Sto} {H H' : Hp} {Q : VK} {d : D} {v : V}
theorem PostQ.ext {r : R D} (x : Ext μ H μ' H') (h : PostQ K mg μ H Q r) : PostQ K mg μ' H' Q r := by
  cases r with
  | ok d S => exact fun μ2 H2 v x2 hs hr => h μ2 H2 v (x.trans x2) hs hr
  | ex _ _ _ => exact h
  | no => exact h
theorem PostQ.same (h : PostQ K mg μ H Q (.ok d S)) (hs : Sim K mg μ S H) (r : RD K mg μ H d v) : Q v H := h μ H v Ext.refl hs r
theorem PostQ.new {o : Ob} {p : Addr} {u : HO} (h : PostQ K mg μ H Q (newO o S)) (hs : Sim K mg μ S H) (hp : H p = none) (hm : o.mut = true) (ho : Ext μ H (μ ++ [p]) (upd H p u) → ObR K mg (μ ++ [p]) (upd H p u) p o) : Q (.ref p) (upd H p u) := by
  have x : Ext μ H (μ ++ [p]) (upd H p u) := Ext.fresh (by rw [hs.len]; exact hs.ne) hp
  obtain ⟨_, hs'⟩ := hs.new hp hm (ho x)
  refine h _ _ _ x hs' ?_
  simp only [RD]
  exact ⟨p, rfl, by rw [← hs.len]; simp⟩
theorem PostQ.tup {p : Addr} {ds : List D} {xs : List V} (h : PostQ K mg μ H Q (.ok (.tup ds) S)) (hs : Sim K mg μ S H) (hp : H p = none) (r : RDs K mg μ H ds xs) : Q (.ref p) (upd H p (.tup xs)) := by
  refine h _ _ _ (Ext.laid hp) (hs.laid hp) ?_
  simp only [RD]
  exact ⟨p, xs, rfl, .inl (.inl upd_same), r.ext (Ext.laid hp)⟩
theorem rd_int {i : Int} : RD K mg μ H (.int i) (.int i) := by simp only [RD]
theorem rd_bl {i : Bool} : RD K mg μ H (.bl i) (.bl i) := by simp only [RD]
theorem rd_str {i : Str} : RD K mg μ H (.str i) (.str i) := by simp only [RD]
theorem rd_non : RD K mg μ H .non .non := by simp only [RD]
theorem lst_sq {a : Addr} {ds : List D} (h : ObR K mg μ H a (.lst ds)) : ∃ xs, SqL K H a xs ∧ RDs K mg μ H ds xs := by
  obtain ⟨xs, e, r⟩ := h
  exact ⟨xs, SqL.of e, r⟩
theorem frz_sq {a : Addr} {ds : List D} (h : ObR K mg μ H a (.frz ds)) : ∃ xs, SqL K H a xs ∧ RDs K mg μ H ds xs := by
  obtain ⟨xs, r, e⟩ := h
  rcases e with ⟨o, e⟩ | e
  · exact ⟨xs, .inl (.inr ⟨o, e⟩), r⟩
  · exact ⟨xs, e H, r⟩
theorem lstD_sq {n : Nat} {ds : List D} {v : V} (hs : Sim K mg μ S H) (h : lstD S (.ref n) = some ds) (r : RD K mg μ H (.ref n) v) : ∃ a xs, v = .ref a ∧ SqL K H a xs ∧ RDs K mg μ H ds xs := by
  simp only [RD] at r
  obtain ⟨a, rfl, ea⟩ := r
  simp only [lstD] at h
  cases e : S[n]? with
  | none => rw [e] at h; simp at h
  | some o =>
    rw [e] at h
    obtain ⟨a', ea', ho⟩ := hs.get e
    rw [ea] at ea'; cases ea'
    cases o with
    | lst xs =>
      simp at h; subst h
      obtain ⟨ys, h1, h2⟩ := lst_sq ho
      exact ⟨a, ys, rfl, h1, h2⟩
    | frz xs =>
      simp at h; subst h
      obtain ⟨ys, h1, h2⟩ := frz_sq ho
      exact ⟨a, ys, rfl, h1, h2⟩
    | _ => simp at h
end
theorem lstM_of {K : PySem.W.Frag} {mg : Str → Option Value} {μ : List Addr} {S : Sto} {H : Hp} {n : Nat} {ds : List D} {v : V} (hs : Sim K mg μ S H) (h : lstM S (.ref n) = some ds) (r : RD K mg μ H (.ref n) v) : ∃ a xs, v = .ref a ∧ H a = some (.lst xs) ∧ RDs K mg μ H ds xs := by
  simp only [RD] at r
  obtain ⟨a, rfl, ea⟩ := r
  simp only [lstM] at h
  cases e : S[n]? with
  | none => rw [e] at h; simp at h
  | some o =>
    rw [e] at h
    obtain ⟨a', ea', ho⟩ := hs.get e
    rw [ea] at ea'; cases ea'
    cases o with
    | lst xs =>
      simp at h; subst h
      obtain ⟨ys, h1, h2⟩ := ho
      exact ⟨a, ys, rfl, h1, h2⟩
    | _ => simp at h
/-- a two-place primitive -/
def rP2 (K : PySem.W.Frag) (mg : Str → Option Value) (g : D → D → Sto → R D) : R2 := fun x y H Q => ∃ μ S a b, Sim K mg μ S H ∧ RD K mg μ H a x ∧ RD K mg μ H b y ∧ PostQ K mg μ H Q (g a b S)
def rPn (K : PySem.W.Frag) (mg : Str → Option Value) (g : List D → Sto → R D) : List V → Hp → VK → Prop := fun xs H Q => ∃ μ S ds, Sim K mg μ S H ∧ RDs K mg μ H ds xs ∧ PostQ K mg μ H Q (g ds S)
def rPm (K : PySem.W.Frag) (mg : Str → Option Value) (g : D → List D → Sto → R D) : V → List V → Hp → VK → Prop := fun x xs H Q => ∃ μ S a ds, Sim K mg μ S H ∧ RD K mg μ H a x ∧ RDs K mg μ H ds xs ∧ PostQ K mg μ H Q (g a ds S)
section
variable {X : Cx}
theorem of_small {i : Int} (h : smallI i) : -(2 ^ 64) < i ∧ i < 2 ^ 64 := smallI_iff.mp h
theorem rds_rep {K : PySem.W.Frag} {mg : Str → Option Value} {μ : List Addr} {H : Hp} {ds : List D} {xs : List V} (r : RDs K mg μ H ds xs) : ∀ n : Nat, RDs K mg μ H (List.replicate n ds).flatten (List.replicate n xs).flatten
  | 0 => rds_nil
  | n + 1 => by
    simp only [List.replicate_succ, List.flatten_cons]
    exact r.append (rds_rep r n)
theorem op_binD {op : Operator} : OpR X (binaryOp op) (rP2 X.K X.mg (binD op)) := by
  intro pins s σ H x y v u Q I rx ry h
  obtain ⟨μ, S, a, b, hs, ra, rb, hp⟩ := h
  cases a with
  | int i =>
    cases b with
    | int j =>
      simp only [RD] at ra rb
      subst ra; subst rb
      simp only [binD, binI] at hp
      cases op with
      | Add => exact op_add pins s σ H _ _ v u Q I rx ry ⟨i, j, rfl, rfl, hp.same hs rd_int⟩
      | Sub => exact op_sub pins s σ H _ _ v u Q I rx ry ⟨i, j, rfl, rfl, hp.same hs rd_int⟩
      | Mult =>
        dsimp only at hp
        split at hp
        · rename_i hc
          exact op_mul pins s σ H _ _ v u Q I rx ry ⟨i, j, rfl, rfl, hc.imp of_small of_small, hp.same hs rd_int⟩
        · exact hp.elim
      | FloorDiv =>
        dsimp only at hp
        split at hp
        · rename_i hc
          exact op_fdiv pins s σ H _ _ v u Q I rx ry ⟨i, j, rfl, rfl, ⟨hc.1, (small9_iff.mp hc.2).2⟩, hp.same hs rd_int⟩
        · exact hp.elim
      | Mod =>
        dsimp only at hp
        split at hp
        · rename_i hc
          exact op_mod pins s σ H _ _ v u Q I rx ry ⟨i, j, rfl, rfl, hc, hp.same hs rd_int⟩
        · exact hp.elim
      | Pow =>
        dsimp only at hp
        split at hp
        · rename_i hc
          exact op_pow pins s σ H _ _ v u Q I rx ry ⟨i, j, rfl, rfl, hc, hp.same hs rd_int⟩
        · exact hp.elim
      | _ => exact hp.elim
    | _ => exact hp.elim
  | str z =>
    cases b with
    | str z' =>
      simp only [RD] at ra rb
      subst ra; subst rb
      simp only [binD] at hp
      cases op with
      | Add =>
        dsimp only at hp
        split at hp
        · rename_i hc
          exact op_add_str pins s σ H _ _ v u Q I rx ry ⟨z, z', rfl, rfl, hc, hp.same hs rd_str⟩
        · exact hp.elim
      | _ => exact hp.elim
    | _ => exact hp.elim
  | tup ds =>
    cases b with
    | tup es =>
      simp only [binD] at hp
      cases op with
      | Add =>
        simp only [mkTup] at hp
        split at hp
        · rename_i hc
          simp only [RD] at ra rb
          obtain ⟨pa, xs, rfl, sa, qa⟩ := ra
          obtain ⟨pb, ys, rfl, sb, qb⟩ := rb
          refine op_catA pins s σ H _ _ v u Q I rx ry ⟨pa, pb, xs, ys, rfl, rfl, sa, sb, by rw [← qa.length, ← qb.length]; simpa using hc, fun e => ?_, fun _ e => ?_, fun _ _ p hn => hp.tup hs hn (qa.append qb)⟩
          · subst e
            exact hp μ H _ Ext.refl hs (by simp only [RD]; exact ⟨pb, ys, rfl, sb, by simpa using qa.append qb⟩)
          · subst e
            exact hp μ H _ Ext.refl hs (by simp only [RD]; exact ⟨pa, xs, rfl, sa, by simpa using qa.append qb⟩)
        · exact hp.elim
      | _ => exact hp.elim
    | _ => exact hp.elim
  | ref n =>
    cases b with
    | ref m =>
      simp only [binD] at hp
      cases op with
      | Add =>
        dsimp only at hp
        split at hp
        · rename_i ds e1
          split at hp
          · rename_i es e2
            simp only [newL] at hp
            split at hp
            · rename_i hc
              obtain ⟨pa, xs, rfl, sa, qa⟩ := lstM_of hs e1 ra
              obtain ⟨pb, ys, rfl, sb, qb⟩ := lstM_of hs e2 rb
              refine op_cat pins s σ H _ _ v u Q I rx ry ⟨pa, pb, xs, ys, rfl, rfl, sa, sb, by rw [← qa.length, ← qb.length]; simpa using hc, fun p hn => ?_⟩
              exact hp.new hs hn rfl fun x => ⟨_, upd_same, (qa.append qb).ext x⟩
            · exact hp.elim
          · exact hp.elim
        · exact hp.elim
      | _ => exact hp.elim
    | int k =>
      simp only [binD] at hp
      cases op with
      | Mult =>
        dsimp only at hp
        split at hp
        · rename_i ds e1
          split at hp
          · rename_i hc
            obtain ⟨pa, xs, rfl, sa, qa⟩ := lstM_of hs e1 ra
            simp only [RD] at rb
            subst rb
            simp only [newL] at hp
            split at hp
            · refine op_rep pins s σ H _ _ v u Q I rx ry ⟨pa, k, xs, rfl, rfl, sa, by have := small6_iff.mp hc.1; omega, by have := small6_iff.mp hc.1; omega, by rw [← qa.length]; exact hc.2, fun p hn => ?_⟩
              exact hp.new hs hn rfl fun x => ⟨_, upd_same, (rds_rep qa k.toNat).ext x⟩
            · exact hp.elim
          · exact hp.elim
        · exact hp.elim
      | _ => exact hp.elim
    | _ => exact hp.elim
  | _ => exact hp.elim
end
section
variable {K : PySem.W.Frag} {mg : Str → Option Value} {μ : List Addr} {S : Sto} {H : Hp}
theorem optAll_cons {α β : Type} {f : α → Option β} {a : α} {as : List α} {bs : List β} (h : optAll f (a :: as) = some bs) : ∃ b r, f a = some b ∧ optAll f as = some r ∧ bs = b :: r := by
  simp only [optAll] at h
  cases e : f a with
  | none => rw [e] at h; simp at h
  | some b =>
    rw [e] at h
    cases e2 : optAll f as with
    | none => rw [e2] at h; simp at h
    | some r =>
      rw [e2] at h
      simp at h
      exact ⟨b, r, rfl, rfl, h.symm⟩
mutual
theorem lay_noDict : ∀ p : PyData, PyData.canLay0 p = true → PyData.hasDict p = false
  | .none, _ => by simp [PyData.hasDict]
  | .bool _, _ => by simp [PyData.hasDict]
  | .int _, _ => by simp [PyData.hasDict]
  | .str _, _ => by simp [PyData.hasDict]
  | .list xs, h => by simp only [PyData.hasDict]; exact lay_noDictAll xs (by simpa only [PyData.canLay0] using h)
  | .tuple xs, h => by simp only [PyData.hasDict]; exact lay_noDictAll xs (by simpa only [PyData.canLay0] using h)
  | .dict _, h => by simp [PyData.canLay0] at h
theorem lay_noDictAll : ∀ ps : List PyData, PyData.canLayAll0 ps = true → PyData.hasDictAll ps = false
  | [], _ => by simp [PyData.hasDictAll]
  | p :: ps, h => by
    simp only [PyData.canLayAll0, Bool.and_eq_true] at h
    simp only [PyData.hasDictAll, lay_noDict p h.1, lay_noDictAll ps h.2, Bool.or_self]
end
theorem dp_of (hs : Sim K mg μ S H) : ∀ (n : Nat) (d : D) (p : PyData) (v : V), snap S n d = some p → PyData.hasDict p = false → RD K mg μ H d v → Dp K H v p
  | 0, d, p, v, h, _, _ => by simp [snap] at h
  | n + 1, d, p, v, h, hc, r => by
    have all : ∀ (ds : List D) (ps : List PyData) (vs : List V), optAll (snap S n) ds = some ps → PyData.hasDictAll ps = false → RDs K mg μ H ds vs → DpAll K H vs ps := by
      intro ds
      induction ds with
      | nil =>
        intro ps vs h _ r
        simp [optAll] at h; subst h
        simp only [RDs] at r; subst r
        exact .nil
      | cons d ds ih =>
        intro ps vs h hc r
        obtain ⟨b, q, h1, h2, rfl⟩ := optAll_cons h
        simp only [PyData.hasDictAll, Bool.or_eq_false_iff] at hc
        simp only [RDs] at r
        obtain ⟨y, ys, rfl, r1, r2⟩ := r
        exact .cons (dp_of hs n d b y h1 hc.1 r1) (ih q ys h2 hc.2 r2)
    cases d with
    | non => simp [snap] at h; subst h; simp only [RD] at r; subst r; exact .non
    | bl b => simp [snap] at h; subst h; simp only [RD] at r; subst r; exact .bl b
    | int b => simp [snap] at h; subst h; simp only [RD] at r; subst r; exact .int b
    | str b => simp [snap] at h; subst h; simp only [RD] at r; subst r; exact .str b
    | tup ds =>
      simp only [snap] at h
      cases e : optAll (snap S n) ds with
      | none => rw [e] at h; simp at h
      | some ps =>
        rw [e] at h; simp at h; subst h
        simp only [RD] at r
        obtain ⟨a, xs, rfl, sq, rs⟩ := r
        exact .tup sq (all ds ps xs e (by simpa [PyData.hasDict] using hc) rs)
    | ref k =>
      simp only [snap] at h
      cases e : S[k]? with
      | none => rw [e] at h; simp at h
      | some o =>
        rw [e] at h
        cases o with
        | lst ds =>
          simp only at h
          cases e2 : optAll (snap S n) ds with
          | none => rw [e2] at h; simp at h
          | some ps =>
            rw [e2] at h; simp at h; subst h
            obtain ⟨a, xs, rfl, sq, rs⟩ := lstM_of (ds := ds) hs (by simp only [lstM, e]) r
            exact .lst (SqL.of sq) (all ds ps xs e2 (by simpa [PyData.hasDict] using hc) rs)
        | dK kvs =>
          simp only at h
          cases e2 : optAll (fun p => snap S n p.2) kvs with
          | none => rw [e2] at h; simp at h
          | some ps => rw [e2] at h; simp at h; subst h; simp [PyData.hasDict] at hc
        | _ => simp at h
    | _ => simp [snap] at h
end
section
variable {X : Cx}
theorem op_cmpD (hu : X.A.units + 200 < cLine) {op : CmpOp} : OpR X (compareOp op) (rP2 X.K X.mg (cmpD op)) := by
  intro pins s σ H x y v u Q I rx ry h
  obtain ⟨μ, S, a, b, hs, ra, rb, hp⟩ := h
  unfold cmpD at hp
  cases e : cmpO op a b S with
  | none => rw [e] at hp; exact hp.elim
  | some c =>
    rw [e] at hp
    have q : Q (.bl c) H := hp.same hs rd_bl
    clear hp
    -- == of two
    have eqs : ∀ c, eqD S a b = some c → (∃ w1 w2, a = .str w1 ∧ b = .str w2 ∧ c = (w1 == w2)) ∨ (∃ i j, a = .int i ∧ b = .int j ∧ c = (i == j)) ∨ (∃ i j, a = .bl i ∧ b = .bl j ∧ c = (i == j)) ∨ ∃ p q, Dp X.K H x p ∧ Dp X.K H y q ∧ SeqAt.shaped p = true ∧ SeqAt.shaped q = true ∧ c = PyData.eqv p q := by
      intro c e
      unfold eqD at e
      split at e
      · exact .inl ⟨_, _, rfl, rfl, (Option.some.inj e).symm.trans (strB_eq _ _)⟩
      · exact .inr (.inl ⟨_, _, rfl, rfl, (Option.some.inj e).symm⟩)
      · exact .inr (.inr (.inl ⟨_, _, rfl, rfl, (Option.some.inj e).symm⟩))
      · split at e
        · rename_i p e1
          split at e
          · rename_i q' e2
            split at e
            · rename_i hh
              exact .inr (.inr (.inr ⟨p, q', dp_of hs _ _ _ _ e1 (lay_noDict _ (SeqAt.canLay_of_shaped hh.1)) ra, dp_of hs _ _ _ _ e2 (lay_noDict _ (SeqAt.canLay_of_shaped hh.2)) rb, hh.1, hh.2, (Option.some.inj e).symm⟩))
            · cases e
          · cases e
        · cases e
    have ins : ∀ c, inD S a b = some c → (∃ w1 w2, a = .str w1 ∧ b = .str w2 ∧ c = inStr w1 w2) ∨ ∃ p ps, Dp X.K H x p ∧ SeqAt.shaped p = true ∧ c = (ps.any fun y => PyData.eqv y p) ∧ ((Dp X.K H y (.list ps) ∧ SeqAt.shaped (.list ps) = true) ∨ (Dp X.K H y (.tuple ps) ∧ SeqAt.shaped (.tuple ps) = true)) := by
      intro c e
      unfold inD at e
      split at e
      · exact .inl ⟨_, _, rfl, rfl, (Option.some.inj e).symm⟩
      · cases e
      · split at e
        · split at e
          · rename_i p e1
            split at e
            · rename_i qs e2
              split at e
              · rename_i hh
                exact .inr ⟨p, qs, dp_of hs _ _ _ _ e1 (lay_noDict _ (SeqAt.canLay_of_shaped hh.1)) ra, hh.1, (Option.some.inj e).symm, .inl ⟨dp_of hs _ _ _ _ e2 (lay_noDict _ (SeqAt.canLay_of_shaped hh.2)) rb, hh.2⟩⟩
              · cases e
            · cases e
          · cases e
        · cases e
      · split at e
        · rename_i p e1
          split at e
          · rename_i qs e2
            split at e
            · rename_i hh
              exact .inr ⟨p, qs, dp_of hs _ _ _ _ e1 (lay_noDict _ (SeqAt.canLay_of_shaped hh.1)) ra, hh.1, (Option.some.inj e).symm, .inr ⟨dp_of hs _ _ _ _ e2 (lay_noDict _ (SeqAt.canLay_of_shaped hh.2)) rb, hh.2⟩⟩
            · cases e
          · cases e
        · cases e
      · cases e
    cases op with
    | Eq =>
      rcases eqs c e with ⟨i, j, rfl, rfl, rfl⟩ | ⟨i, j, rfl, rfl, rfl⟩ | ⟨i, j, rfl, rfl, rfl⟩ | ⟨p, p', d1, d2, s1, s2, rfl⟩
      · simp only [RD] at ra rb; subst ra; subst rb
        exact op_eq pins s σ H _ _ v u Q I rx ry ⟨rfl, by rw [dec_str]; exact q⟩
      · simp only [RD] at ra rb; subst ra; subst rb
        exact op_eq pins s σ H _ _ v u Q I rx ry ⟨rfl, by rw [dec_int]; exact q⟩
      · simp only [RD] at ra rb; subst ra; subst rb
        exact op_eq pins s σ H _ _ v u Q I rx ry ⟨rfl, by rw [dec_bl]; exact q⟩
      · exact op_eqD (by omega) pins s σ H _ _ v u Q I rx ry ⟨p, p', d1, d2, s1, s2, q⟩
    | NotEq =>
      simp only [cmpO] at e
      cases e3 : eqD S a b with
      | none => rw [e3] at e; cases e
      | some c' =>
        rw [e3] at e
        have e' : (!c') = c := Option.some.inj e
        subst e'
        rcases eqs c' e3 with ⟨i, j, rfl, rfl, rfl⟩ | ⟨i, j, rfl, rfl, rfl⟩ | ⟨i, j, rfl, rfl, rfl⟩ | ⟨p, p', d1, d2, s1, s2, rfl⟩
        · simp only [RD] at ra rb; subst ra; subst rb
          exact op_ne pins s σ H _ _ v u Q I rx ry ⟨rfl, by rw [dec_str]; exact q⟩
        · simp only [RD] at ra rb; subst ra; subst rb
          exact op_ne pins s σ H _ _ v u Q I rx ry ⟨rfl, by rw [dec_int]; exact q⟩
        · simp only [RD] at ra rb; subst ra; subst rb
          exact op_ne pins s σ H _ _ v u Q I rx ry ⟨rfl, by rw [dec_bl]; exact q⟩
        · exact op_neD (by omega) pins s σ H _ _ v u Q I rx ry ⟨p, p', d1, d2, s1, s2, q⟩
    | Lt =>
      simp only [cmpO] at e
      split at e
      · simp only [RD] at ra rb; subst ra; subst rb
        cases e
        exact op_lt pins s σ H _ _ v u Q I rx ry ⟨_, _, rfl, rfl, q⟩
      · cases e
    | LtE =>
      simp only [cmpO] at e
      split at e
      · simp only [RD] at ra rb; subst ra; subst rb
        cases e
        exact op_le pins s σ H _ _ v u Q I rx ry ⟨_, _, rfl, rfl, q⟩
      · cases e
    | Gt =>
      simp only [cmpO] at e
      split at e
      · simp only [RD] at ra rb; subst ra; subst rb
        cases e
        exact op_gt pins s σ H _ _ v u Q I rx ry ⟨_, _, rfl, rfl, q⟩
      · cases e
    | GtE =>
      simp only [cmpO] at e
      split at e
      · simp only [RD] at ra rb; subst ra; subst rb
        cases e
        exact op_ge pins s σ H _ _ v u Q I rx ry ⟨_, _, rfl, rfl, q⟩
      · cases e
    | Is =>
      simp only [cmpO] at e
      split at e
      · simp only [RD] at rb; subst rb
        cases e
        refine op_isN pins s σ H _ _ v u Q I rx ry ⟨rfl, ?_⟩
        have : decide (x = V.non) = isNone a := by
          cases a <;> simp only [RD] at ra <;> first | (subst ra; simp [isNone]) | (obtain ⟨_, _, rfl, _⟩ := ra; simp [isNone]) | (obtain ⟨_, rfl, _⟩ := ra; simp [isNone])
        rw [this]; exact q
      · split at e
        · simp only [RD] at ra rb; subst ra; subst rb
          cases e
          exact op_isBl pins s σ H _ _ v u Q I rx ry ⟨_, _, rfl, rfl, q⟩
        · cases e
      · cases e
    | IsNot =>
      simp only [cmpO] at e
      split at e
      · simp only [RD] at rb; subst rb
        cases e
        refine op_notN pins s σ H _ _ v u Q I rx ry ⟨rfl, ?_⟩
        have : decide (x = V.non) = isNone a := by
          cases a <;> simp only [RD] at ra <;> first | (subst ra; simp [isNone]) | (obtain ⟨_, _, rfl, _⟩ := ra; simp [isNone]) | (obtain ⟨_, rfl, _⟩ := ra; simp [isNone])
        rw [this]; exact q
      · split at e
        · simp only [RD] at ra rb; subst ra; subst rb
          cases e
          exact op_notBl pins s σ H _ _ v u Q I rx ry ⟨_, _, rfl, rfl, q⟩
        · cases e
      · cases e
    | In =>
      rcases ins c e with ⟨i, j, rfl, rfl, rfl⟩ | ⟨p, ps, d1, s1, rfl, d2 | d2⟩
      · simp only [RD] at ra rb; subst ra; subst rb
        exact op_in_str pins s σ H _ _ v u Q I rx ry ⟨_, _, rfl, rfl, q⟩
      · obtain ⟨d2, s2⟩ := d2
        obtain ⟨as, r1⟩ := Dp.reads I p x v d1 rx
        obtain ⟨bs, r2⟩ := Dp.reads I (.list ps) y u d2 ry
        exact SeqAt.in_list_reads r2 r1 (SeqAt.canLay_of_shaped s2) (SeqAt.canLay_of_shaped s1) (room_in_shaped s1 (by omega)) ⟨.bl _, H, I, rfl, q⟩
      · obtain ⟨d2, s2⟩ := d2
        obtain ⟨as, r1⟩ := Dp.reads I p x v d1 rx
        obtain ⟨bs, r2⟩ := Dp.reads I (.tuple ps) y u d2 ry
        exact SeqAt.in_tuple_reads r2 r1 (SeqAt.canLay_of_shaped s2) (SeqAt.canLay_of_shaped s1) (room_in_shaped s1 (by omega)) ⟨.bl _, H, I, rfl, q⟩
    | NotIn =>
      simp only [cmpO] at e
      cases e3 : inD S a b with
      | none => rw [e3] at e; cases e
      | some c' =>
        rw [e3] at e
        have e' : (!c') = c := Option.some.inj e
        subst e'
        rcases ins c' e3 with ⟨i, j, rfl, rfl, rfl⟩ | ⟨p, ps, d1, s1, rfl, d2 | d2⟩
        · simp only [RD] at ra rb; subst ra; subst rb
          exact op_notin_str pins s σ H _ _ v u Q I rx ry ⟨_, _, rfl, rfl, q⟩
        · obtain ⟨d2, s2⟩ := d2
          obtain ⟨as, r1⟩ := Dp.reads I p x v d1 rx
          obtain ⟨bs, r2⟩ := Dp.reads I (.list ps) y u d2 ry
          exact SeqAt.notIn_list_reads r2 r1 (SeqAt.canLay_of_shaped s2) (SeqAt.canLay_of_shaped s1) (room_in_shaped s1 (by omega)) ⟨.bl _, H, I, rfl, q⟩
        · obtain ⟨d2, s2⟩ := d2
          obtain ⟨as, r1⟩ := Dp.reads I p x v d1 rx
          obtain ⟨bs, r2⟩ := Dp.reads I (.tuple ps) y u d2 ry
          exact SeqAt.notIn_tuple_reads r2 r1 (SeqAt.canLay_of_shaped s2) (SeqAt.canLay_of_shaped s1) (room_in_shaped s1 (by omega)) ⟨.bl _, H, I, rfl, q⟩
end
end Cor
end
section
set_option linter.all false
set_option maxHeartbeats 1000000
namespace Cor
open PySem PySem.Spec PyProof.Rows L2
section
variable {K : PySem.W.Frag} {mg : Str → Option Value} {μ : List Addr} {S : Sto} {H : Hp}
/-- what stands at a number -/
theorem ref_at {n : Nat} {v : V} {o : Ob} (hs : Sim K mg μ S H) (r : RD K mg μ H (.ref n) v) (e : S[n]? = some o) : ∃ a, v = .ref a ∧ μ[n]? = some a ∧ ObR K mg μ H a o := by
  simp only [RD] at r
  obtain ⟨a, rfl, ea⟩ := r
  obtain ⟨a', ea', ho⟩ := hs.get e
  rw [ea] at ea'; cases ea'
  exact ⟨a, rfl, ea, ho⟩
theorem seq_at {d : D} {v : V} {ds : List D} (hs : Sim K mg μ S H) (r : RD K mg μ H d v) (e : seqD S d = some ds) : ∃ a xs, v = .ref a ∧ (SqL K H a xs ∨ SqT K H a xs) ∧ RDs K mg μ H ds xs ∧ (∀ es, d = .tup es → SqT K H a xs) ∧ (∀ n, d = .ref n → SqL K H a xs) := by
  cases d with
  | tup es =>
    simp only [seqD] at e
    cases e
    simp only [RD] at r
    obtain ⟨a, xs, rfl, sq, rs⟩ := r
    exact ⟨a, xs, rfl, .inr sq, rs, fun _ _ => sq, (fun _ z => nomatch z)⟩
  | ref n =>
    have e' : lstD S (.ref n) = some ds := e
    obtain ⟨a, xs, rfl, sq, rs⟩ := lstD_sq hs e' r
    exact ⟨a, xs, rfl, .inl sq, rs, (fun _ z => nomatch z), fun _ _ => sq⟩
  | _ => simp [seqD] at e
theorem isEmpty_rds {ds : List D} {xs : List V} (r : RDs K mg μ H ds xs) : ds.isEmpty = xs.isEmpty := by
  have := r.length
  cases ds <;> cases xs <;> simp_all
theorem truthy_of {d : D} {v : V} {b : Bool} (hs : Sim K mg μ S H) (r : RD K mg μ H d v) (e : truthy S d = some b) : TruV K v H b := by
  cases d with
  | non => simp only [RD] at r; subst r; simp [truthy] at e; subst e; rfl
  | bl c => simp only [RD] at r; subst r; simp [truthy] at e; subst e; rfl
  | int c => simp only [RD] at r; subst r; simp only [truthy] at e; exact (Option.some.inj e).symm
  | str c =>
    simp only [RD] at r; subst r; simp only [truthy] at e
    split at e
    · rename_i h; exact ⟨h, (Option.some.inj e).symm⟩
    · cases e
  | tup ds =>
    simp only [RD] at r
    obtain ⟨a, xs, rfl, sq, rs⟩ := r
    simp only [truthy] at e
    have e' := Option.some.inj e
    subst e'
    exact .inr (.inl ⟨xs, sq, by rw [isEmpty_rds rs]⟩)
  | ref n =>
    simp only [truthy] at e
    cases eo : S[n]? with
    | none => rw [eo] at e; simp at e
    | some o =>
      rw [eo] at e
      obtain ⟨a, rfl, _, ho⟩ := ref_at hs r eo
      cases o with
      | lst ds =>
        obtain ⟨xs, sq, rs⟩ := lst_sq ho
        have e' := Option.some.inj e
        subst e'
        exact .inl ⟨xs, sq, by rw [isEmpty_rds rs]⟩
      | frz ds =>
        obtain ⟨xs, sq, rs⟩ := frz_sq ho
        have e' := Option.some.inj e
        subst e'
        exact .inl ⟨xs, sq, by rw [isEmpty_rds rs]⟩
      | dK kvs =>
        obtain ⟨kv, hk, rs⟩ := ho
        have e' := Option.some.inj e
        subst e'
        refine .inr (.inr ⟨kv, hk, ?_⟩)
        cases rs <;> rfl
      | ins c fs => simp at e
      | hid => simp at e
  | _ => simp [truthy] at e
theorem blsD_of : ∀ {ds : List D} {bs : List Bool} {xs : List V}, blsD ds = some bs → RDs K mg μ H ds xs → xs = bs.map V.bl
  | [], bs, xs, h, r => by simp [blsD] at h; subst h; simp only [RDs] at r; subst r; rfl
  | d :: ds, bs, xs, h, r => by
    cases d with
    | bl b =>
      simp only [blsD] at h
      split at h
      · rename_i cs e
        have h' := Option.some.inj h
        subst h'
        simp only [RDs] at r
        obtain ⟨y, ys, rfl, r1, r2⟩ := r
        simp only [RD] at r1
        subst r1
        rw [blsD_of e r2]; rfl
      · cases h
    | _ => simp [blsD] at h
theorem rds_one {d : D} {xs : List V} (r : RDs K mg μ H [d] xs) : ∃ x, xs = [x] ∧ RD K mg μ H d x := by
  simp only [RDs] at r
  obtain ⟨y, ys, rfl, r1, rfl⟩ := r
  exact ⟨y, rfl, r1⟩
theorem rds_two {d e : D} {xs : List V} (r : RDs K mg μ H [d, e] xs) : ∃ x y, xs = [x, y] ∧ RD K mg μ H d x ∧ RD K mg μ H e y := by
  simp only [RDs] at r
  obtain ⟨y, ys, rfl, r1, z, zs, rfl, r2, rfl⟩ := r
  exact ⟨y, z, rfl, r1, r2⟩
end
section
variable {X : Cx} {pins : List (Addr × Obj)} {σ : L2.St} {H : Hp} {s : Shared} {μ : List Addr} {S : Sto}
theorem dict_reads {kvs : List (Key × D)} {ps : List PyData} {m : Nat} (hs : Sim X.K X.mg μ S H) (I : Inv X pins σ H s) {h : Heap} (hh : h = s.heap) :
    optAll (fun p => snap S m p.2) kvs = some ps → (∀ p ∈ (kvs.map fun p => okey p.1).zip ps, flatP p.1 = true ∧ flatP p.2 = true) →
    ∀ {kv : List (Key × V)} {vs : List (Key × Value)} {es : List DictEntry}, Paired (fun (p : Key × D) (q : Key × V) => p.1 = q.1 ∧ RD X.K X.mg μ H p.2 q.2) kvs kv → KV kv vs → Pairs (mixKind X.prog X.w) es vs →
    ReadsAll h (es.map (·.key)) (((kvs.map fun p => okey p.1).zip ps).map (·.1)) [] ∧ ReadsAll h (es.map (·.val)) (((kvs.map fun p => okey p.1).zip ps).map (·.2)) [] := by
  subst hh
  induction kvs generalizing ps with
  | nil =>
    intro h _ kv vs es a b c
    simp [optAll] at h; subst h
    cases a; cases b; cases c
    exact ⟨.nil, .nil⟩
  | cons p kvs ih =>
    intro h hf kv vs es a b c
    obtain ⟨q, r, h1, h2, rfl⟩ := optAll_cons h
    cases a with
    | cons a1 a2 =>
      cases b with
      | cons b1 b2 =>
        cases c with
        | cons c1 c2 c3 =>
          rename_i kv1 kvr vs1 vsr e er
          obtain ⟨k1, k2⟩ := ih (ps := r) h2 (fun x hx => hf x (by simp only [List.map_cons, List.zip_cons_cons]; exact List.mem_cons_of_mem _ hx)) a2 b2 c3
          obtain ⟨f1, f2⟩ := hf (okey p.1, q) (by simp only [List.map_cons, List.zip_cons_cons]; exact List.mem_cons_self)
          obtain ⟨x1, x2⟩ := a1
          obtain ⟨y1, y2⟩ := b1
          have hkey : keyIs vs1.1 e.key = true := c1
          have rk : Reads s.heap e.key (okey p.1) [] := by
            rw [x1, y1]
            cases hv : vs1.1 with
            | inl i =>
              rw [hv] at hkey
              obtain ⟨t, ht⟩ := Value.isInt_shape (k := i) (v := e.key) hkey
              rw [ht]; exact .int _ _
            | inr i =>
              rw [hv] at hkey
              obtain ⟨t, ht⟩ := Value.isStrOf_shape (x := i) (v := e.key) hkey
              rw [ht]; exact .str _ _
          have rv : Reads s.heap e.val q [] := by
            rw [c2]
            have hc : PyData.hasDict q = false := by
              cases q <;> simp [flatP] at f2 <;> simp [PyData.hasDict]
            have dp := dp_of hs _ _ _ _ h1 hc x2
            obtain ⟨as, hr⟩ := Dp.reads I q _ _ dp y2
            clear y2
            generalize vs1.2 = w1 at hr ⊢
            cases hr with
            | list _ _ _ _ => simp [flatP] at f2
            | tuple _ _ _ _ => simp [flatP] at f2
            | dict _ _ _ _ _ => simp [flatP] at f2
            | none => exact .none
            | bool b => exact .bool b
            | int i t => exact .int i t
            | str x t => exact .str x t
          refine ⟨?_, ?_⟩
          · have := ReadsAll.cons rk k1
            simpa using this
          · have := ReadsAll.cons rv k2
            simpa using this
end
end Cor
end
section
set_option linter.all false
set_option maxHeartbeats 1000000
namespace Cor
open PySem PySem.Spec PyProof.Rows L2
section
variable {X : Cx}
def rT (K : PySem.W.Frag) (mg : Str → Option Value) : V → Hp → (Bool → Hp → Prop) → Prop := fun x H Q => ∃ μ S d b, Sim K mg μ S H ∧ RD K mg μ H d x ∧ truthy S d = some b ∧ Q b H
theorem tr_D : TruR X (rT X.K X.mg) := by
  intro pins s σ H x v Q I rx h
  obtain ⟨μ, S, d, b, hs, rd, e, q⟩ := h
  exact tru_ok pins s σ H x v Q I rx ⟨b, truthy_of hs rd e, q⟩
theorem ix_D : IxR X (rP2 X.K X.mg (fun a i S => ofO S (ixD S a i))) := by
  intro value slice pins s σ H x y v u Q I rx ry h hs
  obtain ⟨μ, S, a, i, hS, ra, ri, hp⟩ := h
  dsimp only at hp
  cases e : ixD S a i with
  | none => rw [e] at hp; exact hp.elim
  | some d =>
    rw [e] at hp
    have q : ∀ v, RD X.K X.mg μ H d v → Q v H := fun v r => hp.same hS r
    clear hp
    cases i with
    | int k =>
      simp only [RD] at ri; subst ri
      simp only [ixD] at e
      cases a with
      | tup ds =>
        simp only at e
        simp only [RD] at ra
        obtain ⟨pa, xs, rfl, sq, rs⟩ := ra
        obtain ⟨w, h1, h2⟩ := rs.atI e
        exact ix_tup value slice pins s σ H _ _ v u Q I rx ry ⟨pa, xs, k, w, rfl, rfl, sq, h1, q w h2⟩ hs
      | str z =>
        simp only at e
        simp only [RD] at ra; subst ra
        split at e
        · rename_i hz
          split at e
          · rename_i c hc
            have e' := Option.some.inj e
            subst e'
            exact ix_str value slice pins s σ H _ _ v u Q I rx ry ⟨z, k, c, rfl, rfl, hz, hc, q _ rd_str⟩ hs
          · cases e
        · cases e
      | ref n =>
        simp only at e
        cases eo : S[n]? with
        | none => rw [eo] at e; simp at e
        | some o =>
          rw [eo] at e
          obtain ⟨pa, rfl, _, ho⟩ := ref_at hS ra eo
          cases o with
          | lst ds =>
            obtain ⟨xs, sq, rs⟩ := lst_sq ho
            obtain ⟨w, h1, h2⟩ := rs.atI e
            exact ix_list value slice pins s σ H _ _ v u Q I rx ry ⟨pa, xs, k, w, rfl, rfl, sq, h1, q w h2⟩ hs
          | frz ds =>
            obtain ⟨xs, sq, rs⟩ := frz_sq ho
            obtain ⟨w, h1, h2⟩ := rs.atI e
            exact ix_list value slice pins s σ H _ _ v u Q I rx ry ⟨pa, xs, k, w, rfl, rfl, sq, h1, q w h2⟩ hs
          | _ => simp at e
      | _ => simp at e
    | _ => simp [ixD] at e
def rSl (K : PySem.W.Frag) (mg : Str → Option Value) : V → Option Int → Option Int → Hp → VK → Prop := fun x lo hi H Q => ∃ μ S a, Sim K mg μ S H ∧ RD K mg μ H a x ∧ PostQ K mg μ H Q (cutD a lo hi S)
theorem cutL_whole {ds : List D} {lo hi : Option Int} (h : HT.sIx ds.length 0 lo = 0 ∧ HT.sIx ds.length ds.length hi = ds.length) : cutL ds lo hi = ds := by
  unfold cutL
  rw [h.1, h.2]
  simp
theorem sl_D : SlR X (rSl X.K X.mg) := by
  intro pins s σ H x v vl vu lo hi sl Q I rx hsl pl pu h
  obtain ⟨μ, S, a, hS, ra, hp⟩ := h
  cases a with
  | tup ds =>
    simp only [cutD] at hp
    simp only [RD] at ra
    obtain ⟨pa, xs, rfl, sq, rs⟩ := ra
    refine sl_tupA pins s σ H _ v vl vu lo hi sl Q I rx hsl pl pu ⟨pa, xs, rfl, sq, fun hw => ?_, fun _ p hn => hp.tup hS hn (rs.cut lo hi)⟩
    rw [← rs.length] at hw
    refine hp.same hS ?_
    simp only [RD]
    exact ⟨pa, xs, rfl, sq, by rw [cutL_whole hw]; exact rs⟩
  | ref n =>
    simp only [cutD] at hp
    cases eo : S[n]? with
    | none => rw [eo] at hp; exact hp.elim
    | some o =>
      rw [eo] at hp
      obtain ⟨pa, rfl, _, ho⟩ := ref_at hS ra eo
      cases o with
      | lst ds =>
        obtain ⟨xs, sq, rs⟩ := lst_sq ho
        exact sl_list pins s σ H _ v vl vu lo hi sl Q I rx hsl pl pu ⟨pa, xs, rfl, sq, fun p hn => hp.new hS hn rfl fun x => ⟨_, upd_same, (rs.cut lo hi).ext x⟩⟩
      | frz ds =>
        obtain ⟨xs, sq, rs⟩ := frz_sq ho
        exact sl_list pins s σ H _ v vl vu lo hi sl Q I rx hsl pl pu ⟨pa, xs, rfl, sq, fun p hn => hp.new hS hn rfl fun x => ⟨_, upd_same, (rs.cut lo hi).ext x⟩⟩
      | _ => exact hp.elim
  | _ => exact hp.elim
theorem ty_of {K : PySem.W.Frag} {mg : Str → Option Value} {μ : List Addr} {S : Sto} {H : Hp} {d : D} {x : V} {t : Kd} (hs : Sim K mg μ S H) (r : RD K mg μ H d x) (e : kdOf S d = some t) :
    TyX K H x (.type t.nm) := by
  cases d with
  | non => simp only [RD] at r; subst r; cases e; exact .base .non
  | bl c => simp only [RD] at r; subst r; cases e; exact .base (.bl c)
  | int c => simp only [RD] at r; subst r; cases e; exact .base (.int c)
  | str c => simp only [RD] at r; subst r; cases e; exact .base (.str c)
  | tup ds =>
    cases e
    simp only [RD] at r
    obtain ⟨a, xs, rfl, sq, rs⟩ := r
    rcases sq with (h | ⟨o, h⟩) | ⟨o, its, n, hk, hc, hd, _⟩
    · exact .base (.tup h)
    · exact .fTuple h
    · exact .kTuple hk hc
  | ref n =>
    simp only [kdOf] at e
    cases eo : S[n]? with
    | none => rw [eo] at e; simp at e
    | some o =>
      rw [eo] at e
      obtain ⟨a, rfl, _, ho⟩ := ref_at hs r eo
      cases o with
      | lst ds =>
        cases e
        obtain ⟨xs, h, _⟩ := ho
        exact .base (.lst h)
      | frz ds =>
        cases e
        obtain ⟨xs, _, h⟩ := ho
        rcases h with ⟨o, h⟩ | h
        · exact .base (.frz h)
        · rcases h (fun _ => none) with (h | ⟨o, h⟩) | ⟨o, its, n, hk, hc, _⟩
          · cases h
          · cases h
          · exact .kList hk hc
      | dK kvs =>
        cases e
        obtain ⟨kv, h, _⟩ := ho
        exact .base (.dK h)
      | ins c fs => simp at e
      | hid => simp at e
  | _ => simp [kdOf] at e
theorem tysD_of {K : PySem.W.Frag} {mg : Str → Option Value} {μ : List Addr} {H : Hp} : ∀ {cs : List D} {ns : List Ty} {xs : List V}, tysD cs = some ns → RDs K mg μ H cs xs →
    Paired ClsV xs (ns.map fun t => Value.type t.nm)
  | [], ns, xs, h, r => by
    simp only [RDs] at r; subst r
    simp [tysD] at h; subst h
    exact .nil
  | c :: cs, ns, xs, h, r => by
    cases c with
    | ty n =>
      simp only [RDs] at r
      obtain ⟨y, ys, rfl, r1, r2⟩ := r
      simp only [RD] at r1; subst r1
      simp only [tysD] at h
      split at h
      · rename_i ms e
        have h' := Option.some.inj h
        subst h'
        exact .cons (.ty n.nm) (tysD_of e r2)
      · cases h
    | _ => simp [tysD] at h
theorem isAnyT_of {K : PySem.W.Frag} {t : Kd} : ∀ {ns : List Ty}, PySem.W.kitAny K (.type t.nm) (ns.map fun t => Value.type t.nm) = some (ns.any (kitF t))
  | [] => rfl
  | n :: ns => by
    rw [List.any_cons]
    cases e : kitF t n with
    | true => exact kitAny_cons (kit_ty ((kitF_ok t n).trans (by rw [e]))) (fun z => by cases z) fun _ => rfl
    | false => exact kitAny_cons (kit_ty ((kitF_ok t n).trans (by rw [e]))) (fun _ => isAnyT_of) fun z => by cases z
theorem isi_D : CallR X (.builtin "isinstance") (rPn X.K X.mg (callB .isinstance)) := by
  intro pins s σ H xs us Q I r h
  obtain ⟨μ, S, ds, hS, rs, hp⟩ := h
  simp only [callB] at hp
  split at hp <;> try exact hp.elim
  all_goals try (rename_i heq; cases heq)
  rename_i a c
  split at hp
  · rename_i b e
    have q : Q (.bl b) H := hp.same hS rd_bl
    clear hp
    unfold isinstD at e
    split at e
    · rename_i t et
      obtain ⟨x, y, rfl, r1, r2⟩ := rds_two rs
      have ty := ty_of hS r1 et
      split at e
      · rename_i n
        have e' := Option.some.inj e
        subst e'
        simp only [RD] at r2; subst r2
        exact call_isi pins s σ H _ us Q I r ⟨x, _, _, _, _, rfl, .ty n.nm, ty, kit_ty (kitF_ok t n), q⟩
      · rename_i cs
        split at e
        · rename_i ns en
          have e' := Option.some.inj e
          subst e'
          simp only [RD] at r2
          obtain ⟨tp, cv, rfl, sq, rc⟩ := r2
          obtain ⟨u1, u2, rfl, w1, w2⟩ := vals2 r
          cases (show u2 = Value.ref tp from w2)
          obtain ⟨P, Z, p, hx⟩ := kit_of I w1 ty
          obtain ⟨its, rv, ⟨o, h1, h2, n, h3⟩, hz⟩ := I.tuple sq
          have e3 := ClsV.all (tysD_of en rc) rv
          subst e3
          obtain ⟨oc, od, dt, sl⟩ := o
          simp only at h2 h3
          subst h2 h3
          exact PySem.W.kia_tup Z I.kIn p h1 isAnyT_of hx fun tk => ⟨.bl _, H, I.tok tk, rfl, q⟩
        · cases e
      · cases e
    · cases e
  · exact hp.elim
end
end Cor
end
section
set_option linter.all false
set_option maxHeartbeats 1000000
namespace Cor
open PySem PySem.Spec PyProof.Rows L2 PySem.Calls
section
variable {X : Cx}
theorem rds_nil' {K : PySem.W.Frag} {mg : Str → Option Value} {μ : List Addr} {H : Hp} {xs : List V} (r : RDs K mg μ H [] xs) : xs = [] := by simpa only [RDs] using r
theorem len_D : CallR X (.builtin "len") (rPn X.K X.mg (callB .len)) := by
  intro pins s σ H xs us Q I r h
  obtain ⟨μ, S, ds, hS, rs, hp⟩ := h
  match ds, rs, hp with
  | [a], rs, hp =>
    simp only [callB] at hp
    obtain ⟨x, rfl, r1⟩ := rds_one rs
    cases e : lenD S a with
    | none => rw [e] at hp; exact hp.elim
    | some n =>
      rw [e] at hp
      have q : Q (.int n) H := hp.same hS rd_int
      cases a with
      | str z =>
        simp only [RD] at r1; subst r1
        simp only [lenD] at e
        split at e
        · rename_i hz
          cases e
          exact call_len_str pins s σ H _ us Q I r ⟨z, rfl, hz, q⟩
        · cases e
      | tup ds =>
        cases e
        simp only [RD] at r1
        obtain ⟨p, ys, rfl, sq, rr⟩ := r1
        exact call_len_seq pins s σ H _ us Q I r ⟨p, ys, rfl, .inr sq, by rw [← rr.length]; exact q⟩
      | ref k =>
        simp only [lenD] at e
        cases eo : S[k]? with
        | none => rw [eo] at e; simp at e
        | some o =>
          rw [eo] at e
          obtain ⟨p, rfl, _, ho⟩ := ref_at hS r1 eo
          cases o with
          | lst ds =>
            cases e
            obtain ⟨ys, sq, rr⟩ := lst_sq ho
            exact call_len_seq pins s σ H _ us Q I r ⟨p, ys, rfl, .inl sq, by rw [← rr.length]; exact q⟩
          | frz ds =>
            cases e
            obtain ⟨ys, sq, rr⟩ := frz_sq ho
            exact call_len_seq pins s σ H _ us Q I r ⟨p, ys, rfl, .inl sq, by rw [← rr.length]; exact q⟩
          | _ => simp at e
      | _ => simp [lenD] at e
  | [], rs, hp => exact hp.elim
  | _ :: _ :: _, rs, hp => exact hp.elim
theorem all_D (hc : X.calm = true) : CallR X (.builtin "all") (rPn X.K X.mg (callB .all)) := by
  intro pins s σ H xs us Q I r h
  obtain ⟨μ, S, ds, hS, rs, hp⟩ := h
  match ds, rs, hp with
  | [a], rs, hp =>
    simp only [callB] at hp
    obtain ⟨x, rfl, r1⟩ := rds_one rs
    cases e : lstD S a with
    | none => rw [e] at hp; exact hp.elim
    | some ds =>
      rw [e] at hp
      cases e2 : blsD ds with
      | none => simp only [e2] at hp; exact hp.elim
      | some bs =>
        simp only [e2] at hp
        have q : Q (.bl (bs.all id)) H := hp.same hS rd_bl
        cases a with
        | ref k =>
          obtain ⟨p, ys, rfl, sq, rr⟩ := lstD_sq hS e r1
          have := blsD_of e2 rr
          subst this
          exact cr_all hc pins s σ H _ us Q I r ⟨p, bs, rfl, sq, q⟩
        | _ => simp [lstD] at e
  | [], rs, hp => exact hp.elim
  | _ :: _ :: _, rs, hp => exact hp.elim
theorem any_D (hc : X.calm = true) : CallR X (.builtin "any") (rPn X.K X.mg (callB .any)) := by
  intro pins s σ H xs us Q I r h
  obtain ⟨μ, S, ds, hS, rs, hp⟩ := h
  match ds, rs, hp with
  | [a], rs, hp =>
    simp only [callB] at hp
    obtain ⟨x, rfl, r1⟩ := rds_one rs
    cases e : lstD S a with
    | none => rw [e] at hp; exact hp.elim
    | some ds =>
      rw [e] at hp
      cases e2 : blsD ds with
      | none => simp only [e2] at hp; exact hp.elim
      | some bs =>
        simp only [e2] at hp
        have q : Q (.bl (bs.any id)) H := hp.same hS rd_bl
        cases a with
        | ref k =>
          obtain ⟨p, ys, rfl, sq, rr⟩ := lstD_sq hS e r1
          have := blsD_of e2 rr
          subst this
          exact cr_any hc pins s σ H _ us Q I r ⟨p, bs, rfl, sq, q⟩
        | _ => simp [lstD] at e
  | [], rs, hp => exact hp.elim
  | _ :: _ :: _, rs, hp => exact hp.elim
theorem int_D : CallR X (.type "int") (rPn X.K X.mg (callB .int)) := by
  intro pins s σ H xs us Q I r h
  obtain ⟨μ, S, ds, hS, rs, hp⟩ := h
  match ds, rs, hp with
  | [.int i], rs, hp =>
    obtain ⟨x, rfl, r1⟩ := rds_one rs
    simp only [RD] at r1; subst r1
    exact call_int1 pins s σ H _ us Q I r (.inl ⟨i, rfl, hp.same hS rd_int⟩)
  | [.bl b], rs, hp =>
    obtain ⟨x, rfl, r1⟩ := rds_one rs
    simp only [RD] at r1; subst r1
    exact call_int1 pins s σ H _ us Q I r (.inr ⟨b, rfl, hp.same hS rd_int⟩)
  | [], rs, hp => exact hp.elim
  | _ :: _ :: _, rs, hp => simp only [callB] at hp; exact hp.elim
  | [.non], rs, hp => exact hp.elim
  | [.str _], rs, hp => exact hp.elim
  | [.tup _], rs, hp => exact hp.elim
  | [.ref _], rs, hp => exact hp.elim
  | [.ty _], rs, hp => exact hp.elim
  | [.glob _], rs, hp => exact hp.elim
theorem max_D (hc : X.calm = true) : CallR X (.builtin "max") (rPn X.K X.mg (callB .max)) := by
  intro pins s σ H xs us Q I r h
  obtain ⟨μ, S, ds, hS, rs, hp⟩ := h
  simp only [callB] at hp
  split at hp <;> first | exact hp.elim | skip
  all_goals first | contradiction | skip
  rename_i i j _
  obtain ⟨x, y, rfl, r1, r2⟩ := rds_two rs
  simp only [RD] at r1 r2; subst r1; subst r2
  exact call_max2 hc pins s σ H _ us Q I r ⟨i, j, rfl, hp.same hS rd_int⟩
theorem min_D (hc : X.calm = true) : CallR X (.builtin "min") (rPn X.K X.mg (callB .min)) := by
  intro pins s σ H xs us Q I r h
  obtain ⟨μ, S, ds, hS, rs, hp⟩ := h
  simp only [callB] at hp
  split at hp <;> first | exact hp.elim | skip
  all_goals first | contradiction | skip
  rename_i i j _
  obtain ⟨x, y, rfl, r1, r2⟩ := rds_two rs
  simp only [RD] at r1 r2; subst r1; subst r2
  exact call_min2 hc pins s σ H _ us Q I r ⟨i, j, rfl, hp.same hS rd_int⟩
theorem rds_ints' {K : PySem.W.Frag} {mg : Str → Option Value} {μ : List Addr} {H : Hp} : ∀ ns : List Int, RDs K mg μ H (ns.map D.int) (ns.map V.int)
  | [] => rds_nil
  | n :: ns => rds_cons rd_int (rds_ints' ns)
theorem intsD_of {K : PySem.W.Frag} {mg : Str → Option Value} {μ : List Addr} {H : Hp} : ∀ {ds : List D} {ns : List Int} {xs : List V}, intsD ds = some ns → RDs K mg μ H ds xs → xs = ns.map V.int ∧ ds = ns.map D.int
  | [], ns, xs, e, r => by
    simp only [RDs] at r; subst r
    simp [intsD] at e; subst e
    exact ⟨rfl, rfl⟩
  | d :: ds, ns, xs, e, r => by
    simp only [RDs] at r
    obtain ⟨y, ys, rfl, r1, r2⟩ := r
    cases d with
    | int i =>
      simp only [RD] at r1; subst r1
      simp only [intsD] at e
      cases e2 : intsD ds with
      | none => rw [e2] at e; cases e
      | some bs =>
        rw [e2] at e; cases e
        obtain ⟨h1, h2⟩ := intsD_of e2 r2
        exact ⟨by rw [h1]; rfl, by rw [h2]; rfl⟩
    | _ => cases e
theorem insI_perm (i : Int) : ∀ l : List Int, (insI i l).Perm (i :: l)
  | [] => .refl _
  | j :: js => by
    unfold insI
    split
    · exact .refl _
    · exact ((insI_perm i js).cons j).trans (.swap i j js)
theorem sortI_perm : ∀ l : List Int, (sortI l).Perm l
  | [] => .refl _
  | i :: is => (insI_perm i _).trans ((sortI_perm is).cons i)
theorem insI_sorted (i : Int) : ∀ l : List Int, l.Pairwise (· ≤ ·) → (insI i l).Pairwise (· ≤ ·)
  | [], _ => by simp [insI]
  | j :: js, h => by
    unfold insI
    split
    · rename_i hij
      refine List.Pairwise.cons (fun x hx => ?_) h
      rcases List.mem_cons.mp hx with rfl | hx
      · exact hij
      · exact Int.le_trans hij (List.rel_of_pairwise_cons h hx)
    · rename_i hij
      refine List.Pairwise.cons (fun x hx => ?_) (insI_sorted i js h.of_cons)
      rcases List.mem_cons.mp ((insI_perm i js).mem_iff.mp hx) with rfl | hx
      · omega
      · exact List.rel_of_pairwise_cons h hx
theorem sortI_sorted : ∀ l : List Int, (sortI l).Pairwise (· ≤ ·)
  | [] => .nil
  | i :: is => insI_sorted i _ (sortI_sorted is)
theorem sortI_eq {l ns : List Int} (h1 : ns.Perm l) (h2 : ns.Pairwise (· ≤ ·)) : ns = sortI l :=
  List.Perm.eq_of_pairwise (fun a b _ _ h1 h2 => Int.le_antisymm h1 h2) h2 (sortI_sorted l) (h1.trans (sortI_perm l).symm)
theorem sorted_D : CallR X (.builtin "sorted") (rPn X.K X.mg (callB .sorted)) := by
  intro pins s σ H xs us Q I r h
  obtain ⟨μ, S, ds, hS, rs, hp⟩ := h
  match ds, rs, hp with
  | [a], rs, hp =>
    simp only [callB] at hp
    obtain ⟨x, rfl, r1⟩ := rds_one rs
    cases e : lstD S a with
    | none => rw [e] at hp; exact hp.elim
    | some ds =>
      rw [e] at hp
      cases e2 : intsD ds with
      | none => simp only [e2] at hp; exact hp.elim
      | some ns =>
        simp only [e2] at hp
        cases a with
        | ref k =>
          obtain ⟨p, ys, rfl, sq, rr⟩ := lstD_sq hS e r1
          obtain ⟨rfl, rfl⟩ := intsD_of e2 rr
          refine cr_sortedI pins s σ H _ us Q I r ⟨p, ns, rfl, sq, fun ns' q h1 h2 hn => ?_⟩
          rw [sortI_eq h1 h2]
          exact hp.new hS hn rfl fun x => ⟨_, upd_same, rds_ints' _⟩
        | _ => simp [lstD] at e
  | [], rs, hp => exact hp.elim
  | _ :: _ :: _, rs, hp => exact hp.elim
theorem tuple_D : CallR X (.type "tuple") (rPn X.K X.mg (callB .tuple)) := by
  intro pins s σ H xs us Q I r h
  obtain ⟨μ, S, ds, hS, rs, hp⟩ := h
  match ds, rs, hp with
  | [a], rs, hp =>
    simp only [callB] at hp
    obtain ⟨x, rfl, r1⟩ := rds_one rs
    cases e : seqD S a with
    | none => rw [e] at hp; exact hp.elim
    | some ds =>
      rw [e] at hp
      obtain ⟨p, ys, rfl, _, rr, h1, h2⟩ := seq_at hS r1 e
      cases a with
      | tup es => exact call_tuple_of pins s σ H _ us Q I r ⟨p, ys, rfl, .inr ⟨h1 es rfl, hp.same hS (by simp only [RD]; exact ⟨p, ys, rfl, h1 es rfl, rr⟩)⟩⟩
      | ref k => exact call_tuple_of pins s σ H _ us Q I r ⟨p, ys, rfl, .inl ⟨h2 k rfl, fun l hn => hp.tup hS hn rr⟩⟩
      | _ => simp [seqD] at e
  | [], rs, hp => exact hp.elim
  | _ :: _ :: _, rs, hp => exact hp.elim
theorem list_D : CallR X (.type "list") (rPn X.K X.mg (callB .list)) := by
  intro pins s σ H xs us Q I r h
  obtain ⟨μ, S, ds, hS, rs, hp⟩ := h
  match ds, rs, hp with
  | [a], rs, hp =>
    simp only [callB] at hp
    obtain ⟨x, rfl, r1⟩ := rds_one rs
    cases e : seqD S a with
    | none => rw [e] at hp; exact hp.elim
    | some ds =>
      rw [e] at hp
      obtain ⟨p, ys, rfl, hq, rr, h1, h2⟩ := seq_at hS r1 e
      exact call_list_of pins s σ H _ us Q I r ⟨p, ys, rfl, hq, fun l hn => hp.new hS hn rfl fun x => ⟨_, upd_same, rr.ext x⟩⟩
  | [], rs, hp => exact hp.elim
  | _ :: _ :: _, rs, hp => exact hp.elim
theorem sn_non {S : Sto} {n : Nat} : snap S (n + 1) .non = some .none := rfl
theorem sn_bl {S : Sto} {n : Nat} {b : Bool} : snap S (n + 1) (.bl b) = some (.bool b) := rfl
theorem sn_int {S : Sto} {n : Nat} {b : Int} : snap S (n + 1) (.int b) = some (.int b) := rfl
theorem sn_str {S : Sto} {n : Nat} {b : Str} : snap S (n + 1) (.str b) = some (.str b) := rfl
theorem sn_tup {S : Sto} {n : Nat} {ds : List D} : snap S (n + 1) (.tup ds) = match optAll (snap S n) ds with
      | some ps => some (.tuple ps)
      | none => none := rfl
theorem sn_ref {S : Sto} {n : Nat} {k : Nat} : snap S (n + 1) (.ref k) = match S[k]? with
      | some (.lst ds) => match optAll (snap S n) ds with
        | some ps => some (.list ps)
        | none => none
      | some (.dK kvs) => match optAll (fun p => snap S n p.2) kvs with
        | some ps => some (.dict ((kvs.map fun p => okey p.1).zip ps))
        | none => none
      | _ => none := rfl
theorem sn_deep {S : Sto} {d : D} : snapD S d = snap S (23 + 1) d := rfl
theorem showable_int {i : Int} (h : PyData.showable (.int i) = true) : i.natAbs.log2 < 1920 := by simpa [PyData.showable] using h
theorem hasDict_of_lay : ∀ p : PyData, PyData.hasDict p = false → True := fun _ _ => trivial
theorem repr_D (hg : X.A.guards = some []) (hu : X.A.units + 200 < cLine) : CallR X (.builtin "repr") (rPn X.K X.mg (callB .repr)) := by
  intro pins s σ H xs us Q I r h
  obtain ⟨μ, S, ds, hS, rs, hp⟩ := h
  match ds, rs, hp with
  | [a], rs, hp =>
    simp only [callB] at hp
    obtain ⟨x, rfl, r1⟩ := rds_one rs
    cases e : reprD S a with
    | none => rw [e] at hp; exact hp.elim
    | some z =>
      rw [e] at hp
      have q : Q (.str z) H := hp.same hS rd_str
      clear hp
      unfold reprD at e
      split at e
      · rename_i p ep
        split at e
        · rename_i hh
          obtain ⟨hs1, hdep, hsz, hdk⟩ := hh
          have ez := Option.some.inj e
          subst ez
          obtain ⟨u, rfl, ru⟩ := vals1 r
          have fin : ∀ h' u tk, (∀ b o, s.heap.get? b = some o → h'.get? b = some o) → EP X pins σ Q (.str p.shown u) { s with heap := h', toks := tk } := fun h' u tk k => ⟨.str p.shown, H, I.kept k, ⟨_, rfl⟩, q⟩
          cases a with
          | non =>
            rw [sn_deep, sn_non] at ep; have ep' := Option.some.inj ep; subst ep'
            simp only [RD] at r1; subst r1
            cases ru
            have f := fin s.heap s.toks (s.toks + 1) fun _ _ h => h
            rw [PyData.shown_none] at f
            exact PySem.P.repr_of_none f
          | bl b =>
            rw [sn_deep, sn_bl] at ep; have ep' := Option.some.inj ep; subst ep'
            simp only [RD] at r1; subst r1
            cases ru
            have f := fin s.heap s.toks (s.toks + 1) fun _ _ h => h
            rw [PyData.shown_bool] at f
            exact PySem.P.repr_of_bool f
          | int i =>
            rw [sn_deep, sn_int] at ep; have ep' := Option.some.inj ep; subst ep'
            simp only [RD] at r1; subst r1
            obtain ⟨t, rfl⟩ := ru
            have f := fin s.heap s.toks (s.toks + 1) fun _ _ h => h
            rw [PyData.shown_int] at f
            exact PySem.P.repr_of_int (showable_int hs1) f
          | str y =>
            rw [sn_deep, sn_str] at ep; have ep' := Option.some.inj ep; subst ep'
            simp only [RD] at r1; subst r1
            obtain ⟨t, rfl⟩ := ru
            have f := fin s.heap s.toks (s.toks + 1) fun _ _ h => h
            rw [PyData.shown_str] at f hsz
            exact PySem.P.repr_of_str f hsz
          | tup ds =>
            have hp0 : ∃ ps, p = .tuple ps := by
              rw [sn_deep, sn_tup] at ep
              split at ep
              · exact ⟨_, (Option.some.inj ep).symm⟩
              · cases ep
            obtain ⟨ps, rfl⟩ := hp0
            have nd : PyData.hasDict (.tuple ps) = false := by simpa [dictOk] using hdk
            obtain ⟨as, hr⟩ := Dp.reads I _ _ _ (dp_of hS _ _ _ _ ep nd r1) ru
            simp only [RD] at r1
            obtain ⟨pa, xs, rfl, _⟩ := r1
            cases ru
            exact repr_of_reads' hr hs1 (fun z => by rw [nd] at z; cases z) hg (by omega) (fun _ _ h => h) fin hsz
          | ref n =>
            by_cases nd : PyData.hasDict p = false
            · obtain ⟨as, hr⟩ := Dp.reads I _ _ _ (dp_of hS _ _ _ _ ep nd r1) ru
              simp only [RD] at r1
              obtain ⟨pa, rfl, _⟩ := r1
              cases ru
              exact repr_of_reads' hr hs1 (fun z => by rw [nd] at z; cases z) hg (by omega) (fun _ _ h => h) fin hsz
            · rw [sn_deep, sn_ref] at ep
              cases eo : S[n]? with
              | none => rw [eo] at ep; simp at ep
              | some o =>
                rw [eo] at ep
                cases o with
                | dK kvs =>
                  simp only at ep
                  split at ep
                  · rename_i ps eps
                    have ep' := Option.some.inj ep
                    subst ep'
                    obtain ⟨pa, rfl, _, kv, hk, rk⟩ := ref_at hS r1 eo
                    cases ru
                    obtain ⟨hz, hsys, vs, rv, od, es, epp, e1, e2, e3, e4, e5, e6⟩ := (show ObjOk X.prog X.w H s.heap pa (.dK kv) from I.hok pa _ hk)
                    have hfl : ∀ q ∈ (kvs.map fun p => okey p.1).zip ps, flatP q.1 = true ∧ flatP q.2 = true := by
                      simpa [dictOk] using hdk
                    obtain ⟨ra, rb⟩ := dict_reads hS I rfl eps hfl rk rv e5
                    have hr : Reads s.heap (.ref pa) (.dict ((kvs.map fun p => okey p.1).zip ps)) (pa :: [] ++ []) := .dict e1 e2.1 e3 ra rb
                    exact repr_of_reads' hr hs1 (fun _ z => by simp at z; subst z; simp at hsys) hg (by omega) (fun _ _ h => h) fin hsz
                  · cases ep
                | lst ds =>
                  simp only at ep
                  split at ep
                  · have ep' := Option.some.inj ep
                    subst ep'
                    exact absurd (by simpa [dictOk] using hdk) nd
                  · cases ep
                | _ => simp at ep
          | ty _ => exact nomatch (show none = some p from ep)
          | glob _ => exact nomatch (show none = some p from ep)
        · cases e
      · cases e
  | [], rs, hp => exact hp.elim
  | _ :: _ :: _, rs, hp => exact hp.elim
end
end Cor
end
section
set_option linter.all false
set_option maxHeartbeats 1000000
namespace Cor
open PySem PySem.Spec PyProof.Rows L2
section
variable {X : Cx}
theorem append_D : MtR X "list.append" (rPm X.K X.mg (callM .append)) := by
  intro pins s σ H x xs v us Q I rx rxs h
  obtain ⟨μ, S, a, ds, hS, ra, rs, hp⟩ := h
  simp only [callM] at hp
  split at hp <;> first | exact hp.elim | skip
  all_goals first | contradiction | skip
  rename_i n d _
  cases eo : S[n]? with
  | none => rw [eo] at hp; exact hp.elim
  | some o =>
    rw [eo] at hp
    obtain ⟨pa, rfl, ea, ho⟩ := ref_at hS ra eo
    obtain ⟨y, rfl, r1⟩ := rds_one rs
    cases o with
    | lst ds =>
      dsimp only at hp
      split at hp
      · rename_i hl
        obtain ⟨ys, hy, ry⟩ := ho
        refine mt_append pins s σ H _ _ v us Q I rx rxs ⟨pa, ys, y, rfl, rfl, hy, by rw [← ry.length]; exact hl, ?_⟩
        obtain ⟨x, hS'⟩ := hS.write (o' := .lst (ds ++ [d])) (u := .lst (ys ++ [y])) eo rfl rfl ea fun x => ⟨_, upd_same, (rds_app1 ry r1).ext x⟩
        exact hp _ _ _ x hS' rd_non
      · exact hp.elim
    | _ => exact hp.elim
theorem findIdx_of {p : PyData} : ∀ (qs : List PyData), qs.findIdx (fun y => PyData.eqv y p) < qs.length →
    ∃ z, qs[qs.findIdx (fun y => PyData.eqv y p)]? = some z ∧ PyData.eqv z p = true ∧ ∀ (m : Nat) (z' : PyData), m < qs.findIdx (fun y => PyData.eqv y p) → qs[m]? = some z' → PyData.eqv z' p = false := by
  intro qs hl
  refine ⟨_, List.getElem?_eq_getElem hl, List.findIdx_getElem (xs := qs) (p := fun y => PyData.eqv y p) (w := hl), fun m z' hm hz => ?_⟩
  have hml : m < qs.length := Nat.lt_trans hm hl
  rw [List.getElem?_eq_getElem hml] at hz
  cases hz
  have := List.not_of_lt_findIdx (xs := qs) (p := fun y => PyData.eqv y p) hm
  simpa using this
theorem index_D (hu : X.A.units + 200 < cLine) : MtR X "list.index" (rPm X.K X.mg (callM .index)) := by
  intro pins s σ H x xs v us Q I rx rxs h
  obtain ⟨μ, S, a, ds, hS, ra, rs, hp⟩ := h
  simp only [callM] at hp
  split at hp <;> first | exact hp.elim | skip
  all_goals first | contradiction | skip
  rename_i n d _
  cases eo : S[n]? with
  | none => rw [eo] at hp; exact hp.elim
  | some o =>
    rw [eo] at hp
    have ra0 := ra
    obtain ⟨pa, rfl, ea, ho⟩ := ref_at hS ra eo
    obtain ⟨y, rfl, r1⟩ := rds_one rs
    cases o with
    | lst es =>
      dsimp only at hp
      cases ej : indexD S (.ref n) d with
      | none => rw [ej] at hp; exact hp.elim
      | some j =>
        rw [ej] at hp
        have q : Q (.int (j : Nat)) H := hp.same hS rd_int
        unfold indexD at ej
        split at ej
        · rename_i p ep
          split at ej
          · rename_i qs eqs
            split at ej
            · rename_i hh
              dsimp only at ej
              split at ej
              · rename_i hl
                have ej' := Option.some.inj ej
                subst ej'
                obtain ⟨z, h1, h2, h3⟩ := findIdx_of qs hl
                exact mt_indexD (by omega) pins s σ H _ _ v us Q I rx rxs ⟨pa, y, p, qs, _, z, rfl, rfl, dp_of hS _ _ _ _ eqs (lay_noDict _ (SeqAt.canLay_of_shaped hh.2)) ra0, dp_of hS _ _ _ _ ep (lay_noDict _ (SeqAt.canLay_of_shaped hh.1)) r1, hh.2, hh.1, h1, h2, h3, q⟩
              · cases ej
            · cases ej
          · cases ej
        · cases ej
    | _ => exact hp.elim
theorem count_D : MtR X "list.count" (rPm X.K X.mg (callM .count)) := by
  intro pins s σ H x xs v us Q I rx rxs h
  obtain ⟨μ, S, a, ds, hS, ra, rs, hp⟩ := h
  simp only [callM, countM] at hp
  split at hp
  · rename_i k
    cases e : lstD S a with
    | none => rw [e] at hp; exact hp.elim
    | some ds =>
      rw [e] at hp
      cases e2 : intsD ds with
      | none => simp only [e2] at hp; exact hp.elim
      | some ns =>
        simp only [e2] at hp
        obtain ⟨y, rfl, r1⟩ := rds_one rs
        simp only [RD] at r1; subst r1
        cases a with
        | ref m =>
          obtain ⟨p, ys, rfl, sq, rr⟩ := lstD_sq hS e ra
          obtain ⟨rfl, rfl⟩ := intsD_of e2 rr
          exact mt_lcount pins s σ H _ _ v us Q I rx rxs ⟨p, ns, k, rfl, rfl, sq, hp.same hS rd_int⟩
        | _ => simp [lstD] at e
  · exact hp.elim
theorem RDs.erase {K : PySem.W.Frag} {mg : Str → Option Value} {μ : List Addr} {H : Hp} : ∀ {ds : List D} {vs : List V} (i : Nat), RDs K mg μ H ds vs → RDs K mg μ H (ds.eraseIdx i) (vs.eraseIdx i)
  | [], vs, i, h => by simp only [RDs] at h; subst h; exact rds_nil
  | d :: ds, vs, 0, h => by
    simp only [RDs] at h
    obtain ⟨y, ys, rfl, r, q⟩ := h
    exact q
  | d :: ds, vs, i + 1, h => by
    simp only [RDs] at h
    obtain ⟨y, ys, rfl, r, q⟩ := h
    exact rds_cons r (RDs.erase i q)
theorem pop_D : MtR X "list.pop" (rPm X.K X.mg (callM .pop)) := by
  intro pins s σ H x xs v us Q I rx rxs h
  obtain ⟨μ, S, a, ds, hS, ra, rs, hp⟩ := h
  simp only [callM, popM] at hp
  split at hp <;> try exact hp.elim
  rename_i k
  split at hp <;> try exact hp.elim
  rename_i n
  cases eo : S[n]? with
  | none => rw [eo] at hp; exact hp.elim
  | some o =>
    rw [eo] at hp
    obtain ⟨pa, rfl, ea, ho⟩ := ref_at hS ra eo
    obtain ⟨y, rfl, r1⟩ := rds_one rs
    simp only [RD] at r1; subst r1
    cases o with
    | lst ds =>
      dsimp only at hp
      split at hp
      · rename_i j ej
        split at hp
        · rename_i d ed
          obtain ⟨ys, hy, ry⟩ := ho
          obtain ⟨w, hw, rw'⟩ := ry.get ed
          have hz : ds.length = ys.length := ry.length
          rw [hz] at ej
          obtain ⟨q1, q2, q3, q4⟩ := ixN_seq ej
          have hsz : ys.length ≤ sizeLine := by
            obtain ⟨z, its, n', r', hl', e'⟩ := I.lstM hy
            exact z
          have : (sizeLine : Nat) ≤ 2 ^ 62 := by decide
          obtain ⟨x, hS'⟩ := hS.write (o' := .lst (ds.eraseIdx j)) (u := .lst (ys.eraseIdx j)) eo rfl rfl ea fun x => ⟨_, upd_same, (ry.erase j).ext x⟩
          exact mt_popAt pins s σ H _ _ v us Q I rx rxs ⟨pa, ys, k, j, w, rfl, rfl, hy, by omega, by omega, q1, hw, hp _ _ _ x hS' (rw'.ext x)⟩
        · exact hp.elim
      · exact hp.elim
    | _ => exact hp.elim
/-- a[i] = v by values -/
def rSet (K : PySem.W.Frag) (mg : Str → Option Value) : V → V → V → Hp → (Hp → Prop) → Prop := fun o i v H Q => ∃ μ S a k d, Sim K mg μ S H ∧ RD K mg μ H a o ∧ RD K mg μ H k i ∧ RD K mg μ H d v ∧
  ∃ S', setD a k d S = .ok () S' ∧ ∀ μ' H', Ext μ H μ' H' → Sim K mg μ' S' H' → Q H'
theorem set_D : PSet X (rSet X.K X.mg) := by
  intro pins s σ H o i v ov iv u Q I ro ri rv h
  obtain ⟨μ, S, a, k, d, hS, ra, rk, rd, S', e, q⟩ := h
  unfold setD at e
  split at e
  · rename_i n j
    cases eo : S[n]? with
    | none => rw [eo] at e; simp at e
    | some ob =>
      rw [eo] at e
      obtain ⟨pa, rfl, ea, ho⟩ := ref_at hS ra eo
      simp only [RD] at rk; subst rk
      cases ob with
      | lst xs =>
        dsimp only at e
        split at e
        · rename_i m em
          simp only [R.ok.injEq, true_and] at e
          subst e
          obtain ⟨ys, hy, ry⟩ := ho
          refine set_list pins s σ H _ _ v ov iv u Q I ro ri rv ⟨pa, ys, j, m, rfl, rfl, hy, by rw [← ry.length]; exact em, ?_⟩
          obtain ⟨x, hS'⟩ := hS.write (o' := .lst (xs.set m d)) (u := .lst (ys.set m v)) eo rfl rfl ea fun x => ⟨_, upd_same, (RDs.set rd m ry).ext x⟩
          exact q _ _ x hS'
        · cases e
      | _ => simp at e
  · cases e
end
end Cor
end
section
set_option linter.all false
set_option maxHeartbeats 1000000
namespace Cor
open PySem PySem.Spec PyProof.Rows L2
section
variable (K : PySem.W.Frag) (mg : Str → Option Value) (μ : List Addr) (H : Hp)
/-- an exception: its class, its own dict with its fields -/
def RX (c : Str) (fs : List (Str × D)) (cls : Value) (dd : Option Addr) : Prop :=
  ∃ C, mg c = some (.ref C) ∧ cls = .ref C ∧ match dd with
    | none => fs = []
    | some a => ∃ fv, H a = some (.xd fv) ∧ Paired (fun (p : Str × D) (q : Str × V) => p.1 = q.1 ∧ RD K mg μ H p.2 q.2) fs fv
def EnvR (env : DEnv) (σ : L2.St) : Prop := env.length = σ.length ∧ ∀ (i : Nat) d, env[i]? = some (some d) → ∃ v, σ[i]? = some (some v) ∧ RD K mg μ H d v
/-- what is wanted of a result, in any shape -/
def PostG {α β : Type} (σ : L2.St) (W : WX) (rel : List Addr → Hp → α → β → Prop) (Q : β → Hp → Prop) : R α → Prop
  | .ok a S' => ∀ μ' H' b, Ext μ H μ' H' → Sim K mg μ' S' H' → rel μ' H' a b → Q b H'
  | .ex c fs S' => ∀ μ' H' cls dd, Ext μ H μ' H' → Sim K mg μ' S' H' → RX K mg μ' H' c fs cls dd → W cls dd σ H'
  | .no => False
end
section
variable {K : PySem.W.Frag} {mg : Str → Option Value} {μ μ' : List Addr} {S : Sto} {H H' : Hp} {σ : L2.St} {W : WX} {α β γ δ : Type}
theorem EnvR.ext {env : DEnv} (x : Ext μ H μ' H') (h : EnvR K mg μ H env σ) : EnvR K mg μ' H' env σ :=
  ⟨h.1, fun i d e => let ⟨v, h1, h2⟩ := h.2 i d e; ⟨v, h1, h2.ext x⟩⟩
theorem PostG.ext {rel : List Addr → Hp → α → β → Prop} {Q : β → Hp → Prop} {r : R α} (x : Ext μ H μ' H') (h : PostG K mg μ H σ W rel Q r) : PostG K mg μ' H' σ W rel Q r := by
  cases r with
  | ok a S => exact fun μ2 H2 b x2 hs hr => h μ2 H2 b (x.trans x2) hs hr
  | ex c fs S => exact fun μ2 H2 cls dd x2 hs hr => h μ2 H2 cls dd (x.trans x2) hs hr
  | no => exact h
theorem PostG.bind {rel1 : List Addr → Hp → α → β → Prop} {rel2 : List Addr → Hp → γ → δ → Prop} {Q1 : β → Hp → Prop} {Q2 : δ → Hp → Prop} {r : R α} {f : α → Sto → R γ}
    (h : PostG K mg μ H σ W rel2 Q2 (r.bind f))
    (k : ∀ a S1 μ1 H1 b, r = .ok a S1 → Ext μ H μ1 H1 → Sim K mg μ1 S1 H1 → rel1 μ1 H1 a b → PostG K mg μ1 H1 σ W rel2 Q2 (f a S1) → Q1 b H1) : PostG K mg μ H σ W rel1 Q1 r := by
  cases r with
  | ok a S => exact fun μ1 H1 b x hs hr => k a S μ1 H1 b rfl x hs hr (PostG.ext x h)
  | ex c fs S => exact h
  | no => exact h
theorem PostG.q {Q : VK} {r : R D} (h : PostG K mg μ H σ W (RD K mg) Q r) (hr : ∀ c fs S, r ≠ .ex c fs S) : PostQ K mg μ H Q r := by
  cases r with
  | ok a S => exact h
  | ex c fs S => exact absurd rfl (hr c fs S)
  | no => exact h
theorem PostG.mono {rel : List Addr → Hp → α → β → Prop} {Q Q' : β → Hp → Prop} {r : R α} (h : PostG K mg μ H σ W rel Q r) (k : ∀ b H, Q b H → Q' b H) : PostG K mg μ H σ W rel Q' r := by
  cases r with
  | ok a S => exact fun μ1 H1 b x hs hr => k _ _ (h μ1 H1 b x hs hr)
  | ex c fs S => exact h
  | no => exact h
end
/-- no exception among the answers of the primitives -/
theorem binD_nox {op a b S c fs S'} : binD op a b S ≠ .ex c fs S' := by
  unfold binD binI newL mkTup newO
  split <;> (try split) <;> (try split) <;> (try split) <;> (try split) <;> simp
theorem cmpD_nox {op a b S c fs S'} : cmpD op a b S ≠ .ex c fs S' := by
  unfold cmpD; split <;> simp
theorem ofO_nox {α : Type} {S : Sto} {o : Option α} {c fs S'} : ofO S o ≠ .ex c fs S' := by
  unfold ofO; split <;> simp
theorem cutD_nox {a lo hi S c fs S'} : cutD a lo hi S ≠ .ex c fs S' := by
  unfold cutD newO; split <;> (try split) <;> simp
theorem callB_nox {f ds S c fs S'} : callB f ds S ≠ .ex c fs S' := by
  unfold callB newO
  split <;> (try split) <;> (try split) <;> simp
theorem countM_nox {a ds S c fs S'} : countM a ds S ≠ .ex c fs S' := by
  unfold countM
  split <;> (try split) <;> (try split) <;> simp
theorem popM_nox {a ds S c fs S'} : popM a ds S ≠ .ex c fs S' := by
  unfold popM
  split <;> (try split) <;> (try split) <;> (try split) <;> (try split) <;> simp
theorem callM_nox {f a ds S c fs S'} : callM f a ds S ≠ .ex c fs S' := by
  unfold callM
  split
  case h_3 => exact countM_nox
  case h_4 => exact popM_nox
  all_goals (try split) <;> (try split) <;> simp
section
variable (T : GT) (K : PySem.W.Frag) (mg : Str → Option Value) (W : WX) (n : Nat) (c : SC)
def rdE (e : Expr) : TE := fun σ H Q => ∃ μ env S, Sim K mg μ S H ∧ EnvR K mg μ H env σ ∧ PostG K mg μ H σ W (RD K mg) Q (evE T n c false e env S)
def relB : List Addr → Hp → D → Bool → Prop := fun _ _ d b => d = .bl b
def rdT (e : Expr) : TT := fun σ H Q => ∃ μ env S, Sim K mg μ S H ∧ EnvR K mg μ H env σ ∧ PostG K mg μ H σ W relB Q (evE T n c true e env S)
def rdA (es : List Expr) : TA := fun σ H Q => ∃ μ env S, Sim K mg μ S H ∧ EnvR K mg μ H env σ ∧ PostG K mg μ H σ W (RDs K mg) Q (evAll (fun e S => evE T n c false e env S) es S)
def rdTs (stop : Bool) (es : List Expr) : TT := fun σ H Q => ∃ μ env S, Sim K mg μ S H ∧ EnvR K mg μ H env σ ∧ PostG K mg μ H σ W relB Q (evTests (fun e S => evE T n c true e env S) stop es S)
def rdVs (stop : Bool) (es : List Expr) : TE := fun σ H Q => ∃ μ env S, Sim K mg μ S H ∧ EnvR K mg μ H env σ ∧ PostG K mg μ H σ W (RD K mg) Q (evVals (fun e S => evE T n c false e env S) stop es S)
end
theorem pe_mono {X : Cx} {e : Expr} {t t' : TE} (h : PE X e t) (k : ∀ σ H Q, t' σ H Q → t σ H Q) : PE X e t' := ⟨fun pins s σ H Q I q => h.run pins s σ H Q I (k σ H Q q)⟩
theorem pt_mono {X : Cx} {e : Expr} {t t' : TT} (h : PT X e t) (k : ∀ σ H Q, t' σ H Q → t σ H Q) : PT X e t' := ⟨fun pins s σ H Q I q => h.run pins s σ H Q I (k σ H Q q)⟩
theorem pw_mono {X : Cx} {e : Expr} {t t' : TT} (h : PW X e t) (k : ∀ σ H Q, t' σ H Q → t σ H Q) : PW X e t' := ⟨fun wh pins s σ H Q I q => h.run wh pins s σ H Q I (k σ H Q q)⟩
theorem pa_mono {X : Cx} {e : List Expr} {t t' : TA} (h : PA X e t) (k : ∀ σ H Q, t' σ H Q → t σ H Q) : PA X e t' := ⟨fun pos pins s σ H Q I q => h.run pos pins s σ H Q I (k σ H Q q)⟩
/-- what is asked of the module's names and of the defs -/
structure TabOk (T : GT) (K : PySem.W.Frag) (mg : Str → Option Value) : Prop where
  gl : ∀ x d, T.gl x = some d → ∃ u v, mg x = some u ∧ L2.RelV v u ∧ ∀ μ H, RD K mg μ H d v
  bn : ∀ x, T.gl x = none → ((biOf x).isSome = true ∨ (btyOf x).isSome = true ∨ x = "range") → mg x = none
  db : T.gl "__debug__" = none
/-- the context and its names -/
structure CxR (T : GT) (c : SC) (X : Cx) : Prop where
  N : X.N = c.N
  nm : X.env.scope.names = c.nm
  nd : c.N.Nodup
  calm : X.calm = true
  g : X.A.guards = some []
  un : X.A.units + 200 < cLine
  tab : TabOk T X.K X.mg
  noDebug : ∀ x, x ∈ c.N → (x == ("__debug__" : Str)) = false ∧ (x == ("__classdict__" : Str)) = false
section
variable {T : GT} {c : SC} {X : Cx} {W : WX} {n : Nat}
theorem slot_of {N : List Str} {x : Str} {i : Nat} (h : slot N x = some i) : N[i]? = some x := by
  unfold slot at h
  dsimp only at h
  split at h
  · rename_i hl
    have := Option.some.inj h
    subst this
    rw [List.getElem?_eq_getElem hl]
    have := List.findIdx_getElem (xs := N) (p := (· == x)) (w := hl)
    simpa using this
  · cases h
theorem vis_of {c : SC} {x : Str} (e : X.env.scope.names = c.nm) (h : isVis c x = true) : Vis X.env.scope x := by
  unfold isVis at h
  unfold Vis
  rw [e]
  split at h <;> simp_all
theorem gl_of {c : SC} {x : Str} (e : X.env.scope.names = c.nm) (h : isGl c x = true) : Gl X x := by
  unfold isGl at h
  show X.env.scope.names.lookup x = _
  rw [e]
  split at h <;> simp_all
theorem bty_boot {x : Str} {n : Ty} (h : btyOf x = some n) : bootBuiltins x = some (.type n.nm) ∧ x ≠ "__name__" ∧ (x == ("__debug__" : Str)) = false := by
  unfold btyOf at h
  split at h
  · rename_i e; cases h; subst e; exact ⟨by decide +kernel, by decide +kernel, by decide +kernel⟩
  split at h
  · rename_i e; cases h; subst e; exact ⟨by decide +kernel, by decide +kernel, by decide +kernel⟩
  split at h
  · rename_i e; cases h; subst e; exact ⟨by decide +kernel, by decide +kernel, by decide +kernel⟩
  split at h
  · rename_i e; cases h; subst e; exact ⟨by decide +kernel, by decide +kernel, by decide +kernel⟩
  split at h
  · rename_i e; cases h; subst e; exact ⟨by decide +kernel, by decide +kernel, by decide +kernel⟩
  split at h
  · rename_i e; cases h; subst e; exact ⟨by decide +kernel, by decide +kernel, by decide +kernel⟩
  · cases h
theorem name_D (R : CxR T c X) {x : Str} {pos : Pos} : PE X (.Name x pos) (rdE T X.K X.mg W (n + 1) c (.Name x pos)) := by
  refine ⟨fun pins s σ H Q I h => ?_⟩
  obtain ⟨μ, env, S, hS, hE, hp⟩ := h
  simp only [evE] at hp
  cases e : nameD T c x env with
  | none => rw [e] at hp; exact hp.elim
  | some d =>
    rw [e] at hp
    have q : ∀ v, RD X.K X.mg μ H d v → Q v H := fun v r => hp μ H v Ext.refl hS r
    clear hp
    unfold nameD at e
    split at e
    · rename_i hv
      split at e
      · rename_i i hi
        split at e
        · rename_i d' hd
          have e' := Option.some.inj e
          subst e'
          obtain ⟨v, h1, h2⟩ := hE.2 i _ hd
          have hx : X.N[i]? = some x := by rw [R.N]; exact slot_of hi
          obtain ⟨d1, d2⟩ := R.noDebug x (List.mem_of_getElem? (slot_of hi))
          exact (pe_var (X := X) hx (vis_of R.nm hv) d1 d2).run pins s σ H Q I ⟨v, h1, q v h2⟩
        · cases e
      · cases e
    · split at e
      · rename_i hg
        have hG := gl_of (X := X) R.nm hg
        split at e
        · rename_i d' hd
          have e' := Option.some.inj e
          subst e'
          obtain ⟨u, v, h1, h2, h3⟩ := R.tab.gl x _ hd
          have hdb : (x == ("__debug__" : Str)) = false := by
            rw [beq_eq_false_iff_ne]
            rintro rfl
            rw [R.tab.db] at hd; cases hd
          exact (pe_glob (X := X) hG h1 h2 hdb).run pins s σ H Q I (q v (h3 μ H))
        · rename_i hn
          split at e
          · rename_i nn hb
            have e' := Option.some.inj e
            subst e'
            obtain ⟨b1, b2, b3⟩ := bty_boot hb
            have hm := R.tab.bn x hn (.inr (.inl (by rw [hb]; rfl)))
            exact (pe_bltn (X := X) (v := .ty nn.nm) hG hm b1 rfl b2 b3).run pins s σ H Q I (q _ (by simp only [RD]))
          · cases e
      · cases e
end
end Cor
end
section
set_option linter.all false
set_option maxHeartbeats 1000000
namespace Cor
open PySem PySem.Spec PyProof.Rows L2
section
variable {T : GT} {c : SC} {X : Cx} {W : WX} {n : Nat} {pos : Pos}
/-- the readings of parts -/
structure Ih (T : GT) (X : Cx) (W : WX) (n : Nat) (c : SC) : Prop where
  e : ∀ e, PE X e (rdE T X.K X.mg W n c e)
  t : ∀ e, PT X e (rdT T X.K X.mg W n c e)
theorem const_D {v : Const} {k : Nat} : PE X (.Constant v k pos) (rdE T X.K X.mg W (n + 1) c (.Constant v k pos)) := by
  refine ⟨fun pins s σ H Q I h => ?_⟩
  obtain ⟨μ, env, S, hS, hE, hp⟩ := h
  simp only [evE] at hp
  cases e : constD v with
  | none => rw [e] at hp; exact hp.elim
  | some d =>
    rw [e] at hp
    have q : ∀ v, RD X.K X.mg μ H d v → Q v H := fun v r => hp μ H v Ext.refl hS r
    cases v with
    | none => cases e; exact pe_non.run pins s σ H Q I (q _ rd_non)
    | bool b => cases e; exact pe_bl.run pins s σ H Q I (q _ rd_bl)
    | int i => cases e; exact pe_int.run pins s σ H Q I (q _ rd_int)
    | str x => cases e; exact pe_str.run pins s σ H Q I (q _ rd_str)
    | _ => cases e
theorem bin_D (ih : Ih T X W n c) {a b : Expr} {op : Operator} : PE X (.BinOp a op b pos) (rdE T X.K X.mg W (n + 1) c (.BinOp a op b pos)) := by
  refine pe_mono (pe_op op_binD (ih.e a) (ih.e b)) fun σ H Q h => ?_
  obtain ⟨μ, env, S, hS, hE, hp⟩ := h
  simp only [evE] at hp
  refine ⟨μ, env, S, hS, hE, hp.bind fun x S1 μ1 H1 v1 _ x1 hS1 r1 hp1 => ?_⟩
  refine ⟨μ1, env, S1, hS1, hE.ext x1, hp1.bind fun y S2 μ2 H2 v2 _ x2 hS2 r2 hp2 => ?_⟩
  exact ⟨μ2, S2, x, y, hS2, r1.ext x2, r2, hp2.q fun _ _ _ => binD_nox⟩
/-- a reading that nothing bears -/
theorem pe_no {e : Expr} {t : TE} (h : ∀ σ H Q, ¬ t σ H Q) : PE X e t := ⟨fun _ _ σ H Q _ q => absurd q (h σ H Q)⟩
theorem pt_no {e : Expr} {t : TT} (h : ∀ σ H Q, ¬ t σ H Q) : PT X e t := ⟨fun _ _ σ H Q _ q => absurd q (h σ H Q)⟩
theorem rdE_no {e : Expr} (h : ∀ env S, evE T n c false e env S = .no) (K : PySem.W.Frag) (mg : Str → Option Value) : ∀ σ H Q, ¬ rdE T K mg W n c e σ H Q := fun σ H Q ⟨μ, env, S, _, _, hp⟩ => by
  rw [h env S] at hp; exact hp
theorem rdT_no {e : Expr} (h : ∀ env S, evE T n c true e env S = .no) (K : PySem.W.Frag) (mg : Str → Option Value) : ∀ σ H Q, ¬ rdT T K mg W n c e σ H Q := fun σ H Q ⟨μ, env, S, _, _, hp⟩ => by
  rw [h env S] at hp; exact hp
theorem nomark_of {op : CmpOp} {b : Expr} (h : isSetE b = false) : behindInMarks op b = false := by
  unfold behindInMarks
  split
  · cases h
  · rfl
theorem cmp_D (R : CxR T c X) (ih : Ih T X W n c) {a b : Expr} {op : CmpOp} : PE X (.Compare a [op] [b] pos) (rdE T X.K X.mg W (n + 1) c (.Compare a [op] [b] pos)) := by
  cases hb : isSetE b with
  | true => exact pe_no (rdE_no (fun env S => by simp only [evE, hb]; rfl) _ _)
  | false =>
    refine pe_mono (pe_cmpR (op_cmpD R.un) (ih.e a) (ih.e b) (nomark_of hb)) fun σ H Q h => ?_
    obtain ⟨μ, env, S, hS, hE, hp⟩ := h
    simp only [evE, hb, Bool.false_eq_true, if_false] at hp
    refine ⟨μ, env, S, hS, hE, hp.bind fun x S1 μ1 H1 v1 _ x1 hS1 r1 hp1 => ?_⟩
    refine ⟨μ1, env, S1, hS1, hE.ext x1, hp1.bind fun y S2 μ2 H2 v2 _ x2 hS2 r2 hp2 => ?_⟩
    exact ⟨μ2, S2, x, y, hS2, r1.ext x2, r2, hp2.q fun _ _ _ => cmpD_nox⟩
/-- two comparisons in a row -/
theorem cmpD_bl {op a b S d S'} (h : cmpD op a b S = .ok d S') : ∃ k, d = .bl k ∧ S' = S := by
  unfold cmpD at h
  split at h
  · cases h; exact ⟨_, rfl, rfl⟩
  · cases h
theorem chain_D (R : CxR T c X) (ih : Ih T X W n c) {a b b' : Expr} {op op' : CmpOp} : PE X (.Compare a [op, op'] [b, b'] pos) (rdE T X.K X.mg W (n + 1) c (.Compare a [op, op'] [b, b'] pos)) := by
  cases hb : isSetE b with
  | true => exact pe_no (rdE_no (fun env S => by simp only [evE, hb]; rfl) _ _)
  | false =>
    cases hb' : isSetE b' with
    | true => exact pe_no (rdE_no (fun env S => by simp only [evE, hb, hb']; rfl) _ _)
    | false =>
      have hl : lastMarks [op, op'] [b, b'] = false := nomark_of hb'
      refine pe_mono (pe_chain (op_cmpD R.un) (op_cmpD R.un) (ih.e a) (ih.e b) (ih.e b') hl) fun σ H Q h => ?_
      obtain ⟨μ, env, S, hS, hE, hp⟩ := h
      simp only [evE, hb, hb', Bool.or_self, Bool.false_eq_true, if_false] at hp
      refine ⟨μ, env, S, hS, hE, hp.bind fun x S1 μ1 H1 v1 _ x1 hS1 r1 hp1 => ?_⟩
      refine ⟨μ1, env, S1, hS1, hE.ext x1, hp1.bind fun y S2 μ2 H2 v2 _ x2 hS2 r2 hp2 => ?_⟩
      cases e : cmpD op x y S2 with
      | no => rw [e] at hp2; exact hp2.elim
      | ex c fs S => exact absurd e cmpD_nox
      | ok d S3 =>
        rw [e] at hp2
        obtain ⟨k, rfl, rfl⟩ := cmpD_bl e
        have r2' := r2
        refine ⟨μ2, S3, x, y, hS2, r1.ext x2, r2, ?_⟩
        rw [e]
        intro μ3 H3 v3 x3 hS3 r3
        simp only [RD] at r3
        refine ⟨k, r3, ?_⟩
        cases k with
        | false =>
          simp only [Bool.false_eq_true, if_false]
          exact hp2 _ _ _ x3 hS3 rd_bl
        | true =>
          simp only [if_true]
          have hp3 : PostG X.K X.mg μ3 H3 σ W (RD X.K X.mg) Q ((evE T n c false b' env S3).bind fun z S => cmpD op' y z S) := PostG.ext x3 hp2
          refine ⟨μ3, env, S3, hS3, (hE.ext x1).ext (x2.trans x3), hp3.bind fun z S4 μ4 H4 v4 _ x4 hS4 r4 hp4 => ?_⟩
          exact ⟨μ4, S4, y, z, hS4, r2.ext (x3.trans x4), r4, hp4.q fun _ _ _ => cmpD_nox⟩
/-- not -/
theorem notV_D (ih : Ih T X W n c) {a : Expr} : PE X (.UnaryOp .Not a pos) (rdE T X.K X.mg W (n + 1) c (.UnaryOp .Not a pos)) := by
  refine pe_mono (pe_notT (ih.e a)) fun σ H Q h => ?_
  obtain ⟨μ, env, S, hS, hE, hp⟩ := h
  simp only [evE] at hp
  refine ⟨μ, env, S, hS, hE, hp.bind fun d S1 μ1 H1 v _ x1 hS1 r1 hp1 => ?_⟩
  cases e : truthy S1 d with
  | none => rw [e] at hp1; exact hp1.elim
  | some b =>
    rw [e] at hp1
    exact ⟨b, truthy_of hS1 r1 e, hp1 _ _ _ Ext.refl hS1 rd_bl⟩
/-- and, or -/
theorem vals_D (ih : Ih T X W n c) {op : BoolOp} : ∀ {es : List Expr}, es ≠ [] → PE X (.BoolOp op es pos) (rdVs T X.K X.mg W n c (isStop op) es)
  | [], h => absurd rfl h
  | [e], _ => pe_mono (pe_one (ih.e e)) fun σ H Q h => h
  | e :: e' :: es, _ => by
    have ih2 := vals_D ih (op := op) (es := e' :: es) (by simp)
    cases op with
    | And =>
      refine pe_mono (pe_andT (ih.e e) ih2) fun σ H Q h => ?_
      obtain ⟨μ, env, S, hS, hE, hp⟩ := h
      simp only [evVals, isStop] at hp
      refine ⟨μ, env, S, hS, hE, hp.bind fun d S1 μ1 H1 v _ x1 hS1 r1 hp1 => ?_⟩
      cases e : truthy S1 d with
      | none => rw [e] at hp1; exact hp1.elim
      | some b =>
        rw [e] at hp1
        refine ⟨b, truthy_of hS1 r1 e, ?_⟩
        cases b with
        | true => simp only [if_true]; exact ⟨μ1, env, S1, hS1, hE.ext x1, hp1⟩
        | false => simp only [Bool.false_eq_true, if_false]; exact hp1 _ _ _ Ext.refl hS1 r1
    | Or =>
      refine pe_mono (pe_orT (ih.e e) ih2) fun σ H Q h => ?_
      obtain ⟨μ, env, S, hS, hE, hp⟩ := h
      simp only [evVals, isStop] at hp
      refine ⟨μ, env, S, hS, hE, hp.bind fun d S1 μ1 H1 v _ x1 hS1 r1 hp1 => ?_⟩
      cases e : truthy S1 d with
      | none => rw [e] at hp1; exact hp1.elim
      | some b =>
        rw [e] at hp1
        refine ⟨b, truthy_of hS1 r1 e, ?_⟩
        cases b with
        | true => simp only [if_true]; exact hp1 _ _ _ Ext.refl hS1 r1
        | false => simp only [Bool.false_eq_true, if_false]; exact ⟨μ1, env, S1, hS1, hE.ext x1, hp1⟩
theorem tests_D (ih : Ih T X W n c) {op : BoolOp} : ∀ {es : List Expr}, es ≠ [] → PW X (.BoolOp op es pos) (rdTs T X.K X.mg W n c (isStop op) es)
  | [], h => absurd rfl h
  | [e], _ => by
    cases op with
    | And => exact pw_mono (pw_and1 (ih.t e)) fun σ H Q h => h
    | Or => exact pw_mono (pw_or1 (ih.t e)) fun σ H Q h => h
  | e :: e' :: es, _ => by
    have ih2 := tests_D ih (op := op) (es := e' :: es) (by simp)
    cases op with
    | And =>
      refine pw_mono (pw_and (ih.t e) ih2) fun σ H Q h => ?_
      obtain ⟨μ, env, S, hS, hE, hp⟩ := h
      simp only [evTests, isStop] at hp
      refine ⟨μ, env, S, hS, hE, hp.bind fun d S1 μ1 H1 b _ x1 hS1 r1 hp1 => ?_⟩
      cases (show d = .bl b from r1)
      cases b with
      | true => simp only [if_true]; exact ⟨μ1, env, S1, hS1, hE.ext x1, hp1⟩
      | false => simp only [Bool.false_eq_true, if_false]; exact hp1 _ _ _ Ext.refl hS1 rfl
    | Or =>
      refine pw_mono (pw_or (ih.t e) ih2) fun σ H Q h => ?_
      obtain ⟨μ, env, S, hS, hE, hp⟩ := h
      simp only [evTests, isStop] at hp
      refine ⟨μ, env, S, hS, hE, hp.bind fun d S1 μ1 H1 b _ x1 hS1 r1 hp1 => ?_⟩
      cases (show d = .bl b from r1)
      cases b with
      | true => simp only [if_true]; exact hp1 _ _ _ Ext.refl hS1 rfl
      | false => simp only [Bool.false_eq_true, if_false]; exact ⟨μ1, env, S1, hS1, hE.ext x1, hp1⟩
theorem notT_D (ih : Ih T X W n c) {a : Expr} : PT X (.UnaryOp .Not a pos) (rdT T X.K X.mg W (n + 1) c (.UnaryOp .Not a pos)) := by
  refine pt_mono (pt_not (ih.t a)) fun σ H Q h => ?_
  obtain ⟨μ, env, S, hS, hE, hp⟩ := h
  simp only [evE] at hp
  refine ⟨μ, env, S, hS, hE, hp.bind fun d S1 μ1 H1 b _ x1 hS1 r1 hp1 => ?_⟩
  cases (show d = .bl b from r1)
  exact hp1 _ _ _ Ext.refl hS1 rfl
theorem neg_D (ih : Ih T X W n c) {a : Expr} : PE X (.UnaryOp .USub a pos) (rdE T X.K X.mg W (n + 1) c (.UnaryOp .USub a pos)) := by
  refine pe_mono (pe_un un_neg (ih.e a)) fun σ H Q h => ?_
  obtain ⟨μ, env, S, hS, hE, hp⟩ := h
  simp only [evE] at hp
  refine ⟨μ, env, S, hS, hE, hp.bind fun d S1 μ1 H1 v _ x1 hS1 r1 hp1 => ?_⟩
  cases d with
  | int i =>
    simp only [RD] at r1
    exact ⟨i, r1, hp1 _ _ _ Ext.refl hS1 rd_int⟩
  | _ => exact hp1.elim
/-- a if t else b -/
theorem if_D (ih : Ih T X W n c) {t a b : Expr} : PE X (.IfExp t a b pos) (rdE T X.K X.mg W (n + 1) c (.IfExp t a b pos)) := by
  refine pe_mono (pe_ifExp (ih.t t) (ih.e a) (ih.e b)) fun σ H Q h => ?_
  obtain ⟨μ, env, S, hS, hE, hp⟩ := h
  simp only [evE] at hp
  refine ⟨μ, env, S, hS, hE, hp.bind fun d S1 μ1 H1 k _ x1 hS1 r1 hp1 => ?_⟩
  cases (show d = .bl k from r1)
  cases k with
  | true => exact ⟨μ1, env, S1, hS1, hE.ext x1, hp1⟩
  | false => exact ⟨μ1, env, S1, hS1, hE.ext x1, hp1⟩
end
end Cor
end
section
set_option linter.all false
set_option maxHeartbeats 1000000
namespace Cor
open PySem PySem.Spec PyProof.Rows L2
section
variable {T : GT} {c : SC} {X : Cx} {W : WX} {n : Nat} {pos : Pos}
theorem star_no {e : Expr} (h : isStar e = true) (env : DEnv) (S : Sto) : evE T n c false e env S = .no := by
  cases e with
  | Starred _ _ => cases n <;> rfl
  | _ => cases h
theorem star_of {e : Expr} (h : isStar e = false) (es : List Expr) (env : Env) : starEach (e :: es) env = (false, eval e env) :: starEach es env := by
  cases e with
  | Starred _ _ => cases h
  | _ => rfl
theorem args_D (ih : Ih T X W n c) : ∀ (es : List Expr), PA X es (rdA T X.K X.mg W n c es)
  | [] => pa_mono pa_nil fun σ H Q h => by
    obtain ⟨μ, env, S, hS, hE, hp⟩ := h
    exact hp _ _ _ Ext.refl hS rds_nil
  | e :: es => by
    cases hs : isStar e with
    | true =>
      refine ⟨fun pos pins s σ H Q I h => ?_⟩
      obtain ⟨μ, env, S, hS, hE, hp⟩ := h
      simp only [evAll, star_no hs] at hp
      exact hp.elim
    | false =>
      refine pa_mono (pa_cons (ih.e e) (args_D ih es) (star_of hs es X.env)) fun σ H Q h => ?_
      obtain ⟨μ, env, S, hS, hE, hp⟩ := h
      simp only [evAll] at hp
      refine ⟨μ, env, S, hS, hE, hp.bind fun d S1 μ1 H1 v _ x1 hS1 r1 hp1 => ?_⟩
      refine ⟨μ1, env, S1, hS1, hE.ext x1, hp1.bind fun ds S2 μ2 H2 vs _ x2 hS2 r2 hp2 => ?_⟩
      exact hp2 _ _ _ Ext.refl hS2 (rds_cons (r1.ext x2) r2)
theorem PostG.to {α β : Type} {K : PySem.W.Frag} {mg : Str → Option Value} {μ : List Addr} {H : Hp} {σ : L2.St} {rel : List Addr → Hp → α → β → Prop} {Q : β → Hp → Prop} {a : α} {S : Sto} {b : β} (h : PostG K mg μ H σ W rel Q (.ok a S)) (hs : Sim K mg μ S H) (r : rel μ H a b) : Q b H := h _ _ _ Ext.refl hs r
theorem list_D' (ih : Ih T X W n c) {es : List Expr} : PE X (.List es pos) (rdE T X.K X.mg W (n + 1) c (.List es pos)) := by
  refine pe_mono (pe_lst (args_D ih es)) fun σ H Q h => ?_
  obtain ⟨μ, env, S, hS, hE, hp⟩ := h
  simp only [evE] at hp
  refine ⟨μ, env, S, hS, hE, hp.bind fun ds S1 μ1 H1 vs _ x1 hS1 r1 hp1 => ?_⟩
  unfold newL at hp1
  split at hp1
  · rename_i hl
    refine ⟨by rw [← r1.length]; exact hl, fun p hn => ?_⟩
    exact (hp1.q fun _ _ _ z => by simp [newO] at z).new hS1 hn rfl fun x => ⟨_, upd_same, r1.ext x⟩
  · exact hp1.elim
theorem tuple_D' (ih : Ih T X W n c) {es : List Expr} {k : Nat} : PE X (.Tuple es k pos) (rdE T X.K X.mg W (n + 1) c (.Tuple es k pos)) := by
  refine pe_mono (pe_tup (args_D ih es)) fun σ H Q h => ?_
  obtain ⟨μ, env, S, hS, hE, hp⟩ := h
  simp only [evE] at hp
  refine ⟨μ, env, S, hS, hE, hp.bind fun ds S1 μ1 H1 vs _ x1 hS1 r1 hp1 => ?_⟩
  unfold mkTup at hp1
  split at hp1
  · rename_i hl
    refine ⟨by rw [← r1.length]; exact hl, fun p hn => ?_⟩
    exact PostQ.tup (hp1.q fun _ _ _ z => by cases z) hS1 hn r1
  · exact hp1.elim
/-- items -/
theorem plainIx_of {i : Expr} (h : isSliceE i = false) : PlainIx i := by
  intro o v
  unfold subscripted
  split
  · cases h
  · rename_i z; cases z
  · rfl
theorem item_D (ih : Ih T X W n c) {a i : Expr} (h : isSliceE i = false) : PE X (.Subscript a i pos) (rdE T X.K X.mg W (n + 1) c (.Subscript a i pos)) := by
  refine pe_mono (pe_ix ix_D (ih.e a) (ih.e i) (plainIx_of h)) fun σ H Q hh => ?_
  obtain ⟨μ, env, S, hS, hE, hp⟩ := hh
  have hp : PostG X.K X.mg μ H σ W (RD X.K X.mg) Q ((evE T n c false a env S).bind fun x S => (evE T n c false i env S).bind fun y S => ofO S (ixD S x y)) := by
    cases i with
    | Slice _ _ _ _ => cases h
    | _ =>
      simp only [evE, isSliceE, Bool.false_eq_true, if_false] at hp
      exact hp
  refine ⟨μ, env, S, hS, hE, hp.bind fun x S1 μ1 H1 v1 _ x1 hS1 r1 hp1 => ?_⟩
  refine ⟨μ1, env, S1, hS1, hE.ext x1, hp1.bind fun y S2 μ2 H2 v2 _ x2 hS2 r2 hp2 => ?_⟩
  exact ⟨μ2, S2, x, y, hS2, r1.ext x2, r2, hp2.q fun _ _ _ => ofO_nox⟩
/-- a part of a cut -/
def rdO (T : GT) (K : PySem.W.Frag) (mg : Str → Option Value) (W : WX) (n : Nat) (c : SC) (e : Option Expr) : TO := fun σ H Q => ∃ μ env S, Sim K mg μ S H ∧ EnvR K mg μ H env σ ∧ PostG K mg μ H σ W (fun _ _ a b => a = b) Q (optE (fun e S => evE T n c false e env S) e S)
theorem part_D (ih : Ih T X W n c) : ∀ {e : Option Expr}, PO X e (rdO T X.K X.mg W n c e)
  | none => ⟨fun pins s σ H Q I h => by
    obtain ⟨μ, env, S, hS, hE, hp⟩ := h
    exact po_none.run pins s σ H Q I (hp.to hS rfl)⟩
  | some e => ⟨fun pins s σ H Q I h => by
    obtain ⟨μ, env, S, hS, hE, hp⟩ := h
    simp only [optE] at hp
    refine (po_some (ih.e e)).run pins s σ H Q I ⟨μ, env, S, hS, hE, hp.bind fun d S1 μ1 H1 v _ x1 hS1 r1 hp1 => ?_⟩
    cases d with
    | int i =>
      simp only [RD] at r1
      exact ⟨i, r1, hp1.to hS1 rfl⟩
    | _ => exact hp1.elim⟩
theorem rds_rev {K : PySem.W.Frag} {mg : Str → Option Value} {μ : List Addr} {H : Hp} : ∀ {ds : List D} {vs : List V}, RDs K mg μ H ds vs → RDs K mg μ H ds.reverse vs.reverse
  | [], vs, h => by simp only [RDs] at h; subst h; exact rds_nil
  | d :: ds, vs, h => by
    simp only [RDs] at h
    obtain ⟨y, ys, rfl, r, q⟩ := h
    rw [List.reverse_cons, List.reverse_cons]
    exact rds_app1 (rds_rev q) r
theorem rev_D (ih : Ih T X W n c) {a st : Expr} {p3 : Pos} : PE X (.Subscript a (.Slice none none (some st) p3) pos) (rdE T X.K X.mg W (n + 1) c (.Subscript a (.Slice none none (some st) p3) pos)) := by
  cases h : isM1 st with
  | false => exact pe_no (rdE_no (fun env S => by simp only [evE, h, Bool.false_eq_true, if_false]) _ _)
  | true =>
    have h0 := h
    unfold isM1 at h
    split at h
    · rename_i i q p1 p2
      have hi := of_decide_eq_true h
      subst hi
      refine pe_mono (pe_revL (ih.e a)) fun σ H Q hh => ?_
      obtain ⟨μ, env, S, hS, hE, hp⟩ := hh
      simp only [evE, h0, if_true] at hp
      refine ⟨μ, env, S, hS, hE, hp.bind fun x S1 μ1 H1 v1 _ x1 hS1 r1 hp1 => ?_⟩
      unfold revD at hp1
      cases e : lstD S1 x with
      | none => rw [e] at hp1; exact hp1.elim
      | some ds =>
        rw [e] at hp1
        cases x with
        | ref k =>
          obtain ⟨p, ys, rfl, sq, rr⟩ := lstD_sq hS1 e r1
          have hq : PostQ X.K X.mg μ1 H1 Q (newO (.lst ds.reverse) S1) := hp1.q fun _ _ _ z => by cases z
          refine ⟨p, ys, rfl, sq, fun q hn => hq.new hS1 hn rfl fun x => ⟨_, upd_same, (rds_rev rr).ext x⟩⟩
        | _ => simp [lstD] at e
    · cases h
theorem cut_D (ih : Ih T X W n c) {a : Expr} {lo hi : Option Expr} {p2 : Pos} : PE X (.Subscript a (.Slice lo hi none p2) pos) (rdE T X.K X.mg W (n + 1) c (.Subscript a (.Slice lo hi none p2) pos)) := by
  refine pe_mono (pe_slice sl_D (ih.e a) (part_D ih) (part_D ih)) fun σ H Q h => ?_
  obtain ⟨μ, env, S, hS, hE, hp⟩ := h
  simp only [evE] at hp
  refine ⟨μ, env, S, hS, hE, hp.bind fun x S1 μ1 H1 v1 _ x1 hS1 r1 hp1 => ?_⟩
  refine ⟨μ1, env, S1, hS1, hE.ext x1, hp1.bind fun l S2 μ2 H2 l2 _ x2 hS2 r2 hp2 => ?_⟩
  refine ⟨μ2, env, S2, hS2, (hE.ext x1).ext x2, hp2.bind fun u S3 μ3 H3 u3 _ x3 hS3 r3 hp3 => ?_⟩
  subst r2; subst r3
  exact ⟨μ3, S3, x, hS3, (r1.ext x2).ext x3, hp3.q fun _ _ _ => cutD_nox⟩
/-- the empty dict -/
theorem dict0_D : PE X (.Dict [] [] pos) (rdE T X.K X.mg W (n + 1) c (.Dict [] [] pos)) := by
  refine pe_mono pe_dnewK fun σ H Q h => ?_
  obtain ⟨μ, env, S, hS, hE, hp⟩ := h
  simp only [evE] at hp
  intro p hn
  exact (hp.q fun _ _ _ z => by simp [newO] at z).new hS hn rfl fun x => ⟨_, upd_same, .nil⟩
/-- builtins by name -/
def biVal : BI → Value
  | .len => .builtin "len"
  | .isinstance => .builtin "isinstance"
  | .all => .builtin "all"
  | .any => .builtin "any"
  | .int => .type "int"
  | .repr => .builtin "repr"
  | .tuple => .type "tuple"
  | .list => .type "list"
  | .max => .builtin "max"
  | .min => .builtin "min"
  | .sorted => .builtin "sorted"
theorem bi_D (R : CxR T c X) (f : BI) : CallR X (biVal f) (rPn X.K X.mg (callB f)) := by
  cases f with
  | len => exact len_D
  | isinstance => exact isi_D
  | all => exact all_D R.calm
  | any => exact any_D R.calm
  | int => exact int_D
  | repr => exact repr_D R.g R.un
  | tuple => exact tuple_D
  | list => exact list_D
  | max => exact max_D R.calm
  | min => exact min_D R.calm
  | sorted => exact sorted_D
theorem bi_boot {x : Str} {f : BI} (h : biOf x = some f) : bootBuiltins x = some (biVal f) ∧ x ≠ "__name__" ∧ (x == ("__debug__" : Str)) = false := by
  unfold biOf at h
  split at h
  · rename_i e; cases h; subst e; exact ⟨by decide +kernel, by decide +kernel, by decide +kernel⟩
  split at h
  · rename_i e; cases h; subst e; exact ⟨by decide +kernel, by decide +kernel, by decide +kernel⟩
  split at h
  · rename_i e; cases h; subst e; exact ⟨by decide +kernel, by decide +kernel, by decide +kernel⟩
  split at h
  · rename_i e; cases h; subst e; exact ⟨by decide +kernel, by decide +kernel, by decide +kernel⟩
  split at h
  · rename_i e; cases h; subst e; exact ⟨by decide +kernel, by decide +kernel, by decide +kernel⟩
  split at h
  · rename_i e; cases h; subst e; exact ⟨by decide +kernel, by decide +kernel, by decide +kernel⟩
  split at h
  · rename_i e; cases h; subst e; exact ⟨by decide +kernel, by decide +kernel, by decide +kernel⟩
  split at h
  · rename_i e; cases h; subst e; exact ⟨by decide +kernel, by decide +kernel, by decide +kernel⟩
  split at h
  · rename_i e; cases h; subst e; exact ⟨by decide +kernel, by decide +kernel, by decide +kernel⟩
  split at h
  · rename_i e; cases h; subst e; exact ⟨by decide +kernel, by decide +kernel, by decide +kernel⟩
  split at h
  · rename_i e; cases h; subst e; exact ⟨by decide +kernel, by decide +kernel, by decide +kernel⟩
  · cases h
theorem plain_of : ∀ {es : List Expr} {env : Env}, noStar es = true → (backTo pos (starEach es env)).any (·.1) = false
  | [], _, _ => rfl
  | e :: es, env, h => by
    unfold noStar at h
    simp only [List.all_cons, Bool.and_eq_true] at h
    have h1 : isStar e = false := by simpa using h.1
    rw [star_of h1]
    show (false || (backTo pos (starEach es env)).any (·.1)) = false
    rw [plain_of h.2]; rfl
theorem noStar_cons {e : Expr} {es : List Expr} (h : noStar (e :: es) = true) : isStar e = false ∧ noStar es = true := by
  unfold noStar at h ⊢
  simp only [List.all_cons, Bool.and_eq_true] at h
  exact ⟨by simpa using h.1, h.2⟩
theorem rds_range {K : PySem.W.Frag} {mg : Str → Option Value} {μ : List Addr} {H : Hp} : ∀ (n : Nat) (lo : Int), RDs K mg μ H (rangeD lo n) ((List.range n).map fun i => V.int (lo + (i : Nat)))
  | 0, lo => rds_nil
  | n + 1, lo => by
    rw [List.range_succ_eq_map, List.map_cons, List.map_map]
    unfold rangeD
    refine rds_cons (by simp [RD]) ?_
    have e : ((fun i => V.int (lo + (i : Nat))) ∘ Nat.succ) = fun i : Nat => V.int (lo + 1 + (i : Nat)) := by
      funext i
      show V.int (lo + ((i + 1 : Nat) : Int)) = _
      congr 1
      omega
    rw [e]
    exact rds_range n (lo + 1)
theorem listRg_nox {d e S c fs S'} : listRg d e S ≠ .ex c fs S' := by
  unfold listRg newO
  split <;> (try split) <;> simp
theorem listRg_D {K : PySem.W.Frag} {mg : Str → Option Value} {μ : List Addr} {H : Hp} {S : Sto} {i j : Int} {Q : VK} (hS : Sim K mg μ S H) (hp : PostQ K mg μ H Q (listRg (.int i) (.int j) S)) : RgOk i j ∧ ∀ q, H q = none → Q (.ref q) (upd H q (.lst (rgV i j))) := by
  unfold listRg at hp
  dsimp only at hp
  split at hp
  · rename_i h
    have h3 := small6_iff.mp h.2.2.1
    have h4 := small6_iff.mp h.2.2.2
    exact ⟨RgOk.of_le h.1 (by omega) (by omega) h.2.1, fun q hn => hp.new hS hn rfl fun x => ⟨_, upd_same, (rds_range _ _).ext x⟩⟩
  · exact hp.elim
theorem listRg_int {d e : D} {S : Sto} {r : D} {S' : Sto} : (∃ i j, d = .int i ∧ e = .int j) ∨ listRg d e S = .no := by
  cases d with
  | int i => cases e with
    | int j => exact .inl ⟨i, j, rfl, rfl⟩
    | _ => exact .inr rfl
  | _ => exact .inr rfl
theorem callr_D (Rc : CxR T c X) (ih : Ih T X W n c) {x : Str} {p : Pos} {es rs : List Expr} {kws : List Keyword} (hlr : lrOf T c x es kws = some rs) :
    PE X (.Call (.Name x p) es kws pos) (rdE T X.K X.mg W (n + 1) c (.Call (.Name x p) es kws pos)) := by
  have hlr0 := hlr
  unfold lrOf at hlr
  split at hlr
  · rename_i y p2 rs' p3
    split at hlr
    · rename_i hh
      obtain ⟨rfl, g1, n1, rfl, g2, n2, hs⟩ := hh
      cases hlr
      have n1' : T.gl ("list" : Str) = none := by simpa using n1
      have n2' : T.gl ("range" : Str) = none := by simpa using n2
      have hG1 := gl_of (X := X) Rc.nm g1
      have hG2 := gl_of (X := X) Rc.nm g2
      have hm1 := Rc.tab.bn "list" n1' (.inl (by decide +kernel))
      have hm2 := Rc.tab.bn "range" n2' (.inr (.inr rfl))
      match rs, hs with
      | [a], hs =>
        obtain ⟨ha, _⟩ := noStar_cons hs
        refine pe_mono (pe_listRg Rc.calm hG1 hm1 (prg_1 hG2 hm2 (ih.e a) (star_of ha [] X.env))) fun σ H Q h => ?_
        obtain ⟨μ, env, S, hS, hE, hp⟩ := h
        simp only [evE, hlr0] at hp
        refine ⟨μ, env, S, hS, hE, hp.bind fun d S1 μ1 H1 v _ x1 hS1 r1 hp1 => ?_⟩
        rcases listRg_int (d := .int 0) (e := d) (S := S1) (r := d) (S' := S1) with ⟨i, j, e1, rfl⟩ | hno
        · cases e1
          simp only [RD] at r1
          exact ⟨j, r1, listRg_D hS1 (hp1.q fun _ _ _ => listRg_nox)⟩
        · rw [hno] at hp1; exact hp1.elim
      | [a, b], hs =>
        obtain ⟨ha, hs2⟩ := noStar_cons hs
        obtain ⟨hb, _⟩ := noStar_cons hs2
        refine pe_mono (pe_listRg Rc.calm hG1 hm1 (prg_2 hG2 hm2 (ih.e a) (ih.e b) (star_of ha [b] X.env) (star_of hb [] X.env) (by rw [star_of hb]; rfl))) fun σ H Q h => ?_
        obtain ⟨μ, env, S, hS, hE, hp⟩ := h
        simp only [evE, hlr0] at hp
        refine ⟨μ, env, S, hS, hE, hp.bind fun d S1 μ1 H1 v _ x1 hS1 r1 hp1 => ?_⟩
        refine ⟨μ1, env, S1, hS1, hE.ext x1, hp1.bind fun e S2 μ2 H2 v2 _ x2 hS2 r2 hp2 => ?_⟩
        rcases listRg_int (d := d) (e := e) (S := S2) (r := d) (S' := S1) with ⟨i, j, rfl, rfl⟩ | hno
        · simp only [RD] at r1 r2
          exact ⟨i, j, r1, r2, listRg_D hS2 (hp2.q fun _ _ _ => listRg_nox)⟩
        · rw [hno] at hp2; exact hp2.elim
      | [], _ => exact pe_no (rdE_no (fun env S => by simp only [evE, hlr0]) _ _)
      | _ :: _ :: _ :: _, _ => exact pe_no (rdE_no (fun env S => by simp only [evE, hlr0]) _ _)
    · cases hlr
  · cases hlr
theorem callb_D (Rc : CxR T c X) (ih : Ih T X W n c) {x : Str} {f : BI} {p : Pos} {es : List Expr} (hg : isGl c x = true) (hs : noStar es = true) (hn : T.gl x = none) (hf : biOf x = some f) (hlr : lrOf T c x es [] = none) :
    PE X (.Call (.Name x p) es [] pos) (rdE T X.K X.mg W (n + 1) c (.Call (.Name x p) es [] pos)) := by
  refine ⟨fun pins s σ H Q I h => ?_⟩
  obtain ⟨μ, env, S, hS, hE, hp⟩ := h
  simp only [evE, hlr, hg, hs, Bool.and_self, if_true, hn, hf] at hp
  obtain ⟨b1, b2, b3⟩ := bi_boot hf
  have hm := Rc.tab.bn x hn (.inl (by rw [hf]; rfl))
  have hG := gl_of (X := X) Rc.nm hg
  cases es with
  | nil =>
    have e0 : callB f [] S = .no := by cases f <;> rfl
    have hp' : PostG X.K X.mg μ H σ W (RD X.K X.mg) Q (callB f [] S) := hp
    rw [e0] at hp'
    exact hp'.elim
  | cons e es =>
    obtain ⟨h1, h2⟩ := noStar_cons hs
    have rd : rdA T X.K X.mg W n c (e :: es) σ H (fun vs H1 => rPn X.K X.mg (callB f) vs H1 Q) :=
      ⟨μ, env, S, hS, hE, hp.bind fun ds S1 μ1 H1 vs _ x1 hS1 r1 hp1 => ⟨μ1, S1, ds, hS1, r1, hp1.q fun _ _ _ => callB_nox⟩⟩
    cases hv : biVal f with
    | builtin id =>
      have hr : CallR X (.builtin id) (rPn X.K X.mg (callB f)) := by rw [← hv]; exact bi_D Rc f
      exact (pe_callB hr hG hm (by rw [b1, hv]) (args_D ih (e :: es)) b2 b3 (star_of h1 es X.env) (plain_of h2)).run pins s σ H Q I rd
    | type id =>
      have hr : CallR X (.type id) (rPn X.K X.mg (callB f)) := by rw [← hv]; exact bi_D Rc f
      exact (pe_callTy hr hG hm (by rw [b1, hv]) (args_D ih (e :: es)) b2 b3 (star_of h1 es X.env) (plain_of h2)).run pins s σ H Q I rd
    | _ => cases f <;> cases hv
end
end Cor
end
section
set_option linter.all false
set_option maxHeartbeats 1000000
namespace Cor
open PySem PySem.Spec PyProof.Rows L2
/-- a def keeps what the evaluator says of it -/
structure FnD (P : Program) (w : World) (K : PySem.W.Frag) (mg : Str → Option Value) (base : Heap) (k : Nat) (f : Addr) (fd : FuncData) (ps : List Str) (g : List D → Sto → R D) : Prop where
  run : ∀ (A : Around) (outer : List Env) (s : Shared) (H : Hp) (args : Args) (us : List Value) (vs : List V) (ds : List D) (μ : List Addr) (S : Sto) (Q : VK) (E : XK), A.guards = some [] → Room k A → Env0 P w K mg base A outer s H →
    BindsTo s fd args (ps.zip us) → Vals vs us → ds.length = ps.length → Sim K mg μ S H → RDs K mg μ H ds vs → PostG K mg μ H [] (fun c d _ h => E c d h) (RD K mg) Q (g ds S) →
    codeAny (model P w) A (.call (.ref f) args) (CR (CX P w) outer P w H s Q E) s
/-- all defs of the table -/
structure FnsOk (T : GT) (P : Program) (w : World) (K : PySem.W.Frag) (mg : Str → Option Value) (base : Heap) (k : Nat) : Prop where
  fn : ∀ f ps, T.sig f = some ps → ∃ a fd, mg f = some (.ref a) ∧ PySem.W.keepIn K (.ref a) = true ∧ FnD P w K mg base k a fd ps (T.fn f) ∧ Binds K fd ps [] ∧
    ∀ n ks, T.kb f n ks = true → ∀ (s : Shared) (us ws r : List Value), K.In s.heap → us.length = n → ws.length = ks.length → placeK ps us (ks.zip ws) = some r → BindsTo s fd ⟨us, ks.zip ws⟩ (ps.zip r)
structure XOk (T : GT) (c : SC) (X : Cx) (W : WX) (k : Nat) : Prop extends CxR T c X where
  fns : FnsOk T X.prog X.w X.K X.mg X.base k
  room : Room k X.A
  takes : Takes X W
  own : PassesOwn (model X.prog X.w) X.A X.env X.xe
  kind : X.env.scope.kind = .function
  fx : ∀ x, c.fx x = true → X.fn x = true
section
variable {T : GT} {c : SC} {X : Cx} {W : WX} {n k : Nat} {pos : Pos}
theorem PostG.any {K : PySem.W.Frag} {mg : Str → Option Value} {μ : List Addr} {H : Hp} {σ σ' : L2.St} {W W' : WX} {α β : Type} {rel : List Addr → Hp → α → β → Prop} {Q : β → Hp → Prop} {r : R α} (h : PostG K mg μ H σ W rel Q r) (k : ∀ c d H, W c d σ H → W' c d σ' H) : PostG K mg μ H σ' W' rel Q r := by
  cases r with
  | ok a S => exact h
  | ex c fs S => exact fun μ1 H1 cls dd x hs hr => k _ _ _ (h μ1 H1 cls dd x hs hr)
  | no => exact h
/-- the callee runs -/
theorem run_D {a : Addr} {fd : FuncData} {ps : List Str} {g : List D → Sto → R D} (O : XOk T c X W k) (F : FnD X.prog X.w X.K X.mg X.base k a fd ps g) {pins : List (Addr × Obj)} {σ : L2.St} {H : Hp} {s : Shared} {μ : List Addr} {S : Sto} {Q : VK} {us ur : List Value} {kw : List (Str × Value)} {vs : List V} {ds : List D}
    (I : Inv X pins σ H s) (hb : BindsTo s fd ⟨us, kw⟩ (ps.zip ur)) (r : Vals vs ur) (hl : ds.length = ps.length) (hS : Sim X.K X.mg μ S H) (rd : RDs X.K X.mg μ H ds vs) (h : PostG X.K X.mg μ H σ W (RD X.K X.mg) Q (g ds S)) :
    wpAny (model X.prog X.w) X.A (call (.ref a) us kw) (EP X pins σ Q) X.xe s := by
  refine wpAny_call (codeAny_mono (F.run X.A X.stack s H ⟨us, kw⟩ ur vs ds μ S Q (fun cls d h => W cls d σ h) O.g O.room I.env0 hb r hl hS rd (h.any fun _ _ _ z => z)) fun res s2 hq => ?_)
  match res, hq with
  | .error e, hq => exact O.takes e s2 (XE.of_call I (fun _ _ _ z => z) hq)
  | .ok (.ret u), hq => exact I.after hq
/-- keywords' values -/
def rdK (T : GT) (K : PySem.W.Frag) (mg : Str → Option Value) (W : WX) (n : Nat) (c : SC) (ks : List Keyword) : TA := fun σ H Q => ∃ μ env S, Sim K mg μ S H ∧ EnvR K mg μ H env σ ∧ PostG K mg μ H σ W (RDs K mg) Q (evAll (fun (q : Keyword) S => evE T n c false q.value env S) ks S)
theorem pk_mono {ks : List Keyword} {t t' : TA} (h : PK X ks t) (q : ∀ σ H Q, t' σ H Q → t σ H Q) : PK X ks t' := ⟨fun pos pins s σ H Q I z => h.run pos pins s σ H Q I (q σ H Q z)⟩
theorem kws_D (ih : Ih T X W n c) : ∀ (ks : List Keyword), PK X ks (rdK T X.K X.mg W n c ks)
  | [] => pk_mono pk_nil fun σ H Q h => by
    obtain ⟨μ, env, S, hS, hE, hp⟩ := h
    exact hp.to hS rds_nil
  | ⟨nm, e, p⟩ :: ks => by
    refine pk_mono (pk_cons (ih.e e) (kws_D ih ks)) fun σ H Q h => ?_
    obtain ⟨μ, env, S, hS, hE, hp⟩ := h
    simp only [evAll] at hp
    refine ⟨μ, env, S, hS, hE, hp.bind fun d S1 μ1 H1 v _ x1 hS1 r1 hp1 => ?_⟩
    refine ⟨μ1, env, S1, hS1, hE.ext x1, hp1.bind fun ds S2 μ2 H2 vs _ x2 hS2 r2 hp2 => ?_⟩
    exact hp2.to hS2 (rds_cons (r1.ext x2) r2)
theorem kw_names {env : Env} : ∀ {kws : List Keyword} {ks : List Str}, kwNames kws = some ks →
    (backToKw pos (keywordEach kws env)).filterMap (·.1) = ks ∧ (backToKw pos (keywordEach kws env)).all (·.1.isSome) = true ∧ (backToKw pos (keywordEach kws env)).any (·.1.isNone) = false ∧ kws.length = ks.length
  | [], ks, h => by cases h; exact ⟨rfl, rfl, rfl, rfl⟩
  | ⟨none, e, p⟩ :: kws, ks, h => by simp [kwNames] at h
  | ⟨some x, e, p⟩ :: kws, ks, h => by
    simp only [kwNames] at h
    cases q : kwNames kws with
    | none => rw [q] at h; cases h
    | some xs =>
      rw [q] at h; cases h
      obtain ⟨h1, h2, h3, h4⟩ := kw_names (env := env) q
      refine ⟨?_, ?_, ?_, congrArg Nat.succ h4⟩
      · show x :: (backToKw pos (keywordEach kws env)).filterMap (·.1) = _
        rw [h1]
      · show (true && (backToKw pos (keywordEach kws env)).all (·.1.isSome)) = true
        rw [h2]; rfl
      · show (false || (backToKw pos (keywordEach kws env)).any (·.1.isNone)) = false
        rw [h3]; rfl
theorem evAll_len {α : Type} {f : α → Sto → R D} : ∀ {as : List α} {S : Sto} {ds : List D} {S' : Sto}, evAll f as S = .ok ds S' → ds.length = as.length
  | [], S, ds, S', h => by cases h; rfl
  | a :: as, S, ds, S', h => by
    simp only [evAll] at h
    cases e : f a S with
    | ok d S1 =>
      rw [e] at h
      simp only [R.bind] at h
      cases e2 : evAll f as S1 with
      | ok ds2 S2 =>
        rw [e2] at h
        cases h
        simp [evAll_len e2]
      | _ => rw [e2] at h; cases h
    | _ => rw [e] at h; cases h
/-- what is placed for the one is placed for the other -/
theorem lookup_zip_rel {α β : Type} {F : α → β → Prop} {x : Str} : ∀ {ks : List Str} {as : List α} {bs : List β} {a : α}, Paired F as bs → (ks.zip as).lookup x = some a → ∃ b, (ks.zip bs).lookup x = some b ∧ F a b
  | [], as, bs, a, _, h => by simp at h
  | k :: ks, _, _, a, .nil, h => by simp at h
  | k :: ks, _, _, a, .cons r t, h => by
    rw [List.zip_cons_cons, List.lookup_cons] at h ⊢
    cases q : x == k with
    | true => rw [q] at h; cases h; exact ⟨_, rfl, r⟩
    | false => rw [q] at h; exact lookup_zip_rel t h
theorem place_rel {α β : Type} {F : α → β → Prop} {ps ks : List Str} {as : List α} {bs : List β} {za : List α} {zb : List β} {ra : List α} (h1 : Paired F as bs) (h2 : Paired F za zb) (hl : za.length = ks.length) (h : placeK ps as (ks.zip za) = some ra) :
    ∃ rb, placeK ps bs (ks.zip zb) = some rb ∧ Paired F ra rb ∧ ra.length = ps.length := by
  have e1 : as.length = bs.length := Paired.length h1
  have e2 : za.length = zb.length := Paired.length h2
  unfold placeK at h ⊢
  split at h
  · rename_i hc
    have hc' : bs.length + (ks.zip zb).length = ps.length := by
      rw [List.length_zip] at hc ⊢
      omega
    rw [if_pos hc', ← e1]
    have go : ∀ (qs : List Str) {r : List α}, optAll (fun p => (ks.zip za).lookup p) qs = some r → ∃ r', optAll (fun p => (ks.zip zb).lookup p) qs = some r' ∧ Paired F r r' ∧ r.length = qs.length := by
      intro qs
      induction qs with
      | nil => intro r h; cases h; exact ⟨[], rfl, .nil, rfl⟩
      | cons q qs ih =>
        intro r h
        simp only [optAll] at h ⊢
        cases e : (ks.zip za).lookup q with
        | none => rw [e] at h; cases h
        | some a =>
          rw [e] at h
          obtain ⟨b, eb, rb⟩ := lookup_zip_rel h2 e
          rw [eb]
          cases e3 : optAll (fun p => (ks.zip za).lookup p) qs with
          | none => rw [e3] at h; cases h
          | some r0 =>
            rw [e3] at h; cases h
            obtain ⟨r', e4, p4, l4⟩ := ih e3
            rw [e4]
            exact ⟨_, rfl, .cons rb p4, by simp [l4]⟩
    cases e : optAll (fun p => (ks.zip za).lookup p) (ps.drop as.length) with
    | none => rw [e] at h; cases h
    | some r =>
      rw [e] at h; cases h
      obtain ⟨r', e4, p4, l4⟩ := go _ e
      rw [e4]
      refine ⟨_, rfl, ?_, ?_⟩
      · have app : ∀ {xs : List α} {ys : List β}, Paired F xs ys → Paired F (xs ++ r) (ys ++ r') := by
          intro xs ys hp
          induction hp with
          | nil => exact p4
          | cons q t ih => exact .cons q ih
        exact app h1
      · rw [List.length_append, l4, List.length_drop]
        rw [List.length_zip] at hc
        omega
  · cases h
theorem place_D {K : PySem.W.Frag} {mg : Str → Option Value} {μ : List Addr} {H : Hp} {ps ks : List Str} {ds zs r : List D} {vs us : List V} (h1 : RDs K mg μ H ds vs) (h2 : RDs K mg μ H zs us) (hl : zs.length = ks.length) (h : placeK ps ds (ks.zip zs) = some r) :
    ∃ rv, placeK ps vs (ks.zip us) = some rv ∧ RDs K mg μ H r rv ∧ r.length = ps.length := by
  obtain ⟨rv, e1, e2, e3⟩ := place_rel (rds_paired.mp h1) (rds_paired.mp h2) hl h
  exact ⟨rv, e1, rds_paired.mpr e2, e3⟩
/-- a module's def called by its name -/
theorem callD_D (O : XOk T c X W k) (ih : Ih T X W n c) {x f : Str} {p : Pos} {es : List Expr} {kws : List Keyword} (hg : isGl c x = true) (hs : noStar es = true) (hn : T.gl x = some (.glob f)) (hlr : lrOf T c x es kws = none) :
    PE X (.Call (.Name x p) es kws pos) (rdE T X.K X.mg W (n + 1) c (.Call (.Name x p) es kws pos)) := by
  refine ⟨fun pins s σ H Q I h => ?_⟩
  obtain ⟨μ, env, S, hS, hE, hp⟩ := h
  simp only [evE, hlr, hg, hs, Bool.and_self, if_true, hn] at hp
  obtain ⟨u, v, m1, m2, m3⟩ := O.tab.gl x _ hn
  have m4 := m3 μ H
  simp only [RD] at m4
  obtain ⟨a, rfl, ma⟩ := m4
  cases m2
  have hG := gl_of (X := X) O.nm hg
  have hdb : (x == ("__debug__" : Str)) = false := by
    rw [beq_eq_false_iff_ne]
    rintro rfl
    rw [O.tab.db] at hn; cases hn
  refine wpAny_Call_Name_kw (ld_glob I hG m1 ?_ hdb)
  split at hp
  · rename_i ps ks hsig hks
    obtain ⟨a', fd, e1, hk, F, hb, hkb⟩ := O.fns.fn f ps hsig
    rw [ma] at e1
    cases e1
    obtain ⟨k1, k2, k3, k4⟩ := kw_names (pos := pos) (env := X.env) hks
    split at hp
    · rename_i he
      split at hp
      · rename_i hl
        have e0 : ks = [] := by simpa using he
        subst e0
        have e0 : kws = [] := by simpa using k4
        subst e0
        have go : ∀ {s1 : Shared} {us : List Value} {vs : List V} {H1 : Hp}, Inv X pins σ H1 s1 → Vals vs us → (∃ μ S ds, ds.length = es.length ∧ Sim X.K X.mg μ S H1 ∧ RDs X.K X.mg μ H1 ds vs ∧ PostG X.K X.mg μ H1 σ W (RD X.K X.mg) Q (T.fn f ds S)) →
            wpAny (model X.prog X.w) X.A (call (.ref a) ([] ++ us)) (EP X pins σ Q) X.xe s1 := by
          rintro s1 us vs H1 I1 r ⟨μ, S, ds, hd, hS, rd, hp⟩
          have l1 := rd.length
          have l2 := r.length
          have hB := hb s1 us I1.kIn (by simp; omega)
          rw [List.append_nil] at hB
          exact run_D O F (us := us) (ur := us) (kw := []) I1 hB r (by omega) hS rd hp
        cases es with
        | nil =>
          refine PySem.W.callWith_K0 I.kIn hk (go (us := []) (vs := []) I .nil ⟨μ, S, [], rfl, hS, rds_nil, hp⟩)
        | cons e es =>
          obtain ⟨h1, h2⟩ := noStar_cons hs
          refine PySem.W.callWith_K (h₀ := X.base) I.ok.mod.kin hk (thn ((args_D ih (e :: es)).run pos pins s σ H (fun vs H1 => ∃ μ S ds, ds.length = (e :: es).length ∧ Sim X.K X.mg μ S H1 ∧ RDs X.K X.mg μ H1 ds vs ∧ PostG X.K X.mg μ H1 σ W (RD X.K X.mg) Q (T.fn f ds S)) I ?_)
            fun us s1 ⟨vs, H1, I1, r, q⟩ => ⟨I1.kIn, go I1 r q⟩) (star_of h1 es X.env) (plain_of h2)
          exact ⟨μ, env, S, hS, hE, hp.bind fun ds S1 μ1 H1 vs ee x1 hS1 r1 hp1 => ⟨μ1, S1, ds, evAll_len ee, hS1, r1, hp1⟩⟩
      · exact hp.elim
    · split at hp
      · rename_i hne hkbt
        -- the keywords come behind
        have kwgo : ∀ {s1 : Shared} {us : List Value} {vs : List V} {H1 : Hp}, Inv X pins σ H1 s1 → Vals vs us → (∃ μ S ds, ds.length = es.length ∧ Sim X.K X.mg μ S H1 ∧ RDs X.K X.mg μ H1 ds vs ∧
            PostG X.K X.mg μ H1 σ W (RD X.K X.mg) Q ((evAll (fun (q : Keyword) S => evE T n c false q.value env S) kws S).bind fun zs S => match placeK ps ds (ks.zip zs) with | some ds => T.fn f ds S | none => .no) ∧ EnvR X.K X.mg μ H1 env σ) →
            wpAny (model X.prog X.w) X.A (evalAll ((backToKw pos (keywordEach kws X.env)).map (·.2))) (fun ws s2 => X.K.In s2.heap ∧ wpAny (model X.prog X.w) X.A (call (.ref a) ([] ++ us) (((backToKw pos (keywordEach kws X.env)).filterMap (·.1)).zip ws)) (EP X pins σ Q) X.xe s2) X.xe s1 := by
          rintro s1 us vs H1 I1 r ⟨μ, S, ds, hd, hS, rd, hp, hE⟩
          refine thn ((kws_D ih kws).run pos pins s1 σ H1 (fun zs H2 => ∃ μ S ds zd, ds.length = es.length ∧ zd.length = ks.length ∧ Sim X.K X.mg μ S H2 ∧ RDs X.K X.mg μ H2 ds vs ∧ RDs X.K X.mg μ H2 zd zs ∧
            PostG X.K X.mg μ H2 σ W (RD X.K X.mg) Q (match placeK ps ds (ks.zip zd) with | some ds => T.fn f ds S | none => .no)) I1 ?_) fun ws s2 ⟨zs, H2, I2, rz, μ2, S2, ds2, zd, l1, l2, hS2, rd2, rz2, hp2⟩ => ⟨I2.kIn, ?_⟩
          · exact ⟨μ, env, S, hS, hE, hp.bind fun zd S2 μ2 H2 zs ee x2 hS2 r2 hp2 => ⟨μ2, S2, ds, zd, hd, by rw [evAll_len ee, k4], hS2, rd.ext x2, r2, hp2⟩⟩
          · rw [k1]
            cases ep : placeK ps ds2 (ks.zip zd) with
            | none => rw [ep] at hp2; exact hp2.elim
            | some rd3 =>
              rw [ep] at hp2
              obtain ⟨rv, e3, r3, l3⟩ := place_D rd2 rz2 l2 ep
              have lz := rz2.length
              obtain ⟨ru, e4, r4, l4⟩ := place_rel (F := RelV) r rz (by omega) e3
              have l5 := rd2.length
              have l6 := r.length
              have l7 := rz.length
              exact run_D O F (us := us) (ur := ru) (kw := ks.zip ws) I2 (hkb _ _ hkbt s2 us ws ru I2.kIn (by omega) (by omega) e4) r4 l3 hS2 r3 hp2
        cases es with
        | nil =>
          exact PySem.W.callWith_KW0 (h₀ := X.base) I.ok.mod.kin hk k2 (kwgo (us := []) (vs := []) I .nil ⟨μ, S, [], rfl, hS, rds_nil, hp, hE⟩) (by rw [k3]; rfl)
        | cons e es =>
          obtain ⟨h1, h2⟩ := noStar_cons hs
          refine PySem.W.callWith_KW (h₀ := X.base) I.ok.mod.kin hk k2 (thn ((args_D ih (e :: es)).run pos pins s σ H (fun vs H1 => ∃ μ S ds, ds.length = (e :: es).length ∧ Sim X.K X.mg μ S H1 ∧ RDs X.K X.mg μ H1 ds vs ∧
            PostG X.K X.mg μ H1 σ W (RD X.K X.mg) Q ((evAll (fun (q : Keyword) S => evE T n c false q.value env S) kws S).bind fun zs S => match placeK ps ds (ks.zip zs) with | some ds => T.fn f ds S | none => .no) ∧ EnvR X.K X.mg μ H1 env σ) I ?_)
            fun us s1 ⟨vs, H1, I1, r, q⟩ => kwgo I1 r q) (by rw [k3, plain_of hs]; rfl) (star_of h1 es X.env)
          exact ⟨μ, env, S, hS, hE, hp.bind fun ds S1 μ1 H1 vs ee x1 hS1 r1 hp1 => ⟨μ1, S1, ds, evAll_len ee, hS1, r1, hp1, hE.ext x1⟩⟩
      · exact hp.elim
  · exact hp.elim
end
end Cor
end
section
set_option linter.all false
set_option maxHeartbeats 1000000
namespace Cor
open PySem PySem.Spec PyProof.Rows L2
section
variable {T : GT} {c : SC} {X : Cx} {W : WX} {n k : Nat} {pos : Pos}
theorem base_of {o : Expr} {m : Str} {env : Env} (h : isCallE o = false) : attributeBase o m env (eval o env) = eval o env := by
  unfold attributeBase
  split
  · cases h
  · rfl
theorem few_of {env : Env} : ∀ {es : List Expr}, noStar es = true → (backTo pos (starEach es env)).all (fun x => !x.1) = true
  | [], _ => rfl
  | e :: es, h => by
    obtain ⟨h1, h2⟩ := noStar_cons h
    rw [star_of h1]
    show (true && (backTo pos (starEach es env)).all (fun x => !x.1)) = true
    rw [few_of h2]; rfl
theorem tyV_lst {K : PySem.W.Frag} {mg : Str → Option Value} {μ : List Addr} {S : Sto} {H : Hp} {d : D} {v : V} (hS : Sim K mg μ S H) (e : (lstD S d).isSome = true) (r : RD K mg μ H d v) : tyV K "list" v H := by
  cases d with
  | ref m =>
    obtain ⟨ds, e⟩ := Option.isSome_iff_exists.mp e
    obtain ⟨a, xs, rfl, sq, _⟩ := lstD_sq hS e r
    exact .inl ⟨rfl, xs, sq⟩
  | _ => cases e
/-- a list's method; the list is looked at before the arguments -/
theorem meth_D (Rc : CxR T c X) (ih : Ih T X W n c) {o : Expr} {m : Str} {ap : Pos} {es : List Expr} : PE X (.Call (.Attribute o m ap) es [] pos) (rdE T X.K X.mg W (n + 1) c (.Call (.Attribute o m ap) es [] pos)) := by
  cases hm : miOf m with
  | none => exact pe_no (rdE_no (fun env S => by simp only [evE, hm]; cases mtOk o es ap pos <;> rfl) _ _)
  | some f =>
    cases hok : mtOk o es ap pos with
    | false => exact pe_no (rdE_no (fun env S => by simp only [evE, hm, hok]) _ _)
    | true =>
      unfold mtOk at hok
      simp only [Bool.and_eq_true, Bool.not_eq_true', decide_eq_true_eq] at hok
      obtain ⟨⟨⟨⟨h1, h2⟩, h3⟩, h4⟩, h5⟩ := hok
      cases es with
      | nil => simp at h5
      | cons e es =>
        obtain ⟨n1, n2⟩ := noStar_cons h2
        have few : ((backTo pos (starEach (e :: es) X.env)).all (fun x => !x.1) && (backToKw pos (keywordEach [] X.env)).all (fun x => x.1.isSome)
            && decide ((e :: es).length + ([] : List Keyword).length + (if ([] : List Keyword).isEmpty then 0 else 1) < 30)) = true := by
          rw [few_of h2]
          have : (e :: es).length + 0 + 0 < 30 := by omega
          simp only [Bool.true_and, Bool.and_eq_true, decide_eq_true_eq]
          exact ⟨rfl, this⟩
        have go : ∀ (id : String) (r : V → List V → Hp → VK → Prop), PySem.PlainAttrs "list" → PySem.Slot "list" m id → typeOf (.builtin id) = pure (.type "method_descriptor") → MtR X id (rPm X.K X.mg (callM f)) →
            PE X (.Call (.Attribute o m ap) (e :: es) [] pos) (rdE T X.K X.mg W (n + 1) c (.Call (.Attribute o m ap) (e :: es) [] pos)) := by
          intro id r pa sl ty hmt
          refine pe_mono (pe_bm pa sl ty hmt (ih.e o) (args_D ih (e :: es)) (base_of h1) few h4 (star_of n1 es X.env) (plain_of n2)) fun σ H Q h => ?_
          obtain ⟨μ, env, S, hS, hE, hp⟩ := h
          have hok : mtOk o (e :: es) ap pos = true := by
            unfold mtOk
            simp only [Bool.and_eq_true, Bool.not_eq_true', decide_eq_true_eq]
            exact ⟨⟨⟨⟨h1, h2⟩, h3⟩, h4⟩, h5⟩
          simp only [evE, hm, hok] at hp
          refine ⟨μ, env, S, hS, hE, hp.bind fun x S1 μ1 H1 v _ x1 hS1 r1 hp1 => ?_⟩
          split at hp1
          · rename_i hl
            refine ⟨tyV_lst hS1 hl r1, μ1, env, S1, hS1, hE.ext x1, hp1.bind fun ds S2 μ2 H2 vs _ x2 hS2 r2 hp2 => ?_⟩
            exact ⟨μ2, S2, x, ds, hS2, r1.ext x2, r2, hp2.q fun _ _ _ => callM_nox⟩
          · exact hp1.elim
        unfold miOf at hm
        split at hm
        · rename_i em; cases hm; subst em
          exact go "list.append" (rPm X.K X.mg (callM .append)) PySem.F.plainAttrs_list PySem.F.slot_list_append PySem.F.type_list_append append_D
        split at hm
        · rename_i em; cases hm; subst em
          exact go "list.index" (rPm X.K X.mg (callM .index)) PySem.F.plainAttrs_list PySem.F.slot_list_index PySem.F.type_list_index (index_D Rc.un)
        split at hm
        · rename_i em; cases hm; subst em
          exact go "list.count" (rPm X.K X.mg (callM .count)) PySem.F.plainAttrs_list PySem.F.slot_list_count PySem.F.type_list_count count_D
        split at hm
        · rename_i em; cases hm; subst em
          exact go "list.pop" (rPm X.K X.mg (callM .pop)) PySem.F.plainAttrs_list PySem.F.slot_list_pop PySem.F.type_list_pop pop_D
        · cases hm
/-- tests of which nothing is special -/
def plainT : Expr → Bool
  | .UnaryOp .Not _ _ => false
  | .BoolOp _ _ _ => false
  | .IfExp _ _ _ _ => false
  | .Compare _ _ _ _ => false
  | _ => true
theorem plain_true {e : Expr} (h : plainT e = true) (env : Env) (w : Sem Value) : PySem.isTrue e env w = (do let v ← w; standAt e.pos; holding [v] (PySem.truthy v)) := by
  unfold PySem.isTrue
  split <;> first | cases h | rfl
theorem evE_test {e : Expr} (h : plainT e = true ∨ ∃ a b d p, e = .Compare a b d p) (env : DEnv) (S : Sto) : evE T (n + 1) c true e env S = (evE T n c false e env S).bind fun d S => match truthy S d with
    | some b => .ok (.bl b) S
    | none => .no := by
  rcases h with h | ⟨a, b, d, p, rfl⟩
  · cases e <;> first | rfl | (rename_i op _ _; cases op <;> first | rfl | cases h) | cases h
  · rfl
theorem truth_D (ih : Ih T X W n c) {e : Expr} (h : plainT e = true) : PT X e (rdT T X.K X.mg W (n + 1) c e) := by
  refine ⟨fun pins s σ H Q I hh => ?_⟩
  obtain ⟨μ, env, S, hS, hE, hp⟩ := hh
  rw [evE_test (.inl h)] at hp
  refine isTrue_plain (thn ((ih.e e).run pins s σ H (fun v H1 => rT X.K X.mg v H1 Q) I ⟨μ, env, S, hS, hE, hp.bind fun d S1 μ1 H1 v _ x1 hS1 r1 hp1 => ?_⟩) fun v s1 ⟨x, H1, I1, r1, q1⟩ => tr_D pins s1 σ H1 x v Q I1 r1 q1) (plain_true h X.env _)
  cases e1 : truthy S1 d with
  | none => rw [e1] at hp1; exact hp1.elim
  | some b =>
    rw [e1] at hp1
    exact ⟨μ1, S1, d, b, hS1, r1, e1, hp1.to hS1 rfl⟩
end
end Cor
end
section
set_option linter.all false
set_option maxHeartbeats 1000000
namespace Cor
open PySem PySem.Spec PyProof.Rows L2
section
variable {T : GT} {c : SC} {X : Cx} {W : WX} {n k : Nat} {pos : Pos}
theorem cmpT_D (Rc : CxR T c X) (ih : Ih T X W n c) {a b : Expr} {op : CmpOp} : PT X (.Compare a [op] [b] pos) (rdT T X.K X.mg W (n + 1 + 1) c (.Compare a [op] [b] pos)) := by
  cases hb : isSetE b with
  | true => exact pt_no (rdT_no (fun env S => by rw [evE_test (.inr ⟨_, _, _, _, rfl⟩)]; simp only [evE, hb]; rfl) _ _)
  | false =>
    refine pt_mono (pt_cmpR (op_cmpD Rc.un) (ih.e a) (ih.e b) (nomark_of hb)) fun σ H Q h => ?_
    obtain ⟨μ, env, S, hS, hE, hp⟩ := h
    rw [evE_test (.inr ⟨_, _, _, _, rfl⟩)] at hp
    simp only [evE, hb, Bool.false_eq_true, if_false] at hp
    have as1 : ∀ (r1 : R D) (f : D → Sto → R D) (g : D → Sto → R D), (r1.bind f).bind g = r1.bind fun x S => (f x S).bind g := fun r1 f g => by cases r1 <;> rfl
    rw [as1] at hp
    refine ⟨μ, env, S, hS, hE, hp.bind fun x S1 μ1 H1 v1 _ x1 hS1 r1 hp1 => ?_⟩
    rw [as1] at hp1
    refine ⟨μ1, env, S1, hS1, hE.ext x1, hp1.bind fun y S2 μ2 H2 v2 _ x2 hS2 r2 hp2 => ?_⟩
    refine ⟨μ2, S2, x, y, hS2, r1.ext x2, r2, ?_⟩
    cases e : cmpD op x y S2 with
    | no => rw [e] at hp2; exact hp2.elim
    | ex c fs S => exact absurd e cmpD_nox
    | ok d S3 =>
      rw [e] at hp2
      obtain ⟨q, rfl, rfl⟩ := cmpD_bl e
      intro μ3 H3 v3 x3 hS3 r3
      simp only [RD] at r3
      exact ⟨q, r3, hp2 _ _ _ x3 hS3 rfl⟩
theorem chainT_D (Rc : CxR T c X) (ih : Ih T X W n c) {a b b' : Expr} {op op' : CmpOp} : PT X (.Compare a [op, op'] [b, b'] pos) (rdT T X.K X.mg W (n + 1 + 1) c (.Compare a [op, op'] [b, b'] pos)) := by
  cases hb : isSetE b with
  | true => exact pt_no (rdT_no (fun env S => by rw [evE_test (.inr ⟨_, _, _, _, rfl⟩)]; simp only [evE, hb]; rfl) _ _)
  | false =>
    cases hb' : isSetE b' with
    | true => exact pt_no (rdT_no (fun env S => by rw [evE_test (.inr ⟨_, _, _, _, rfl⟩)]; simp only [evE, hb, hb']; rfl) _ _)
    | false =>
      have hl : lastMarks [op, op'] [b, b'] = false := nomark_of hb'
      refine pt_mono (pt_chain (op_cmpD Rc.un) (op_cmpD Rc.un) (ih.e a) (ih.e b) (ih.e b') hl) fun σ H Q h => ?_
      obtain ⟨μ, env, S, hS, hE, hp⟩ := h
      rw [evE_test (.inr ⟨_, _, _, _, rfl⟩)] at hp
      simp only [evE, hb, hb', Bool.or_self, Bool.false_eq_true, if_false] at hp
      have as1 : ∀ (r1 : R D) (f : D → Sto → R D) (g : D → Sto → R D), (r1.bind f).bind g = r1.bind fun x S => (f x S).bind g := fun r1 f g => by cases r1 <;> rfl
      rw [as1] at hp
      refine ⟨μ, env, S, hS, hE, hp.bind fun x S1 μ1 H1 v1 _ x1 hS1 r1 hp1 => ?_⟩
      rw [as1] at hp1
      refine ⟨μ1, env, S1, hS1, hE.ext x1, hp1.bind fun y S2 μ2 H2 v2 _ x2 hS2 r2 hp2 => ?_⟩
      cases e : cmpD op x y S2 with
      | no => rw [e] at hp2; exact hp2.elim
      | ex c fs S => exact absurd e cmpD_nox
      | ok d S3 =>
        rw [e] at hp2
        obtain ⟨q, rfl, rfl⟩ := cmpD_bl e
        refine ⟨μ2, S3, x, y, hS2, r1.ext x2, r2, ?_⟩
        rw [e]
        intro μ3 H3 v3 x3 hS3 r3
        simp only [RD] at r3
        refine ⟨q, r3, ?_⟩
        cases q with
        | false =>
          simp only [Bool.false_eq_true, if_false]
          exact ⟨false, rfl, hp2 _ _ _ x3 hS3 rfl⟩
        | true =>
          simp only [if_true]
          have hp3 : PostG X.K X.mg μ3 H3 σ W relB Q (((evE T n c false b' env S3).bind fun z S => cmpD op' y z S).bind fun d S => match truthy S d with | some b => .ok (.bl b) S | none => .no) := PostG.ext x3 hp2
          rw [as1] at hp3
          refine ⟨μ3, env, S3, hS3, (hE.ext x1).ext (x2.trans x3), hp3.bind fun z S4 μ4 H4 v4 _ x4 hS4 r4 hp4 => ?_⟩
          refine ⟨μ4, S4, y, z, hS4, r2.ext (x3.trans x4), r4, ?_⟩
          cases e5 : cmpD op' y z S4 with
          | no => rw [e5] at hp4; exact hp4.elim
          | ex c fs S => exact absurd e5 cmpD_nox
          | ok d S5 =>
            rw [e5] at hp4
            obtain ⟨q5, rfl, rfl⟩ := cmpD_bl e5
            intro μ6 H6 v6 x6 hS6 r6
            simp only [RD] at r6
            exact ⟨q5, r6, hp4 _ _ _ x6 hS6 rfl⟩
/-- a if t else b as a test -/
theorem ifT_D (ih : Ih T X W n c) {t a b : Expr} : PT X (.IfExp t a b pos) (rdT T X.K X.mg W (n + 1) c (.IfExp t a b pos)) := by
  refine ⟨fun pins s σ H Q I h => ?_⟩
  obtain ⟨μ, env, S, hS, hE, hp⟩ := h
  simp only [evE] at hp
  unfold PySem.isTrue
  refine wpAny_bind (thn ((ih.t t).run pins s σ H (fun q H1 => if q = true then rdT T X.K X.mg W n c a σ H1 Q else rdT T X.K X.mg W n c b σ H1 Q) I ⟨μ, env, S, hS, hE, hp.bind fun d S1 μ1 H1 q _ x1 hS1 r1 hp1 => ?_⟩) fun q s1 ⟨H1, I1, q1⟩ => ?_)
  · cases (show d = .bl q from r1)
    cases q with
    | true => exact ⟨μ1, env, S1, hS1, hE.ext x1, hp1⟩
    | false => exact ⟨μ1, env, S1, hS1, hE.ext x1, hp1⟩
  · cases q with
    | true => exact (ih.t a).run pins s1 σ H1 Q I1 q1
    | false => exact (ih.t b).run pins s1 σ H1 Q I1 q1
end
end Cor
end
section
set_option linter.all false
set_option maxHeartbeats 1000000
namespace Cor
open PySem PySem.Spec PyProof.Rows L2
section
variable {K : PySem.W.Frag} {mg : Str → Option Value}
/-- the walk jt yields the items of J as long as the list that is walked stays -/
def RIt (K : PySem.W.Frag) (mg : Str → Option Value) (μ0 : List Addr) (H0 : Hp) (J : Cor.It) (jt : L2.It) : Prop :=
  ∀ μ S H, Ext0 μ0 H0 μ H → Sim K mg μ S H → guardOk J.ds J.g S = true →
    (∀ i d, J.ds[i]? = some d → jt.go i H ∧ ∀ x H', jt.yld i H x H' → H' = H ∧ RD K mg μ H d x) ∧ jt.stop J.ds.length H
theorem rit_list {μ0 : List Addr} {H0 : Hp} {k : Nat} {a : Addr} {ds : List D} (e : μ0[k]? = some a) : RIt K mg μ0 H0 ⟨ds, some k⟩ (Itl K a) := by
  intro μ S H x hS hg
  have sq : ∃ xs, SqL K H a xs ∧ RDs K mg μ H ds xs := by
    unfold guardOk at hg
    dsimp only at hg
    cases eo : S[k]? with
    | none => rw [eo] at hg; cases hg
    | some o =>
      rw [eo] at hg
      obtain ⟨a', ea, ho⟩ := hS.get eo
      rw [x.at e] at ea; cases ea
      cases o with
      | lst xs => simp at hg; subst hg; exact lst_sq ho
      | frz xs => simp at hg; subst hg; exact frz_sq ho
      | _ => cases hg
  obtain ⟨xs, sq, rs⟩ := sq
  refine ⟨fun i d hd => ?_, xs, sq, Nat.le_of_eq rs.length.symm⟩
  obtain ⟨v, hv, rv⟩ := rs.get hd
  refine ⟨⟨xs, v, sq, hv⟩, fun y H' hy => ?_⟩
  obtain ⟨rfl, hy⟩ := hy
  have := hy xs sq
  rw [hv] at this; cases this
  exact ⟨rfl, rv⟩
theorem rit_tup {μ0 : List Addr} {H0 : Hp} {a : Addr} {ds : List D} {xs : List V} (sq : SqT K H0 a xs) (rs : RDs K mg μ0 H0 ds xs) : RIt K mg μ0 H0 ⟨ds, none⟩ (Itt K a) := by
  intro μ S H x hS hg
  have sq := x.sqT sq
  have rs := RDs.ext0 x rs
  refine ⟨fun i d hd => ?_, xs, sq, Nat.le_of_eq rs.length.symm⟩
  obtain ⟨v, hv, rv⟩ := rs.get hd
  refine ⟨⟨xs, v, sq, hv⟩, fun y H' hy => ?_⟩
  obtain ⟨rfl, hy⟩ := hy
  have := hy xs sq
  rw [hv] at this; cases this
  exact ⟨rfl, rv⟩
theorem rangeD_get : ∀ {n : Nat} {lo : Int} {i : Nat} {d : D}, (rangeD lo n)[i]? = some d → i < n ∧ d = .int (lo + i)
  | 0, lo, i, d, h => by simp [rangeD] at h
  | n + 1, lo, 0, d, h => by simp [rangeD] at h; exact ⟨by omega, by rw [← h]; simp⟩
  | n + 1, lo, i + 1, d, h => by
    simp only [rangeD, List.getElem?_cons_succ] at h
    obtain ⟨h1, h2⟩ := rangeD_get h
    refine ⟨by omega, ?_⟩
    rw [h2]
    congr 1
    omega
theorem rangeD_len : ∀ {n : Nat} {lo : Int}, (rangeD lo n).length = n
  | 0, lo => rfl
  | n + 1, lo => by simp [rangeD, rangeD_len]
theorem rit_range {μ0 : List Addr} {H0 : Hp} {lo : Int} {n : Nat} : RIt K mg μ0 H0 ⟨rangeD lo n, none⟩ (Itr lo n) := by
  intro μ S H x hS hg
  refine ⟨fun i d hd => ?_, by show n ≤ _; rw [rangeD_len]; exact Nat.le_refl _⟩
  obtain ⟨h1, rfl⟩ := rangeD_get hd
  refine ⟨h1, fun y H' hy => ?_⟩
  obtain ⟨rfl, rfl⟩ := hy
  exact ⟨rfl, rd_int⟩
theorem rit_str {μ0 : List Addr} {H0 : Hp} {z : Str} : RIt K mg μ0 H0 ⟨z.cps.toList.map fun c => .str ⟨#[c]⟩, none⟩ (Its z) := by
  intro μ S H x hS hg
  refine ⟨fun i d hd => ?_, by show z.cps.size ≤ _; simp⟩
  rw [List.getElem?_map] at hd
  cases e : z.cps.toList[i]? with
  | none => rw [e] at hd; cases hd
  | some q =>
    rw [e] at hd; cases hd
    have e' : z.cps[i]? = some q := by simpa using e
    refine ⟨(Array.getElem?_eq_some_iff.mp e').1, fun y H' hy => ?_⟩
    obtain ⟨rfl, q', hq, rfl⟩ := hy
    rw [e'] at hq; cases hq
    exact ⟨rfl, rd_str⟩
end
section
variable {T : GT} {c : SC} {X : Cx} {W : WX} {n k : Nat} {pos : Pos} {tg : Expr}
/-- the walk of a value -/
theorem iter_V {pins : List (Addr × Obj)} {σ : L2.St} {H : Hp} {s : Shared} {R : L2.It → Hp → Prop} {E : Value → Shared → Prop} {v : V} {u : Value} {μ : List Addr} {S : Sto} {d : D} {J : Cor.It} (I : Inv X pins σ H s) (r : RelV v u) (hS : Sim X.K X.mg μ S H) (rd : RD X.K X.mg μ H d v)
    (e : itD S d = some J) (q : ∀ jt, RIt X.K X.mg μ H J jt → R jt H) : wpAny (model X.prog X.w) X.A (pyIter u) (PIE X pins σ tg R) E s := by
  have lst : ∀ {a : Addr} {xs : List V} {ds : List D} {k : Nat}, v = .ref a → SqL X.K H a xs → μ[k]? = some a → J = ⟨ds, some k⟩ → wpAny (model X.prog X.w) X.A (pyIter u) (PIE X pins σ tg R) E s := by
    rintro a xs ds k rfl sq ea rfl
    cases r
    obtain ⟨its, rv, p, hz⟩ := I.list sq
    exact wpAny_pyIter_list p.isList (pi_one (tk := s.toks) I _ (turn_list a _) ⟨_, Heap.get?_push_size _ rfl, rfl, rfl⟩ (q _ (rit_list ea)))
  cases d with
  | tup ds =>
    cases e
    simp only [RD] at rd
    obtain ⟨a, xs, rfl, sq, rs⟩ := rd
    cases r
    obtain ⟨its, rv, p, hz⟩ := I.tuple sq
    exact wpAny_pyIter_tuple (show s.heap.IsTuple a its.toArray from p) (pi_one (tk := s.toks) I _ (turn_tuple a _) ⟨_, Heap.get?_push_size _ rfl, rfl, rfl⟩ (q _ (rit_tup sq rs)))
  | ref m =>
    simp only [itD] at e
    cases eo : S[m]? with
    | none => rw [eo] at e; cases e
    | some o =>
      rw [eo] at e
      obtain ⟨a, rfl, ea, ho⟩ := ref_at hS rd eo
      cases o with
      | lst ds =>
        cases e
        obtain ⟨xs, sq, _⟩ := lst_sq ho
        exact lst rfl sq ea rfl
      | frz ds =>
        cases e
        obtain ⟨xs, sq, _⟩ := frz_sq ho
        exact lst rfl sq ea rfl
      | _ => cases e
  | str z =>
    cases e
    simp only [RD] at rd
    subst rd
    obtain ⟨t, rfl⟩ := r
    cases ha : z.cps.all (· < 128)
    · exact wpAny_pyIter_wide ha (pi_one (tk := s.toks) I _ (turn_str _ z t "str_iterator" (.inr rfl)) ⟨_, Heap.get?_push_size _ rfl, rfl, rfl⟩ (q _ rit_str))
    · exact wpAny_pyIter_ascii ha (pi_one (tk := s.toks) I _ (turn_str _ z t "str_ascii_iterator" (.inl rfl)) ⟨_, Heap.get?_push_size _ rfl, rfl, rfl⟩ (q _ rit_str))
  | _ => cases e
def rdI (T : GT) (K : PySem.W.Frag) (mg : Str → Option Value) (W : WX) (n : Nat) (c : SC) (e : Expr) : TI := fun σ H R => ∃ μ env S, Sim K mg μ S H ∧ EnvR K mg μ H env σ ∧ PostG K mg μ H σ W (RIt K mg) R (evIt T c (fun e S => evE T n c false e env S) e S)
/-- of an expression's value -/
theorem itE_D (ih : Ih T X W n c) {e : Expr} (h : ∀ (env : DEnv) (S : Sto), evIt T c (fun e S => evE T n c false e env S) e S = (evE T n c false e env S).bind fun d S => ofO S (itD S d)) : PI X tg e (rdI T X.K X.mg W n c e) := by
  refine ⟨fun pins s σ H R I hh => ?_⟩
  obtain ⟨μ, env, S, hS, hE, hp⟩ := hh
  rw [h] at hp
  refine thn ((ih.e e).run pins s σ H (fun v H1 => ∃ μ S d J, Sim X.K X.mg μ S H1 ∧ RD X.K X.mg μ H1 d v ∧ itD S d = some J ∧ ∀ jt, RIt X.K X.mg μ H1 J jt → R jt H1) I ⟨μ, env, S, hS, hE, hp.bind fun d S1 μ1 H1 v _ x1 hS1 r1 hp1 => ?_⟩)
    fun u s1 ⟨v, H1, I1, rv, μ1, S1, d, J, hS1, rd, e1, q⟩ => iter_V I1 rv hS1 rd e1 q
  cases e1 : itD S1 d with
  | none => rw [e1] at hp1; exact hp1.elim
  | some J =>
    rw [e1] at hp1
    exact ⟨μ1, S1, d, J, hS1, r1, e1, fun jt z => hp1.to hS1 z⟩
/-- of a range -/
theorem itR_D (Rc : CxR T c X) (ih : Ih T X W n c) {es : List Expr} {p : Pos} (hg : isGl c "range" = true) (hn : T.gl "range" = none) : PI X tg (.Call (.Name "range" p) es [] pos) (rdI T X.K X.mg W n c (.Call (.Name "range" p) es [] pos)) := by
  have hG := gl_of (X := X) Rc.nm hg
  have hm := Rc.tab.bn "range" hn (.inr (.inr rfl))
  cases hc : noStar es && (es.length == 1 || es.length == 2) with
  | false =>
    refine ⟨fun pins s σ H R I hh => ?_⟩
    obtain ⟨μ, env, S, hS, hE, hp⟩ := hh
    unfold evIt at hp
    rw [if_neg (by show ¬ (false = true); decide)] at hp
    dsimp only at hp
    rw [if_pos ⟨hg, by rw [hn]; rfl, rfl⟩, hc] at hp
    exact hp.elim
  | true =>
    have un : ∀ (env : DEnv) (S : Sto), evIt T c (fun e S => evE T n c false e env S) (.Call (.Name "range" p) es [] pos) S = (evAll (fun e S => evE T n c false e env S) es S).bind fun ds S => ofO S (rangeIt ds) := by
      intro env S
      unfold evIt
      rw [if_neg (by show ¬ (false = true); decide)]
      dsimp only
      rw [if_pos ⟨hg, by rw [hn]; rfl, rfl⟩, hc, if_pos rfl]
    simp only [Bool.and_eq_true, Bool.or_eq_true, beq_iff_eq] at hc
    obtain ⟨hs, hl⟩ := hc
    refine ⟨fun pins s σ H Q I hh => ?_⟩
    obtain ⟨μ, env, S, hS, hE, hp⟩ := hh
    rw [un] at hp
    rcases hl with hl | hl
    · obtain ⟨a, rfl⟩ := List.length_eq_one_iff.mp hl
      obtain ⟨ha, _⟩ := noStar_cons hs
      refine (pi_range1 (X := X) (tg := tg) hG hm (args_D ih [a]) (star_of ha [] X.env)).run pins s σ H Q I ⟨μ, env, S, hS, hE, hp.bind fun ds S1 μ1 H1 vs ee x1 hS1 r1 hp1 => ?_⟩
      match ds, evAll_len ee, r1, hp1 with
      | [d], _, r1, hp1 =>
        obtain ⟨y, rfl, q1⟩ := rds_one r1
        cases d with
        | int j =>
          simp only [RD] at q1
          subst q1
          simp only [rangeIt] at hp1
          split at hp1
          · rename_i hj
            exact ⟨j, rfl, (smallR_iff hj).1, (smallR_iff hj).2, hp1.to hS1 rit_range⟩
          · exact hp1.elim
        | _ => exact hp1.elim
    · match es, hl with
      | [a, b], _ =>
        obtain ⟨ha, hs2⟩ := noStar_cons hs
        obtain ⟨hb, _⟩ := noStar_cons hs2
        refine (pi_range2 (X := X) (tg := tg) hG hm (args_D ih [a, b]) (by rw [star_of ha, star_of hb]; rfl) (star_of hb [] X.env)).run pins s σ H Q I ⟨μ, env, S, hS, hE, hp.bind fun ds S1 μ1 H1 vs ee x1 hS1 r1 hp1 => ?_⟩
        match ds, evAll_len ee, r1, hp1 with
        | [d, d2], _, r1, hp1 =>
          obtain ⟨y, y2, rfl, q1, q2⟩ := rds_two r1
          cases d with
          | int i =>
            cases d2 with
            | int j =>
              simp only [RD] at q1 q2
              subst q1; subst q2
              simp only [rangeIt] at hp1
              split at hp1
              · rename_i hj
                exact ⟨i, j, rfl, ⟨(smallR_iff hj.1).1, (smallR_iff hj.1).2, (smallR_iff hj.2).1, (smallR_iff hj.2).2⟩, hp1.to hS1 rit_range⟩
              · exact hp1.elim
            | _ => exact hp1.elim
          | _ => exact hp1.elim
/-- what is walked -/
theorem iter_D (Rc : CxR T c X) (ih : Ih T X W n c) {e : Expr} : PI X tg e (rdI T X.K X.mg W n c e) := by
  by_cases hs : isSetE e = true
  · refine ⟨fun pins s σ H R I hh => ?_⟩
    obtain ⟨μ, env, S, hS, hE, hp⟩ := hh
    unfold evIt at hp
    rw [if_pos hs] at hp
    exact hp.elim
  · by_cases hr : ∃ p es p2, e = .Call (.Name "range" p) es [] p2 ∧ isGl c "range" = true ∧ T.gl "range" = none
    · obtain ⟨p, es, p2, rfl, hg, hn⟩ := hr
      exact itR_D Rc ih hg hn
    · refine itE_D ih fun env S => ?_
      unfold evIt
      rw [if_neg hs]
      split
      · rename_i x p es p2
        rw [if_neg]
        rintro ⟨h1, h2, rfl⟩
        exact hr ⟨p, es, p2, rfl, h1, by simpa using h2⟩
      · rfl
end
end Cor
end
section
set_option linter.all false
set_option maxHeartbeats 1000000
namespace Cor
open PySem PySem.Spec PyProof.Rows L2
/-- only the slots of names that may be bound are touched -/
def Same (c : SC) (σ σ' : L2.St) : Prop := σ'.length = σ.length ∧ ∀ (j : Nat), (∀ x, isLoc c x = true → slot c.N x ≠ some j) → σ'[j]? = σ[j]?
theorem Same.refl {c : SC} {σ : L2.St} : Same c σ σ := ⟨rfl, fun _ _ => rfl⟩
theorem Same.trans {c : SC} {σ σ1 σ2 : L2.St} (a : Same c σ σ1) (b : Same c σ1 σ2) : Same c σ σ2 := ⟨b.1.trans a.1, fun j h => (b.2 j h).trans (a.2 j h)⟩
theorem EnvR.set {K : PySem.W.Frag} {mg : Str → Option Value} {μ : List Addr} {H : Hp} {env : DEnv} {σ : L2.St} {d : D} {v : V} (h : EnvR K mg μ H env σ) (i : Nat) (r : RD K mg μ H d v) : EnvR K mg μ H (env.set i (some d)) (σ.set i (some v)) := by
  refine ⟨by simp [h.1], fun j e hj => ?_⟩
  by_cases z : i = j
  · subst z
    have hl := (List.getElem?_eq_some_iff.mp hj).1
    rw [List.length_set] at hl
    rw [List.getElem?_set_self hl] at hj
    cases hj
    exact ⟨v, List.getElem?_set_self (by rw [← h.1]; exact hl), r⟩
  · rw [List.getElem?_set_ne z] at hj ⊢
    exact h.2 j e hj
def rdG (K : PySem.W.Frag) (mg : Str → Option Value) (c : SC) (m : Nat) (tg : Expr) : TG := fun v σ H Q => ∃ μ env S d env', Sim K mg μ S H ∧ EnvR K mg μ H env σ ∧ RD K mg μ H d v ∧ asg c m tg d env = some env' ∧ ∀ σ', EnvR K mg μ H env' σ' → Same c σ σ' → Q σ' H
def rdGs (K : PySem.W.Frag) (mg : Str → Option Value) (c : SC) (m : Nat) (ts : List Expr) : TGs := fun vs σ H Q => ∃ μ env S ds env', Sim K mg μ S H ∧ EnvR K mg μ H env σ ∧ RDs K mg μ H ds vs ∧ asg.asgs (asg c m) ts ds env = some env' ∧ ∀ σ', EnvR K mg μ H env' σ' → Same c σ σ' → Q σ' H
theorem pg_mono {X : Cx} {e : Expr} {t t' : TG} (h : PG X e t) (k : ∀ v σ H Q, t' v σ H Q → t v σ H Q) : PG X e t' := ⟨fun pins s σ H v u Q I r q => h.run pins s σ H v u Q I r (k v σ H Q q)⟩
theorem pgs_mono {X : Cx} {e : List Expr} {t t' : TGs} (h : PGs X e t) (k : ∀ v σ H Q, t' v σ H Q → t v σ H Q) : PGs X e t' := ⟨fun pins s σ H v u Q I r q => h.run pins s σ H v u Q I r (k v σ H Q q)⟩
theorem pg_no {X : Cx} {e : Expr} {t : TG} (h : ∀ v σ H Q, ¬ t v σ H Q) : PG X e t := ⟨fun _ _ σ H v _ Q _ _ q => absurd q (h v σ H Q)⟩
theorem loc_of {c : SC} {X : Cx} (e : X.env.scope.names = c.nm) (hf : ∀ x, c.fx x = true → X.fn x = true) {x : Str} (h : isLoc c x = true) : L2.Loc X.env.scope x ∧ (X.fn x = true ∨ X.env.scope.names.lookup x = some .local) := by
  unfold isLoc at h
  unfold L2.Loc
  rw [e]
  split at h
  · rename_i q; exact ⟨.inl q, .inr q⟩
  · rename_i q; exact ⟨.inr q, .inl (hf x h)⟩
  · cases h
theorem same_set {c : SC} {σ : L2.St} {x : Str} {i : Nat} {v : Option V} (h : isLoc c x = true) (hi : slot c.N x = some i) : Same c σ (σ.set i v) :=
  ⟨by simp, fun j hj => by
    by_cases z : i = j
    · exact absurd (z ▸ hi) (hj x h)
    · rw [List.getElem?_set_ne z]⟩
section
variable {T : GT} {c : SC} {X : Cx} {W : WX} {n k : Nat} {pos : Pos}
theorem each_star {env : Env} : ∀ {es : List Expr}, noStar es = true → (assignEach es env).findIdx? (·.1) = none ∧ (assignEach es env).length = es.length ∧ (assignEach es env).map (·.2) = es.map fun e => assign e env
  | [], _ => ⟨rfl, rfl, rfl⟩
  | e :: es, h => by
    obtain ⟨h1, h2⟩ := noStar_cons h
    obtain ⟨a1, a2, a3⟩ := each_star (env := env) h2
    have e0 : assignEach (e :: es) env = (false, assign e env) :: assignEach es env := by
      cases e with
      | Starred _ _ => cases h1
      | _ => rfl
    rw [e0]
    refine ⟨?_, by simp [a2], by simp [a3]⟩
    rw [List.findIdx?_cons]
    simp [a1]
theorem tgt_name {x : Str} {p : Pos} {m : Nat} (O : XOk T c X W k) : PG X (.Name x p) (rdG X.K X.mg c (m + 1) (.Name x p)) := by
  cases hl : isLoc c x with
  | false => exact pg_no fun v σ H Q ⟨μ, env, S, d, env', _, _, _, e, _⟩ => by simp [asg, hl] at e
  | true =>
    cases hi : slot c.N x with
    | none => exact pg_no fun v σ H Q ⟨μ, env, S, d, env', _, _, _, e, _⟩ => by simp [asg, hl, hi] at e
    | some i =>
      obtain ⟨l1, l2⟩ := loc_of O.nm O.fx hl
      refine pg_mono (pg_name (X := X) (i := i) (by rw [O.N]; exact O.nd) (by rw [O.N]; exact slot_of hi) l1 l2) fun v σ H Q ⟨μ, env, S, d, env', hS, hE, r, e, q⟩ => ?_
      simp [asg, hl, hi] at e
      subst e
      exact q _ (hE.set i r) (same_set hl hi)
theorem tgts_D {m : Nat} (ih : ∀ tg, PG X tg (rdG X.K X.mg c m tg)) : ∀ {ts : List Expr}, noStar ts = true → PGs X ts (rdGs X.K X.mg c m ts)
  | [], _ => pgs_mono pgs_nil fun vs σ H Q ⟨μ, env, S, ds, env', hS, hE, r, e, q⟩ => by
    cases ds with
    | nil =>
      simp only [RDs] at r
      simp [asg.asgs] at e
      subst e
      exact ⟨r, q σ hE .refl⟩
    | cons d ds => simp [asg.asgs] at e
  | t :: ts, h => by
    obtain ⟨h1, h2⟩ := noStar_cons h
    have e0 : (assignEach (t :: ts) X.env).map (·.2) = assign t X.env :: (assignEach ts X.env).map (·.2) := by
      cases t with
      | Starred _ _ => cases h1
      | _ => rfl
    refine pgs_mono (pgs_cons (ih t) (tgts_D ih h2) e0) fun vs σ H Q ⟨μ, env, S, ds, env', hS, hE, r, e, q⟩ => ?_
    cases ds with
    | nil => simp [asg.asgs] at e
    | cons d ds =>
      simp only [RDs] at r
      obtain ⟨y, ys, rfl, r1, r2⟩ := r
      simp only [asg.asgs] at e
      cases e1 : asg c m t d env with
      | none => rw [e1] at e; cases e
      | some env1 =>
        rw [e1] at e
        exact ⟨y, ys, rfl, μ, env, S, d, env1, hS, hE, r1, e1, fun σ1 hE1 s1 => ⟨μ, env1, S, ds, env', hS, hE1, r2, e, fun σ2 hE2 s2 => q σ2 hE2 (s1.trans s2)⟩⟩
theorem tgt_D (O : XOk T c X W k) : ∀ (m : Nat) (tg : Expr), PG X tg (rdG X.K X.mg c m tg)
  | 0, tg => pg_no fun v σ H Q ⟨μ, env, S, d, env', _, _, _, e, _⟩ => by simp [asg] at e
  | m + 1, tg => by
    cases tg with
    | Name x p => exact tgt_name O
    | Tuple es q p =>
      cases hs : noStar es with
      | false => exact pg_no fun v σ H Q ⟨μ, env, S, d, env', _, _, _, e, _⟩ => by cases d <;> simp [asg, hs] at e
      | true =>
        obtain ⟨a1, a2, a3⟩ := each_star (env := X.env) hs
        refine pg_mono (pg_tup O.calm (tgts_D (tgt_D O m) hs) a2 a1) fun v σ H Q ⟨μ, env, S, d, env', hS, hE, r, e, q⟩ => ?_
        cases d with
        | tup ds =>
          simp only [asg] at e
          split at e
          · rename_i hl
            simp only [RD] at r
            obtain ⟨a, xs, rfl, sq, rs⟩ := r
            exact ⟨a, xs, rfl, sq, by rw [← rs.length]; exact hl.1, μ, env, S, ds, env', hS, hE, rs, e, q⟩
          · cases e
        | _ => simp [asg] at e
    | _ => exact pg_no fun v σ H Q ⟨μ, env, S, d, env', _, _, _, e, _⟩ => by simp [asg] at e
end
end Cor
end
section
set_option linter.all false
set_option maxHeartbeats 1000000
namespace Cor
open PySem PySem.Spec PyProof.Rows L2
def WNo : WX := fun _ _ _ _ => False
/-- the readings of all contexts at a fuel -/
def IhAll (T : GT) (k n : Nat) : Prop := ∀ (c : SC) (X : Cx) (W : WX), XOk T c X W k → Ih T X W n c
section
variable {T : GT} {c : SC} {X : Cx} {W : WX} {n k : Nat} {pos : Pos}
theorem blkOk_of {sc : Scope} (O : XOk T c X W k) (h : blkC c.N (scopeOf c) sc (ownOf c.N sc) = true) : BlkOk X.N X.env.scope sc (ownOf c.N sc) := by
  refine blkOk_by ?_
  rw [← h]
  unfold blkC scopeOf
  rw [O.N, O.nm]
theorem blk_ok {sc : Scope} (O : XOk T c X W k) (b : BlkOk X.N X.env.scope sc (ownOf c.N sc)) (s : Shared) (H : Hp) (C : Addr) (cl : List (Str × Addr)) (fp : List Addr) :
    XOk T (inner c sc) (X.blk s H sc (compEnvC sc cl C X.env) fp) WNo k where
  N := O.N
  nm := by
    show (relS sc X.env.scope).names = _
    unfold relS inner
    dsimp only
    rw [O.nm, O.kind]
    simp
  nd := O.nd
  calm := O.calm
  g := O.g
  un := O.un
  tab := O.tab
  noDebug := O.noDebug
  fns := O.fns
  room := O.room
  takes := fun u s' ⟨_, _, _, _, _, _, _, _, _, _, _, _, _, _, _, _, w⟩ => w.elim
  own := PassesOwn.never
  kind := b.kind
  fx := fun x h => h
def rdF (T : GT) (K : PySem.W.Frag) (mg : Str → Option Value) (W : WX) (n : Nat) (c : SC) (ifs : List Expr) : TT := fun σ H Q => ∃ μ env S, Sim K mg μ S H ∧ EnvR K mg μ H env σ ∧ PostG K mg μ H σ W (fun _ _ a b => a = b) Q (evIf (fun e S => evE T n c true e env S) ifs S)
theorem ifs_D (ih : Ih T X W n c) : ∀ (ifs : List Expr), PTs X ifs (rdF T X.K X.mg W n c ifs)
  | [] => ⟨fun pins s σ H Q I h => by
    obtain ⟨μ, env, S, hS, hE, hp⟩ := h
    exact pts_nil.run pins s σ H Q I (hp.to hS rfl)⟩
  | [e] => ⟨fun pins s σ H Q I h => by
    obtain ⟨μ, env, S, hS, hE, hp⟩ := h
    simp only [evIf] at hp
    refine (pts_one (ih.t e)).run pins s σ H Q I ⟨μ, env, S, hS, hE, hp.bind fun d S1 μ1 H1 q _ x1 hS1 r1 hp1 => ?_⟩
    cases (show d = .bl q from r1)
    exact hp1.to hS1 rfl⟩
  | _ :: _ :: _ => ⟨fun pins s σ H Q I h => by
    obtain ⟨μ, env, S, hS, hE, hp⟩ := h
    exact hp.elim⟩
theorem wipe_set {σ : L2.St} {i : Nat} {x : Option V} : ∀ {vs : List Nat}, i ∈ vs → wipe (σ.set i x) vs = wipe σ vs
  | v :: vs, h => by
    unfold wipe
    by_cases z : i ∈ vs
    · rw [wipe_set z]
    · have e : v = i := by
        rcases List.mem_cons.mp h with h | h
        · exact h.symm
        · exact absurd h z
      subst e
      have out : ∀ (ws : List Nat), v ∉ ws → wipe (σ.set v x) ws = (wipe σ ws).set v x := by
        intro ws
        induction ws with
        | nil => intro _; rfl
        | cons w ws ih =>
          intro hn
          simp only [List.mem_cons, not_or] at hn
          show (wipe (σ.set v x) ws).set w none = ((wipe σ ws).set w none).set v x
          rw [ih hn.2, List.set_comm _ _ hn.1]
      rw [out vs z, List.set_set]
theorem wipe_get_out {σ : L2.St} {i : Nat} : ∀ {vs : List Nat}, i ∉ vs → (wipe σ vs)[i]? = σ[i]?
  | [], _ => rfl
  | v :: vs, h => by
    simp only [List.mem_cons, not_or] at h
    unfold wipe
    rw [List.getElem?_set_ne (Ne.symm h.1), wipe_get_out h.2]
theorem wipe_get_in {σ : L2.St} {i : Nat} : ∀ {vs : List Nat}, i ∈ vs → i < σ.length → (wipe σ vs)[i]? = some none
  | v :: vs, h, hl => by
    unfold wipe
    by_cases z : v = i
    · subst z
      rw [List.getElem?_set_self (by rw [wipe_length]; exact hl)]
    · rw [List.getElem?_set_ne z]
      exact wipe_get_in (by rcases List.mem_cons.mp h with h | h; exact absurd h.symm z; exact h) hl
theorem wipe_same {σ τ : L2.St} {vs : List Nat} (hl : τ.length = σ.length) (h : ∀ j, j ∉ vs → τ[j]? = σ[j]?) : wipe τ vs = wipe σ vs := by
  apply List.ext_getElem?
  intro j
  by_cases hj : j ∈ vs
  · by_cases hb : j < σ.length
    · rw [wipe_get_in hj hb, wipe_get_in hj (by rw [hl]; exact hb)]
    · rw [List.getElem?_eq_none (by rw [wipe_length, hl]; omega), List.getElem?_eq_none (by rw [wipe_length]; omega)]
  · rw [wipe_get_out hj, wipe_get_out hj, h j hj]
theorem wipe_wipe {σ : L2.St} {vs : List Nat} : wipe (wipe σ vs) vs = wipe σ vs := wipe_same (wipe_length _ _) fun j h => wipe_get_out h
/-- what the target of a block binds is the block's own -/
theorem own_slot {sc : Scope} {x : Str} {i : Nat} (u : ∀ y ∈ sc.names, sc.names.lookup y.1 = some y.2) (h : isLoc (inner c sc) x = true) (hi : slot (inner c sc).N x = some i) : i ∈ (ownOf c.N sc).map (·.2) := by
  have go : ∃ q, (x, q) ∈ sc.names ∧ (q = .local ∨ q = .cell) := by
    unfold isLoc inner at h
    dsimp only at h
    split at h
    · rename_i e
      obtain ⟨k', e1, e2⟩ := lookup_relS (sc := scopeOf c) (names := sc.names) (x := x) (k := .local) (by rw [← e]; unfold scopeOf; simp)
      rcases e2 with rfl | ⟨_, e2⟩
      · exact ⟨_, PySem.mem_of_lookup e1, .inl rfl⟩
      · cases e2
    · have e := beq_iff_eq.mp h
      exact ⟨_, PySem.mem_of_lookup e, .inr rfl⟩
    · cases h
  obtain ⟨q, hq, hk⟩ := go
  unfold ownOf
  refine List.mem_map.mpr ⟨(x, i), List.mem_filterMap.mpr ⟨(x, q), hq, ?_⟩, rfl⟩
  have hi' : slot c.N x = some i := hi
  rcases hk with rfl | rfl <;> simp [hi']
theorem EnvR.wipe {K : PySem.W.Frag} {mg : Str → Option Value} {μ : List Addr} {H : Hp} {env : DEnv} {σ : L2.St} (h : EnvR K mg μ H env σ) : ∀ (vs : List Nat), EnvR K mg μ H (wipeD env vs) (L2.wipe σ vs)
  | [] => h
  | v :: vs => by
    have ih := EnvR.wipe h vs
    refine ⟨by simp [wipeD, L2.wipe, ih.1], fun j e hj => ?_⟩
    unfold wipeD at hj
    unfold L2.wipe
    by_cases z : v = j
    · subst z
      have hl := (List.getElem?_eq_some_iff.mp hj).1
      rw [List.length_set] at hl
      rw [List.getElem?_set_self hl] at hj
      cases hj
    · rw [List.getElem?_set_ne z] at hj ⊢
      exact ih.2 j e hj
end
end Cor
end
section
set_option linter.all false
set_option maxHeartbeats 1000000
namespace Cor
open PySem PySem.Spec PyProof.Rows L2
section
variable {T : GT} {c : SC} {X : Cx} {W : WX} {n k : Nat} {pos : Pos}
theorem folded_of {e : Expr} {env : Env} (h : isSetE e = false) (x : Value) : foldedSetIterable e env x = pure x := by
  unfold foldedSetIterable
  cases e with
  | Set _ _ _ => cases h
  | _ => rfl
/-- a turn of a block's loop -/
def turnD (T : GT) (n : Nat) (c : SC) (tg elt : Expr) (ifs : List Expr) (env : DEnv) (d : D) (S : Sto) : R (Option D) :=
  match asg c 5 tg d env with
  | some env2 => (evIf (fun e S => evE T n c true e env2 S) ifs S).bind fun b S => match b with
    | true => (evE T n c false elt env2 S).bind fun x S => .ok (some x) S
    | false => .ok none S
  | none => .no
theorem evLc {elt tg iter : Expr} {ifs : List Expr} {sc : Scope} {env : DEnv} {S : Sto} (hb : blkC c.N (scopeOf c) sc (ownOf c.N sc) = true) :
    evE T (n + 1) c false (.ListComp elt [⟨tg, iter, ifs, 0⟩] sc pos) env S = (evIt T c (fun e S => evE T n c false e env S) iter S).bind fun J S =>
      match compD J.ds J.g (turnD T n (inner c sc) tg elt ifs (wipeD env ((ownOf c.N sc).map (·.2)))) J.ds [] S with
      | .ok ds S => newO (.lst ds) S
      | _ => .no := by
  simp only [evE, hb, and_self, if_true]
  rfl
theorem evLc_no {elt tg iter : Expr} {ifs : List Expr} {sc : Scope} {env : DEnv} {S : Sto} (hb : blkC c.N (scopeOf c) sc (ownOf c.N sc) = false) :
    evE T (n + 1) c false (.ListComp elt [⟨tg, iter, ifs, 0⟩] sc pos) env S = .no := by
  simp only [evE, hb, Bool.false_eq_true, false_and, if_false]
/-- the reading of a block, from its evaluator -/
theorem lc_read {K : PySem.W.Frag} {mg : Str → Option Value} {elt tg iter : Expr} {ifs : List Expr} {sc : Scope} (u : ∀ y ∈ sc.names, sc.names.lookup y.1 = some y.2) (hb : blkC c.N (scopeOf c) sc (ownOf c.N sc) = true) {σ : L2.St} {H : Hp} {Q : VK}
    (h : rdE T K mg W (n + 1) c (.ListComp elt [⟨tg, iter, ifs, 0⟩] sc pos) σ H Q) :
    tLc (rdI T K mg W n c iter) (rdG K mg (inner c sc) 5 tg) (rdF T K mg WNo n (inner c sc) ifs) (rdE T K mg WNo n (inner c sc) elt) ((ownOf c.N sc).map (·.2)) σ H Q := by
  obtain ⟨μ, env, S, hS, hE, hp⟩ := h
  rw [evLc hb] at hp
  generalize hvs : (ownOf c.N sc).map (·.2) = vs at hp ⊢
  refine ⟨μ, env, S, hS, hE, hp.bind fun J S1 μ1 H1 jt _ x1 hS1 r1 hp1 => ?_⟩
  intro Dl hD
  have hE1 : EnvR K mg μ1 H1 env σ := hE.ext x1
  cases hok : compD J.ds J.g (turnD T n (inner c sc) tg elt ifs (wipeD env vs)) J.ds [] S1 with
  | no => rw [hok] at hp1; exact hp1.elim
  | ex _ _ _ => rw [hok] at hp1; exact hp1.elim
  | ok dsF SF =>
    rw [hok] at hp1
    have nD : ¬ InM μ1 Dl := hS1.notM hD
    let Iv : Nat → Nat → Hp → Prop := fun i m Hx => m = J.ds.length - i ∧ i ≤ J.ds.length ∧ ∃ μ2 S2 acc accV, Ext μ1 H1 μ2 Hx ∧ Sim K mg μ2 S2 Hx ∧ ¬ InM μ2 Dl ∧ Hx Dl = some (.lst accV) ∧ RDs K mg μ2 Hx acc accV ∧
      compD J.ds J.g (turnD T n (inner c sc) tg elt ifs (wipeD env vs)) (J.ds.drop i) acc S2 = .ok dsF SF
    refine ⟨Iv, ⟨J.ds.length, rfl, Nat.zero_le _, μ1, S1, [], [], Ext.laid hD, hS1.laid hD, nD, upd_same, rds_nil, hok⟩, ?_⟩
    rintro i m Hx ⟨rfl, hi, μ2, S2, acc, accV, x2, hS2, n2, eD, ra, ec⟩
    by_cases hlt : i < J.ds.length
    · right
      obtain ⟨d, ed⟩ : ∃ d, J.ds[i]? = some d := ⟨_, List.getElem?_eq_getElem hlt⟩
      have edr : J.ds.drop i = d :: J.ds.drop (i + 1) := by
        rw [List.drop_eq_getElem_cons hlt]
        rw [List.getElem?_eq_getElem hlt] at ed
        cases ed; rfl
      rw [edr] at ec
      simp only [compD] at ec
      split at ec
      · rename_i hg
        obtain ⟨hgo, hst⟩ := r1 μ2 S2 Hx x2.toExt0 hS2 hg
        obtain ⟨g1, g2⟩ := hgo i d ed
        refine ⟨g1, Iv (i + 1) (J.ds.length - (i + 1)), fun H' q => ⟨_, by omega, q⟩, fun x H' hy => ?_⟩
        obtain ⟨rfl, rx⟩ := g2 x H' hy
        have hE2 : EnvR K mg μ2 H' (wipeD env vs) (wipe σ vs) := EnvR.wipe (hE1.ext x2) vs
        cases ea : asg (inner c sc) 5 tg d (wipeD env vs) with
        | none => simp only [turnD, ea] at ec; cases ec
        | some env2 =>
          refine ⟨μ2, wipeD env vs, S2, d, env2, hS2, hE2, rx, ea, fun σ2 hE3 sm => ⟨?_, ?_⟩⟩
          · rw [← wipe_wipe (σ := σ) (vs := vs)]
            refine wipe_same sm.1 fun j hj => sm.2 j fun x hx hs => hj ?_
            rw [← hvs]
            exact own_slot u hx hs
          · simp only [turnD, ea] at ec
            refine ⟨μ2, env2, S2, hS2, hE3, ?_⟩
            cases e3 : evIf (fun e S => evE T n (inner c sc) true e env2 S) ifs S2 with
            | no => rw [e3] at ec; cases ec
            | ex _ _ _ => rw [e3] at ec; cases ec
            | ok b S3 =>
              rw [e3] at ec
              simp only [R.bind] at ec
              intro μ3 H3 b' x3 hS3 hb'
              cases (show b = b' from hb')
              have n3 : ¬ InM μ3 Dl := fun z => by
                have := x3.new Dl z n2
                rw [eD] at this; cases this
              have eD3 := x3.out Dl _ eD n2
              cases b with
              | false =>
                simp only [Bool.false_eq_true, if_false]
                exact ⟨rfl, hlt, μ3, S3, acc, accV, x2.trans x3, hS3, n3, eD3, ra.ext x3, ec⟩
              | true =>
                simp only [if_true]
                refine ⟨μ3, env2, S3, hS3, hE3.ext x3, ?_⟩
                dsimp only at ec
                cases e4 : evE T n (inner c sc) false elt env2 S3 with
                | no => rw [e4] at ec; cases ec
                | ex _ _ _ => rw [e4] at ec; cases ec
                | ok y S4 =>
                  rw [e4] at ec
                  simp only [R.bind] at ec
                  split at ec
                  · rename_i hz
                    intro μ4 H4 v x4 hS4 rv
                    have n4 : ¬ InM μ4 Dl := fun z => by
                      have := x4.new Dl z n3
                      rw [eD3] at this; cases this
                    have eD4 := x4.out Dl _ eD3 n3
                    have ra4 : RDs K mg μ4 H4 acc accV := (ra.ext x3).ext x4
                    refine ⟨accV, eD4, by rw [← ra4.length]; exact hz, rfl, hlt, μ4, S4, acc ++ [y], accV ++ [v], ?_, hS4.side eD4 n4, n4, upd_same, RDs.ext0 (Ext0.side eD4) (rds_app1 ra4 rv), ec⟩
                    have x5 := (x2.trans x3).trans x4
                    refine ⟨⟨x5.pre, fun a xs h => ?_, fun a o w h => ?_⟩, fun a w h hn => ?_, x5.new⟩
                    · rw [upd_ne (ne_of_none h hD)]; exact x5.tup a xs h
                    · rw [upd_ne (ne_of_none h hD)]; exact x5.frz a o w h
                    · rw [upd_ne (ne_of_none h hD)]; exact x5.out a w h hn
                  · cases ec
      · cases ec
    · left
      have hi2 : i = J.ds.length := by omega
      subst hi2
      rw [List.drop_length] at ec
      simp only [compD] at ec
      split at ec
      · rename_i hg
        obtain ⟨_, hst⟩ := r1 μ2 S2 Hx x2.toExt0 hS2 hg
        refine ⟨hst, ?_⟩
        cases ec
        have x0 : Ext0 μ2 Hx (μ2 ++ [Dl]) Hx := ⟨⟨[Dl], rfl⟩, fun _ _ h => h, fun _ _ _ h => h⟩
        have hS' : Sim K mg (μ2 ++ [Dl]) (SF ++ [.lst dsF]) Hx := hS2.adopt x0 n2 (fun _ _ => rfl) rfl ⟨accV, eD, RDs.ext0 x0 ra⟩
        refine hp1 (μ2 ++ [Dl]) Hx _ ?_ hS' ?_
        · obtain ⟨ν, hν⟩ := x2.pre
          refine ⟨⟨⟨ν ++ [Dl], by rw [hν, List.append_assoc]⟩, x2.tup, x2.frz⟩, x2.out, fun a ha hn => ?_⟩
          rcases inM_app (by rw [hS2.len]; exact hS2.ne) ha with z | z
          · exact x2.new a z hn
          · rw [z]; exact hD
        · simp only [RD]
          exact ⟨Dl, rfl, by rw [← hS2.len]; simp⟩
      · cases ec
theorem comp_D (O : XOk T c X W k) (ih : Ih T X W n c) (ihA : IhAll T k n) {elt tg iter : Expr} {ifs : List Expr} {sc : Scope} : PE X (.ListComp elt [⟨tg, iter, ifs, 0⟩] sc pos) (rdE T X.K X.mg W (n + 1) c (.ListComp elt [⟨tg, iter, ifs, 0⟩] sc pos)) := by
  cases hb : blkC c.N (scopeOf c) sc (ownOf c.N sc) with
  | false => exact pe_no (rdE_no (fun env S => evLc_no hb) _ _)
  | true =>
    cases hse : isSetE iter with
    | true => exact pe_no (rdE_no (fun env S => by rw [evLc hb]; unfold evIt; rw [if_pos hse]; rfl) _ _)
    | false =>
      have b := blkOk_of O hb
      exact pe_mono (pe_lc O.calm (by rw [O.N]; exact O.nd) (iter_D O.toCxR ih) b (fun s H C cl fp => tgt_D (blk_ok O b s H C cl fp) 5 tg) (fun s H C cl fp => ifs_D (ihA _ _ _ (blk_ok O b s H C cl fp)) ifs)
        (fun s H C cl fp => (ihA _ _ _ (blk_ok O b s H C cl fp)).e elt) (folded_of hse)) fun σ H Q h => lc_read b.uniq hb h
end
end Cor
end
section
set_option linter.all false
set_option maxHeartbeats 1000000
namespace Cor
open PySem PySem.Spec PyProof.Rows L2
section
variable (K : PySem.W.Frag) (mg : Str → Option Value) (μ : List Addr) (H : Hp)
/-- what is wanted of a statement's result -/
def PostS (W : WX) (E : Ends) : RS → Prop
  | .nx env S => ∀ μ' H' σ', Ext μ H μ' H' → Sim K mg μ' S H' → EnvR K mg μ' H' env σ' → E.nx σ' H'
  | .rt d S => ∀ μ' H' v, Ext μ H μ' H' → Sim K mg μ' S H' → RD K mg μ' H' d v → E.rt v H'
  | .bk env S => ∀ μ' H' σ', Ext μ H μ' H' → Sim K mg μ' S H' → EnvR K mg μ' H' env σ' → E.bk σ' H'
  | .ct env S => ∀ μ' H' σ', Ext μ H μ' H' → Sim K mg μ' S H' → EnvR K mg μ' H' env σ' → E.ct σ' H'
  | .ex c fs env S => ∀ μ' H' σ' cls dd, Ext μ H μ' H' → Sim K mg μ' S H' → EnvR K mg μ' H' env σ' → RX K mg μ' H' c fs cls dd → W cls dd σ' H'
  | .no => False
end
section
variable {K : PySem.W.Frag} {mg : Str → Option Value} {μ μ' : List Addr} {S : Sto} {H H' : Hp} {σ : L2.St} {W : WX} {α β : Type} {E : Ends} {env : DEnv}
theorem PostS.ext {r : RS} (x : Ext μ H μ' H') (h : PostS K mg μ H W E r) : PostS K mg μ' H' W E r := by
  cases r with
  | nx env S => exact fun a b s y => h a b s (x.trans y)
  | rt d S => exact fun a b s y => h a b s (x.trans y)
  | bk env S => exact fun a b s y => h a b s (x.trans y)
  | ct env S => exact fun a b s y => h a b s (x.trans y)
  | ex c fs env S => exact fun a b s c d y => h a b s c d (x.trans y)
  | no => exact h
/-- an expression, then the rest -/
theorem PostS.bind {rel : List Addr → Hp → α → β → Prop} {Q : β → Hp → Prop} {r : R α} {f : α → Sto → RS} (hE : EnvR K mg μ H env σ) (h : PostS K mg μ H W E (r.st env f))
    (k : ∀ a S1 μ1 H1 b, r = .ok a S1 → Ext μ H μ1 H1 → Sim K mg μ1 S1 H1 → rel μ1 H1 a b → PostS K mg μ1 H1 W E (f a S1) → Q b H1) : PostG K mg μ H σ W rel Q r := by
  cases r with
  | ok a S => exact fun μ1 H1 b x hs hr => k a S μ1 H1 b rfl x hs hr (PostS.ext x h)
  | ex c fs S => exact fun μ1 H1 cls dd x hs hr => h μ1 H1 σ cls dd x hs (hE.ext x) hr
  | no => exact h
theorem PostS.nx (h : PostS K mg μ H W E (.nx env S)) (hs : Sim K mg μ S H) (hE : EnvR K mg μ H env σ) : E.nx σ H := h μ H σ Ext.refl hs hE
/-- other ends -/
theorem PostS.to {E' : Ends} {r r' : RS} (h : PostS K mg μ H W E r)
    (hn : ∀ env S, r' = .nx env S → PostS K mg μ H W E r → ∀ μ' H' σ', Ext μ H μ' H' → Sim K mg μ' S H' → EnvR K mg μ' H' env σ' → E'.nx σ' H')
    (hc : ∀ env S, r' = .ct env S → PostS K mg μ H W E r → ∀ μ' H' σ', Ext μ H μ' H' → Sim K mg μ' S H' → EnvR K mg μ' H' env σ' → E'.ct σ' H')
    (hb : ∀ env S, r' = .bk env S → PostS K mg μ H W E r → ∀ μ' H' σ', Ext μ H μ' H' → Sim K mg μ' S H' → EnvR K mg μ' H' env σ' → E'.bk σ' H')
    (hr : ∀ d S, r' = .rt d S → PostS K mg μ H W E r → ∀ μ' H' v, Ext μ H μ' H' → Sim K mg μ' S H' → RD K mg μ' H' d v → E'.rt v H')
    (hx : ∀ c fs env S, r' = .ex c fs env S → r = r') (ho : r' = .no → r = .no) : PostS K mg μ H W E' r' := by
  cases r' with
  | nx env S => exact hn env S rfl h
  | rt d S => exact hr d S rfl h
  | bk env S => exact hb env S rfl h
  | ct env S => exact hc env S rfl h
  | ex c fs env S => rw [hx c fs env S rfl] at h; exact h
  | no => rw [ho rfl] at h; exact h
end
section
variable (T : GT) (K : PySem.W.Frag) (mg : Str → Option Value) (W : WX) (n : Nat) (c : SC)
def rdS (st : Stmt) : TS := fun E σ H => ∃ μ env S, Sim K mg μ S H ∧ EnvR K mg μ H env σ ∧ PostS K mg μ H W E (evS T n c st env S)
def rdSs (sts : List Stmt) : TS := fun E σ H => ∃ μ env S, Sim K mg μ S H ∧ EnvR K mg μ H env σ ∧ PostS K mg μ H W E (evSs (evS T n c) sts env S)
end
theorem ps_mono {X : Cx} {st : Stmt} {t t' : TS} (h : PS X st t) (k : ∀ E σ H, t' E σ H → t E σ H) : PS X st t' := ⟨fun pins s σ H D I q => h.run pins s σ H D I (k D σ H q)⟩
theorem pss_mono {X : Cx} {st : List Stmt} {t t' : TS} (h : PSs X st t) (k : ∀ E σ H, t' E σ H → t E σ H) : PSs X st t' := ⟨fun pins s σ H D I q => h.run pins s σ H D I (k D σ H q)⟩
theorem ps_no {X : Cx} {st : Stmt} {t : TS} (h : ∀ E σ H, ¬ t E σ H) : PS X st t := ⟨fun _ _ σ H D _ q => absurd q (h D σ H)⟩
section
variable {T : GT} {c : SC} {X : Cx} {W : WX} {n k : Nat} {pos : Pos}
theorem rdS_no {st : Stmt} (h : ∀ env S, evS T n c st env S = .no) (K : PySem.W.Frag) (mg : Str → Option Value) : ∀ E σ H, ¬ rdS T K mg W n c st E σ H := fun E σ H ⟨μ, env, S, _, _, hp⟩ => by
  rw [h env S] at hp; exact hp
theorem sts_D (ihS : ∀ st, PS X st (rdS T X.K X.mg W n c st)) : ∀ (sts : List Stmt), PSs X sts (rdSs T X.K X.mg W n c sts)
  | [] => pss_mono pss_nil fun E σ H ⟨μ, env, S, hS, hE, hp⟩ => hp.nx hS hE
  | st :: sts => by
    refine pss_mono (pss_cons (ihS st) (sts_D ihS sts)) fun E σ H ⟨μ, env, S, hS, hE, hp⟩ => ?_
    refine ⟨μ, env, S, hS, hE, ?_⟩
    simp only [evSs] at hp
    cases e : evS T n c st env S with
    | nx env1 S1 =>
      rw [e] at hp
      exact fun μ1 H1 σ1 x1 hS1 hE1 => ⟨μ1, env1, S1, hS1, hE1, PostS.ext x1 hp⟩
    | rt _ _ => rw [e] at hp; exact hp
    | bk _ _ => rw [e] at hp; exact hp
    | ct _ _ => rw [e] at hp; exact hp
    | ex _ _ _ _ => rw [e] at hp; exact hp
    | no => rw [e] at hp; exact hp
theorem swap_no {e : Expr} {t : Option Expr} {l : Nat} {env : Env} (h : isComp e = false) : swapsWith e t l env = pure false := by
  cases e <;> first | rfl | cases h
theorem ret_S (ih : Ih T X W n c) {e : Expr} : PS X (.Return (some e) pos) (rdS T X.K X.mg W (n + 1) c (.Return (some e) pos)) := by
  refine ps_mono (ps_ret (ih.e e)) fun E σ H ⟨μ, env, S, hS, hE, hp⟩ => ⟨μ, env, S, hS, hE, ?_⟩
  simp only [evS] at hp
  exact hp.bind hE fun d S1 μ1 H1 v _ x1 hS1 r1 hp1 => hp1 μ1 H1 v Ext.refl hS1 r1
theorem expr_S (ih : Ih T X W n c) {e : Expr} : PS X (.Expr e pos) (rdS T X.K X.mg W (n + 1) c (.Expr e pos)) := by
  cases hc : isComp e with
  | true => exact ps_no (rdS_no (fun env S => by simp only [evS, hc, if_true]) _ _)
  | false =>
    refine ps_mono (ps_expr (ih.e e) (swap_no hc)) fun E σ H ⟨μ, env, S, hS, hE, hp⟩ => ⟨μ, env, S, hS, hE, ?_⟩
    simp only [evS, hc, Bool.false_eq_true, if_false] at hp
    exact hp.bind hE fun d S1 μ1 H1 v _ x1 hS1 r1 hp1 => hp1.nx hS1 (hE.ext x1)
theorem if_S (ih : Ih T X W n c) (ihS : ∀ st, PS X st (rdS T X.K X.mg W n c st)) {t : Expr} {a b : List Stmt} : PS X (.If t a b pos) (rdS T X.K X.mg W (n + 1) c (.If t a b pos)) := by
  refine ps_mono (ps_if (ih.t t) (sts_D ihS a) (sts_D ihS b)) fun E σ H ⟨μ, env, S, hS, hE, hp⟩ => ⟨μ, env, S, hS, hE, ?_⟩
  simp only [evS] at hp
  refine hp.bind hE fun d S1 μ1 H1 q _ x1 hS1 r1 hp1 => ?_
  cases (show d = .bl q from r1)
  cases q with
  | true => exact ⟨μ1, env, S1, hS1, hE.ext x1, hp1⟩
  | false => exact ⟨μ1, env, S1, hS1, hE.ext x1, hp1⟩
/-- a[i] = v -/
theorem setI_S (O : XOk T c X W k) (ih : Ih T X W n c) {o i e : Expr} {p : Pos} : PS X (.Assign [.Subscript o i p] e pos) (rdS T X.K X.mg W (n + 1) c (.Assign [.Subscript o i p] e pos)) := by
  cases hc : isComp e || isSliceE i with
  | true => exact ps_no (rdS_no (fun env S => by simp only [evS, hc, if_true]) _ _)
  | false =>
    obtain ⟨h1, h2⟩ := Bool.or_eq_false_iff.mp hc
    refine ps_mono (ps_asg (ih.e e) (pg_sub (ih.e o) (ih.e i) set_D ?_) (show swapsWithSole [.Subscript o i p] e pos.line X.env = _ from (show swapsWith e (some (.Subscript o i p)) pos.line X.env = _ from swap_no h1)) ?_) fun E σ H ⟨μ, env, S, hS, hE, hp⟩ => ⟨μ, env, S, hS, hE, ?_⟩
    · intro v
      cases i with
      | Slice _ _ _ _ => cases h2
      | _ => rfl
    · unfold swappedStores
      cases e <;> rfl
    · simp only [evS, hc, Bool.false_eq_true, if_false] at hp
      refine hp.bind hE fun v S1 μ1 H1 vv _ x1 hS1 r1 hp1 => ⟨μ1, env, S1, hS1, hE.ext x1, hp1.bind (hE.ext x1) fun x S2 μ2 H2 xv _ x2 hS2 r2 hp2 => ⟨μ2, env, S2, hS2, (hE.ext x1).ext x2, hp2.bind ((hE.ext x1).ext x2) fun y S3 μ3 H3 yv _ x3 hS3 r3 hp3 => ?_⟩⟩
      cases e4 : setD x y v S3 with
      | no => rw [e4] at hp3; exact hp3.elim
      | ex _ _ _ =>
        exfalso
        revert e4
        unfold setD
        split <;> (try split) <;> (try split) <;> simp
      | ok z S4 =>
        rw [e4] at hp3
        exact ⟨μ3, S3, x, y, v, hS3, r2.ext x3, r3, (r1.ext x2).ext x3, S4, e4, fun μ4 H4 x4 hS4 => hp3 μ4 H4 σ x4 hS4 ((((hE.ext x1).ext x2).ext x3).ext x4)⟩
end
end Cor
end
section
set_option linter.all false
set_option maxHeartbeats 1000000
namespace Cor
open PySem PySem.Spec PyProof.Rows L2
section
variable {T : GT} {c : SC} {X : Cx} {W : WX} {n k : Nat} {pos : Pos}
theorem stores_of (O : XOk T c X W k) {tg e : Expr} {r : Option (List Str)} (h : swapT c tg e = some r) : swappedStores [tg] e X.env = pure r := by
  have hk : X.env.blockKind = .function := by unfold Env.blockKind; rw [O.kind]; rfl
  have hl : ∀ x, X.env.kindOf x = c.nm.lookup x := fun x => by show X.env.scope.names.lookup x = _; rw [O.nm]
  unfold swapT at h
  split at h
  · rename_i ts q p vs q2 p2
    unfold swappedStores
    dsimp only
    rw [hk]
    simp only [bne_self_eq_false, Bool.or_false]
    split at h
    · rename_i h1
      cases h
      rw [if_pos h1]
    · rename_i h1
      rw [if_neg h1]
      have st : ∀ f : Expr → Bool, (∀ e, f e = isStar e) → vs.any f = !noStar vs := fun f hf => by
        unfold noStar
        rw [List.not_all_eq_any_not]
        congr 1
        funext e
        rw [hf]; simp
      rw [st _ (fun e => by cases e <;> rfl)]
      split at h
      · rename_i h2
        cases h
        rw [if_pos h2]
      · rename_i h2
        rw [if_neg h2]
        have nm : ∀ f : Expr → Option Str, (∀ e, f e = swapName c ((ts.head?.map (·.pos.line)).getD 0) e) → ts.filterMap f = ts.filterMap (swapName c ((ts.head?.map (·.pos.line)).getD 0)) := fun f hf => by
          congr 1
          funext e
          exact hf e
        rw [nm _ (fun e => by cases e <;> first | rfl | (dsimp only [swapName]; rw [hl]))]
        dsimp only at h
        split at h
        · rename_i h3
          cases h
          rw [if_pos h3]
        · rename_i h3
          rw [if_neg h3]
          split at h
          · rename_i h4
            cases h
            rw [if_pos h4]
          · rename_i h4
            rw [if_neg h4]
            split at h
            · cases h
            · rename_i h5
              cases h
              rw [if_neg h5]
  · cases h
  · rename_i h1 h2
    cases h
    unfold swappedStores
    cases tg with
    | Tuple ts q p => cases e with
      | Tuple vs q2 p2 => exact (h2 _ _ _ _ _ _ rfl rfl).elim
      | _ => rfl
    | List ts p => exact (h1 _ _ rfl).elim
    | _ => rfl
end
end Cor
end
section
set_option linter.all false
set_option maxHeartbeats 1000000
namespace Cor
open PySem PySem.Spec PyProof.Rows L2
section
variable {T : GT} {c : SC} {X : Cx} {W : WX} {n k : Nat} {pos : Pos}
/-- a statement name = .. or names = .. that is no subscript's -/
def isSubE : Expr → Bool
  | .Subscript _ _ _ => true
  | _ => false
theorem evAsg {tg e : Expr} {env : DEnv} {S : Sto} (h : isSubE tg = false) (hw : isWide tg = false) (hs : badT c tg e = false) : evS T (n + 1) c (.Assign [tg] e pos) env S = (evE T n c false e env S).st env fun d S => match asgS c tg e d env with
    | some env => .nx env S
    | none => .no := by
  have e0 : evS T (n + 1) c (.Assign [tg] e pos) env S = if badT c tg e then .no else (evE T n c false e env S).st env fun d S => match asgS c tg e d env with
    | some env => .nx env S
    | none => .no := by
    cases tg with
    | Subscript _ _ _ => cases h
    | Tuple es q p =>
      have e1 : evS T (n + 1) c (.Assign [.Tuple es q p] e pos) env S = if isWide (.Tuple es q p) then (if noStar es = true ∧ swapT c (.Tuple es q p) e = some none then (evE T n c false e env S).st env fun d S => match d with
          | .tup ds => if ds.length = es.length then (match tgsW c (fun e env S => evE T n c false e env S) es ds env S with
            | .ok env S => .nx env S
            | _ => .no) else .no
          | _ => .no
        else .no) else if badT c (.Tuple es q p) e then .no else (evE T n c false e env S).st env fun d S => match asgS c (.Tuple es q p) e d env with
        | some env => .nx env S
        | none => .no := rfl
      rw [e1, hw]; rfl
    | _ => rfl
  rw [e0, hs]; rfl
theorem evAsg_bad {tg e : Expr} {env : DEnv} {S : Sto} (h : isSubE tg = false) (hw : isWide tg = false) (hs : badT c tg e = true) : evS T (n + 1) c (.Assign [tg] e pos) env S = .no := by
  have e0 : evS T (n + 1) c (.Assign [tg] e pos) env S = if badT c tg e then .no else (evE T n c false e env S).st env fun d S => match asgS c tg e d env with
    | some env => .nx env S
    | none => .no := by
    cases tg with
    | Subscript _ _ _ => cases h
    | Tuple es q p =>
      have e1 : evS T (n + 1) c (.Assign [.Tuple es q p] e pos) env S = if isWide (.Tuple es q p) then (if noStar es = true ∧ swapT c (.Tuple es q p) e = some none then (evE T n c false e env S).st env fun d S => match d with
          | .tup ds => if ds.length = es.length then (match tgsW c (fun e env S => evE T n c false e env S) es ds env S with
            | .ok env S => .nx env S
            | _ => .no) else .no
          | _ => .no
        else .no) else if badT c (.Tuple es q p) e then .no else (evE T n c false e env S).st env fun d S => match asgS c (.Tuple es q p) e d env with
        | some env => .nx env S
        | none => .no := rfl
      rw [e1, hw]; rfl
    | _ => rfl
  rw [e0, hs]; rfl
/-- the reading of the target behind the value -/
theorem asg_read {K : PySem.W.Frag} {mg : Str → Option Value} {tg e : Expr} (h : isSubE tg = false) (hw : isWide tg = false) (hs : badT c tg e = false) (hsw : swapT c tg e = some none) : ∀ E σ H, rdS T K mg W (n + 1) c (.Assign [tg] e pos) E σ H → tAsg (rdE T K mg W n c e) (rdG K mg c 5 tg) E σ H := by
  intro E σ H ⟨μ, env, S, hS, hE, hp⟩
  rw [evAsg h hw hs] at hp
  refine ⟨μ, env, S, hS, hE, hp.bind hE fun d S1 μ1 H1 v _ x1 hS1 r1 hp1 => ?_⟩
  unfold asgS at hp1
  rw [hsw] at hp1
  dsimp only at hp1
  cases e1 : asg c 5 tg d env with
  | none => rw [e1] at hp1; exact hp1.elim
  | some env1 =>
    rw [e1] at hp1
    exact ⟨μ1, env, S1, d, env1, hS1, hE.ext x1, r1, e1, fun σ' hE' _ => hp1.nx hS1 hE'⟩
theorem swap_name {x : Str} {p : Pos} {e : Expr} {l : Nat} (O : XOk T c X W k) (h : swapN c x p e = false) : swapsWith e (some (.Name x p)) l X.env = pure false := by
  have hb : X.env.blockKind = .function := by unfold Env.blockKind; rw [O.kind]; rfl
  have hl : X.env.kindOf x = c.nm.lookup x := by show X.env.scope.names.lookup x = _; rw [O.nm]
  cases e with
  | ListComp elt gs sc q =>
    unfold swapN compScope at h
    unfold swapsWith
    dsimp only at h ⊢
    rw [hb, hl]
    have e0 : ((ScopeKind.function == ScopeKind.function) && (List.lookup x c.nm == some NameKind.local) && (p.line == q.line) && !(sc.names.any fun (n, k) => n == x && (k == .local || k == .cell))) = false := by
      rw [← h]; rfl
    show pure _ = pure _
    rw [← e0]; rfl
  | SetComp elt gs sc q =>
    unfold swapN compScope at h
    unfold swapsWith
    dsimp only at h ⊢
    rw [hb, hl]
    show pure _ = pure _
    rw [← h]; rfl
  | DictComp a b gs sc q =>
    unfold swapN compScope at h
    unfold swapsWith
    dsimp only at h ⊢
    rw [hb, hl]
    show pure _ = pure _
    rw [← h]; rfl
  | _ => rfl
theorem swap_name_yes {x : Str} {p : Pos} {elt : Expr} {gs : List Comprehension} {sc : Scope} {q : Pos} {l : Nat} (O : XOk T c X W k) (h : swapN c x p (.ListComp elt gs sc q) = true) : swapsWith (.ListComp elt gs sc q) (some (.Name x p)) l X.env = pure true := by
  have hb : X.env.blockKind = .function := by unfold Env.blockKind; rw [O.kind]; rfl
  have hl : X.env.kindOf x = c.nm.lookup x := by show X.env.scope.names.lookup x = _; rw [O.nm]
  unfold swapN compScope at h
  unfold swapsWith
  dsimp only at h ⊢
  rw [hb, hl]
  show pure _ = pure _
  rw [← h]; rfl
theorem swap_tup {es : List Expr} {q : Nat} {p : Pos} {e : Expr} {l : Nat} {env : Env} : swapsWith e (some (.Tuple es q p)) l env = pure false := by
  cases e <;> rfl
theorem name_S (O : XOk T c X W k) (ih : Ih T X W n c) {x : Str} {p : Pos} {e : Expr} (hn : swapN c x p e = false) : PS X (.Assign [.Name x p] e pos) (rdS T X.K X.mg W (n + 1) c (.Assign [.Name x p] e pos)) := by
  cases hb : badT c (.Name x p) e with
  | true => exact ps_no (rdS_no (fun env S => evAsg_bad rfl rfl hb) _ _)
  | false => exact ps_mono (ps_asg (ih.e e) (tgt_D O 5 (.Name x p)) (by exact swap_name (l := pos.line) O hn) (stores_of O rfl)) (asg_read rfl rfl hb rfl)
/-- name = a comprehension on its line -/
theorem nameLc_S (O : XOk T c X W k) (ih : Ih T X W n c) (ihA : IhAll T k n) {x : Str} {p : Pos} {elt tg iter : Expr} {ifs : List Expr} {sc : Scope} {q : Pos} (hy : swapN c x p (.ListComp elt [⟨tg, iter, ifs, 0⟩] sc q) = true) :
    PS X (.Assign [.Name x p] (.ListComp elt [⟨tg, iter, ifs, 0⟩] sc q) pos) (rdS T X.K X.mg W (n + 1 + 1) c (.Assign [.Name x p] (.ListComp elt [⟨tg, iter, ifs, 0⟩] sc q) pos)) := by
  cases hbt : badT c (.Name x p) (.ListComp elt [⟨tg, iter, ifs, 0⟩] sc q) with
  | true => exact ps_no (rdS_no (fun env S => evAsg_bad rfl rfl hbt) _ _)
  | false =>
    cases hb : blkC c.N (scopeOf c) sc (ownOf c.N sc) with
    | false => exact ps_no (rdS_no (fun env S => by rw [evAsg rfl rfl hbt, evLc_no hb]; rfl) _ _)
    | true =>
      cases hse : isSetE iter with
      | true => exact ps_no (rdS_no (fun env S => by rw [evAsg rfl rfl hbt, evLc hb]; unfold evIt; rw [if_pos hse]; rfl) _ _)
      | false =>
        have b := blkOk_of O hb
        have hloc : c.nm.lookup x = some .local := by
          unfold swapN compScope at hy
          simp only [Bool.and_eq_true, beq_iff_eq] at hy
          exact hy.1.1
        have hbt' := hbt
        unfold badT at hbt'
        simp only [Bool.not_eq_false', Bool.and_eq_true] at hbt'
        obtain ⟨hl, hs⟩ := hbt'
        obtain ⟨i, hi⟩ := Option.isSome_iff_exists.mp hs
        refine ps_mono (ps_setLc (i := i) (tt := rdF T X.K X.mg WNo n (inner c sc) ifs) (g := rdG X.K X.mg (inner c sc) 5 tg) (te := rdE T X.K X.mg WNo n (inner c sc) elt) O.calm (by rw [O.N]; exact O.nd) (by rw [O.N]; exact slot_of hi) (by rw [O.nm]; exact hloc) (swap_name_yes O hy) (iter_D O.toCxR ih) b (fun s H C cl fp => tgt_D (blk_ok O b s H C cl fp) 5 tg) (fun s H C cl fp => ifs_D (ihA _ _ _ (blk_ok O b s H C cl fp)) ifs)
          (fun s H C cl fp => (ihA _ _ _ (blk_ok O b s H C cl fp)).e elt) (folded_of hse)) fun E σ H ⟨μ, env, S, hS, hE, hp⟩ => ?_
        rw [evAsg rfl rfl hbt] at hp
        refine lc_read b.uniq hb ⟨μ, env, S, hS, hE, hp.bind hE fun d S1 μ1 H1 v _ x1 hS1 r1 hp1 => ?_⟩
        simp only [asgS, swapT, asg, hl, hi, if_true] at hp1
        exact hp1.nx hS1 ((hE.ext x1).set i r1)
/-- names = values -/
theorem tup_S (O : XOk T c X W k) (ih : Ih T X W n c) {es : List Expr} {q : Nat} {p : Pos} {e : Expr} (hw : isWide (.Tuple es q p) = false) (hsw : swapT c (.Tuple es q p) e = some none) : PS X (.Assign [.Tuple es q p] e pos) (rdS T X.K X.mg W (n + 1) c (.Assign [.Tuple es q p] e pos)) :=
  ps_mono (ps_asg (ih.e e) (tgt_D O 5 (.Tuple es q p)) (by exact swap_tup (es := es) (q := q) (p := p) (e := e) (l := pos.line) (env := X.env)) (stores_of O hsw)) (asg_read rfl hw (by unfold badT; rw [hsw]) hsw)
/-- targets of all kinds -/
def rdW (T : GT) (K : PySem.W.Frag) (mg : Str → Option Value) (n : Nat) (c : SC) (tg : Expr) : TG := fun v σ H Q => ∃ μ env S d env' S', Sim K mg μ S H ∧ EnvR K mg μ H env σ ∧ RD K mg μ H d v ∧ tgW c (fun e env S => evE T n c false e env S) tg d env S = .ok env' S' ∧
  ∀ μ' H' σ', Ext μ H μ' H' → Sim K mg μ' S' H' → EnvR K mg μ' H' env' σ' → Q σ' H'
def rdWs (T : GT) (K : PySem.W.Frag) (mg : Str → Option Value) (n : Nat) (c : SC) (ts : List Expr) : TGs := fun vs σ H Q => ∃ μ env S ds env' S', Sim K mg μ S H ∧ EnvR K mg μ H env σ ∧ RDs K mg μ H ds vs ∧ tgsW c (fun e env S => evE T n c false e env S) ts ds env S = .ok env' S' ∧
  ∀ μ' H' σ', Ext μ H μ' H' → Sim K mg μ' S' H' → EnvR K mg μ' H' env' σ' → Q σ' H'
theorem bind_of {α β : Type} {r : R α} {f : α → Sto → R β} {b : β} {S : Sto} (h : r.bind f = .ok b S) : ∃ a S1, r = .ok a S1 ∧ f a S1 = .ok b S := by
  cases r with
  | ok a S1 => exact ⟨a, S1, rfl, h⟩
  | _ => cases h
theorem wide_one (O : XOk T c X W k) (ih : Ih T X W n c) : ∀ tg, PG X tg (rdW T X.K X.mg n c tg) := by
  intro tg
  have no : (∀ d env S, tgW c (fun e env S => evE T n c false e env S) tg d env S = .no) → PG X tg (rdW T X.K X.mg n c tg) := fun h => pg_no fun v σ H Q ⟨μ, env, S, d, env', S', _, _, _, e, _⟩ => by rw [h] at e; cases e
  cases tg with
  | Name x p =>
    cases hl : isLoc c x with
    | false => exact no fun d env S => by simp [tgW, hl]
    | true =>
      cases hi : slot c.N x with
      | none => exact no fun d env S => by simp [tgW, hl, hi]
      | some i =>
        obtain ⟨l1, l2⟩ := loc_of O.nm O.fx hl
        refine pg_mono (pg_name (X := X) (i := i) (by rw [O.N]; exact O.nd) (by rw [O.N]; exact slot_of hi) l1 l2) fun v σ H Q ⟨μ, env, S, d, env', S', hS, hE, r, e, q⟩ => ?_
        simp [tgW, hl, hi] at e
        obtain ⟨rfl, rfl⟩ := e
        exact q μ H _ Ext.refl hS (hE.set i r)
  | Subscript o i p =>
    cases hs : isSliceE i with
    | true => exact no fun d env S => by simp [tgW, hs]
    | false =>
      refine pg_mono (pg_sub (ih.e o) (ih.e i) set_D ?_) fun v σ H Q ⟨μ, env, S, d, env', S', hS, hE, r, e, q⟩ => ?_
      · intro v
        cases i with
        | Slice _ _ _ _ => cases hs
        | _ => rfl
      · simp only [tgW, hs, Bool.false_eq_true, if_false] at e
        obtain ⟨x, S1, e1, e⟩ := bind_of e
        obtain ⟨y, S2, e2, e⟩ := bind_of e
        obtain ⟨z, S3, e3, e⟩ := bind_of e
        cases e
        refine ⟨μ, env, S, hS, hE, ?_⟩
        rw [e1]
        intro μ1 H1 xv x1 hS1 r1
        refine ⟨μ1, env, S1, hS1, hE.ext x1, ?_⟩
        rw [e2]
        intro μ2 H2 yv x2 hS2 r2
        exact ⟨μ2, S2, x, y, d, hS2, r1.ext x2, r2, (r.ext x1).ext x2, S', e3, fun μ3 H3 x3 hS3 => q μ3 H3 σ ((x1.trans x2).trans x3) hS3 (((hE.ext x1).ext x2).ext x3)⟩
  | _ => exact no fun d env S => rfl
theorem wide_all (O : XOk T c X W k) (ih : Ih T X W n c) : ∀ {ts : List Expr}, noStar ts = true → PGs X ts (rdWs T X.K X.mg n c ts)
  | [], _ => pgs_mono pgs_nil fun vs σ H Q ⟨μ, env, S, ds, env', S', hS, hE, r, e, q⟩ => by
    cases ds with
    | nil =>
      simp only [RDs] at r
      simp [tgsW] at e
      obtain ⟨rfl, rfl⟩ := e
      exact ⟨r, q μ H σ Ext.refl hS hE⟩
    | cons d ds => simp [tgsW] at e
  | t :: ts, h => by
    obtain ⟨h1, h2⟩ := noStar_cons h
    have e0 : (assignEach (t :: ts) X.env).map (·.2) = assign t X.env :: (assignEach ts X.env).map (·.2) := by
      cases t with
      | Starred _ _ => cases h1
      | _ => rfl
    refine pgs_mono (pgs_cons (wide_one O ih t) (wide_all O ih h2) e0) fun vs σ H Q ⟨μ, env, S, ds, env', S', hS, hE, r, e, q⟩ => ?_
    cases ds with
    | nil => simp [tgsW] at e
    | cons d ds =>
      simp only [RDs] at r
      obtain ⟨y, ys, rfl, r1, r2⟩ := r
      simp only [tgsW] at e
      cases e1 : tgW c (fun e env S => evE T n c false e env S) t d env S with
      | ok env1 S1 =>
        rw [e1] at e
        exact ⟨y, ys, rfl, μ, env, S, d, env1, S1, hS, hE, r1, e1, fun μ1 H1 σ1 x1 hS1 hE1 => ⟨μ1, env1, S1, ds, env', S', hS1, hE1, r2.ext x1, e, fun μ2 H2 σ2 x2 hS2 hE2 => q μ2 H2 σ2 (x1.trans x2) hS2 hE2⟩⟩
      | _ => rw [e1] at e; cases e
theorem wide_S (O : XOk T c X W k) (ih : Ih T X W n c) {es : List Expr} {q : Nat} {p : Pos} {e : Expr} (hw : isWide (.Tuple es q p) = true) : PS X (.Assign [.Tuple es q p] e pos) (rdS T X.K X.mg W (n + 1) c (.Assign [.Tuple es q p] e pos)) := by
  have e1 : ∀ env S, evS T (n + 1) c (.Assign [.Tuple es q p] e pos) env S = if noStar es = true ∧ swapT c (.Tuple es q p) e = some none then (evE T n c false e env S).st env fun d S => match d with
      | .tup ds => if ds.length = es.length then (match tgsW c (fun e env S => evE T n c false e env S) es ds env S with
        | .ok env S => .nx env S
        | _ => .no) else .no
      | _ => .no
    else .no := fun env S => by
    show (if isWide (.Tuple es q p) then _ else _) = _
    rw [if_pos hw]
    try rfl
  by_cases hh : noStar es = true ∧ swapT c (.Tuple es q p) e = some none
  · obtain ⟨hs, hsw⟩ := hh
    obtain ⟨a1, a2, a3⟩ := each_star (env := X.env) hs
    refine ps_mono (ps_asg (ih.e e) (pg_tup O.calm (wide_all O ih hs) a2 a1) (by exact swap_tup (es := es) (q := q) (p := p) (e := e) (l := pos.line) (env := X.env)) (stores_of O hsw)) fun E σ H ⟨μ, env, S, hS, hE, hp⟩ => ?_
    rw [e1, if_pos ⟨hs, hsw⟩] at hp
    refine ⟨μ, env, S, hS, hE, hp.bind hE fun d S1 μ1 H1 v _ x1 hS1 r1 hp1 => ?_⟩
    cases d with
    | tup ds =>
      dsimp only at hp1
      split at hp1
      · rename_i hl
        simp only [RD] at r1
        obtain ⟨a, xs, rfl, sq, rs⟩ := r1
        cases e4 : tgsW c (fun e env S => evE T n c false e env S) es ds env S1 with
        | ok env2 S2 =>
          rw [e4] at hp1
          exact ⟨a, xs, rfl, sq, by rw [← rs.length]; exact hl, μ1, env, S1, ds, env2, S2, hS1, hE.ext x1, rs, e4, fun μ2 H2 σ2 x2 hS2 hE2 => hp1 μ2 H2 σ2 x2 hS2 hE2⟩
        | _ => rw [e4] at hp1; exact hp1.elim
      · exact hp1.elim
    | _ => exact hp1.elim
  · exact ps_no (rdS_no (fun env S => by rw [e1, if_neg hh]) _ _)
/-- two names = two values -/
theorem par_S (O : XOk T c X W k) (ih : Ih T X W n c) {x y : Str} {px py : Pos} {q : Nat} {p : Pos} {a b : Expr} {q2 : Nat} {p2 : Pos} {i j : Nat} (hp : parOf c (.Tuple [.Name x px, .Name y py] q p) (.Tuple [a, b] q2 p2) = some (i, j)) :
    PS X (.Assign [.Tuple [.Name x px, .Name y py] q p] (.Tuple [a, b] q2 p2) pos) (rdS T X.K X.mg W (n + 1 + 1) c (.Assign [.Tuple [.Name x px, .Name y py] q p] (.Tuple [a, b] q2 p2) pos)) := by
  have hp0 := hp
  unfold parOf at hp
  dsimp only at hp
  split at hp
  · rename_i i' j' hi hj
    split at hp
    · rename_i hh
      obtain ⟨l1, l2, hij, hsw⟩ := hh
      cases hp
      refine ps_mono (ps_par (i := i) (j := j) O.calm (by rw [O.N]; exact O.nd) (by rw [O.N]; exact slot_of hi) (by rw [O.N]; exact slot_of hj) hij (by rw [O.nm]; exact l1) (by rw [O.nm]; exact l2) (args_D ih [a, b]) (stores_of O hsw)
        (by exact swap_tup (es := [.Name x px, .Name y py]) (q := q) (p := p) (e := .Tuple [a, b] q2 p2) (l := pos.line) (env := X.env))) fun E σ H ⟨μ, env, S, hS, hE, hp⟩ => ?_
      rw [evAsg rfl rfl (by unfold badT; rw [hsw]; dsimp only; rw [hp0]; rfl)] at hp
      simp only [evE] at hp
      have as1 : ∀ (r1 : R (List D)) (f : List D → Sto → R D) (g : D → Sto → RS), (r1.bind f).st env g = r1.st env fun x S => (f x S).st env g := fun r1 f g => by cases r1 <;> rfl
      rw [as1] at hp
      refine ⟨μ, env, S, hS, hE, hp.bind hE fun ds S1 μ1 H1 vs ee x1 hS1 r1 hp1 => ?_⟩
      match ds, evAll_len ee, r1, hp1 with
      | [d, d2], _, r1, hp1 =>
        obtain ⟨v, w, rfl, q1, q2'⟩ := rds_two r1
        have e2 : mkTup [d, d2] S1 = .ok (.tup [d, d2]) S1 := by unfold mkTup; rw [if_pos (by show 2 ≤ sizeLine; decide)]
        rw [e2] at hp1
        simp only [R.st, asgS, hsw, hp0] at hp1
        exact ⟨v, w, rfl, hp1.nx hS1 (((hE.ext x1).set i q1).set j q2')⟩
    · cases hp
  · cases hp
end
end Cor
end
section
set_option linter.all false
set_option maxHeartbeats 1000000
namespace Cor
open PySem PySem.Spec PyProof.Rows L2
section
variable {T : GT} {c : SC} {X : Cx} {W : WX} {n k : Nat} {pos : Pos}
theorem augD_D {op : Operator} : PIp X op (rP2 X.K X.mg (augD op)) := by
  intro pins s σ H x y v u Q I rx ry h
  obtain ⟨μ, S, a, b, hs, ra, rb, hp⟩ := h
  cases a with
  | int i =>
    cases b with
    | int j =>
      simp only [RD] at ra rb
      subst ra; subst rb
      cases op with
      | Add => exact iop_add pins s σ H _ _ v u Q I rx ry ⟨i, j, rfl, rfl, hp.same hs rd_int⟩
      | Sub => exact iop_sub pins s σ H _ _ v u Q I rx ry ⟨i, j, rfl, rfl, hp.same hs rd_int⟩
      | Mult =>
        simp only [augD] at hp
        split at hp
        · rename_i hc
          exact iop_mul pins s σ H _ _ v u Q I rx ry ⟨i, j, rfl, rfl, hc.imp of_small of_small, hp.same hs rd_int⟩
        · exact hp.elim
      | FloorDiv =>
        simp only [augD] at hp
        split at hp
        · rename_i hc
          exact iop_fdiv pins s σ H _ _ v u Q I rx ry ⟨i, j, rfl, rfl, ⟨hc.1, (small9_iff.mp hc.2).2⟩, hp.same hs rd_int⟩
        · exact hp.elim
      | Mod =>
        simp only [augD] at hp
        split at hp
        · rename_i hc
          exact iop_mod pins s σ H _ _ v u Q I rx ry ⟨i, j, rfl, rfl, hc, hp.same hs rd_int⟩
        · exact hp.elim
      | _ => exact hp.elim
    | _ => cases op <;> exact hp.elim
  | str i =>
    cases b with
    | str j =>
      simp only [RD] at ra rb
      subst ra; subst rb
      cases op with
      | Add =>
        simp only [augD] at hp
        split at hp
        · rename_i hc
          exact iop_add_str pins s σ H _ _ v u Q I rx ry ⟨i, j, rfl, rfl, hc, hp.same hs rd_str⟩
        · exact hp.elim
      | _ => exact hp.elim
    | _ => cases op <;> exact hp.elim
  | _ => cases op <;> exact hp.elim
theorem augD_nox {op a b S c fs S'} : augD op a b S ≠ .ex c fs S' := by
  unfold augD
  split <;> (try split) <;> simp
theorem aug_S (O : XOk T c X W k) (ih : Ih T X W n c) {x : Str} {p : Pos} {op : Operator} {e : Expr} : PS X (.AugAssign (.Name x p) op e pos) (rdS T X.K X.mg W (n + 1) c (.AugAssign (.Name x p) op e pos)) := by
  cases hl : isLoc c x with
  | false => exact ps_no (rdS_no (fun env S => by simp only [evS, hl, Bool.false_eq_true, if_false]) _ _)
  | true =>
    cases hi : slot c.N x with
    | none => exact ps_no (rdS_no (fun env S => by simp only [evS, hl, hi, if_true]) _ _)
    | some i =>
      obtain ⟨l1, l2⟩ := loc_of O.nm O.fx hl
      refine ps_mono (ps_aug (i := i) (by rw [O.N]; exact O.nd) (by rw [O.N]; exact slot_of hi) l1 (ih.e e) augD_D l2) fun E σ H ⟨μ, env, S, hS, hE, hp⟩ => ?_
      simp only [evS, hl, hi, if_true] at hp
      cases he : env[i]? with
      | none => rw [he] at hp; exact hp.elim
      | some o =>
        cases o with
        | none => rw [he] at hp; exact hp.elim
        | some a =>
          rw [he] at hp
          obtain ⟨v, h1, h2⟩ := hE.2 i a he
          refine ⟨v, h1, μ, env, S, hS, hE, hp.bind hE fun b S1 μ1 H1 w _ x1 hS1 r1 hp1 => ⟨μ1, S1, a, b, hS1, h2.ext x1, r1, ?_⟩⟩
          cases ea : augD op a b S1 with
          | no => rw [ea] at hp1; exact hp1.elim
          | ex _ _ _ => exact absurd ea augD_nox
          | ok r S2 =>
            rw [ea] at hp1
            exact fun μ2 H2 z x2 hS2 r2 => hp1 μ2 H2 _ x2 hS2 (((hE.ext x1).ext x2).set i r2)
/-- what a body's turn is to reach -/
theorem body_to {K : PySem.W.Frag} {mg : Str → Option Value} {μ : List Addr} {H : Hp} {E : Ends} {N : L2.St → Hp → Prop} {b : RS} {next : DEnv → Sto → RS}
    (h : PostS K mg μ H W E (match b with | .nx env S => next env S | .ct env S => next env S | .bk env S => .nx env S | r => r))
    (hN : ∀ env S μ1 H1 σ1, Sim K mg μ1 S H1 → EnvR K mg μ1 H1 env σ1 → PostS K mg μ1 H1 W E (next env S) → N σ1 H1) : PostS K mg μ H W { E with nx := N, ct := N, bk := E.nx } b := by
  cases b with
  | nx env S => exact fun μ1 H1 σ1 x1 hS1 hE1 => hN env S μ1 H1 σ1 hS1 hE1 (PostS.ext x1 h)
  | ct env S => exact fun μ1 H1 σ1 x1 hS1 hE1 => hN env S μ1 H1 σ1 hS1 hE1 (PostS.ext x1 h)
  | bk env S => exact h
  | rt d S => exact h
  | ex c fs env S => exact h
  | no => exact h
theorem for_S (O : XOk T c X W k) (ih : Ih T X W n c) (ihS : ∀ st, PS X st (rdS T X.K X.mg W n c st)) {tg iter : Expr} {body : List Stmt} : PS X (.For tg iter body [] pos) (rdS T X.K X.mg W (n + 1) c (.For tg iter body [] pos)) := by
  cases hse : isSetE iter with
  | true => exact ps_no (rdS_no (fun env S => by simp only [evS]; unfold evIt; rw [if_pos hse]; rfl) _ _)
  | false =>
    refine ps_mono (ps_for O.own O.calm (iter_D O.toCxR ih) (tgt_D O 5 tg) (sts_D ihS body) (folded_of hse)) fun E σ H ⟨μ, env, S, hS, hE, hp⟩ => ?_
    simp only [evS] at hp
    refine ⟨μ, env, S, hS, hE, hp.bind hE fun J S1 μ1 H1 jt _ x1 hS1 r1 hp1 => ?_⟩
    let body' : D → DEnv → Sto → RS := fun d env S => match asg c 5 tg d env with
      | some env => evSs (evS T n c) body env S
      | none => .no
    let Iv : Nat → Nat → L2.St → Hp → Prop := fun i m σ2 Hx => m = J.ds.length - i ∧ i ≤ J.ds.length ∧ ∃ μ2 env2 S2, Ext0 μ1 H1 μ2 Hx ∧ Sim X.K X.mg μ2 S2 Hx ∧ EnvR X.K X.mg μ2 Hx env2 σ2 ∧
      PostS X.K X.mg μ2 Hx W E (forD J.ds J.g body' (J.ds.drop i) env2 S2)
    refine ⟨Iv, ⟨J.ds.length, rfl, Nat.zero_le _, μ1, env, S1, Ext.refl.toExt0, hS1, hE.ext x1, hp1⟩, ?_⟩
    rintro i m σ2 Hx ⟨rfl, hi, μ2, env2, S2, x2, hS2, hE2, hp2⟩
    by_cases hlt : i < J.ds.length
    · right
      obtain ⟨d, ed⟩ : ∃ d, J.ds[i]? = some d := ⟨_, List.getElem?_eq_getElem hlt⟩
      have edr : J.ds.drop i = d :: J.ds.drop (i + 1) := by
        rw [List.drop_eq_getElem_cons hlt]
        rw [List.getElem?_eq_getElem hlt] at ed
        cases ed; rfl
      rw [edr] at hp2
      simp only [forD] at hp2
      split at hp2
      · rename_i hg
        obtain ⟨hgo, hst⟩ := r1 μ2 S2 Hx x2 hS2 hg
        obtain ⟨g1, g2⟩ := hgo i d ed
        refine ⟨g1, Iv (i + 1) (J.ds.length - (i + 1)), fun σ' H' q => ⟨_, by omega, q⟩, fun x H' hy => ?_⟩
        obtain ⟨rfl, rx⟩ := g2 x H' hy
        cases ea : asg c 5 tg d env2 with
        | none => simp only [body', ea] at hp2; exact hp2.elim
        | some env3 =>
          refine ⟨μ2, env2, S2, d, env3, hS2, hE2, rx, ea, fun σ3 hE3 _ => ⟨μ2, env3, S2, hS2, hE3, ?_⟩⟩
          simp only [body', ea] at hp2
          -- the heap may only have grown behind the body
          have key : PostS X.K X.mg μ2 H' W { E with nx := fun σ4 H4 => Iv (i + 1) (J.ds.length - (i + 1)) σ4 H4, ct := fun σ4 H4 => Iv (i + 1) (J.ds.length - (i + 1)) σ4 H4, bk := E.nx } (evSs (evS T n c) body env3 S2) := by
            cases eb : evSs (evS T n c) body env3 S2 with
            | nx env4 S4 => rw [eb] at hp2; exact fun μ4 H4 σ4 x4 hS4 hE4 => ⟨rfl, hlt, μ4, env4, S4, x2.trans x4.toExt0, hS4, hE4, PostS.ext x4 hp2⟩
            | ct env4 S4 => rw [eb] at hp2; exact fun μ4 H4 σ4 x4 hS4 hE4 => ⟨rfl, hlt, μ4, env4, S4, x2.trans x4.toExt0, hS4, hE4, PostS.ext x4 hp2⟩
            | bk env4 S4 => rw [eb] at hp2; exact hp2
            | rt d S => rw [eb] at hp2; exact hp2
            | ex c fs env S => rw [eb] at hp2; exact hp2
            | no => rw [eb] at hp2; exact hp2
          exact key
      · exact hp2.elim
    · left
      have hi2 : i = J.ds.length := by omega
      subst hi2
      rw [List.drop_length] at hp2
      simp only [forD] at hp2
      split at hp2
      · rename_i hg
        obtain ⟨_, hst⟩ := r1 μ2 S2 Hx x2 hS2 hg
        exact ⟨hst, hp2.nx hS2 hE2⟩
      · exact hp2.elim
theorem while_S (O : XOk T c X W k) (ih : Ih T X W n c) (ihS : ∀ st, PS X st (rdS T X.K X.mg W n c st)) {t : Expr} {body : List Stmt} : PS X (.While t body [] pos) (rdS T X.K X.mg W (n + 1) c (.While t body [] pos)) := by
  refine ps_mono (ps_while O.own (ih.t t) (sts_D ihS body)) fun E σ H ⟨μ, env, S, hS, hE, hp⟩ => ?_
  simp only [evS] at hp
  let Iv : Nat → L2.St → Hp → Prop := fun m σ2 Hx => ∃ μ2 env2 S2, Sim X.K X.mg μ2 S2 Hx ∧ EnvR X.K X.mg μ2 Hx env2 σ2 ∧ PostS X.K X.mg μ2 Hx W E (whileD (fun env S => evE T n c true t env S) (fun env S => evSs (evS T n c) body env S) m env2 S2)
  refine ⟨Iv, ⟨T.wf, μ, env, S, hS, hE, hp⟩, ?_⟩
  rintro m σ2 Hx ⟨μ2, env2, S2, hS2, hE2, hp2⟩
  cases m with
  | zero => exact hp2.elim
  | succ m =>
    simp only [whileD] at hp2
    refine ⟨μ2, env2, S2, hS2, hE2, hp2.bind hE2 fun d S3 μ3 H3 q _ x3 hS3 r3 hp3 => ?_⟩
    cases (show d = .bl q from r3)
    cases q with
    | true =>
      simp only [if_true]
      exact ⟨Iv m, fun σ' H' q => ⟨m, by omega, q⟩, μ3, env2, S3, hS3, hE2.ext x3, body_to hp3 fun env4 S4 μ4 H4 σ4 hS4 hE4 hp4 => ⟨μ4, env4, S4, hS4, hE4, hp4⟩⟩
    | false =>
      simp only [Bool.false_eq_true, if_false]
      exact hp3.nx hS3 (hE2.ext x3)
end
end Cor
end
section
set_option linter.all false
set_option maxHeartbeats 1000000
namespace Cor
open PySem PySem.Spec PyProof.Rows L2
section
variable {T : GT} {k : Nat}
theorem lc_async {c : SC} {n : Nat} {elt tg iter : Expr} {ifs : List Expr} {a : Int} {sc : Scope} {p : Pos} {env : DEnv} {S : Sto} (ha : ¬ a = 0) : evE T n c false (.ListComp elt [⟨tg, iter, ifs, a⟩] sc p) env S = .no := by
  cases n with
  | zero => rfl
  | succ n => simp only [evE, ha, and_false, if_false]
theorem lc_two {c : SC} {n : Nat} {elt : Expr} {g1 g2 : Comprehension} {gs : List Comprehension} {sc : Scope} {p : Pos} {env : DEnv} {S : Sto} : evE T n c false (.ListComp elt (g1 :: g2 :: gs) sc p) env S = .no := by
  cases g1
  cases n <;> rfl
theorem par_shape {c : SC} {tg e : Expr} {r : Nat × Nat} (h : parOf c tg e = some r) : ∃ x px y py q p a b q2 p2, tg = .Tuple [.Name x px, .Name y py] q p ∧ e = .Tuple [a, b] q2 p2 := by
  unfold parOf at h
  split at h
  · exact ⟨_, _, _, _, _, _, _, _, _, _, rfl, rfl⟩
  · cases h
theorem all_e {n : Nat} (ihA : IhAll T k n) {c : SC} {X : Cx} {W : WX} (O : XOk T c X W k) (e : Expr) : PE X e (rdE T X.K X.mg W (n + 1) c e) := by
  have ih := ihA c X W O
  cases e with
  | Constant v q p => exact const_D
  | Name x p => exact name_D O.toCxR
  | BinOp a op b p => exact bin_D ih
  | UnaryOp op a p => cases op with
    | Not => exact notV_D ih
    | USub => exact neg_D ih
    | _ => exact pe_no (rdE_no (fun _ _ => rfl) _ _)
  | BoolOp op es p =>
    by_cases h : es = []
    · subst h; exact pe_no (rdE_no (fun _ _ => rfl) _ _)
    · exact vals_D ih h
  | IfExp t a b p => exact if_D ih
  | Compare a ops bs p =>
    match ops, bs with
    | [op], [b] => exact cmp_D O.toCxR ih
    | [op, op'], [b, b'] => exact chain_D O.toCxR ih
    | [], _ => exact pe_no (rdE_no (fun _ _ => rfl) _ _)
    | [_], [] => exact pe_no (rdE_no (fun _ _ => rfl) _ _)
    | [_], _ :: _ :: _ => exact pe_no (rdE_no (fun _ _ => rfl) _ _)
    | [_, _], [] => exact pe_no (rdE_no (fun _ _ => rfl) _ _)
    | [_, _], [_] => exact pe_no (rdE_no (fun _ _ => rfl) _ _)
    | [_, _], _ :: _ :: _ :: _ => exact pe_no (rdE_no (fun _ _ => rfl) _ _)
    | _ :: _ :: _ :: _, _ => exact pe_no (rdE_no (fun _ _ => rfl) _ _)
  | List es p => exact list_D' ih
  | Tuple es q p => exact tuple_D' ih
  | Dict ks vs p =>
    match ks, vs with
    | [], [] => exact dict0_D
    | [], _ :: _ => exact pe_no (rdE_no (fun _ _ => rfl) _ _)
    | _ :: _, _ => exact pe_no (rdE_no (fun _ _ => rfl) _ _)
  | Subscript a i p =>
    cases hs : isSliceE i with
    | false => exact item_D ih hs
    | true => cases i with
      | Slice lo hi st p2 => cases st with
        | none => exact cut_D ih
        | some s => cases lo with
          | none => cases hi with
            | none => exact rev_D ih
            | some _ => exact pe_no (rdE_no (fun _ _ => rfl) _ _)
          | some _ => exact pe_no (rdE_no (fun _ _ => rfl) _ _)
      | _ => cases hs
  | Call f es kws p => cases f with
    | Name x q =>
      cases hlr : lrOf T c x es kws with
      | some rs => exact callr_D O.toCxR ih hlr
      | none =>
      cases hg : isGl c x && noStar es with
      | false => exact pe_no (rdE_no (fun _ _ => by simp only [evE, hlr, hg, Bool.false_eq_true, if_false]) _ _)
      | true =>
        obtain ⟨h1, h2⟩ := Bool.and_eq_true_iff.mp hg
        cases hn : T.gl x with
        | some d => cases d with
          | glob f => exact callD_D O ih h1 h2 hn hlr
          | _ => exact pe_no (rdE_no (fun _ _ => by simp only [evE, hlr, hg, if_true, hn]) _ _)
        | none =>
          cases kws with
          | nil => cases hb : biOf x with
            | some f => exact callb_D O.toCxR ih h1 h2 hn hb hlr
            | none => exact pe_no (rdE_no (fun _ _ => by simp only [evE, hlr, hg, if_true, hn, hb]) _ _)
          | cons q qs => exact pe_no (rdE_no (fun _ _ => by simp only [evE, hlr, hg, if_true, hn]) _ _)
    | Attribute o m ap => cases kws with
      | nil => exact meth_D O.toCxR ih
      | cons q qs => exact pe_no (rdE_no (fun _ _ => rfl) _ _)
    | _ => exact pe_no (rdE_no (fun _ _ => rfl) _ _)
  | ListComp elt gs sc p =>
    match gs with
    | [] => exact pe_no (rdE_no (fun _ _ => rfl) _ _)
    | [⟨tg, iter, ifs, a⟩] =>
      by_cases ha : a = 0
      · subst ha; exact comp_D O ih ihA
      · exact pe_no (rdE_no (fun _ _ => lc_async ha) _ _)
    | _ :: _ :: _ => exact pe_no (rdE_no (fun _ _ => lc_two) _ _)
  | _ => exact pe_no (rdE_no (fun _ _ => rfl) _ _)
theorem all_t {n : Nat} (ihA : IhAll T k n) (ihB : ∀ m, n = m + 1 → IhAll T k m) {c : SC} {X : Cx} {W : WX} (O : XOk T c X W k) (e : Expr) : PT X e (rdT T X.K X.mg W (n + 1) c e) := by
  have ih := ihA c X W O
  have cmp : ∀ {a : Expr} {ops : List CmpOp} {bs : List Expr} {p : Pos}, PT X (.Compare a ops bs p) (rdT T X.K X.mg W (n + 1) c (.Compare a ops bs p)) := by
    intro a ops bs p
    cases n with
    | zero => exact pt_no (rdT_no (fun _ _ => rfl) _ _)
    | succ m =>
      have ih2 := ihB m rfl c X W O
      match ops, bs with
      | [op], [b] => exact cmpT_D O.toCxR ih2
      | [op, op'], [b, b'] => exact chainT_D O.toCxR ih2
      | [], _ => exact pt_no (rdT_no (fun _ _ => rfl) _ _)
      | [_], [] => exact pt_no (rdT_no (fun _ _ => rfl) _ _)
      | [_], _ :: _ :: _ => exact pt_no (rdT_no (fun _ _ => rfl) _ _)
      | [_, _], [] => exact pt_no (rdT_no (fun _ _ => rfl) _ _)
      | [_, _], [_] => exact pt_no (rdT_no (fun _ _ => rfl) _ _)
      | [_, _], _ :: _ :: _ :: _ => exact pt_no (rdT_no (fun _ _ => rfl) _ _)
      | _ :: _ :: _ :: _, _ => exact pt_no (rdT_no (fun _ _ => rfl) _ _)
  cases e with
  | UnaryOp op a p => cases op with
    | Not => exact notT_D ih
    | _ => exact truth_D ih rfl
  | BoolOp op es p =>
    by_cases h : es = []
    · subst h; exact pt_no (rdT_no (fun _ _ => rfl) _ _)
    · exact (tests_D ih h).pt
  | IfExp t a b p => exact ifT_D ih
  | Compare a ops bs p => exact cmp
  | _ => exact truth_D ih rfl
theorem all_E : ∀ n : Nat, IhAll T k n ∧ ∀ m, n = m + 1 → IhAll T k m
  | 0 => ⟨fun c X W O => ⟨fun e => pe_no (rdE_no (fun _ _ => rfl) _ _), fun e => pt_no (rdT_no (fun _ _ => rfl) _ _)⟩, fun m h => by omega⟩
  | n + 1 => by
    obtain ⟨h1, h2⟩ := all_E n
    exact ⟨fun c X W O => ⟨all_e h1 O, all_t h1 h2 O⟩, fun m h => by cases h; exact h1⟩
theorem all_S {c : SC} {X : Cx} {W : WX} (O : XOk T c X W k) : ∀ (n : Nat) (st : Stmt), PS X st (rdS T X.K X.mg W n c st)
  | 0, st => ps_no (rdS_no (fun _ _ => rfl) _ _)
  | n + 1, st => by
    have ihA : IhAll T k n := (all_E n).1
    have ih := ihA c X W O
    have ihS := all_S O n
    cases st with
    | Pass p => exact ps_mono ps_pass fun E σ H ⟨μ, env, S, hS, hE, hp⟩ => hp.nx hS hE
    | Break p => exact ps_mono ps_break fun E σ H ⟨μ, env, S, hS, hE, hp⟩ => hp μ H σ Ext.refl hS hE
    | Continue p => exact ps_mono ps_continue fun E σ H ⟨μ, env, S, hS, hE, hp⟩ => hp μ H σ Ext.refl hS hE
    | Return e p => cases e with
      | none => exact ps_mono ps_retN fun E σ H ⟨μ, env, S, hS, hE, hp⟩ => hp μ H .non Ext.refl hS rd_non
      | some e => exact ret_S ih
    | Expr e p => exact expr_S ih
    | If t a b p => exact if_S ih ihS
    | Assign tgs e p =>
      match tgs with
      | [] => exact ps_no (rdS_no (fun _ _ => rfl) _ _)
      | t1 :: t2 :: ts => exact ps_no (rdS_no (fun _ _ => by cases t1 <;> rfl) _ _)
      | [tg] =>
        cases tg with
        | Subscript o i q => exact setI_S O ih
        | Name x q =>
          cases hn : swapN c x q e with
          | false => exact name_S O ih hn
          | true => cases e with
            | ListComp elt gs sc p2 =>
              cases n with
              | zero => exact ps_no (rdS_no (fun env S => by
                  cases hb : badT c (.Name x q) (.ListComp elt gs sc p2) with
                  | true => exact evAsg_bad rfl rfl hb
                  | false => rw [evAsg rfl rfl hb]; rfl) _ _)
              | succ m =>
                match gs, hn with
                | [⟨tg, iter, ifs, a⟩], hn =>
                  by_cases ha : a = 0
                  · subst ha; exact nameLc_S O ((all_E m).1 c X W O) (all_E m).1 hn
                  · exact ps_no (rdS_no (fun env S => by
                      cases hb : badT c (.Name x q) (.ListComp elt [⟨tg, iter, ifs, a⟩] sc p2) with
                      | true => exact evAsg_bad rfl rfl hb
                      | false => rw [evAsg rfl rfl hb, lc_async ha]; rfl) _ _)
                | [], hn => exact ps_no (rdS_no (fun env S => by
                  cases hb : badT c (.Name x q) (.ListComp elt [] sc p2) with
                  | true => exact evAsg_bad rfl rfl hb
                  | false => rw [evAsg rfl rfl hb]; rfl) _ _)
                | g1 :: g2 :: gs, hn => exact ps_no (rdS_no (fun env S => by
                  cases hb : badT c (.Name x q) (.ListComp elt (g1 :: g2 :: gs) sc p2) with
                  | true => exact evAsg_bad rfl rfl hb
                  | false => rw [evAsg rfl rfl hb, lc_two]; rfl) _ _)
            | SetComp elt gs sc p2 => exact ps_no (rdS_no (fun env S => by
                cases hb : badT c (.Name x q) (.SetComp elt gs sc p2) with
                | true => exact evAsg_bad rfl rfl hb
                | false => rw [evAsg rfl rfl hb]; cases n <;> rfl) _ _)
            | DictComp a b gs sc p2 => exact ps_no (rdS_no (fun env S => by
                cases hb : badT c (.Name x q) (.DictComp a b gs sc p2) with
                | true => exact evAsg_bad rfl rfl hb
                | false => rw [evAsg rfl rfl hb]; cases n <;> rfl) _ _)
            | _ => cases hn
        | Tuple es q p2 =>
          cases hw : isWide (.Tuple es q p2) with
          | true => exact wide_S O ih hw
          | false =>
          by_cases hsw : swapT c (.Tuple es q p2) e = some none
          · exact tup_S O ih hw hsw
          · cases hb : badT c (.Tuple es q p2) e with
            | true => exact ps_no (rdS_no (fun env S => evAsg_bad rfl hw hb) _ _)
            | false =>
              have hb' := hb
              unfold badT at hb'
              dsimp only at hb'
              split at hb'
              · rename_i z; exact absurd z hsw
              · cases hpo : parOf c (.Tuple es q p2) e with
                | none => rw [hpo] at hb'; cases hb'
                | some r =>
                  obtain ⟨x, px, y, py, q', p', a, b, q2, p3, e1, e2⟩ := par_shape hpo
                  cases e1; subst e2
                  cases n with
                  | zero => exact ps_no (rdS_no (fun env S => by rw [evAsg rfl hw hb]; rfl) _ _)
                  | succ m => exact par_S O ((all_E m).1 c X W O) hpo
        | _ => exact ps_no (rdS_no (fun _ _ => rfl) _ _)
    | AugAssign tg op e p => cases tg with
      | Name x q => exact aug_S O ih
      | _ => exact ps_no (rdS_no (fun _ _ => rfl) _ _)
    | For tg iter body els p => cases els with
      | nil => exact for_S O ih ihS
      | cons a b => exact ps_no (rdS_no (fun _ _ => rfl) _ _)
    | While t body els p => cases els with
      | nil => exact while_S O ih ihS
      | cons a b => exact ps_no (rdS_no (fun _ _ => rfl) _ _)
    | _ => exact ps_no (rdS_no (fun _ _ => rfl) _ _)
end
end Cor
end
section
set_option linter.all false
set_option maxHeartbeats 1000000
namespace Cor
open PySem PySem.Spec PyProof.Rows L2
section
variable {K : PySem.W.Frag} {mg : Str → Option Value} {μ μ' : List Addr} {H H' : Hp}
mutual
/-- what leads nowhere hangs on no store -/
theorem flat_rd : ∀ {d : D} {v : V}, flat d = true → RD K mg μ H d v → RD K mg μ' H d v
  | .non, v, _, h => by simp only [RD] at h ⊢; exact h
  | .bl b, v, _, h => by simp only [RD] at h ⊢; exact h
  | .int i, v, _, h => by simp only [RD] at h ⊢; exact h
  | .str x, v, _, h => by simp only [RD] at h ⊢; exact h
  | .ty n, v, _, h => by simp only [RD] at h ⊢; exact h
  | .glob y, v, _, h => by simp only [RD] at h ⊢; exact h
  | .ref n, v, e, h => by simp [flat] at e
  | .tup ds, v, e, h => by
    simp only [RD] at h ⊢
    obtain ⟨a, xs, e1, s, r⟩ := h
    exact ⟨a, xs, e1, s, flat_rds (by simpa [flat] using e) r⟩
theorem flat_rds : ∀ {ds : List D} {vs : List V}, flats ds = true → RDs K mg μ H ds vs → RDs K mg μ' H ds vs
  | [], vs, _, h => by simp only [RDs] at h ⊢; exact h
  | d :: ds, vs, e, h => by
    simp only [RDs] at h ⊢
    simp only [flats, Bool.and_eq_true] at e
    obtain ⟨y, ys, e1, r, t⟩ := h
    exact ⟨y, ys, e1, flat_rd e.1 r, flat_rds e.2 t⟩
end
/-- a renaming: what stands behind a number stands behind the new one -/
def Ren (L : List Nat) (μ μ' : List Addr) : Prop := ∀ n i, ixOf n L = some i → ∀ a, μ[n]? = some a ↔ μ'[i]? = some a
mutual
theorem ren_rd {L : List Nat} (w : Ren L μ μ') : ∀ {d e : D} {v : V}, renD L d = some e → (RD K mg μ H d v ↔ RD K mg μ' H e v)
  | .non, e, v, h => by cases h; simp only [RD]
  | .bl b, e, v, h => by cases h; simp only [RD]
  | .int i, e, v, h => by cases h; simp only [RD]
  | .str x, e, v, h => by cases h; simp only [RD]
  | .ty n, e, v, h => by cases h; simp only [RD]
  | .glob y, e, v, h => by cases h; simp only [RD]
  | .ref n, e, v, h => by
    simp only [renD] at h
    cases q : ixOf n L with
    | none => rw [q] at h; cases h
    | some i =>
      rw [q] at h; cases h
      simp only [RD]
      exact ⟨fun ⟨a, e1, e2⟩ => ⟨a, e1, (w n i q a).mp e2⟩, fun ⟨a, e1, e2⟩ => ⟨a, e1, (w n i q a).mpr e2⟩⟩
  | .tup ds, e, v, h => by
    simp only [renD] at h
    cases q : renDs L ds with
    | none => rw [q] at h; cases h
    | some es =>
      rw [q] at h; cases h
      simp only [RD]
      exact ⟨fun ⟨a, xs, e1, s, r⟩ => ⟨a, xs, e1, s, (ren_rds w q).mp r⟩, fun ⟨a, xs, e1, s, r⟩ => ⟨a, xs, e1, s, (ren_rds w q).mpr r⟩⟩
theorem ren_rds {L : List Nat} (w : Ren L μ μ') : ∀ {ds es : List D} {vs : List V}, renDs L ds = some es → (RDs K mg μ H ds vs ↔ RDs K mg μ' H es vs)
  | [], es, vs, h => by cases h; simp only [RDs]
  | d :: ds, es, vs, h => by
    simp only [renDs] at h
    cases q : renD L d with
    | none => rw [q] at h; cases h
    | some e =>
      rw [q] at h
      cases q2 : renDs L ds with
      | none => rw [q2] at h; cases h
      | some es' =>
        rw [q2] at h; cases h
        simp only [RDs]
        exact ⟨fun ⟨y, ys, e1, r, t⟩ => ⟨y, ys, e1, (ren_rd w q).mp r, (ren_rds w q2).mp t⟩, fun ⟨y, ys, e1, r, t⟩ => ⟨y, ys, e1, (ren_rd w q).mpr r, (ren_rds w q2).mpr t⟩⟩
end
theorem renDs_len {L : List Nat} : ∀ {ds es : List D}, renDs L ds = some es → ds.length = es.length
  | [], es, h => by cases h; rfl
  | d :: ds, es, h => by
    simp only [renDs] at h
    cases q : renD L d with
    | none => rw [q] at h; cases h
    | some e =>
      rw [q] at h
      cases q2 : renDs L ds with
      | none => rw [q2] at h; cases h
      | some es' => rw [q2] at h; cases h; simp [renDs_len q2]
theorem renDs_get {L : List Nat} : ∀ {ds es : List D}, renDs L ds = some es → Paired (fun d e => renD L d = some e) ds es
  | [], es, h => by cases h; exact .nil
  | d :: ds, es, h => by
    simp only [renDs] at h
    cases q : renD L d with
    | none => rw [q] at h; cases h
    | some e =>
      rw [q] at h
      cases q2 : renDs L ds with
      | none => rw [q2] at h; cases h
      | some es' => rw [q2] at h; cases h; exact .cons q (renDs_get q2)
theorem paired_kv {α : Type} {L : List Nat} (w : Ren L μ μ') : ∀ {kvs : List (α × D)} {es : List D} {kv : List (α × V)}, renDs L (kvs.map (·.2)) = some es →
    (Paired (fun (p : α × D) (q : α × V) => p.1 = q.1 ∧ RD K mg μ H p.2 q.2) kvs kv ↔ Paired (fun (p : α × D) (q : α × V) => p.1 = q.1 ∧ RD K mg μ' H p.2 q.2) ((kvs.map (·.1)).zip es) kv)
  | [], es, kv, h => by
    cases h
    exact ⟨fun r => by cases r; exact .nil, fun r => by cases r; exact .nil⟩
  | p :: kvs, es, kv, h => by
    simp only [List.map_cons, renDs] at h
    cases q : renD L p.2 with
    | none => rw [q] at h; cases h
    | some e =>
      rw [q] at h
      cases q2 : renDs L (kvs.map (·.2)) with
      | none => rw [q2] at h; cases h
      | some es' =>
        rw [q2] at h; cases h
        simp only [List.map_cons, List.zip_cons_cons]
        refine ⟨fun r => ?_, fun r => ?_⟩
        · cases r with
          | cons a t => exact .cons ⟨a.1, (ren_rd w q).mp a.2⟩ ((paired_kv w q2).mp t)
        · cases r with
          | cons a t => exact .cons ⟨a.1, (ren_rd w q).mpr a.2⟩ ((paired_kv w q2).mpr t)
theorem ren_ob {L : List Nat} (w : Ren L μ μ') {a : Addr} {o o' : Ob} (h : renO L o = some o') : (ObR K mg μ H a o ↔ ObR K mg μ' H a o') ∧ o.mut = true ∧ o'.mut = true := by
  cases o with
  | lst ds =>
    simp only [renO] at h
    cases q : renDs L ds with
    | none => rw [q] at h; cases h
    | some es =>
      rw [q] at h; cases h
      exact ⟨⟨fun ⟨xs, e, r⟩ => ⟨xs, e, (ren_rds w q).mp r⟩, fun ⟨xs, e, r⟩ => ⟨xs, e, (ren_rds w q).mpr r⟩⟩, rfl, rfl⟩
  | dK kvs =>
    simp only [renO] at h
    cases q : renDs L (kvs.map (·.2)) with
    | none => rw [q] at h; cases h
    | some es =>
      rw [q] at h; cases h
      exact ⟨⟨fun ⟨kv, e, r⟩ => ⟨kv, e, (paired_kv w q).mp r⟩, fun ⟨kv, e, r⟩ => ⟨kv, e, (paired_kv w q).mpr r⟩⟩, rfl, rfl⟩
  | ins c fs =>
    simp only [renO] at h
    cases q : renDs L (fs.map (·.2)) with
    | none => rw [q] at h; cases h
    | some es =>
      rw [q] at h; cases h
      exact ⟨⟨fun ⟨C, dx, fv, e0, e, r⟩ => ⟨C, dx, fv, e0, e, (paired_kv w q).mp r⟩, fun ⟨C, dx, fv, e0, e, r⟩ => ⟨C, dx, fv, e0, e, (paired_kv w q).mpr r⟩⟩, rfl, rfl⟩
  | frz ds => cases h
  | hid => cases h
theorem ixOf_get {k : Nat} : ∀ {L : List Nat} {i : Nat}, ixOf k L = some i → 0 < i ∧ L[i - 1]? = some k
  | [], i, h => by cases h
  | j :: js, i, h => by
    simp only [ixOf] at h
    split at h
    · rename_i hb
      cases h
      have := Nat.eq_of_beq_eq_true hb
      subst this
      exact ⟨by omega, rfl⟩
    · cases q : ixOf k js with
      | none => rw [q] at h; cases h
      | some m =>
        rw [q] at h; cases h
        obtain ⟨h1, h2⟩ := ixOf_get q
        refine ⟨by omega, ?_⟩
        have e : m + 1 - 1 = (m - 1) + 1 := by omega
        rw [e, List.getElem?_cons_succ]; exact h2
theorem nodup_of : ∀ {L : List Nat}, nodupB L = true → L.Nodup
  | [], _ => .nil
  | k :: ks, h => by
    simp only [nodupB, Bool.and_eq_true, Bool.not_eq_true'] at h
    exact List.nodup_cons.mpr ⟨fun m => (by have := List.contains_iff_mem.mpr m; rw [h.1] at this; cases this), nodup_of h.2⟩
/-- the objects, renamed -/
theorem renS_get {L : List Nat} {S : Sto} : ∀ {ks : List Nat} {os : List Ob}, renS L S ks = some os → os.length = ks.length ∧ ∀ (j : Nat) k, ks[j]? = some k → ∃ o o', S[k]? = some o ∧ renO L o = some o' ∧ os[j]? = some o'
  | [], os, h => by cases h; exact ⟨rfl, fun j k e => by simp at e⟩
  | k :: ks, os, h => by
    simp only [renS] at h
    cases q : S[k]? with
    | none => rw [q] at h; cases h
    | some o =>
      simp only [q] at h
      cases q1 : renO L o with
      | none => rw [q1] at h; cases h
      | some o' =>
        simp only [q1] at h
        cases q2 : renS L S ks with
        | none => rw [q2] at h; cases h
        | some os' =>
          rw [q2] at h; cases h
          obtain ⟨h1, h2⟩ := renS_get q2
          refine ⟨by simp [h1], fun j k' e => ?_⟩
          cases j with
          | zero => simp at e; subst e; exact ⟨o, o', q, q1, rfl⟩
          | succ j => exact h2 j k' (by simpa using e)
/-- the store that the callee sees -/
theorem pure_sim {S : Sto} {L : List Nat} {os : List Ob} (h : Sim K mg μ S H) (hn : L.Nodup) (h0 : ∀ k ∈ L, 0 < k) (e : renS L S L = some os) :
    ∃ μ', μ'.length = L.length + 1 ∧ Ren L μ μ' ∧ (∀ (j : Nat) k, L[j]? = some k → μ'[j + 1]? = μ[k]?) ∧ Sim K mg μ' (.hid :: os) H := by
  obtain ⟨hl, hg⟩ := renS_get e
  have hk : ∀ k ∈ L, k < μ.length := fun k m => by
    obtain ⟨j, hj⟩ := List.mem_iff_getElem?.mp m
    obtain ⟨o, o', h1, _, _⟩ := hg j k hj
    rw [h.len]
    exact (List.getElem?_eq_some_iff.mp h1).1
  have hne : 0 < μ.length := by rw [h.len]; exact h.ne
  refine ⟨μ[0] :: L.map (fun k => μ.getD k 0), by simp, ?_, ?_, ?_⟩
  · intro n i q a
    obtain ⟨i0, hi⟩ := ixOf_get q
    have e1 : i = (i - 1) + 1 := by omega
    rw [e1, List.getElem?_cons_succ, List.getElem?_map, hi]
    have hnl := hk n (List.mem_of_getElem? hi)
    simp [List.getD, hnl]
  · intro j k q
    rw [List.getElem?_cons_succ, List.getElem?_map, q]
    have hnl := hk k (List.mem_of_getElem? q)
    simp [List.getD, hnl]
  · have w : Ren L μ (μ[0] :: L.map (fun k => μ.getD k 0)) := by
      intro n i q a
      obtain ⟨i0, hi⟩ := ixOf_get q
      have e1 : i = (i - 1) + 1 := by omega
      rw [e1, List.getElem?_cons_succ, List.getElem?_map, hi]
      have hnl := hk n (List.mem_of_getElem? hi)
      simp [List.getD, hnl]
    have look : ∀ (n : Nat) o', (Ob.hid :: os)[n + 1]? = some o' → ∃ k o, L[n]? = some k ∧ S[k]? = some o ∧ renO L o = some o' := fun n o' q => by
      rw [List.getElem?_cons_succ] at q
      have hnl := (List.getElem?_eq_some_iff.mp q).1
      rw [hl] at hnl
      obtain ⟨o, o2, h1, h2, h3⟩ := hg n L[n] (List.getElem?_eq_getElem hnl)
      rw [q] at h3; cases h3
      exact ⟨L[n], o, List.getElem?_eq_getElem hnl, h1, h2⟩
    have addr : ∀ (n k : Nat) a, L[n]? = some k → (μ[0] :: L.map (fun k => μ.getD k 0))[n + 1]? = some a → μ[k]? = some a := fun n k a q q2 => by
      rw [List.getElem?_cons_succ, List.getElem?_map, q] at q2
      have hnl := hk k (List.mem_of_getElem? q)
      simpa [List.getD, hnl] using q2
    refine ⟨by simp [hl], by simp, fun n o' q => ?_, fun n o' a q1 q2 => ?_, fun m n om on a q1 q2 m1 m2 q3 q4 => ?_⟩
    · cases n with
      | zero => simp at q; subst q; rfl
      | succ n =>
        obtain ⟨k, o, _, _, h2⟩ := look n o' q
        rw [(ren_ob (K := K) (mg := mg) (H := H) (a := 0) w h2).2.2]; simp
    · cases n with
      | zero => simp at q1; subst q1; trivial
      | succ n =>
        obtain ⟨k, o, e1, e2, e3⟩ := look n o' q1
        exact (ren_ob w e3).1.mp (h.ob k o a e2 (addr n k a e1 q2))
    · cases m with
      | zero => simp at q1; subst q1; cases m1
      | succ m =>
        cases n with
        | zero => simp at q2; subst q2; cases m2
        | succ n =>
          obtain ⟨k, o, e1, e2, e3⟩ := look m om q1
          obtain ⟨k', o', f1, f2, f3⟩ := look n on q2
          have hm := (ren_ob (K := K) (mg := mg) (H := H) (a := 0) w e3).2.1
          have hm' := (ren_ob (K := K) (mg := mg) (H := H) (a := 0) w f3).2.1
          have := h.inj k k' o o' a e2 f2 hm hm' (addr m k a e1 q3) (addr n k' a f1 q4)
          subst this
          have hml := (List.getElem?_eq_some_iff.mp e1).1
          have := (List.getElem?_inj hml hn).mp (e1.trans f1.symm)
          rw [this]
/-- back from it -/
theorem pure_back {S S2 : Sto} {L : List Nat} {os : List Ob} {μ2 : List Addr} {H2 : Hp} (h : Sim K mg μ S H) (h0 : ∀ k ∈ L, 0 < k) (e : renS L S L = some os) (w : Ren L μ μ')
    (wa : ∀ (j : Nat) k, L[j]? = some k → μ'[j + 1]? = μ[k]?) (hl' : μ'.length = L.length + 1) (x : Ext μ' H μ2 H2) (h2 : Sim K mg μ2 S2 H2) (hs : S2.take (os.length + 1) = .hid :: os) : Ext μ H μ H2 ∧ Sim K mg μ S H2 := by
  obtain ⟨hl, hg⟩ := renS_get e
  have inm : ∀ a, InM μ' a → ∃ n k, L[n]? = some k ∧ μ[k]? = some a := fun a ⟨n, hn, q⟩ => by
    obtain ⟨m, rfl⟩ : ∃ m, n = m + 1 := ⟨n - 1, by omega⟩
    have hml := (List.getElem?_eq_some_iff.mp q).1
    have hm : m < L.length := by omega
    exact ⟨m, L[m], List.getElem?_eq_getElem hm, by rw [← wa m L[m] (List.getElem?_eq_getElem hm)]; exact q⟩
  have xe : Ext μ H μ H2 := ⟨⟨⟨[], by simp⟩, x.tup, x.frz⟩, fun a u q n => x.out a u q fun m => by
    obtain ⟨n', k, q1, q2⟩ := inm a m
    exact n ⟨k, h0 k (List.mem_of_getElem? q1), q2⟩, fun _ m n => absurd m n⟩
  refine ⟨xe, h.len, h.ne, h.mutI, fun n o a q1 q2 => ?_, h.inj⟩
  by_cases hm : o.mut = true
  · by_cases hin : n ∈ L
    · obtain ⟨j, hj⟩ := List.mem_iff_getElem?.mp hin
      obtain ⟨o1, o', e1, e2, e3⟩ := hg j n hj
      rw [q1] at e1; cases e1
      have e4 : S2[j + 1]? = some o' := by
        have hjl : j < os.length := (List.getElem?_eq_some_iff.mp e3).1
        have := List.getElem?_take_of_lt (l := S2) (show j + 1 < os.length + 1 by omega)
        rw [← this, hs, List.getElem?_cons_succ]; exact e3
      have e5 : μ2[j + 1]? = some a := x.toExt0.at (by rw [wa j n hj]; exact q2)
      have w2 : Ren L μ μ2 := fun n' i q a' => by
        obtain ⟨i0, hi⟩ := ixOf_get q
        have hil := (List.getElem?_eq_some_iff.mp hi).1
        have hz : i < μ'.length := by omega
        obtain ⟨ν, ev⟩ := x.toExt0.pre
        rw [w n' i q a', ev, List.getElem?_append_left hz]
      exact (ren_ob w2 e2).1.mpr (h2.ob (j + 1) o' a e4 e5)
    · have hn : ¬ InM μ' a := fun m => by
        obtain ⟨j, k, e1, e2⟩ := inm a m
        obtain ⟨o1, o', f1, f2, _⟩ := hg j k e1
        have := h.inj n k o o1 a q1 f1 hm (ren_ob (K := K) (mg := mg) (H := H) (a := 0) w f2).2.1 q2 e2
        exact hin (this ▸ List.mem_of_getElem? e1)
      refine (h.ob n o a q1 q2).ext0 xe.toExt0 fun _ => ?_
      obtain ⟨u, hu⟩ := (h.ob n o a q1 q2).there hm
      rw [hu, x.out a u hu hn]
  · exact (h.ob n o a q1 q2).ext0 xe.toExt0 fun z => absurd z hm
end
section
variable {P : Program} {w : World} {K : PySem.W.Frag} {mg : Str → Option Value} {base : Heap} {k : Nat}
theorem fnD_pure {f : Addr} {fd : FuncData} {ps : List Str} {g : List D → Sto → R D} (F : FnD P w K mg base k f fd ps g) : FnD P w K mg base k f fd ps (pureC g) := by
  refine ⟨fun A outer s H args us vs ds μ S Q E hA hr e0 hb r hl hS rd hp => ?_⟩
  unfold pureC at hp
  dsimp only at hp
  generalize reach 10000 S (refsDs ds) [] = L at hp
  split at hp
  · rename_i hc
    simp only [Bool.and_eq_true, List.all_eq_true] at hc
    have hn := nodup_of hc.1
    have h0 : ∀ k ∈ L, 0 < k := fun k m => Nat.blt_eq.mp (hc.2 k m)
    split at hp
    · rename_i os eo
      split at hp
      · rename_i es ee
        obtain ⟨μ', ml, w', wa, hS'⟩ := pure_sim hS hn h0 eo
        refine F.run A outer s H args us vs es μ' (.hid :: os) Q E hA hr e0 hb r (by rw [← renDs_len ee]; exact hl) hS' ((ren_rds w' ee).mp rd) ?_
        cases eg : g es (.hid :: os) with
        | ok rr S2 =>
          rw [eg] at hp
          dsimp only at hp
          split at hp
          · rename_i hh
            intro μ2 H2 v x2 hS2 r2
            obtain ⟨x, hb'⟩ := pure_back hS h0 eo w' wa ml x2 hS2 hh.2
            exact hp μ H2 v x hb' (flat_rd hh.1 r2)
          · exact hp.elim
        | _ => rw [eg] at hp; exact hp.elim
      · exact hp.elim
    · exact hp.elim
  · exact hp.elim
end
end Cor
end
section
set_option linter.all false
set_option maxHeartbeats 1000000
namespace Cor
open PySem PySem.Spec PyProof.Rows L2
section
variable {P : Program} {w : World} {K : PySem.W.Frag} {mg : Str → Option Value} {base : Heap} {T : GT} {k : Nat}
theorem start_env {N : List Str} {μ : List Addr} {H : Hp} {ds : List D} {vs : List V} (r : RDs K mg μ H ds vs) : EnvR K mg μ H (startD N ds) (L2.start N vs) := by
  unfold startD L2.start
  have l := r.length
  refine ⟨by simp [l], fun i d e => ?_⟩
  by_cases hi : i < ds.length
  · rw [List.getElem?_append_left (by simpa using hi), List.getElem?_map] at e
    cases q : ds[i]? with
    | none => rw [q] at e; cases e
    | some d' =>
      rw [q] at e; cases e
      obtain ⟨v, hv, rv⟩ := r.get q
      refine ⟨v, ?_, rv⟩
      rw [List.getElem?_append_left (by simp; omega), List.getElem?_map, hv]
      rfl
  · rw [List.getElem?_append_right (by simpa using hi), List.getElem?_replicate] at e
    split at e <;> cases e
/-- the context at a def's entry is one of ours -/
theorem xok_of {N ps : List Str} {qual : Str} {scope : Scope} {f : Addr} {cd : Value} {A : Around} {outer : List Env} {s : Shared} {H : Hp} {E : XK} (Sc : FnScope N ps scope) (hA : A.guards = some []) (rm : Room (k + 1) A)
    (tb : TabOk T K mg) (fo : FnsOk T P w K mg base k) (nd : ∀ x, x ∈ N → (x == ("__debug__" : Str)) = false ∧ (x == ("__classdict__" : Str)) = false) :
    XOk T ⟨N, scope.names, fun _ => true⟩ (cxOf (CX P w) P w K mg base N qual scope f cd A outer s H E) (fun cls dd _ h => E cls dd h) k where
  N := rfl
  nm := rfl
  nd := Sc.nd
  calm := rfl
  g := hA
  un := by
    have := rm.un
    show A.units + 3 + 200 < _
    omega
  tab := tb
  noDebug := nd
  fns := fo
  room := rm.deeper _
  takes := takes_of (E := E) (E₁ := fun e' s'' => CX P w outer H s E e' s'') rfl rfl rfl rfl
  own := passes_of (K := fun e s'' => CX P w outer H s E e s'') (E₁ := fun e' s'' => CX P w outer H s E e' s'') rfl
  kind := Sc.kind
  fx := fun _ _ => rfl
/-- a def of the text keeps what the evaluator says of its body -/
theorem fnD_of {f : Addr} {name qual : Str} {prm : Arguments} {body : List Stmt} {scope : Scope} {dvs : List V} {kws : List (Str × V)} {fd : FuncData} {N ps : List Str}
    (F : FunD K name qual prm body scope dvs kws f fd) (Sc : FnScope N ps scope) (tb : TabOk T K mg) (fo : FnsOk T P w K mg base k) (nd : ∀ x, x ∈ N → (x == ("__debug__" : Str)) = false ∧ (x == ("__classdict__" : Str)) = false) :
    FnD P w K mg base (k + 1) f fd ps (evF T N scope.names body) := by
  obtain ⟨oc, od, dV, kV, doc, pm, an, cdv, ct, osl, rfl, lk, hcd, _, _⟩ := F.ex
  refine ⟨fun A outer s H args us vs ds μ S Q E hA hr e0 hb r hl hS rd hp => ?_⟩
  have inK : K.In s.heap := e0.mod.kin.keeps fun b o e => (e0.bs b o e).1
  have free : s.heap.NoLimit := e0.mod.nolimit.keeps fun b o e => (e0.bs b o e).1
  have names : ∀ y ∈ ps.zip us, scope.names.lookup y.1 = some .local ∨ (scope.names.lookup y.1 = some .cell ∧ ((cellsFrom (s.heap.objs.size + 1) scope.names []).lookup y.1).isSome = true) := by
    rintro ⟨x, v⟩ hy
    rcases Sc.par x (List.of_mem_zip hy).1 with q | q
    · exact .inl q
    · exact .inr ⟨q, PySem.W.cellsFrom_some _ _ _ (.inl q)⟩
  refine codeAny_call_function hr.depth (inK _ _ lk) rfl Sc.co Sc.gen rfl (PySem.W.codeRec_of inK hcd) (hb _ _ _ _ (wpAny_newFunctionEnv_cells Sc.kind names fun env he s1 x => ?_))
  subst he
  refine ⟨free.keeps x.toInCall.keep, codeAny_func ?_⟩
  have lv : vs.length = ps.length := by rw [← rd.length]; exact hl
  have I0 := inv_start (CX := CX P w) (P := P) (w := w) (E := E) Sc hr.hd e0 lv r x
  have O := xok_of (T := T) (P := P) (w := w) (qual := qual) (f := f) (cd := cdv) (outer := outer) (s := s) (H := H) (E := E) Sc hA hr tb fo nd
  unfold evF at hp
  generalize fuel = m at hp
  have go := (sts_D (fun st => all_S O m st) body).run [] s1 (L2.start N vs) H { nx := fun _ H' => Q .non H', rt := Q } I0 ⟨μ, startD N ds, S, hS, start_env rd, by
    cases e : evSs (evS T m ⟨N, scope.names, fun _ => true⟩) body (startD N ds) S with
    | nx env1 S1 =>
      rw [e] at hp
      exact fun μ1 H1 σ1 x1 hS1 _ => hp μ1 H1 .non x1 hS1 rd_non
    | rt d S1 =>
      rw [e] at hp
      exact hp
    | ex c fs env1 S1 =>
      rw [e] at hp
      exact fun μ1 H1 σ1 cls dd x1 hS1 _ rx => hp μ1 H1 cls dd x1 hS1 rx
    | bk _ _ => rw [e] at hp; exact hp.elim
    | ct _ _ => rw [e] at hp; exact hp.elim
    | no => rw [e] at hp; exact hp.elim⟩
  refine wpAny_mono go (fun fl s2 hs => ?_) fun e s2 hs => hs
  have back : ∀ (v : V) (u : Value) (τ : L2.St) (H2 : Hp), Inv (cxOf (CX P w) P w K mg base N qual scope f cdv A outer s H E) [] τ H2 s2 → RelV v u → Q v H2 → CE outer P w H s Q u s2 := fun v u τ H2 J rv q =>
    ⟨v, H2, J.os, J.bare, J.base, J.hok, rv, q⟩
  cases fl with
  | ret u =>
    obtain ⟨v, τ, H2, J, rv, q⟩ := hs
    exact back v u τ H2 J rv q
  | next =>
    obtain ⟨τ, H2, J, q⟩ := hs
    exact back .non .none τ H2 J rfl q
  | brk => exact hs.elim fun _ hs => hs.elim fun _ hs => hs.2.elim
  | cont => exact hs.elim fun _ hs => hs.elim fun _ hs => hs.2.elim
/-- fewer rooms -/
theorem FnD.mono {j : Nat} {f : Addr} {fd : FuncData} {ps : List Str} {g : List D → Sto → R D} (F : FnD P w K mg base j f fd ps g) (h : j ≤ k) : FnD P w K mg base k f fd ps g :=
  ⟨fun A outer s H args us vs ds μ S Q E hA hr => F.run A outer s H args us vs ds μ S Q E hA (hr.mono h)⟩
/-- nothing is said -/
theorem fnD_no {f : Addr} {fd : FuncData} {ps : List Str} {g : List D → Sto → R D} (h : ∀ ds S, ds.length = ps.length → g ds S = .no) : FnD P w K mg base k f fd ps g :=
  ⟨fun A outer s H args us vs ds μ S Q E _ _ _ _ _ hl _ _ hp => by rw [h ds S hl] at hp; exact hp.elim⟩
end
/-- what is known of the table's defs in a fragment -/
structure DefsOk (defs : List DefI) (kb : Str → Nat → List Str → Bool) (K : PySem.W.Frag) (mg : Str → Option Value) : Prop where
  at_ : ∀ f d, findD f defs = some d → ∃ a fd, mg f = some (.ref a) ∧ FunD K f f (stArgs d.st) (stBody d.st) (stScope d.st) [] [] a fd ∧ FnScope d.N ((stArgs d.st).args.map (·.arg)) (stScope d.st) ∧
    (∀ x, x ∈ d.N → (x == ("__debug__" : Str)) = false ∧ (x == ("__classdict__" : Str)) = false) ∧ Binds K fd ((stArgs d.st).args.map (·.arg)) [] ∧
    ∀ n ks, kb f n ks = true → ∀ (s : Shared) (us ws r : List Value), K.In s.heap → us.length = n → ws.length = ks.length → placeK ((stArgs d.st).args.map (·.arg)) us (ks.zip ws) = some r → BindsTo s fd ⟨us, ks.zip ws⟩ (((stArgs d.st).args.map (·.arg)).zip r)
theorem tab_ok {defs : List DefI} {gl : Str → Option D} {kb : Str → Nat → List Str → Bool} {wf : Nat} {pu : Str → Bool} {P : Program} {w : World} {K : PySem.W.Frag} {mg : Str → Option Value} {base : Heap} (B : DefsOk defs kb K mg) (tb : ∀ n, TabOk (tab defs gl kb wf pu n) K mg) :
    ∀ n, FnsOk (tab defs gl kb wf pu n) P w K mg base n
  | 0 => ⟨fun f ps h => by
    have h' : (findD f defs).map (fun d => (stArgs d.st).args.map (·.arg)) = some ps := h
    cases e : findD f defs with
    | none => rw [e] at h'; cases h'
    | some d =>
      rw [e] at h'; cases h'
      obtain ⟨a, fd, h1, h2, h3, h4, h5, h6⟩ := B.at_ f d e
      exact ⟨a, fd, h1, h2.kp, fnD_no fun _ _ _ => rfl, h5, h6⟩⟩
  | n + 1 => ⟨fun f ps h => by
    have ih := tab_ok (P := P) (w := w) (base := base) B tb n
    have h' : (findD f defs).map (fun d => (stArgs d.st).args.map (·.arg)) = some ps := h
    cases e : findD f defs with
    | none => rw [e] at h'; cases h'
    | some d =>
      rw [e] at h'; cases h'
      obtain ⟨a, fd, h1, h2, h3, h4, h5, h6⟩ := B.at_ f d e
      refine ⟨a, fd, h1, h2.kp, ?_, h5, h6⟩
      have F := fnD_of (P := P) (w := w) (base := base) h2 h3 (tb n) ih h4
      have F' : FnD P w K mg base (n + 1) a fd ((stArgs d.st).args.map (·.arg)) (if pu f then pureC (evF (tab defs gl kb wf pu n) d.N (stScope d.st).names (stBody d.st)) else evF (tab defs gl kb wf pu n) d.N (stScope d.st).names (stBody d.st)) := by
        split
        · exact fnD_pure F
        · exact F
      refine ⟨fun A outer s H args us vs ds μ S Q E hA hr e0 hb r hl hS rd hp => F'.run A outer s H args us vs ds μ S Q E hA hr e0 hb r hl hS rd ?_⟩
      have e2 : (tab defs gl kb wf pu (n + 1)).fn f ds S = (if pu f then pureC (evF (tab defs gl kb wf pu n) d.N (stScope d.st).names (stBody d.st)) else evF (tab defs gl kb wf pu n) d.N (stScope d.st).names (stBody d.st)) ds S := by
        show (match findD f defs with
          | some d => if ds.length = (stArgs d.st).args.length then (if pu f then pureC (evF (tab defs gl kb wf pu n) d.N (stScope d.st).names (stBody d.st)) ds S else evF (tab defs gl kb wf pu n) d.N (stScope d.st).names (stBody d.st) ds S) else .no
          | none => .no) = _
        rw [e]
        dsimp only
        rw [if_pos (by simpa using hl)]
        split <;> rfl
      rw [← e2]
      exact hp⟩
end Cor
end
section
set_option linter.all false
set_option maxHeartbeats 1000000
namespace Cor
open PySem PySem.Spec PyProof.Rows L2
theorem rds_ints {K : PySem.W.Frag} {mg : Str → Option Value} {μ : List Addr} {H : Hp} : ∀ ns : List Int, RDs K mg μ H (ns.map D.int) (ns.map V.int)
  | [] => rds_nil
  | n :: ns => rds_cons rd_int (rds_ints ns)
theorem sim_script {K : PySem.W.Frag} {mg : Str → Option Value} {H : Hp} {a : Addr} {ns : List Int} (h : (∃ o, H a = some (.frz o (.lst (ns.map V.int)))) ∨ ∀ H' : Hp, SqL K H' a (ns.map V.int)) : Sim K mg [a] [.frz (ns.map D.int)] H where
  len := rfl
  ne := Nat.zero_lt_one
  mutI := fun n o e => by
    match n, e with
    | 0, e => cases e; rfl
    | n + 1, e => simp at e
  ob := fun n o b e eb => by
    match n, e, eb with
    | 0, e, eb => cases e; cases eb; exact ⟨_, rds_ints ns, h⟩
    | n + 1, e, _ => simp at e
  inj := fun m n om on b e1 _ m1 _ _ _ => by
    match m, e1 with
    | 0, e => cases e; cases m1
    | m + 1, e => simp at e
theorem law_D {P : Program} {w : World} {K : PySem.W.Frag} {mg mb : Str → Option Value} {k : Nat} {fa a : Addr} {x : Str} {g : List D → Sto → R D} {s : Shared} {vs : List Value} {ns : List Int} {Sf : Sto}
    (inK : K.In s.heap) (nm : s.heap.Ns mainGlobals mg) (nb : s.heap.Ns builtinsNs mb) (eb : ∀ y : Str, y ≠ "__name__" → mb y = bootBuiltins y) (free : s.heap.NoLimit) (hg : s.gens = #[])
    (ha : s.heap.get? a = some { cls := .type "list", data := .seq vs.toArray }) (hi : IntsAre vs ns) (hl : ns.length ≤ sizeLine) (rm : Room k callerA)
    (F : ∀ base : Heap, K.In base → base.Ns mainGlobals mg → ∃ fd : FuncData, Binds K fd [x] [] ∧ FnD P w K mg base k fa fd [x] g)
    (hv : g [.ref 0] [.frz (ns.map .int)] = .ok (.bl true) Sf) :
    codeAny (model P w) callerA (.call (.ref fa) ⟨[.ref a], []⟩) (fun r s' => r = .ok (.ret (.bool true)) ∧ OldK s.heap s'.heap ∧ s'.os = s.os ∧ AllBare s'.gens) s := by
  have rv := vals_ints hi
  have run : ∀ H : Hp, (∀ b, H b = none ∨ (b = a ∧ ∃ o, H b = some (.frz o (.lst (ns.map V.int))))) → ((∃ o, H a = some (.frz o (.lst (ns.map V.int)))) ∨ ∀ H' : Hp, SqL K H' a (ns.map V.int)) → HOk P w H s.heap → (H a ≠ none → K.lookup a = none) →
      codeAny (model P w) callerA (.call (.ref fa) ⟨[.ref a], []⟩) (fun r s' => r = .ok (.ret (.bool true)) ∧ OldK s.heap s'.heap ∧ s'.os = s.os ∧ AllBare s'.gens) s := by
    intro H hH hS hok hK
    have dictN : ∀ {b : Addr} {o : Obj} {es : Array DictEntry} {ep : Nat}, s.heap.get? b = some o → o.data = .dict es ep → H b = none := by
      intro b o es ep e1 e2
      rcases hH b with z | ⟨rfl, _⟩
      · exact z
      · rw [ha] at e1
        cases e1
        cases (show Data.seq vs.toArray _ = Data.dict es ep from e2)
    have keepN : ∀ {b : Addr} {m : Str → Option Value}, s.heap.Ns b m → (hidT s.heap H).Ns b m := by
      rintro b m ⟨o, es, ep, e1, e2, e3⟩
      exact ⟨o, es, ep, hidT_get e1 (dictN e1 e2), e2, e3⟩
    have inB : K.In (hidT s.heap H) := fun b o e => hidT_get (inK b o e) (by
      rcases hH b with z | ⟨rfl, o', z⟩
      · exact z
      · rw [hK (by rw [z]; simp)] at e
        cases e)
    have md : Mod K mg (hidT s.heap H) := ⟨inB, keepN nm, ⟨mb, keepN nb, eb⟩, free.elim fun mc q => ⟨mc, keepN q.1, q.2⟩⟩
    have e0 : Env0 P w K mg (hidT s.heap H) callerA [] s H := ⟨rfl, md, fun _ _ e => of_hidT e, Nat.le_of_eq (hidT_size _ _), trivial, fun _ z => (nomatch z), hok, .of_eq hg⟩
    obtain ⟨fd, hb, hF⟩ := F _ inB (keepN nm)
    refine codeAny_mono (hF.run callerA [] s H ⟨[.ref a], []⟩ [.ref a] [.ref a] [.ref 0] [a] [.frz (ns.map .int)] (fun v _ => v = .bl true) (fun _ _ _ => False) rfl rm e0 (hb s [.ref a] inK rfl) (.cons rfl .nil) rfl (sim_script hS)
      (rds_cons (by simp only [RD]; exact ⟨a, rfl, rfl⟩) rds_nil) (by rw [hv]; intro _ _ v _ _ r; simpa only [RD] using r)) fun r s' h => ?_
    have fin : ∀ u, CE [] P w H s (fun v _ => v = .bl true) u s' → (.ok (.ret u) : Result) = .ok (.ret (.bool true)) ∧ OldK s.heap s'.heap ∧ s'.os = s.os ∧ AllBare s'.gens := by
      rintro u ⟨v, H', os, bare, un, ok', rel, q⟩
      have q' : v = .bl true := q
      subst q'
      cases (show u = Value.bool true from rel)
      refine ⟨rfl, OldK.of_keep fun b o e => ?_, os, bare⟩
      rcases hH b with z | ⟨rfl, o', z⟩
      · exact un.keep b o e z (fun m => nomatch m) (fun m => nomatch m)
      · obtain ⟨e1, _⟩ := hok b _ z
        obtain ⟨e2, _⟩ := ok' b _ (un.frzs b o' _ z)
        rw [e] at e1
        cases e1
        exact e2
    cases r with
    | error e =>
      obtain ⟨_, _, _, _, _, _, _, _, _, _, _, _, no⟩ := h
      exact no.elim
    | ok fl =>
      cases fl with
      | ret u => exact fin u h
      | next => exact h.elim
      | brk => exact h.elim
      | cont => exact h.elim
  cases hk : K.lookup a with
  | some o =>
    have e := inK a o hk
    rw [ha] at e
    cases e
    exact run (fun _ => none) (fun _ => .inl rfl) (.inr fun H' => .inr ⟨_, vs.toArray, _, hk, rfl, rfl, rfl, by rw [List.size_toArray, hi.length]; exact hl, by simpa using rv⟩) (fun b u z => nomatch (show (none : Option HO) = some u from z)) fun z => absurd rfl z
  | none =>
    refine run (fun b => if b = a then some (.frz { cls := .type "list", data := .seq vs.toArray } (.lst (ns.map V.int))) else none) (fun b => ?_) (.inl ⟨{ cls := .type "list", data := .seq vs.toArray }, if_pos rfl⟩) (fun b u z => ?_) fun _ => hk
    · by_cases hba : b = a
      · exact .inr ⟨hba, _, if_pos hba⟩
      · exact .inl (if_neg hba)
    · by_cases hba : b = a
      · cases (if_pos hba).symm.trans z
        subst hba
        exact ⟨ha, by rw [List.length_map]; exact hl, vs, _, rv, ha⟩
      · cases (if_neg hba).symm.trans z
/-- a law: at each script the table's law tells True -/
theorem walk_D {l : PySem.W.OpenLaw} {n k : Nat} {q : Program} {loose : List Str} {XP : (Str → Option Value) → Heap → Prop} {YP : World → Heap → Prop} {d : DefRec} {x : Str} {g : List D → Sto → R D}
    (hn : l.most = some n) (hn2 : n ≤ sizeLine) (hd : d.params.defaults = []) (rm : Room k callerA)
    (F : ∀ (w : World) (mg : Str → Option Value) (fa : Addr) (h : Heap), YP w h → h.Ns mainGlobals mg → mg d.name = some (.ref fa) →
      ∃ K : PySem.W.Frag, K.In h ∧ ∀ base : Heap, K.In base → base.Ns mainGlobals mg → ∃ fd : FuncData, Binds K fd [x] [] ∧ FnD l.prog w K mg base k fa fd [x] g)
    (hv : ∀ ns : List Int, ns.length ≤ n → (∀ z ∈ ns, Builtin.Int.intBits z ≤ 1048576) → ∃ Sf, g [.ref 0] [.frz (ns.map .int)] = .ok (.bl true) Sf) :
    PySem.W.WalkO q loose XP YP l.row.toRowW d [] (fun f vs => PySem.call f vs) := by
  refine Att.attach_callB hn hd fun w s0 s1 mg mb fa o pm cd doc a vs ns G Y _ _ _ hmg hobj hints hlen hbits hgn => ?_
  obtain ⟨K, inK, hF⟩ := F w mg fa _ Y G.T.g hmg
  obtain ⟨Sf, e⟩ := hv ns hlen hbits
  exact law_D inK G.T.g G.T.b G.T.builtins G.T.nolimit hgn hobj hints (Nat.le_trans hlen hn2) rm hF e
end Cor
end
section
set_option linter.all false
set_option maxHeartbeats 1000000
namespace Cor
open PySem PySem.Spec PyProof.Rows L2
/-- a module's constant -/
def rdB (K : PySem.W.Frag) : Nat → D → Value → Bool
  | 0, _, _ => false
  | n + 1, d, u => match d, u with
    | .non, .none => true
    | .bl a, .bool b => a == b
    | .int i, .int j _ => decide (i = j)
    | .str x, .str y _ => decide (x = y)
    | .ty n, .type m => decide (n.nm = m)
    | .tup ds, .ref a => (match K.lookup a with
      | some ⟨.type c, _, .seq its _, _⟩ => decide (c = "tuple") && (decide (its.size ≤ sizeLine) && all2 (rdB K n) ds its.toList)
      | _ => false)
    | .glob f, .ref a => decide (PySem.W.nsIn K mainGlobals f = some (some (.ref a)))
    | _, _ => false
where all2 (f : D → Value → Bool) : List D → List Value → Bool
  | [], [] => true
  | d :: ds, u :: us => f d u && all2 f ds us
  | _, _ => false
theorem rdB_ok {K : PySem.W.Frag} {h : Heap} {mg : Str → Option Value} (X : K.In h) (G : h.Ns mainGlobals mg) : ∀ (n : Nat) (d : D) (u : Value), rdB K n d u = true → ∃ v, RelV v u ∧ ∀ μ H, RD K mg μ H d v
  | 0, d, u, e => by cases e
  | n + 1, d, u, e => by
    cases d with
    | non => cases u with
      | none => exact ⟨.non, rfl, fun _ _ => rd_non⟩
      | _ => cases e
    | bl a => cases u with
      | bool b =>
        have e' : (a == b) = true := e
        cases (beq_iff_eq.mp e')
        exact ⟨.bl a, rfl, fun _ _ => rd_bl⟩
      | _ => cases e
    | int i => cases u with
      | int j t =>
        cases (of_decide_eq_true (show decide (i = j) = true from e))
        exact ⟨.int i, ⟨t, rfl⟩, fun _ _ => rd_int⟩
      | _ => cases e
    | str x => cases u with
      | str y t =>
        cases (of_decide_eq_true (show decide (x = y) = true from e))
        exact ⟨.str x, ⟨t, rfl⟩, fun _ _ => rd_str⟩
      | _ => cases e
    | ty n => cases u with
      | type m =>
        cases (of_decide_eq_true (show decide (n.nm = m) = true from e))
        exact ⟨.ty n.nm, rfl, fun _ _ => by simp only [RD]⟩
      | _ => cases e
    | glob f => cases u with
      | ref a =>
        have e' := of_decide_eq_true (show decide (PySem.W.nsIn K mainGlobals f = some (some (.ref a))) = true from e)
        exact ⟨.ref a, rfl, fun _ _ => by simp only [RD]; exact ⟨a, rfl, PySem.W.mg_of X G e'⟩⟩
      | _ => cases e
    | ref k => cases u <;> cases e
    | tup ds => cases u with
      | ref a =>
        have e' : (match K.lookup a with
          | some ⟨.type c, _, .seq its _, _⟩ => decide (c = "tuple") && (decide (its.size ≤ sizeLine) && rdB.all2 (rdB K n) ds its.toList)
          | _ => false) = true := e
        cases q : K.lookup a with
        | none => rw [q] at e'; cases e'
        | some o =>
          obtain ⟨oc, od, dt, osl⟩ := o
          rw [q] at e'
          cases oc with
          | type c => cases dt with
            | seq its m =>
              simp only [Bool.and_eq_true, decide_eq_true_eq] at e'
              obtain ⟨h1, h2, h3⟩ := e'
              have all : ∀ (ds : List D) (us : List Value), rdB.all2 (rdB K n) ds us = true → ∃ vs, Vals vs us ∧ ∀ μ H, RDs K mg μ H ds vs := by
                intro ds
                induction ds with
                | nil => intro us h; cases us with
                  | nil => exact ⟨[], .nil, fun _ _ => rds_nil⟩
                  | cons _ _ => cases h
                | cons d ds ih => intro us h; cases us with
                  | nil => cases h
                  | cons u us =>
                    obtain ⟨a1, a2⟩ := Bool.and_eq_true_iff.mp (show (rdB K n d u && rdB.all2 (rdB K n) ds us) = true from h)
                    obtain ⟨v, r1, r2⟩ := rdB_ok X G n d u a1
                    obtain ⟨vs, r3, r4⟩ := ih us a2
                    exact ⟨v :: vs, .cons r1 r3, fun μ H => rds_cons (r2 μ H) (r4 μ H)⟩
              obtain ⟨vs, r1, r2⟩ := all ds its.toList h3
              refine ⟨.ref a, rfl, fun μ H => ?_⟩
              simp only [RD]
              exact ⟨a, vs, rfl, .inr ⟨_, its, m, q, congrArg Value.type h1, rfl, h2, r1⟩, r2 μ H⟩
            | _ => cases e'
          | _ => cases dt <;> cases e'
      | _ => cases e
def glB (K : PySem.W.Frag) (gs : List (Str × D)) : Bool := gs.all fun p => match PySem.W.nsIn K mainGlobals p.1 with
  | some (some u) => rdB K 8 p.2 u
  | _ => false
/-- builtins' names that we call -/
def bnames : List Str := ["len", "isinstance", "all", "any", "int", "repr", "tuple", "list", "max", "min", "sorted", "bool", "str", "dict", "range"]
def frees (gs : List (Str × D)) : List He.Fa := (bnames.filter fun x => (gs.lookup x).isNone).map He.Fa.free
theorem bi_mem {x : Str} (h : (biOf x).isSome = true ∨ (btyOf x).isSome = true ∨ x = "range") : x ∈ bnames := by
  unfold bnames
  rcases h with h | h | h
  · unfold biOf at h
    repeat (split at h; · rename_i e; subst e; decide +kernel)
    cases h
  · unfold btyOf at h
    repeat (split at h; · rename_i e; subst e; decide +kernel)
    cases h
  · subst h; decide +kernel
theorem lookup_mem' {α : Type} : ∀ {l : List (Str × α)} {x : Str} {d : α}, l.lookup x = some d → (x, d) ∈ l
  | [], _, _, h => by simp at h
  | (y, e) :: l, x, d, h => by
    rw [List.lookup_cons] at h
    cases q : x == y with
    | true => rw [q] at h; cases h; rw [beq_iff_eq.mp q]; exact List.mem_cons_self
    | false => rw [q] at h; exact List.mem_cons_of_mem _ (lookup_mem' h)
theorem tabOk_of {T : GT} {K : PySem.W.Frag} {h : Heap} {mg : Str → Option Value} {gs : List (Str × D)} (X : K.In h) (G : h.Ns mainGlobals mg) (e : T.gl = fun x => gs.lookup x) (g1 : glB K gs = true) (g2 : ∀ f ∈ frees gs, f.ok K = true) (g3 : gs.lookup ("__debug__" : Str) = none) : TabOk T K mg where
  gl := fun x d hd => by
    rw [e] at hd
    have hm := lookup_mem' hd
    have g := List.all_eq_true.mp g1 _ hm
    dsimp only at g
    cases q : PySem.W.nsIn K mainGlobals x with
    | none => rw [q] at g; cases g
    | some o =>
      cases o with
      | none => rw [q] at g; cases g
      | some u =>
        rw [q] at g
        obtain ⟨v, r1, r2⟩ := rdB_ok X G 8 d u g
        exact ⟨u, v, PySem.W.mg_of X G q, r1, r2⟩
  bn := fun x hx hb => by
    rw [e] at hx
    have hx : gs.lookup x = none := hx
    have hm : He.Fa.free x ∈ frees gs := List.mem_map.mpr ⟨x, List.mem_filter.mpr ⟨bi_mem hb, by rw [hx]; rfl⟩, rfl⟩
    exact He.free_ok X G (g2 _ hm)
  db := by rw [e]; exact g3
/-- a def as the head's hook asks it -/
def defD (d : DefI) : He.DefD := ⟨(d.f, none), d.f, d.f, stArgs d.st, stBody d.st, stScope d.st, [], []⟩
/-- a def's scope, looked at -/
def scB (d : DefI) : Bool :=
  (match (stScope d.st).kind with | .function => true | _ => false) && !(stScope d.st).isCoroutine && !(stScope d.st).isGenerator && decide d.N.Nodup && decide (d.N.take ((stArgs d.st).args.map (·.arg)).length = (stArgs d.st).args.map (·.arg)) &&
  ((stArgs d.st).args.map (·.arg)).all (fun x => (stScope d.st).names.lookup x == some .local || (stScope d.st).names.lookup x == some .cell) && (stScope d.st).names.all (fun y => !(y.2 == .free)) &&
  d.N.all (fun x => !(x == ("__debug__" : Str)) && !(x == ("__classdict__" : Str)))
theorem scB_ok {d : DefI} (h : scB d = true) : FnScope d.N ((stArgs d.st).args.map (·.arg)) (stScope d.st) ∧ ∀ x, x ∈ d.N → (x == ("__debug__" : Str)) = false ∧ (x == ("__classdict__" : Str)) = false := by
  unfold scB at h
  simp only [Bool.and_eq_true, Bool.not_eq_true', decide_eq_true_eq, List.all_eq_true, Bool.or_eq_true, beq_iff_eq] at h
  obtain ⟨⟨⟨⟨⟨⟨⟨h1, h2⟩, h3⟩, h4⟩, h5⟩, h6⟩, h7⟩, h8⟩ := h
  refine ⟨⟨?_, h2, h3, h4, h5, h6, fun y hy e => ?_⟩, fun x hx => h8 x hx⟩
  · split at h1
    · assumption
    · cases h1
  · have := h7 y hy
    rw [e] at this
    cases this
/-- how the defs are bound: by places, by names -/
def BindP (d : DefI) : Prop := ∀ (kV doc pm : Value) (an : Option Addr) (cdv ct : Value) (us : List Value), us.length = ((stArgs d.st).args.map (·.arg)).length →
  bindArgs (PySem.W.fnOf d.f d.f (stArgs d.st) (stBody d.st) (stScope d.st) .none kV doc pm an cdv ct) ⟨us, []⟩ = pure (((stArgs d.st).args.map (·.arg)).zip us)
def BindK (d : DefI) (n : Nat) (ks : List Str) : Prop := ∀ (kV doc pm : Value) (an : Option Addr) (cdv ct : Value) (us ws r : List Value), us.length = n → ws.length = ks.length → placeK ((stArgs d.st).args.map (·.arg)) us (ks.zip ws) = some r →
  bindArgs (PySem.W.fnOf d.f d.f (stArgs d.st) (stBody d.st) (stScope d.st) .none kV doc pm an cdv ct) ⟨us, ks.zip ws⟩ = pure (((stArgs d.st).args.map (·.arg)).zip r)
abbrev KbL : Type := List (Str × Nat × List Str)
def kbOf (l : KbL) : Str → Nat → List Str → Bool := fun f n ks => decide ((f, n, ks) ∈ l)
theorem findD_mem {f : Str} {d : DefI} : ∀ {ds : List DefI}, findD f ds = some d → d ∈ ds ∧ d.f = f
  | [], h => by cases h
  | e :: ds, h => by
    unfold findD at h
    split at h
    · rename_i q; cases h; exact ⟨List.mem_cons_self, q⟩
    · obtain ⟨h1, h2⟩ := findD_mem h
      exact ⟨List.mem_cons_of_mem _ h1, h2⟩
/-- what the run of the top tells -/
def exB (gs : List (Str × D)) (K : PySem.W.Frag) : Bool := glB K gs
theorem defsOk_of {defs : List DefI} {kbl : KbL} {K : PySem.W.Frag} {h : Heap} {mg : Str → Option Value} {gs : List (Str × D)} (X : K.In h) (G : h.Ns mainGlobals mg) (c : ∀ d ∈ defs, ∃ fd, FunD K d.f d.f (stArgs d.st) (stBody d.st) (stScope d.st) [] [] (He.ga K d.f) fd)
    (g1 : glB K gs = true) (hg : ∀ d ∈ defs, gs.lookup d.f = some (.glob d.f)) (hs : ∀ d ∈ defs, scB d = true) (hb : ∀ d ∈ defs, BindP d) (hk : ∀ q ∈ kbl, ∀ d ∈ defs, d.f = q.1 → BindK d q.2.1 q.2.2) : DefsOk defs (kbOf kbl) K mg where
  at_ := fun f d e => by
    obtain ⟨hm, rfl⟩ := findD_mem e
    obtain ⟨fd, F⟩ := c d hm
    obtain ⟨s1, s2⟩ := scB_ok (hs d hm)
    have ea : mg d.f = some (.ref (He.ga K d.f)) := by
      have g := List.all_eq_true.mp g1 _ (lookup_mem' (hg d hm))
      dsimp only at g
      cases q : PySem.W.nsIn K mainGlobals d.f with
      | none => rw [q] at g; cases g
      | some o =>
        cases o with
        | none => rw [q] at g; cases g
        | some u =>
          rw [q] at g
          cases u with
          | ref a =>
            refine PySem.W.mg_of X G ?_
            unfold He.ga
            rw [q]
          | _ => cases g
    refine ⟨He.ga K d.f, fd, ea, F, s1, s2, fun s us _ hl => ?_, fun n ks hkb s us ws r _ l1 l2 hp => ?_⟩
    · rw [List.append_nil] at hl ⊢
      exact FunD.bindsA F (hb d hm) s us hl
    · have hq : (d.f, n, ks) ∈ kbl := of_decide_eq_true hkb
      have B := hk _ hq d hm rfl
      obtain ⟨oc, od, dV, kV, doc, pm, an, cdv, ct, osl, rfl, lk, hcd, hD, hK⟩ := F.ex
      rcases hD with ⟨_, rfl⟩ | ⟨e, _⟩
      · exact .of_eq (B kV doc pm an cdv ct us ws r l1 l2 hp)
      · exact absurd rfl e
end Cor
namespace Cor
open PySem PySem.Spec PyProof.Rows L2
theorem uniq_def {defs : List DefI} (h : (defs.map (·.f)).Nodup) : ∀ (g : Str) (d0 : DefI), findD g defs = some d0 → ∀ d ∈ defs, d.f = g → d = d0 := by
  induction defs with
  | nil => intro g d0 _ d hd; cases hd
  | cons e ds ih =>
    intro g d0 h0 d hd he
    simp only [List.map_cons, List.nodup_cons] at h
    unfold findD at h0
    rcases List.mem_cons.mp hd with rfl | hd
    · rw [if_pos he] at h0
      exact Option.some.inj h0
    · split at h0
      · rename_i q
        exact absurd (List.mem_map.mpr ⟨d, hd, by rw [he, q]⟩) h.1
      · exact ih h.2 g d0 h0 d hd he
/-- the law's def and all it calls, from what the head tells -/
theorem law_facts {defs : List DefI} {kbl : KbL} {gs : List (Str × D)} {d : DefI} {P : Program} {w : World} {h : Heap} {mg : Str → Option Value} {fa : Addr} {n wf : Nat} {pu : Str → Bool} {x : Str}
    (Y : (He.hookX 4 (frees gs) (defs.map defD) [] [] (exB gs)).says w h) (G : h.Ns mainGlobals mg) (hmg : mg ("law" : Str) = some (.ref fa)) (hs : ∀ d ∈ defs, scB d = true) (hg : ∀ d ∈ defs, gs.lookup d.f = some (.glob d.f)) (hb : ∀ d ∈ defs, BindP d) (hk : ∀ z ∈ kbl, ∀ d ∈ defs, d.f = z.1 → BindK d z.2.1 z.2.2)
    (hdb : gs.lookup ("__debug__" : Str) = none) (hl : findD ("law" : Str) defs = some d) (hp : (stArgs d.st).args.map (·.arg) = [x]) :
    ∃ K : PySem.W.Frag, K.In h ∧ ∀ base : Heap, K.In base → base.Ns mainGlobals mg → ∃ fd : FuncData, Binds K fd [x] [] ∧ FnD P w K mg base n fa fd [x] ((tab defs (fun y => gs.lookup y) (kbOf kbl) wf pu n).fn "law") := by
  obtain ⟨K, inK, c⟩ := Y
  have g1 : glB K gs = true := c.more
  have hfr : ∀ f ∈ frees gs, f.ok K = true := fun f hf => He.SaysD.facts c.t.d hf
  have B : DefsOk defs (kbOf kbl) K mg := defsOk_of inK G (fun d hd => by
    obtain ⟨fd, F⟩ := He.SaysD.defs c.t.d (d := defD d) (List.mem_map.mpr ⟨d, hd, rfl⟩)
    exact ⟨fd, F⟩) g1 hg hs hb hk
  have tb : ∀ m, TabOk (tab defs (fun y => gs.lookup y) (kbOf kbl) wf pu m) K mg := fun m => tabOk_of inK G (by cases m <;> rfl) g1 hfr hdb
  refine ⟨K, inK, fun base inB nsB => ?_⟩
  obtain ⟨a, fd, e2, _, F2, hb2, _⟩ := (tab_ok (P := P) (w := w) (base := base) B tb n).fn "law" ((stArgs d.st).args.map (·.arg)) (by
    have e3 : (tab defs (fun y => gs.lookup y) (kbOf kbl) wf pu n).sig ("law" : Str) = (findD ("law" : Str) defs).map fun d => (stArgs d.st).args.map (·.arg) := by cases n <;> rfl
    rw [e3, hl]; rfl)
  rw [hmg] at e2
  cases e2
  rw [hp] at F2 hb2
  exact ⟨fd, hb2, F2⟩
end Cor
end
section
set_option linter.all false
namespace Cor
open PySem L2
@[simp] theorem bind_ok {α β : Type} {a : α} {S : Sto} {f : α → Sto → R β} : (R.ok a S).bind f = f a S := rfl
@[simp] theorem st_ok {α : Type} {a : α} {S : Sto} {env : DEnv} {f : α → Sto → RS} : (R.ok a S).st env f = f a S := rfl
@[simp] theorem ofO_some {α : Type} {a : α} {S : Sto} : ofO S (some a) = .ok a S := rfl
@[simp] theorem sq_nil {α : Type} {f : α → DEnv → Sto → RS} {env : DEnv} {S : Sto} : evSs f [] env S = .nx env S := rfl
@[simp] theorem sq_cons {α : Type} {f : α → DEnv → Sto → RS} {a : α} {as : List α} {env : DEnv} {S : Sto} : evSs f (a :: as) env S = match f a env S with
    | .nx env S => evSs f as env S
    | r => r := rfl
@[simp] theorem all_nil {α β : Type} {f : α → Sto → R β} {S : Sto} : evAll f [] S = .ok [] S := rfl
@[simp] theorem all_cons {α β : Type} {f : α → Sto → R β} {a : α} {as : List α} {S : Sto} : evAll f (a :: as) S = (f a S).bind fun b S => (evAll f as S).bind fun bs S => .ok (b :: bs) S := rfl
@[simp] theorem vals_one {α : Type} {f : α → Sto → R D} {b : Bool} {a : α} {S : Sto} : evVals f b [a] S = f a S := rfl
@[simp] theorem vals_cons {α : Type} {f : α → Sto → R D} {st : Bool} {a a2 : α} {as : List α} {S : Sto} : evVals f st (a :: a2 :: as) S = (f a S).bind fun d S => match truthy S d with
    | some b => if b = st then .ok d S else evVals f st (a2 :: as) S
    | none => .no := rfl
@[simp] theorem tests_one {α : Type} {f : α → Sto → R D} {b : Bool} {a : α} {S : Sto} : evTests f b [a] S = f a S := rfl
@[simp] theorem tests_cons {α : Type} {f : α → Sto → R D} {st : Bool} {a a2 : α} {as : List α} {S : Sto} : evTests f st (a :: a2 :: as) S = (f a S).bind fun d S => match d with
    | .bl b => if b = st then .ok (.bl st) S else evTests f st (a2 :: as) S
    | _ => .no := rfl
@[simp] theorem truthy_bl {S : Sto} {b : Bool} : truthy S (.bl b) = some b := rfl
abbrev Xp : Type := DEnv → Sto → R D
abbrev Yp : Type := DEnv → Sto → RS
@[simp] def lk (i : Nat) : Xp := fun env S => ofO S (match env[i]? with
  | some (some d) => some d
  | _ => none)
@[simp] def cst (d : D) : Xp := fun _ S => .ok d S
@[simp] def binX (op : Operator) (a b : Xp) : Xp := fun env S => (a env S).bind fun x S => (b env S).bind fun y S => binD op x y S
@[simp] def notX (a : Xp) : Xp := fun env S => (a env S).bind fun d S => match truthy S d with
  | some b => .ok (.bl (!b)) S
  | none => .no
@[simp] def negX (a : Xp) : Xp := fun env S => (a env S).bind fun d S => match d with
  | .int i => .ok (.int (-i)) S
  | _ => .no
@[simp] def valsX (stop : Bool) (es : List Xp) : Xp := fun env S => evVals (fun (g : Xp) S => g env S) stop es S
@[simp] def testsX (stop : Bool) (es : List Xp) : Xp := fun env S => evTests (fun (g : Xp) S => g env S) stop es S
@[simp] def ifE (t a b : Xp) : Xp := fun env S => (t env S).bind fun d S => match d with
  | .bl true => a env S
  | .bl false => b env S
  | _ => .no
@[simp] def cmpX (op : CmpOp) (a b : Xp) : Xp := fun env S => (a env S).bind fun x S => (b env S).bind fun y S => cmpD op x y S
@[simp] def chnX (op op' : CmpOp) (a b b' : Xp) : Xp := fun env S => (a env S).bind fun x S => (b env S).bind fun y S => (cmpD op x y S).bind fun d S => match d with
  | .bl true => (b' env S).bind fun z S => cmpD op' y z S
  | .bl false => .ok (.bl false) S
  | _ => .no
@[simp] def allX (es : List Xp) : DEnv → Sto → R (List D) := fun env S => evAll (fun (g : Xp) S => g env S) es S
@[simp] def lstX (es : List Xp) : Xp := fun env S => (allX es env S).bind fun ds S => newL ds S
@[simp] def tupX (es : List Xp) : Xp := fun env S => (allX es env S).bind fun ds S => mkTup ds S
@[simp] def dict0X : Xp := fun _ S => newO (.dK []) S
@[simp] def subX (a i : Xp) : Xp := fun env S => (a env S).bind fun x S => (i env S).bind fun y S => ofO S (ixD S x y)
@[simp] def optX (e : Option Xp) : DEnv → Sto → R (Option Int) := fun env S => optE (fun (g : Xp) S => g env S) e S
@[simp] def cutX (a : Xp) (lo hi : Option Xp) : Xp := fun env S => (a env S).bind fun x S => (optX lo env S).bind fun l S => (optX hi env S).bind fun h S => cutD x l h S
@[simp] def callX (g : List D → Sto → R D) (es : List Xp) : Xp := fun env S => (allX es env S).bind fun ds S => g ds S
@[simp] def callkX (g : List D → Sto → R D) (ps ks : List Str) (es zs : List Xp) : Xp := fun env S => (allX es env S).bind fun ds S => (allX zs env S).bind fun z S => match placeK ps ds (ks.zip z) with
  | some ds => g ds S
  | none => .no
@[simp] def mtX (f : MI) (o : Xp) (es : List Xp) : Xp := fun env S => (o env S).bind fun x S => if (lstD S x).isSome then (allX es env S).bind fun ds S => callM f x ds S else .no
@[simp] def tstX (a : Xp) : Xp := fun env S => (a env S).bind fun d S => match truthy S d with
  | some b => .ok (.bl b) S
  | none => .no
@[simp] def notT (a : Xp) : Xp := fun env S => (a env S).bind fun d S => match d with
  | .bl b => .ok (.bl (!b)) S
  | _ => .no
def itX (a : Xp) : DEnv → Sto → R It := fun env S => (a env S).bind fun d S => ofO S (itD S d)
def rngX (es : List Xp) : DEnv → Sto → R It := fun env S => (allX es env S).bind fun ds S => ofO S (rangeIt ds)
abbrev Tg : Type := D → DEnv → Option DEnv
@[simp] def tgN (i : Nat) : Tg := fun d env => some (env.set i (some d))
@[simp] def tgs : List Tg → List D → DEnv → Option DEnv
  | [], [], env => some env
  | t :: ts, d :: ds, env => match t d env with
    | some env => tgs ts ds env
    | none => none
  | _, _, _ => none
@[simp] def tgT (k : Nat) (ts : List Tg) : Tg := fun d env => match d with
  | .tup ds => if ds.length = k ∧ true = true then tgs ts ds env else none
  | _ => none
def turnX (own : List Nat) (tg : Tg) (ifs : List Xp) (elt : Xp) (env : DEnv) (d : D) (S : Sto) : R (Option D) := match tg d (wipeD env own) with
  | some env2 => (evIf (fun (g : Xp) S => g env2 S) ifs S).bind fun b S => match b with
    | true => (elt env2 S).bind fun x S => .ok (some x) S
    | false => .ok none S
  | none => .no
def lcX (it : DEnv → Sto → R It) (own : List Nat) (tg : Tg) (ifs : List Xp) (elt : Xp) : Xp := fun env S => (it env S).bind fun J S => match compD J.ds J.g (turnX own tg ifs elt env) J.ds [] S with
  | .ok ds S => newO (.lst ds) S
  | _ => .no
@[simp] def retX (a : Xp) : Yp := fun env S => (a env S).st env fun d S => .rt d S
@[simp] def retN : Yp := fun _ S => .rt .non S
@[simp] def exprX (a : Xp) : Yp := fun env S => (a env S).st env fun _ S => .nx env S
@[simp] def sqX (l : List Yp) : Yp := fun env S => evSs (fun (g : Yp) env S => g env S) l env S
@[simp] def ifX (t : Xp) (a b : List Yp) : Yp := fun env S => (t env S).st env fun d S => match d with
  | .bl true => sqX a env S
  | .bl false => sqX b env S
  | _ => .no
@[simp] def asgX (tg : Tg) (a : Xp) : Yp := fun env S => (a env S).st env fun d S => match tg d env with
  | some env => .nx env S
  | none => .no
@[simp] def setX (o i e : Xp) : Yp := fun env S => (e env S).st env fun v S => (o env S).st env fun x S => (i env S).st env fun y S => (setD x y v S).st env fun _ S => .nx env S
@[simp] def augX (op : Operator) (i : Nat) (e : Xp) : Yp := fun env S => match env[i]? with
  | some (some a) => (e env S).st env fun b S => (augD op a b S).st env fun r S => .nx (env.set i (some r)) S
  | _ => .no
def forX (it : DEnv → Sto → R It) (tg : Tg) (body : List Yp) : Yp := fun env S => (it env S).st env fun J S => forD J.ds J.g (fun d env S => match tg d env with
  | some env => sqX body env S
  | none => .no) J.ds env S
def whileX (wf : Nat) (t : Xp) (body : List Yp) : Yp := fun env S => whileD t (sqX body) wf env S
abbrev Tw : Type := D → DEnv → Sto → R DEnv
@[simp] def twN (i : Nat) : Tw := fun d env S => .ok (env.set i (some d)) S
@[simp] def twS (o i : Xp) : Tw := fun d env S => (o env S).bind fun x S => (i env S).bind fun y S => (setD x y d S).bind fun _ S => .ok env S
@[simp] def twAll : List Tw → List D → DEnv → Sto → R DEnv
  | [], [], env, S => .ok env S
  | t :: ts, d :: ds, env, S => match t d env S with
    | .ok env S => twAll ts ds env S
    | _ => .no
  | _, _, _, _ => .no
@[simp] def wideX (k : Nat) (ts : List Tw) (e : Xp) : Yp := fun env S => (e env S).st env fun d S => match d with
  | .tup ds => if ds.length = k then (match twAll ts ds env S with
    | .ok env S => .nx env S
    | _ => .no) else .no
  | _ => .no
@[simp] def lrX (a b : Xp) : Xp := fun env S => (a env S).bind fun d S => (b env S).bind fun e S => listRg d e S
@[simp] def revX (a : Xp) : Xp := fun env S => (a env S).bind fun x S => revD x S
@[simp] def passX : Yp := fun env S => .nx env S
@[simp] def brkX : Yp := fun env S => .bk env S
@[simp] def cntX : Yp := fun env S => .ct env S
theorem renDs_len0 {L : List Nat} : ∀ {ds es : List D}, renDs L ds = some es → es.length = ds.length
  | [], es, h => by cases h; rfl
  | d :: ds, es, h => by
    simp only [renDs] at h
    cases q : renD L d with
    | none => rw [q] at h; cases h
    | some e =>
      rw [q] at h
      cases q2 : renDs L ds with
      | none => rw [q2] at h; cases h
      | some es' => rw [q2] at h; cases h; simp [renDs_len0 q2]
theorem pureC_congr {g g' : List D → Sto → R D} {ds : List D} {S : Sto} (h : ∀ es S, es.length = ds.length → g es S = g' es S) : pureC g ds S = pureC g' ds S := by
  unfold pureC
  dsimp only
  generalize reach 10000 S (refsDs ds) [] = L
  split
  · cases renS L S L with
    | none => rfl
    | some os =>
      dsimp only
      cases q : renDs L ds with
      | none => rfl
      | some es =>
        dsimp only
        rw [h es _ (renDs_len0 q)]
  · rfl
/-- a def's end -/
@[simp] def finX (r : RS) : R D := match r with
  | .nx _ S => .ok .non S
  | .rt d S => .ok d S
  | .ex c fs _ S => .ex c fs S
  | _ => .no
end Cor
end
section
set_option linter.all false
set_option maxRecDepth 100000
namespace Cor
open PySem L2
theorem optAll_mono {α β : Type} {f g : α → Option β} : ∀ {as : List α} {bs : List β}, (∀ a b, a ∈ as → f a = some b → g a = some b) → optAll f as = some bs → optAll g as = some bs
  | [], bs, _, h => h
  | a :: as, bs, k, h => by
    simp only [optAll] at h ⊢
    cases e : f a with
    | none => rw [e] at h; cases h
    | some b =>
      rw [e] at h
      rw [k a b List.mem_cons_self e]
      cases e2 : optAll f as with
      | none => rw [e2] at h; cases h
      | some r =>
        rw [e2] at h
        rw [optAll_mono (fun a b ha => k a b (List.mem_cons_of_mem _ ha)) e2]
        exact h
theorem snap_mono {S : Sto} : ∀ {n : Nat} {d : D} {p : PyData}, snap S n d = some p → snap S (n + 1) d = some p
  | 0, d, p, h => by cases h
  | n + 1, d, p, h => by
    cases d with
    | tup ds =>
      simp only [snap] at h ⊢
      cases e : optAll (snap S n) ds with
      | none => rw [e] at h; cases h
      | some ps =>
        rw [e] at h
        have := optAll_mono (g := snap S (n + 1)) (fun a b _ => snap_mono) e
        simp only [snap] at this
        rw [this]; exact h
    | ref k =>
      simp only [snap] at h ⊢
      cases eo : S[k]? with
      | none => rw [eo] at h; cases h
      | some o =>
        rw [eo] at h
        cases o with
        | lst ds =>
          dsimp only at h ⊢
          cases e : optAll (snap S n) ds with
          | none => rw [e] at h; cases h
          | some ps =>
            rw [e] at h
            have := optAll_mono (g := snap S (n + 1)) (fun a b _ => snap_mono) e
            simp only [snap] at this
            rw [this]; exact h
        | dK kvs =>
          dsimp only at h ⊢
          cases e : optAll (fun p => snap S n p.2) kvs with
          | none => rw [e] at h; cases h
          | some ps =>
            rw [e] at h
            have := optAll_mono (g := fun (p : Key × D) => snap S (n + 1) p.2) (fun a b _ => snap_mono) e
            simp only [snap] at this
            rw [this]; exact h
        | _ => cases h
    | _ => exact h
theorem snap_le {S : Sto} {n m : Nat} {d : D} {p : PyData} (h : snap S n d = some p) (l : n ≤ m) : snap S m d = some p := by
  induction l with
  | refl => exact h
  | step _ ih => exact snap_mono ih
theorem snap_app {S X : Sto} : ∀ {n : Nat} {d : D} {p : PyData}, snap S n d = some p → snap (S ++ X) n d = some p
  | 0, d, p, h => by cases h
  | n + 1, d, p, h => by
    cases d with
    | tup ds =>
      simp only [snap] at h ⊢
      cases e : optAll (snap S n) ds with
      | none => rw [e] at h; cases h
      | some ps =>
        rw [e] at h
        rw [optAll_mono (g := snap (S ++ X) n) (fun a b _ => snap_app) e]
        exact h
    | ref k =>
      simp only [snap] at h ⊢
      cases eo : S[k]? with
      | none => rw [eo] at h; cases h
      | some o =>
        rw [eo] at h
        rw [List.getElem?_append_left (List.getElem?_eq_some_iff.mp eo).1, eo]
        cases o with
        | lst ds =>
          dsimp only at h ⊢
          cases e : optAll (snap S n) ds with
          | none => rw [e] at h; cases h
          | some ps =>
            rw [e] at h
            rw [optAll_mono (g := snap (S ++ X) n) (fun a b _ => snap_app) e]
            exact h
        | dK kvs =>
          dsimp only at h ⊢
          cases e : optAll (fun p => snap S n p.2) kvs with
          | none => rw [e] at h; cases h
          | some ps =>
            rw [e] at h
            rw [optAll_mono (g := fun (p : Key × D) => snap (S ++ X) n p.2) (fun a b _ => snap_app) e]
            exact h
        | _ => cases h
    | _ => exact h
/-- the data behind a value -/
def At (S : Sto) (d : D) (p : PyData) : Prop := ∃ n, n ≤ 20 ∧ snap S n d = some p
theorem At.app {S X : Sto} {d : D} {p : PyData} (h : At S d p) : At (S ++ X) d p := let ⟨n, l, e⟩ := h; ⟨n, l, snap_app e⟩
theorem At.sn {S : Sto} {d : D} {p : PyData} (h : At S d p) : snapD S d = some p := by
  obtain ⟨n, l, e⟩ := h
  have : n ≤ Cor.deep := Nat.le_trans l (by decide)
  exact snap_le e this
/-- what stands behind data -/
theorem At.inv {S : Sto} {d : D} {p : PyData} (h : At S d p) : match p with
    | .none => d = .non
    | .bool b => d = .bl b
    | .int i => d = .int i
    | .str x => d = .str x
    | .tuple ps => ∃ ds, d = .tup ds ∧ ds.length = ps.length ∧ ∀ (i : Nat) (q : PyData), ps[i]? = some q → ∃ e, ds[i]? = some e ∧ At S e q
    | .list ps => ∃ k ds, d = .ref k ∧ S[k]? = some (.lst ds) ∧ ds.length = ps.length
    | .dict ps => ∃ k kvs, d = .ref k ∧ S[k]? = some (.dK kvs) ∧ kvs.length = ps.length := by
  have opt : ∀ {f : D → Option PyData} {ds : List D} {ps : List PyData}, optAll f ds = some ps → ds.length = ps.length ∧ ∀ (i : Nat) (q : PyData), ps[i]? = some q → ∃ e, ds[i]? = some e ∧ f e = some q := by
    intro f ds
    induction ds with
    | nil => intro ps e; cases e; exact ⟨rfl, fun i q hq => by simp at hq⟩
    | cons d ds ih =>
      intro ps e
      simp only [optAll] at e
      cases e1 : f d with
      | none => rw [e1] at e; cases e
      | some p =>
        rw [e1] at e
        cases e2 : optAll f ds with
        | none => rw [e2] at e; cases e
        | some r =>
          rw [e2] at e; cases e
          obtain ⟨h1, h2⟩ := ih e2
          refine ⟨by simp [h1], fun i q hq => ?_⟩
          cases i with
          | zero => simp at hq; subst hq; exact ⟨d, rfl, e1⟩
          | succ i => exact h2 i q (by simpa using hq)
  obtain ⟨n, l, e⟩ := h
  cases n with
  | zero => cases e
  | succ n =>
    cases d with
    | non => cases e; rfl
    | bl b => cases e; rfl
    | int i => cases e; rfl
    | str x => cases e; rfl
    | tup ds =>
      simp only [snap] at e
      cases e1 : optAll (snap S n) ds with
      | none => rw [e1] at e; cases e
      | some ps =>
        rw [e1] at e; cases e
        obtain ⟨h1, h2⟩ := opt e1
        exact ⟨ds, rfl, h1, fun i q hq => let ⟨x, a, b⟩ := h2 i q hq; ⟨x, a, n, by omega, b⟩⟩
    | ref k =>
      simp only [snap] at e
      cases eo : S[k]? with
      | none => rw [eo] at e; cases e
      | some o =>
        rw [eo] at e
        cases o with
        | lst ds =>
          dsimp only at e
          cases e1 : optAll (snap S n) ds with
          | none => rw [e1] at e; cases e
          | some ps =>
            rw [e1] at e; cases e
            exact ⟨k, ds, rfl, eo, (opt e1).1⟩
        | dK kvs =>
          dsimp only at e
          cases e1 : optAll (fun p => snap S n p.2) kvs with
          | none => rw [e1] at e; cases e
          | some ps =>
            rw [e1] at e; cases e
            have hl : ∀ {kvs : List (Key × D)} {ps : List PyData}, optAll (fun p => snap S n p.2) kvs = some ps → kvs.length = ps.length := by
              intro kvs
              induction kvs with
              | nil => intro ps e; cases e; rfl
              | cons a kvs ih =>
                intro ps e
                simp only [optAll] at e
                cases e1 : snap S n a.2 with
                | none => rw [e1] at e; cases e
                | some p =>
                  rw [e1] at e
                  cases e2 : optAll (fun p => snap S n p.2) kvs with
                  | none => rw [e2] at e; cases e
                  | some r => rw [e2] at e; cases e; simp [ih e2]
            exact ⟨k, kvs, rfl, eo, by simp [hl e1]⟩
        | _ => cases e
    | _ => cases e
def kdP : PyData → Kd
  | .none => .non
  | .bool _ => .bl
  | .int _ => .int
  | .str _ => .str
  | .tuple _ => .tup
  | .list _ => .lst
  | .dict _ => .dic
theorem At.kd {S : Sto} {d : D} {p : PyData} (h : At S d p) : kdOf S d = some (kdP p) := by
  have i := h.inv
  cases p with
  | none => cases i; rfl
  | bool b => cases i; rfl
  | int b => cases i; rfl
  | str b => cases i; rfl
  | tuple ps => obtain ⟨ds, rfl, _⟩ := i; rfl
  | list ps => obtain ⟨k, ds, rfl, e, _⟩ := i; simp only [kdOf, e]; rfl
  | dict ps => obtain ⟨k, ds, rfl, e, _⟩ := i; simp only [kdOf, e]; rfl
def isP (p : PyData) (t : Ty) : Bool := kitF (kdP p) t
theorem isinst_S {S : Sto} {d : D} {p : PyData} (h : At S d p) (t : Ty) : callB .isinstance [d, .ty t] S = .ok (.bl (isP p t)) S := by
  simp only [callB, isinstD, h.kd]; rfl
def intP : PyData → Option Int
  | .int i => some i
  | _ => none
def wholeP (p : PyData) : Bool := (intP p).isSome
def tupP : PyData → Option (List PyData)
  | .tuple ps => some ps
  | _ => none
def strP : PyData → Option Str
  | .str x => some x
  | _ => none
def chD (c : Nat) : D := .str ⟨#[c]⟩
theorem it_str (x : Str) (S : Sto) : itD S (.str x) = some ⟨x.cps.toList.map chD, none⟩ := rfl
theorem bls_map {l : List Nat} {f : Nat → Bool} : blsD (l.map fun c => D.bl (f c)) = some (l.map f) := by
  induction l with
  | nil => rfl
  | cons a l ih => simp only [List.map_cons, blsD, ih]
theorem get_new {S : Sto} {o : Ob} : (S ++ [o])[S.length]? = some o := by simp
theorem sz1000 : 1000 ≤ sizeLine := by decide +kernel
theorem cps_len (x : Str) : x.cps.toList.length = x.length := by simp [Str.length]
theorem cb_len {S : Sto} {a : D} {k : Nat} (h : lenD S a = some k) : callB .len [a] S = .ok (.int k) S := by simp only [callB, h]
theorem cb_all {S : Sto} {a : D} {ds : List D} {bs : List Bool} (h : lstD S a = some ds) (h2 : blsD ds = some bs) : callB .all [a] S = .ok (.bl (bs.all id)) S := by simp only [callB, h, h2]
theorem cb_repr {S : Sto} {a : D} {x : Str} (h : reprD S a = some x) : callB .repr [a] S = .ok (.str x) S := by simp only [callB, h]
theorem len_cps (x : Str) : x.cps.size = x.length := rfl
/-- the law's own look at words -/
theorem snap_strs {S : Sto} {n : Nat} : ∀ {l : List Nat}, optAll (snap S (n + 1)) (l.map chD) = some (l.map fun c => PyData.str ⟨#[c]⟩)
  | [] => rfl
  | c :: l => by
    have ih := snap_strs (S := S) (n := n) (l := l)
    simp only [List.map_cons, optAll, ih]
    rfl
theorem shaped_strs : ∀ {l : List Nat}, l.all (fun c => decide (c < 0x110000)) = true → SeqAt.shaped (.list (l.map fun c => PyData.str ⟨#[c]⟩)) = true := by
  intro l h
  have a1 : ∀ {l : List Nat}, l.all (fun c => decide (c < 0x110000)) = true → PyData.canLayAll0 (l.map fun c => PyData.str ⟨#[c]⟩) = true := by
    intro l
    induction l with
    | nil => intro _; simp [PyData.canLayAll0]
    | cons a l ih =>
      intro h
      simp only [List.all_cons, Bool.and_eq_true] at h
      simp only [List.map_cons, PyData.canLayAll0, Bool.and_eq_true]
      refine ⟨?_, ih h.2⟩
      simp [PyData.canLay0, PyData.strOk]
      simpa using h.1
  have a2 : ∀ l : List Nat, PyData.depthAll (l.map fun c => PyData.str ⟨#[c]⟩) = 0 := by
    intro l
    induction l with
    | nil => simp [PyData.depthAll]
    | cons a l ih => simp [PyData.depthAll, PyData.depth, ih]
  unfold SeqAt.shaped
  simp [PyData.canLay0, PyData.depth, a1 h, a2]
theorem eqD_lists {S : Sto} {k j : Nat} {ps qs : List PyData} (h1 : snapD S (.ref k) = some (.list ps)) (h2 : snapD S (.ref j) = some (.list qs)) (s1 : SeqAt.shaped (.list ps) = true) (s2 : SeqAt.shaped (.list qs) = true) : eqD S (.ref k) (.ref j) = some (PyData.eqv (.list ps) (.list qs)) := by
  simp only [eqD, h1, h2, s1, s2, and_self, if_true]
theorem sn_lst {S : Sto} {n k : Nat} {ds : List D} {ps : List PyData} (h : S[k]? = some (.lst ds)) (e : optAll (snap S n) ds = some ps) : snap S (n + 1) (.ref k) = some (.list ps) := by
  show (match S[k]? with
    | some (.lst ds) => (match optAll (snap S n) ds with
      | some ps => some (PyData.list ps)
      | none => none)
    | some (.dK kvs) => (match optAll (fun (p : Key × D) => snap S n p.2) kvs with
      | some ps => some (PyData.dict ((kvs.map fun (p : Key × D) => okey p.1).zip ps))
      | none => none)
    | _ => none) = _
  rw [h]
  dsimp only
  rw [e]
theorem at_lst {S : Sto} {n k : Nat} {ds : List D} {ps : List PyData} (hn : n ≤ 19) (h : S[k]? = some (.lst ds)) (e : optAll (snap S n) ds = some ps) : At S (.ref k) (.list ps) := ⟨n + 1, by omega, sn_lst h e⟩
theorem cmp_eq {S : Sto} {a b : D} {r : Bool} (h : eqD S a b = some r) : cmpD .Eq a b S = .ok (.bl r) S := by simp only [cmpD, cmpO, h]
theorem cmp_ne {S : Sto} {a b : D} {r : Bool} (h : eqD S a b = some r) : cmpD .NotEq a b S = .ok (.bl (!r)) S := by simp only [cmpD, cmpO, h]
theorem eqv_nil (ps : List PyData) : PyData.eqv (.list ps) (.list []) = ps.isEmpty := by
  cases ps <;> simp [PyData.eqv, PyData.eqvAll]
/-- its text, where it can be told -/
def reprP (p : PyData) : Option Str := if PyData.showable p = true ∧ PyData.depth p ≤ 64 ∧ (PyData.shown p).length ≤ sizeLine ∧ dictOk p = true then some (PyData.shown p) else none
theorem At.repr {S : Sto} {d : D} {p : PyData} (h : At S d p) : reprD S d = reprP p := by
  unfold reprD reprP
  rw [h.sn]
theorem At.reprc {S : Sto} {d : D} {p : PyData} {x : Str} (h : At S d p) (e : reprP p = some x) : callB .repr [d] S = .ok (.str x) S := cb_repr (by rw [h.repr, e])
theorem at_str {S : Sto} {x : Str} : At S (.str x) (.str x) := ⟨1, by decide, rfl⟩
theorem at_int {S : Sto} {x : Int} : At S (.int x) (.int x) := ⟨1, by decide, rfl⟩
theorem at_bl {S : Sto} {x : Bool} : At S (.bl x) (.bool x) := ⟨1, by decide, rfl⟩
theorem eq_ints {S : Sto} {i j : Int} : eqD S (.int i) (.int j) = some (i == j) := rfl
def Grow (S S' : Sto) : Prop := ∃ X, S' = S ++ X
theorem Grow.refl {S : Sto} : Grow S S := ⟨[], by simp⟩
theorem Grow.trans {S S1 S2 : Sto} (a : Grow S S1) (b : Grow S1 S2) : Grow S S2 := by
  obtain ⟨X, rfl⟩ := a
  obtain ⟨Y, rfl⟩ := b
  exact ⟨X ++ Y, by simp⟩
theorem At.grow {S S' : Sto} {d : D} {p : PyData} (h : At S d p) (g : Grow S S') : At S' d p := by
  obtain ⟨X, rfl⟩ := g
  exact h.app
def bR (b : Bool) : Str := if b then "True" else "False"
theorem repr_bl (b : Bool) : reprP (.bool b) = some (bR b) := by cases b <;> decide +kernel
theorem rb {S : Sto} (b : Bool) : callB .repr [.bl b] S = .ok (.str (bR b)) S := at_bl.reprc (repr_bl b)
theorem eq_bls {S : Sto} {i j : Bool} : eqD S (.bl i) (.bl j) = some (i == j) := rfl
open PySem.W PySem.W.KIN in
theorem txt_nat (m : Nat) : (PyData.shown (.int (m : Int))).cps.toList = (Nat.toDigits 10 m).map Char.toNat := signs_num m
open PySem.W PySem.W.KIN in
theorem txt_inj {m k : Nat} (h : PyData.shown (.int (m : Int)) = PyData.shown (.int (k : Int))) : m = k := by
  have e : (PyData.shown (.int (m : Int))).cps.toList = (PyData.shown (.int (k : Int))).cps.toList := by rw [h]
  rw [txt_nat, txt_nat] at e
  rw [← val_back m, ← val_back k, e]
theorem txt_digits (m : Nat) : ∀ c ∈ (PyData.shown (.int (m : Int))).cps.toList, 48 ≤ c ∧ c ≤ 57 := by
  intro c hc
  rw [txt_nat] at hc
  obtain ⟨ch, hch, e⟩ := List.mem_map.mp hc
  have r := Nat.isDigit_of_mem_toDigits (by decide) (by decide) hch
  rw [← e]
  exact PyProof.Rows.digit_range r
theorem txt_ne (m : Nat) : (PyData.shown (.int (m : Int))).cps.toList ≠ [] := by
  rw [txt_nat]
  intro h
  have := PySem.toDigits_len_ge 10 m
  rw [List.map_eq_nil_iff] at h
  rw [h] at this
  simp at this
/-- a number's text is none that begins otherwise -/
theorem txt_other (m : Nat) {x : Str} {c : Nat} {r : List Nat} (hx : x.cps.toList = c :: r) (hc : c < 48 ∨ 57 < c) : PyData.shown (.int (m : Int)) ≠ x := by
  intro h
  have := txt_digits m c (by rw [h, hx]; exact List.mem_cons_self)
  omega
theorem txt_len {m : Nat} (h : m < 10 ^ 10) : (PyData.shown (.int (m : Int))).length ≤ 10 := by
  have e : (PyData.shown (.int (m : Int))).length = (PyData.shown (.int (m : Int))).cps.toList.length := by simp [Str.length]
  rw [e, txt_nat, List.length_map]
  have : (Nat.toDigits 10 m).length ≤ 10 := by
    first
      | exact PySem.digits10_le (by decide) h
      | exact PyProof.Rows.digits10_le (by decide) h
  exact this
theorem repr_nat {m : Nat} (h : m < 10 ^ 10) : reprP (.int (m : Int)) = some (PyData.shown (.int (m : Int))) := by
  unfold reprP
  rw [if_pos]
  refine ⟨?_, by simp [PyData.depth], ?_, by simp [dictOk, PyData.hasDict]⟩
  · simp only [PyData.showable, decide_eq_true_eq, Int.natAbs_natCast]
    have : m.log2 ≤ 34 := by
      rcases Nat.eq_zero_or_pos m with z | z
      · subst z; decide
      · have := (Nat.log2_lt (n := m) (k := 34) (by omega)).mpr (by omega)
        omega
    omega
  · have := txt_len h
    have := sz1000
    omega
theorem At.of_sn {S : Sto} {d : D} {p q : PyData} (h : At S d p) (e : snapD S d = some q) : p = q := Option.some.inj (h.sn.symm.trans e)
theorem cps_of (s : String) : (Str.ofString s).cps.toList = s.toList.map Char.toNat := by rw [Str.ofString_eq_toList]
theorem neg_txt (m : Nat) : (PyData.shown (.int (Int.negSucc m))).cps.toList = 45 :: (PyData.shown (.int ((m + 1 : Nat) : Int))).cps.toList := by
  have e1 : PyData.shown (.int (Int.negSucc m)) = Str.ofString ("-" ++ Nat.repr (m + 1)) := by simp only [PyData.shown]; rfl
  have e2 : PyData.shown (.int ((m + 1 : Nat) : Int)) = Str.ofString (Nat.repr (m + 1)) := by simp only [PyData.shown]; rfl
  rw [e1, e2, cps_of, cps_of, String.toList_append, List.map_append]; rfl
theorem str_ext {x y : Str} (h : x.cps.toList = y.cps.toList) : x = y := by
  cases x; cases y
  simp only [Str.mk.injEq]
  exact Array.toList_inj.mp h
theorem txt_inj_int : ∀ {i j : Int}, PyData.shown (.int i) = PyData.shown (.int j) → i = j
  | .ofNat m, .ofNat k, h => congrArg Int.ofNat (txt_inj h)
  | .negSucc m, .negSucc k, h => by
    have e : (PyData.shown (.int (Int.negSucc m))).cps.toList = (PyData.shown (.int (Int.negSucc k))).cps.toList := by rw [h]
    rw [neg_txt, neg_txt] at e
    have := txt_inj (str_ext (List.cons.inj e).2)
    have : m = k := by omega
    rw [this]
  | .ofNat m, .negSucc k, h => by
    have := txt_digits m 45 (by
      have e : (PyData.shown (.int (Int.ofNat m))).cps.toList = (PyData.shown (.int (Int.negSucc k))).cps.toList := by rw [h]
      rw [neg_txt] at e
      show 45 ∈ (PyData.shown (.int (Int.ofNat m))).cps.toList
      rw [e]; exact List.mem_cons_self)
    omega
  | .negSucc m, .ofNat k, h => by
    have := txt_digits k 45 (by
      have e : (PyData.shown (.int (Int.negSucc m))).cps.toList = (PyData.shown (.int (Int.ofNat k))).cps.toList := by rw [h]
      rw [neg_txt] at e
      show 45 ∈ (PyData.shown (.int (Int.ofNat k))).cps.toList
      rw [← e]; exact List.mem_cons_self)
    omega
theorem txt_signs : ∀ (i : Int), ∀ c ∈ (PyData.shown (.int i)).cps.toList, c = 45 ∨ (48 ≤ c ∧ c ≤ 57)
  | .ofNat m, c, h => .inr (txt_digits m c h)
  | .negSucc m, c, h => by
    rw [neg_txt] at h
    rcases List.mem_cons.mp h with h | h
    · exact .inl h
    · exact .inr (txt_digits _ c h)
theorem txt_ne_str (i : Int) {x : Str} {c : Nat} {r : List Nat} (hx : x.cps.toList = c :: r) (hc : 57 < c ∨ c < 45) : PyData.shown (.int i) ≠ x := by
  intro h
  have := txt_signs i c (by rw [h, hx]; exact List.mem_cons_self)
  omega
theorem sz4000 : 4000 ≤ sizeLine := by decide +kernel
def BigI (i : Int) : Prop := -1000000000 ≤ i ∧ i ≤ 1000000000
theorem log_big {i : Int} (h : BigI i) : i.natAbs.log2 < 1920 := by
  have h1 : i.natAbs ≤ 1000000000 := by have := h.1; have := h.2; omega
  rcases Nat.eq_zero_or_pos i.natAbs with z | z
  · rw [z]; decide
  · have := (Nat.log2_lt (n := i.natAbs) (k := 30) (by omega)).mpr (by omega)
    omega
theorem repr_int {i : Int} (h : BigI i) : reprP (.int i) = some (PyData.shown (.int i)) := by
  have l := PyProof.Rows.int_text_len_1921 (log_big h)
  unfold reprP
  rw [if_pos]
  refine ⟨by simpa [PyData.showable] using log_big h, by simp [PyData.depth], ?_, by simp [dictOk, PyData.hasDict]⟩
  have := sz4000
  show (Str.ofString (toString i)).length ≤ sizeLine
  omega
theorem snap_tup {S : Sto} {n : Nat} {ds : List D} {ps : List PyData} (e : optAll (snap S n) ds = some ps) : snap S (n + 1) (.tup ds) = some (.tuple ps) := by
  show (match optAll (snap S n) ds with
    | some ps => some (PyData.tuple ps)
    | none => none) = _
  rw [e]
theorem at_t2 {S : Sto} {x : Str} {d : D} {p : PyData} (h : snap S 1 d = some p) : At S (.tup [.str x, d]) (.tuple [.str x, p]) := ⟨2, by decide, snap_tup (by
  have e : snap S 1 (.str x) = some (.str x) := rfl
  simp only [optAll, h, e])⟩
theorem rs_of {d : D} {p : PyData} (h : ∀ S, At S d p) (e : (reprP p).isSome = true) : ∃ x, ∀ S, callB .repr [d] S = .ok (.str x) S := by
  obtain ⟨x, ex⟩ := Option.isSome_iff_exists.mp e
  exact ⟨x, fun S => (h S).reprc ex⟩
/-- all but the object at k stays -/
structure Kp (k : Nat) (S S' : Sto) : Prop where
  at_ : ∀ (n : Nat) o, n ≠ k → S[n]? = some o → S'[n]? = some o
  len : S.length ≤ S'.length
theorem Kp.refl {k : Nat} {S : Sto} : Kp k S S := ⟨fun _ _ _ h => h, Nat.le_refl _⟩
theorem Kp.trans {k : Nat} {S S1 S2 : Sto} (a : Kp k S S1) (b : Kp k S1 S2) : Kp k S S2 := ⟨fun n o h e => b.at_ n o h (a.at_ n o h e), Nat.le_trans a.len b.len⟩
theorem Kp.set {k : Nat} {S : Sto} {o : Ob} : Kp k S (S.set k o) := ⟨fun n o' h e => by rw [List.getElem?_set_ne (Ne.symm h)]; exact e, by simp⟩
theorem Kp.app {k : Nat} {S X : Sto} : Kp k S (S ++ X) := ⟨fun n o h e => by rw [List.getElem?_append_left (List.getElem?_eq_some_iff.mp e).1]; exact e, by simp⟩
theorem Kp.grow {k : Nat} {S S' : Sto} (g : Grow S S') : Kp k S S' := by obtain ⟨X, rfl⟩ := g; exact Kp.app
def PoolAt (S : Sto) (k : Nat) : Prop := ∃ a b : Int, S[k]? = some (.lst [.int a, .int b]) ∧ 0 ≤ a ∧ 0 ≤ b ∧ b < 2147483647
theorem PoolAt.lt {S : Sto} {k : Nat} (h : PoolAt S k) : k < S.length := by obtain ⟨a, b, e, _⟩ := h; exact (List.getElem?_eq_some_iff.mp e).1
theorem PoolAt.app {S X : Sto} {k : Nat} (h : PoolAt S k) : PoolAt (S ++ X) k := by
  obtain ⟨a, b, e, r⟩ := h
  exact ⟨a, b, by rw [List.getElem?_append_left (List.getElem?_eq_some_iff.mp e).1]; exact e, r⟩
theorem PoolAt.grow {S S' : Sto} {k : Nat} (h : PoolAt S k) (g : Grow S S') : PoolAt S' k := by obtain ⟨X, rfl⟩ := g; exact h.app
theorem new_lst {ds : List D} {S : Sto} (h : ds.length ≤ 1000) : newL ds S = .ok (.ref S.length) (S ++ [.lst ds]) := by unfold newL; rw [if_pos (Nat.le_trans h sz1000)]; rfl
theorem mk_tup {ds : List D} {S : Sto} (h : ds.length ≤ 1000) : mkTup ds S = .ok (.tup ds) S := by unfold mkTup; rw [if_pos (Nat.le_trans h sz1000)]
theorem add_lst {S : Sto} {i j : Nat} {xs ys : List D} (h1 : S[i]? = some (.lst xs)) (h2 : S[j]? = some (.lst ys)) (hl : xs.length + ys.length ≤ 1000) : binD .Add (.ref i) (.ref j) S = .ok (.ref S.length) (S ++ [.lst (xs ++ ys)]) := by
  simp only [binD, lstM, h1, h2]
  exact new_lst (by simpa using hl)
theorem pow9 {S : Sto} : binD .Pow (.int 10) (.int 9) S = .ok (.int 1000000000) S := by kernel_rfl
theorem pow20 {S : Sto} : binD .Pow (.int 10) (.int 20) S = .ok (.int 100000000000000000000) S := by kernel_rfl
theorem pow18 {S : Sto} : binD .Pow (.int 10) (.int 18) S = .ok (.int 1000000000000000000) S := by kernel_rfl
theorem ix_lst {S : Sto} {i : Nat} {xs : List D} {k : Int} {d : D} (h : S[i]? = some (.lst xs)) (h0 : 0 ≤ k) (hd : xs[k.toNat]? = some d) : ixD S (.ref i) (.int k) = some d := by
  have hl := (List.getElem?_eq_some_iff.mp hd).1
  simp only [ixD, h, atI]
  have : ixN xs.length k = some k.toNat := by
    unfold ixN
    have h1 : k < xs.length := by omega
    simp [h0, h1]
  rw [this]; exact hd
theorem optAll_get {α β : Type} {f : α → Option β} : ∀ {as : List α} {bs : List β}, optAll f as = some bs → as.length = bs.length ∧ ∀ (i : Nat) a, as[i]? = some a → ∃ b, bs[i]? = some b ∧ f a = some b
  | [], bs, e => by cases e; exact ⟨rfl, fun i a h => by simp at h⟩
  | x :: as, bs, e => by
    simp only [optAll] at e
    cases e1 : f x with
    | none => rw [e1] at e; cases e
    | some p =>
      rw [e1] at e
      cases e2 : optAll f as with
      | none => rw [e2] at e; cases e
      | some r =>
        rw [e2] at e; cases e
        obtain ⟨h1, h2⟩ := optAll_get e2
        refine ⟨by simp [h1], fun i a h => ?_⟩
        cases i with
        | zero => simp at h; subst h; exact ⟨p, rfl, e1⟩
        | succ i => exact h2 i a (by simpa using h)
theorem optAll_app {α β : Type} {f : α → Option β} : ∀ {as as' : List α} {bs bs' : List β}, optAll f as = some bs → optAll f as' = some bs' → optAll f (as ++ as') = some (bs ++ bs')
  | [], as', bs, bs', e, e' => by cases e; exact e'
  | x :: as, as', bs, bs', e, e' => by
    simp only [optAll, List.cons_append] at e ⊢
    cases e1 : f x with
    | none => rw [e1] at e; cases e
    | some p =>
      rw [e1] at e
      cases e2 : optAll f as with
      | none => rw [e2] at e; cases e
      | some r =>
        rw [e2] at e; cases e
        rw [optAll_app e2 e']
        rfl
theorem optAll_drop {α β : Type} {f : α → Option β} : ∀ {as : List α} {bs : List β} (n : Nat), optAll f as = some bs → optAll f (as.drop n) = some (bs.drop n)
  | as, bs, 0, e => e
  | [], bs, n + 1, e => by cases e; rfl
  | x :: as, bs, n + 1, e => by
    simp only [optAll] at e
    cases e1 : f x with
    | none => rw [e1] at e; cases e
    | some p =>
      rw [e1] at e
      cases e2 : optAll f as with
      | none => rw [e2] at e; cases e
      | some r => rw [e2] at e; cases e; exact optAll_drop n e2
theorem optAll_take {α β : Type} {f : α → Option β} : ∀ {as : List α} {bs : List β} (n : Nat), optAll f as = some bs → optAll f (as.take n) = some (bs.take n)
  | as, bs, 0, e => by simp [optAll]
  | [], bs, n + 1, e => by cases e; rfl
  | x :: as, bs, n + 1, e => by
    simp only [optAll] at e
    cases e1 : f x with
    | none => rw [e1] at e; cases e
    | some p =>
      rw [e1] at e
      cases e2 : optAll f as with
      | none => rw [e2] at e; cases e
      | some r =>
        rw [e2] at e; cases e
        simp only [List.take_succ_cons, optAll, e1, optAll_take n e2]
theorem optAll_cut {α β : Type} {f : α → Option β} {as : List α} {bs : List β} (lo hi : Option Int) (e : optAll f as = some bs) : optAll f (cutL as lo hi) = some (cutL bs lo hi) := by
  unfold cutL
  rw [(optAll_get e).1]
  exact optAll_take _ (optAll_drop _ e)
theorem b_add {S : Sto} {i j : Int} : binD .Add (.int i) (.int j) S = .ok (.int (i + j)) S := rfl
theorem b_mod {S : Sto} {i j : Int} (h : 0 < j) : binD .Mod (.int i) (.int j) S = .ok (.int (i % j)) S := by simp only [binD, binI, h, if_true]
theorem b_mul {S : Sto} {i j : Int} (h : smallI i ∨ smallI j) : binD .Mult (.int i) (.int j) S = .ok (.int (i * j)) S := by simp only [binD, binI, h, if_true]
theorem gr_at {S S' : Sto} {i : Nat} {o : Ob} (g : Grow S S') (e : S[i]? = some o) : S'[i]? = some o := by
  obtain ⟨X, rfl⟩ := g
  rw [List.getElem?_append_left (List.getElem?_eq_some_iff.mp e).1]; exact e
def bodyD (tg : Tg) (body : List Yp) : D → DEnv → Sto → RS := fun d env S => match tg d env with
  | some env => sqX body env S
  | none => .no
theorem forX_of {it : DEnv → Sto → R It} {tg : Tg} {body : List Yp} {env : DEnv} {S S' : Sto} {J : It} (rg : it env S = .ok J S') : forX it tg body env S = forD J.ds J.g (bodyD tg body) J.ds env S' := by
  unfold forX
  rw [rg]
  rfl
theorem sq_app {α : Type} {f : α → DEnv → Sto → RS} : ∀ {as bs : List α} {env env' : DEnv} {S S' : Sto}, evSs f as env S = .nx env' S' → evSs f (as ++ bs) env S = evSs f bs env' S'
  | [], bs, env, env', S, S', h => by cases h; rfl
  | a :: as, bs, env, env', S, S', h => by
    simp only [sq_cons, List.cons_append] at h ⊢
    cases e : f a env S with
    | nx env1 S1 => rw [e] at h; exact sq_app h
    | _ => rw [e] at h; cases h
theorem small_nat {m : Nat} (h : m ≤ 1000) : smallR (m : Int) := smallR_of ⟨by omega, by omega⟩
theorem rangeIt_nat {m : Nat} (h : m ≤ 1000) : rangeIt [.int (m : Int)] = some ⟨rangeD 0 m, none⟩ := by
  have e : rangeIt [.int (m : Int)] = if smallR (m : Int) then some ⟨rangeD 0 (m : Int).toNat, none⟩ else none := rfl
  rw [e, if_pos (small_nat h), Int.toNat_natCast]
theorem rng_of {S S' : Sto} {env : DEnv} {x : Xp} {m : Nat} (h : m ≤ 1000) (e : x env S = .ok (.int (m : Int)) S') : rngX [x] env S = .ok ⟨rangeD 0 m, none⟩ S' := by
  have a : allX [x] env S = .ok [.int (m : Int)] S' := by simp only [allX, all_cons, all_nil, e, bind_ok]
  have u : rngX [x] env S = (allX [x] env S).bind fun ds S => ofO S (rangeIt ds) := rfl
  rw [u, a, bind_ok, rangeIt_nat h, ofO_some]
theorem cb_min {S : Sto} {i j : Int} : callB .min [.int i, .int j] S = .ok (.int (if j < i then j else i)) S := rfl
theorem cb_max {S : Sto} {i j : Int} : callB .max [.int i, .int j] S = .ok (.int (if j > i then j else i)) S := rfl
theorem isinst_k {S : Sto} {d : D} {k : Kd} (h : kdOf S d = some k) (t : Ty) : callB .isinstance [d, .ty t] S = .ok (.bl (kitF k t)) S := by
  simp only [callB, isinstD, h]
mutual
theorem flat_refs : ∀ {d : D}, flat d = true → refsD d = []
  | .ref n, h => by simp [flat] at h
  | .tup ds, h => by simp only [refsD]; exact flats_refs (by simpa [flat] using h)
  | .non, _ => rfl
  | .bl _, _ => rfl
  | .int _, _ => rfl
  | .str _, _ => rfl
  | .ty _, _ => rfl
  | .glob _, _ => rfl
theorem flats_refs : ∀ {ds : List D}, flats ds = true → refsDs ds = []
  | [], _ => rfl
  | d :: ds, h => by
    simp only [flats, Bool.and_eq_true] at h
    simp only [refsDs, flat_refs h.1, flats_refs h.2, List.append_nil]
end
mutual
theorem flat_ren {L : List Nat} : ∀ {d : D}, flat d = true → renD L d = some d
  | .ref n, h => by simp [flat] at h
  | .tup ds, h => by
    have e : flats ds = true := by simpa [flat] using h
    simp only [renD, flats_ren (L := L) e]
  | .non, _ => rfl
  | .bl _, _ => rfl
  | .int _, _ => rfl
  | .str _, _ => rfl
  | .ty _, _ => rfl
  | .glob _, _ => rfl
theorem flats_ren {L : List Nat} : ∀ {ds : List D}, flats ds = true → renDs L ds = some ds
  | [], _ => rfl
  | d :: ds, h => by
    simp only [flats, Bool.and_eq_true] at h
    simp only [renDs, flat_ren h.1, flats_ren h.2]
end
theorem pure_of {g : List D → Sto → R D} {ds es : List D} {S : Sto} {L : List Nat} {os X : List Ob} {r : D} (hL : reach 10000 S (refsDs ds) [] = L) (hn : (nodupB L && L.all (fun k => Nat.blt 0 k)) = true) (ho : renS L S L = some os) (he : renDs L ds = some es)
    (hg : g es (.hid :: os) = .ok r ((.hid :: os) ++ X)) (hf : flat r = true) : pureC g ds S = .ok r S := by
  unfold pureC
  dsimp only
  rw [hL, if_pos hn, ho]
  dsimp only
  rw [he]
  dsimp only
  rw [hg]
  dsimp only
  rw [if_pos]
  refine ⟨hf, ?_⟩
  have : os.length + 1 = (Ob.hid :: os).length := rfl
  rw [this, List.take_left]
theorem reach_nil {n : Nat} {S : Sto} {acc : List Nat} : reach (n + 1) S [] acc = acc := by simp only [reach]
/-- arguments that lead nowhere -/
theorem pure_flat {g : List D → Sto → R D} {ds : List D} {S : Sto} {X : List Ob} {r : D} (hd : flats ds = true) (hg : g ds [.hid] = .ok r ([.hid] ++ X)) (hf : flat r = true) : pureC g ds S = .ok r S :=
  pure_of (L := []) (os := []) (by rw [flats_refs hd]; exact reach_nil) rfl rfl (flats_ren hd) hg hf
/-- an object that leads nowhere -/
def flatO : Ob → Bool
  | .lst ds => flats ds
  | .dK kvs => flats (kvs.map (·.2))
  | _ => false
theorem flatO_refs {o : Ob} (h : flatO o = true) : refsO o = [] := by
  cases o with
  | lst ds => exact flats_refs h
  | dK kvs => exact flats_refs h
  | _ => cases h
theorem flatO_ren {L : List Nat} {o : Ob} (h : flatO o = true) : renO L o = some o := by
  cases o with
  | lst ds => simp only [renO, flats_ren (show flats ds = true from h)]
  | dK kvs =>
    have e : flats (kvs.map (·.2)) = true := h
    simp only [renO, flats_ren e]
    have : (kvs.map (·.1)).zip (kvs.map (·.2)) = kvs := by
      clear h e
      induction kvs with
      | nil => rfl
      | cons a l ih => simp [ih]
    rw [this]
  | _ => cases h
theorem reach_one {S : Sto} {p : Nat} {o : Ob} (h : S[p]? = some o) (hf : flatO o = true) : reach 10000 S [p] [] = [p] := by
  have e : reach 10000 S [p] [] = reach (9997 + 1 + 1 + 1) S [p] [] := rfl
  rw [e]
  simp only [reach, List.contains_nil, Bool.false_eq_true, if_false, h, flatO_refs hf, List.nil_append]
theorem reach_two {S : Sto} {p q : Nat} {o o' : Ob} (hpq : p ≠ q) (h : S[p]? = some o) (h' : S[q]? = some o') (hf : flatO o = true) (hf' : flatO o' = true) : reach 10000 S [p, q] [] = [p, q] := by
  have e : reach 10000 S [p, q] [] = reach (9996 + 1 + 1 + 1 + 1) S [p, q] [] := rfl
  have c : ([p] : List Nat).contains q = false := by
    rw [Bool.eq_false_iff]
    intro z
    have z2 := List.contains_iff_mem.mp z
    simp only [List.mem_cons, List.not_mem_nil, or_false] at z2
    exact hpq z2.symm
  rw [e]
  simp only [reach, List.contains_nil, Bool.false_eq_true, if_false, h, h', flatO_refs hf, flatO_refs hf', List.nil_append, c, List.cons_append]
theorem ix_one {p : Nat} : ixOf p [p] = some 1 := by simp [ixOf]
theorem ix_two {p q : Nat} (h : p ≠ q) : ixOf p [p, q] = some 1 ∧ ixOf q [p, q] = some 2 := by
  have : Nat.beq p q = false := by
    rw [Bool.eq_false_iff]
    exact fun z => h (Nat.eq_of_beq_eq_true z)
  simp [ixOf, this]
theorem comp_pure {J : List D} {g : Option Nat} {turn : D → Sto → R (Option D)} {h : D → Option D} {S : Sto} (hg : guardOk J g S = true) : ∀ {ds acc : List D}, (∀ d, d ∈ ds → turn d S = .ok (h d) S) → acc.length + ds.length ≤ sizeLine → compD J g turn ds acc S = .ok (acc ++ ds.filterMap h) S
  | [], acc, _, _ => by simp [compD, hg]
  | d :: ds, acc, k, hl => by
    have k1 := k d List.mem_cons_self
    have k2 : ∀ d, d ∈ ds → turn d S = .ok (h d) S := fun d hd => k d (List.mem_cons_of_mem _ hd)
    simp only [List.length_cons] at hl
    simp only [compD, hg, if_true, k1, bind_ok]
    cases e : h d with
    | none =>
      dsimp only
      rw [comp_pure hg k2 (by omega), List.filterMap_cons_none e]
    | some x =>
      dsimp only
      rw [if_pos (by omega), comp_pure hg k2 (by simp; omega), List.filterMap_cons_some e]
      simp
theorem lc_pure {it : DEnv → Sto → R It} {own : List Nat} {tg : Tg} {ifs : List Xp} {elt : Xp} {env : DEnv} {S : Sto} {J : It} (h : D → Option D) (hi : it env S = .ok J S) (hg : guardOk J.ds J.g S = true) (ht : ∀ d, d ∈ J.ds → turnX own tg ifs elt env d S = .ok (h d) S) (hl : J.ds.length ≤ sizeLine) :
    lcX it own tg ifs elt env S = .ok (.ref S.length) (S ++ [.lst (J.ds.filterMap h)]) := by
  unfold lcX
  rw [hi]
  simp only [bind_ok]
  rw [comp_pure hg ht (by simpa using hl)]
  simp [newO]
theorem guard_lst {S : Sto} {k : Nat} {ds : List D} (h : S[k]? = some (.lst ds)) : guardOk ds (some k) S = true := by simp [guardOk, h]
theorem it_lst {S : Sto} {k : Nat} {ds : List D} {x : Xp} {env : DEnv} (e : x env S = .ok (.ref k) S) (h : S[k]? = some (.lst ds)) : itX x env S = .ok ⟨ds, some k⟩ S := by simp [itX, e, itD, h]
theorem snap_ints {S : Sto} {n : Nat} : ∀ {l : List Int}, optAll (snap S (n + 1)) (l.map D.int) = some (l.map PyData.int)
  | [] => rfl
  | c :: l => by
    have ih := snap_ints (S := S) (n := n) (l := l)
    simp only [List.map_cons, optAll, ih]
    rfl
theorem shaped_ints (l : List Int) : SeqAt.shaped (.list (l.map PyData.int)) = true := by
  have a1 : ∀ l : List Int, PyData.canLayAll0 (l.map PyData.int) = true := by
    intro l
    induction l with
    | nil => simp [PyData.canLayAll0]
    | cons a l ih => simp only [List.map_cons, PyData.canLayAll0, ih, Bool.and_true]; simp [PyData.canLay0]
  have a2 : ∀ l : List Int, PyData.depthAll (l.map PyData.int) = 0 := by
    intro l
    induction l with
    | nil => simp [PyData.depthAll]
    | cons a l ih => simp [PyData.depthAll, PyData.depth, ih]
  unfold SeqAt.shaped
  simp [PyData.canLay0, PyData.depth, a1, a2]
theorem eqv_int (i j : Int) : PyData.eqv (.int i) (.int j) = (i == j) := by kernel_rfl
theorem eqv_ints : ∀ (l m : List Int), PyData.eqvAll (l.map PyData.int) (m.map PyData.int) = (l == m)
  | [], [] => by simp [PyData.eqvAll]
  | [], _ :: _ => by simp [PyData.eqvAll]
  | _ :: _, [] => by simp [PyData.eqvAll]
  | a :: l, b :: m => by
    have := eqv_ints l m
    simp only [List.map_cons, PyData.eqvAll, this, eqv_int]
    rfl
theorem at_ints {S : Sto} {k : Nat} {l : List Int} (h : S[k]? = some (.lst (l.map D.int))) : At S (.ref k) (.list (l.map PyData.int)) := at_lst (n := 1) (by decide) h (snap_ints (n := 0))
theorem eq_int_lists {S : Sto} {i j : Nat} {l m : List Int} (h1 : S[i]? = some (.lst (l.map D.int))) (h2 : S[j]? = some (.lst (m.map D.int))) : eqD S (.ref i) (.ref j) = some (l == m) := by
  rw [eqD_lists (at_ints h1).sn (at_ints h2).sn (shaped_ints l) (shaped_ints m)]
  have : PyData.eqv (.list (l.map PyData.int)) (.list (m.map PyData.int)) = PyData.eqvAll (l.map PyData.int) (m.map PyData.int) := by simp [PyData.eqv]
  rw [this, eqv_ints]
theorem ints_map (l : List Int) : intsD (l.map D.int) = some l := by
  induction l with
  | nil => rfl
  | cons a l ih => simp only [List.map_cons, intsD, ih]
theorem flats_ints (l : List Int) : flats (l.map D.int) = true := by
  induction l with
  | nil => rfl
  | cons a l ih => simp only [List.map_cons, flats, ih]; rfl
theorem eq_strs {S : Sto} {x y : Str} : eqD S (.str x) (.str y) = some (x == y) := by
  have : eqD S (.str x) (.str y) = some (strB x y) := rfl
  rw [this, strB_eq]
/-- a take's body, its three numbers -/
def takeB (a b c : Int) : List Yp := [ifX (tstX (cmpX .Gt (subX (lk 0) (cst (.int 0))) (cst (.int 0)))) [asgX (tgN 2) (binX .Mod (subX (lk 0) (cst (.int 0))) (lk 1)), setX (lk 0) (cst (.int 0)) (binX .FloorDiv (subX (lk 0) (cst (.int 0))) (lk 1)), retX (lk 2)] [],
  setX (lk 0) (cst (.int 1)) (binX .Mod (binX .Add (binX .Mult (subX (lk 0) (cst (.int 1))) (cst (.int a))) (cst (.int b))) (cst (.int 2147483647))),
  retX (binX .Mod (binX .FloorDiv (binX .Mod (binX .Mult (subX (lk 0) (cst (.int 1))) (subX (lk 0) (cst (.int 1)))) (cst (.int 2147483629))) (cst (.int c))) (lk 1))]
theorem take_any {a b c : Int} (sa : smallI a) (hc : 0 < c ∧ c < 1073741824) {S : Sto} {k : Nat} (h : PoolAt S k) {m : Int} (h0 : 0 < m) (h1 : m < 1073741824) : ∃ r S', 0 ≤ r ∧ r < m ∧ PoolAt S' k ∧ Kp k S S' ∧ finX (sqX (takeB a b c) [some (.ref k), some (.int m), none] S) = .ok (.int r) S' := by
  have s9 : small9 m := small9_iff.mpr ⟨by omega, h1⟩
  have c9 : small9 c := small9_iff.mpr ⟨by omega, hc.2⟩
  obtain ⟨p, q, e, ha, hb, hb2⟩ := h
  have hk := (List.getElem?_eq_some_iff.mp e).1
  have x0 : ixD S (.ref k) (.int 0) = some (.int p) := by simp [ixD, e, atI, ixN]
  have x1 : ixD S (.ref k) (.int 1) = some (.int q) := by simp [ixD, e, atI, ixN]
  simp only [takeB, sqX, finX]
  by_cases hp : 0 < p
  · have s0 : setD (.ref k) (.int 0) (.int (p / m)) S = .ok () (S.set k (.lst [.int (p / m), .int q])) := by simp [setD, e, ixN]
    refine ⟨p % m, S.set k (.lst [.int (p / m), .int q]), Int.emod_nonneg _ (by omega), Int.emod_lt_of_pos _ h0, ⟨p / m, q, by rw [List.getElem?_set_self hk], Int.ediv_nonneg ha (by omega), hb, hb2⟩, Kp.set, ?_⟩
    simp [x0, x1, cmpD, cmpO, hp, binD, binI, h0, s9, s0]
  · have hp' : ¬ (0 < p) := hp
    have b0 := Int.emod_nonneg (q * a + b) (show (2147483647 : Int) ≠ 0 by decide)
    have b1 := Int.emod_lt_of_pos (q * a + b) (show (0 : Int) < 2147483647 by decide)
    generalize hcc : (q * a + b) % 2147483647 = d at b0 b1
    have sb : smallI d := smallI_iff.mpr ⟨by omega, by omega⟩
    have s1 : setD (.ref k) (.int 1) (.int d) S = .ok () (S.set k (.lst [.int p, .int d])) := by simp [setD, e, ixN]
    have y1 : ixD (S.set k (.lst [.int p, .int d])) (.ref k) (.int 1) = some (.int d) := by simp [ixD, List.getElem?_set_self hk, atI, ixN]
    refine ⟨d * d % 2147483629 / c % m, S.set k (.lst [.int p, .int d]), Int.emod_nonneg _ (by omega), Int.emod_lt_of_pos _ h0, ⟨p, d, by rw [List.getElem?_set_self hk], ha, b0, b1⟩, Kp.set, ?_⟩
    simp [x0, x1, cmpD, cmpO, hp', binD, binI, h0, s1, y1, hcc, sa, sb, hc.1, c9]
theorem for_all {J : List D} {g : Option Nat} {f : D → DEnv → Sto → RS} {S : Sto} {r : D} {P : DEnv → Prop} {p : D → Bool} (hg : guardOk J g S = true) : ∀ {ds : List D} {env : DEnv}, P env →
    (∀ d, d ∈ ds → ∀ env, P env → (p d = true ∧ ∃ env', P env' ∧ f d env S = .nx env' S) ∨ (p d = false ∧ f d env S = .rt r S)) →
    (ds.all p = true ∧ ∃ env', P env' ∧ forD J g f ds env S = .nx env' S) ∨ (ds.all p = false ∧ forD J g f ds env S = .rt r S)
  | [], env, hp, _ => .inl ⟨rfl, env, hp, by simp only [forD, hg, if_true]⟩
  | d :: ds, env, hp, h => by
    rcases h d List.mem_cons_self env hp with ⟨h1, env1, hp1, h2⟩ | ⟨h1, h2⟩
    · rcases for_all hg (ds := ds) hp1 (fun d hd => h d (List.mem_cons_of_mem _ hd)) with ⟨k1, env2, hp2, k2⟩ | ⟨k1, k2⟩
      · exact .inl ⟨by simp [h1, k1], env2, hp2, by simp only [forD, hg, if_true, h2, k2]⟩
      · exact .inr ⟨by simp [h1, k1], by simp only [forD, hg, if_true, h2, k2]⟩
    · exact .inr ⟨by simp [h1], by simp only [forD, hg, if_true, h2]⟩
theorem rngX2 {x y : Xp} {env : DEnv} {S : Sto} {i j : Int} (ex : x env S = .ok (.int i) S) (ey : y env S = .ok (.int j) S) (hi : -1000000 ≤ i ∧ i ≤ 1000000) (hj : -1000000 ≤ j ∧ j ≤ 1000000) : rngX [x, y] env S = .ok ⟨rangeD i (j - i).toNat, none⟩ S := by
  have e : rangeIt [.int i, .int j] = if smallR i ∧ smallR j then some ⟨rangeD i (j - i).toNat, none⟩ else none := rfl
  have a : allX [x, y] env S = .ok [.int i, .int j] S := by simp only [allX, all_cons, all_nil, ex, ey, bind_ok]
  have u : rngX [x, y] env S = (allX [x, y] env S).bind fun ds S => ofO S (rangeIt ds) := rfl
  rw [u, a, bind_ok, e, if_pos ⟨smallR_of ⟨by omega, by omega⟩, smallR_of ⟨by omega, by omega⟩⟩, ofO_some]
theorem range_mem : ∀ {n : Nat} {lo : Int} {d : D}, d ∈ rangeD lo n → ∃ i : Int, d = .int i ∧ lo ≤ i ∧ i < lo + n
  | 0, lo, d, h => by simp [rangeD] at h
  | n + 1, lo, d, h => by
    simp only [rangeD, List.mem_cons] at h
    rcases h with rfl | h
    · exact ⟨lo, rfl, Int.le_refl _, by omega⟩
    · obtain ⟨i, rfl, a, b⟩ := range_mem h
      exact ⟨i, rfl, by omega, by omega⟩
end Cor
end
section
set_option linter.all false
set_option maxRecDepth 100000
set_option maxHeartbeats 0
namespace Cor
open PySem PySem.Spec PySem.W PySem.Calls PyProof.Rows L2
def top (i : Nat) : Stmt := PySem.Challenge.pw_waitedmeets_k62_words_kept_by_notes.main.body.getD i (.Pass ⟨0, 0, 0, 0⟩)
def q1 : DefI := ⟨"is_whole", top 1, ["thing"]⟩
def q4 : DefI := ⟨"comes_right_behind", top 4, ["notes", "number"]⟩
def q5 : DefI := ⟨"is_reading", top 5, ["many", "notes", "k"]⟩
def q6 : DefI := ⟨"keeps", top 6, ["word", "of", "notes", "k", "one"]⟩
def q8 : DefI := ⟨"_law_pool", top 8, ["script", "k", "cell", "size", "seed"]⟩
def q9 : DefI := ⟨"_law_take", top 9, ["pool", "many", "found"]⟩
def q10 : DefI := ⟨"_law_one", top 10, ["pool", "some"]⟩
def q11 : DefI := ⟨"_law_made_programs", top 11, ["pool", "numbers", "found", "turn"]⟩
def q12 : DefI := ⟨"_law_right_behind", top 12, ["notes", "number"]⟩
def q13 : DefI := ⟨"_law_keeps", top 13, ["word", "of", "notes", "k"]⟩
def q14 : DefI := ⟨"_law_drawn", top 14, ["pool", "word", "of", "found", "some", "one", "both"]⟩
def q15 : DefI := ⟨"_law_due", top 15, ["word", "of", "notes", "one"]⟩
def q16 : DefI := ⟨"_law_bent", top 16, ["pool", "notes", "at", "odd", "other", "turned", "some"]⟩
def q17 : DefI := ⟨"law", top 17, ["script", "k", "pool", "word", "of", "good", "notes", "kept", "turn"]⟩
def defsI : List DefI := [q1, q4, q5, q6, q8, q9, q10, q11, q12, q13, q14, q15, q16, q17]
def glC : List (Str × D) := [("LAST", .int 9)]
def glT : List (Str × D) := glC ++ defsI.map (fun d => (d.f, .glob d.f))
def kbl : KbL := []
def puL : List Str := ["is_whole", "comes_right_behind", "is_reading", "keeps", "_law_right_behind", "_law_keeps", "_law_due"]
def puF (f : Str) : Bool := puL.contains f
def TT (n : Nat) : GT := tab defsI (fun x => glT.lookup x) (kbOf kbl) 1000 puF n
abbrev rowO : PySem.W.OpenRow := PySem.W.OpenLaw.row PySem.Challenge.rw_waitedmeets_k62_words_kept_by_notes
def fnH : List He.DefD := defsI.map defD
abbrev hk : PySem.W.Hook := He.hookX 4 (frees glT) fnH [] [] (exB glT)
def ob (s : PySem.W.SharedT) : He.AlX := He.obsX 4 (frees glT) fnH [] [] (exB glT) (HandSHeadRun.getT s)
theorem ob_eq (s : PySem.W.SharedT) : ob s = hk.obs s.abs := He.obsX_eq (HandSHeadRun.getT_eq s)
def loose0 : List Str := ["is_whole", "LAST", "comes_right_behind", "is_reading", "keeps", "_law_pool", "_law_take", "_law_one", "_law_made_programs", "_law_right_behind", "_law_keeps", "_law_drawn", "_law_due", "_law_bent"]
def loose : List Str := loose0
theorem run (w : World) : HandSHeadRun.RunEq rowO (PySem.W.view rowO.prog [17]) hk ob 3000 loose w := by
  intro os
  kernel_rfl
theorem sc_all : ∀ d ∈ defsI, scB d = true := by
  have h : defsI.all scB = true := by decide +kernel
  exact List.all_eq_true.mp h
theorem gl_all : ∀ d ∈ defsI, glT.lookup d.f = some (.glob d.f) := by
  have h : defsI.all (fun d => decide (glT.lookup d.f = some (.glob d.f))) = true := by decide +kernel
  exact fun d hd => of_decide_eq_true (List.all_eq_true.mp h d hd)
theorem bp1 : BindP q1 := fun _ _ _ _ _ _ us hl => match us, hl with | [_], _ => rfl
theorem bp4 : BindP q4 := fun _ _ _ _ _ _ us hl => match us, hl with | [_, _], _ => rfl
theorem bp5 : BindP q5 := fun _ _ _ _ _ _ us hl => match us, hl with | [_, _], _ => rfl
theorem bp6 : BindP q6 := fun _ _ _ _ _ _ us hl => match us, hl with | [_, _, _], _ => rfl
theorem bp8 : BindP q8 := fun _ _ _ _ _ _ us hl => match us, hl with | [_, _], _ => rfl
theorem bp9 : BindP q9 := fun _ _ _ _ _ _ us hl => match us, hl with | [_, _], _ => rfl
theorem bp10 : BindP q10 := fun _ _ _ _ _ _ us hl => match us, hl with | [_, _], _ => rfl
theorem bp11 : BindP q11 := fun _ _ _ _ _ _ us hl => match us, hl with | [_], _ => rfl
theorem bp12 : BindP q12 := fun _ _ _ _ _ _ us hl => match us, hl with | [_, _], _ => rfl
theorem bp13 : BindP q13 := fun _ _ _ _ _ _ us hl => match us, hl with | [_, _, _], _ => rfl
theorem bp14 : BindP q14 := fun _ _ _ _ _ _ us hl => match us, hl with | [_, _, _], _ => rfl
theorem bp15 : BindP q15 := fun _ _ _ _ _ _ us hl => match us, hl with | [_, _, _], _ => rfl
theorem bp16 : BindP q16 := fun _ _ _ _ _ _ us hl => match us, hl with | [_, _], _ => rfl
theorem bp17 : BindP q17 := fun _ _ _ _ _ _ us hl => match us, hl with | [_], _ => rfl
theorem bp_all : ∀ d ∈ defsI, BindP d := by
  intro d hd
  simp only [defsI, List.mem_cons, List.not_mem_nil, or_false] at hd
  rcases hd with rfl | rfl | rfl | rfl | rfl | rfl | rfl | rfl | rfl | rfl | rfl | rfl | rfl | rfl
  · exact bp1
  · exact bp4
  · exact bp5
  · exact bp6
  · exact bp8
  · exact bp9
  · exact bp10
  · exact bp11
  · exact bp12
  · exact bp13
  · exact bp14
  · exact bp15
  · exact bp16
  · exact bp17
theorem bk_all : ∀ z ∈ kbl, ∀ d ∈ defsI, d.f = z.1 → BindK d z.2.1 z.2.2 := by
  intro z hz d hd e
  exact absurd hz (by simp [kbl])
theorem law_end (hm : ∀ ns : List Int, ns.length ≤ 63 → (∀ z ∈ ns, Builtin.Int.intBits z ≤ 1048576) → ∃ Sf, (TT 12).fn "law" [.ref 0] [.frz (ns.map .int)] = .ok (.bl true) Sf) : PySem.Challenge.rw_waitedmeets_k62_words_kept_by_notes.Holds := by
  w_on; o_law
  refine HandSHeadRun.head_any (r := rowO) (q := PySem.W.view rowO.prog [17]) (H := hk) (ob := ob) (M := 3000) (loose := loose) (d := HandSHeadRun.topDef rowO.prog 17) (kwd := []) ob_eq
    (by kernel_rfl) (fun s => by kernel_rfl) run (by kernel_rfl) (by kernel_rfl) (by kernel_rfl) (by rfl) (by first | assumption | decide +kernel) (by decide +kernel) ⟨rfl, rfl, rfl, rfl, rfl, by decide +kernel⟩ ?hw ?hc
  case hw => w_witness2
  case hc =>
    refine walk_D (l := PySem.Challenge.rw_waitedmeets_k62_words_kept_by_notes) (n := 63) (k := 12) (x := "script") (g := (TT 12).fn "law") rfl (by decide) (by kernel_rfl) ⟨rfl, by decide, by decide⟩ (fun w mg fa h Y G hmg => ?_) hm
    have e0 : (HandSHeadRun.topDef rowO.prog 17).name = ("law" : Str) := by kernel_rfl
    rw [e0] at hmg
    exact law_facts (kbl := kbl) (defs := defsI) (gs := glT) (d := q17) (fa := fa) Y G hmg sc_all gl_all bp_all bk_all (by decide +kernel) rfl rfl
end Cor
end
section
set_option linter.all false
set_option maxRecDepth 100000
set_option maxHeartbeats 0
namespace Cor
open PySem L2
def m_is_whole (F : Str → List D → Sto → R D) : List Yp := [retX (valsX false [(callX (callB .isinstance) [(lk 0), (cst (.ty .int))]), (notX (callX (callB .isinstance) [(lk 0), (cst (.ty .bool))]))])]
def p_is_whole (F : Str → List D → Sto → R D) : List D → Sto → R D := fun ds S => match ds with
  | [x0] => finX (sqX (m_is_whole F) [some x0] S)
  | _ => .no
theorem m_is_whole_one (n : Nat) (a0 : D) (S : Sto) : evF (TT n) q1.N (stScope q1.st).names (stBody q1.st) [a0] S = p_is_whole (TT n).fn [a0] S := by kernel_rfl
theorem m_is_whole_eq (n : Nat) (x0 : D) (S : Sto) : (TT (n + 1)).fn "is_whole" [x0] S = pureC (p_is_whole (TT n).fn) [x0] S :=
  (show (TT (n + 1)).fn "is_whole" [x0] S = pureC (evF (TT n) q1.N (stScope q1.st).names (stBody q1.st)) [x0] S by kernel_rfl).trans (pureC_congr fun es S hl => match es, hl with | [a0], _ => m_is_whole_one n a0 S)
def m_comes_right_behind (F : Str → List D → Sto → R D) : List Yp := [ifX (testsX true [(tstX (cmpX .NotEq (mtX .count (lk 0) [(lk 1)]) (cst (.int 1)))), (tstX (cmpX .NotEq (mtX .count (lk 0) [(negX (lk 1))]) (cst (.int 1))))]) [retX (cst (.bl false))] [],
  retX (cmpX .Eq (mtX .index (lk 0) [(negX (lk 1))]) (binX .Add (mtX .index (lk 0) [(lk 1)]) (cst (.int 1))))]
def p_comes_right_behind (F : Str → List D → Sto → R D) : List D → Sto → R D := fun ds S => match ds with
  | [x0, x1] => finX (sqX (m_comes_right_behind F) [some x0, some x1] S)
  | _ => .no
theorem m_comes_right_behind_one (n : Nat) (a0 a1 : D) (S : Sto) : evF (TT n) q4.N (stScope q4.st).names (stBody q4.st) [a0, a1] S = p_comes_right_behind (TT n).fn [a0, a1] S := by kernel_rfl
theorem m_comes_right_behind_eq (n : Nat) (x0 x1 : D) (S : Sto) : (TT (n + 1)).fn "comes_right_behind" [x0, x1] S = pureC (p_comes_right_behind (TT n).fn) [x0, x1] S :=
  (show (TT (n + 1)).fn "comes_right_behind" [x0, x1] S = pureC (evF (TT n) q4.N (stScope q4.st).names (stBody q4.st)) [x0, x1] S by kernel_rfl).trans (pureC_congr fun es S hl => match es, hl with | [a0, a1], _ => m_comes_right_behind_one n a0 a1 S)
def m_is_reading (F : Str → List D → Sto → R D) : List Yp := [forX (rngX [(cst (.int 1)), (binX .Add (lk 0) (cst (.int 1)))]) (tgN 2) [ifX (testsX true [(tstX (cmpX .NotEq (mtX .count (lk 1) [(lk 2)]) (cst (.int 1)))), (tstX (cmpX .NotEq (mtX .count (lk 1) [(negX (lk 2))]) (cst (.int 1)))), (tstX (cmpX .Gt (mtX .index (lk 1) [(lk 2)]) (mtX .index (lk 1) [(negX (lk 2))])))]) [retX (cst (.bl false))] []],
  retX (valsX false [(cmpX .Eq (callX (callB .len) [(lk 1)]) (binX .Add (binX .Mult (cst (.int 2)) (lk 0)) (cst (.int 2)))), (callX (F "comes_right_behind") [(lk 1), (cst (.int 9))])])]
def p_is_reading (F : Str → List D → Sto → R D) : List D → Sto → R D := fun ds S => match ds with
  | [x0, x1] => finX (sqX (m_is_reading F) [some x0, some x1, none] S)
  | _ => .no
theorem m_is_reading_one (n : Nat) (a0 a1 : D) (S : Sto) : evF (TT n) q5.N (stScope q5.st).names (stBody q5.st) [a0, a1] S = p_is_reading (TT n).fn [a0, a1] S := by kernel_rfl
theorem m_is_reading_eq (n : Nat) (x0 x1 : D) (S : Sto) : (TT (n + 1)).fn "is_reading" [x0, x1] S = pureC (p_is_reading (TT n).fn) [x0, x1] S :=
  (show (TT (n + 1)).fn "is_reading" [x0, x1] S = pureC (evF (TT n) q5.N (stScope q5.st).names (stBody q5.st)) [x0, x1] S by kernel_rfl).trans (pureC_congr fun es S hl => match es, hl with | [a0, a1], _ => m_is_reading_one n a0 a1 S)
def m_keeps (F : Str → List D → Sto → R D) : List Yp := [ifX (testsX true [(notT (tstX (callX (callB .isinstance) [(lk 2), (cst (.ty .list))]))), (notT (tstX (callX (callB .all) [(lcX (itX (lk 2)) [4] (tgN 4) [] (callX (F "is_whole") [(lk 4)]))])))]) [retX (cst (.bl false))] [],
  ifX (tstX (cmpX .Eq (lk 0) (cst (.str "shelved")))) [retX (cmpX .Eq (lk 2) (lk 1))] [],
  ifX (tstX (cmpX .Eq (lk 0) (cst (.str "met")))) [retX (cmpX .Eq (lk 2) (binX .Add (binX .Mult (lstX [(cst (.int 1))]) (lk 1)) (binX .Mult (lstX [(cst (.int 2))]) (lk 1))))] [],
  ifX (tstX (cmpX .Eq (lk 0) (cst (.str "reading")))) [retX (callX (F "is_reading") [(lk 1), (lk 2)])] [],
  retX (valsX false [(cmpX .Eq (callX (callB .len) [(lk 2)]) (binX .Mult (cst (.int 2)) (lk 1))), (callX (callB .all) [(lcX (rngX [(cst (.int 1)), (binX .Add (lk 1) (cst (.int 1)))]) [3] (tgN 3) [] (callX (F "comes_right_behind") [(lk 2), (lk 3)]))])])]
def p_keeps (F : Str → List D → Sto → R D) : List D → Sto → R D := fun ds S => match ds with
  | [x0, x1, x2] => finX (sqX (m_keeps F) [some x0, some x1, some x2, none, none] S)
  | _ => .no
theorem m_keeps_one (n : Nat) (a0 a1 a2 : D) (S : Sto) : evF (TT n) q6.N (stScope q6.st).names (stBody q6.st) [a0, a1, a2] S = p_keeps (TT n).fn [a0, a1, a2] S := by kernel_rfl
theorem m_keeps_eq (n : Nat) (x0 x1 x2 : D) (S : Sto) : (TT (n + 1)).fn "keeps" [x0, x1, x2] S = pureC (p_keeps (TT n).fn) [x0, x1, x2] S :=
  (show (TT (n + 1)).fn "keeps" [x0, x1, x2] S = pureC (evF (TT n) q6.N (stScope q6.st).names (stBody q6.st)) [x0, x1, x2] S by kernel_rfl).trans (pureC_congr fun es S hl => match es, hl with | [a0, a1, a2], _ => m_keeps_one n a0 a1 a2 S)
def mlaw_pool (F : Str → List D → Sto → R D) : List Yp := [asgX (tgN 2) (subX (binX .Add (cutX (lk 0) (some (lk 1)) (some (binX .Add (lk 1) (cst (.int 1))))) (lstX [(cst (.int 0))])) (cst (.int 0))),
  asgX (tgN 3) (callX (callB .max) [(lk 2), (binX .Sub (negX (cst (.int 1))) (lk 2))]),
  asgX (tgN 4) (binX .Mod (binX .Mult (binX .Add (binX .Add (binX .Mod (lk 3) (cst (.int 2147483629))) (binX .Mult (cst (.int 7919)) (lk 1))) (cst (.int 1))) (cst (.int 48271))) (cst (.int 2147483647))),
  retX (lstX [(binX .Mult (lk 3) (callX (callB .int) [(cmpX .GtE (lk 3) (binX .Pow (cst (.int 10)) (cst (.int 18))))])), (lk 4)])]
theorem mlaw_pool_eq (n : Nat) (x0 x1 : D) (S : Sto) : (TT (n + 1)).fn "_law_pool" [x0, x1] S = finX (sqX (mlaw_pool (TT n).fn) [some x0, some x1, none, none, none] S) := by kernel_rfl
def mlaw_take (F : Str → List D → Sto → R D) : List Yp := [ifX (tstX (cmpX .Gt (subX (lk 0) (cst (.int 0))) (cst (.int 0)))) [asgX (tgN 2) (binX .Mod (subX (lk 0) (cst (.int 0))) (lk 1)), setX (lk 0) (cst (.int 0)) (binX .FloorDiv (subX (lk 0) (cst (.int 0))) (lk 1)), retX (lk 2)] [],
  setX (lk 0) (cst (.int 1)) (binX .Mod (binX .Add (binX .Mult (subX (lk 0) (cst (.int 1))) (cst (.int 48271))) (cst (.int 11))) (cst (.int 2147483647))),
  retX (binX .Mod (binX .FloorDiv (binX .Mod (binX .Mult (subX (lk 0) (cst (.int 1))) (subX (lk 0) (cst (.int 1)))) (cst (.int 2147483629))) (cst (.int 64))) (lk 1))]
theorem mlaw_take_eq (n : Nat) (x0 x1 : D) (S : Sto) : (TT (n + 1)).fn "_law_take" [x0, x1] S = finX (sqX (mlaw_take (TT n).fn) [some x0, some x1, none] S) := by kernel_rfl
def mlaw_one (F : Str → List D → Sto → R D) : List Yp := [retX (subX (lk 1) (callX (F "_law_take") [(lk 0), (callX (callB .len) [(lk 1)])]))]
theorem mlaw_one_eq (n : Nat) (x0 x1 : D) (S : Sto) : (TT (n + 1)).fn "_law_one" [x0, x1] S = finX (sqX (mlaw_one (TT n).fn) [some x0, some x1] S) := by kernel_rfl
def mlaw_made_programs (F : Str → List D → Sto → R D) : List Yp := [asgX (tgN 1) (lcX (rngX [(binX .Add (cst (.int 1)) (callX (F "_law_take") [(lk 0), (cst (.int 3))]))]) [3] (tgN 3) [] (callX (F "_law_one") [(lk 0), (lstX [(cst (.int 0)), (cst (.int 5)), (negX (cst (.int 7))), (binX .Pow (cst (.int 10)) (cst (.int 9))), (cst (.int 3))])])),
  asgX (tgN 2) (lstX [(tupX [(cst (.str "locked")), (cst (.int 1))]), (tupX [(cst (.str "locked")), (cst (.int 2))]), (tupX [(cst (.str "shelved")), (lk 1)]), (tupX [(cst (.str "met")), (cst (.int 2))]), (tupX [(cst (.str "met")), (cst (.int 3))]), (tupX [(cst (.str "reading")), (cst (.int 1))]), (tupX [(cst (.str "reading")), (cst (.int 2))])]),
  retX (lk 2)]
theorem mlaw_made_programs_eq (n : Nat) (x0 : D) (S : Sto) : (TT (n + 1)).fn "_law_made_programs" [x0] S = finX (sqX (mlaw_made_programs (TT n).fn) [some x0, none, none, none] S) := by kernel_rfl
def mlaw_right_behind (F : Str → List D → Sto → R D) : List Yp := [ifX (testsX true [(tstX (cmpX .NotEq (mtX .count (lk 0) [(lk 1)]) (cst (.int 1)))), (tstX (cmpX .NotEq (mtX .count (lk 0) [(binX .Sub (cst (.int 0)) (lk 1))]) (cst (.int 1))))]) [retX (cst (.bl false))] [],
  retX (cmpX .Eq (mtX .index (lk 0) [(binX .Sub (cst (.int 0)) (lk 1))]) (binX .Add (mtX .index (lk 0) [(lk 1)]) (cst (.int 1))))]
def plaw_right_behind (F : Str → List D → Sto → R D) : List D → Sto → R D := fun ds S => match ds with
  | [x0, x1] => finX (sqX (mlaw_right_behind F) [some x0, some x1] S)
  | _ => .no
theorem mlaw_right_behind_one (n : Nat) (a0 a1 : D) (S : Sto) : evF (TT n) q12.N (stScope q12.st).names (stBody q12.st) [a0, a1] S = plaw_right_behind (TT n).fn [a0, a1] S := by kernel_rfl
theorem mlaw_right_behind_eq (n : Nat) (x0 x1 : D) (S : Sto) : (TT (n + 1)).fn "_law_right_behind" [x0, x1] S = pureC (plaw_right_behind (TT n).fn) [x0, x1] S :=
  (show (TT (n + 1)).fn "_law_right_behind" [x0, x1] S = pureC (evF (TT n) q12.N (stScope q12.st).names (stBody q12.st)) [x0, x1] S by kernel_rfl).trans (pureC_congr fun es S hl => match es, hl with | [a0, a1], _ => mlaw_right_behind_one n a0 a1 S)
def mlaw_keeps (F : Str → List D → Sto → R D) : List Yp := [ifX (tstX (cmpX .Eq (lk 0) (cst (.str "shelved")))) [retX (cmpX .Eq (lk 2) (lk 1))] [],
  ifX (tstX (cmpX .Eq (lk 0) (cst (.str "met")))) [retX (valsX false [(cmpX .Eq (callX (callB .sorted) [(lk 2)]) (lk 2)), (cmpX .Eq (callX (callB .len) [(lk 2)]) (binX .Mult (cst (.int 2)) (lk 1))), (cmpX .Eq (mtX .count (lk 2) [(cst (.int 1))]) (lk 1)), (cmpX .Eq (mtX .count (lk 2) [(cst (.int 2))]) (lk 1))])] [],
  ifX (tstX (cmpX .Eq (lk 0) (cst (.str "locked")))) [retX (valsX false [(cmpX .Eq (callX (callB .len) [(lk 2)]) (binX .Mult (cst (.int 2)) (lk 1))), (cmpX .Eq (lcX (rngX [(cst (.int 1)), (binX .Add (lk 1) (cst (.int 1)))]) [3] (tgN 3) [(notT (tstX (callX (F "_law_right_behind") [(lk 2), (lk 3)])))] (lk 3)) (lstX []))])] [],
  ifX (testsX true [(tstX (cmpX .NotEq (callX (callB .len) [(lk 2)]) (binX .Add (binX .Mult (cst (.int 2)) (lk 1)) (cst (.int 2))))), (notT (tstX (callX (F "_law_right_behind") [(lk 2), (cst (.int 9))])))]) [retX (cst (.bl false))] [],
  forX (rngX [(cst (.int 1)), (binX .Add (lk 1) (cst (.int 1)))]) (tgN 3) [ifX (testsX true [(tstX (cmpX .NotEq (mtX .count (lk 2) [(lk 3)]) (cst (.int 1)))), (tstX (cmpX .NotEq (mtX .count (lk 2) [(binX .Sub (cst (.int 0)) (lk 3))]) (cst (.int 1)))), (tstX (cmpX .Gt (mtX .index (lk 2) [(lk 3)]) (mtX .index (lk 2) [(binX .Sub (cst (.int 0)) (lk 3))])))]) [retX (cst (.bl false))] []],
  retX (cst (.bl true))]
def plaw_keeps (F : Str → List D → Sto → R D) : List D → Sto → R D := fun ds S => match ds with
  | [x0, x1, x2] => finX (sqX (mlaw_keeps F) [some x0, some x1, some x2, none] S)
  | _ => .no
theorem mlaw_keeps_one (n : Nat) (a0 a1 a2 : D) (S : Sto) : evF (TT n) q13.N (stScope q13.st).names (stBody q13.st) [a0, a1, a2] S = plaw_keeps (TT n).fn [a0, a1, a2] S := by kernel_rfl
theorem mlaw_keeps_eq (n : Nat) (x0 x1 x2 : D) (S : Sto) : (TT (n + 1)).fn "_law_keeps" [x0, x1, x2] S = pureC (plaw_keeps (TT n).fn) [x0, x1, x2] S :=
  (show (TT (n + 1)).fn "_law_keeps" [x0, x1, x2] S = pureC (evF (TT n) q13.N (stScope q13.st).names (stBody q13.st)) [x0, x1, x2] S by kernel_rfl).trans (pureC_congr fun es S hl => match es, hl with | [a0, a1, a2], _ => mlaw_keeps_one n a0 a1 a2 S)
def mlaw_drawn (F : Str → List D → Sto → R D) : List Yp := [ifX (tstX (cmpX .Eq (lk 1) (cst (.str "shelved")))) [retX (callX (callB .list) [(lk 2)])] [],
  ifX (tstX (cmpX .Eq (lk 1) (cst (.str "met")))) [retX (binX .Add (binX .Mult (lstX [(cst (.int 1))]) (lk 2)) (binX .Mult (lstX [(cst (.int 2))]) (lk 2)))] [],
  asgX (tgN 3) (lstX []),
  asgX (tgN 4) (binX .Add (lrX (cst (.int 1)) (binX .Add (lk 2) (cst (.int 1)))) (binX .Mult (lstX [(cst (.int 9))]) (callX (callB .int) [(cmpX .Eq (lk 1) (cst (.str "reading")))]))),
  whileX 1000 (tstX (cmpX .NotEq (lk 4) (lstX []))) [asgX (tgN 5) (mtX .pop (lk 4) [(callX (F "_law_take") [(lk 0), (callX (callB .len) [(lk 4)])])]), asgX (tgN 3) (binX .Add (lk 3) (lstX [(lk 5), (binX .Sub (cst (.int 0)) (lk 5))]))],
  ifX (testsX false [(tstX (cmpX .Eq (lk 1) (cst (.str "reading")))), (tstX (cmpX .Eq (lk 2) (cst (.int 2)))), (tstX (cmpX .Eq (callX (F "_law_take") [(lk 0), (cst (.int 2))]) (cst (.int 0))))]) [asgX (tgN 6) (lcX (itX (lk 3)) [5] (tgN 5) [(tstX (cmpX .NotIn (lk 5) (tupX [(cst (.int 9)), (negX (cst (.int 9)))])))] (lk 5)), asgX (tgN 6) (lstX [(subX (lk 6) (cst (.int 0))), (subX (lk 6) (cst (.int 2))), (subX (lk 6) (cst (.int 1))), (subX (lk 6) (cst (.int 3)))]), asgX (tgN 3) (subX (lstX [(binX .Add (lk 6) (lstX [(cst (.int 9)), (negX (cst (.int 9)))])), (binX .Add (lstX [(cst (.int 9)), (negX (cst (.int 9)))]) (lk 6))]) (callX (F "_law_take") [(lk 0), (cst (.int 2))]))] [],
  retX (lk 3)]
theorem mlaw_drawn_eq (n : Nat) (x0 x1 x2 : D) (S : Sto) : (TT (n + 1)).fn "_law_drawn" [x0, x1, x2] S = finX (sqX (mlaw_drawn (TT n).fn) [some x0, some x1, some x2, none, none, none, none] S) := by kernel_rfl
def mlaw_due (F : Str → List D → Sto → R D) : List Yp := [ifX (notT (tstX (callX (callB .isinstance) [(lk 2), (cst (.ty .list))]))) [retX (cst (.bl false))] [],
  ifX (tstX (cmpX .NotEq (lcX (itX (lk 2)) [3] (tgN 3) [(testsX true [(notT (tstX (callX (callB .isinstance) [(lk 3), (cst (.ty .int))]))), (tstX (callX (callB .isinstance) [(lk 3), (cst (.ty .bool))]))])] (lk 3)) (lstX []))) [retX (cst (.bl false))] [],
  retX (callX (F "_law_keeps") [(lk 0), (lk 1), (lk 2)])]
def plaw_due (F : Str → List D → Sto → R D) : List D → Sto → R D := fun ds S => match ds with
  | [x0, x1, x2] => finX (sqX (mlaw_due F) [some x0, some x1, some x2, none] S)
  | _ => .no
theorem mlaw_due_one (n : Nat) (a0 a1 a2 : D) (S : Sto) : evF (TT n) q15.N (stScope q15.st).names (stBody q15.st) [a0, a1, a2] S = plaw_due (TT n).fn [a0, a1, a2] S := by kernel_rfl
theorem mlaw_due_eq (n : Nat) (x0 x1 x2 : D) (S : Sto) : (TT (n + 1)).fn "_law_due" [x0, x1, x2] S = pureC (plaw_due (TT n).fn) [x0, x1, x2] S :=
  (show (TT (n + 1)).fn "_law_due" [x0, x1, x2] S = pureC (evF (TT n) q15.N (stScope q15.st).names (stBody q15.st)) [x0, x1, x2] S by kernel_rfl).trans (pureC_congr fun es S hl => match es, hl with | [a0, a1, a2], _ => mlaw_due_one n a0 a1 a2 S)
def mlaw_bent (F : Str → List D → Sto → R D) : List Yp := [asgX (tgN 2) (callX (F "_law_take") [(lk 0), (callX (callB .len) [(lk 1)])]),
  asgX (tgN 3) (callX (F "_law_one") [(lk 0), (lstX [(cst (.int 1)), (cst (.int 2)), (negX (cst (.int 1))), (cst (.int 9)), (negX (cst (.int 9))), (cst (.bl true)), (cst (.non)), (cst (.str "1")), (cst (.int 0)), (cst (.int 3)), (subX (lk 1) (lk 2))])]),
  asgX (tgN 4) (callX (F "_law_take") [(lk 0), (callX (callB .len) [(lk 1)])]),
  asgX (tgN 5) (callX (callB .list) [(lk 1)]),
  wideX 2 [(twS (lk 5) (lk 2)), (twS (lk 5) (lk 4))] (tupX [(subX (lk 1) (lk 4)), (subX (lk 1) (lk 2))]),
  asgX (tgN 6) (lstX [(binX .Add (binX .Add (cutX (lk 1) none (some (lk 2))) (lstX [(lk 3)])) (cutX (lk 1) (some (lk 2)) none)), (binX .Add (cutX (lk 1) none (some (lk 2))) (cutX (lk 1) (some (binX .Add (lk 2) (cst (.int 1)))) none)), (binX .Add (binX .Add (cutX (lk 1) none (some (lk 2))) (lstX [(lk 3)])) (cutX (lk 1) (some (binX .Add (lk 2) (cst (.int 1)))) none)), (lk 5)]),
  retX (callX (F "_law_one") [(lk 0), (binX .Add (lk 6) (lstX [(binX .Add (lk 1) (lk 1)), (callX (callB .tuple) [(lk 1)]), (revX (lk 1))]))])]
theorem mlaw_bent_eq (n : Nat) (x0 x1 : D) (S : Sto) : (TT (n + 1)).fn "_law_bent" [x0, x1] S = finX (sqX (mlaw_bent (TT n).fn) [some x0, some x1, none, none, none, none, none] S) := by kernel_rfl
def m_law (F : Str → List D → Sto → R D) : List Yp := [ifX (testsX true [(tstX (cmpX .IsNot (callX (F "keeps") [(cst (.str "reading")), (cst (.int 1)), (lstX [(cst (.int 1)), (cst (.int 9)), (negX (cst (.int 9))), (negX (cst (.int 1)))])]) (cst (.bl true)))), (tstX (cmpX .IsNot (callX (F "keeps") [(cst (.str "reading")), (cst (.int 2)), (lstX [(cst (.int 1)), (cst (.int 2)), (cst (.int 9)), (negX (cst (.int 9))), (negX (cst (.int 2))), (negX (cst (.int 1)))])]) (cst (.bl true))))]) [retX (cst (.bl false))] [],
  forX (rngX [(callX (callB .max) [(cst (.int 2)), (callX (callB .min) [(callX (callB .len) [(lk 0)]), (cst (.int 20))])])]) (tgN 1) [asgX (tgN 2) (callX (F "_law_pool") [(lk 0), (lk 1)]), forX (itX (callX (F "_law_made_programs") [(lk 2)])) (tgT 2 [(tgN 3), (tgN 4)]) [asgX (tgN 5) (callX (F "_law_drawn") [(lk 2), (lk 3), (lk 4)]), ifX (tstX (cmpX .IsNot (callX (F "keeps") [(lk 3), (lk 4), (lk 5)]) (cst (.bl true)))) [retX (cst (.bl false))] [], forX (itX (binX .Add (lstX [(cst (.non)), (tupX []), (lstX []), (cst (.str "")), dict0X, (lstX [(cst (.non))])]) (lcX (rngX [(cst (.int 8))]) [8] (tgN 8) [] (callX (F "_law_bent") [(lk 2), (lk 5)])))) (tgN 6) [asgX (tgN 7) (callX (callB .repr) [(lk 6)]), ifX (testsX true [(tstX (cmpX .NotEq (callX (callB .repr) [(callX (F "keeps") [(lk 3), (lk 4), (lk 6)])]) (callX (callB .repr) [(callX (F "_law_due") [(lk 3), (lk 4), (lk 6)])]))), (tstX (cmpX .NotEq (callX (callB .repr) [(lk 6)]) (lk 7)))]) [retX (cst (.bl false))] []]]],
  retX (cst (.bl true))]
theorem m_law_eq (n : Nat) (x0 : D) (S : Sto) : (TT (n + 1)).fn "law" [x0] S = finX (sqX (m_law (TT n).fn) [some x0, none, none, none, none, none, none, none, none] S) := by kernel_rfl
end Cor
end
section
set_option linter.all false
set_option maxRecDepth 100000
namespace Cor
open PySem L2
theorem whole_f {d : D} {S : Sto} {k : Kd} (hd : flat d = true) (hk : ∀ S, kdOf S d = some k) (n : Nat) : (TT (n+1)).fn "is_whole" [d] S = .ok (.bl (kitF k .int && !kitF k .bool)) S := by
  rw [m_is_whole_eq]
  refine pure_flat (X := []) (by simp [flats, hd]) ?_ rfl
  simp [p_is_whole, m_is_whole, isinst_k (hk _)]
  cases k <;> rfl
theorem cnt_int {S : Sto} {p : Nat} {l : List Int} {i : Int} (h : S[p]? = some (.lst (l.map D.int))) : callM .count (.ref p) [.int i] S = .ok (.int (l.count i : Nat)) S := by
  have e : lstD S (.ref p) = some (l.map D.int) := by simp [lstD, h]
  simp only [callM, countM, e, ints_map]
theorem idx_int {S : Sto} {p : Nat} {l : List Int} {i : Int} (h : S[p]? = some (.lst (l.map D.int))) (hi : i ∈ l) : callM .index (.ref p) [.int i] S = .ok (.int (l.idxOf i : Nat)) S := by
  have e1 : (l.map PyData.int).findIdx (fun y => PyData.eqv y (.int i)) = l.idxOf i := by
    rw [List.findIdx_map]
    unfold List.idxOf
    congr 1
  have hl : l.idxOf i < l.length := List.idxOf_lt_length_iff.mpr hi
  have sh : SeqAt.shaped (.int i) = true := by kernel_rfl
  have e2 : indexD S (.ref p) (.int i) = some (l.idxOf i) := by
    unfold indexD
    rw [at_int.sn, (at_ints h).sn]
    dsimp only
    rw [if_pos ⟨sh, shaped_ints l⟩, e1, if_pos (by simpa using hl)]
  show (match S[p]? with
    | some (.lst xs) => (match indexD S (.ref p) (.int i) with
      | some j => R.ok (D.int j) S
      | none => .no)
    | _ => .no) = _
  rw [h]; dsimp only; rw [e2]
theorem lstD_ints {S : Sto} {p : Nat} {l : List Int} (h : S[p]? = some (.lst (l.map D.int))) : (lstD S (.ref p)).isSome = true := by simp [lstD, h]
def behindB (l : List Int) (i : Int) : Bool := if l.count i ≠ 1 ∨ l.count (-i) ≠ 1 then false else l.idxOf (-i) == l.idxOf i + 1
theorem mem_of_count {l : List Int} {i : Int} (h : l.count i = 1) : i ∈ l := List.count_pos_iff.mp (by omega)
theorem int_eq_nat (a b : Nat) : ((a : Int) == (b : Int)) = (a == b) := by rw [Bool.eq_iff_iff, beq_iff_eq, beq_iff_eq]; omega
theorem behind_body {S : Sto} {p : Nat} {l : List Int} {i : Int} (h : S[p]? = some (.lst (l.map D.int))) (F) : p_comes_right_behind F [.ref p, .int i] S = .ok (.bl (behindB l i)) S := by
  have c1 := cnt_int (i := i) h
  have c2 := cnt_int (i := -i) h
  have ls := lstD_ints h
  unfold behindB
  by_cases h1 : l.count i = 1
  · by_cases h2 : l.count (-i) = 1
    · have i1 := idx_int h (mem_of_count h1)
      have i2 := idx_int h (mem_of_count h2)
      simp [p_comes_right_behind, m_comes_right_behind, ls, c1, c2, h1, h2, cmpD, cmpO, eq_ints, i1, i2, b_add]
      rw [← int_eq_nat]; push_cast; rfl
    · have : ((l.count (-i) : Int) == 1) = false := by rw [beq_eq_false_iff_ne]; omega
      simp [p_comes_right_behind, m_comes_right_behind, ls, c1, c2, h1, h2, cmpD, cmpO, eq_ints, this]
  · have : ((l.count i : Int) == 1) = false := by rw [beq_eq_false_iff_ne]; omega
    simp [p_comes_right_behind, m_comes_right_behind, ls, c1, h1, cmpD, cmpO, eq_ints, this]
theorem lbehind_body {S : Sto} {p : Nat} {l : List Int} {i : Int} (h : S[p]? = some (.lst (l.map D.int))) (F) : plaw_right_behind F [.ref p, .int i] S = .ok (.bl (behindB l i)) S := by
  have c1 := cnt_int (i := i) h
  have c2 := cnt_int (i := -i) h
  have ls := lstD_ints h
  have z : ∀ S, binD .Sub (.int 0) (.int i) S = .ok (.int (-i)) S := fun S => by
    show R.ok (D.int (0 - i)) S = _
    rw [Int.zero_sub]
  unfold behindB
  by_cases h1 : l.count i = 1
  · by_cases h2 : l.count (-i) = 1
    · have i1 := idx_int h (mem_of_count h1)
      have i2 := idx_int h (mem_of_count h2)
      simp [plaw_right_behind, mlaw_right_behind, ls, z, c1, c2, h1, h2, cmpD, cmpO, eq_ints, i1, i2, b_add]
      rw [← int_eq_nat]; push_cast; rfl
    · have : ((l.count (-i) : Int) == 1) = false := by rw [beq_eq_false_iff_ne]; omega
      simp [plaw_right_behind, mlaw_right_behind, ls, z, c1, c2, h1, h2, cmpD, cmpO, eq_ints, this]
  · have : ((l.count i : Int) == 1) = false := by rw [beq_eq_false_iff_ne]; omega
    simp [plaw_right_behind, mlaw_right_behind, ls, c1, h1, cmpD, cmpO, eq_ints, this]
/-- a pure call: a list of ints, and what leads nowhere -/
theorem pure_l {g : List D → Sto → R D} {S : Sto} {p : Nat} {o : Ob} {d r : D} {X : List Ob} (h : S[p]? = some o) (hp : 0 < p) (ho : flatO o = true) (hd : flat d = true) (hg : g [.ref 1, d] [.hid, o] = .ok r ([.hid, o] ++ X)) (hf : flat r = true) : pureC g [.ref p, d] S = .ok r S :=
  pure_of (L := [p]) (os := [o]) (es := [.ref 1, d]) (by simp only [refsDs, refsD, flat_refs hd, List.append_nil]; exact reach_one h ho) (by simp [nodupB, hp]) (by simp only [renS, h, flatO_ren ho]) (by simp only [renDs, renD, ix_one, flat_ren hd]) hg hf
theorem behind_at {S : Sto} {p : Nat} {l : List Int} {i : Int} (h : S[p]? = some (.lst (l.map D.int))) (hp : 0 < p) (n : Nat) : (TT (n+1)).fn "comes_right_behind" [.ref p, .int i] S = .ok (.bl (behindB l i)) S := by
  rw [m_comes_right_behind_eq]
  exact pure_l (X := []) h hp (flats_ints l) rfl (behind_body rfl _) rfl
theorem lbehind_at {S : Sto} {p : Nat} {l : List Int} {i : Int} (h : S[p]? = some (.lst (l.map D.int))) (hp : 0 < p) (n : Nat) : (TT (n+1)).fn "_law_right_behind" [.ref p, .int i] S = .ok (.bl (behindB l i)) S := by
  rw [mlaw_right_behind_eq]
  exact pure_l (X := []) h hp (flats_ints l) rfl (lbehind_body rfl _) rfl
end Cor
end
section
set_option linter.all false
set_option maxRecDepth 100000
namespace Cor
open PySem L2
/-- one number and its contrary: each once, the contrary behind -/
def onceB (l : List Int) (i : Int) : Bool := !(decide (l.count i ≠ 1) || (decide (l.count (-i) ≠ 1) || decide (l.idxOf (-i) < l.idxOf i)))
def onceD (l : List Int) (d : D) : Bool := match d with
  | .int i => onceB l i
  | _ => false
def readB (k : Nat) (l : List Int) : Bool := (rangeD 1 k).all (onceD l) && (l.length == 2 * k + 2 && behindB l 9)
theorem ne_one (n : Nat) : ((n : Int) == 1) = !decide (n ≠ 1) := by
  by_cases h : n = 1
  · subst h; rfl
  · have : ((n : Int) == 1) = false := by rw [beq_eq_false_iff_ne]; omega
    simp [this, h]
theorem once_turn {S : Sto} {p : Nat} {l : List Int} {i : Int} (h : S[p]? = some (.lst (l.map D.int))) (tst : Xp) (env : DEnv) :
    (onceB l i = true ∧ (testsX true [(tstX (cmpX .NotEq (mtX .count (cst (.ref p)) [(cst (.int i))]) (cst (.int 1)))), (tstX (cmpX .NotEq (mtX .count (cst (.ref p)) [(cst (.int (-i)))]) (cst (.int 1)))), (tstX (cmpX .Gt (mtX .index (cst (.ref p)) [(cst (.int i))]) (mtX .index (cst (.ref p)) [(cst (.int (-i)))])))]) env S = .ok (.bl false) S) ∨
    (onceB l i = false ∧ (testsX true [(tstX (cmpX .NotEq (mtX .count (cst (.ref p)) [(cst (.int i))]) (cst (.int 1)))), (tstX (cmpX .NotEq (mtX .count (cst (.ref p)) [(cst (.int (-i)))]) (cst (.int 1)))), (tstX (cmpX .Gt (mtX .index (cst (.ref p)) [(cst (.int i))]) (mtX .index (cst (.ref p)) [(cst (.int (-i)))])))]) env S = .ok (.bl true) S) := by
  have c1 := cnt_int (i := i) h
  have c2 := cnt_int (i := -i) h
  have ls := lstD_ints h
  unfold onceB
  by_cases h1 : l.count i = 1
  · by_cases h2 : l.count (-i) = 1
    · have i1 := idx_int h (mem_of_count h1)
      have i2 := idx_int h (mem_of_count h2)
      by_cases h3 : l.idxOf (-i) < l.idxOf i
      · right
        simp [ls, c1, c2, h1, h2, cmpD, cmpO, eq_ints, i1, i2, h3]
      · left
        simp [ls, c1, c2, h1, h2, cmpD, cmpO, eq_ints, i1, i2, h3]
    · right
      have : ((l.count (-i) : Int) == 1) = false := by rw [beq_eq_false_iff_ne]; omega
      simp [ls, c1, c2, h1, h2, cmpD, cmpO, eq_ints, this]
  · right
    have : ((l.count i : Int) == 1) = false := by rw [beq_eq_false_iff_ne]; omega
    simp [ls, c1, h1, cmpD, cmpO, eq_ints, this]
theorem len_ints {S : Sto} {p : Nat} {l : List Int} (h : S[p]? = some (.lst (l.map D.int))) : callB .len [.ref p] S = .ok (.int (l.length : Nat)) S := cb_len (by simp [lenD, h])
theorem two_mul_eq (a k : Nat) (c : Nat) : ((a : Int) == 2 * (k : Int) + (c : Int)) = (a == 2 * k + c) := by rw [Bool.eq_iff_iff, beq_iff_eq, beq_iff_eq]; omega
theorem reading_body {S : Sto} {p k : Nat} {l : List Int} (h : S[p]? = some (.lst (l.map D.int))) (hp : 0 < p) (hk : k ≤ 100) (n : Nat) : p_is_reading (TT (n+1)).fn [.int k, .ref p] S = .ok (.bl (readB k l)) S := by
  have rg : rngX [(cst (.int 1)), (binX .Add (lk 0) (cst (.int 1)))] [some (.int k), some (.ref p), none] S = .ok ⟨rangeD 1 k, none⟩ S := by
    have := rngX2 (x := cst (.int 1)) (y := binX .Add (lk 0) (cst (.int 1))) (env := [some (.int k), some (.ref p), none]) (S := S) (i := 1) (j := (k : Int) + 1) rfl (by simp [b_add]) ⟨by omega, by omega⟩ ⟨by omega, by omega⟩
    have e : ((k : Int) + 1 - 1).toNat = k := by omega
    rw [e] at this; exact this
  have loop := for_all (J := rangeD 1 k) (g := none) (S := S) (r := .bl false) (P := fun env => ∃ e, env = [some (.int k), some (.ref p), e]) (p := onceD l) (ds := rangeD 1 k) (env := [some (.int k), some (.ref p), none])
    (f := bodyD (tgN 2) [ifX (testsX true [(tstX (cmpX .NotEq (mtX .count (lk 1) [(lk 2)]) (cst (.int 1)))), (tstX (cmpX .NotEq (mtX .count (lk 1) [(negX (lk 2))]) (cst (.int 1)))), (tstX (cmpX .Gt (mtX .index (lk 1) [(lk 2)]) (mtX .index (lk 1) [(negX (lk 2))])))]) [retX (cst (.bl false))] []]) rfl ⟨none, rfl⟩ (fun d hd env he => by
      obtain ⟨e, rfl⟩ := he
      obtain ⟨i, rfl, _, _⟩ := range_mem hd
      rcases once_turn h (i := i) (lk 0) [] with ⟨h1, h2⟩ | ⟨h1, h2⟩
      · refine .inl ⟨h1, [some (.int k), some (.ref p), some (.int i)], ⟨_, rfl⟩, ?_⟩
        simp at h2
        simp [bodyD, h2]
      · refine .inr ⟨h1, ?_⟩
        simp at h2
        simp [bodyD, h2])
  have fx := forX_of (tg := tgN 2) (body := [ifX (testsX true [(tstX (cmpX .NotEq (mtX .count (lk 1) [(lk 2)]) (cst (.int 1)))), (tstX (cmpX .NotEq (mtX .count (lk 1) [(negX (lk 2))]) (cst (.int 1)))), (tstX (cmpX .Gt (mtX .index (lk 1) [(lk 2)]) (mtX .index (lk 1) [(negX (lk 2))])))]) [retX (cst (.bl false))] []]) rg
  have bh := behind_at h hp (i := 9) n
  have ln := len_ints h
  have sm : smallI 2 := by decide
  rcases loop with ⟨q, env', ⟨e, rfl⟩, l2⟩ | ⟨q, l2⟩
  · rw [l2] at fx
    have e2 : ((l.length : Int) == 2 * (k : Int) + 2) = (l.length == 2 * k + 2) := two_mul_eq _ _ 2
    unfold readB
    simp only [p_is_reading, m_is_reading, sqX, sq_cons, fx]
    cases hl : (l.length == 2 * k + 2) <;> simp [q, ln, b_mul, b_add, sm, cmpD, cmpO, eq_ints, e2, hl, bh]
  · rw [l2] at fx
    unfold readB
    simp only [p_is_reading, m_is_reading, sqX, sq_cons, fx]
    simp [q]
theorem pure_l2 {g : List D → Sto → R D} {S : Sto} {p : Nat} {o : Ob} {d r : D} {X : List Ob} (h : S[p]? = some o) (hp : 0 < p) (ho : flatO o = true) (hd : flat d = true) (hg : g [d, .ref 1] [.hid, o] = .ok r ([.hid, o] ++ X)) (hf : flat r = true) : pureC g [d, .ref p] S = .ok r S :=
  pure_of (L := [p]) (os := [o]) (es := [d, .ref 1]) (by simp only [refsDs, refsD, flat_refs hd, List.append_nil, List.nil_append]; exact reach_one h ho) (by simp [nodupB, hp]) (by simp only [renS, h, flatO_ren ho]) (by simp only [renDs, renD, ix_one, flat_ren hd]) hg hf
theorem reading_at {S : Sto} {p k : Nat} {l : List Int} (h : S[p]? = some (.lst (l.map D.int))) (hp : 0 < p) (hk : k ≤ 100) (n : Nat) : (TT (n+2)).fn "is_reading" [.int k, .ref p] S = .ok (.bl (readB k l)) S := by
  rw [m_is_reading_eq]
  exact pure_l2 (X := []) h hp (flats_ints l) rfl (reading_body rfl (by decide) hk n) rfl
end Cor
end
section
set_option linter.all false
set_option maxRecDepth 100000
namespace Cor
open PySem L2
/-- an item of notes -/
def El (d : D) : Prop := (∃ i, d = .int i ∧ BigI i) ∨ (∃ b, d = .bl b) ∨ d = .non ∨ d = .str "1"
def isInt : D → Bool
  | .int _ => true
  | _ => false
theorem El.flat {d : D} (h : El d) : flat d = true := by
  rcases h with ⟨i, rfl, _⟩ | ⟨i, rfl⟩ | rfl | rfl <;> rfl
theorem El.flats {ds : List D} (h : ∀ d ∈ ds, El d) : flats ds = true := by
  induction ds with
  | nil => rfl
  | cons d ds ih =>
    simp only [Cor.flats, (h d List.mem_cons_self).flat, ih fun d hd => h d (List.mem_cons_of_mem _ hd), Bool.and_self]
theorem El.whole {d : D} (h : El d) (S : Sto) (n : Nat) : (TT (n+1)).fn "is_whole" [d] S = .ok (.bl (isInt d)) S := by
  rcases h with ⟨i, rfl, _⟩ | ⟨i, rfl⟩ | rfl | rfl
  · exact whole_f (k := .int) rfl (fun _ => rfl) n
  · exact whole_f (k := .bl) rfl (fun _ => rfl) n
  · exact whole_f (k := .non) rfl (fun _ => rfl) n
  · exact whole_f (k := .str) rfl (fun _ => rfl) n
theorem fm_all {α β : Type} (f : α → β) (l : List α) : l.filterMap (fun a => some (f a)) = l.map f := by
  induction l with
  | nil => rfl
  | cons a l ih => simp
theorem bls_all (f : D → Bool) (l : List D) : blsD (l.map fun d => D.bl (f d)) = some (l.map f) := by
  induction l with
  | nil => rfl
  | cons a l ih => simp only [List.map_cons, blsD, ih]
theorem sz_le {n : Nat} (h : n ≤ 1000) : n ≤ sizeLine := Nat.le_trans h sz1000
def firstY (F : Str → List D → Sto → R D) : Yp := ifX (testsX true [(notT (tstX (callX (callB .isinstance) [(lk 2), (cst (.ty .list))]))), (notT (tstX (callX (callB .all) [(lcX (itX (lk 2)) [4] (tgN 4) [] (callX (F "is_whole") [(lk 4)]))])))]) [retX (cst (.bl false))] []
theorem first_list {S : Sto} {p : Nat} {ds : List D} (h : S[p]? = some (.lst ds)) (he : ∀ d ∈ ds, El d) (hl : ds.length ≤ 1000) (w o : D) (n : Nat) :
    firstY (TT (n+1)).fn [some w, some o, some (.ref p), none, none] S = if ds.all isInt then .nx [some w, some o, some (.ref p), none, none] (S ++ [.lst (ds.map fun d => .bl (isInt d))]) else .rt (.bl false) (S ++ [.lst (ds.map fun d => .bl (isInt d))]) := by
  have kd : kdOf S (.ref p) = some .lst := by simp [kdOf, h]
  have is1 := isinst_k kd .list
  have k1 : kitF .lst .list = true := rfl
  rw [k1] at is1
  have lc : lcX (itX (lk 2)) [4] (tgN 4) [] (callX ((TT (n+1)).fn "is_whole") [(lk 4)]) [some w, some o, some (.ref p), none, none] S = .ok (.ref S.length) (S ++ [.lst (ds.map fun d => .bl (isInt d))]) := by
    rw [lc_pure (J := ⟨ds, some p⟩) (fun d => some (.bl (isInt d))) (it_lst (by simp) h) (guard_lst h) (fun d hd => ?_) (sz_le hl), fm_all]
    simp [turnX, wipeD, evIf, (he d hd).whole]
  have al : callB .all [.ref S.length] (S ++ [.lst (ds.map fun d => .bl (isInt d))]) = .ok (.bl (ds.all isInt)) (S ++ [.lst (ds.map fun d => .bl (isInt d))]) := by
    rw [cb_all (ds := ds.map fun d => .bl (isInt d)) (by simp [lstD]) (bls_all isInt ds)]
    simp [List.all_map]
  unfold firstY
  cases ha : ds.all isInt <;> simp [is1, lc, al, ha]
def restK (F : Str → List D → Sto → R D) : List Yp := [ifX (tstX (cmpX .Eq (lk 0) (cst (.str "shelved")))) [retX (cmpX .Eq (lk 2) (lk 1))] [],
  ifX (tstX (cmpX .Eq (lk 0) (cst (.str "met")))) [retX (cmpX .Eq (lk 2) (binX .Add (binX .Mult (lstX [(cst (.int 1))]) (lk 1)) (binX .Mult (lstX [(cst (.int 2))]) (lk 1))))] [],
  ifX (tstX (cmpX .Eq (lk 0) (cst (.str "reading")))) [retX (callX (F "is_reading") [(lk 1), (lk 2)])] [],
  retX (valsX false [(cmpX .Eq (callX (callB .len) [(lk 2)]) (binX .Mult (cst (.int 2)) (lk 1))), (callX (callB .all) [(lcX (rngX [(cst (.int 1)), (binX .Add (lk 1) (cst (.int 1)))]) [3] (tgN 3) [] (callX (F "comes_right_behind") [(lk 2), (lk 3)]))])])]
theorem keeps_split (F) : m_keeps F = firstY F :: restK F := rfl
theorem x1 : (("shelved" : Str) == "shelved") = true := by decide +kernel
theorem x2 : (("met" : Str) == "shelved") = false := by decide +kernel
theorem x3 : (("met" : Str) == "met") = true := by decide +kernel
theorem x4 : (("reading" : Str) == "shelved") = false := by decide +kernel
theorem x5 : (("reading" : Str) == "met") = false := by decide +kernel
theorem x6 : (("reading" : Str) == "reading") = true := by decide +kernel
theorem x7 : (("locked" : Str) == "shelved") = false := by decide +kernel
theorem x8 : (("locked" : Str) == "met") = false := by decide +kernel
theorem x9 : (("locked" : Str) == "reading") = false := by decide +kernel
theorem xa : (("met" : Str) == "locked") = false := by decide +kernel
theorem xb : (("reading" : Str) == "locked") = false := by decide +kernel
theorem xc : (("locked" : Str) == "locked") = true := by decide +kernel
/-- how a made thing is asked: by a number, or by a list of numbers -/
inductive Ask where
  | met (k : Nat)
  | reading (k : Nat)
  | locked (k : Nat)
  | shelved (m : List Int)
def behindD (l : List Int) (d : D) : Bool := match d with
  | .int i => behindB l i
  | _ => false
def keepB (l : List Int) : Ask → Bool
  | .met k => l == List.replicate k 1 ++ List.replicate k 2
  | .reading k => readB k l
  | .locked k => l.length == 2 * k && (rangeD 1 k).all (behindD l)
  | .shelved m => l == m
theorem rep_int (k : Nat) (i : Int) : (List.replicate k [D.int i]).flatten = (List.replicate k i).map D.int := by
  induction k with
  | zero => rfl
  | succ k ih => simp [List.replicate_succ, ih]
theorem keep_met {S : Sto} {p k : Nat} {l : List Int} (h : S[p]? = some (.lst (l.map D.int))) (hk : k ≤ 100) (F) : ∃ X, finX (sqX (restK F) [some (.str "met"), some (.int k), some (.ref p), none, none] S) = .ok (.bl (keepB l (.met k))) (S ++ X) := by
  have mul : ∀ (S : Sto) (i : Int), binD .Mult (.ref S.length) (.int k) (S ++ [.lst [.int i]]) = .ok (.ref (S.length + 1)) (S ++ [.lst [.int i]] ++ [.lst ((List.replicate k i).map D.int)]) := by
    intro S i
    have hk2 : small6 (k : Int) ∧ 1 * (k : Int).toNat ≤ sizeLine := ⟨small6_iff.mpr ⟨by omega, by omega⟩, by simp; exact sz_le (by omega)⟩
    simp only [binD, lstM, List.getElem?_concat_length, List.length_cons, List.length_nil, Nat.zero_add, hk2, and_self, if_true, Int.toNat_natCast, rep_int]
    rw [new_lst (by simp; omega)]
    simp [sz_le (show k ≤ 1000 by omega)]
  have n1 : ∀ (S : Sto) (i : Int), newL [.int i] S = .ok (.ref S.length) (S ++ [.lst [.int i]]) := fun S i => new_lst (by simp)
  have m1 := mul S 1
  generalize hA : S ++ [.lst [.int 1]] ++ [.lst ((List.replicate k (1 : Int)).map D.int)] = SA at m1
  have gA : Grow S SA := by rw [← hA]; exact ⟨_, List.append_assoc ..⟩
  have a1 : SA[S.length + 1]? = some (.lst ((List.replicate k (1 : Int)).map D.int)) := by rw [← hA]; simp
  have m2 := mul SA 2
  generalize hB : SA ++ [.lst [.int 2]] ++ [.lst ((List.replicate k (2 : Int)).map D.int)] = SB at m2
  have gB : Grow SA SB := by rw [← hB]; exact ⟨_, List.append_assoc ..⟩
  have a2 : SB[SA.length + 1]? = some (.lst ((List.replicate k (2 : Int)).map D.int)) := by rw [← hB]; simp
  have ad := add_lst (gr_at gB a1) a2 (by simp; omega)
  generalize hC : SB ++ [.lst ((List.replicate k (1 : Int)).map D.int ++ (List.replicate k (2 : Int)).map D.int)] = SC at ad
  have gC : Grow SB SC := by rw [← hC]; exact ⟨_, rfl⟩
  have a3 : SC[SB.length]? = some (.lst ((List.replicate k (1 : Int) ++ List.replicate k (2 : Int)).map D.int)) := by rw [← hC]; simp
  have eq := eq_int_lists (gr_at ((gA.trans gB).trans gC) h) a3
  obtain ⟨X, hX⟩ := (gA.trans gB).trans gC
  refine ⟨X, ?_⟩
  rw [← hX]
  simp [restK, cmpD, cmpO, eq_strs, x2, x3, n1, m1, m2, ad, eq, keepB]
theorem keep_reading {S : Sto} {p k : Nat} {l : List Int} (h : S[p]? = some (.lst (l.map D.int))) (hp : 0 < p) (hk : k ≤ 100) (n : Nat) : ∃ X, finX (sqX (restK (TT (n+2)).fn) [some (.str "reading"), some (.int k), some (.ref p), none, none] S) = .ok (.bl (keepB l (.reading k))) (S ++ X) := by
  have r := reading_at h hp hk n
  exact ⟨[], by simp [restK, cmpD, cmpO, eq_strs, x4, x5, x6, r, keepB]⟩
theorem keep_shelved {S : Sto} {p q : Nat} {l m : List Int} (h : S[p]? = some (.lst (l.map D.int))) (h2 : S[q]? = some (.lst (m.map D.int))) (F) : ∃ X, finX (sqX (restK F) [some (.str "shelved"), some (.ref q), some (.ref p), none, none] S) = .ok (.bl (keepB l (.shelved m))) (S ++ X) := by
  have eq := eq_int_lists h h2
  exact ⟨[], by simp [restK, cmpD, cmpO, eq_strs, x1, eq, keepB]⟩
theorem keep_locked {S : Sto} {p k : Nat} {l : List Int} (h : S[p]? = some (.lst (l.map D.int))) (hp : 0 < p) (hk : k ≤ 100) (n : Nat) : ∃ X, finX (sqX (restK (TT (n+2)).fn) [some (.str "locked"), some (.int k), some (.ref p), none, none] S) = .ok (.bl (keepB l (.locked k))) (S ++ X) := by
  have ln := len_ints h
  have sm : smallI 2 := by decide
  have e2 : ((l.length : Int) == 2 * (k : Int)) = (l.length == 2 * k) := by rw [Bool.eq_iff_iff, beq_iff_eq, beq_iff_eq]; omega
  have rg : rngX [(cst (.int 1)), (binX .Add (lk 1) (cst (.int 1)))] [some (.str "locked"), some (.int k), some (.ref p), none, none] S = .ok ⟨rangeD 1 k, none⟩ S := by
    have := rngX2 (x := cst (.int 1)) (y := binX .Add (lk 1) (cst (.int 1))) (env := [some (.str "locked"), some (.int k), some (.ref p), none, none]) (S := S) (i := 1) (j := (k : Int) + 1) rfl (by simp [b_add]) ⟨by omega, by omega⟩ ⟨by omega, by omega⟩
    have e : ((k : Int) + 1 - 1).toNat = k := by omega
    rw [e] at this; exact this
  have rl : (rangeD 1 k).length ≤ 1000 := by
    have : ∀ (n : Nat) (lo : Int), (rangeD lo n).length = n := by
      intro n
      induction n with
      | zero => intro lo; rfl
      | succ n ih => intro lo; simp [rangeD, ih]
    rw [this]; omega
  have lc : lcX (rngX [(cst (.int 1)), (binX .Add (lk 1) (cst (.int 1)))]) [3] (tgN 3) [] (callX ((TT (n+2)).fn "comes_right_behind") [(lk 2), (lk 3)]) [some (.str "locked"), some (.int k), some (.ref p), none, none] S = .ok (.ref S.length) (S ++ [.lst ((rangeD 1 k).map fun d => .bl (behindD l d))]) := by
    rw [lc_pure (J := ⟨rangeD 1 k, none⟩) (fun d => some (.bl (behindD l d))) rg rfl (fun d hd => ?_) (sz_le rl), fm_all]
    obtain ⟨i, rfl, _, _⟩ := range_mem hd
    simp [turnX, wipeD, evIf, behind_at h hp, behindD]
  have al : callB .all [.ref S.length] (S ++ [.lst ((rangeD 1 k).map fun d => .bl (behindD l d))]) = .ok (.bl ((rangeD 1 k).all (behindD l))) (S ++ [.lst ((rangeD 1 k).map fun d => .bl (behindD l d))]) := by
    rw [cb_all (ds := (rangeD 1 k).map fun d => .bl (behindD l d)) (by simp [lstD]) (bls_all (behindD l) (rangeD 1 k))]
    simp [List.all_map]
  cases hl : (l.length == 2 * k) with
  | true => exact ⟨[.lst ((rangeD 1 k).map fun d => .bl (behindD l d))], by simp [restK, cmpD, cmpO, eq_strs, x7, x8, x9, ln, b_mul, sm, eq_ints, e2, hl, lc, al, keepB]⟩
  | false => exact ⟨[], by simp [restK, cmpD, cmpO, eq_strs, x7, x8, x9, ln, b_mul, sm, eq_ints, e2, hl, keepB]⟩
end Cor
end
section
set_option linter.all false
set_option maxRecDepth 100000
namespace Cor
open PySem L2
def lrestK (F : Str → List D → Sto → R D) : List Yp := mlaw_keeps F
/-- the same, by the law's reckoning -/
def lkeepB (l : List Int) : Ask → Bool
  | .met k => (sortI l == l) && ((l.length == 2 * k) && ((l.count 1 == k) && (l.count 2 == k)))
  | .reading k => if (l.length != 2 * k + 2) || !behindB l 9 then false else (rangeD 1 k).all (onceD l)
  | .locked k => (l.length == 2 * k) && ((rangeD 1 k).all (behindD l))
  | .shelved m => l == m
theorem lkeep_shelved {S : Sto} {p q : Nat} {l m : List Int} (h : S[p]? = some (.lst (l.map D.int))) (h2 : S[q]? = some (.lst (m.map D.int))) (F) : ∃ X, plaw_keeps F [.str "shelved", .ref q, .ref p] S = .ok (.bl (lkeepB l (.shelved m))) (S ++ X) := by
  have eq := eq_int_lists h h2
  exact ⟨[], by simp [plaw_keeps, mlaw_keeps, cmpD, cmpO, eq_strs, x1, eq, lkeepB]⟩
theorem lkeep_met {S : Sto} {p k : Nat} {l : List Int} (h : S[p]? = some (.lst (l.map D.int))) (F) : ∃ X, plaw_keeps F [.str "met", .int k, .ref p] S = .ok (.bl (lkeepB l (.met k))) (S ++ X) := by
  have ls : lstD S (.ref p) = some (l.map D.int) := by simp [lstD, h]
  have so : callB .sorted [.ref p] S = .ok (.ref S.length) (S ++ [.lst ((sortI l).map D.int)]) := by
    simp only [callB, ls, ints_map, newO]
  have g1 : (S ++ [Ob.lst ((sortI l).map D.int)])[S.length]? = some (.lst ((sortI l).map D.int)) := by simp
  have gr : Grow S (S ++ [Ob.lst ((sortI l).map D.int)]) := ⟨_, rfl⟩
  have h1 := gr_at gr h
  refine ⟨[.lst ((sortI l).map D.int)], ?_⟩
  generalize hS1 : S ++ [Ob.lst ((sortI l).map D.int)] = S1 at so g1 gr h1
  have eq := eq_int_lists g1 h1
  have ln := len_ints h1
  have c1 := cnt_int (i := 1) h1
  have c2 := cnt_int (i := 2) h1
  have lsd := lstD_ints h1
  have sm : smallI 2 := by decide
  have e2 : ((l.length : Int) == 2 * (k : Int)) = (l.length == 2 * k) := by rw [Bool.eq_iff_iff, beq_iff_eq, beq_iff_eq]; omega
  have e3 : ((l.count 1 : Int) == (k : Int)) = (l.count 1 == k) := int_eq_nat _ _
  have e4 : ((l.count 2 : Int) == (k : Int)) = (l.count 2 == k) := int_eq_nat _ _
  unfold lkeepB
  cases a1 : (sortI l == l) with
  | false => simp [plaw_keeps, mlaw_keeps, cmpD, cmpO, eq_strs, x2, x3, so, eq, a1]
  | true =>
    cases a2 : (l.length == 2 * k) with
    | false => simp [plaw_keeps, mlaw_keeps, cmpD, cmpO, eq_strs, x2, x3, so, eq, a1, ln, b_mul, sm, eq_ints, e2, a2]
    | true =>
      cases a3 : (l.count 1 == k) with
      | false => simp [plaw_keeps, mlaw_keeps, cmpD, cmpO, eq_strs, x2, x3, so, eq, a1, ln, b_mul, sm, eq_ints, e2, a2, c1, lsd, e3, a3]
      | true => simp [plaw_keeps, mlaw_keeps, cmpD, cmpO, eq_strs, x2, x3, so, eq, a1, ln, b_mul, sm, eq_ints, e2, a2, c1, lsd, e3, a3, c2, e4]
theorem eq_nil {S : Sto} {i j : Nat} {l : List Int} (h1 : S[i]? = some (.lst (l.map D.int))) (h2 : S[j]? = some (.lst [])) : eqD S (.ref i) (.ref j) = some l.isEmpty := by
  have := eq_int_lists (m := []) h1 h2
  rw [this]
  cases l <;> rfl
theorem rangeD_len' : ∀ (n : Nat) (lo : Int), (rangeD lo n).length = n := by
  intro n
  induction n with
  | zero => intro lo; rfl
  | succ n ih => intro lo; simp [rangeD, ih]
theorem fm_empty (l : List Int) : ∀ (ds : List D), (∀ d ∈ ds, ∃ i, d = .int i) → ∃ js : List Int, ds.filterMap (fun d => if behindD l d then none else some d) = js.map D.int ∧ js.isEmpty = ds.all (behindD l)
  | [], _ => ⟨[], rfl, rfl⟩
  | d :: ds, h => by
    obtain ⟨js, h1, h2⟩ := fm_empty l ds fun d hd => h d (List.mem_cons_of_mem _ hd)
    obtain ⟨i, rfl⟩ := h d List.mem_cons_self
    cases hb : behindD l (.int i) with
    | true => exact ⟨js, by simp [hb, h1], by simp [hb, h2]⟩
    | false => exact ⟨i :: js, by simp [hb, h1], by simp [hb]⟩
theorem lkeep_locked {S : Sto} {p k : Nat} {l : List Int} (h : S[p]? = some (.lst (l.map D.int))) (hp : 0 < p) (hk : k ≤ 100) (n : Nat) : ∃ X, plaw_keeps (TT (n+1)).fn [.str "locked", .int k, .ref p] S = .ok (.bl (lkeepB l (.locked k))) (S ++ X) := by
  have ln := len_ints h
  have sm : smallI 2 := by decide
  have e2 : ((l.length : Int) == 2 * (k : Int)) = (l.length == 2 * k) := by rw [Bool.eq_iff_iff, beq_iff_eq, beq_iff_eq]; omega
  have rg : rngX [(cst (.int 1)), (binX .Add (lk 1) (cst (.int 1)))] [some (.str "locked"), some (.int k), some (.ref p), none] S = .ok ⟨rangeD 1 k, none⟩ S := by
    have := rngX2 (x := cst (.int 1)) (y := binX .Add (lk 1) (cst (.int 1))) (env := [some (.str "locked"), some (.int k), some (.ref p), none]) (S := S) (i := 1) (j := (k : Int) + 1) rfl (by simp [b_add]) ⟨by omega, by omega⟩ ⟨by omega, by omega⟩
    have e : ((k : Int) + 1 - 1).toNat = k := by omega
    rw [e] at this; exact this
  have rl : (rangeD 1 k).length ≤ 1000 := by rw [rangeD_len']; omega
  obtain ⟨js, hj1, hj2⟩ := fm_empty l (rangeD 1 k) fun d hd => let ⟨i, e, _⟩ := range_mem hd; ⟨i, e⟩
  have lc : lcX (rngX [(cst (.int 1)), (binX .Add (lk 1) (cst (.int 1)))]) [3] (tgN 3) [(notT (tstX (callX ((TT (n+1)).fn "_law_right_behind") [(lk 2), (lk 3)])))] (lk 3) [some (.str "locked"), some (.int k), some (.ref p), none] S = .ok (.ref S.length) (S ++ [.lst (js.map D.int)]) := by
    rw [lc_pure (J := ⟨rangeD 1 k, none⟩) (fun d => if behindD l d then none else some d) rg rfl (fun d hd => ?_) (sz_le rl), hj1]
    obtain ⟨i, rfl, _, _⟩ := range_mem hd
    cases hb : behindB l i <;> simp [turnX, wipeD, evIf, lbehind_at h hp, behindD, hb]
  have nl : newL [] (S ++ [.lst (js.map D.int)]) = .ok (.ref (S.length + 1)) (S ++ [.lst (js.map D.int)] ++ [.lst []]) := by
    have := new_lst (ds := []) (S := S ++ [Ob.lst (js.map D.int)]) (by simp)
    simpa using this
  have g1 : (S ++ [Ob.lst (js.map D.int)] ++ [Ob.lst []])[S.length]? = some (.lst (js.map D.int)) := by simp
  have g2 : (S ++ [Ob.lst (js.map D.int)] ++ [Ob.lst []])[S.length + 1]? = some (.lst []) := by simp
  have eq := eq_nil g1 g2
  rw [hj2] at eq
  cases hl : (l.length == 2 * k) with
  | true =>
    refine ⟨[.lst (js.map D.int), .lst []], ?_⟩
    simp only [List.append_assoc, List.cons_append, List.nil_append] at nl eq
    simp [plaw_keeps, mlaw_keeps, cmpD, cmpO, eq_strs, x7, x8, xc, ln, b_mul, sm, eq_ints, e2, hl, lc, nl, eq, lkeepB]
  | false => exact ⟨[], by simp [plaw_keeps, mlaw_keeps, cmpD, cmpO, eq_strs, x7, x8, xc, ln, b_mul, sm, eq_ints, e2, hl, lkeepB]⟩
theorem lkeep_reading {S : Sto} {p k : Nat} {l : List Int} (h : S[p]? = some (.lst (l.map D.int))) (hp : 0 < p) (hk : k ≤ 100) (n : Nat) : ∃ X, plaw_keeps (TT (n+1)).fn [.str "reading", .int k, .ref p] S = .ok (.bl (lkeepB l (.reading k))) (S ++ X) := by
  have ln := len_ints h
  have sm : smallI 2 := by decide
  have e2 : ((l.length : Int) == 2 * (k : Int) + 2) = (l.length == 2 * k + 2) := two_mul_eq _ _ 2
  have bh := lbehind_at h hp (i := 9) n
  have rg : rngX [(cst (.int 1)), (binX .Add (lk 1) (cst (.int 1)))] [some (.str "reading"), some (.int k), some (.ref p), none] S = .ok ⟨rangeD 1 k, none⟩ S := by
    have := rngX2 (x := cst (.int 1)) (y := binX .Add (lk 1) (cst (.int 1))) (env := [some (.str "reading"), some (.int k), some (.ref p), none]) (S := S) (i := 1) (j := (k : Int) + 1) rfl (by simp [b_add]) ⟨by omega, by omega⟩ ⟨by omega, by omega⟩
    have e : ((k : Int) + 1 - 1).toNat = k := by omega
    rw [e] at this; exact this
  have z : ∀ (i : Int) S, binD .Sub (.int 0) (.int i) S = .ok (.int (-i)) S := fun i S => by
    show R.ok (D.int (0 - i)) S = _
    rw [Int.zero_sub]
  have loop := for_all (J := rangeD 1 k) (g := none) (S := S) (r := .bl false) (P := fun env => ∃ e, env = [some (.str "reading"), some (.int k), some (.ref p), e]) (p := onceD l) (ds := rangeD 1 k) (env := [some (.str "reading"), some (.int k), some (.ref p), none])
    (f := bodyD (tgN 3) [ifX (testsX true [(tstX (cmpX .NotEq (mtX .count (lk 2) [(lk 3)]) (cst (.int 1)))), (tstX (cmpX .NotEq (mtX .count (lk 2) [(binX .Sub (cst (.int 0)) (lk 3))]) (cst (.int 1)))), (tstX (cmpX .Gt (mtX .index (lk 2) [(lk 3)]) (mtX .index (lk 2) [(binX .Sub (cst (.int 0)) (lk 3))])))]) [retX (cst (.bl false))] []]) rfl ⟨none, rfl⟩ (fun d hd env he => by
      obtain ⟨e, rfl⟩ := he
      obtain ⟨i, rfl, _, _⟩ := range_mem hd
      rcases once_turn h (i := i) (lk 0) [] with ⟨h1, h2⟩ | ⟨h1, h2⟩
      · refine .inl ⟨h1, [some (.str "reading"), some (.int k), some (.ref p), some (.int i)], ⟨_, rfl⟩, ?_⟩
        simp at h2
        simp [bodyD, z, h2]
      · refine .inr ⟨h1, ?_⟩
        simp at h2
        simp [bodyD, z, h2])
  have fx := forX_of (tg := tgN 3) (body := [ifX (testsX true [(tstX (cmpX .NotEq (mtX .count (lk 2) [(lk 3)]) (cst (.int 1)))), (tstX (cmpX .NotEq (mtX .count (lk 2) [(binX .Sub (cst (.int 0)) (lk 3))]) (cst (.int 1)))), (tstX (cmpX .Gt (mtX .index (lk 2) [(lk 3)]) (mtX .index (lk 2) [(binX .Sub (cst (.int 0)) (lk 3))])))]) [retX (cst (.bl false))] []]) rg
  refine ⟨[], ?_⟩
  have bne : (l.length != 2 * k + 2) = !(l.length == 2 * k + 2) := rfl
  have s4 : ifX (testsX true [(tstX (cmpX .NotEq (callX (callB .len) [(lk 2)]) (binX .Add (binX .Mult (cst (.int 2)) (lk 1)) (cst (.int 2))))), (notT (tstX (callX ((TT (n+1)).fn "_law_right_behind") [(lk 2), (cst (.int 9))])))]) [retX (cst (.bl false))] [] [some (.str "reading"), some (.int k), some (.ref p), none] S =
      (if (l.length != 2 * k + 2) || !behindB l 9 then .rt (.bl false) S else .nx [some (.str "reading"), some (.int k), some (.ref p), none] S) := by
    cases hl : (l.length == 2 * k + 2) <;> cases hb : behindB l 9 <;> simp [ln, b_mul, b_add, sm, cmpD, cmpO, eq_ints, e2, hl, bh, hb, bne]
  have s1 : ifX (tstX (cmpX .Eq (lk 0) (cst (.str "shelved")))) [retX (cmpX .Eq (lk 2) (lk 1))] [] [some (.str "reading"), some (.int k), some (.ref p), none] S = .nx [some (.str "reading"), some (.int k), some (.ref p), none] S := by simp [cmpD, cmpO, eq_strs, x4]
  simp only [plaw_keeps, mlaw_keeps, sqX, sq_cons, s1]
  rw [show ifX (tstX (cmpX .Eq (lk 0) (cst (.str "met")))) [retX (valsX false [(cmpX .Eq (callX (callB .sorted) [(lk 2)]) (lk 2)), (cmpX .Eq (callX (callB .len) [(lk 2)]) (binX .Mult (cst (.int 2)) (lk 1))), (cmpX .Eq (mtX .count (lk 2) [(cst (.int 1))]) (lk 1)), (cmpX .Eq (mtX .count (lk 2) [(cst (.int 2))]) (lk 1))])] [] [some (.str "reading"), some (.int k), some (.ref p), none] S = .nx [some (.str "reading"), some (.int k), some (.ref p), none] S from by simp [cmpD, cmpO, eq_strs, x5]]
  dsimp only
  rw [show ifX (tstX (cmpX .Eq (lk 0) (cst (.str "locked")))) [retX (valsX false [(cmpX .Eq (callX (callB .len) [(lk 2)]) (binX .Mult (cst (.int 2)) (lk 1))), (cmpX .Eq (lcX (rngX [(cst (.int 1)), (binX .Add (lk 1) (cst (.int 1)))]) [3] (tgN 3) [(notT (tstX (callX ((TT (n+1)).fn "_law_right_behind") [(lk 2), (lk 3)])))] (lk 3)) (lstX []))])] [] [some (.str "reading"), some (.int k), some (.ref p), none] S = .nx [some (.str "reading"), some (.int k), some (.ref p), none] S from by simp [cmpD, cmpO, eq_strs, xb]]
  dsimp only
  rw [s4]
  cases hc : ((l.length != 2 * k + 2) || !behindB l 9) with
  | true =>
    have e : lkeepB l (.reading k) = false := by
      show (if ((l.length != 2 * k + 2) || !behindB l 9) = true then false else (rangeD 1 k).all (onceD l)) = _
      rw [hc]; rfl
    simp [e]
  | false =>
    have e : lkeepB l (.reading k) = (rangeD 1 k).all (onceD l) := by
      show (if ((l.length != 2 * k + 2) || !behindB l 9) = true then false else (rangeD 1 k).all (onceD l)) = _
      rw [hc]; rfl
    simp only [Bool.false_eq_true, if_false, e]
    rw [fx]
    rcases loop with ⟨q, env', _, l2⟩ | ⟨q, l2⟩
    · rw [l2, q]; simp
    · rw [l2, q]; simp
end Cor
end
section
set_option linter.all false
set_option maxRecDepth 100000
namespace Cor
open PySem L2
theorem ins_mem (i : Int) : ∀ l : List Int, (insI i l).count 1 = (i :: l).count 1
  | [] => rfl
  | j :: js => by
    unfold insI
    split
    · rfl
    · simp only [List.count_cons, ins_mem i js]
      omega
/-- sorted: each is not above those behind -/
def asc : List Int → Prop
  | [] => True
  | [_] => True
  | a :: b :: l => a ≤ b ∧ asc (b :: l)
theorem asc_ins (i : Int) : ∀ l : List Int, asc l → asc (insI i l)
  | [], _ => trivial
  | [j], _ => by
    unfold insI
    split
    · exact ⟨by assumption, trivial⟩
    · exact ⟨by omega, trivial⟩
  | j :: k :: l, h => by
    unfold insI
    split
    · exact ⟨by assumption, h⟩
    · rename_i hij
      have ih := asc_ins i (k :: l) h.2
      unfold insI at ih ⊢
      split
      · rename_i hk
        rw [if_pos hk] at ih
        exact ⟨by omega, ih⟩
      · rename_i hk
        rw [if_neg hk] at ih
        exact ⟨h.1, ih⟩
theorem asc_sort : ∀ l : List Int, asc (sortI l)
  | [] => trivial
  | i :: l => asc_ins i _ (asc_sort l)
theorem asc_tail {a : Int} {l : List Int} (h : asc (a :: l)) : asc l := by
  cases l with
  | nil => trivial
  | cons b l => exact h.2
theorem asc_le {a : Int} : ∀ {l : List Int}, asc (a :: l) → ∀ x ∈ l, a ≤ x
  | [], _, x, hx => by cases hx
  | b :: l, h, x, hx => by
    rcases List.mem_cons.mp hx with rfl | hx
    · exact h.1
    · exact Int.le_trans h.1 (asc_le h.2 x hx)
theorem sort_id : ∀ {l : List Int}, asc l → sortI l = l
  | [], _ => rfl
  | a :: l, h => by
    have ih := sort_id (asc_tail h)
    show insI a (sortI l) = a :: l
    rw [ih]
    cases l with
    | nil => rfl
    | cons b l =>
      unfold insI
      rw [if_pos h.1]
theorem asc_rep (a b : Nat) : asc (List.replicate a 1 ++ List.replicate b 2) := by
  have two : ∀ b : Nat, asc (List.replicate b (2 : Int)) := by
    intro b
    induction b with
    | zero => trivial
    | succ b ih =>
      cases b with
      | zero => trivial
      | succ b => exact ⟨Int.le_refl _, ih⟩
  induction a with
  | zero => simpa using two b
  | succ a ih =>
    simp only [List.replicate_succ, List.cons_append]
    cases a with
    | zero =>
      cases b with
      | zero => trivial
      | succ b => exact ⟨by decide, two (b + 1)⟩
    | succ a => exact ⟨Int.le_refl _, ih⟩
/-- of ones and twos alone, sorted -/
theorem ones_twos : ∀ (l : List Int), asc l → l.count 1 + l.count 2 = l.length → l = List.replicate (l.count 1) 1 ++ List.replicate (l.count 2) 2
  | [], _, _ => rfl
  | a :: l, h, hc => by
    have hle1 := List.count_le_length (a := (1 : Int)) (l := l)
    have hsum : l.count 1 + l.count 2 ≤ l.length := by
      clear h hc hle1
      induction l with
      | nil => simp
      | cons b l ih =>
        simp only [List.count_cons, List.length_cons]
        by_cases h1 : b = 1
        · subst h1; simp; omega
        · by_cases h2 : b = 2
          · subst h2; simp; omega
          · have e1 : (b == 1) = false := by simpa using h1
            have e2 : (b == 2) = false := by simpa using h2
            simp [e1, e2]; omega
    simp only [List.count_cons, List.length_cons] at hc
    by_cases h1 : a = 1
    · subst h1
      simp at hc
      have ih := ones_twos l (asc_tail h) (by omega)
      simp only [List.count_cons_self, List.replicate_succ, List.cons_append]
      have : List.count 2 ((1 : Int) :: l) = l.count 2 := by simp
      rw [this]
      exact congrArg _ ih
    · by_cases h2 : a = 2
      · subst h2
        simp at hc
        have no1 : l.count 1 = 0 := by
          rw [List.count_eq_zero]
          intro m
          have := asc_le h 1 m
          omega
        have ih := ones_twos l (asc_tail h) (by omega)
        rw [no1] at ih
        simp only [List.replicate_zero, List.nil_append] at ih
        have c1 : List.count 1 ((2 : Int) :: l) = 0 := by simp [no1]
        rw [c1, List.count_cons_self, List.replicate_succ]
        simp only [List.replicate_zero, List.nil_append]
        exact congrArg _ ih
      · have e1 : (a == 1) = false := by simpa using h1
        have e2 : (a == 2) = false := by simpa using h2
        simp [e1, e2] at hc
        omega
theorem keep_eq (l : List Int) (q : Ask) : lkeepB l q = keepB l q := by
  cases q with
  | met k =>
    rw [Bool.eq_iff_iff]
    simp only [lkeepB, keepB, Bool.and_eq_true, beq_iff_eq]
    constructor
    · rintro ⟨h1, h2, h3, h4⟩
      have := ones_twos l (by rw [← h1]; exact asc_sort l) (by omega)
      rw [h3, h4] at this
      exact this
    · rintro h
      have c1 : l.count 1 = k := by rw [h]; simp [List.count_replicate]
      have c2 : l.count 2 = k := by rw [h]; simp [List.count_replicate]
      exact ⟨sort_id (by rw [h]; exact asc_rep k k), by rw [h]; simp; omega, c1, c2⟩
  | reading k =>
    show (if ((l.length != 2 * k + 2) || !behindB l 9) = true then false else (rangeD 1 k).all (onceD l)) = ((rangeD 1 k).all (onceD l) && (l.length == 2 * k + 2 && behindB l 9))
    have bne : (l.length != 2 * k + 2) = !(l.length == 2 * k + 2) := rfl
    rw [bne]
    cases (l.length == 2 * k + 2) <;> cases behindB l 9 <;> simp
  | locked k => rfl
  | shelved m => rfl
end Cor
end
section
set_option linter.all false
set_option maxRecDepth 100000
namespace Cor
open PySem L2
def wordOf : Ask → Str
  | .met _ => "met"
  | .reading _ => "reading"
  | .locked _ => "locked"
  | .shelved _ => "shelved"
def AskAt (S : Sto) (o : D) : Ask → Prop
  | .met k => o = .int k ∧ k ≤ 100
  | .reading k => o = .int k ∧ k ≤ 100
  | .locked k => o = .int k ∧ k ≤ 100
  | .shelved m => ∃ j, 0 < j ∧ o = .ref j ∧ S[j]? = some (.lst (m.map D.int))
inductive Nt where
  | lst (ds : List D)
  | dct
  | oth (d : D)
def NtAt (S : Sto) (d : D) : Nt → Prop
  | .lst ds => ∃ p, 0 < p ∧ d = .ref p ∧ S[p]? = some (.lst ds) ∧ (∀ x ∈ ds, El x) ∧ ds.length ≤ 1000
  | .dct => ∃ p, 0 < p ∧ d = .ref p ∧ S[p]? = some (.dK [])
  | .oth e => d = e ∧ flat e = true ∧ ∃ k, (∀ S, kdOf S e = some k) ∧ kitF k .list = false
def intsOf : List D → List Int
  | [] => []
  | .int i :: ds => i :: intsOf ds
  | _ :: ds => intsOf ds
theorem ints_all : ∀ {ds : List D}, ds.all isInt = true → ds = (intsOf ds).map D.int
  | [], _ => rfl
  | d :: ds, h => by
    simp only [List.all_cons, Bool.and_eq_true] at h
    cases d with
    | int i =>
      show D.int i :: ds = D.int i :: (intsOf ds).map D.int
      rw [← ints_all h.2]
    | _ => cases h.1
def ntB (q : Ask) : Nt → Bool
  | .lst ds => ds.all isInt && keepB (intsOf ds) q
  | _ => false
theorem keeps_body {S : Sto} {o d : D} {q : Ask} {t : Nt} (ha : AskAt S o q) (hn : NtAt S d t) (n : Nat) : ∃ X, p_keeps (TT (n+2)).fn [.str (wordOf q), o, d] S = .ok (.bl (ntB q t)) (S ++ X) := by
  have go : ∀ S1, sqX (m_keeps (TT (n+2)).fn) [some (.str (wordOf q)), some o, some d, none, none] S = S1 → p_keeps (TT (n+2)).fn [.str (wordOf q), o, d] S = finX S1 := fun S1 e => by
    show finX (sqX (m_keeps (TT (n+2)).fn) [some (.str (wordOf q)), some o, some d, none, none] S) = _
    rw [e]
  cases t with
  | lst ds =>
    obtain ⟨p, hp, rfl, hs, he, hl⟩ := hn
    have f := first_list hs he hl (.str (wordOf q)) o (n + 1)
    cases hall : ds.all isInt with
    | false =>
      rw [hall] at f
      refine ⟨[.lst (ds.map fun d => .bl (isInt d))], ?_⟩
      rw [go (.rt (.bl false) (S ++ [.lst (ds.map fun d => .bl (isInt d))])) (by rw [keeps_split]; simp only [sqX, sq_cons]; rw [f]; rfl)]
      simp [ntB, hall]
    | true =>
      rw [hall] at f
      have hi := ints_all hall
      have gr : Grow S (S ++ [.lst (ds.map fun d => .bl (isInt d))]) := ⟨_, rfl⟩
      have hs1 := gr_at gr hs
      rw [hi] at hs1
      have rest : ∃ X, finX (sqX (restK (TT (n+2)).fn) [some (.str (wordOf q)), some o, some (.ref p), none, none] (S ++ [.lst (ds.map fun d => .bl (isInt d))])) = .ok (.bl (keepB (intsOf ds) q)) ((S ++ [.lst (ds.map fun d => .bl (isInt d))]) ++ X) := by
        rw [← hi] at hs1
        generalize hS1 : S ++ [Ob.lst (ds.map fun d => D.bl (isInt d))] = S1 at gr hs1
        rw [hi] at hs1
        cases q with
        | met k => obtain ⟨rfl, hk⟩ := ha; exact keep_met hs1 hk _
        | reading k => obtain ⟨rfl, hk⟩ := ha; exact keep_reading hs1 hp hk n
        | locked k => obtain ⟨rfl, hk⟩ := ha; exact keep_locked hs1 hp hk n
        | shelved m => obtain ⟨j, hj, rfl, h2⟩ := ha; exact keep_shelved hs1 (gr_at gr h2) _
      obtain ⟨X, hX⟩ := rest
      refine ⟨[.lst (ds.map fun d => .bl (isInt d))] ++ X, ?_⟩
      rw [go (sqX (restK (TT (n+2)).fn) [some (.str (wordOf q)), some o, some (.ref p), none, none] (S ++ [.lst (ds.map fun d => .bl (isInt d))])) (by rw [keeps_split]; simp only [sqX, sq_cons]; rw [f]; rfl), hX]
      simp [ntB, hall]
  | dct =>
    obtain ⟨p, hp, rfl, hs⟩ := hn
    have kd : kdOf S (.ref p) = some .dic := by simp [kdOf, hs]
    have is1 := isinst_k kd .list
    have k1 : kitF .dic .list = false := rfl
    rw [k1] at is1
    refine ⟨[], ?_⟩
    rw [go (.rt (.bl false) S) (by rw [keeps_split]; simp [firstY, is1])]
    simp [ntB]
  | oth e =>
    obtain ⟨rfl, hf, k, hk, hno⟩ := hn
    have is1 := isinst_k (hk S) .list
    rw [hno] at is1
    refine ⟨[], ?_⟩
    rw [go (.rt (.bl false) S) (by rw [keeps_split]; simp [firstY, is1])]
    simp [ntB]
/-- what a pure call of three sees -/
theorem pure3 {g : List D → Sto → R D} {S : Sto} {o d : D} {q : Ask} {t : Nt} {b : Bool} (ha : AskAt S o q) (hn : NtAt S d t) (hsep : ∀ j, o = .ref j → d ≠ .ref j)
    (hg : ∀ S o d, AskAt S o q → NtAt S d t → (∀ j, o = .ref j → d ≠ .ref j) → ∃ X, g [.str (wordOf q), o, d] S = .ok (.bl b) (S ++ X)) : pureC g [.str (wordOf q), o, d] S = .ok (.bl b) S := by
  have num : ∀ k : Nat, (∀ S, AskAt S (.int k) q) → pureC g [.str (wordOf q), .int k, d] S = .ok (.bl b) S := by
    intro k hk
    have one : ∀ (p : Nat) (ob : Ob), 0 < p → d = .ref p → S[p]? = some ob → flatO ob = true → NtAt [.hid, ob] (.ref 1) t → pureC g [.str (wordOf q), .int k, d] S = .ok (.bl b) S := by
      rintro p ob hp rfl hs hf ht
      obtain ⟨X, hX⟩ := hg [.hid, ob] (.int k) (.ref 1) (hk _) ht (fun j e => by cases e)
      exact pure_of (L := [p]) (os := [ob]) (es := [.str (wordOf q), .int k, .ref 1]) (by simp only [refsDs, refsD, List.append_nil, List.nil_append]; exact reach_one hs hf) (by simp [nodupB, hp]) (by simp only [renS, hs, flatO_ren hf]) (by simp only [renDs, renD, ix_one]) hX rfl
    cases t with
    | lst ds => obtain ⟨p, hp, hd, hs, he, hl⟩ := hn; exact one p _ hp hd hs (El.flats he) ⟨1, by decide, rfl, rfl, he, hl⟩
    | dct => obtain ⟨p, hp, hd, hs⟩ := hn; exact one p _ hp hd hs rfl ⟨1, by decide, rfl, rfl⟩
    | oth e =>
      obtain ⟨rfl, hf, hk2⟩ := hn
      obtain ⟨X, hX⟩ := hg [.hid] (.int k) d (hk _) ⟨rfl, hf, hk2⟩ (fun j e => by cases e)
      exact pure_flat (by simp [flats, flat, hf]) hX rfl
  cases q with
  | met k => obtain ⟨rfl, hk⟩ := ha; exact num k fun _ => ⟨rfl, hk⟩
  | reading k => obtain ⟨rfl, hk⟩ := ha; exact num k fun _ => ⟨rfl, hk⟩
  | locked k => obtain ⟨rfl, hk⟩ := ha; exact num k fun _ => ⟨rfl, hk⟩
  | shelved m =>
    obtain ⟨j, hj, rfl, h2⟩ := ha
    have two : ∀ (p : Nat) (ob : Ob), 0 < p → d = .ref p → S[p]? = some ob → flatO ob = true → (∀ S : Sto, S[2]? = some ob → NtAt S (.ref 2) t) → pureC g [.str (wordOf (.shelved m)), .ref j, d] S = .ok (.bl b) S := by
      rintro p ob hp rfl hs hf ht
      have hjp : j ≠ p := fun z => hsep j rfl (by rw [z])
      obtain ⟨X, hX⟩ := hg [.hid, .lst (m.map D.int), ob] (.ref 1) (.ref 2) ⟨1, by decide, rfl, rfl⟩ (ht _ rfl) (fun j e e2 => by cases e; cases e2)
      obtain ⟨i1, i2⟩ := ix_two hjp
      refine pure_of (L := [j, p]) (os := [.lst (m.map D.int), ob]) (es := [.str (wordOf (.shelved m)), .ref 1, .ref 2]) (by simp only [refsDs, refsD, List.append_nil, List.nil_append, List.cons_append]; exact reach_two hjp h2 hs (flats_ints m) hf) ?_ (by simp only [renS, h2, hs, flatO_ren hf, flatO_ren (o := .lst (m.map D.int)) (flats_ints m)]) (by simp only [renDs, renD, i1, i2]) hX rfl
      have : ([p] : List Nat).contains j = false := by
        rw [Bool.eq_false_iff]
        intro z
        have z2 := List.contains_iff_mem.mp z
        simp only [List.mem_cons, List.not_mem_nil, or_false] at z2
        exact hjp z2
      simp [nodupB, hp, hj, hjp]
    cases t with
    | lst ds => obtain ⟨p, hp, hd, hs, he, hl⟩ := hn; exact two p _ hp hd hs (El.flats he) fun S e => ⟨2, by decide, rfl, e, he, hl⟩
    | dct => obtain ⟨p, hp, hd, hs⟩ := hn; exact two p _ hp hd hs rfl fun S e => ⟨2, by decide, rfl, e⟩
    | oth e =>
      obtain ⟨rfl, hf, hk2⟩ := hn
      obtain ⟨X, hX⟩ := hg [.hid, .lst (m.map D.int)] (.ref 1) d ⟨1, by decide, rfl, rfl⟩ ⟨rfl, hf, hk2⟩ (fun j e e2 => by rw [e2] at hf; cases hf)
      exact pure_of (L := [j]) (os := [.lst (m.map D.int)]) (es := [.str (wordOf (.shelved m)), .ref 1, d]) (by simp only [refsDs, refsD, flat_refs hf, List.append_nil, List.nil_append]; exact reach_one h2 (flats_ints m)) (by simp [nodupB, hj]) (by simp only [renS, h2, flatO_ren (o := .lst (m.map D.int)) (flats_ints m)]) (by simp only [renDs, renD, ix_one, flat_ren hf]) hX rfl
theorem keeps_at {S : Sto} {o d : D} {q : Ask} {t : Nt} (ha : AskAt S o q) (hn : NtAt S d t) (hsep : ∀ j, o = .ref j → d ≠ .ref j) (n : Nat) : (TT (n+3)).fn "keeps" [.str (wordOf q), o, d] S = .ok (.bl (ntB q t)) S := by
  rw [m_keeps_eq]
  exact pure3 ha hn hsep fun S o d h1 h2 _ => keeps_body h1 h2 n
theorem lkeeps_at {S : Sto} {o : D} {q : Ask} {l : List Int} {p : Nat} (ha : AskAt S o q) (hp : 0 < p) (hs : S[p]? = some (.lst (l.map D.int))) (hl : l.length ≤ 1000) (hb : ∀ i ∈ l, BigI i) (hsep : ∀ j, o = .ref j → D.ref p ≠ .ref j) (n : Nat) : (TT (n+2)).fn "_law_keeps" [.str (wordOf q), o, .ref p] S = .ok (.bl (keepB l q)) S := by
  rw [mlaw_keeps_eq]
  have hE : ∀ x ∈ l.map D.int, El x := fun x hx => by
    obtain ⟨i, hi, rfl⟩ := List.mem_map.mp hx
    exact .inl ⟨i, rfl, hb i hi⟩
  refine pure3 (t := .lst (l.map D.int)) ha ⟨p, hp, rfl, hs, hE, by simpa using hl⟩ hsep fun S o d h1 h2 _ => ?_
  obtain ⟨p, hp, rfl, hs, _, _⟩ := h2
  rw [← keep_eq]
  cases q with
  | met k => obtain ⟨rfl, hk⟩ := h1; exact lkeep_met hs _
  | reading k => obtain ⟨rfl, hk⟩ := h1; exact lkeep_reading hs hp hk n
  | locked k => obtain ⟨rfl, hk⟩ := h1; exact lkeep_locked hs hp hk n
  | shelved m => obtain ⟨j, hj, rfl, h2⟩ := h1; exact lkeep_shelved hs h2 _
end Cor
end
section
set_option linter.all false
set_option maxRecDepth 100000
namespace Cor
open PySem L2
def elP : D → PyData
  | .int i => .int i
  | .bl b => .bool b
  | .str x => .str x
  | _ => .none
theorem El.snap {d : D} (h : El d) {S : Sto} {n : Nat} : snap S (n + 1) d = some (elP d) := by
  rcases h with ⟨i, rfl, _⟩ | ⟨i, rfl⟩ | rfl | rfl <;> rfl
theorem els_snap {S : Sto} {n : Nat} : ∀ {ds : List D}, (∀ d ∈ ds, El d) → optAll (snap S (n + 1)) ds = some (ds.map elP)
  | [], _ => rfl
  | d :: ds, h => by
    simp only [optAll, (h d List.mem_cons_self).snap, els_snap fun d hd => h d (List.mem_cons_of_mem _ hd), List.map_cons]
theorem El.lay {d : D} (h : El d) : PyData.canLay0 (elP d) = true ∧ PyData.depth (elP d) = 0 ∧ PyData.showable (elP d) = true ∧ PyData.hasDict (elP d) = false ∧ (PyData.shown (elP d)).length ≤ 1921 := by
  rcases h with ⟨i, rfl, hb⟩ | ⟨i, rfl⟩ | rfl | rfl
  · refine ⟨by kernel_rfl, by kernel_rfl, ?_, by kernel_rfl, ?_⟩
    · simpa [elP, PyData.showable] using log_big hb
    · exact PyProof.Rows.int_text_len_1921 (log_big hb)
  · cases i <;> exact ⟨by decide +kernel, by decide +kernel, by decide +kernel, by decide +kernel, by decide +kernel⟩
  · exact ⟨by decide +kernel, by decide +kernel, by decide +kernel, by decide +kernel, by decide +kernel⟩
  · exact ⟨by decide +kernel, by decide +kernel, by decide +kernel, by decide +kernel, by decide +kernel⟩
theorem els_lay : ∀ {ds : List D}, (∀ d ∈ ds, El d) → PyData.canLayAll0 (ds.map elP) = true ∧ PyData.depthAll (ds.map elP) = 0 ∧ PyData.showableAll (ds.map elP) = true ∧ PyData.hasDictAll (ds.map elP) = false ∧ ((PyData.shownAll (ds.map elP)).map (·.length)).sum ≤ 1921 * ds.length ∧ (PyData.shownAll (ds.map elP)).length = ds.length
  | [], _ => ⟨by simp [PyData.canLayAll0], by simp [PyData.depthAll], by simp [PyData.showableAll], by simp [PyData.hasDictAll], by simp [PyData.shownAll], by simp [PyData.shownAll]⟩
  | d :: ds, h => by
    obtain ⟨a1, a2, a3, a4, a5⟩ := (h d List.mem_cons_self).lay
    obtain ⟨b1, b2, b3, b4, b5, b6⟩ := els_lay fun d hd => h d (List.mem_cons_of_mem _ hd)
    refine ⟨by simp [PyData.canLayAll0, a1, b1], by simp [PyData.depthAll, a2, b2], by simp [PyData.showableAll, a3, b3], by simp [PyData.hasDictAll, a4, b4], ?_, by simp [PyData.shownAll, b6]⟩
    simp only [List.map_cons, PyData.shownAll, List.sum_cons, List.length_cons]
    omega
theorem els_shaped {ds : List D} (h : ∀ d ∈ ds, El d) : SeqAt.shaped (.list (ds.map elP)) = true := by
  obtain ⟨b1, b2, _⟩ := els_lay h
  unfold SeqAt.shaped
  simp [PyData.canLay0, PyData.depth, b1, b2]
theorem els_at {S : Sto} {p : Nat} {ds : List D} (h : S[p]? = some (.lst ds)) (he : ∀ d ∈ ds, El d) : At S (.ref p) (.list (ds.map elP)) := at_lst (n := 1) (by decide) h (els_snap he)
theorem sz2m : 2000000 ≤ sizeLine := by decide +kernel
theorem els_reprL {ds : List D} (he : ∀ d ∈ ds, El d) (hl : ds.length ≤ 1000) : (reprP (.list (ds.map elP))).isSome = true := by
  obtain ⟨b1, b2, b3, b4, b5, b6⟩ := els_lay he
  unfold reprP
  rw [if_pos]
  · rfl
  refine ⟨by simpa [PyData.showable] using b3, by simp [PyData.depth, b2], ?_, by simpa [dictOk, PyData.hasDict] using b4⟩
  have z := sz2m
  have e : PyData.shown (.list (ds.map elP)) = listText (PyData.shownAll (ds.map elP)) := by simp only [PyData.shown]
  rw [e]
  have := listText_len_le (PyData.shownAll (ds.map elP))
  rw [b6] at this
  omega
theorem piled_sum (ts : List Str) : piled ts = (ts.map (·.length)).sum + 2 * ts.length := by
  induction ts with
  | nil => rfl
  | cons t ts ih => rw [piled_cons, ih]; simp; omega
theorem els_reprT {ds : List D} (he : ∀ d ∈ ds, El d) (hl : ds.length ≤ 1000) : (reprP (.tuple (ds.map elP))).isSome = true := by
  obtain ⟨b1, b2, b3, b4, b5, b6⟩ := els_lay he
  unfold reprP
  rw [if_pos]
  · rfl
  refine ⟨by simpa [PyData.showable] using b3, by simp [PyData.depth, b2], ?_, by simpa [dictOk, PyData.hasDict] using b4⟩
  have z := sz2m
  have e : PyData.shown (.tuple (ds.map elP)) = tupleText (PyData.shownAll (ds.map elP)) := by simp only [PyData.shown]
  rw [e]
  have jl : (Str.join ", " (PyData.shownAll (ds.map elP))).length ≤ piled (PyData.shownAll (ds.map elP)) := by
    cases hh : PyData.shownAll (ds.map elP) with
    | nil => exact Nat.le_refl _
    | cons t ts =>
      have := join_length_add (t :: ts) (by simp)
      omega
  rw [piled_sum, b6] at jl
  unfold tupleText
  simp only [strLen_append]
  have e1 : ("(" : Str).length = 1 := by decide +kernel
  have e2 : (Str.ofString (if (PyData.shownAll (ds.map elP)).length == 1 then ",)" else ")")).length ≤ 2 := by
    split <;> decide +kernel
  rw [e1]
  omega
/-- notes have a text -/
def NtOk : Nt → Prop
  | .lst _ => True
  | .dct => True
  | .oth e => e = .non ∨ e = .str "" ∨ ∃ ds, e = .tup ds ∧ (∀ d ∈ ds, El d) ∧ ds.length ≤ 1000
theorem nt_repr {S : Sto} {d : D} {t : Nt} (h : NtAt S d t) (ok : NtOk t) : ∃ x, callB .repr [d] S = .ok (.str x) S := by
  have go : ∀ p : PyData, At S d p → (reprP p).isSome = true → ∃ x, callB .repr [d] S = .ok (.str x) S := fun p h e => by
    obtain ⟨x, ex⟩ := Option.isSome_iff_exists.mp e
    exact ⟨x, h.reprc ex⟩
  cases t with
  | lst ds =>
    obtain ⟨p, hp, rfl, hs, he, hl⟩ := h
    exact go _ (els_at hs he) (els_reprL he hl)
  | dct =>
    obtain ⟨p, hp, rfl, hs⟩ := h
    refine go (.dict []) ⟨1, by decide, ?_⟩ (by decide +kernel)
    show (match S[p]? with
      | some (.lst ds) => (match optAll (snap S 0) ds with
        | some ps => some (PyData.list ps)
        | none => none)
      | some (.dK kvs) => (match optAll (fun (p : Key × D) => snap S 0 p.2) kvs with
        | some ps => some (PyData.dict ((kvs.map fun (p : Key × D) => okey p.1).zip ps))
        | none => none)
      | _ => none) = _
    rw [hs]
    rfl
  | oth e =>
    obtain ⟨rfl, _⟩ := h
    rcases ok with rfl | rfl | ⟨ds, rfl, he, hl⟩
    · exact go .none ⟨1, by decide, rfl⟩ (by decide +kernel)
    · exact go (.str "") at_str (by decide +kernel)
    · exact go (.tuple (ds.map elP)) ⟨2, by decide, snap_tup (els_snap he)⟩ (els_reprT he hl)
theorem El.kd {d : D} (h : El d) : ∃ k, (∀ S, kdOf S d = some k) ∧ (!(kitF k .int) || kitF k .bool) = !isInt d := by
  rcases h with ⟨i, rfl, _⟩ | ⟨i, rfl⟩ | rfl | rfl
  · exact ⟨.int, fun _ => rfl, rfl⟩
  · exact ⟨.bl, fun _ => rfl, rfl⟩
  · exact ⟨.non, fun _ => rfl, rfl⟩
  · exact ⟨.str, fun _ => rfl, rfl⟩
theorem fm_filter (f : D → Bool) (l : List D) : l.filterMap (fun d => if f d then none else some d) = l.filter fun d => !f d := by
  induction l with
  | nil => rfl
  | cons a l ih => cases h : f a <;> simp [h, ih]
theorem ints_mem {ds : List D} (he : ∀ d ∈ ds, El d) : ∀ i ∈ intsOf ds, BigI i := by
  induction ds with
  | nil => intro i hi; cases hi
  | cons d ds ih =>
    have ih := ih fun d hd => he d (List.mem_cons_of_mem _ hd)
    have h0 := he d List.mem_cons_self
    intro i hi
    cases d with
    | int j =>
      rcases List.mem_cons.mp (show i ∈ j :: intsOf ds from hi) with rfl | hi
      · rcases h0 with ⟨k, e, hb⟩ | ⟨k, e⟩ | e | e <;> first | cases e | skip
        exact hb
      · exact ih i hi
    | _ => exact ih i hi
theorem due_body {S : Sto} {o d : D} {q : Ask} {t : Nt} (ha : AskAt S o q) (hn : NtAt S d t) (hsep : ∀ j, o = .ref j → d ≠ .ref j) (n : Nat) : ∃ X, plaw_due (TT (n+2)).fn [.str (wordOf q), o, d] S = .ok (.bl (ntB q t)) (S ++ X) := by
  have no : callB .isinstance [d, .ty .list] S = .ok (.bl false) S → ntB q t = false → ∃ X, plaw_due (TT (n+2)).fn [.str (wordOf q), o, d] S = .ok (.bl (ntB q t)) (S ++ X) := fun h e => ⟨[], by
    rw [e]
    simp [plaw_due, mlaw_due, h]⟩
  cases t with
  | dct =>
    obtain ⟨p, hp, rfl, hs⟩ := hn
    have kd : kdOf S (.ref p) = some .dic := by simp [kdOf, hs]
    exact no (isinst_k kd .list) rfl
  | oth e =>
    obtain ⟨rfl, hf, k, hk, hno⟩ := hn
    have is1 := isinst_k (hk S) .list
    rw [hno] at is1
    exact no is1 rfl
  | lst ds =>
    obtain ⟨p, hp, rfl, hs, he, hl⟩ := hn
    have kd : kdOf S (.ref p) = some .lst := by simp [kdOf, hs]
    have is1 : callB .isinstance [.ref p, .ty .list] S = .ok (.bl true) S := isinst_k kd .list
    have lc : lcX (itX (lk 2)) [3] (tgN 3) [(testsX true [(notT (tstX (callX (callB .isinstance) [(lk 3), (cst (.ty .int))]))), (tstX (callX (callB .isinstance) [(lk 3), (cst (.ty .bool))]))])] (lk 3) [some (.str (wordOf q)), some o, some (.ref p), none] S = .ok (.ref S.length) (S ++ [.lst (ds.filter fun d => !isInt d)]) := by
      rw [lc_pure (J := ⟨ds, some p⟩) (fun d => if isInt d then none else some d) (it_lst (by simp) hs) (guard_lst hs) (fun d hd => ?_) (sz_le hl), fm_filter]
      obtain ⟨k, hk, e⟩ := (he d hd).kd
      have i1 := isinst_k (hk S) .int
      have i2 := isinst_k (hk S) .bool
      cases a1 : kitF k .int <;> cases a2 : kitF k .bool <;> cases a3 : isInt d <;> rw [a1, a2, a3] at e <;> first | (cases e; done) | (simp [turnX, wipeD, evIf, i1, i2, a1, a2])
    have nl : newL [] (S ++ [.lst (ds.filter fun d => !isInt d)]) = .ok (.ref (S.length + 1)) (S ++ [.lst (ds.filter fun d => !isInt d)] ++ [.lst []]) := by
      have := new_lst (ds := []) (S := S ++ [Ob.lst (ds.filter fun d => !isInt d)]) (by simp)
      simpa using this
    have hf : ∀ d ∈ ds.filter fun d => !isInt d, El d := fun d hd => he d (List.mem_filter.mp hd).1
    have g1 : (S ++ [Ob.lst (ds.filter fun d => !isInt d)] ++ [Ob.lst []])[S.length]? = some (.lst (ds.filter fun d => !isInt d)) := by simp
    have g2 : (S ++ [Ob.lst (ds.filter fun d => !isInt d)] ++ [Ob.lst []])[S.length + 1]? = some (.lst []) := by simp
    have eq := eqD_lists (els_at g1 hf).sn (els_at (ds := []) g2 (fun d hd => by cases hd)).sn (els_shaped hf) (els_shaped (ds := []) (fun d hd => by cases hd))
    rw [List.map_nil, eqv_nil, List.isEmpty_map] at eq
    have gr : Grow S (S ++ [Ob.lst (ds.filter fun d => !isInt d)] ++ [Ob.lst []]) := ⟨_, List.append_assoc ..⟩
    have ia : (ds.filter fun d => !isInt d).isEmpty = ds.all isInt := by
      clear lc nl hf g1 g2 eq gr he hl hs no
      induction ds with
      | nil => rfl
      | cons a l ih => cases h : isInt a <;> simp [h, List.filter_cons] ; simpa using ih
    rw [ia] at eq
    have hs1 := gr_at gr hs
    refine ⟨[.lst (ds.filter fun d => !isInt d), .lst []], ?_⟩
    have ap : S ++ [Ob.lst (ds.filter fun d => !isInt d), .lst []] = S ++ [Ob.lst (ds.filter fun d => !isInt d)] ++ [Ob.lst []] := by simp
    rw [ap]
    generalize hS1 : S ++ [Ob.lst (ds.filter fun d => !isInt d)] ++ [Ob.lst []] = S1 at nl eq gr hs1
    cases hall : ds.all isInt with
    | false =>
      rw [hall] at eq
      simp [plaw_due, mlaw_due, is1, lc, nl, cmpD, cmpO, eq, ntB, hall]
    | true =>
      rw [hall] at eq
      have hi := ints_all hall
      have bi := ints_mem he
      rw [hi] at hs1
      have ha1 : AskAt S1 o q := by
        cases q with
        | shelved m => obtain ⟨j, hj, e, h2⟩ := ha; exact ⟨j, hj, e, gr_at gr h2⟩
        | _ => exact ha
      have hll : (intsOf ds).length ≤ 1000 := by
        have : ds.length = (intsOf ds).length := by
          conv => lhs; rw [hi]
          simp
        omega
      have lk := lkeeps_at ha1 hp hs1 hll bi hsep n
      simp [plaw_due, mlaw_due, is1, lc, nl, cmpD, cmpO, eq, ntB, hall, lk]
end Cor
end
section
set_option linter.all false
set_option maxRecDepth 100000
namespace Cor
open PySem L2
theorem take_is (F) : mlaw_take F = takeB 48271 11 64 := rfl
theorem take_at {S : Sto} {k : Nat} (h : PoolAt S k) {m : Int} (h0 : 0 < m) (h1 : m < 1073741824) (n : Nat) : ∃ r S', 0 ≤ r ∧ r < m ∧ PoolAt S' k ∧ Kp k S S' ∧ (TT (n+1)).fn "_law_take" [.ref k, .int m] S = .ok (.int r) S' := by
  obtain ⟨r, S', a, b, c, d, e⟩ := take_any (a := 48271) (b := 11) (c := 64) (by decide) (by decide) h h0 h1
  exact ⟨r, S', a, b, c, d, by rw [mlaw_take_eq, take_is]; exact e⟩
theorem one_at {S : Sto} {k j : Nat} {ds : List D} (h : PoolAt S k) (hj : S[j]? = some (.lst ds)) (hjk : j ≠ k) (h0 : 0 < ds.length) (h1 : ds.length ≤ 1000) (n : Nat) : ∃ (r : Nat) (d : D) (S' : Sto), ds[r]? = some d ∧ PoolAt S' k ∧ Kp k S S' ∧ (TT (n+2)).fn "_law_one" [.ref k, .ref j] S = .ok d S' := by
  have ln : callB .len [.ref j] S = .ok (.int ds.length) S := cb_len (by simp [lenD, hj])
  obtain ⟨r, S', a, b, c, d, e⟩ := take_at h (m := (ds.length : Int)) (by omega) (by omega) n
  have hr : r.toNat < ds.length := by omega
  have ix := ix_lst (d.at_ _ _ hjk hj) a (List.getElem?_eq_getElem hr)
  refine ⟨r.toNat, ds[r.toNat], S', List.getElem?_eq_getElem hr, c, d, ?_⟩
  rw [mlaw_one_eq]
  simp [mlaw_one, ln, e, ix]
theorem pool_at {S : Sto} {ns : List Int} {k : Int} (h : S[0]? = some (.frz (ns.map .int))) (hk : 0 ≤ k) (n : Nat) : ∃ p S', 0 < p ∧ PoolAt S' p ∧ Grow S S' ∧ (TT (n+1)).fn "_law_pool" [.ref 0, .int k] S = .ok (.ref p) S' := by
  have hl := (List.getElem?_eq_some_iff.mp h).1
  have cu : cutD (.ref 0) (some k) (some (k + 1)) S = .ok (.ref S.length) (S ++ [.lst (cutL (ns.map D.int) (some k) (some (k + 1)))]) := by simp only [cutD, h, newO]
  obtain ⟨cs, hcs⟩ : ∃ cs : List Int, cutL (ns.map D.int) (some k) (some (k + 1)) = cs.map D.int := ⟨cutL ns (some k) (some (k + 1)), by
    unfold cutL
    simp [List.map_take, List.map_drop]⟩
  have cl : cs.length ≤ 1 := by
    have e : (cs.map D.int).length ≤ 1 := by
      rw [← hcs]
      unfold cutL
      simp only [List.length_take, List.length_drop, List.length_map]
      have : HT.sIx ns.length ns.length (some (k + 1)) - HT.sIx ns.length 0 (some k) ≤ 1 := by
        unfold HT.sIx
        dsimp only
        rw [if_neg (by omega), if_neg (by omega)]
        omega
      omega
    simpa using e
  rw [hcs] at cu
  have g1 : (S ++ [.lst (cs.map D.int)])[S.length]? = some (.lst (cs.map D.int)) := by simp
  have gr1 : Grow S (S ++ [.lst (cs.map D.int)]) := ⟨_, rfl⟩
  generalize hS1 : S ++ [.lst (cs.map D.int)] = S1 at cu g1 gr1
  have n1 : newL [.int 0] S1 = .ok (.ref S1.length) (S1 ++ [.lst [.int 0]]) := new_lst (by simp)
  have gr2 : Grow S1 (S1 ++ [.lst [.int 0]]) := ⟨_, rfl⟩
  have g2 : (S1 ++ [.lst [.int 0]])[S1.length]? = some (.lst [.int 0]) := by simp
  have g1' := gr_at gr2 g1
  generalize hS2 : S1 ++ [.lst [.int 0]] = S2 at n1 gr2 g2 g1'
  have ad := add_lst g1' g2 (by simp; omega)
  have gr3 : Grow S2 (S2 ++ [.lst (cs.map D.int ++ [.int 0])]) := ⟨_, rfl⟩
  have g3 : (S2 ++ [.lst (cs.map D.int ++ [.int 0])])[S2.length]? = some (.lst (cs.map D.int ++ [.int 0])) := by simp
  generalize hS3 : S2 ++ [.lst (cs.map D.int ++ [.int 0])] = S3 at ad gr3 g3
  obtain ⟨c, hc⟩ : ∃ c : Int, (cs.map D.int ++ [.int 0])[(0 : Int).toNat]? = some (.int c) := by
    cases cs with
    | nil => exact ⟨0, rfl⟩
    | cons c cs => exact ⟨c, rfl⟩
  have ix := ix_lst g3 (Int.le_refl 0) hc
  have sm : smallI 7919 := by decide
  have sm2 : smallI 48271 := by decide
  have mx : callB .max [.int c, .int (-1 - c)] S3 = .ok (.int (if -1 - c > c then -1 - c else c)) S3 := rfl
  generalize hz : (if -1 - c > c then -1 - c else c) = z at mx
  have hz0 : 0 ≤ z := by rw [← hz]; split <;> omega
  have sb : binD .Sub (.int (-1)) (.int c) S3 = .ok (.int (-1 - c)) S3 := rfl
  have seed0 := Int.emod_nonneg ((z % 2147483629 + 7919 * k + 1) * 48271) (show (2147483647 : Int) ≠ 0 by decide)
  have seed1 := Int.emod_lt_of_pos ((z % 2147483629 + 7919 * k + 1) * 48271) (show (0 : Int) < 2147483647 by decide)
  generalize hsd : (z % 2147483629 + 7919 * k + 1) * 48271 % 2147483647 = sd at seed0 seed1
  have n4 : ∀ a : Int, newL [.int a, .int sd] S3 = .ok (.ref S3.length) (S3 ++ [.lst [.int a, .int sd]]) := fun a => new_lst (by simp)
  have cint : ∀ b : Bool, callB .int [.bl b] S3 = .ok (.int (if b then 1 else 0)) S3 := fun b => rfl
  refine ⟨S3.length, S3 ++ [.lst [.int (z * (if 1000000000000000000 ≤ z then 1 else 0)), .int sd]], ?_, ⟨z * (if 1000000000000000000 ≤ z then 1 else 0), sd, by simp, ?_, seed0, seed1⟩, ((gr1.trans gr2).trans gr3).trans ⟨_, rfl⟩, ?_⟩
  · obtain ⟨X, rfl⟩ := (gr1.trans gr2).trans gr3
    simp; omega
  · by_cases hb : 1000000000000000000 ≤ z
    · simp [hb]; omega
    · simp [hb]
  · rw [mlaw_pool_eq]
    simp only [mlaw_pool, sqX, finX]
    have s01 : smallI (if 1000000000000000000 ≤ z then 1 else 0) := by
      split <;> decide
    simp [cu, n1, ad, ix, b_add, b_mod, b_mul, optE, sm, sm2, hsd, pow18, cmpD, cmpO, cint, n4, s01, mx, sb]
/-- numbers for the room -/
def five5 : List D := [.int 0, .int 5, .int (-7), .int 1000000000, .int 3]
theorem five_int {r : Nat} {d : D} (h : five5[r]? = some d) : ∃ i, d = .int i ∧ BigI i := by
  have hm := List.mem_of_getElem? h
  simp only [five5, List.mem_cons, List.not_mem_nil, or_false] at hm
  rcases hm with rfl | rfl | rfl | rfl | rfl <;> exact ⟨_, rfl, by decide, by decide⟩
instance (i : Int) : Decidable (BigI i) := inferInstanceAs (Decidable (_ ∧ _))
theorem nums_loop {S : Sto} {k : Nat} {J : List D} {env : DEnv} (n : Nat) (he : env = [some (.ref k), none, none, none]) : ∀ (ds : List D) (S : Sto) (acc : List Int), PoolAt S k → (∀ i ∈ acc, BigI i) → acc.length + ds.length ≤ 10 →
    ∃ (S' : Sto) (m : List Int), PoolAt S' k ∧ Kp k S S' ∧ (∀ i ∈ m, BigI i) ∧ m.length = acc.length + ds.length ∧ compD J none (turnX [3] (tgN 3) [] (callX ((TT (n+2)).fn "_law_one") [(lk 0), (lstX [(cst (.int 0)), (cst (.int 5)), (negX (cst (.int 7))), (binX .Pow (cst (.int 10)) (cst (.int 9))), (cst (.int 3))])]) env) ds (acc.map D.int) S = .ok (m.map D.int) S' := by
  intro ds
  induction ds with
  | nil => exact fun S acc h hb _ => ⟨S, acc, h, Kp.refl, hb, rfl, by simp [compD, guardOk]⟩
  | cons d ds ih =>
    intro S acc h hb hl
    simp only [List.length_cons] at hl
    have n5 : newL five5 S = .ok (.ref S.length) (S ++ [.lst five5]) := new_lst (by simp [five5])
    have hk := h.lt
    obtain ⟨r, x, S1, hx, p1, k1, e1⟩ := one_at (h.app (X := [.lst five5])) (j := S.length) (ds := five5) (by simp) (by omega) (by simp [five5]) (by simp [five5]) n
    obtain ⟨i, rfl, hi⟩ := five_int hx
    obtain ⟨S2, m, p2, k2, b2, l2, e2⟩ := ih S1 (acc ++ [i]) p1 (fun j hj => by
      rcases List.mem_append.mp hj with hj | hj
      · exact hb j hj
      · simp at hj; subst hj; exact hi) (by simp; omega)
    refine ⟨S2, m, p2, (Kp.app.trans k1).trans k2, b2, by rw [l2]; simp; omega, ?_⟩
    have t : turnX [3] (tgN 3) [] (callX ((TT (n+2)).fn "_law_one") [(lk 0), (lstX [(cst (.int 0)), (cst (.int 5)), (negX (cst (.int 7))), (binX .Pow (cst (.int 10)) (cst (.int 9))), (cst (.int 3))])]) env d S = .ok (some (.int i)) S1 := by
      subst he
      unfold five5 at n5 e1
      simp [turnX, wipeD, evIf, pow9, n5, e1]
    have sz : (acc.map D.int).length < sizeLine := by
      have := sz1000
      simp; omega
    simp only [compD, guardOk, if_true, t, bind_ok, sz]
    rw [← e2]
    simp
def madeL (w : Nat) : List D := [.tup [.str "locked", .int 1], .tup [.str "locked", .int 2], .tup [.str "shelved", .ref w], .tup [.str "met", .int 2], .tup [.str "met", .int 3], .tup [.str "reading", .int 1], .tup [.str "reading", .int 2]]
theorem made_at {S : Sto} {k : Nat} (h : PoolAt S k) (n : Nat) : ∃ (w : Nat) (m : List Int) (j : Nat) (S' : Sto), w ≠ k ∧ j ≠ k ∧ 0 < w ∧ S'[w]? = some (.lst (m.map D.int)) ∧ (∀ i ∈ m, BigI i) ∧ 0 < m.length ∧ m.length ≤ 3 ∧ S'[j]? = some (.lst (madeL w)) ∧ PoolAt S' k ∧ Kp k S S' ∧ (TT (n+3)).fn "_law_made_programs" [.ref k] S = .ok (.ref j) S' := by
  obtain ⟨r, S1, a, b, p1, k1, e1⟩ := take_at h (m := 3) (by decide) (by decide) (n + 1)
  have hr : (1 + r).toNat ≤ 10 := by omega
  obtain ⟨S2, m, p2, k2, b2, l2, e2⟩ := nums_loop (k := k) (J := rangeD 0 (1 + r).toNat) (env := [some (.ref k), none, none, none]) (S := S1) n rfl (rangeD 0 (1 + r).toNat) S1 [] p1 (fun i hi => by cases hi) (by rw [rangeD_len']; simpa using hr)
  rw [rangeD_len'] at l2
  simp only [List.length_nil, Nat.zero_add, List.map_nil] at l2 e2
  have hk2 := p2.lt
  have hkS := h.lt
  have lS := k1.len
  have lS2 := k2.len
  have g1 : (S2 ++ [.lst (m.map D.int)])[S2.length]? = some (.lst (m.map D.int)) := by simp
  have gr1 : Grow S2 (S2 ++ [.lst (m.map D.int)]) := ⟨_, rfl⟩
  have p3 : PoolAt (S2 ++ [.lst (m.map D.int)]) k := p2.app
  generalize hS3 : S2 ++ [.lst (m.map D.int)] = S3 at g1 gr1 p3
  have n7 : newL (madeL S2.length) S3 = .ok (.ref S3.length) (S3 ++ [.lst (madeL S2.length)]) := new_lst (by simp [madeL])
  have gr2 : Grow S3 (S3 ++ [.lst (madeL S2.length)]) := ⟨_, rfl⟩
  have hk3 := p3.lt
  refine ⟨S2.length, m, S3.length, S3 ++ [.lst (madeL S2.length)], by omega, by omega, by omega, gr_at gr2 g1, b2, by omega, by omega, by simp, p3.app, ((k1.trans k2).trans (Kp.grow gr1)).trans (Kp.grow gr2), ?_⟩
  have rg : rngX [(binX .Add (cst (.int 1)) (callX ((TT (n+2)).fn "_law_take") [(lk 0), (cst (.int 3))]))] [some (.ref k), none, none, none] S = .ok ⟨rangeD 0 (1 + r).toNat, none⟩ S1 := by
    have := rng_of (S := S) (S' := S1) (env := [some (.ref k), none, none, none]) (x := binX .Add (cst (.int 1)) (callX ((TT (n+2)).fn "_law_take") [(lk 0), (cst (.int 3))])) (m := (1 + r).toNat) (by omega) (by
      have e : (((1 + r).toNat : Nat) : Int) = 1 + r := by omega
      rw [e]
      simp [e1, b_add])
    exact this
  have lc : lcX (rngX [(binX .Add (cst (.int 1)) (callX ((TT (n+2)).fn "_law_take") [(lk 0), (cst (.int 3))]))]) [3] (tgN 3) [] (callX ((TT (n+2)).fn "_law_one") [(lk 0), (lstX [(cst (.int 0)), (cst (.int 5)), (negX (cst (.int 7))), (binX .Pow (cst (.int 10)) (cst (.int 9))), (cst (.int 3))])]) [some (.ref k), none, none, none] S = .ok (.ref S2.length) S3 := by
    unfold lcX
    rw [rg]
    simp only [bind_ok, e2, newO]
    rw [hS3]
  rw [mlaw_made_programs_eq]
  unfold madeL at n7
  simp [mlaw_made_programs, lc, mk_tup, n7]
  rfl
end Cor
end
section
set_option linter.all false
set_option maxRecDepth 100000
namespace Cor
open PySem L2
def pops : Nat → List Int → List (List Int)
  | 0, _ => [[]]
  | n + 1, xs => (List.range xs.length).flatMap fun r => match xs[r]? with
    | some x => (pops n (xs.eraseIdx r)).map (x :: ·)
    | none => []
def pairs : List Int → List Int
  | [] => []
  | y :: ys => y :: -y :: pairs ys
def loopT : Xp := tstX (cmpX .NotEq (lk 4) (lstX []))
def loopB (F : Str → List D → Sto → R D) : List Yp := [asgX (tgN 5) (mtX .pop (lk 4) [(callX (F "_law_take") [(lk 0), (callX (callB .len) [(lk 4)])])]), asgX (tgN 3) (binX .Add (lk 3) (lstX [(lk 5), (binX .Sub (cst (.int 0)) (lk 5))]))]
/-- all but two objects stay -/
structure K2 (k s : Nat) (S S' : Sto) : Prop where
  at_ : ∀ (n : Nat) o, n ≠ k → n ≠ s → S[n]? = some o → S'[n]? = some o
  len : S.length ≤ S'.length
theorem K2.refl {k s : Nat} {S : Sto} : K2 k s S S := ⟨fun _ _ _ _ h => h, Nat.le_refl _⟩
theorem K2.trans {k s : Nat} {S S1 S2 : Sto} (a : K2 k s S S1) (b : K2 k s S1 S2) : K2 k s S S2 := ⟨fun n o h h2 e => b.at_ n o h h2 (a.at_ n o h h2 e), Nat.le_trans a.len b.len⟩
theorem K2.of {k s : Nat} {S S' : Sto} (a : Kp k S S') : K2 k s S S' := ⟨fun n o h _ e => a.at_ n o h e, a.len⟩
theorem K2.set {k s : Nat} {S : Sto} {o : Ob} : K2 k s S (S.set s o) := ⟨fun n o' h h2 e => by rw [List.getElem?_set_ne (Ne.symm h2)]; exact e, by simp⟩
theorem test_at {S : Sto} {s : Nat} {xs : List Int} {env : DEnv} (h4 : env[4]? = some (some (.ref s))) (hs : S[s]? = some (.lst (xs.map D.int))) : loopT env S = .ok (.bl (!xs.isEmpty)) (S ++ [.lst []]) := by
  have nl : newL [] S = .ok (.ref S.length) (S ++ [.lst []]) := new_lst (by simp)
  have gr : Grow S (S ++ [Ob.lst []]) := ⟨_, rfl⟩
  have eq := eq_nil (gr_at gr hs) (show (S ++ [Ob.lst []])[S.length]? = some (.lst []) by simp)
  simp [loopT, h4, nl, cmpD, cmpO, eq]
theorem loop_at (n : Nat) (k s : Nat) (hks : s ≠ k) (w : D) (kk : D) (e6 : Option D) : ∀ (m : Nat) (xs fs : List Int) (f : Nat) (S : Sto) (e5 : Option D) (fuel : Nat), xs.length = m → m < fuel → PoolAt S k → f ≠ k → f ≠ s → S[f]? = some (.lst (fs.map D.int)) → S[s]? = some (.lst (xs.map D.int)) → fs.length + 2 * m ≤ 100 →
    ∃ (S' : Sto) (f' : Nat) (ys : List Int) (o5 : Option D), ys ∈ pops m xs ∧ f' ≠ k ∧ f' ≠ s ∧ S'[f']? = some (.lst ((fs ++ pairs ys).map D.int)) ∧ PoolAt S' k ∧ K2 k s S S' ∧ (f' = f ∨ S.length ≤ f') ∧
      whileD loopT (sqX (loopB (TT (n+1)).fn)) fuel [some (.ref k), some w, some kk, some (.ref f), some (.ref s), e5, e6] S = .nx [some (.ref k), some w, some kk, some (.ref f'), some (.ref s), o5, e6] S' := by
  intro m
  induction m with
  | zero =>
    intro xs fs f S e5 fuel hx hfu hp hfk hfs hf hs _
    have hx0 : xs = [] := List.length_eq_zero_iff.mp hx
    subst hx0
    obtain ⟨fu, rfl⟩ : ∃ fu, fuel = fu + 1 := ⟨fuel - 1, by omega⟩
    have t := test_at (env := [some (.ref k), some w, some kk, some (.ref f), some (.ref s), e5, e6]) rfl hs
    have gr : Grow S (S ++ [Ob.lst []]) := ⟨_, rfl⟩
    refine ⟨S ++ [.lst []], f, [], e5, by simp [pops], hfk, hfs, by simpa [pairs] using gr_at gr hf, hp.app, K2.of Kp.app, .inl rfl, ?_⟩
    simp only [whileD, t, st_ok]
    rfl
  | succ m ih =>
    intro xs fs f S e5 fuel hx hfu hp hfk hfs hf hs hl
    obtain ⟨fu, rfl⟩ : ∃ fu, fuel = fu + 1 := ⟨fuel - 1, by omega⟩
    have t := test_at (env := [some (.ref k), some w, some kk, some (.ref f), some (.ref s), e5, e6]) rfl hs
    have hne : xs.isEmpty = false := by cases xs <;> simp at hx ⊢
    rw [hne] at t
    have gr : Grow S (S ++ [Ob.lst []]) := ⟨_, rfl⟩
    have p1 : PoolAt (S ++ [Ob.lst []]) k := hp.app
    have hs1 := gr_at gr hs
    have hf1 := gr_at gr hf
    have kA : K2 k s S (S ++ [Ob.lst []]) := K2.of Kp.app
    generalize hS1 : S ++ [Ob.lst []] = S1 at t gr p1 hs1 hf1 kA
    have ln : callB .len [.ref s] S1 = .ok (.int xs.length) S1 := len_ints hs1
    obtain ⟨r, S2, a, b, p2, k2, e2⟩ := take_at p1 (m := (xs.length : Int)) (by omega) (by omega) n
    have hr : r.toNat < xs.length := by omega
    have hs2 := k2.at_ _ _ hks hs1
    have hf2 := k2.at_ _ _ hfk hf1
    have hsl := (List.getElem?_eq_some_iff.mp hs2).1
    have pop : callM .pop (.ref s) [.int r] S2 = .ok (.int xs[r.toNat]) (S2.set s (.lst ((xs.eraseIdx r.toNat).map D.int))) := by
      have ixn : ixN (xs.map D.int).length r = some r.toNat := by
        unfold ixN
        have : r < ((xs.map D.int).length : Int) := by simp; omega
        simp [a, this]
        omega
      have er : ∀ (l : List Int) (i : Nat), (l.map D.int).eraseIdx i = (l.eraseIdx i).map D.int := by
        intro l
        induction l with
        | nil => intro i; rfl
        | cons a l ih => intro i; cases i <;> simp [List.eraseIdx, ih]
      simp only [callM, popM, hs2, ixn, List.getElem?_map, List.getElem?_eq_getElem hr, Option.map_some, er]
    have hs3 : (S2.set s (.lst ((xs.eraseIdx r.toNat).map D.int)))[s]? = some (.lst ((xs.eraseIdx r.toNat).map D.int)) := List.getElem?_set_self hsl
    have hf3 : (S2.set s (.lst ((xs.eraseIdx r.toNat).map D.int)))[f]? = some (.lst (fs.map D.int)) := by rw [List.getElem?_set_ne (Ne.symm hfs)]; exact hf2
    have p3 : PoolAt (S2.set s (.lst ((xs.eraseIdx r.toNat).map D.int))) k := by
      obtain ⟨u, v, e, q⟩ := p2
      exact ⟨u, v, by rw [List.getElem?_set_ne hks]; exact e, q⟩
    have kB : K2 k s S2 (S2.set s (.lst ((xs.eraseIdx r.toNat).map D.int))) := K2.set
    have lsd2 : (lstD S1 (.ref s)).isSome = true := lstD_ints hs1
    generalize hS3 : S2.set s (.lst ((xs.eraseIdx r.toNat).map D.int)) = S3 at pop hs3 hf3 p3 kB
    generalize hxr : xs[r.toNat] = x at pop
    have n2 : newL [.int x, .int (-x)] S3 = .ok (.ref S3.length) (S3 ++ [.lst [.int x, .int (-x)]]) := new_lst (by simp)
    have gr4 : Grow S3 (S3 ++ [Ob.lst [.int x, .int (-x)]]) := ⟨_, rfl⟩
    have g4 : (S3 ++ [Ob.lst [.int x, .int (-x)]])[S3.length]? = some (.lst [.int x, .int (-x)]) := by simp
    have hs4 := gr_at gr4 hs3
    have hf4 := gr_at gr4 hf3
    have p4 : PoolAt (S3 ++ [Ob.lst [.int x, .int (-x)]]) k := p3.app
    have hk3 := p3.lt
    have hs3l := (List.getElem?_eq_some_iff.mp hs3).1
    generalize hS4 : S3 ++ [Ob.lst [.int x, .int (-x)]] = S4 at n2 gr4 g4 hs4 hf4 p4
    have ad := add_lst hf4 g4 (by simp; omega)
    have gr5 : Grow S4 (S4 ++ [Ob.lst (fs.map D.int ++ [.int x, .int (-x)])]) := ⟨_, rfl⟩
    have g5 : (S4 ++ [Ob.lst (fs.map D.int ++ [.int x, .int (-x)])])[S4.length]? = some (.lst ((fs ++ [x, -x]).map D.int)) := by simp
    have hs5 := gr_at gr5 hs4
    have p5 : PoolAt (S4 ++ [Ob.lst (fs.map D.int ++ [.int x, .int (-x)])]) k := p4.app
    have hk4 := p4.lt
    have hs4l := (List.getElem?_eq_some_iff.mp hs4).1
    have kC : K2 k s S3 (S4 ++ [Ob.lst (fs.map D.int ++ [.int x, .int (-x)])]) := (K2.of (Kp.grow gr4)).trans (K2.of (Kp.grow gr5))
    generalize hS5 : S4 ++ [Ob.lst (fs.map D.int ++ [.int x, .int (-x)])] = S5 at ad gr5 g5 hs5 p5 kC
    have kAll : K2 k s S S5 := ((kA.trans (K2.of k2)).trans kB).trans kC
    have body : sqX (loopB (TT (n+1)).fn) [some (.ref k), some w, some kk, some (.ref f), some (.ref s), e5, e6] S1 = .nx [some (.ref k), some w, some kk, some (.ref S4.length), some (.ref s), some (.int x), e6] S5 := by
      have z : binD .Sub (.int 0) (.int x) S3 = .ok (.int (-x)) S3 := by
        show R.ok (D.int (0 - x)) S3 = _
        rw [Int.zero_sub]
      simp [loopB, lsd2, ln, e2, pop, z, n2, ad]
    obtain ⟨S', f', ys, o5, hy, q1, q2, q3, q4, q5, q6, q7⟩ := ih (xs.eraseIdx r.toNat) (fs ++ [x, -x]) S4.length S5 (some (.int x)) fu (by rw [List.length_eraseIdx_of_lt hr]; omega) (by omega) p5 (by omega) (by omega) g5 hs5 (by simp; omega)
    refine ⟨S', f', x :: ys, o5, ?_, q1, q2, by rw [q3]; simp [pairs], q4, kAll.trans q5, ?_, ?_⟩
    · simp only [pops, List.mem_flatMap, List.mem_range]
      refine ⟨r.toNat, hr, ?_⟩
      rw [List.getElem?_eq_getElem hr, hxr]
      exact List.mem_map.mpr ⟨ys, hy, rfl⟩
    · right
      have : S4.length ≤ S5.length := by rw [← hS5]; simp
      have l1 := kAll.len
      have : S.length ≤ S4.length := by
        have a1 := kA.len
        have a2 := k2.len
        have a3 := kB.len
        have a4 : S3.length ≤ S4.length := by rw [← hS4]; simp
        omega
      rcases q6 with rfl | q6
      · exact this
      · omega
    · simp only [whileD, t, st_ok, Bool.not_false, body]
      exact q7
end Cor
end
section
set_option linter.all false
set_option maxRecDepth 100000
namespace Cor
open PySem L2
def Fine (q : Ask) (l : List Int) : Prop := keepB l q = true ∧ (∀ i ∈ l, BigI i) ∧ 0 < l.length ∧ l.length ≤ 20
def fineB (q : Ask) (l : List Int) : Bool := keepB l q && (l.all (fun i => decide (BigI i)) && (decide (0 < l.length) && decide (l.length ≤ 20)))
theorem fine_of {q : Ask} {l : List Int} (h : fineB q l = true) : Fine q l := by
  unfold fineB at h
  simp only [Bool.and_eq_true, List.all_eq_true, decide_eq_true_eq] at h
  exact ⟨h.1, h.2.1, h.2.2.1, h.2.2.2⟩
/-- the seven askings -/
def Seven (q : Ask) : Prop := q = .locked 1 ∨ q = .locked 2 ∨ (∃ m, q = .shelved m ∧ (∀ i ∈ m, BigI i) ∧ 0 < m.length ∧ m.length ≤ 3) ∨ q = .met 2 ∨ q = .met 3 ∨ q = .reading 1 ∨ q = .reading 2
def out9 (l : List Int) : List Int := l.filter fun i => !(i == 9 || i == -9)
def zsOf (l : List Int) : List Int := match out9 l with
  | [a, b, c, d] => [a, c, b, d]
  | _ => []
def start : Ask → List Int
  | .locked k => (List.range k).map fun i => ((i + 1 : Nat) : Int)
  | .reading k => ((List.range k).map fun i => ((i + 1 : Nat) : Int)) ++ [9]
  | _ => []
theorem fine_all : ∀ q ∈ [Ask.locked 1, Ask.locked 2, Ask.reading 1, Ask.reading 2], ∀ ys ∈ pops (start q).length (start q), fineB q (pairs ys) = true := by
  have h : [Ask.locked 1, Ask.locked 2, Ask.reading 1, Ask.reading 2].all (fun q => (pops (start q).length (start q)).all fun ys => fineB q (pairs ys)) = true := by decide +kernel
  exact fun q hq ys hy => List.all_eq_true.mp (List.all_eq_true.mp h q hq) ys hy
theorem fine_zs : ∀ ys ∈ pops 3 [1, 2, 9], (out9 (pairs ys)).length = 4 ∧ fineB (.reading 2) (zsOf (pairs ys) ++ [9, -9]) = true ∧ fineB (.reading 2) ([9, -9] ++ zsOf (pairs ys)) = true := by
  have h : (pops 3 [1, 2, 9]).all (fun ys => decide ((out9 (pairs ys)).length = 4) && (fineB (.reading 2) (zsOf (pairs ys) ++ [9, -9]) && fineB (.reading 2) ([9, -9] ++ zsOf (pairs ys)))) = true := by decide +kernel
  intro ys hy
  have := List.all_eq_true.mp h ys hy
  simp only [Bool.and_eq_true, decide_eq_true_eq] at this
  exact ⟨this.1, this.2.1, this.2.2⟩
/-- what a draw gives -/
def Gives (S : Sto) (k : Nat) (q : Ask) (r : R D) : Prop := ∃ (p : Nat) (l : List Int) (S' : Sto), r = .ok (.ref p) S' ∧ S.length ≤ p ∧ p ≠ k ∧ S'[p]? = some (.lst (l.map D.int)) ∧ Fine q l ∧ PoolAt S' k ∧ Kp k S S'
theorem in9 {S : Sto} {i : Int} : inD S (.int i) (.tup [.int 9, .int (-9)]) = some (i == 9 || i == -9) := by
  have h1 : snapD S (.int i) = some (.int i) := by kernel_rfl
  have h2 : snapD S (.tup [.int 9, .int (-9)]) = some (.tuple [.int 9, .int (-9)]) := by kernel_rfl
  have h3 : SeqAt.shaped (.int i) = true := by kernel_rfl
  have h4 : SeqAt.shaped (.tuple [.int 9, .int (-9)]) = true := by kernel_rfl
  have h5 : inD S (.int i) (.tup [.int 9, .int (-9)]) = (match snapD S (.int i) with
    | some p => match snapD S (.tup [.int 9, .int (-9)]) with
      | some (.tuple qs) => if SeqAt.shaped p = true ∧ SeqAt.shaped (.tuple qs) = true then some (qs.any fun y => PyData.eqv y p) else none
      | _ => none
    | none => none) := rfl
  rw [h5, h1, h2]
  dsimp only
  rw [if_pos ⟨h3, h4⟩, List.any_cons, List.any_cons, List.any_nil, eqv_int, eqv_int]
  have b1 : ((9 : Int) == i) = (i == 9) := by rw [Bool.eq_iff_iff, beq_iff_eq, beq_iff_eq]; exact eq_comm
  have b2 : ((-9 : Int) == i) = (i == -9) := by rw [Bool.eq_iff_iff, beq_iff_eq, beq_iff_eq]; exact eq_comm
  rw [b1, b2, Bool.or_false]
theorem fm_out (l : List Int) : (l.map D.int).filterMap (fun d => match d with | .int i => (if (i == 9 || i == -9) then none else some (.int i)) | _ => none) = (out9 l).map D.int := by
  induction l with
  | nil => rfl
  | cons a l ih =>
    unfold out9 at ih ⊢
    cases h : (a == 9 || a == -9) with
    | true => simp only [List.map_cons, List.filterMap_cons, h, if_true, List.filter_cons, Bool.not_true, Bool.false_eq_true, if_false]; exact ih
    | false => simp only [List.map_cons, List.filterMap_cons, h, Bool.false_eq_true, if_false, List.filter_cons, Bool.not_false, if_true]; exact congrArg _ ih
def tailY (F : Str → List D → Sto → R D) : List Yp := [ifX (testsX false [(tstX (cmpX .Eq (lk 1) (cst (.str "reading")))), (tstX (cmpX .Eq (lk 2) (cst (.int 2)))), (tstX (cmpX .Eq (callX (F "_law_take") [(lk 0), (cst (.int 2))]) (cst (.int 0))))]) [asgX (tgN 6) (lcX (itX (lk 3)) [5] (tgN 5) [(tstX (cmpX .NotIn (lk 5) (tupX [(cst (.int 9)), (negX (cst (.int 9)))])))] (lk 5)), asgX (tgN 6) (lstX [(subX (lk 6) (cst (.int 0))), (subX (lk 6) (cst (.int 2))), (subX (lk 6) (cst (.int 1))), (subX (lk 6) (cst (.int 3)))]), asgX (tgN 3) (subX (lstX [(binX .Add (lk 6) (lstX [(cst (.int 9)), (negX (cst (.int 9)))])), (binX .Add (lstX [(cst (.int 9)), (negX (cst (.int 9)))]) (lk 6))]) (callX (F "_law_take") [(lk 0), (cst (.int 2))]))] [],
  retX (lk 3)]
/-- the tail, for readers of two -/
theorem tail_two {S : Sto} {k f s : Nat} {ys : List Int} {e5 : Option D} (hp : PoolAt S k) (hfk : f ≠ k) (hf : S[f]? = some (.lst ((pairs ys).map D.int))) (hy : ys ∈ pops 3 [1, 2, 9]) (n : Nat) :
    ∃ (p : Nat) (l : List Int) (S' : Sto), finX (sqX (tailY (TT (n+1)).fn) [some (.ref k), some (.str "reading"), some (.int 2), some (.ref f), some (.ref s), e5, none] S) = .ok (.ref p) S' ∧ (p = f ∨ S.length ≤ p) ∧ p ≠ k ∧ S'[p]? = some (.lst (l.map D.int)) ∧ Fine (.reading 2) l ∧ PoolAt S' k ∧ Kp k S S' := by
  obtain ⟨r, S1, a, b, p1, k1, e1⟩ := take_at hp (m := 2) (by decide) (by decide) n
  have hf1 := k1.at_ _ _ hfk hf
  obtain ⟨h4, z1, z2⟩ := fine_zs ys hy
  by_cases hr : r = 0
  · subst hr
    have lc : lcX (itX (lk 3)) [5] (tgN 5) [(tstX (cmpX .NotIn (lk 5) (tupX [(cst (.int 9)), (negX (cst (.int 9)))])))] (lk 5) [some (.ref k), some (.str "reading"), some (.int 2), some (.ref f), some (.ref s), e5, none] S1 = .ok (.ref S1.length) (S1 ++ [.lst ((out9 (pairs ys)).map D.int)]) := by
      have hl : ((pairs ys).map D.int).length ≤ 1000 := by
        have : (pairs ys).length ≤ 20 := (fine_of (fine_all (.reading 2) (by simp) ys hy)).2.2.2
        simp; omega
      rw [lc_pure (J := ⟨(pairs ys).map D.int, some f⟩) (fun d => match d with | .int i => (if (i == 9 || i == -9) then none else some (.int i)) | _ => none) (it_lst (by simp) hf1) (guard_lst hf1) (fun d hd => ?_) (sz_le hl), fm_out]
      obtain ⟨i, _, rfl⟩ := List.mem_map.mp hd
      cases h : (i == 9 || i == -9) <;> simp [turnX, wipeD, evIf, mk_tup, cmpD, cmpO, in9, h]
    obtain ⟨a0, a1, a2, a3, ho⟩ : ∃ a0 a1 a2 a3 : Int, out9 (pairs ys) = [a0, a1, a2, a3] := by
      match out9 (pairs ys), h4 with
      | [a0, a1, a2, a3], _ => exact ⟨a0, a1, a2, a3, rfl⟩
    have hz : zsOf (pairs ys) = [a0, a2, a1, a3] := by unfold zsOf; rw [ho]
    rw [ho] at lc
    simp only [List.map_cons, List.map_nil] at lc
    have g2 : (S1 ++ [Ob.lst [.int a0, .int a1, .int a2, .int a3]])[S1.length]? = some (.lst [.int a0, .int a1, .int a2, .int a3]) := by simp
    have gr2 : Grow S1 (S1 ++ [Ob.lst [.int a0, .int a1, .int a2, .int a3]]) := ⟨_, rfl⟩
    have p2 : PoolAt (S1 ++ [Ob.lst [.int a0, .int a1, .int a2, .int a3]]) k := p1.app
    generalize hS2 : S1 ++ [Ob.lst [.int a0, .int a1, .int a2, .int a3]] = S2 at lc g2 gr2 p2
    have i0 : ixD S2 (.ref S1.length) (.int 0) = some (.int a0) := ix_lst g2 (by decide) rfl
    have i1 : ixD S2 (.ref S1.length) (.int 1) = some (.int a1) := ix_lst g2 (by decide) rfl
    have i2 : ixD S2 (.ref S1.length) (.int 2) = some (.int a2) := ix_lst g2 (by decide) rfl
    have i3 : ixD S2 (.ref S1.length) (.int 3) = some (.int a3) := ix_lst g2 (by decide) rfl
    have n3 : newL [.int a0, .int a2, .int a1, .int a3] S2 = .ok (.ref S2.length) (S2 ++ [.lst [.int a0, .int a2, .int a1, .int a3]]) := new_lst (by simp)
    have g3 : (S2 ++ [Ob.lst [.int a0, .int a2, .int a1, .int a3]])[S2.length]? = some (.lst [.int a0, .int a2, .int a1, .int a3]) := by simp
    have gr3 : Grow S2 (S2 ++ [Ob.lst [.int a0, .int a2, .int a1, .int a3]]) := ⟨_, rfl⟩
    have p3 : PoolAt (S2 ++ [Ob.lst [.int a0, .int a2, .int a1, .int a3]]) k := p2.app
    generalize hS3 : S2 ++ [Ob.lst [.int a0, .int a2, .int a1, .int a3]] = S3 at n3 g3 gr3 p3
    have n9 : ∀ S : Sto, newL [.int 9, .int (-9)] S = .ok (.ref S.length) (S ++ [.lst [.int 9, .int (-9)]]) := fun S => new_lst (by simp)
    have gr4 : Grow S3 (S3 ++ [Ob.lst [.int 9, .int (-9)]]) := ⟨_, rfl⟩
    have g4 : (S3 ++ [Ob.lst [.int 9, .int (-9)]])[S3.length]? = some (.lst [.int 9, .int (-9)]) := by simp
    have ad1 := add_lst (gr_at gr4 g3) g4 (by simp)
    have n9a := n9 S3
    generalize hS4 : S3 ++ [Ob.lst [.int 9, .int (-9)]] = S4 at n9a gr4 g4 ad1
    have gr5 : Grow S4 (S4 ++ [Ob.lst ([.int a0, .int a2, .int a1, .int a3] ++ [.int 9, .int (-9)])]) := ⟨_, rfl⟩
    have g5 : (S4 ++ [Ob.lst ([.int a0, .int a2, .int a1, .int a3] ++ [.int 9, .int (-9)])])[S4.length]? = some (.lst (([a0, a2, a1, a3] ++ [9, -9]).map D.int)) := by simp
    generalize hS5 : S4 ++ [Ob.lst ([.int a0, .int a2, .int a1, .int a3] ++ [.int 9, .int (-9)])] = S5 at ad1 gr5 g5
    have n9b := n9 S5
    have gr6 : Grow S5 (S5 ++ [Ob.lst [.int 9, .int (-9)]]) := ⟨_, rfl⟩
    have g6 : (S5 ++ [Ob.lst [.int 9, .int (-9)]])[S5.length]? = some (.lst [.int 9, .int (-9)]) := by simp
    have ad2 := add_lst g6 (gr_at (((gr4.trans gr5).trans gr6)) g3) (by simp)
    generalize hS6 : S5 ++ [Ob.lst [.int 9, .int (-9)]] = S6 at n9b gr6 g6 ad2
    have gr7 : Grow S6 (S6 ++ [Ob.lst ([.int 9, .int (-9)] ++ [.int a0, .int a2, .int a1, .int a3])]) := ⟨_, rfl⟩
    have g7 : (S6 ++ [Ob.lst ([.int 9, .int (-9)] ++ [.int a0, .int a2, .int a1, .int a3])])[S6.length]? = some (.lst (([9, -9] ++ [a0, a2, a1, a3]).map D.int)) := by simp
    generalize hS7 : S6 ++ [Ob.lst ([.int 9, .int (-9)] ++ [.int a0, .int a2, .int a1, .int a3])] = S7 at ad2 gr7 g7
    have n8 : newL [.ref S4.length, .ref S6.length] S7 = .ok (.ref S7.length) (S7 ++ [.lst [.ref S4.length, .ref S6.length]]) := new_lst (by simp)
    have gr8 : Grow S7 (S7 ++ [Ob.lst [.ref S4.length, .ref S6.length]]) := ⟨_, rfl⟩
    have g8 : (S7 ++ [Ob.lst [.ref S4.length, .ref S6.length]])[S7.length]? = some (.lst [.ref S4.length, .ref S6.length]) := by simp
    have gAll : Grow S3 (S7 ++ [Ob.lst [.ref S4.length, .ref S6.length]]) := (((gr4.trans gr5).trans gr6).trans gr7).trans gr8
    have p8 := p3.grow gAll
    have g5' := gr_at ((gr6.trans gr7).trans gr8) g5
    have g7' := gr_at gr8 g7
    generalize hS8 : S7 ++ [Ob.lst [.ref S4.length, .ref S6.length]] = S8 at n8 gr8 g8 gAll p8 g5' g7'
    obtain ⟨r2, S9, a2', b2', p9, k9, e9⟩ := take_at p8 (m := 2) (by decide) (by decide) n
    have hk3 := p3.lt
    have lS7 : S3.length ≤ S7.length := by obtain ⟨X, e⟩ := ((gr4.trans gr5).trans gr6).trans gr7; rw [e]; simp
    have lS4 : S3.length ≤ S4.length := by obtain ⟨X, e⟩ := gr4; rw [e]; simp
    have lS6 : S3.length ≤ S6.length := by obtain ⟨X, e⟩ := (gr4.trans gr5).trans gr6; rw [e]; simp
    have g9 := k9.at_ _ _ (by omega) g8
    have kS3 : Kp k S S3 := (k1.trans (Kp.grow gr2)).trans (Kp.grow gr3)
    have lS3 := kS3.len
    have kAll : Kp k S S9 := (kS3.trans (Kp.grow gAll)).trans k9
    have main : ∀ (p : Nat) (l : List Int), [D.ref S4.length, D.ref S6.length][r2.toNat]? = some (.ref p) → S.length ≤ p → p ≠ k → S9[p]? = some (.lst (l.map D.int)) → Fine (.reading 2) l →
        ∃ (p : Nat) (l : List Int) (S' : Sto), finX (sqX (tailY (TT (n+1)).fn) [some (.ref k), some (.str "reading"), some (.int 2), some (.ref f), some (.ref s), e5, none] S) = .ok (.ref p) S' ∧ (p = f ∨ S.length ≤ p) ∧ p ≠ k ∧ S'[p]? = some (.lst (l.map D.int)) ∧ Fine (.reading 2) l ∧ PoolAt S' k ∧ Kp k S S' := by
      intro p l hix hpl hpk hpl2 hfin
      have ix := ix_lst g9 a2' hix
      refine ⟨p, l, S9, ?_, .inr hpl, hpk, hpl2, hfin, p9, kAll⟩
      simp [tailY, cmpD, cmpO, eq_strs, x6, eq_ints, e1, lc, i0, i1, i2, i3, n3, n9a, ad1, n9b, ad2, n8, e9, ix]
    rcases (show r2 = 0 ∨ r2 = 1 by omega) with rfl | rfl
    · exact main S4.length ([a0, a2, a1, a3] ++ [9, -9]) rfl (by omega) (by omega) (k9.at_ _ _ (by omega) g5') (by rw [← hz]; exact fine_of z1)
    · exact main S6.length ([9, -9] ++ [a0, a2, a1, a3]) rfl (by omega) (by omega) (k9.at_ _ _ (by omega) g7') (by rw [← hz]; exact fine_of z2)
  · have hr' : (r == 0) = false := beq_eq_false_iff_ne.mpr hr
    refine ⟨f, pairs ys, S1, ?_, .inl rfl, hfk, hf1, fine_of (fine_all (.reading 2) (by simp) ys hy), p1, k1⟩
    simp [tailY, cmpD, cmpO, eq_strs, x6, eq_ints, e1, hr']
end Cor
end
section
set_option linter.all false
set_option maxRecDepth 100000
namespace Cor
open PySem L2
def Drew (S : Sto) (k : Nat) (q : Ask) (r : R D) : Prop := ∃ (p : Nat) (l : List Int) (S' : Sto), r = .ok (.ref p) S' ∧ S.length ≤ p ∧ p ≠ k ∧ S'[p]? = some (.lst (l.map D.int)) ∧ Fine q l ∧ PoolAt S' k ∧ Kp k S S'
theorem tail_one {S : Sto} {k f s : Nat} {w : Str} {kk : Int} {e5 : Option D} (h : (w == ("reading" : Str)) = false ∨ ((w == ("reading" : Str)) = true ∧ (kk == 2) = false)) (F) :
    finX (sqX (tailY F) [some (.ref k), some (.str w), some (.int kk), some (.ref f), some (.ref s), e5, none] S) = .ok (.ref f) S := by
  rcases h with h | ⟨h1, h2⟩
  · simp [tailY, cmpD, cmpO, eq_strs, h]
  · simp [tailY, cmpD, cmpO, eq_strs, h1, eq_ints, h2]
def startL (kk : Nat) (r : Bool) : List Int := ((List.range kk).map fun i => ((i + 1 : Nat) : Int)) ++ if r then [9] else []
def startY : List Yp := [asgX (tgN 3) (lstX []),
  asgX (tgN 4) (binX .Add (lrX (cst (.int 1)) (binX .Add (lk 2) (cst (.int 1)))) (binX .Mult (lstX [(cst (.int 9))]) (callX (callB .int) [(cmpX .Eq (lk 1) (cst (.str "reading")))])))]
theorem start_at {S : Sto} {k : Nat} {w : Str} {r : Bool} {kk : Nat} (hw : (w == ("reading" : Str)) = r) (hk : kk = 1 ∨ kk = 2) : ∃ (f s : Nat) (S' : Sto), S.length ≤ f ∧ S.length ≤ s ∧ f ≠ s ∧ S'[f]? = some (.lst []) ∧ S'[s]? = some (.lst ((startL kk r).map D.int)) ∧ Grow S S' ∧
    sqX startY [some (.ref k), some (.str w), some (.int kk), none, none, none, none] S = .nx [some (.ref k), some (.str w), some (.int kk), some (.ref f), some (.ref s), none, none] S' := by
  have n0 : newL [] S = .ok (.ref S.length) (S ++ [.lst []]) := new_lst (by simp)
  have gr0 : Grow S (S ++ [Ob.lst []]) := ⟨_, rfl⟩
  have g0 : (S ++ [Ob.lst []])[S.length]? = some (.lst []) := by simp
  generalize hS1 : S ++ [Ob.lst []] = S1 at n0 gr0 g0
  have rl : rangeD 1 kk = ((List.range kk).map fun i => ((i + 1 : Nat) : Int)).map D.int := by rcases hk with rfl | rfl <;> rfl
  have lr : listRg (.int 1) (.int ((kk : Int) + 1)) S1 = .ok (.ref S1.length) (S1 ++ [.lst (rangeD 1 kk)]) := by
    have e : ((kk : Int) + 1 - 1).toNat = kk := by omega
    simp only [listRg, newO]
    rw [if_pos ⟨by omega, by omega, small6_iff.mpr ⟨by omega, by omega⟩, small6_iff.mpr ⟨by omega, by omega⟩⟩, e]
  have gr1 : Grow S1 (S1 ++ [Ob.lst (rangeD 1 kk)]) := ⟨_, rfl⟩
  have g1 : (S1 ++ [Ob.lst (rangeD 1 kk)])[S1.length]? = some (.lst (rangeD 1 kk)) := by simp
  generalize hS2 : S1 ++ [Ob.lst (rangeD 1 kk)] = S2 at lr gr1 g1
  have n9 : newL [.int 9] S2 = .ok (.ref S2.length) (S2 ++ [.lst [.int 9]]) := new_lst (by simp)
  have gr2 : Grow S2 (S2 ++ [Ob.lst [.int 9]]) := ⟨_, rfl⟩
  have g2 : (S2 ++ [Ob.lst [.int 9]])[S2.length]? = some (.lst [.int 9]) := by simp
  generalize hS3 : S2 ++ [Ob.lst [.int 9]] = S3 at n9 gr2 g2
  have cint : callB .int [.bl r] S3 = .ok (.int (if r then 1 else 0)) S3 := rfl
  have ml : binD .Mult (.ref S2.length) (.int (if r then 1 else 0)) S3 = .ok (.ref S3.length) (S3 ++ [.lst (if r then [.int 9] else [])]) := by
    have l1 : lstM S3 (.ref S2.length) = some [.int 9] := by simp [lstM, g2]
    show (match lstM S3 (.ref S2.length) with
      | some xs => if small6 (if r then (1 : Int) else 0) ∧ xs.length * (if r then (1 : Int) else 0).toNat ≤ sizeLine then newL (List.replicate (if r then (1 : Int) else 0).toNat xs).flatten S3 else .no
      | none => .no) = _
    rw [l1]
    have z := sz1000
    cases r with
    | true =>
      dsimp only
      rw [if_pos (by refine ⟨by decide, ?_⟩; show 1 * 1 ≤ sizeLine; omega)]
      exact new_lst (by decide)
    | false =>
      dsimp only
      rw [if_pos (by refine ⟨by decide, ?_⟩; show 1 * 0 ≤ sizeLine; omega)]
      exact new_lst (by decide)
  have gr3 : Grow S3 (S3 ++ [Ob.lst (if r then [.int 9] else [])]) := ⟨_, rfl⟩
  have g3 : (S3 ++ [Ob.lst (if r then [D.int 9] else [])])[S3.length]? = some (.lst (if r then [.int 9] else [])) := by simp
  generalize hS4 : S3 ++ [Ob.lst (if r then [D.int 9] else [])] = S4 at ml gr3 g3
  have ad := add_lst (gr_at ((gr2.trans gr3)) g1) g3 (by rw [rangeD_len']; cases r <;> simp <;> omega)
  have gr4 : Grow S4 (S4 ++ [Ob.lst (rangeD 1 kk ++ (if r then [.int 9] else []))]) := ⟨_, rfl⟩
  have l1 : S.length < S1.length := by rw [← hS1]; simp
  have l4 : S1.length ≤ S4.length := by obtain ⟨X, e⟩ := (gr1.trans gr2).trans gr3; rw [e]; simp
  refine ⟨S.length, S4.length, S4 ++ [Ob.lst (rangeD 1 kk ++ (if r then [.int 9] else []))], Nat.le_refl _, by omega, by omega, gr_at (((gr1.trans gr2).trans gr3).trans gr4) g0, ?_, gr0.trans (((gr1.trans gr2).trans gr3).trans gr4), ?_⟩
  · rw [List.getElem?_concat_length, rl]
    unfold startL
    cases r <;> simp
  · simp [startY, n0, b_add, lr, n9, cmpD, cmpO, eq_strs, hw, cint, ml, ad]
theorem drawn_split (F) : mlaw_drawn F = [ifX (tstX (cmpX .Eq (lk 1) (cst (.str "shelved")))) [retX (callX (callB .list) [(lk 2)])] [],
  ifX (tstX (cmpX .Eq (lk 1) (cst (.str "met")))) [retX (binX .Add (binX .Mult (lstX [(cst (.int 1))]) (lk 2)) (binX .Mult (lstX [(cst (.int 2))]) (lk 2)))] []] ++ (startY ++ ([whileX 1000 loopT (loopB F)] ++ tailY F)) := rfl
theorem sq_app' {α : Type} {f : α → DEnv → Sto → RS} {as bs : List α} {env env' : DEnv} {S S' : Sto} (h : evSs f as env S = .nx env' S') : evSs f (as ++ bs) env S = evSs f bs env' S' := sq_app h
/-- of numbers popped -/
theorem drawn_num {S : Sto} {k : Nat} {w : Str} {r : Bool} {kk : Nat} {q : Ask} (hp : PoolAt S k) (hk : kk = 1 ∨ kk = 2) (hw : (w == ("reading" : Str)) = r) (h1 : (w == ("shelved" : Str)) = false) (h2 : (w == ("met" : Str)) = false)
    (hf : ∀ ys ∈ pops (startL kk r).length (startL kk r), fineB q (pairs ys) = true) (hq : r = true → kk = 2 → q = .reading 2 ∧ w = "reading") (n : Nat) : Drew S k q ((TT (n+2)).fn "_law_drawn" [.ref k, .str w, .int kk] S) := by
  obtain ⟨f, s, S1, lf, ls, hfs, g1, g2, gr, e1⟩ := start_at (S := S) (k := k) hw hk
  have hkl := hp.lt
  have p1 := hp.grow gr
  have lenL : (startL kk r).length ≤ 3 := by unfold startL; rcases hk with rfl | rfl <;> cases r <;> decide
  obtain ⟨S2, f', ys, o5, hy, q1, q2, q3, q4, q5, q6, q7⟩ := loop_at n k s (by omega) (.str w) (.int kk) none (startL kk r).length (startL kk r) [] f S1 none 1000 rfl (by omega) p1 (by omega) hfs g1 g2 (by simp; omega)
  simp only [List.nil_append] at q3
  have lf' : S.length ≤ f' := by
    rcases q6 with rfl | q6
    · exact lf
    · obtain ⟨X, e⟩ := gr
      rw [e] at q6; simp at q6; omega
  have kAll : Kp k S S2 := ⟨fun n o hn e => q5.at_ n o hn (by have := (List.getElem?_eq_some_iff.mp e).1; omega) (gr_at gr e), by obtain ⟨X, e⟩ := gr; have := q5.len; rw [e] at this; simp at this; omega⟩
  have hd : ∀ R, finX (sqX (tailY (TT (n+1)).fn) [some (.ref k), some (.str w), some (.int kk), some (.ref f'), some (.ref s), o5, none] S2) = R → (TT (n+2)).fn "_law_drawn" [.ref k, .str w, .int kk] S = R := by
    intro R hR
    rw [mlaw_drawn_eq, drawn_split]
    have a1 : evSs (fun (g : Yp) env S => g env S) [ifX (tstX (cmpX .Eq (lk 1) (cst (.str "shelved")))) [retX (callX (callB .list) [(lk 2)])] [], ifX (tstX (cmpX .Eq (lk 1) (cst (.str "met")))) [retX (binX .Add (binX .Mult (lstX [(cst (.int 1))]) (lk 2)) (binX .Mult (lstX [(cst (.int 2))]) (lk 2)))] []] [some (.ref k), some (.str w), some (.int kk), none, none, none, none] S = .nx [some (.ref k), some (.str w), some (.int kk), none, none, none, none] S := by
      simp [cmpD, cmpO, eq_strs, h1, h2]
    have a2 : evSs (fun (g : Yp) env S => g env S) [whileX 1000 loopT (loopB (TT (n+1)).fn)] [some (.ref k), some (.str w), some (.int kk), some (.ref f), some (.ref s), none, none] S1 = .nx [some (.ref k), some (.str w), some (.int kk), some (.ref f'), some (.ref s), o5, none] S2 := by
      simp only [sq_cons, sq_nil, whileX, q7]
    simp only [sqX]
    rw [sq_app a1, sq_app e1, sq_app a2]
    exact hR
  by_cases hc : r = true ∧ kk = 2
  · obtain ⟨rfl, rfl⟩ := hc
    obtain ⟨rfl, rfl⟩ := hq rfl rfl
    obtain ⟨p, l, S3, t1, t2, t3, t4, t5, t6, t7⟩ := tail_two (s := s) (e5 := o5) q4 q1 q3 hy n
    refine ⟨p, l, S3, hd _ t1, ?_, t3, t4, t5, t6, kAll.trans t7⟩
    have := kAll.len
    rcases t2 with rfl | t2 <;> omega
  · refine ⟨f', pairs ys, S2, hd _ (tail_one ?_ _), lf', q1, q3, fine_of (hf ys hy), q4, kAll⟩
    cases r with
    | false => exact .inl hw
    | true =>
      refine .inr ⟨hw, ?_⟩
      rcases hk with rfl | rfl
      · rfl
      · exact absurd ⟨rfl, rfl⟩ hc
theorem met_case {S : Sto} {k : Nat} (hp : PoolAt S k) (kk : Nat) (hk : kk = 2 ∨ kk = 3) (n : Nat) : Drew S k (.met kk) ((TT (n+2)).fn "_law_drawn" [.ref k, .str "met", .int kk] S) := by
  have mul : ∀ (S : Sto) (i : Int), binD .Mult (.ref S.length) (.int kk) (S ++ [.lst [.int i]]) = .ok (.ref (S.length + 1)) (S ++ [.lst [.int i]] ++ [.lst ((List.replicate kk i).map D.int)]) := by
    intro S i
    have hk2 : small6 (kk : Int) ∧ 1 * (kk : Int).toNat ≤ sizeLine := ⟨small6_iff.mpr ⟨by omega, by omega⟩, by simp; exact sz_le (by omega)⟩
    simp only [binD, lstM, List.getElem?_concat_length, List.length_cons, List.length_nil, Nat.zero_add, hk2, and_self, if_true, Int.toNat_natCast, rep_int]
    rw [new_lst (by simp; omega)]
    simp [sz_le (show kk ≤ 1000 by omega)]
  have n1 : ∀ (S : Sto) (i : Int), newL [.int i] S = .ok (.ref S.length) (S ++ [.lst [.int i]]) := fun S i => new_lst (by simp)
  have hkl := hp.lt
  have m1 := mul S 1
  generalize hA : S ++ [.lst [.int 1]] ++ [.lst ((List.replicate kk (1 : Int)).map D.int)] = SA at m1
  have gA : Grow S SA := by rw [← hA]; exact ⟨_, List.append_assoc ..⟩
  have a1 : SA[S.length + 1]? = some (.lst ((List.replicate kk (1 : Int)).map D.int)) := by rw [← hA]; simp
  have m2 := mul SA 2
  generalize hB : SA ++ [.lst [.int 2]] ++ [.lst ((List.replicate kk (2 : Int)).map D.int)] = SB at m2
  have gB : Grow SA SB := by rw [← hB]; exact ⟨_, List.append_assoc ..⟩
  have a2 : SB[SA.length + 1]? = some (.lst ((List.replicate kk (2 : Int)).map D.int)) := by rw [← hB]; simp
  have ad := add_lst (gr_at gB a1) a2 (by simp; omega)
  generalize hC : SB ++ [.lst ((List.replicate kk (1 : Int)).map D.int ++ (List.replicate kk (2 : Int)).map D.int)] = SC at ad
  have gC : Grow SB SC := by rw [← hC]; exact ⟨_, rfl⟩
  have a3 : SC[SB.length]? = some (.lst ((List.replicate kk (1 : Int) ++ List.replicate kk (2 : Int)).map D.int)) := by rw [← hC]; simp
  have lB : S.length ≤ SB.length := by obtain ⟨X, e⟩ := gA.trans gB; rw [e]; simp
  refine ⟨SB.length, List.replicate kk 1 ++ List.replicate kk 2, SC, ?_, lB, by omega, a3, ?_, hp.grow ((gA.trans gB).trans gC), Kp.grow ((gA.trans gB).trans gC)⟩
  · rw [mlaw_drawn_eq]
    simp [mlaw_drawn, cmpD, cmpO, eq_strs, x2, x3, n1, m1, m2, ad]
  · rcases hk with rfl | rfl <;> exact fine_of (by decide +kernel)
theorem drawn_at {S : Sto} {k : Nat} {o : D} {q : Ask} (hp : PoolAt S k) (h7 : Seven q) (ha : AskAt S o q) (n : Nat) : Drew S k q ((TT (n+2)).fn "_law_drawn" [.ref k, .str (wordOf q), o] S) := by
  rcases h7 with rfl | rfl | ⟨m, rfl, hm1, hm2, hm3⟩ | rfl | rfl | rfl | rfl
  · obtain ⟨rfl, _⟩ := ha
    exact drawn_num (r := false) (kk := 1) hp (.inl rfl) x9 x7 x8 (fun ys hy => fine_all (.locked 1) (by simp) ys hy) (fun z => by cases z) n
  · obtain ⟨rfl, _⟩ := ha
    exact drawn_num (r := false) (kk := 2) hp (.inr rfl) x9 x7 x8 (fun ys hy => fine_all (.locked 2) (by simp) ys hy) (fun z => by cases z) n
  · obtain ⟨j, hj, rfl, hs⟩ := ha
    have hk := hp.lt
    have ls : callB .list [.ref j] S = .ok (.ref S.length) (S ++ [.lst (m.map D.int)]) := by simp [callB, seqD, hs, newO]
    refine ⟨S.length, m, S ++ [.lst (m.map D.int)], ?_, Nat.le_refl _, by omega, by simp, ⟨by simp [keepB], hm1, hm2, by omega⟩, hp.app, Kp.app⟩
    rw [mlaw_drawn_eq]
    simp [mlaw_drawn, wordOf, cmpD, cmpO, eq_strs, x1, ls]
  · obtain ⟨rfl, _⟩ := ha
    exact met_case hp 2 (by decide) n
  · obtain ⟨rfl, _⟩ := ha
    exact met_case hp 3 (by decide) n
  · obtain ⟨rfl, _⟩ := ha
    exact drawn_num (r := true) (kk := 1) hp (.inl rfl) x6 x4 x5 (fun ys hy => fine_all (.reading 1) (by simp) ys hy) (fun _ z => by cases z) n
  · obtain ⟨rfl, _⟩ := ha
    exact drawn_num (r := true) (kk := 2) hp (.inr rfl) x6 x4 x5 (fun ys hy => fine_all (.reading 2) (by simp) ys hy) (fun _ _ => ⟨rfl, rfl⟩) n
end Cor
end
section
set_option linter.all false
set_option maxRecDepth 100000
namespace Cor
open PySem L2
theorem new_ex {S : Sto} (ds : List D) (h : ds.length ≤ 1000) : ∃ (p : Nat) (S' : Sto), newL ds S = .ok (.ref p) S' ∧ S'[p]? = some (.lst ds) ∧ Grow S S' ∧ S.length ≤ p := ⟨_, _, new_lst h, by simp, ⟨_, rfl⟩, Nat.le_refl _⟩
theorem add_ex {S : Sto} {i j : Nat} {xs ys : List D} (h1 : S[i]? = some (.lst xs)) (h2 : S[j]? = some (.lst ys)) (hl : xs.length + ys.length ≤ 1000) : ∃ (p : Nat) (S' : Sto), binD .Add (.ref i) (.ref j) S = .ok (.ref p) S' ∧ S'[p]? = some (.lst (xs ++ ys)) ∧ Grow S S' ∧ S.length ≤ p := ⟨_, _, add_lst h1 h2 hl, by simp, ⟨_, rfl⟩, Nat.le_refl _⟩
theorem cut_ex {S : Sto} {i : Nat} {xs : List D} (lo hi : Option Int) (h1 : S[i]? = some (.lst xs)) : ∃ (p : Nat) (S' : Sto), cutD (.ref i) lo hi S = .ok (.ref p) S' ∧ S'[p]? = some (.lst (cutL xs lo hi)) ∧ Grow S S' ∧ S.length ≤ p := ⟨S.length, S ++ [.lst (cutL xs lo hi)], by simp only [cutD, h1, newO], by simp, ⟨_, rfl⟩, Nat.le_refl _⟩
theorem rev_ex {S : Sto} {i : Nat} {xs : List D} (h1 : S[i]? = some (.lst xs)) : ∃ (p : Nat) (S' : Sto), revD (.ref i) S = .ok (.ref p) S' ∧ S'[p]? = some (.lst xs.reverse) ∧ Grow S S' ∧ S.length ≤ p := ⟨S.length, S ++ [.lst xs.reverse], by simp only [revD, lstD, h1, newO], by simp, ⟨_, rfl⟩, Nat.le_refl _⟩
theorem cut_len {α : Type} (xs : List α) (lo hi : Option Int) : (cutL xs lo hi).length ≤ xs.length := by
  unfold cutL
  simp only [List.length_take, List.length_drop]
  omega
theorem cut_mem {α : Type} {xs : List α} {lo hi : Option Int} {x : α} (h : x ∈ cutL xs lo hi) : x ∈ xs := by
  unfold cutL at h
  exact List.mem_of_mem_drop (List.mem_of_mem_take h)
theorem Grow.len {S S' : Sto} (g : Grow S S') : S.length ≤ S'.length := by obtain ⟨X, rfl⟩ := g; simp
def GoodL (ds : List D) : Prop := (∀ x ∈ ds, El x) ∧ ds.length ≤ 100
theorem GoodL.app {xs ys : List D} (a : GoodL xs) (b : GoodL ys) (h : xs.length + ys.length ≤ 100) : GoodL (xs ++ ys) := ⟨fun x hx => (List.mem_append.mp hx).elim (a.1 x) (b.1 x), by simpa using h⟩
theorem GoodL.cut {xs : List D} (a : GoodL xs) (lo hi : Option Int) : GoodL (cutL xs lo hi) := ⟨fun x hx => a.1 x (cut_mem hx), Nat.le_trans (cut_len _ _ _) a.2⟩
def elevenL (x : D) : List D := [.int 1, .int 2, .int (-1), .int 9, .int (-9), .bl true, .non, .str "1", .int 0, .int 3, x]
theorem eleven_el {x d : D} (hx : El x) (h : d ∈ elevenL x) : El d := by
  simp only [elevenL, List.mem_cons, List.not_mem_nil, or_false] at h
  rcases h with rfl | rfl | rfl | rfl | rfl | rfl | rfl | rfl | rfl | rfl | rfl
  · exact .inl ⟨_, rfl, by decide⟩
  · exact .inl ⟨_, rfl, by decide⟩
  · exact .inl ⟨_, rfl, by decide⟩
  · exact .inl ⟨_, rfl, by decide⟩
  · exact .inl ⟨_, rfl, by decide⟩
  · exact .inr (.inl ⟨_, rfl⟩)
  · exact .inr (.inr (.inl rfl))
  · exact .inr (.inr (.inr rfl))
  · exact .inl ⟨_, rfl, by decide⟩
  · exact .inl ⟨_, rfl, by decide⟩
  · exact hx
def Bent (S : Sto) (k : Nat) (r : R D) : Prop := ∃ (d : D) (t : Nt) (S' : Sto), r = .ok d S' ∧ NtAt S' d t ∧ NtOk t ∧ (∀ p, d = .ref p → S.length ≤ p) ∧ PoolAt S' k ∧ Kp k S S'
theorem set_ex {S : Sto} {t : Nat} {xs : List D} {i : Int} {v : D} (h : S[t]? = some (.lst xs)) (h0 : 0 ≤ i) (h1 : i < xs.length) : setD (.ref t) (.int i) v S = .ok () (S.set t (.lst (xs.set i.toNat v))) := by
  have : ixN xs.length i = some i.toNat := by
    unfold ixN
    simp [h0, h1]
  simp only [setD, h, this]
theorem bent_at {S : Sto} {k g : Nat} {l : List Int} (hp : PoolAt S k) (hgk : g ≠ k) (hg0 : 0 < g) (hg : S[g]? = some (.lst (l.map D.int))) (hb : ∀ i ∈ l, BigI i) (h0 : 0 < l.length) (h20 : l.length ≤ 20) (n : Nat) : Bent S k ((TT (n+3)).fn "_law_bent" [.ref k, .ref g] S) := by
  have hkl := hp.lt
  have gl : GoodL (l.map D.int) := ⟨fun x hx => by
    obtain ⟨i, hi, rfl⟩ := List.mem_map.mp hx
    exact .inl ⟨i, rfl, hb i hi⟩, by simp; omega⟩
  have item : ∀ {S' : Sto} {r : Int}, S'[g]? = some (.lst (l.map D.int)) → 0 ≤ r → r < l.length → ∃ v, ixD S' (.ref g) (.int r) = some (.int v) ∧ BigI v := by
    intro S' r h a b
    have hr : r.toNat < l.length := by omega
    exact ⟨l[r.toNat], ix_lst h a (by rw [List.getElem?_map, List.getElem?_eq_getElem hr]; rfl), hb _ (List.getElem_mem hr)⟩
  -- at
  have ln0 := len_ints hg
  obtain ⟨r1, S1, a1, b1, p1, k1, e1⟩ := take_at hp (m := (l.length : Int)) (by omega) (by omega) (n + 1)
  have hg1 := k1.at_ _ _ hgk hg
  obtain ⟨v1, iv1, bv1⟩ := item hg1 a1 b1
  -- odd
  obtain ⟨q2, S2, n2, g2, gr2, l2⟩ := new_ex (S := S1) (elevenL (.int v1)) (by simp [elevenL])
  have p2 := p1.grow gr2
  have l1 := k1.len
  obtain ⟨r3, x, S3, hx, p3, k3, e3⟩ := one_at p2 g2 (by omega) (by simp [elevenL]) (by simp [elevenL]) n
  have ex : El x := eleven_el (.inl ⟨v1, rfl, bv1⟩) (List.mem_of_getElem? hx)
  have hg3 := k3.at_ _ _ hgk (gr_at gr2 hg1)
  -- other
  have ln3 := len_ints hg3
  obtain ⟨r4, S4, a4, b4, p4, k4, e4⟩ := take_at p3 (m := (l.length : Int)) (by omega) (by omega) (n + 1)
  have hg4 := k4.at_ _ _ hgk hg3
  have lS4 : S.length ≤ S4.length := by
    have := gr2.len
    have := k3.len
    have := k4.len
    omega
  have kS4 : Kp k S S4 := ((k1.trans (Kp.grow gr2)).trans k3).trans k4
  -- turned
  have ls4 : callB .list [.ref g] S4 = .ok (.ref S4.length) (S4 ++ [.lst (l.map D.int)]) := by simp [callB, seqD, hg4, newO]
  have gr5 : Grow S4 (S4 ++ [Ob.lst (l.map D.int)]) := ⟨_, rfl⟩
  have t5 : (S4 ++ [Ob.lst (l.map D.int)])[S4.length]? = some (.lst (l.map D.int)) := by simp
  have hg5 := gr_at gr5 hg4
  have p5 := p4.grow gr5
  have hk4 := p4.lt
  have hgl4 := (List.getElem?_eq_some_iff.mp hg4).1
  generalize hT : S4.length = t at ls4 t5 lS4 hk4 hgl4
  generalize hS5 : S4 ++ [Ob.lst (l.map D.int)] = S5 at ls4 gr5 t5 hg5 p5
  obtain ⟨v4, iv4, bv4⟩ := item hg5 a4 b4
  obtain ⟨v5, iv5, bv5⟩ := item hg5 a1 b1
  have tl5 := (List.getElem?_eq_some_iff.mp t5).1
  have se1 := set_ex (v := .int v4) t5 a1 (by simpa using b1)
  have t6 : (S5.set t (.lst ((l.map D.int).set r1.toNat (.int v4))))[t]? = some (.lst ((l.map D.int).set r1.toNat (.int v4))) := List.getElem?_set_self tl5
  have hg6 : (S5.set t (.lst ((l.map D.int).set r1.toNat (.int v4))))[g]? = some (.lst (l.map D.int)) := by rw [List.getElem?_set_ne (by omega)]; exact hg5
  have p6 : PoolAt (S5.set t (.lst ((l.map D.int).set r1.toNat (.int v4)))) k := by
    obtain ⟨u, v, e, q⟩ := p5
    exact ⟨u, v, by rw [List.getElem?_set_ne (by omega)]; exact e, q⟩
  have kt6 : ∀ (n : Nat) o, n ≠ t → S5[n]? = some o → (S5.set t (.lst ((l.map D.int).set r1.toNat (.int v4))))[n]? = some o := fun n o hn e => by rw [List.getElem?_set_ne (Ne.symm hn)]; exact e
  have len6 : (S5.set t (.lst ((l.map D.int).set r1.toNat (.int v4)))).length = S5.length := by simp
  generalize hS6 : S5.set t (.lst ((l.map D.int).set r1.toNat (.int v4))) = S6 at se1 t6 hg6 p6 kt6 len6
  have se2 := set_ex (i := r4) (v := .int v5) t6 a4 (by simpa using b4)
  have t7 : (S6.set t (.lst (((l.map D.int).set r1.toNat (.int v4)).set r4.toNat (.int v5))))[t]? = some (.lst (((l.map D.int).set r1.toNat (.int v4)).set r4.toNat (.int v5))) := List.getElem?_set_self (by omega)
  have hg7 : (S6.set t (.lst (((l.map D.int).set r1.toNat (.int v4)).set r4.toNat (.int v5))))[g]? = some (.lst (l.map D.int)) := by rw [List.getElem?_set_ne (by omega)]; exact hg6
  have p7 : PoolAt (S6.set t (.lst (((l.map D.int).set r1.toNat (.int v4)).set r4.toNat (.int v5)))) k := by
    obtain ⟨u, v, e, q⟩ := p6
    exact ⟨u, v, by rw [List.getElem?_set_ne (by omega)]; exact e, q⟩
  have kt7 : ∀ (n : Nat) o, n ≠ t → S6[n]? = some o → (S6.set t (.lst (((l.map D.int).set r1.toNat (.int v4)).set r4.toNat (.int v5))))[n]? = some o := fun n o hn e => by rw [List.getElem?_set_ne (Ne.symm hn)]; exact e
  have len7 : (S6.set t (.lst (((l.map D.int).set r1.toNat (.int v4)).set r4.toNat (.int v5)))).length = S6.length := by simp
  have gt : GoodL (((l.map D.int).set r1.toNat (.int v4)).set r4.toNat (.int v5)) := ⟨fun x hx => by
    rcases List.mem_or_eq_of_mem_set hx with hx | rfl
    · rcases List.mem_or_eq_of_mem_set hx with hx | rfl
      · exact gl.1 x hx
      · exact .inl ⟨v4, rfl, bv4⟩
    · exact .inl ⟨v5, rfl, bv5⟩, by simpa using gl.2⟩
  generalize hS7 : S6.set t (.lst (((l.map D.int).set r1.toNat (.int v4)).set r4.toNat (.int v5))) = S7 at se2 t7 hg7 p7 kt7 len7
  generalize ((l.map D.int).set r1.toNat (.int v4)).set r4.toNat (.int v5) = td at t7 gt
  have kS7 : Kp k S S7 := ⟨fun n o hn e => by
    have e4 := kS4.at_ n o hn e
    have nt : n ≠ t := by have := (List.getElem?_eq_some_iff.mp e).1; omega
    exact kt7 n o nt (kt6 n o nt (gr_at gr5 e4)), by have := gr5.len; have := kS4.len; omega⟩
  have lS7 := kS7.len
  have gx : GoodL [x] := ⟨fun y hy => by simp at hy; subst hy; exact ex, by simp⟩
  have bnd : ∀ (lo hi : Option Int), (cutL (l.map D.int) lo hi).length ≤ 20 := fun lo hi => Nat.le_trans (cut_len _ _ _) (by simpa using h20)
  -- some, the first
  obtain ⟨c1, A1, ea1, ga1, gra1, _⟩ := cut_ex none (some r1) hg7
  obtain ⟨c2, A2, ea2, ga2, gra2, _⟩ := new_ex (S := A1) [x] (by simp)
  obtain ⟨c3, A3, ea3, ga3, gra3, _⟩ := add_ex (gr_at gra2 ga1) ga2 (by have := bnd none (some r1); simp; omega)
  have hgA3 := gr_at ((gra1.trans gra2).trans gra3) hg7
  obtain ⟨c4, A4, ea4, ga4, gra4, _⟩ := cut_ex (some r1) none hgA3
  obtain ⟨c5, A5, ea5, ga5, gra5, la5⟩ := add_ex (gr_at gra4 ga3) ga4 (by have := bnd none (some r1); have := bnd (some r1) none; simp; omega)
  have grA := (((gra1.trans gra2).trans gra3).trans gra4).trans gra5
  have hgA := gr_at grA hg7
  -- the second
  obtain ⟨d1, B1, eb1, gb1, grb1, _⟩ := cut_ex none (some r1) hgA
  obtain ⟨d2, B2, eb2, gb2, grb2, _⟩ := cut_ex (some (r1 + 1)) none (gr_at grb1 hgA)
  obtain ⟨d3, B3, eb3, gb3, grb3, lb3⟩ := add_ex (gr_at grb2 gb1) gb2 (by have := bnd none (some r1); have := bnd (some (r1 + 1)) none; omega)
  have grB := (grb1.trans grb2).trans grb3
  have hgB := gr_at grB hgA
  -- the third
  obtain ⟨f1, C1, ec1, gc1, grc1, _⟩ := cut_ex none (some r1) hgB
  obtain ⟨f2, C2, ec2, gc2, grc2, _⟩ := new_ex (S := C1) [x] (by simp)
  obtain ⟨f3, C3, ec3, gc3, grc3, _⟩ := add_ex (gr_at grc2 gc1) gc2 (by have := bnd none (some r1); simp; omega)
  have hgC3 := gr_at ((grc1.trans grc2).trans grc3) hgB
  obtain ⟨f4, C4, ec4, gc4, grc4, _⟩ := cut_ex (some (r1 + 1)) none hgC3
  obtain ⟨f5, C5, ec5, gc5, grc5, lc5⟩ := add_ex (gr_at grc4 gc3) gc4 (by have := bnd none (some r1); have := bnd (some (r1 + 1)) none; simp; omega)
  have grC := (((grc1.trans grc2).trans grc3).trans grc4).trans grc5
  have hgC := gr_at grC hgB
  -- the four
  obtain ⟨s1, D1, ed1, gd1, grd1, ld1⟩ := new_ex (S := C5) [.ref c5, .ref d3, .ref f5, .ref t] (by simp)
  have hgD := gr_at grd1 hgC
  obtain ⟨u1, E1, ee1, ge1, gre1, le1⟩ := add_ex hgD hgD (by simp; omega)
  have hgE := gr_at gre1 hgD
  have tu : callB .tuple [.ref g] E1 = .ok (.tup (l.map D.int)) E1 := by simp [callB, seqD, hgE]
  obtain ⟨u3, E2, ee3, ge3, gre3, le3⟩ := rev_ex hgE
  obtain ⟨s2, F1, ef1, gf1, grf1, lf1⟩ := new_ex (S := E2) [.ref u1, .tup (l.map D.int), .ref u3] (by simp)
  obtain ⟨s3, F2, ef2, gf2, grf2, lf2⟩ := add_ex (gr_at ((gre1.trans gre3).trans grf1) gd1) gf1 (by simp)
  have grAll : Grow S7 F2 := ((((((grA.trans grB).trans grC).trans grd1).trans gre1).trans gre3).trans grf1).trans grf2
  have pF := p7.grow grAll
  have lenF := grAll.len
  have hkF : k < F1.length := by
    have z := (((((grA.trans grB).trans grC).trans grd1).trans gre1).trans gre3).trans grf1
    have := z.len
    have := p7.lt
    omega
  obtain ⟨rz, d, S9, hd, p9, k9, e9⟩ := one_at pF gf2 (by omega) (by simp) (by simp) n
  have kAll : Kp k S S9 := (kS7.trans (Kp.grow grAll)).trans k9
  have lA := grA.len
  have lB := (grA.trans grB).len
  have lC := ((grA.trans grB).trans grC).len
  have lD := (((grA.trans grB).trans grC).trans grd1).len
  have lE := ((((grA.trans grB).trans grC).trans grd1).trans gre1).len
  have lA4 := (((gra1.trans gra2).trans gra3).trans gra4).len
  have lB2 := ((grA.trans grb1).trans grb2).len
  have lC4 := (((((grA.trans grB).trans grc1).trans grc2).trans grc3).trans grc4).len
  have hk7 := p7.lt
  have fin : ∀ (p : Nat) (ds : List D), d = .ref p → S.length ≤ p → F2[p]? = some (.lst ds) → GoodL ds → p ≠ k → Bent S k (.ok d S9) := by
    intro p ds e lp hds hgd hpk
    refine ⟨d, .lst ds, S9, rfl, ⟨p, by omega, e, k9.at_ _ _ hpk hds, hgd.1, by have := hgd.2; omega⟩, trivial, fun q hq => ?_, p9, kAll⟩
    rw [e] at hq; cases hq; exact lp
  have res : Bent S k (.ok d S9) := by
    have h7 : d ∈ [D.ref c5, .ref d3, .ref f5, .ref t] ++ [.ref u1, .tup (l.map D.int), .ref u3] := List.mem_of_getElem? hd
    simp only [List.cons_append, List.nil_append, List.mem_cons, List.not_mem_nil, or_false] at h7
    have gB' := (((((grB.trans grC).trans grd1).trans gre1).trans gre3).trans grf1).trans grf2
    have gC' := ((((grC.trans grd1).trans gre1).trans gre3).trans grf1).trans grf2
    have gD' := (((grd1.trans gre1).trans gre3).trans grf1).trans grf2
    have b1' := bnd none (some r1)
    have b2' := bnd (some r1) none
    have b3' := bnd (some (r1 + 1)) none
    rcases h7 with h | h | h | h | h | h | h
    · exact fin c5 _ h (by omega) (gr_at gB' ga5) (((gl.cut _ _).app gx (by simp; omega)).app (gl.cut _ _) (by simp; omega)) (by omega)
    · exact fin d3 _ h (by omega) (gr_at gC' gb3) ((gl.cut _ _).app (gl.cut _ _) (by omega)) (by omega)
    · exact fin f5 _ h (by omega) (gr_at gD' gc5) (((gl.cut _ _).app gx (by simp; omega)).app (gl.cut _ _) (by simp; omega)) (by omega)
    · exact fin t _ h lS4 (gr_at grAll t7) gt (by omega)
    · exact fin u1 _ h (by omega) (gr_at ((gre3.trans grf1).trans grf2) ge1) (gl.app gl (by simp; omega)) (by omega)
    · refine ⟨d, .oth d, S9, rfl, ⟨rfl, (by rw [h]; exact flats_ints l), .tup, fun S => (by rw [h]; rfl), rfl⟩, .inr (.inr ⟨l.map D.int, h, gl.1, by have := gl.2; omega⟩), fun p hp => (by rw [h] at hp; cases hp), p9, kAll⟩
    · exact fin u3 _ h (by omega) (gr_at (grf1.trans grf2) ge3) ⟨fun x hx => gl.1 x (List.mem_reverse.mp hx), by simpa using gl.2⟩ (by omega)
  have run : (TT (n+3)).fn "_law_bent" [.ref k, .ref g] S = .ok d S9 := by
    rw [mlaw_bent_eq]
    simp only [mlaw_bent, sqX]
    unfold elevenL at n2
    have ad1 : ∀ S : Sto, binD .Add (.int r1) (.int 1) S = .ok (.int (r1 + 1)) S := fun S => b_add
    have mk : ∀ (S : Sto) (a b : D), mkTup [a, b] S = .ok (.tup [a, b]) S := fun S a b => mk_tup (by simp)
    simp [ln0, e1, iv1, n2, e3, ln3, e4, ls4, iv4, iv5, mk, se1, se2, optE, ea1, ea2, ea3, ea4, ea5, eb1, ad1, eb2, eb3, ec1, ec2, ec3, ec4, ec5, ed1, ee1, tu, ee3, ef1, ef2, e9]
  rw [run]
  exact res
end Cor
end
section
set_option linter.all false
set_option maxRecDepth 100000
namespace Cor
open PySem L2
theorem for_ok {J : List D} {g : Option Nat} {f : D → DEnv → Sto → RS} {S : Sto} {P : DEnv → Prop} (hg : guardOk J g S = true) : ∀ {ds : List D} {env : DEnv}, P env →
    (∀ d, d ∈ ds → ∀ env, P env → ∃ env', P env' ∧ f d env S = .nx env' S) → ∃ env', P env' ∧ forD J g f ds env S = .nx env' S
  | [], env, hp, _ => ⟨env, hp, by simp only [forD, hg, if_true]⟩
  | d :: ds, env, hp, h => by
    obtain ⟨env1, hp1, h2⟩ := h d List.mem_cons_self env hp
    obtain ⟨env2, hp2, k2⟩ := for_ok hg (ds := ds) hp1 (fun d hd => h d (List.mem_cons_of_mem _ hd))
    exact ⟨env2, hp2, by simp only [forD, hg, if_true, h2, k2]⟩
theorem NtAt.keep {S S' : Sto} {k : Nat} {d : D} {t : Nt} (h : NtAt S d t) (hk : ∀ p, d = .ref p → p ≠ k) (a : Kp k S S') : NtAt S' d t := by
  cases t with
  | lst ds => obtain ⟨p, hp, e, hs, r⟩ := h; exact ⟨p, hp, e, a.at_ _ _ (hk p e) hs, r⟩
  | dct => obtain ⟨p, hp, e, hs⟩ := h; exact ⟨p, hp, e, a.at_ _ _ (hk p e) hs⟩
  | oth e => exact h
theorem AskAt.keep {S S' : Sto} {k : Nat} {o : D} {q : Ask} (h : AskAt S o q) (hk : ∀ p, o = .ref p → p ≠ k) (a : Kp k S S') : AskAt S' o q := by
  cases q with
  | shelved m => obtain ⟨j, hj, e, hs⟩ := h; exact ⟨j, hj, e, a.at_ _ _ (hk j e) hs⟩
  | _ => exact h
/-- notes at hand: what they are, where -/
def Hand (S : Sto) (L k : Nat) (d : D) : Prop := ∃ t, NtAt S d t ∧ NtOk t ∧ ∀ p, d = .ref p → L ≤ p ∧ p ≠ k
theorem Hand.keep {S S' : Sto} {L k : Nat} {d : D} (h : Hand S L k d) (a : Kp k S S') : Hand S' L k d := by
  obtain ⟨t, h1, h2, h3⟩ := h
  exact ⟨t, h1.keep (fun p e => (h3 p e).2) a, h2, h3⟩
def noteB (F : Str → List D → Sto → R D) : List Yp := [asgX (tgN 7) (callX (callB .repr) [(lk 6)]), ifX (testsX true [(tstX (cmpX .NotEq (callX (callB .repr) [(callX (F "keeps") [(lk 3), (lk 4), (lk 6)])]) (callX (callB .repr) [(callX (F "_law_due") [(lk 3), (lk 4), (lk 6)])]))), (tstX (cmpX .NotEq (callX (callB .repr) [(lk 6)]) (lk 7)))]) [retX (cst (.bl false))] []]
def Env9 (a b c d e f : D) (env : DEnv) : Prop := ∃ x y z, env = [some a, some b, some c, some d, some e, some f, x, y, z]
theorem note_turn {S : Sto} {L k : Nat} {o d : D} {q : Ask} (ha : AskAt S o q) (hd : Hand S L k d) (hL : ∀ j, o = .ref j → j < L) (a b c f : D) (n : Nat) {env : DEnv} (he : Env9 a b c (.str (wordOf q)) o f env) :
    ∃ env', Env9 a b c (.str (wordOf q)) o f env' ∧ bodyD (tgN 6) (noteB (TT (n+3)).fn) d env S = .nx env' S := by
  obtain ⟨x, y, z, rfl⟩ := he
  obtain ⟨t, h1, h2, h3⟩ := hd
  have hsep : ∀ j, o = .ref j → d ≠ .ref j := fun j e e2 => by
    have := hL j e
    have := (h3 j e2).1
    omega
  obtain ⟨tx, hx⟩ := nt_repr h1 h2
  have kp := keeps_at ha h1 hsep n
  have du : (TT (n+3)).fn "_law_due" [.str (wordOf q), o, d] S = .ok (.bl (ntB q t)) S := by
    rw [mlaw_due_eq]
    exact pure3 ha h1 hsep fun S o d h1 h2 h3 => due_body h1 h2 h3 n
  refine ⟨[some a, some b, some c, some (.str (wordOf q)), some o, some f, some d, some (.str tx), z], ⟨_, _, _, rfl⟩, ?_⟩
  simp [bodyD, noteB, hx, kp, du, rb, cmpD, cmpO, eq_strs]
/-- eight notes put otherwise -/
theorem bents {S0 : Sto} {k g L : Nat} {l : List Int} (hgk : g ≠ k) (hg0 : 0 < g) (hb : ∀ i ∈ l, BigI i) (h0 : 0 < l.length) (h20 : l.length ≤ 20) (n : Nat) {J : List D} {env : DEnv} (e2 : env[2]? = some (some (.ref k))) (e5 : env[5]? = some (some (.ref g))) : ∀ (ds acc : List D) (S : Sto), PoolAt S k → S[g]? = some (.lst (l.map D.int)) → L ≤ S.length → (∀ d ∈ acc, Hand S L k d) → acc.length + ds.length ≤ 100 →
    ∃ (rs : List D) (S' : Sto), PoolAt S' k ∧ Kp k S S' ∧ (∀ d ∈ rs, Hand S' L k d) ∧ rs.length = acc.length + ds.length ∧ compD J none (turnX [8] (tgN 8) [] (callX ((TT (n+3)).fn "_law_bent") [(lk 2), (lk 5)]) env) ds acc S = .ok rs S' := by
  intro ds
  induction ds with
  | nil => exact fun acc S hp _ _ ha _ => ⟨acc, S, hp, Kp.refl, ha, rfl, by simp [compD, guardOk]⟩
  | cons x ds ih =>
    intro acc S hp hg hL ha hl
    simp only [List.length_cons] at hl
    obtain ⟨d, t, S1, r1, r2, r3, r4, r5, r6⟩ := bent_at hp hgk hg0 hg hb h0 h20 n
    have hk := hp.lt
    have hd : Hand S1 L k d := ⟨t, r2, r3, fun p e => by have := r4 p e; omega⟩
    obtain ⟨rs, S2, q1, q2, q3, q4, q5⟩ := ih (acc ++ [d]) S1 r5 (r6.at_ _ _ hgk hg) (Nat.le_trans hL r6.len) (fun y hy => by
      rcases List.mem_append.mp hy with hy | hy
      · exact (ha y hy).keep r6
      · simp at hy; subst hy; exact hd) (by simp; omega)
    refine ⟨rs, S2, q1, r6.trans q2, q3, by rw [q4]; simp; omega, ?_⟩
    have t1 : turnX [8] (tgN 8) [] (callX ((TT (n+3)).fn "_law_bent") [(lk 2), (lk 5)]) env x S = .ok (some d) S1 := by
      have a2 : ((env.set 8 none).set 8 (some x))[2]? = some (some (.ref k)) := by rw [List.getElem?_set_ne (by decide), List.getElem?_set_ne (by decide)]; exact e2
      have a5 : ((env.set 8 none).set 8 (some x))[5]? = some (some (.ref g)) := by rw [List.getElem?_set_ne (by decide), List.getElem?_set_ne (by decide)]; exact e5
      simp only [turnX, wipeD, tgN, evIf, bind_ok, callX, allX, all_cons, all_nil, lk, a2, a5, ofO_some, r1]
    have sz : acc.length < sizeLine := by
      have := sz1000
      omega
    simp only [compD, guardOk, if_true, t1, bind_ok, sz, q5]
def notesX (F : Str → List D → Sto → R D) : Xp := binX .Add (lstX [(cst (.non)), (tupX []), (lstX []), (cst (.str "")), dict0X, (lstX [(cst (.non))])]) (lcX (rngX [(cst (.int 8))]) [8] (tgN 8) [] (callX (F "_law_bent") [(lk 2), (lk 5)]))
theorem notes_at {S : Sto} {k g : Nat} {l : List Int} (hp : PoolAt S k) (hgk : g ≠ k) (hg0 : 0 < g) (hg : S[g]? = some (.lst (l.map D.int))) (hb : ∀ i ∈ l, BigI i) (h0 : 0 < l.length) (h20 : l.length ≤ 20) (n : Nat) {env : DEnv} (e2 : env[2]? = some (some (.ref k))) (e5 : env[5]? = some (some (.ref g))) :
    ∃ (p : Nat) (ds : List D) (S' : Sto), p ≠ k ∧ S'[p]? = some (.lst ds) ∧ (∀ d ∈ ds, Hand S' S.length k d) ∧ PoolAt S' k ∧ Kp k S S' ∧ notesX (TT (n+3)).fn env S = .ok (.ref p) S' := by
  have hk := hp.lt
  obtain ⟨p1, S1, a1, b1, g1, l1⟩ := new_ex (S := S) [] (by simp)
  have a2 : (newO (.dK []) S1 : R D) = .ok (.ref S1.length) (S1 ++ [.dK []]) := rfl
  have b2 : (S1 ++ [Ob.dK []])[S1.length]? = some (.dK []) := by simp
  have g2 : Grow S1 (S1 ++ [Ob.dK []]) := ⟨_, rfl⟩
  have l2 := g1.len
  generalize hp2 : S1.length = p2 at a2 b2 l2
  generalize hS2 : S1 ++ [Ob.dK []] = S2 at a2 b2 g2
  obtain ⟨p3, S3, a3, b3, g3, l3⟩ := new_ex (S := S2) [.non] (by simp)
  obtain ⟨p4, S4, a4, b4, g4, l4⟩ := new_ex (S := S3) [.non, .tup [], .ref p1, .str "", .ref p2, .ref p3] (by simp)
  have gAll := ((g1.trans g2).trans g3).trans g4
  have ll2 := (g1.trans g2).len
  have ll3 := ((g1.trans g2).trans g3).len
  have p4' := hp.grow gAll
  have hg4 := gr_at gAll hg
  obtain ⟨rs, S5, q1, q2, q3, q4, q5⟩ := bents (S0 := S) (L := S.length) hgk hg0 hb h0 h20 n (J := rangeD 0 8) (env := env) e2 e5 (rangeD 0 8) [] S4 p4' hg4 gAll.len (fun d hd => by cases hd) (by decide)
  have l5 := q2.len
  have lS4 := gAll.len
  obtain ⟨p6, S6, a6, b6, g6, l6⟩ : ∃ (p : Nat) (S' : Sto), (newO (.lst rs) S5 : R D) = .ok (.ref p) S' ∧ S'[p]? = some (.lst rs) ∧ Grow S5 S' ∧ S5.length ≤ p := ⟨_, _, rfl, by simp, ⟨_, rfl⟩, Nat.le_refl _⟩
  have b46 := gr_at g6 (q2.at_ _ _ (by omega) b4)
  obtain ⟨p7, S7, a7, b7, g7, l7⟩ := add_ex b46 b6 (by rw [q4]; simp [rangeD_len'])
  have k47 : Kp k S4 S7 := (q2.trans (Kp.grow g6)).trans (Kp.grow g7)
  have l56 := g6.len
  refine ⟨p7, _, S7, by omega, b7, ?_, (q1.grow g6).grow g7, (Kp.grow gAll).trans k47, ?_⟩
  · intro d hd
    have fromS4 : Hand S4 S.length k d → Hand S7 S.length k d := fun h => h.keep k47
    rcases List.mem_append.mp hd with hd | hd
    · refine fromS4 ?_
      simp only [List.mem_cons, List.not_mem_nil, or_false] at hd
      rcases hd with rfl | rfl | rfl | rfl | rfl | rfl
      · exact ⟨.oth .non, ⟨rfl, rfl, .non, fun _ => rfl, rfl⟩, .inl rfl, fun p e => by cases e⟩
      · exact ⟨.oth (.tup []), ⟨rfl, rfl, .tup, fun _ => rfl, rfl⟩, .inr (.inr ⟨[], rfl, (fun d hd => by cases hd), by simp⟩), fun p e => by cases e⟩
      · exact ⟨.lst [], ⟨p1, by omega, rfl, gr_at ((g2.trans g3).trans g4) b1, (fun d hd => by cases hd), by simp⟩, trivial, fun p e => by cases e; omega⟩
      · exact ⟨.oth (.str ""), ⟨rfl, rfl, .str, fun _ => rfl, rfl⟩, .inr (.inl rfl), fun p e => by cases e⟩
      · exact ⟨.dct, ⟨p2, by omega, rfl, gr_at (g3.trans g4) b2⟩, trivial, fun p e => by cases e; omega⟩
      · exact ⟨.lst [.non], ⟨p3, by omega, rfl, gr_at g4 b3, (fun d hd => by simp at hd; subst hd; exact .inr (.inr (.inl rfl))), by simp⟩, trivial, fun p e => by cases e; omega⟩
    · exact (q3 d hd).keep ((Kp.grow g6).trans (Kp.grow g7))
  · have rg : rngX [cst (.int 8)] env S4 = .ok ⟨rangeD 0 8, none⟩ S4 := rng_of (m := 8) (by decide) rfl
    have lc : lcX (rngX [(cst (.int 8))]) [8] (tgN 8) [] (callX ((TT (n+3)).fn "_law_bent") [(lk 2), (lk 5)]) env S4 = .ok (.ref p6) S6 := by
      unfold lcX
      rw [rg]
      simp only [bind_ok, q5, a6]
    simp only [notesX, binX, lstX, tupX, dict0X, allX, all_cons, all_nil, cst, bind_ok, mk_tup (ds := []) (by simp), a1, a2, a3, a4, lc, a7]
end Cor
end
section
set_option linter.all false
set_option maxRecDepth 100000
namespace Cor
open PySem L2
def wordB (F : Str → List D → Sto → R D) : List Yp := [asgX (tgN 5) (callX (F "_law_drawn") [(lk 2), (lk 3), (lk 4)]), ifX (tstX (cmpX .IsNot (callX (F "keeps") [(lk 3), (lk 4), (lk 5)]) (cst (.bl true)))) [retX (cst (.bl false))] [], forX (itX (notesX F)) (tgN 6) (noteB F)]
/-- the frame: what stands in the first three places -/
def Env3 (a b c : D) (env : DEnv) : Prop := ∃ d e f x y z, env = [some a, some b, some c, d, e, f, x, y, z]
theorem word_turn {S : Sto} {k : Nat} {o : D} {q : Ask} (hp : PoolAt S k) (h7 : Seven q) (ha : AskAt S o q) (hok : ∀ j, o = .ref j → j < S.length ∧ j ≠ k) (a b : D) (n : Nat) {env : DEnv} (he : Env3 a b (.ref k) env) :
    ∃ (S' : Sto) (env' : DEnv), Env3 a b (.ref k) env' ∧ PoolAt S' k ∧ Kp k S S' ∧ bodyD (tgT 2 [tgN 3, tgN 4]) (wordB (TT (n+3)).fn) (.tup [.str (wordOf q), o]) env S = .nx env' S' := by
  obtain ⟨d0, e0, f0, x, y, z, rfl⟩ := he
  obtain ⟨g, l, S1, dr, lg, gk, hg, ⟨k1, k2, k3, k4⟩, p1, q1⟩ := drawn_at hp h7 ha (n + 1)
  have hkl := hp.lt
  have ha1 := ha.keep (fun p e => (hok p e).2) q1
  have hE : ∀ x ∈ l.map D.int, El x := fun x hx => by
    obtain ⟨i, hi, rfl⟩ := List.mem_map.mp hx
    exact .inl ⟨i, rfl, k2 i hi⟩
  have kp := keeps_at (t := .lst (l.map D.int)) ha1 ⟨g, by omega, rfl, hg, hE, by simp; omega⟩ (fun j e e2 => by cases e2; have := hok g e; omega) n
  have hall : (l.map D.int).all isInt = true := by
    rw [List.all_map]
    exact List.all_eq_true.mpr fun _ _ => rfl
  have hio : intsOf (l.map D.int) = l := by
    clear kp hg k1 k2 k3 k4 hE hall
    induction l with
    | nil => rfl
    | cons i l ih => exact congrArg _ ih
  have ntt : ntB q (.lst (l.map D.int)) = true := by simp [ntB, hall, hio, k1]
  rw [ntt] at kp
  obtain ⟨p, ds, S2, pk, hds, hand, p2, q2, nx⟩ := notes_at p1 gk (by omega) hg k2 k3 k4 n (env := [some a, some b, some (.ref k), some (.str (wordOf q)), some o, some (.ref g), x, y, z]) rfl rfl
  have ha2 := ha1.keep (fun p e => (hok p e).2) q2
  have lq1 := q1.len
  obtain ⟨env', ⟨x', y', z', rfl⟩, lp⟩ := for_ok (J := ds) (g := some p) (S := S2) (P := Env9 a b (.ref k) (.str (wordOf q)) o (.ref g)) (f := bodyD (tgN 6) (noteB (TT (n+3)).fn)) (guard_lst hds) (ds := ds) (env := [some a, some b, some (.ref k), some (.str (wordOf q)), some o, some (.ref g), x, y, z]) ⟨_, _, _, rfl⟩
    (fun d hd env he => note_turn (L := S1.length) (k := k) ha2 (hand d hd) (fun j e => by have := (hok j e).1; omega) a b (.ref k) (.ref g) n he)
  refine ⟨S2, [some a, some b, some (.ref k), some (.str (wordOf q)), some o, some (.ref g), x', y', z'], ⟨_, _, _, _, _, _, rfl⟩, p2, q1.trans q2, ?_⟩
  have it : itX (notesX (TT (n+3)).fn) [some a, some b, some (.ref k), some (.str (wordOf q)), some o, some (.ref g), x, y, z] S1 = .ok ⟨ds, some p⟩ S2 := by simp only [itX, nx, bind_ok, itD, hds, ofO_some]
  have fx := forX_of (tg := tgN 6) (body := noteB (TT (n+3)).fn) it
  rw [lp] at fx
  have s1 : asgX (tgN 5) (callX ((TT (n+3)).fn "_law_drawn") [(lk 2), (lk 3), (lk 4)]) [some a, some b, some (.ref k), some (.str (wordOf q)), some o, f0, x, y, z] S = .nx [some a, some b, some (.ref k), some (.str (wordOf q)), some o, some (.ref g), x, y, z] S1 := by simp [dr]
  have s2 : ifX (tstX (cmpX .IsNot (callX ((TT (n+3)).fn "keeps") [(lk 3), (lk 4), (lk 5)]) (cst (.bl true)))) [retX (cst (.bl false))] [] [some a, some b, some (.ref k), some (.str (wordOf q)), some o, some (.ref g), x, y, z] S1 = .nx [some a, some b, some (.ref k), some (.str (wordOf q)), some o, some (.ref g), x, y, z] S1 := by simp [kp, cmpD, cmpO]
  have b0 : bodyD (tgT 2 [tgN 3, tgN 4]) (wordB (TT (n+3)).fn) (.tup [.str (wordOf q), o]) [some a, some b, some (.ref k), d0, e0, f0, x, y, z] S = sqX (wordB (TT (n+3)).fn) [some a, some b, some (.ref k), some (.str (wordOf q)), some o, f0, x, y, z] S := rfl
  rw [b0]
  simp only [wordB, sqX, sq_cons, sq_nil, s1, s2, fx]
/-- over all that were made -/
theorem words_loop {k j w : Nat} {ms : List D} (hj : j ≠ k) (hw : w ≠ k) (a b : D) (n : Nat) : ∀ (ds : List D) (S : Sto) (env : DEnv), PoolAt S k → S[j]? = some (.lst ms) → Env3 a b (.ref k) env → w < S.length →
    (∀ d ∈ ds, ∃ q o, d = .tup [.str (wordOf q), o] ∧ Seven q ∧ AskAt S o q ∧ ∀ i, o = .ref i → i = w) →
    ∃ (S' : Sto) (env' : DEnv), Env3 a b (.ref k) env' ∧ PoolAt S' k ∧ Kp k S S' ∧ forD ms (some j) (bodyD (tgT 2 [tgN 3, tgN 4]) (wordB (TT (n+3)).fn)) ds env S = .nx env' S' := by
  intro ds
  induction ds with
  | nil => exact fun S env hp hjs he _ _ => ⟨S, env, he, hp, Kp.refl, by simp only [forD, guard_lst hjs, if_true]⟩
  | cons d ds ih =>
    intro S env hp hjs he hwl hd
    obtain ⟨q, o, rfl, h7, ha, ho⟩ := hd d List.mem_cons_self
    obtain ⟨S1, env1, he1, p1, q1, r1⟩ := word_turn hp h7 ha (fun i e => by rw [ho i e]; exact ⟨hwl, hw⟩) a b n he
    obtain ⟨S2, env2, he2, p2, q2, r2⟩ := ih S1 env1 p1 (q1.at_ _ _ hj hjs) he1 (Nat.lt_of_lt_of_le hwl q1.len) (fun d hd' => by
      obtain ⟨q', o', e1, e2, e3, e4⟩ := hd d (List.mem_cons_of_mem _ hd')
      exact ⟨q', o', e1, e2, e3.keep (fun i e => by rw [e4 i e]; exact hw) q1, e4⟩)
    exact ⟨S2, env2, he2, p2, q1.trans q2, by simp only [forD, guard_lst hjs, if_true, r1, r2]⟩
def turnY (F : Str → List D → Sto → R D) : List Yp := [asgX (tgN 2) (callX (F "_law_pool") [(lk 0), (lk 1)]), forX (itX (callX (F "_law_made_programs") [(lk 2)])) (tgT 2 [(tgN 3), (tgN 4)]) (wordB F)]
def Env1 (env : DEnv) : Prop := ∃ a b d e f x y z, env = [some (.ref 0), a, b, d, e, f, x, y, z]
theorem turn_at {S : Sto} {ns : List Int} {i : Int} (h0 : S[0]? = some (.frz (ns.map .int))) (hi : 0 ≤ i) (n : Nat) {env : DEnv} (he : Env1 env) : ∃ (S' : Sto) (env' : DEnv), Env1 env' ∧ S'[0]? = some (.frz (ns.map .int)) ∧ bodyD (tgN 1) (turnY (TT (n+3)).fn) (.int i) env S = .nx env' S' := by
  obtain ⟨a, b, d, e, f, x, y, z, rfl⟩ := he
  obtain ⟨p, S1, hp0, p1, g1, e1⟩ := pool_at h0 hi (n + 2)
  obtain ⟨w, m, j, S2, wk, jk, w0, hw, hm1, hm2, hm3, hjs, p2, q2, e2⟩ := made_at p1 n
  have h01 := gr_at g1 h0
  have h02 := q2.at_ 0 _ (by omega) h01
  obtain ⟨S3, env3, he3, p3, q3, r3⟩ := words_loop (w := w) jk wk (.ref 0) (.int i) n (madeL w) S2 [some (.ref 0), some (.int i), some (.ref p), d, e, f, x, y, z] p2 hjs ⟨_, _, _, _, _, _, rfl⟩ (List.getElem?_eq_some_iff.mp hw).1 (fun d hd => by
    simp only [madeL, List.mem_cons, List.not_mem_nil, or_false] at hd
    rcases hd with rfl | rfl | rfl | rfl | rfl | rfl | rfl
    · exact ⟨.locked 1, .int 1, rfl, .inl rfl, ⟨rfl, by decide⟩, fun i e => by cases e⟩
    · exact ⟨.locked 2, .int 2, rfl, .inr (.inl rfl), ⟨rfl, by decide⟩, fun i e => by cases e⟩
    · exact ⟨.shelved m, .ref w, rfl, .inr (.inr (.inl ⟨m, rfl, hm1, hm2, hm3⟩)), ⟨w, w0, rfl, hw⟩, fun i e => by cases e; rfl⟩
    · exact ⟨.met 2, .int 2, rfl, .inr (.inr (.inr (.inl rfl))), ⟨rfl, by decide⟩, fun i e => by cases e⟩
    · exact ⟨.met 3, .int 3, rfl, .inr (.inr (.inr (.inr (.inl rfl)))), ⟨rfl, by decide⟩, fun i e => by cases e⟩
    · exact ⟨.reading 1, .int 1, rfl, .inr (.inr (.inr (.inr (.inr (.inl rfl))))), ⟨rfl, by decide⟩, fun i e => by cases e⟩
    · exact ⟨.reading 2, .int 2, rfl, .inr (.inr (.inr (.inr (.inr (.inr rfl))))), ⟨rfl, by decide⟩, fun i e => by cases e⟩)
  obtain ⟨d3, ee, f3, x3, y3, z3, rfl⟩ := he3
  refine ⟨S3, [some (.ref 0), some (.int i), some (.ref p), d3, ee, f3, x3, y3, z3], ⟨_, _, _, _, _, _, _, _, rfl⟩, q3.at_ 0 _ (by omega) h02, ?_⟩
  have it : itX (callX ((TT (n+3)).fn "_law_made_programs") [(lk 2)]) [some (.ref 0), some (.int i), some (.ref p), d, e, f, x, y, z] S1 = .ok ⟨madeL w, some j⟩ S2 := by simp [itX, e2, itD, hjs]
  have fx := forX_of (tg := tgT 2 [tgN 3, tgN 4]) (body := wordB (TT (n+3)).fn) it
  rw [r3] at fx
  have s1 : asgX (tgN 2) (callX ((TT (n+3)).fn "_law_pool") [(lk 0), (lk 1)]) [some (.ref 0), some (.int i), b, d, e, f, x, y, z] S = .nx [some (.ref 0), some (.int i), some (.ref p), d, e, f, x, y, z] S1 := by simp [e1]
  have b0 : bodyD (tgN 1) (turnY (TT (n+3)).fn) (.int i) [some (.ref 0), a, b, d, e, f, x, y, z] S = sqX (turnY (TT (n+3)).fn) [some (.ref 0), some (.int i), b, d, e, f, x, y, z] S := rfl
  rw [b0]
  simp only [turnY, sqX, sq_cons, sq_nil, s1, fx]
theorem turns_at {ns : List Int} (n m : Nat) : ∀ (j : Int) (J : List D) (S : Sto) (env : DEnv), 0 ≤ j → S[0]? = some (.frz (ns.map .int)) → Env1 env → ∃ (S' : Sto) (env' : DEnv), forD J none (bodyD (tgN 1) (turnY (TT (n+3)).fn)) (rangeD j m) env S = .nx env' S' := by
  induction m with
  | zero => exact fun j J S env _ _ _ => ⟨S, env, by simp only [rangeD, forD, guardOk, if_true]⟩
  | succ m ih =>
    intro j J S env hj h0 he
    obtain ⟨S1, env1, he1, h1, r1⟩ := turn_at h0 hj n he
    obtain ⟨S2, env2, r2⟩ := ih (j + 1) J S1 env1 (by omega) h1 he1
    exact ⟨S2, env2, by simp only [rangeD, forD, guardOk, if_true, r1, r2]⟩
def preY (F : Str → List D → Sto → R D) : Yp := ifX (testsX true [(tstX (cmpX .IsNot (callX (F "keeps") [(cst (.str "reading")), (cst (.int 1)), (lstX [(cst (.int 1)), (cst (.int 9)), (negX (cst (.int 9))), (negX (cst (.int 1)))])]) (cst (.bl true)))), (tstX (cmpX .IsNot (callX (F "keeps") [(cst (.str "reading")), (cst (.int 2)), (lstX [(cst (.int 1)), (cst (.int 2)), (cst (.int 9)), (negX (cst (.int 9))), (negX (cst (.int 2))), (negX (cst (.int 1)))])]) (cst (.bl true))))]) [retX (cst (.bl false))] []
def mnX : Xp := callX (callB .max) [(cst (.int 2)), (callX (callB .min) [(callX (callB .len) [(lk 0)]), (cst (.int 20))])]
theorem law_split (F) : m_law F = [preY F, forX (rngX [mnX]) (tgN 1) (turnY F), retX (cst (.bl true))] := rfl
theorem pre_at {S : Sto} (h0 : 0 < S.length) (env : DEnv) (n : Nat) : ∃ S', Grow S S' ∧ preY (TT (n+3)).fn env S = .nx env S' := by
  obtain ⟨p1, S1, a1, b1, g1, l1⟩ := new_ex (S := S) ([1, 9, -9, -1].map D.int) (by simp)
  have kp1 := keeps_at (q := .reading 1) (o := .int 1) (t := .lst ([1, 9, -9, -1].map D.int)) ⟨rfl, by decide⟩ ⟨p1, by omega, rfl, b1, (fun x hx => by
    obtain ⟨i, hi, rfl⟩ := List.mem_map.mp hx
    refine .inl ⟨i, rfl, ?_⟩
    simp only [List.mem_cons, List.not_mem_nil, or_false] at hi
    rcases hi with rfl | rfl | rfl | rfl <;> decide), by simp⟩ (fun j e => by cases e) n
  have z1 : ntB (.reading 1) (.lst ([1, 9, -9, -1].map D.int)) = true := by decide +kernel
  rw [z1] at kp1
  obtain ⟨p2, S2, a2, b2, g2, l2⟩ := new_ex (S := S1) ([1, 2, 9, -9, -2, -1].map D.int) (by simp)
  have kp2 := keeps_at (q := .reading 2) (o := .int 2) (t := .lst ([1, 2, 9, -9, -2, -1].map D.int)) ⟨rfl, by decide⟩ ⟨p2, by have := g1.len; omega, rfl, b2, (fun x hx => by
    obtain ⟨i, hi, rfl⟩ := List.mem_map.mp hx
    refine .inl ⟨i, rfl, ?_⟩
    simp only [List.mem_cons, List.not_mem_nil, or_false] at hi
    rcases hi with rfl | rfl | rfl | rfl | rfl | rfl <;> decide), by simp⟩ (fun j e => by cases e) n
  have z2 : ntB (.reading 2) (.lst ([1, 2, 9, -9, -2, -1].map D.int)) = true := by decide +kernel
  rw [z2] at kp2
  refine ⟨S2, g1.trans g2, ?_⟩
  simp only [List.map_cons, List.map_nil] at a1 a2
  simp only [wordOf] at kp1 kp2
  simp [preY, a1, kp1, a2, kp2, cmpD, cmpO]
theorem mn_at {S : Sto} {ns : List Int} {env : DEnv} (he : env[0]? = some (some (.ref 0))) (h0 : S[0]? = some (.frz (ns.map .int))) : ∃ m : Nat, m ≤ 20 ∧ mnX env S = .ok (.int m) S := by
  have lenE : callB .len [.ref 0] S = .ok (.int ns.length) S := cb_len (by simp [lenD, h0])
  by_cases hl : (20 : Int) < (ns.length : Int)
  · refine ⟨20, by omega, ?_⟩
    simp [mnX, he, lenE, cb_min, cb_max, hl]
  · by_cases h1 : (ns.length : Int) > 2
    · refine ⟨ns.length, by omega, ?_⟩
      simp [mnX, he, lenE, cb_min, cb_max, hl]
      intro; omega
    · refine ⟨2, by omega, ?_⟩
      simp [mnX, he, lenE, cb_min, cb_max, hl]
      intro; omega
theorem law_true (ns : List Int) : ∃ Sf, (TT (11 + 1)).fn "law" [.ref 0] [.frz (ns.map .int)] = .ok (.bl true) Sf := by
  obtain ⟨S1, g1, e1⟩ := pre_at (S := [.frz (ns.map .int)]) (by simp) [some (.ref 0), none, none, none, none, none, none, none, none] 8
  have h1 : S1[0]? = some (.frz (ns.map .int)) := gr_at g1 rfl
  obtain ⟨m, hm, em⟩ := mn_at (env := [some (.ref 0), none, none, none, none, none, none, none, none]) rfl h1
  obtain ⟨S2, env2, r2⟩ := turns_at (ns := ns) 8 m 0 (rangeD 0 m) S1 [some (.ref 0), none, none, none, none, none, none, none, none] (Int.le_refl 0) h1 ⟨_, _, _, _, _, _, _, _, rfl⟩
  refine ⟨S2, (m_law_eq 11 (.ref 0) [.frz (ns.map .int)]).trans ?_⟩
  rw [law_split]
  have rg : rngX [mnX] [some (.ref 0), none, none, none, none, none, none, none, none] S1 = .ok ⟨rangeD 0 m, none⟩ S1 := rng_of (by omega) em
  have fx := forX_of (tg := tgN 1) (body := turnY (TT 11).fn) rg
  simp only [Nat.reduceAdd] at e1 r2
  rw [r2] at fx
  simp only [sqX, sq_cons, sq_nil, e1, fx, retX, cst, st_ok, finX]
theorem law_true' (ns : List Int) (hn : ns.length ≤ 63) : ∃ Sf, (TT (11 + 1)).fn "law" [.ref 0] [.frz (ns.map .int)] = .ok (.bl true) Sf := law_true ns
end Cor
end
theorem PySem.Challenge.cw_waitedmeets_k62_words_kept_by_notes_holds : PySem.Challenge.rw_waitedmeets_k62_words_kept_by_notes.Holds := by
  exact Cor.law_end fun ns h _ => Cor.law_true' ns h
