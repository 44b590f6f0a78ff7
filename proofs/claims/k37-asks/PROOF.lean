import PyProof.Rows.All
import Wide.All
import OpenK.AllK
import Wide.FinOn
import HandS.ForMost
import HandS.Flow
import HandS.IsInst
import HandS.TupAny
import HandS.TupMul
import HandS.Wide
import HandS.Conv
import HandS.Defaults
import HandS.NoneIn
import HandS.SortKw
import HandS.Deep
import HandS.Style
import PyProof.CollectIter
import PyProof.WalksMore
import HandS.Codes
import HandS.Iter
import HandS.Zip
import HandS.HeadHook3
import PySem.Challenge.RW_sealedrows_k37_asks_by_kind
set_option Elab.async false
set_option linter.all false
set_option maxRecDepth 100000
set_option autoImplicit false
set_option maxHeartbeats 4000000
namespace Rf
open PySem L2
/-- what a name may hold: tuples are structural, lists and dicts are places of the small heap -/
inductive D where
  | non | bl (b : Bool) | int (i : Int) | str (s : Str) | tup (l : List D) | ref (n : Nat) | fn (x : Str)
  deriving Inhabited
mutual
def D.beq : D → D → Bool
  | .non, .non => true
  | .bl a, .bl b => a == b
  | .int a, .int b => a == b
  | .str a, .str b => a == b
  | .tup a, .tup b => D.beqL a b
  | .ref a, .ref b => a == b
  | .fn a, .fn b => a == b
  | _, _ => false
def D.beqL : List D → List D → Bool
  | [], [] => true
  | a :: r, b :: t => D.beq a b && D.beqL r t
  | _, _ => false
end
mutual
theorem D.beq_iff : ∀ a b : D, D.beq a b = true ↔ a = b
  | .non, b => by cases b <;> simp [D.beq]
  | .bl a, b => by cases b <;> simp [D.beq]
  | .int a, b => by cases b <;> simp [D.beq]
  | .str a, b => by cases b <;> simp [D.beq]
  | .tup a, b => by
    cases b with
    | tup c => simp [D.beq, D.beqL_iff a c]
    | _ => simp [D.beq]
  | .ref a, b => by cases b <;> simp [D.beq]
  | .fn a, b => by cases b <;> simp [D.beq]
theorem D.beqL_iff : ∀ a b : List D, D.beqL a b = true ↔ a = b
  | [], b => by cases b <;> simp [D.beqL]
  | x :: r, b => by
    cases b with
    | nil => simp [D.beqL]
    | cons y t => simp [D.beqL, D.beq_iff x y, D.beqL_iff r t]
end
instance : DecidableEq D := fun a b => decidable_of_iff _ (D.beq_iff a b)
mutual
/-- all places in it lie below n -/
def D.low (n : Nat) : D → Bool
  | .ref k => decide (k < n)
  | .tup l => D.lowL n l
  | _ => true
def D.lowL (n : Nat) : List D → Bool
  | [] => true
  | d :: r => D.low n d && D.lowL n r
end
/-- what stands at a place -/
inductive HOb where
  | lst (l : List D) | rd (l : List D) | dct (kvs : List (Key × D))
  deriving DecidableEq, Inhabited
def HOb.low (n : Nat) : HOb → Bool
  | .lst l => D.lowL n l
  | .rd l => D.lowL n l
  | .dct kvs => D.lowL n (kvs.map (·.2))
abbrev Hpp := List HOb
abbrev Loc := List (Option D)
/-- what a piece of code comes to -/
inductive R (α : Type) where
  | ok (a : α) (A : Hpp) | ex (c : Nat) (fs : List D) (A : Hpp) | bad
  deriving Inhabited
def R.bind {α β : Type} : R α → (α → Hpp → R β) → R β
  | .ok a A, f => f a A
  | .ex c fs A, _ => .ex c fs A
  | .bad, _ => .bad
@[simp] theorem R.bind_ok {α β : Type} (a : α) (A : Hpp) (f : α → Hpp → R β) : (R.ok a A).bind f = f a A := rfl
@[simp] theorem R.bind_bad {α β : Type} (f : α → Hpp → R β) : (R.bad).bind f = .bad := rfl
theorem R.bind_eq_ok {α β : Type} {r : R α} {f : α → Hpp → R β} {b : β} {A' : Hpp} (h : r.bind f = .ok b A') : ∃ a A, r = .ok a A ∧ f a A = .ok b A' := by
  cases r with
  | ok a A => exact ⟨a, A, rfl, h⟩
  | ex c fs A => cases h
  | bad => cases h
def R.ofO {α : Type} (o : Option α) (A : Hpp) : R α := match o with | some a => .ok a A | none => .bad
theorem R.ofO_ok {α : Type} {o : Option α} {A : Hpp} {a : α} {A' : Hpp} (h : R.ofO o A = .ok a A') : o = some a ∧ A' = A := by
  cases o with
  | none => cases h
  | some x => cases h; exact ⟨rfl, rfl⟩
abbrev M := Loc → Hpp → R D
abbrev MB := Loc → Hpp → R Bool
abbrev ML := Loc → Hpp → R (List D)
inductive O where
  | nx (L : Loc) | rt (d : D) | bk (L : Loc) | ct (L : Loc)
abbrev S := Loc → Hpp → R O
abbrev FE := Nat → List D → Hpp → R D
/-! ### data -/
def optAll {α : Type} : List (Option α) → Option (List α)
  | [] => some []
  | some x :: r => (optAll r).map (x :: ·)
  | none :: _ => none
/-- a thing with its lists read, so deep at most -/
def D.snap (A : Hpp) : Nat → D → Option PyData
  | _, .non => some .none
  | _, .bl b => some (.bool b)
  | _, .int i => some (.int i)
  | _, .str s => some (.str s)
  | n + 1, .tup l => (optAll (l.map (D.snap A n))).map .tuple
  | n + 1, .ref k => match A[k]? with
    | some (.lst l) => (optAll (l.map (D.snap A n))).map .list
    | some (.rd l) => (optAll (l.map (D.snap A n))).map .list
    | _ => none
  | 0, .tup _ => none
  | 0, .ref _ => none
  | _, .fn _ => none
/-- how deep is looked -/
def deepest : Nat := 64
def D.scalar : D → Bool
  | .non => true | .bl _ => true | .int _ => true | .str _ => true | _ => false
/-- == of two things -/
def eqD (x y : D) (A : Hpp) : Option Bool :=
  match x, y with
  | .str a, .str b => some (decide (a = b))
  | .int a, .int b => some (decide (a = b))
  | .str _, .int _ => some false
  | .int _, .str _ => some false
  | .non, .str _ => some false
  | .str _, .non => some false
  | x, y => match x.snap A deepest, y.snap A deepest with
    | some d, some e => if SeqAt.shaped d && SeqAt.shaped e then some (PyData.eqv d e) else none
    | _, _ => none
/-- truth -/
def truth (d : D) (A : Hpp) : Option Bool :=
  match d with
  | .non => some false
  | .bl b => some b
  | .int i => some (i != 0)
  | .str s => if s.length ≤ sizeLine then some ((s.length : Int) != 0) else none
  | .tup l => some (!l.isEmpty)
  | .ref n => match A[n]? with
    | some (.lst l) => some (!l.isEmpty)
    | some (.rd l) => some (!l.isEmpty)
    | some (.dct l) => some (!l.isEmpty)
    | none => none
  | .fn _ => none
/-! ### operators -/
def opAdd (x y : D) (A : Hpp) : R D :=
  match x, y with
  | .int i, .int j => .ok (.int (i + j)) A
  | .bl k, .int j => .ok (.int ((if k = true then 1 else 0) + j)) A
  | .str a, .str b => if a.length + b.length ≤ sizeLine then .ok (.str (a ++ b)) A else .bad
  | .tup a, .tup b => if a.length + b.length ≤ sizeLine then .ok (.tup (a ++ b)) A else .bad
  | .ref m, .ref n => match A[m]?, A[n]? with
    | some (.lst a), some (.lst b) => if a.length + b.length ≤ sizeLine then .ok (.ref A.length) (A ++ [.lst (a ++ b)]) else .bad
    | _, _ => .bad
  | _, _ => .bad
def opSub (x y : D) (A : Hpp) : R D :=
  match x, y with
  | .int i, .int j => .ok (.int (i - j)) A
  | .bl k, .int j => .ok (.int ((if k = true then 1 else 0) - j)) A
  | _, _ => .bad
instance (i j : Int) : Decidable (CMul i j) := by unfold CMul; infer_instance
instance (i j : Int) : Decidable (CMulW i j) := by unfold CMulW; infer_instance
instance (i j : Int) : Decidable (CPow i j) := by unfold CPow; infer_instance
instance (i j : Int) : Decidable (CDivW i j) := by unfold CDivW; infer_instance
instance (i j : Int) : Decidable (CDiv i j) := by unfold CDiv; infer_instance
def strRep (a : Str) (k : Nat) : Str := ⟨(List.replicate k a.cps.toList).flatten.toArray⟩
def opMul (x y : D) (A : Hpp) : R D :=
  match x, y with
  | .int i, .int j => if CMul i j ∨ CMulW i j then .ok (.int (i * j)) A else .bad
  | .tup a, .int k => if a ≠ [] ∧ 2 ≤ k ∧ k ≤ 1000 ∧ a.length ≤ 1000 then .ok (.tup (List.replicate k.toNat a).flatten) A else .bad
  | .str a, .int k => if 2 ≤ k ∧ k ≤ 10000 ∧ a.length ≤ 100 ∧ 0 < a.length then .ok (.str (strRep a k.toNat)) A else .bad
  | .ref n, .int k => match A[n]? with
    | some (.lst a) => if 0 ≤ k ∧ k ≤ 1000000 ∧ a.length * k.toNat ≤ sizeLine then .ok (.ref A.length) (A ++ [.lst (List.replicate k.toNat a).flatten]) else .bad
    | _ => .bad
  | _, _ => .bad
def opMod (x y : D) (A : Hpp) : R D :=
  match x, y with
  | .int i, .int j => if 0 < j then .ok (.int (i % j)) A else .bad
  | _, _ => .bad
def opFdiv (x y : D) (A : Hpp) : R D :=
  match x, y with
  | .int i, .int j => if CDivW i j then .ok (.int (i / j)) A else .bad
  | _, _ => .bad
def opPow (x y : D) (A : Hpp) : R D :=
  match x, y with
  | .int i, .int j => if CPow i j then .ok (.int (i ^ j.toNat)) A else .bad
  | _, _ => .bad
def binOf : Operator → Option (D → D → Hpp → R D)
  | .Add => some opAdd
  | .Sub => some opSub
  | .Mult => some opMul
  | .Mod => some opMod
  | .FloorDiv => some opFdiv
  | .Pow => some opPow
  | _ => none
/-- op= on whole numbers -/
def augAdd (x y : D) (A : Hpp) : R D := match x, y with | .int i, .int j => .ok (.int (i + j)) A | _, _ => .bad
def augMul (x y : D) (A : Hpp) : R D := match x, y with | .int i, .int j => if CMul i j then .ok (.int (i * j)) A else .bad | _, _ => .bad
def augOf : Operator → Option (D → D → Hpp → R D)
  | .Add => some augAdd
  | .Mult => some augMul
  | _ => none
def opNeg (x : D) (A : Hpp) : R D := match x with | .int i => .ok (.int (-i)) A | _ => .bad
/-! ### comparisons -/
def cmpEq (x y : D) (A : Hpp) : R D := (R.ofO (eqD x y A) A).bind fun b A => .ok (.bl b) A
def cmpNe (x y : D) (A : Hpp) : R D := (R.ofO (eqD x y A) A).bind fun b A => .ok (.bl (!b)) A
def cmpLt (x y : D) (A : Hpp) : R D := match x, y with | .int i, .int j => .ok (.bl (decide (i < j))) A | .str a, .str b => .ok (.bl (decide (a.cps.toList < b.cps.toList))) A | _, _ => .bad
def cmpLe (x y : D) (A : Hpp) : R D := match x, y with | .int i, .int j => .ok (.bl (decide (i ≤ j))) A | .str a, .str b => .ok (.bl (!decide (b.cps.toList < a.cps.toList))) A | _, _ => .bad
def cmpGt (x y : D) (A : Hpp) : R D := match x, y with | .int i, .int j => .ok (.bl (decide (j < i))) A | _, _ => .bad
def cmpGe (x y : D) (A : Hpp) : R D := match x, y with | .int i, .int j => .ok (.bl (decide (j ≤ i))) A | _, _ => .bad
def cmpIs (x y : D) (A : Hpp) : R D := match y with | .non => .ok (.bl (decide (x = .non))) A | .bl b => (match x with | .bl a => .ok (.bl (decide (a = b))) A | _ => .bad) | _ => .bad
def cmpIsNot (x y : D) (A : Hpp) : R D := match y with | .non => .ok (.bl (!decide (x = .non))) A | .bl b => (match x with | .bl a => .ok (.bl (!decide (a = b))) A | _ => .bad) | _ => .bad
/-- x in y -/
def inS (x y : D) (A : Hpp) : Option Bool :=
  match x.snap A deepest, y.snap A deepest with
  | some d, some (.list ds) => if SeqAt.shaped d && SeqAt.shaped (.list ds) then some (ds.any fun z => PyData.eqv z d) else none
  | some d, some (.tuple ds) => if SeqAt.shaped d && SeqAt.shaped (.tuple ds) then some (ds.any fun z => PyData.eqv z d) else none
  | _, _ => none
def inT (s z : Str) : Option Bool := match s.cps.toList with | [c] => some (decide (c ∈ z.cps.toList)) | _ => none
def inD (x y : D) (A : Hpp) : Option Bool :=
  match x, y with
  | .str s, .str z => inT s z
  | x, y => inS x y A
def cmpIn (x y : D) (A : Hpp) : R D := (R.ofO (inD x y A) A).bind fun b A => .ok (.bl b) A
def cmpNotIn (x y : D) (A : Hpp) : R D := (R.ofO (inD x y A) A).bind fun b A => .ok (.bl (!b)) A
def cmpOf : CmpOp → Option (D → D → Hpp → R D)
  | .Eq => some cmpEq
  | .NotEq => some cmpNe
  | .Lt => some cmpLt
  | .LtE => some cmpLe
  | .Gt => some cmpGt
  | .GtE => some cmpGe
  | .Is => some cmpIs
  | .IsNot => some cmpIsNot
  | .In => some cmpIn
  | .NotIn => some cmpNotIn
/-! ### subscripts -/
def keyD : D → Option Key
  | .int i => some (.inl i)
  | .str s => some (.inr s)
  | _ => none
def lookD (kvs : List (Key × D)) (k : Key) : Option D := (kvs.find? fun kv => decide (kv.1 = k)).map (·.2)
def putD (kvs : List (Key × D)) (k : Key) (v : D) : List (Key × D) :=
  if (kvs.any fun kv => decide (kv.1 = k)) = true then kvs.map (fun kv => if kv.1 = k then (kv.1, v) else kv) else kvs ++ [(k, v)]
def opIx (x y : D) (A : Hpp) : R D :=
  match x, y with
  | .tup l, .int i => R.ofO (atI l i) A
  | .str s, .int i => if s.length ≤ sizeLine then R.ofO ((atI s.cps.toList i).map fun c => .str ⟨#[c]⟩) A else .bad
  | .ref n, k => match A[n]?, k with
    | some (.lst l), .int i => R.ofO (atI l i) A
    | some (.rd l), .int i => R.ofO (atI l i) A
    | some (.dct kvs), k => match keyD k with
      | some k => R.ofO (lookD kvs k) A
      | none => .bad
    | _, _ => .bad
  | _, _ => .bad
def cutD {α : Type} (xs : List α) (lo hi : Option Int) : List α := (xs.drop (HT.sIx xs.length 0 lo)).take (HT.sIx xs.length xs.length hi - HT.sIx xs.length 0 lo)
def opSl (x : D) (lo hi : Option Int) (A : Hpp) : R D :=
  match x with
  | .tup l => .ok (.tup (cutD l lo hi)) A
  | .ref n => match A[n]? with
    | some (.lst l) => .ok (.ref A.length) (A ++ [.lst (cutD l lo hi)])
    | some (.rd l) => .ok (.ref A.length) (A ++ [.lst (cutD l lo hi)])
    | _ => .bad
  | .str s => if s.length ≤ sizeLine then .ok (.str (Txt.slice s lo hi)) A else .bad
  | _ => .bad
def opUpper (x : D) (A : Hpp) : R D := match x with | .str s => if s.length ≤ 5592405 then .ok (.str (Txt.upper s)) A else .bad | _ => .bad
/-- x[::-1] -/
def opRev (x : D) (A : Hpp) : R D :=
  match x with
  | .tup l => .ok (.tup l.reverse) A
  | .ref n => match A[n]? with
    | some (.lst l) => .ok (.ref A.length) (A ++ [.lst l.reverse])
    | _ => .bad
  | _ => .bad
/-- o[i] = v -/
def setIx (o i v : D) (A : Hpp) : R Unit :=
  match o with
  | .ref n => match A[n]? with
    | some (.dct kvs) => match keyD i with
      | some k => if kvs.length < sizeLine then .ok () (A.set n (.dct (putD kvs k v))) else .bad
      | none => .bad
    | some (.lst l) => match i with
      | .int k => match ixN l.length k with
        | some j => .ok () (A.set n (.lst (l.set j v)))
        | none => .bad
      | _ => .bad
    | _ => .bad
  | _ => .bad
/-! ### built-ins, by their values -/
def bLen : List D → Hpp → R D
  | [.tup l], A => .ok (.int l.length) A
  | [.str s], A => if s.length ≤ sizeLine then .ok (.int s.length) A else .bad
  | [.ref n], A => match A[n]? with
    | some (.lst l) => .ok (.int l.length) A
    | some (.rd l) => .ok (.int l.length) A
    | _ => .bad
  | _, _ => .bad
def bOrd : List D → Hpp → R D
  | [.str s], A => if s.length = 1 then .ok (.int (s.cps.getD 0 0 : Nat)) A else .bad
  | _, _ => .bad
def bRepr : List D → Hpp → R D
  | [d], A => match d.snap A deepest with
    | some p => if p.showable = true ∧ p.shown.length ≤ sizeLine ∧ p.depth ≤ deepest then .ok (.str p.shown) A else .bad
    | none => .bad
  | _, _ => .bad
def bTuple : List D → Hpp → R D
  | [.tup l], A => .ok (.tup l) A
  | [.ref n], A => match A[n]? with
    | some (.lst l) => .ok (.tup l) A
    | some (.rd l) => .ok (.tup l) A
    | _ => .bad
  | _, _ => .bad
def bList : List D → Hpp → R D
  | [.tup l], A => .ok (.ref A.length) (A ++ [.lst l])
  | [.ref n], A => match A[n]? with
    | some (.lst l) => .ok (.ref A.length) (A ++ [.lst l])
    | some (.rd l) => .ok (.ref A.length) (A ++ [.lst l])
    | _ => .bad
  | _, _ => .bad
def boolsD : List D → Option (List Bool)
  | [] => some []
  | .bl b :: r => (boolsD r).map (b :: ·)
  | _ => none
def bAll : List D → Hpp → R D
  | [.ref n], A => match A[n]? with
    | some (.lst l) => match boolsD l with
      | some bs => .ok (.bl (bs.all id)) A
      | none => .bad
    | _ => .bad
  | _, _ => .bad
def bAny : List D → Hpp → R D
  | [.ref n], A => match A[n]? with
    | some (.lst l) => match boolsD l with
      | some bs => .ok (.bl (bs.any id)) A
      | none => .bad
    | _ => .bad
  | _, _ => .bad
def intsD : List D → Option (List Int)
  | [] => some []
  | .int i :: r => (intsD r).map (i :: ·)
  | _ => none
/-- sum(x, start=0) -/
def bSumK : List D → List D → Hpp → R D
  | [.ref n], [.int 0], A => match A[n]? with
    | some (.lst l) => match intsD l with
      | some is => .ok (.int is.sum) A
      | none => .bad
    | _ => .bad
  | _, _, _ => .bad
def bMin2 : List D → Hpp → R D
  | [.int i, .int j], A => .ok (.int (if j < i then j else i)) A
  | _, _ => .bad
def bMax2 : List D → Hpp → R D
  | [.int i, .int j], A => .ok (.int (if j > i then j else i)) A
  | _, _ => .bad
def bInt : List D → Hpp → R D
  | [.int i], A => .ok (.int i) A
  | [.bl k], A => .ok (.int (if k then 1 else 0)) A
  | _, _ => .bad
def bStr : List D → Hpp → R D
  | [.int i], A => if i.natAbs.log2 < 1920 then .ok (.str (toString i)) A else .bad
  | [.bl k], A => .ok (.str (if k = true then "True" else "False")) A
  | _, _ => .bad
/-- isinstance against a built-in class -/
inductive Ty where
  | int | bool | str | tuple | list
  deriving DecidableEq
def Ty.name : Ty → String
  | .int => "int" | .bool => "bool" | .str => "str" | .tuple => "tuple" | .list => "list"
def opIsi (T : Ty) (d : D) (A : Hpp) : R D :=
  match d with
  | .non => .ok (.bl false) A
  | .bl _ => .ok (.bl (decide (T = .int ∨ T = .bool))) A
  | .int _ => .ok (.bl (decide (T = .int))) A
  | .str _ => .ok (.bl (decide (T = .str))) A
  | .tup _ => .ok (.bl (decide (T = .tuple))) A
  | .ref n => match A[n]? with
    | some (.lst _) => .ok (.bl (decide (T = .list))) A
    | some (.dct _) => .ok (.bl false) A
    | _ => .bad
  | .fn _ => .bad
/-- methods of built-in types, by the receiver and the arguments -/
def mAppend : D → List D → Hpp → R D
  | .ref n, [v], A => match A[n]? with
    | some (.lst l) => if l.length < sizeLine then .ok .non (A.set n (.lst (l ++ [v]))) else .bad
    | _ => .bad
  | _, _, _ => .bad
/-- x.extend(y) of two lists -/
def mExtend : D → List D → Hpp → R D
  | .ref n, [.ref k], A => match A[n]?, A[k]? with
    | some (.lst l), some (.lst r) => if l.length + r.length ≤ sizeLine then .ok .non (A.set n (.lst (l ++ r))) else .bad
    | _, _ => .bad
  | _, _, _ => .bad
def strsD : List D → Option (List Str)
  | [] => some []
  | .str s :: r => (strsD r).map (s :: ·)
  | _ => none
def joinOk (a : Str) (ys : List Str) : Prop := (ys.map Str.length).sum + ys.length * a.length ≤ 16777216
instance (a : Str) (ys : List Str) : Decidable (joinOk a ys) := by unfold joinOk; infer_instance
def mJoin : D → List D → Hpp → R D
  | .str a, [.ref n], A => match A[n]? with
    | some (.lst l) => match strsD l with
      | some ys => if joinOk a ys then .ok (.str (Txt.join a ys)) A else .bad
      | none => .bad
    | _ => .bad
  | .str a, [.tup l], A => match strsD l with
    | some ys => if joinOk a ys then .ok (.str (Txt.join a ys)) A else .bad
    | none => .bad
  | _, _, _ => .bad
/-! ### combinators: expressions -/
def mVar (i : Nat) : M := fun L A => match L[i]? with | some (some d) => .ok d A | _ => .bad
def mC (d : D) : M := fun _ A => .ok d A
def mUn (op : D → Hpp → R D) (a : M) : M := fun L A => (a L A).bind op
def mBin (op : D → D → Hpp → R D) (a b : M) : M := fun L A => (a L A).bind fun x A1 => (b L A1).bind fun y A2 => op x y A2
def mTest (a : M) : MB := fun L A => (a L A).bind fun x A1 => R.ofO (truth x A1) A1
def mAnd (a b : M) : M := fun L A => (a L A).bind fun x A1 => (R.ofO (truth x A1) A1).bind fun k A2 => if k = true then b L A2 else .ok x A2
def mOr (a b : M) : M := fun L A => (a L A).bind fun x A1 => (R.ofO (truth x A1) A1).bind fun k A2 => if k = true then .ok x A2 else b L A2
def mNot (a : M) : M := fun L A => (mTest a L A).bind fun k A1 => .ok (.bl (!k)) A1
def mIf (c a b : M) : M := fun L A => (mTest c L A).bind fun k A1 => if k = true then a L A1 else b L A1
/-- a op1 b op2 c -/
def mChain (op op' : D → D → Hpp → R D) (a b c : M) : M := fun L A => (a L A).bind fun x A1 => (b L A1).bind fun y A2 => (op x y A2).bind fun z A3 =>
  match z with
  | .bl true => (c L A3).bind fun w A4 => op' y w A4
  | .bl false => .ok (.bl false) A3
  | _ => .bad
def mNil : ML := fun _ A => .ok [] A
def mCons (a : M) (r : ML) : ML := fun L A => (a L A).bind fun x A1 => (r L A1).bind fun xs A2 => .ok (x :: xs) A2
def mTup (r : ML) : M := fun L A => (r L A).bind fun xs A1 => if xs.length ≤ sizeLine then .ok (.tup xs) A1 else .bad
def mLst (r : ML) : M := fun L A => (r L A).bind fun xs A1 => if xs.length ≤ sizeLine then .ok (.ref A1.length) (A1 ++ [.lst xs]) else .bad
def mB (op : List D → Hpp → R D) (r : ML) : M := fun L A => (r L A).bind op
def mBK (op : List D → List D → Hpp → R D) (r k : ML) : M := fun L A => (r L A).bind fun xs A1 => (k L A1).bind fun ys A2 => op xs ys A2
def isLst (d : D) (A : Hpp) : Bool := match d with | .ref n => (match A[n]? with | some (.lst _) => true | _ => false) | _ => false
def isStrD (d : D) (_ : Hpp) : Bool := match d with | .str _ => true | _ => false
def isDct (d : D) (A : Hpp) : Bool := match d with | .ref n => (match A[n]? with | some (.dct _) => true | _ => false) | _ => false
/-- a method of a built-in type: what the receiver must be is asked ahead of the arguments -/
def mMeth (pre : D → Hpp → Bool) (op : D → List D → Hpp → R D) (o : M) (r : ML) : M := fun L A => (o L A).bind fun x A1 => if pre x A1 = true then (r L A1).bind fun xs A2 => op x xs A2 else .bad
abbrev MO := Loc → Hpp → R (Option Int)
def oNone : MO := fun _ A => .ok none A
def oSome (a : M) : MO := fun L A => (a L A).bind fun x A1 => match x with | .int i => .ok (some i) A1 | _ => .bad
def mSlice (a : M) (lo hi : MO) : M := fun L A => (a L A).bind fun x A1 => (lo L A1).bind fun l A2 => (hi L A2).bind fun h A3 => opSl x l h A3
/-- {k: v, ..} -/
def mPairs : List (M × M) → Loc → Hpp → R (List (D × D))
  | [], _, A => .ok [] A
  | kv :: r, L, A => (kv.1 L A).bind fun x A1 => (kv.2 L A1).bind fun y A2 => (mPairs r L A2).bind fun t A3 => .ok ((x, y) :: t) A3
def keysD : List (D × D) → Option (List (Key × D))
  | [] => some []
  | kv :: r => match keyD kv.1, keysD r with
    | some k, some t => some ((k, kv.2) :: t)
    | _, _ => none
def mergeD (more : List (Key × D)) : List (Key × D) := more.foldl (fun acc kv => putD acc kv.1 kv.2) []
def pairD : D → Option (D × D)
  | .tup [a, b] => some (a, b)
  | _ => none
/-- dict(xs) of a list of pairs -/
def bDict : List D → Hpp → R D
  | [.ref n], A => match A[n]? with
    | some (.lst l) => match (optAll (l.map pairD)).bind keysD with
      | some kvs => .ok (.ref A.length) (A ++ [.dct (mergeD kvs)])
      | none => .bad
    | _ => .bad
  | _, _ => .bad
def mDict (ps : List (M × M)) : M := fun L A => (mPairs ps L (A ++ [.dct []])).bind fun kvs A1 => match keysD kvs with
  | some l => if l.length ≤ 15 ∧ A1[A.length]? = some (.dct []) then .ok (.ref A.length) (A1.set A.length (.dct (mergeD l))) else .bad
  | none => .bad
/-- how the parameters are filled: a positional value, a keyword's, a default -/
inductive G where
  | pos (j : Nat) | kw (j : Nat) | df (d : D)
def gather (gs : List G) (us ws : List D) : Option (List D) := optAll (gs.map fun
  | .pos j => us[j]?
  | .kw j => ws[j]?
  | .df d => some d)
def mCallV (c : List D → Hpp → R D) (n m : Nat) (gs : List G) (r k : ML) : M := fun L A => (r L A).bind fun us A1 => (k L A1).bind fun ws A2 =>
  if us.length = n ∧ ws.length = m then match gather gs us ws with
    | some vs => c vs A2
    | none => .bad
  else .bad
def mCall (F : FE) (i n m : Nat) (gs : List G) (r k : ML) : M := mCallV (F i) n m gs r k
/-- a call of what a name holds: one of these defs -/
def mCallX (tab : List (Str × List G × (List D → Hpp → R D))) (n : Nat) (fe : M) (r : ML) : M := fun L A => (fe L A).bind fun f A1 => (r L A1).bind fun us A2 => match f with
  | .fn x => match tab.find? (fun t => decide (t.1 = x)) with
    | some t => if us.length = n then (match gather t.2.1 us [] with
      | some vs => t.2.2 vs A2
      | none => .bad) else .bad
    | none => .bad
  | _ => .bad
/-- x in P, x not in P, P[x] of a dict of the module with text keys -/
def mGIn (neg : Bool) (ks : List Str) (a : M) : M := fun L A => (a L A).bind fun x A1 => match x with
  | .str z => .ok (.bl (if neg = true then !decide (z ∈ ks) else decide (z ∈ ks))) A1
  | _ => .bad
def mGIx (kvs : List (Str × D)) (a : M) : M := fun L A => (a L A).bind fun x A1 => match x with
  | .str z => match kvs.find? (fun p => decide (p.1 = z)) with
    | some p => .ok p.2 A1
    | none => .bad
  | _ => .bad
/-! ### targets, sources, comprehensions -/
abbrev T := D → Loc → Hpp → R Loc
def gVar (i : Nat) : T := fun d L A => .ok (L.set i (some d)) A
abbrev TL := List D → Loc → Hpp → R Loc
def gNil' : TL := fun ds L A => match ds with | [] => .ok L A | _ => .bad
def gCons' (t : T) (u : TL) : TL := fun ds L A => match ds with | d :: r => (t d L A).bind fun L1 A1 => u r L1 A1 | [] => .bad
/-- the items of a tuple or a list -/
def seqOf (d : D) (A : Hpp) : Option (List D) := match d with
  | .tup l => some l
  | .ref n => match A[n]? with
    | some (.lst l) => some l
    | some (.rd l) => some l
    | _ => none
  | _ => none
def gTup' (u : TL) : T := fun d L A => match seqOf d A with | some ds => u ds L A | none => .bad
def gTupT' (u : TL) : T := fun d L A => match d with | .tup ds => u ds L A | _ => .bad
/-- a, .., *b, .., c = .. : so many ahead of the star, so many behind -/
def gStar' (a b : Nat) (u : TL) : T := fun d L A => match seqOf d A with
  | some ds => if a + b ≤ ds.length then u (ds.take a ++ [.ref A.length] ++ ds.drop (ds.length - b)) L (A ++ [.lst ((ds.drop a).take (ds.length - a - b))]) else .bad
  | none => .bad
def gSub' (o i : M) : T := fun d L A => (o L A).bind fun ov A1 => (i L A1).bind fun iv A2 => (setIx ov iv d A2).bind fun _ A3 => .ok L A3
/-- what is walked -/
inductive Src where
  | lst (n : Nat) (l : List D) | its (l : List D) | zs (ps : List (Nat × List D)) (l : List D)
abbrev MS := Loc → Hpp → R Src
def Src.items : Src → List D
  | .lst _ l => l
  | .its l => l
  | .zs _ l => l
def Src.still (A : Hpp) : Src → Bool
  | .lst n l => decide (A[n]? = some (.lst l) ∨ A[n]? = some (.rd l))
  | .its _ => true
  | .zs ps _ => ps.all fun p => decide (A[p.1]? = some (.lst p.2))
def srcSeq (a : M) : MS := fun L A => (a L A).bind fun x A1 => match x with
  | .tup l => .ok (.its l) A1
  | .ref n => match A1[n]? with
    | some (.lst l) => .ok (.lst n l) A1
    | some (.rd l) => .ok (.lst n l) A1
    | _ => .bad
  | .str s => .ok (.its (s.cps.toList.map fun c => .str ⟨#[c]⟩)) A1
  | _ => .bad
def rangeD (lo : Int) (n : Nat) : List D := (List.range n).map fun (i : Nat) => D.int (lo + (i : Int))
def okEnd (j : Int) : Prop := -(2 ^ 62) ≤ j ∧ j < 2 ^ 62
instance (j : Int) : Decidable (okEnd j) := by unfold okEnd; infer_instance
def srcRange1 (a : M) : MS := fun L A => (a L A).bind fun x A1 => match x with
  | .int j => if okEnd j then .ok (.its (rangeD 0 j.toNat)) A1 else .bad
  | _ => .bad
def srcRange2 (a b : M) : MS := fun L A => (a L A).bind fun x A1 => (b L A1).bind fun y A2 => match x, y with
  | .int i, .int j => if okEnd i ∧ okEnd j then .ok (.its (rangeD i (j - i).toNat)) A2 else .bad
  | _, _ => .bad
/-- lo, lo + c, .. -/
def rangeC (lo c : Int) (n : Nat) : List D := (List.range n).map fun (i : Nat) => D.int (lo + (i : Int) * c)
instance (i j c : Int) (n : Nat) : Decidable (RgC i j c n) := by unfold RgC; infer_instance
def srcRange3 (a b c : M) : MS := fun L A => (a L A).bind fun x A1 => (b L A1).bind fun y A2 => (c L A2).bind fun z A3 => match x, y, z with
  | .int i, .int j, .int k => if RgC i j k (Builtin.Range.rangeSize i j k).toNat then .ok (.its (rangeC i k (Builtin.Range.rangeSize i j k).toNat)) A3 else .bad
  | _, _, _ => .bad
def zipD (xs ys : List D) : List D := (xs.zip ys).map fun p => .tup [p.1, p.2]
/-- the items of what zip walks, and the lists that have to stay -/
def zipOp (d : D) (A : Hpp) : Option (List D × List (Nat × List D)) := match d with
  | .tup l => some (l, [])
  | .ref n => match A[n]? with
    | some (.lst l) => some (l, [(n, l)])
    | _ => none
  | _ => none
/-- zip(a, b, strict=True) of two of one length -/
def srcZipS (a b : M) : MS := fun L A => (a L A).bind fun x A1 => (b L A1).bind fun y A2 => match zipOp x A2, zipOp y A2 with
  | some xs, some ys => if xs.1.length = ys.1.length then .ok (.zs (xs.2 ++ ys.2) (zipD xs.1 ys.1)) A2 else .bad
  | _, _ => .bad
instance (a b : Int) : Decidable (RgOk a b) := by unfold RgOk; infer_instance
/-- tuple(range(..)), list(range(..)) -/
def rgD (tup : Bool) (i j : Int) (A : Hpp) : R D := if RgOk i j then (if tup = true then .ok (.tup (rangeD i (j - i).toNat)) A else .ok (.ref A.length) (A ++ [.lst (rangeD i (j - i).toNat)])) else .bad
def mRg1 (tup : Bool) (a : M) : M := fun L A => (a L A).bind fun x A1 => match x with | .int j => rgD tup 0 j A1 | _ => .bad
def mRg2 (tup : Bool) (a b : M) : M := fun L A => (a L A).bind fun x A1 => (b L A1).bind fun y A2 => match x, y with | .int i, .int j => rgD tup i j A2 | _, _ => .bad
def wipeL (L : Loc) : List Nat → Loc
  | [] => L
  | v :: vs => (wipeL L vs).set v none
/-- a comprehension's turns: the new list stands at n -/
def lcLoop (src : Src) (n : Nat) (t : T) (c : MB) (e : M) (L : Loc) : List D → Hpp → R Unit
  | [], A => if src.still A then .ok () A else .bad
  | d :: r, A => if src.still A then (t d L A).bind fun L1 A1 => (c L1 A1).bind fun k A2 =>
      if k = true then (e L1 A2).bind fun x A3 => match A3[n]? with
        | some (.lst acc) => if acc.length < sizeLine then lcLoop src n t c e L r (A3.set n (.lst (acc ++ [x]))) else .bad
        | _ => .bad
      else lcLoop src n t c e L r A2
    else .bad
def mLc (s : MS) (t : T) (c : MB) (e : M) (own : List Nat) : M := fun L A => (s L A).bind fun src A1 =>
  (lcLoop src A1.length t c e (wipeL L own) src.items (A1 ++ [.lst []])).bind fun _ A2 => .ok (.ref A1.length) A2
def mYes : MB := fun _ A => .ok true A
def mBoth (a b : MB) : MB := fun L A => (a L A).bind fun k A1 => if k = true then b L A1 else .ok false A1
/-! ### statements -/
def sNil : S := fun L A => .ok (.nx L) A
def sSeq (a b : S) : S := fun L A => (a L A).bind fun o A1 => match o with
  | .nx L1 => b L1 A1
  | o => .ok o A1
def sRet (a : M) : S := fun L A => (a L A).bind fun d A1 => .ok (.rt d) A1
def sRetN : S := fun _ A => .ok (.rt .non) A
def sDrop (a : M) : S := fun L A => (a L A).bind fun _ A1 => .ok (.nx L) A1
def sAsg (a : M) (t : T) : S := fun L A => (a L A).bind fun d A1 => (t d L A1).bind fun L1 A2 => .ok (.nx L1) A2
/-- a, b = x, y: no pair is made -/
def sPar (i j : Nat) (r : ML) : S := fun L A => (r L A).bind fun vs A1 => match vs with
  | [v, w] => .ok (.nx ((L.set i (some v)).set j (some w))) A1
  | _ => .bad
def sPar3 (i j l : Nat) (r : ML) : S := fun L A => (r L A).bind fun vs A1 => match vs with
  | [v, w, u] => .ok (.nx (((L.set i (some v)).set j (some w)).set l (some u))) A1
  | _ => .bad
def sIf (c : M) (a b : S) : S := fun L A => (mTest c L A).bind fun k A1 => if k = true then a L A1 else b L A1
def sBad : S := fun _ _ => .bad
def sBreak : S := fun L A => .ok (.bk L) A
def sCont : S := fun L A => .ok (.ct L) A
def forLoop (src : Src) (t : T) (b : S) : List D → S
  | [], L, A => if src.still A then .ok (.nx L) A else .bad
  | d :: r, L, A => if src.still A then (t d L A).bind fun L1 A1 => (b L1 A1).bind fun o A2 => match o with
      | .nx L2 => forLoop src t b r L2 A2
      | .ct L2 => forLoop src t b r L2 A2
      | .bk L2 => .ok (.nx L2) A2
      | .rt v => .ok (.rt v) A2
    else .bad
def sFor (s : MS) (t : T) (b : S) : S := fun L A => (s L A).bind fun src A1 => forLoop src t b src.items L A1
def whileLoop (c : M) (b : S) : Nat → S
  | 0, _, _ => .bad
  | n + 1, L, A => (mTest c L A).bind fun k A1 => if k = true then (b L A1).bind fun o A2 => match o with
      | .nx L2 => whileLoop c b n L2 A2
      | .ct L2 => whileLoop c b n L2 A2
      | .bk L2 => .ok (.nx L2) A2
      | .rt v => .ok (.rt v) A2
    else .ok (.nx L) A1
def turnsMost : Nat := 1000000
def sWhile (c : M) (b : S) : S := whileLoop c b turnsMost
def sAug (op : D → D → Hpp → R D) (i : Nat) (a : M) : S := fun L A => (mVar i L A).bind fun x A1 => (a L A1).bind fun y A2 => (op x y A2).bind fun z A3 => .ok (.nx (L.set i (some z))) A3
/-! ### calls -/
/-- what a call leaves: new places that nothing needs are dropped -/
def gcR (A : Hpp) (d : D) (A' : Hpp) : R D :=
  if A'.length ≤ A.length then .ok d A'
  else if D.low 0 d = true ∧ A'.take A.length = A then .ok d A
  else if D.low A.length d = true ∧ (A'.take A.length).all (HOb.low A.length) = true then .ok d (A'.take A.length)
  else match d with
    | .ref k => match A'[k]? with
      | some o => if A.length ≤ k ∧ o.low A.length = true ∧ (A'.take A.length).all (HOb.low A.length) = true then .ok (.ref A.length) (A'.take A.length ++ [o]) else .ok d A'
      | none => .ok d A'
    | _ => .ok d A'
def enter (k : Nat) (b : S) (args : List D) (A : Hpp) : R D :=
  match b (args.map some ++ List.replicate (k - args.length) none) A with
  | .ok (.nx _) A' => gcR A .non A'
  | .ok (.rt d) A' => gcR A d A'
  | .ok _ _ => .bad
  | .ex c fs A' => .ex c fs A'
  | .bad => .bad
/-- a def's call: so many names, so many parameters -/
def run (k p : Nat) (b : S) : List D → Hpp → R D := fun args A => if args.length = p then enter k b args A else .bad
/-- a program: for each def how many names it has, its parameters' number, its body -/
structure Fn where
  names : Nat
  pars : Nat
  body : FE → S
def FF (P : Nat → Option Fn) : Nat → FE
  | 0, _, _, _ => .bad
  | n + 1, i, args, A => match P i with
    | some f => run f.names f.pars (f.body (FF P n)) args A
    | none => .bad
end Rf
namespace Rf
open PySem L2
section
variable (K : PySem.W.Frag)
/-- a tuple stands at p -/
def TupAt (H : Hp) (p : Addr) (vs : List V) : Prop := H p = some (.tup vs) ∨
  ∃ (o : Obj) (its : Array Value) (n : Nat), K.lookup p = some o ∧ o.cls = .type "tuple" ∧ o.data = .seq its n ∧ its.size ≤ sizeLine ∧ Vals vs its.toList
/-- a list that is only read -/
def RdAt (H : Hp) (p : Addr) (vs : List V) : Prop := (∃ o, H p = some (.frz o (.lst vs))) ∨
  ∃ (o : Obj) (its : Array Value) (n : Nat), K.lookup p = some o ∧ o.cls = .type "list" ∧ o.dict = none ∧ o.data = .seq its n ∧ its.size ≤ sizeLine ∧ Vals vs its.toList
end
theorem TupAt.sq {K : PySem.W.Frag} {H : Hp} {p : Addr} {vs : List V} (h : TupAt K H p vs) : SqT K H p vs := by
  rcases h with h | h
  · exact .inl (.inl h)
  · exact .inr h
theorem RdAt.sq {K : PySem.W.Frag} {H : Hp} {p : Addr} {vs : List V} (h : RdAt K H p vs) : SqL K H p vs := by
  rcases h with h | h
  · exact .inl (.inr h)
  · exact .inr h
mutual
def Rep (K : PySem.W.Frag) (H : Hp) (m : List Addr) : D → V → Prop
  | .non, v => v = .non
  | .bl b, v => v = .bl b
  | .int i, v => v = .int i
  | .str s, v => v = .str s
  | .tup ds, v => ∃ p vs, v = .ref p ∧ TupAt K H p vs ∧ RepL K H m ds vs
  | .ref n, v => ∃ a, m[n]? = some a ∧ v = .ref a
  | .fn x, v => ∃ f, PySem.W.nsIn K mainGlobals x = some (some (.ref f)) ∧ v = .ref f
def RepL (K : PySem.W.Frag) (H : Hp) (m : List Addr) : List D → List V → Prop
  | [], vs => vs = []
  | d :: ds, vs => ∃ v r, vs = v :: r ∧ Rep K H m d v ∧ RepL K H m ds r
end
/-- tuples stay -/
def Keep (H H' : Hp) : Prop := ∀ p vs, H p = some (.tup vs) → H' p = some (.tup vs)
theorem Keep.refl (H : Hp) : Keep H H := fun _ _ h => h
theorem Keep.trans {H H1 H2 : Hp} (a : Keep H H1) (b : Keep H1 H2) : Keep H H2 := fun p vs h => b p vs (a p vs h)
theorem Keep.new {H : Hp} {p : Addr} {o : HO} (h : H p = none) : Keep H (upd H p o) := fun q vs e => by rw [upd_ne (ne_of_none e h)]; exact e
theorem Keep.write {H : Hp} {p : Addr} {o u : HO} (h : H p = some u) (hu : ∀ vs, u ≠ .tup vs) : Keep H (upd H p o) := fun q vs e => by
  have : q ≠ p := fun z => by subst z; rw [h] at e; cases e; exact hu vs rfl
  rw [upd_ne this]; exact e
theorem TupAt.mono {K : PySem.W.Frag} {H H' : Hp} {p : Addr} {vs : List V} (k : Keep H H') (h : TupAt K H p vs) : TupAt K H' p vs := by
  rcases h with h | h
  · exact .inl (k _ _ h)
  · exact .inr h
abbrev Pre (m m' : List Addr) : Prop := m <+: m'
theorem Pre.get {m m' : List Addr} (h : m <+: m') {n : Nat} {a : Addr} (e : m[n]? = some a) : m'[n]? = some a := by
  obtain ⟨t, rfl⟩ := h
  rw [List.getElem?_append_left (by exact (List.getElem?_eq_some_iff.mp e).1)]; exact e
section
variable {K : PySem.W.Frag} {H H' : Hp} {m m' : List Addr}
mutual
theorem Rep.mono (k : Keep H H') (p : m <+: m') : ∀ (d : D) (v : V), Rep K H m d v → Rep K H' m' d v
  | .non, v, h => by simpa [Rep] using h
  | .bl _, v, h => by simpa [Rep] using h
  | .int _, v, h => by simpa [Rep] using h
  | .str _, v, h => by simpa [Rep] using h
  | .tup ds, v, h => by
    simp only [Rep] at h ⊢
    obtain ⟨q, vs, e, t, r⟩ := h
    exact ⟨q, vs, e, t.mono k, RepL.mono k p ds vs r⟩
  | .ref n, v, h => by
    simp only [Rep] at h ⊢
    obtain ⟨a, e, r⟩ := h
    exact ⟨a, Pre.get p e, r⟩
  | .fn _, v, h => by simpa [Rep] using h
theorem RepL.mono (k : Keep H H') (p : m <+: m') : ∀ (ds : List D) (vs : List V), RepL K H m ds vs → RepL K H' m' ds vs
  | [], vs, h => by simpa [RepL] using h
  | d :: ds, vs, h => by
    simp only [RepL] at h ⊢
    obtain ⟨v, r, e, a, b⟩ := h
    exact ⟨v, r, e, Rep.mono k p d v a, RepL.mono k p ds r b⟩
end
mutual
/-- places below n need only the first n -/
theorem Rep.cut {n : Nat} : ∀ (d : D) (v : V), d.low n = true → Rep K H m d v → Rep K H (m.take n) d v
  | .non, v, _, h => by simpa [Rep] using h
  | .bl _, v, _, h => by simpa [Rep] using h
  | .int _, v, _, h => by simpa [Rep] using h
  | .str _, v, _, h => by simpa [Rep] using h
  | .tup ds, v, l, h => by
    simp only [Rep] at h ⊢
    simp only [D.low] at l
    obtain ⟨q, vs, e, t, r⟩ := h
    exact ⟨q, vs, e, t, RepL.cut ds vs l r⟩
  | .ref k, v, l, h => by
    simp only [Rep] at h ⊢
    simp only [D.low, decide_eq_true_eq] at l
    obtain ⟨a, e, r⟩ := h
    exact ⟨a, by rw [List.getElem?_take_of_lt l]; exact e, r⟩
  | .fn _, v, _, h => by simpa [Rep] using h
theorem RepL.cut {n : Nat} : ∀ (ds : List D) (vs : List V), D.lowL n ds = true → RepL K H m ds vs → RepL K H (m.take n) ds vs
  | [], vs, _, h => by simpa [RepL] using h
  | d :: ds, vs, l, h => by
    simp only [RepL] at h ⊢
    simp only [D.lowL, Bool.and_eq_true] at l
    obtain ⟨v, r, e, a, b⟩ := h
    exact ⟨v, r, e, Rep.cut d v l.1 a, RepL.cut ds r l.2 b⟩
end
mutual
theorem Rep.low : ∀ (d : D) (v : V), Rep K H m d v → d.low m.length = true
  | .non, v, _ => rfl
  | .bl _, v, _ => rfl
  | .int _, v, _ => rfl
  | .str _, v, _ => rfl
  | .tup ds, v, h => by
    simp only [Rep] at h
    simp only [D.low]
    obtain ⟨q, vs, e, t, r⟩ := h
    exact RepL.low ds vs r
  | .ref k, v, h => by
    simp only [Rep] at h
    simp only [D.low, decide_eq_true_eq]
    obtain ⟨a, e, r⟩ := h
    exact (List.getElem?_eq_some_iff.mp e).1
  | .fn _, v, _ => rfl
theorem RepL.low : ∀ (ds : List D) (vs : List V), RepL K H m ds vs → D.lowL m.length ds = true
  | [], vs, _ => rfl
  | d :: ds, vs, h => by
    simp only [RepL] at h
    simp only [D.lowL, Bool.and_eq_true]
    obtain ⟨v, r, e, a, b⟩ := h
    exact ⟨Rep.low d v a, RepL.low ds r b⟩
end
theorem RepL.length : ∀ {ds : List D} {vs : List V}, RepL K H m ds vs → vs.length = ds.length
  | [], vs, h => by simp only [RepL] at h; subst h; rfl
  | d :: ds, vs, h => by
    simp only [RepL] at h
    obtain ⟨v, r, rfl, a, b⟩ := h
    simp [RepL.length b]
theorem RepL.get : ∀ {ds : List D} {vs : List V}, RepL K H m ds vs → ∀ {i : Nat} {d : D}, ds[i]? = some d → ∃ v, vs[i]? = some v ∧ Rep K H m d v
  | [], vs, h, i, d, e => by simp at e
  | c :: ds, vs, h, i, d, e => by
    simp only [RepL] at h
    obtain ⟨v, r, rfl, a, b⟩ := h
    cases i with
    | zero => simp at e; subst e; exact ⟨v, rfl, a⟩
    | succ j => simpa using RepL.get b (by simpa using e)
theorem RepL.of_get : ∀ {ds : List D} {vs : List V}, ds.length = vs.length → (∀ (i : Nat) (d : D) (v : V), ds[i]? = some d → vs[i]? = some v → Rep K H m d v) → RepL K H m ds vs
  | [], [], _, _ => rfl
  | [], _ :: _, h, _ => by simp at h
  | _ :: _, [], h, _ => by simp at h
  | d :: ds, v :: vs, h, g => ⟨v, vs, rfl, g 0 d v rfl rfl, RepL.of_get (by simpa using h) fun i d v a b => g (i + 1) d v (by simpa using a) (by simpa using b)⟩
theorem RepL.append : ∀ {ds es : List D} {vs us : List V}, RepL K H m ds vs → RepL K H m es us → RepL K H m (ds ++ es) (vs ++ us)
  | [], es, vs, us, h, g => by simp only [RepL] at h; subst h; exact g
  | d :: ds, es, vs, us, h, g => by
    simp only [RepL] at h
    obtain ⟨v, r, rfl, a, b⟩ := h
    exact ⟨v, r ++ us, rfl, a, RepL.append b g⟩
theorem RepL.take : ∀ {ds : List D} {vs : List V} (n : Nat), RepL K H m ds vs → RepL K H m (ds.take n) (vs.take n)
  | _, _, 0, _ => by simp [RepL]
  | [], vs, n + 1, h => by simp only [RepL] at h; subst h; simp [RepL]
  | d :: ds, vs, n + 1, h => by
    simp only [RepL] at h
    obtain ⟨v, r, rfl, a, b⟩ := h
    exact ⟨v, r.take n, rfl, a, RepL.take n b⟩
theorem RepL.drop : ∀ {ds : List D} {vs : List V} (n : Nat), RepL K H m ds vs → RepL K H m (ds.drop n) (vs.drop n)
  | _, _, 0, h => h
  | [], vs, n + 1, h => by simp only [RepL] at h; subst h; simp [RepL]
  | d :: ds, vs, n + 1, h => by
    simp only [RepL] at h
    obtain ⟨v, r, rfl, a, b⟩ := h
    exact RepL.drop n b
theorem RepL.one {d : D} {vs : List V} (h : RepL K H m [d] vs) : ∃ v, vs = [v] ∧ Rep K H m d v := by
  simp only [RepL] at h
  obtain ⟨v, r, rfl, a, rfl⟩ := h
  exact ⟨v, rfl, a⟩
theorem RepL.two {d e : D} {vs : List V} (h : RepL K H m [d, e] vs) : ∃ v u, vs = [v, u] ∧ Rep K H m d v ∧ Rep K H m e u := by
  simp only [RepL] at h
  obtain ⟨v, r, rfl, a, u, q, rfl, b, rfl⟩ := h
  exact ⟨v, u, rfl, a, b⟩
theorem RepL.single {d : D} {v : V} (h : Rep K H m d v) : RepL K H m [d] [v] := ⟨v, [], rfl, h, rfl⟩
theorem RepL.flat : ∀ {ds : List D} {vs : List V} (k : Nat), RepL K H m ds vs → RepL K H m (List.replicate k ds).flatten (List.replicate k vs).flatten
  | _, _, 0, _ => by simp [RepL]
  | ds, vs, k + 1, h => by
    rw [List.replicate_succ, List.replicate_succ, List.flatten_cons, List.flatten_cons]
    exact RepL.append h (RepL.flat k h)
end
/-- pairs of a dict -/
def RepK (K : PySem.W.Frag) (H : Hp) (m : List Addr) : List (Key × D) → List (Key × V) → Prop
  | [], l => l = []
  | kd :: r, l => ∃ v t, l = (kd.1, v) :: t ∧ Rep K H m kd.2 v ∧ RepK K H m r t
section
variable {K : PySem.W.Frag} {H H' : Hp} {m m' : List Addr}
theorem RepK.mono (k : Keep H H') (p : m <+: m') : ∀ (ds : List (Key × D)) (vs : List (Key × V)), RepK K H m ds vs → RepK K H' m' ds vs
  | [], vs, h => h
  | d :: ds, vs, h => by
    obtain ⟨v, r, e, a, b⟩ := h
    exact ⟨v, r, e, Rep.mono k p _ v a, RepK.mono k p ds r b⟩
theorem RepK.vals : ∀ (ds : List (Key × D)) (vs : List (Key × V)), RepK K H m ds vs → RepL K H m (ds.map (·.2)) (vs.map (·.2))
  | [], vs, h => by cases h; exact rfl
  | d :: ds, vs, h => by
    obtain ⟨v, r, rfl, a, b⟩ := h
    exact ⟨v, _, rfl, a, RepK.vals ds r b⟩
theorem RepK.keys : ∀ (ds : List (Key × D)) (vs : List (Key × V)), RepK K H m ds vs → vs.map (·.1) = ds.map (·.1)
  | [], vs, h => by cases h; exact rfl
  | d :: ds, vs, h => by
    obtain ⟨v, r, rfl, a, b⟩ := h
    simp [RepK.keys ds r b]
theorem RepK.length {ds : List (Key × D)} {vs : List (Key × V)} (h : RepK K H m ds vs) : vs.length = ds.length := by
  have := congrArg List.length (RepK.keys ds vs h)
  simpa using this
theorem RepK.of : ∀ {ds : List (Key × D)} {vs : List V}, RepL K H m (ds.map (·.2)) vs → RepK K H m ds ((ds.map (·.1)).zip vs)
  | [], vs, h => by cases h; exact rfl
  | d :: ds, vs, h => by
    obtain ⟨v, r, rfl, a, b⟩ := h
    exact ⟨v, _, rfl, a, RepK.of b⟩
theorem RepK.cut {n : Nat} : ∀ (ds : List (Key × D)) (vs : List (Key × V)), D.lowL n (ds.map (·.2)) = true → RepK K H m ds vs → RepK K H (m.take n) ds vs
  | [], vs, _, h => h
  | d :: ds, vs, l, h => by
    obtain ⟨v, r, e, a, b⟩ := h
    simp only [List.map_cons, D.lowL, Bool.and_eq_true] at l
    exact ⟨v, r, e, Rep.cut _ v l.1 a, RepK.cut ds r l.2 b⟩
theorem RepK.look (k : Key) : ∀ {ds : List (Key × D)} {vs : List (Key × V)}, RepK K H m ds vs → match lookD ds k with
    | some d => ∃ v, valV vs k = some v ∧ Rep K H m d v
    | none => valV vs k = none
  | [], vs, h => by cases h; rfl
  | (j, d) :: ds, vs, h => by
    obtain ⟨v, r, rfl, a, b⟩ := h
    by_cases e : j = k
    · subst e
      have : lookD ((j, d) :: ds) j = some d := by simp [lookD]
      rw [this]
      exact ⟨v, valV_pos rfl, a⟩
    · have e1 : lookD ((j, d) :: ds) k = lookD ds k := by simp [lookD, e]
      have e2 : valV ((j, v) :: r) k = valV r k := valV_neg e
      rw [e1, e2]
      exact RepK.look k b
theorem RepK.map (k : Key) {d : D} {v : V} (r : Rep K H m d v) : ∀ {ds : List (Key × D)} {vs : List (Key × V)}, RepK K H m ds vs →
    RepK K H m (ds.map fun kv => if kv.1 = k then (kv.1, d) else kv) (vs.map fun kv => if kv.1 = k then (kv.1, v) else kv)
  | [], vs, h => by cases h; exact rfl
  | (j, c) :: ds, vs, h => by
    obtain ⟨u, t, rfl, a, b⟩ := h
    by_cases e : j = k
    · subst e
      simp only [List.map_cons, if_pos]
      exact ⟨v, _, rfl, r, RepK.map j r b⟩
    · simp only [List.map_cons, if_neg e]
      exact ⟨u, _, rfl, a, RepK.map k r b⟩
theorem RepK.app {k : Key} {d : D} {v : V} (r : Rep K H m d v) : ∀ {ds : List (Key × D)} {vs : List (Key × V)}, RepK K H m ds vs → RepK K H m (ds ++ [(k, d)]) (vs ++ [(k, v)])
  | [], vs, h => by cases h; exact ⟨v, [], rfl, r, rfl⟩
  | _ :: ds, vs, h => by
    obtain ⟨u, t, rfl, a, b⟩ := h
    exact ⟨u, _, rfl, a, RepK.app r b⟩
theorem RepK.any (k : Key) : ∀ {ds : List (Key × D)} {vs : List (Key × V)}, RepK K H m ds vs → (vs.any fun kv => decide (kv.1 = k)) = (ds.any fun kv => decide (kv.1 = k))
  | [], vs, h => by cases h; rfl
  | _ :: ds, vs, h => by
    obtain ⟨u, t, rfl, a, b⟩ := h
    simp [RepK.any k b]
theorem RepK.put (k : Key) {d : D} {v : V} (r : Rep K H m d v) {ds : List (Key × D)} {vs : List (Key × V)} (h : RepK K H m ds vs) : RepK K H m (putD ds k d) (putK vs k v) := by
  unfold putD putK
  rw [h.any k]
  split
  · exact h.map k r
  · exact h.app r
end
/-- what stands at a place of the small heap -/
def ObR (K : PySem.W.Frag) (H : Hp) (m : List Addr) (a : Addr) : HOb → Prop
  | .lst ds => ∃ vs, H a = some (.lst vs) ∧ RepL K H m ds vs
  | .rd ds => ∃ vs, RdAt K H a vs ∧ RepL K H m ds vs
  | .dct kvs => ∃ vs, H a = some (.dK vs) ∧ RepK K H m kvs vs
def HOb.mut : HOb → Bool
  | .rd _ => false
  | _ => true
structure HR (K : PySem.W.Frag) (H : Hp) (m : List Addr) (A : Hpp) : Prop where
  len : m.length = A.length
  inj : ∀ (i j : Nat) (a : Addr) (o u : HOb), m[i]? = some a → m[j]? = some a → A[i]? = some o → A[j]? = some u → o.mut = true → u.mut = true → i = j
  at_ : ∀ (i : Nat) (a : Addr) (o : HOb), m[i]? = some a → A[i]? = some o → ObR K H m a o
theorem HR.addr {K : PySem.W.Frag} {H : Hp} {m : List Addr} {A : Hpp} (h : HR K H m A) {n : Nat} {o : HOb} (e : A[n]? = some o) : ∃ a, m[n]? = some a := by
  have hl : n < m.length := by rw [h.len]; exact (List.getElem?_eq_some_iff.mp e).1
  exact ⟨m[n], List.getElem?_eq_getElem hl⟩
theorem ObR.mono {K : PySem.W.Frag} {H H' : Hp} {m m' : List Addr} {a : Addr} {o : HOb} (k : Keep H H') (p : m <+: m') (hs : o.mut = true → H' a = H a) (hr : ∀ u xs, H a = some (.frz u xs) → H' a = some (.frz u xs)) (h : ObR K H m a o) : ObR K H' m' a o := by
  cases o with
  | lst ds =>
    obtain ⟨vs, e, r⟩ := h
    exact ⟨vs, (hs rfl).trans e, RepL.mono k p _ _ r⟩
  | rd ds =>
    obtain ⟨vs, e, r⟩ := h
    refine ⟨vs, ?_, RepL.mono k p _ _ r⟩
    rcases e with ⟨u, e⟩ | e
    · exact .inl ⟨u, hr _ _ e⟩
    · exact .inr e
  | dct kvs =>
    obtain ⟨vs, e, r⟩ := h
    exact ⟨vs, (hs rfl).trans e, RepK.mono k p _ _ r⟩
theorem ObR.mutSome {K : PySem.W.Frag} {H : Hp} {m : List Addr} {a : Addr} {o : HOb} (h : ObR K H m a o) (e : o.mut = true) : ∃ u, H a = some u ∧ (∀ vs, u ≠ .tup vs) ∧ ∀ w xs, u ≠ .frz w xs := by
  cases o with
  | lst ds => obtain ⟨vs, e, _⟩ := h; exact ⟨_, e, (fun _ z => by cases z), (fun _ _ z => by cases z)⟩
  | rd ds => cases e
  | dct kvs => obtain ⟨vs, e, _⟩ := h; exact ⟨_, e, (fun _ z => by cases z), (fun _ _ z => by cases z)⟩
section
variable {K : PySem.W.Frag} {H H' : Hp} {m : List Addr} {A : Hpp}
/-- a tuple is laid -/
theorem HR.tup (h : HR K H m A) {p : Addr} {o : HO} (hp : H p = none) : HR K (upd H p o) m A where
  len := h.len
  inj := h.inj
  at_ := fun i a u e1 e2 => by
    have x := h.at_ i a u e1 e2
    refine x.mono (Keep.new hp) (List.prefix_refl _) (fun q => ?_) fun w xs q => ?_
    · obtain ⟨z, hz, _⟩ := x.mutSome q
      exact upd_ne (ne_of_none hz hp)
    · rw [upd_ne (ne_of_none q hp)]; exact q
/-- a new object is laid -/
theorem HR.new (h : HR K H m A) {p : Addr} {o : HO} {u : HOb} (hp : H p = none) (hu : u.mut = true) (x : ObR K (upd H p o) (m ++ [p]) p u) : HR K (upd H p o) (m ++ [p]) (A ++ [u]) where
  len := by simp [h.len]
  inj := fun i j a o1 o2 e1 e2 f1 f2 m1 m2 => by
    have old : ∀ (i : Nat) (a : Addr) (o : HOb), m[i]? = some a → A[i]? = some o → o.mut = true → a ≠ p := fun i a o e1 e2 e3 => by
      obtain ⟨z, hz, _⟩ := (h.at_ i a o e1 e2).mutSome e3
      exact ne_of_none hz hp
    have hl := h.len
    by_cases hi : i < m.length
    · rw [List.getElem?_append_left hi] at e1
      rw [List.getElem?_append_left (by omega)] at f1
      by_cases hj : j < m.length
      · rw [List.getElem?_append_left hj] at e2
        rw [List.getElem?_append_left (by omega)] at f2
        exact h.inj i j a o1 o2 e1 e2 f1 f2 m1 m2
      · have hj' := (List.getElem?_eq_some_iff.mp e2).1
        simp at hj'
        have : j = m.length := by omega
        subst this
        simp at e2
        exact absurd e2.symm (old i a o1 e1 f1 m1)
    · have hi' := (List.getElem?_eq_some_iff.mp e1).1
      simp at hi'
      have : i = m.length := by omega
      subst this
      simp at e1
      by_cases hj : j < m.length
      · rw [List.getElem?_append_left hj] at e2
        rw [List.getElem?_append_left (by omega)] at f2
        exact absurd e1.symm (old j a o2 e2 f2 m2)
      · have hj' := (List.getElem?_eq_some_iff.mp e2).1
        simp at hj'
        omega
  at_ := fun i a o1 e1 f1 => by
    have hl := h.len
    by_cases hi : i < m.length
    · rw [List.getElem?_append_left hi] at e1
      rw [List.getElem?_append_left (by omega)] at f1
      have x := h.at_ i a o1 e1 f1
      refine x.mono (Keep.new hp) (List.prefix_append _ _) (fun q => ?_) fun w xs q => ?_
      · obtain ⟨z, hz, _⟩ := x.mutSome q
        exact upd_ne (ne_of_none hz hp)
      · rw [upd_ne (ne_of_none q hp)]; exact q
    · have hi' := (List.getElem?_eq_some_iff.mp e1).1
      simp at hi'
      have : i = m.length := by omega
      subst this
      simp at e1
      subst e1
      rw [hl] at f1
      simp at f1
      subst f1
      exact x
/-- an object is written -/
theorem HR.set (h : HR K H m A) {n : Nat} {p : Addr} {o : HO} {u u' : HOb} (e : A[n]? = some u) (em : m[n]? = some p) (hu : u.mut = true) (hu' : u'.mut = true) (x : ObR K (upd H p o) m p u') : HR K (upd H p o) m (A.set n u') ∧ Keep H (upd H p o) := by
  obtain ⟨z, hz, nt, nf⟩ := (h.at_ n p u em e).mutSome hu
  have kp : Keep H (upd H p o) := Keep.write hz nt
  have hn := (List.getElem?_eq_some_iff.mp e).1
  refine ⟨⟨by simp [h.len], fun i j a o1 o2 e1 e2 f1 f2 m1 m2 => ?_, fun i a o1 e1 f1 => ?_⟩, kp⟩
  · have g : ∀ (i : Nat) (o1 : HOb), (A.set n u')[i]? = some o1 → o1.mut = true → ∃ o2 : HOb, A[i]? = some o2 ∧ o2.mut = true := fun i o1 f q => by
      by_cases hi : i = n
      · subst hi; exact ⟨u, e, hu⟩
      · rw [List.getElem?_set_ne (Ne.symm hi)] at f; exact ⟨o1, f, q⟩
    obtain ⟨a1, b1, c1⟩ := g i o1 f1 m1
    obtain ⟨a2, b2, c2⟩ := g j o2 f2 m2
    exact h.inj i j a a1 a2 e1 e2 b1 b2 c1 c2
  · by_cases hi : i = n
    · subst hi
      rw [em] at e1; cases e1
      rw [List.getElem?_set_self hn] at f1
      cases f1
      exact x
    · rw [List.getElem?_set_ne (Ne.symm hi)] at f1
      have y := h.at_ i a o1 e1 f1
      refine y.mono kp (List.prefix_refl _) (fun q => ?_) fun w xs q => ?_
      · refine upd_ne fun z => hi ?_
        subst z
        exact h.inj i n a o1 u e1 em f1 e q hu
      · have : a ≠ p := fun z => by subst z; rw [hz] at q; cases q; exact nf _ _ rfl
        rw [upd_ne this]; exact q
end
/-- the names -/
structure LR (K : PySem.W.Frag) (H : Hp) (m : List Addr) (L : Loc) (s : St) : Prop where
  len : L.length = s.length
  at_ : ∀ (i : Nat) (d : D), L[i]? = some (some d) → ∃ v, s[i]? = some (some v) ∧ Rep K H m d v
theorem LR.mono {K : PySem.W.Frag} {H H' : Hp} {m m' : List Addr} {L : Loc} {s : St} (h : LR K H m L s) (k : Keep H H') (p : m <+: m') : LR K H' m' L s :=
  ⟨h.len, fun i d e => let ⟨v, a, b⟩ := h.at_ i d e; ⟨v, a, Rep.mono k p d v b⟩⟩
theorem LR.set {K : PySem.W.Frag} {H : Hp} {m : List Addr} {L : Loc} {s : St} (h : LR K H m L s) {i : Nat} {d : D} {v : V} (r : Rep K H m d v) : LR K H m (L.set i (some d)) (s.set i (some v)) where
  len := by simp [h.len]
  at_ := fun j e q => by
    by_cases hj : j = i
    · subst hj
      have hl : j < L.length := by have := (List.getElem?_eq_some_iff.mp q).1; simpa using this
      rw [List.getElem?_set_self hl] at q
      cases q
      exact ⟨v, List.getElem?_set_self (by rw [← h.len]; exact hl), r⟩
    · rw [List.getElem?_set_ne (Ne.symm hj)] at q ⊢
      exact h.at_ j e q
theorem LR.wipe1 {K : PySem.W.Frag} {H : Hp} {m : List Addr} {L : Loc} {s : St} (h : LR K H m L s) (i : Nat) : LR K H m (L.set i none) (s.set i none) where
  len := by simp [h.len]
  at_ := fun j e q => by
    by_cases hj : j = i
    · subst hj
      have hl : j < L.length := by have := (List.getElem?_eq_some_iff.mp q).1; simpa using this
      rw [List.getElem?_set_self hl] at q
      cases q
    · rw [List.getElem?_set_ne (Ne.symm hj)] at q ⊢
      exact h.at_ j e q
theorem LR.wipe {K : PySem.W.Frag} {H : Hp} {m : List Addr} {L : Loc} {s : St} (h : LR K H m L s) : ∀ vs : List Nat, LR K H m (wipeL L vs) (L2.wipe s vs)
  | [] => h
  | v :: vs => (LR.wipe h vs).wipe1 v
theorem LR.start {K : PySem.W.Frag} {H : Hp} {m : List Addr} {ds : List D} {vs : List V} {N : List Str} (h : RepL K H m ds vs) (hl : vs.length ≤ N.length) : LR K H m (ds.map some ++ List.replicate (N.length - ds.length) none) (start N vs) where
  len := by simp [L2.start, h.length]
  at_ := fun i d e => by
    by_cases hi : i < ds.length
    · rw [List.getElem?_append_left (by simpa using hi)] at e
      rw [List.getElem?_map] at e
      cases q : ds[i]? with
      | none => rw [q] at e; simp at e
      | some x =>
        rw [q] at e; simp at e; subst e
        obtain ⟨v, hv, r⟩ := h.get q
        refine ⟨v, ?_, r⟩
        unfold L2.start
        rw [List.getElem?_append_left (by rw [List.length_map, h.length]; exact hi), List.getElem?_map, hv] <;> rfl
    · rw [List.getElem?_append_right (by simpa using Nat.le_of_not_lt hi)] at e
      rw [List.getElem?_replicate] at e
      split at e <;> cases e
end Rf
namespace Rf
open PySem L2
def PostD (K : PySem.W.Frag) (H : Hp) (m : List Addr) (d : D) (A : Hpp) (Q : VK) : Prop :=
  ∀ (m' : List Addr) (v : V) (H' : Hp), m <+: m' → Keep H H' → HR K H' m' A → Rep K H' m' d v → Q v H'
theorem PostD.later {K : PySem.W.Frag} {H H1 : Hp} {m m1 : List Addr} {d : D} {A : Hpp} {Q : VK} (h : PostD K H m d A Q) (p : m <+: m1) (k : Keep H H1) : PostD K H1 m1 d A Q :=
  fun m' v H' p' k' r q => h m' v H' (p.trans p') (k.trans k') r q
/-- the answer is at hand and nothing was laid -/
theorem PostD.now {K : PySem.W.Frag} {H : Hp} {m : List Addr} {d : D} {A : Hpp} {Q : VK} (h : PostD K H m d A Q) {v : V} (hr : HR K H m A) (r : Rep K H m d v) : Q v H :=
  h m v H (List.prefix_refl _) (Keep.refl _) hr r
def tE (K : PySem.W.Frag) (f : M) : TE := fun s H Q => ∃ (m : List Addr) (A : Hpp) (L : Loc) (d : D) (A' : Hpp), HR K H m A ∧ LR K H m L s ∧ f L A = .ok d A' ∧ PostD K H m d A' Q
def PostB (K : PySem.W.Frag) (H : Hp) (m : List Addr) (A : Hpp) (Q : Hp → Prop) : Prop :=
  ∀ (m' : List Addr) (H' : Hp), m <+: m' → Keep H H' → HR K H' m' A → Q H'
def tT (K : PySem.W.Frag) (f : MB) : TT := fun s H Q => ∃ (m : List Addr) (A : Hpp) (L : Loc) (b : Bool) (A' : Hpp), HR K H m A ∧ LR K H m L s ∧ f L A = .ok b A' ∧ PostB K H m A' (Q b)
def PostL (K : PySem.W.Frag) (H : Hp) (m : List Addr) (ds : List D) (A : Hpp) (Q : List V → Hp → Prop) : Prop :=
  ∀ (m' : List Addr) (vs : List V) (H' : Hp), m <+: m' → Keep H H' → HR K H' m' A → RepL K H' m' ds vs → Q vs H'
def tL (K : PySem.W.Frag) (f : ML) : TA := fun s H Q => ∃ (m : List Addr) (A : Hpp) (L : Loc) (ds : List D) (A' : Hpp), HR K H m A ∧ LR K H m L s ∧ f L A = .ok ds A' ∧ PostL K H m ds A' Q
/-- two-place operations by values -/
def rB (K : PySem.W.Frag) (f : D → D → Hpp → R D) : R2 := fun x y H Q => ∃ (m : List Addr) (A : Hpp) (dx dy d : D) (A' : Hpp), HR K H m A ∧ Rep K H m dx x ∧ Rep K H m dy y ∧ f dx dy A = .ok d A' ∧ PostD K H m d A' Q
def rU (K : PySem.W.Frag) (f : D → Hpp → R D) : V → Hp → VK → Prop := fun x H Q => ∃ (m : List Addr) (A : Hpp) (dx d : D) (A' : Hpp), HR K H m A ∧ Rep K H m dx x ∧ f dx A = .ok d A' ∧ PostD K H m d A' Q
def rF (K : PySem.W.Frag) (f : List D → Hpp → R D) : List V → Hp → VK → Prop := fun xs H Q => ∃ (m : List Addr) (A : Hpp) (ds : List D) (d : D) (A' : Hpp), HR K H m A ∧ RepL K H m ds xs ∧ f ds A = .ok d A' ∧ PostD K H m d A' Q
def rM (K : PySem.W.Frag) (f : D → List D → Hpp → R D) : V → List V → Hp → VK → Prop := fun x xs H Q => ∃ (m : List Addr) (A : Hpp) (dx : D) (ds : List D) (d : D) (A' : Hpp), HR K H m A ∧ Rep K H m dx x ∧ RepL K H m ds xs ∧ f dx ds A = .ok d A' ∧ PostD K H m d A' Q
theorem PE.weak {X : Cx} {e : Expr} {t t' : TE} (h : PE X e t) (w : ∀ s H Q, t' s H Q → t s H Q) : PE X e t' := ⟨fun pins s q H Q I x => h.run pins s q H Q I (w q H Q x)⟩
theorem PT.weak {X : Cx} {e : Expr} {t t' : TT} (h : PT X e t) (w : ∀ s H Q, t' s H Q → t s H Q) : PT X e t' := ⟨fun pins s q H Q I x => h.run pins s q H Q I (w q H Q x)⟩
theorem PW.weak {X : Cx} {e : Expr} {t t' : TT} (h : PW X e t) (w : ∀ s H Q, t' s H Q → t s H Q) : PW X e t' := ⟨fun wh pins s q H Q I x => h.run wh pins s q H Q I (w q H Q x)⟩
theorem PA.weak {X : Cx} {es : List Expr} {t t' : TA} (h : PA X es t) (w : ∀ s H Q, t' s H Q → t s H Q) : PA X es t' := ⟨fun pos pins s q H Q I x => h.run pos pins s q H Q I (w q H Q x)⟩
theorem PK.weak {X : Cx} {es : List Keyword} {t t' : TA} (h : PK X es t) (w : ∀ s H Q, t' s H Q → t s H Q) : PK X es t' := ⟨fun pos pins s q H Q I x => h.run pos pins s q H Q I (w q H Q x)⟩
theorem PS.weak {X : Cx} {e : Stmt} {t t' : TS} (h : PS X e t) (w : ∀ D s H, t' D s H → t D s H) : PS X e t' := ⟨fun pins s q H D I x => h.run pins s q H D I (w D q H x)⟩
theorem PSs.weak {X : Cx} {e : List Stmt} {t t' : TS} (h : PSs X e t) (w : ∀ D s H, t' D s H → t D s H) : PSs X e t' := ⟨fun pins s q H D I x => h.run pins s q H D I (w D q H x)⟩
theorem PG.weak {X : Cx} {e : Expr} {t t' : TG} (h : PG X e t) (w : ∀ v s H Q, t' v s H Q → t v s H Q) : PG X e t' := ⟨fun pins s q H v u Q I r x => h.run pins s q H v u Q I r (w v q H Q x)⟩
theorem PGs.weak {X : Cx} {e : List Expr} {t t' : TGs} (h : PGs X e t) (w : ∀ v s H Q, t' v s H Q → t v s H Q) : PGs X e t' := ⟨fun pins s q H v u Q I r x => h.run pins s q H v u Q I r (w v q H Q x)⟩
theorem PI.weak {X : Cx} {tg e : Expr} {t t' : TI} (h : PI X tg e t) (w : ∀ s H R, t' s H R → t s H R) : PI X tg e t' := ⟨fun pins s q H R I x => h.run pins s q H R I (w q H R x)⟩
theorem OpR.weak {X : Cx} {f : Value → Value → Sem Value} {r r' : R2} (h : OpR X f r) (w : ∀ x y H Q, r' x y H Q → r x y H Q) : OpR X f r' := fun pins s q H x y v u Q I rx ry z => h pins s q H x y v u Q I rx ry (w x y H Q z)
theorem CallR.weak {X : Cx} {f : Value} {r r' : List V → Hp → VK → Prop} (h : CallR X f r) (w : ∀ xs H Q, r' xs H Q → r xs H Q) : CallR X f r' := fun pins s q H xs us Q I rx z => h pins s q H xs us Q I rx (w xs H Q z)
theorem MtR.weak {X : Cx} {id : String} {r r' : V → List V → Hp → VK → Prop} (h : MtR X id r) (w : ∀ x xs H Q, r' x xs H Q → r x xs H Q) : MtR X id r' := fun pins s q H x xs v us Q I rx ry z => h pins s q H x xs v us Q I rx ry (w x xs H Q z)
theorem UnR.weak {X : Cx} {f : Value → Sem Value} {r r' : V → Hp → VK → Prop} (h : UnR X f r) (w : ∀ x H Q, r' x H Q → r x H Q) : UnR X f r' := fun pins s q H x v Q I rx z => h pins s q H x v Q I rx (w x H Q z)
theorem IxR.weak {X : Cx} {r r' : R2} (h : IxR X r) (w : ∀ x y H Q, r' x y H Q → r x y H Q) : IxR X r' := fun e e2 pins s q H x y v u Q I rx ry z => h e e2 pins s q H x y v u Q I rx ry (w x y H Q z)
theorem SlR.weak {X : Cx} {r r' : V → Option Int → Option Int → Hp → VK → Prop} (h : SlR X r) (w : ∀ x l u H Q, r' x l u H Q → r x l u H Q) : SlR X r' := fun pins s q H x v vl vu lo hi sl Q I rx hs a b z => h pins s q H x v vl vu lo hi sl Q I rx hs a b (w x lo hi H Q z)
section
variable {K : PySem.W.Frag} {H : Hp} {m : List Addr} {A : Hpp}
theorem HR.lst {n : Nat} {l : List D} (h : HR K H m A) (e : A[n]? = some (.lst l)) {x : V} (r : Rep K H m (.ref n) x) : ∃ a vs, x = .ref a ∧ m[n]? = some a ∧ H a = some (.lst vs) ∧ RepL K H m l vs := by
  simp only [Rep] at r
  obtain ⟨a, e1, rfl⟩ := r
  obtain ⟨vs, e2, e3⟩ := h.at_ n a _ e1 e
  exact ⟨a, vs, rfl, e1, e2, e3⟩
theorem HR.rd {n : Nat} {l : List D} (h : HR K H m A) (e : A[n]? = some (.rd l)) {x : V} (r : Rep K H m (.ref n) x) : ∃ a vs, x = .ref a ∧ m[n]? = some a ∧ RdAt K H a vs ∧ RepL K H m l vs := by
  simp only [Rep] at r
  obtain ⟨a, e1, rfl⟩ := r
  obtain ⟨vs, e2, e3⟩ := h.at_ n a _ e1 e
  exact ⟨a, vs, rfl, e1, e2, e3⟩
theorem HR.dct {n : Nat} {l : List (Key × D)} (h : HR K H m A) (e : A[n]? = some (.dct l)) {x : V} (r : Rep K H m (.ref n) x) : ∃ a vs, x = .ref a ∧ m[n]? = some a ∧ H a = some (.dK vs) ∧ RepK K H m l vs := by
  simp only [Rep] at r
  obtain ⟨a, e1, rfl⟩ := r
  obtain ⟨vs, e2, e3⟩ := h.at_ n a _ e1 e
  exact ⟨a, vs, rfl, e1, e2, e3⟩
/-- a new list -/
theorem PostD.newL {l : List D} {vs : List V} {Q : VK} (h : PostD K H m (.ref A.length) (A ++ [.lst l]) Q) (hr : HR K H m A) (r : RepL K H m l vs) : ∀ p, H p = none → Q (.ref p) (upd H p (.lst vs)) := fun p hp => by
  have x : HR K (upd H p (.lst vs)) (m ++ [p]) (A ++ [.lst l]) := hr.new hp rfl ⟨vs, upd_same, RepL.mono (Keep.new hp) (List.prefix_append _ _) _ _ r⟩
  refine h (m ++ [p]) (.ref p) _ (List.prefix_append _ _) (Keep.new hp) x ?_
  simp only [Rep]
  exact ⟨p, by rw [← hr.len]; simp, rfl⟩
/-- a new tuple -/
theorem PostD.newT {l : List D} {vs : List V} {Q : VK} (h : PostD K H m (.tup l) A Q) (hr : HR K H m A) (r : RepL K H m l vs) : ∀ p, H p = none → Q (.ref p) (upd H p (.tup vs)) := fun p hp => by
  refine h m (.ref p) _ (List.prefix_refl _) (Keep.new hp) (hr.tup hp) ?_
  simp only [Rep]
  exact ⟨p, vs, rfl, .inl upd_same, RepL.mono (Keep.new hp) (List.prefix_refl _) _ _ r⟩
end
section
variable {X : Cx}
theorem rep_tup {K : PySem.W.Frag} {H : Hp} {m : List Addr} {l : List D} {x : V} (h : Rep K H m (.tup l) x) : ∃ p vs, x = .ref p ∧ TupAt K H p vs ∧ RepL K H m l vs := by simpa only [Rep] using h
theorem op_add_bi : OpR X (binaryOp .Add) (fun x y H Q => ∃ k i, x = .bl k ∧ y = .int i ∧ Q (.int ((if k = true then 1 else 0) + i)) H) := by
  intro pins s q H x y v u Q I rx ry ⟨k, i, ex, ey, h⟩
  subst ex; subst ey
  cases rx
  obtain ⟨t, rfl⟩ := ry
  exact PySem.IntBool.add_bool_int ⟨.int _, H, I.tok _, ⟨_, rfl⟩, h⟩
theorem o_add : OpR X (binaryOp .Add) (rB X.K opAdd) := by
  refine OpR.weak (OpR.or op_add_bi (OpR.or op_add (OpR.or op_add_str (OpR.or op_catA op_cat)))) ?_
  rintro x y H Q ⟨m, A, dx, dy, d, A', hr, rx, ry, e, post⟩
  unfold opAdd at e
  split at e
  · cases e
    simp only [Rep] at rx ry
    subst rx; subst ry
    exact .inr (.inl ⟨_, _, rfl, rfl, post.now hr rfl⟩)
  · cases e
    simp only [Rep] at rx ry
    subst rx; subst ry
    exact .inl ⟨_, _, rfl, rfl, post.now hr rfl⟩
  · split at e
    · cases e
      simp only [Rep] at rx ry
      subst rx; subst ry
      rename_i hl
      exact .inr (.inr (.inl ⟨_, _, rfl, rfl, hl, post.now hr rfl⟩))
    · cases e
  · split at e
    · cases e
      rename_i a b hl
      obtain ⟨p, vs, rfl, tp, rp⟩ := rep_tup rx
      obtain ⟨q, us, rfl, tq, rq⟩ := rep_tup ry
      have l1 := rp.length
      have l2 := rq.length
      refine .inr (.inr (.inr (.inl ⟨p, q, vs, us, rfl, rfl, tp.sq, tq.sq, by omega, fun z => ?_, fun _ z => ?_, fun _ _ => PostD.newT post hr (rp.append rq)⟩)))
      · subst z
        have : a = [] := List.eq_nil_of_length_eq_zero (by simpa using l1.symm)
        subst this
        exact post.now hr ry
      · subst z
        have : b = [] := List.eq_nil_of_length_eq_zero (by simpa using l2.symm)
        subst this
        exact post.now hr (by simpa using rx)
    · cases e
  · split at e
    · rename_i e1 e2
      split at e
      · cases e
        rename_i hl
        obtain ⟨p, vs, rfl, _, hp, rp⟩ := hr.lst e1 rx
        obtain ⟨q, us, rfl, _, hq, rq⟩ := hr.lst e2 ry
        have l1 := rp.length
        have l2 := rq.length
        exact .inr (.inr (.inr (.inr ⟨p, q, vs, us, rfl, rfl, hp, hq, by omega, PostD.newL post hr (rp.append rq)⟩)))
      · cases e
    · cases e
  · cases e
theorem op_sub_bi : OpR X (binaryOp .Sub) (fun x y H Q => ∃ k i, x = .bl k ∧ y = .int i ∧ Q (.int ((if k = true then 1 else 0) - i)) H) := by
  intro pins s q H x y v u Q I rx ry ⟨k, i, ex, ey, h⟩
  subst ex; subst ey
  cases rx
  obtain ⟨t, rfl⟩ := ry
  exact PySem.IntBool.sub_bool_int ⟨.int _, H, I.tok _, ⟨_, rfl⟩, h⟩
theorem o_sub : OpR X (binaryOp .Sub) (rB X.K opSub) := by
  refine OpR.weak (OpR.or op_sub op_sub_bi) ?_
  rintro x y H Q ⟨m, A, dx, dy, d, A', hr, rx, ry, e, post⟩
  unfold opSub at e
  split at e
  · cases e
    simp only [Rep] at rx ry
    subst rx; subst ry
    exact .inl ⟨_, _, rfl, rfl, post.now hr rfl⟩
  · cases e
    simp only [Rep] at rx ry
    subst rx; subst ry
    exact .inr ⟨_, _, rfl, rfl, post.now hr rfl⟩
  · cases e
theorem o_mod : OpR X (binaryOp .Mod) (rB X.K opMod) := by
  refine OpR.weak op_mod ?_
  rintro x y H Q ⟨m, A, dx, dy, d, A', hr, rx, ry, e, post⟩
  unfold opMod at e
  split at e
  · split at e
    · cases e
      rename_i hj
      simp only [Rep] at rx ry
      subst rx; subst ry
      exact ⟨_, _, rfl, rfl, hj, post.now hr rfl⟩
    · cases e
  · cases e
theorem o_fdiv : OpR X (binaryOp .FloorDiv) (rB X.K opFdiv) := by
  refine OpR.weak op_fdivW ?_
  rintro x y H Q ⟨m, A, dx, dy, d, A', hr, rx, ry, e, post⟩
  unfold opFdiv at e
  split at e
  · split at e
    · cases e
      rename_i hj
      simp only [Rep] at rx ry
      subst rx; subst ry
      exact ⟨_, _, rfl, rfl, hj, post.now hr rfl⟩
    · cases e
  · cases e
theorem o_pow : OpR X (binaryOp .Pow) (rB X.K opPow) := by
  refine OpR.weak op_pow ?_
  rintro x y H Q ⟨m, A, dx, dy, d, A', hr, rx, ry, e, post⟩
  unfold opPow at e
  split at e
  · split at e
    · cases e
      rename_i hj
      simp only [Rep] at rx ry
      subst rx; subst ry
      exact ⟨_, _, rfl, rfl, hj, post.now hr rfl⟩
    · cases e
  · cases e
theorem u_neg : UnR X (unaryOp .USub) (rU X.K opNeg) := by
  refine UnR.weak un_neg ?_
  rintro x H Q ⟨m, A, dx, d, A', hr, rx, e, post⟩
  unfold opNeg at e
  split at e
  · cases e
    simp only [Rep] at rx
    subst rx
    exact ⟨_, rfl, post.now hr rfl⟩
  · cases e
end
end Rf
namespace Rf
open PySem L2
theorem foldl_cps (c : Array Nat) : ∀ (k : Nat) (acc : Array Nat), List.foldl (· ++ ·) acc (List.replicate k c) = acc ++ (List.replicate k c.toList).flatten.toArray
  | 0, acc => by simp
  | k + 1, acc => by
    rw [List.replicate_succ, List.foldl_cons, foldl_cps c k, List.replicate_succ, List.flatten_cons]
    apply Array.toList_inj.mp
    simp
theorem mul_eq {a : Str} {k : Int} (h1 : 2 ≤ k) (h2 : 0 < a.length) : Txt.mul a k = strRep a k.toNat := by
  unfold Txt.mul strRep
  have e1 : ¬ k < 1 := by omega
  have e2 : (k == 1) = false := by simp; omega
  have e3 : (a.length == 0) = false := by simp; omega
  rw [if_neg e1, e2, e3]
  simp only [Bool.or_self, Bool.false_eq_true, if_false]
  rw [foldl_cps]
  simp
section
variable {X : Cx}
theorem o_mulS : OpR X (binaryOp .Mult) (fun x y H Q => ∃ a k, x = .str a ∧ y = .int k ∧ 2 ≤ k ∧ k ≤ 10000 ∧ a.length ≤ 100 ∧ 0 < a.length ∧ Q (.str (strRep a k.toNat)) H) := by
  rintro pins s q H x y v u Q I rx ry ⟨a, k, rfl, rfl, h1, h2, h3, h4, z⟩
  obtain ⟨t, rfl⟩ := rx
  obtain ⟨t', rfl⟩ := ry
  rw [← mul_eq h1 h4] at z
  refine SB.mul ⟨by simp; omega, fun _ _ => ?_, fun _ _ => ?_⟩ fun t'' k' => ⟨.str _, H, I.tok _, ⟨_, rfl⟩, z⟩
  · have : (100 : Int) ≤ (2 ^ 63 - 1) / k := by
      rw [Int.le_ediv_iff_mul_le (by omega)]
      omega
    omega
  · have : a.length * k.toNat ≤ 100 * 10000 := Nat.mul_le_mul h3 (by omega)
    unfold Builtin.Str.tooLong
    simp
    first | omega | (have := sizeLine_eq; omega)
theorem o_mul : OpR X (binaryOp .Mult) (rB X.K opMul) := by
  refine OpR.weak (OpR.or (OpR.or op_mul op_mulW) (OpR.or op_repT (OpR.or o_mulS op_rep))) ?_
  rintro x y H Q ⟨m, A, dx, dy, d, A', hr, rx, ry, e, post⟩
  unfold opMul at e
  split at e
  · split at e
    · cases e
      rename_i hj
      simp only [Rep] at rx ry
      subst rx; subst ry
      rcases hj with hj | hj
      · exact .inl (.inl ⟨_, _, rfl, rfl, hj, post.now hr rfl⟩)
      · exact .inl (.inr ⟨_, _, rfl, rfl, hj, post.now hr rfl⟩)
    · cases e
  · split at e
    · cases e
      rename_i hj
      simp only [Rep] at ry
      subst ry
      obtain ⟨p, vs, rfl, tp, rp⟩ := rep_tup rx
      have l1 := rp.length
      refine .inr (.inl ⟨p, _, vs, rfl, rfl, tp.sq, fun z => ?_, hj.2.1, hj.2.2.1, by omega, PostD.newT post hr (rp.flat _)⟩)
      subst z
      exact hj.1 (List.eq_nil_of_length_eq_zero (by simpa using l1.symm))
    · cases e
  · split at e
    · cases e
      rename_i hj
      simp only [Rep] at rx ry
      subst rx; subst ry
      exact .inr (.inr (.inl ⟨_, _, rfl, rfl, hj.1, hj.2.1, hj.2.2.1, hj.2.2.2, post.now hr rfl⟩))
    · cases e
  · split at e
    · rename_i hl
      split at e
      · rename_i hj
        cases e
        simp only [Rep] at ry
        subst ry
        obtain ⟨a, vs, rfl, em, ha, rp⟩ := hr.lst hl rx
        exact .inr (.inr (.inr ⟨a, _, vs, rfl, rfl, ha, by omega, by omega, by rw [rp.length]; exact hj.2.2, PostD.newL post hr (rp.flat _)⟩))
      · cases e
    · cases e
  · cases e
/-! ### comparisons -/
theorem dpAll_of {K : PySem.W.Frag} {H : Hp} {m : List Addr} {f : D → Option PyData} (ih : ∀ d v p, Rep K H m d v → f d = some p → Dp K H v p) : ∀ (l : List D) (vs : List V) (ps : List PyData), RepL K H m l vs → optAll (l.map f) = some ps → DpAll K H vs ps
  | [], vs, ps, r, e => by
    simp only [RepL] at r
    subst r
    simp only [List.map_nil, optAll, Option.some.injEq] at e
    subst e
    exact .nil
  | d :: l, vs, ps, r, e => by
    simp only [RepL] at r
    obtain ⟨v, t, rfl, a, b⟩ := r
    rw [List.map_cons] at e
    cases q : f d with
    | none => rw [q] at e; simp [optAll] at e
    | some p =>
      rw [q] at e
      simp only [optAll] at e
      cases q2 : optAll (l.map f) with
      | none => rw [q2] at e; simp at e
      | some qs =>
        rw [q2] at e
        simp only [Option.map_some, Option.some.injEq] at e
        subst e
        exact .cons (ih d v p a q) (dpAll_of ih l t qs b q2)
theorem dp_of {K : PySem.W.Frag} {H : Hp} {m : List Addr} {A : Hpp} (hr : HR K H m A) : ∀ (n : Nat) (d : D) (v : V) (p : PyData), Rep K H m d v → d.snap A n = some p → Dp K H v p := by
  intro n
  induction n with
  | zero =>
    intro d v p r e
    cases d with
    | non => simp only [Rep] at r; subst r; simp only [D.snap, Option.some.injEq] at e; subst e; exact .non
    | bl b => simp only [Rep] at r; subst r; simp only [D.snap, Option.some.injEq] at e; subst e; exact .bl b
    | int b => simp only [Rep] at r; subst r; simp only [D.snap, Option.some.injEq] at e; subst e; exact .int b
    | str b => simp only [Rep] at r; subst r; simp only [D.snap, Option.some.injEq] at e; subst e; exact .str b
    | tup l => simp [D.snap] at e
    | ref k => simp [D.snap] at e
    | fn x => simp [D.snap] at e
  | succ n ih =>
    intro d v p r e
    cases d with
    | non => simp only [Rep] at r; subst r; simp only [D.snap, Option.some.injEq] at e; subst e; exact .non
    | bl b => simp only [Rep] at r; subst r; simp only [D.snap, Option.some.injEq] at e; subst e; exact .bl b
    | int b => simp only [Rep] at r; subst r; simp only [D.snap, Option.some.injEq] at e; subst e; exact .int b
    | str b => simp only [Rep] at r; subst r; simp only [D.snap, Option.some.injEq] at e; subst e; exact .str b
    | tup l =>
      obtain ⟨q, vs, rfl, t, r'⟩ := rep_tup r
      simp only [D.snap] at e
      cases q2 : optAll (l.map (D.snap A n)) with
      | none => rw [q2] at e; simp at e
      | some qs =>
        rw [q2] at e
        simp only [Option.map_some, Option.some.injEq] at e
        subst e
        exact .tup t.sq (dpAll_of ih l vs qs r' q2)
    | ref k =>
      simp only [D.snap] at e
      split at e
      · rename_i l hl
        obtain ⟨a, vs, rfl, _, ha, r'⟩ := hr.lst hl r
        cases q2 : optAll (l.map (D.snap A n)) with
        | none => rw [q2] at e; simp at e
        | some qs =>
          rw [q2] at e
          simp only [Option.map_some, Option.some.injEq] at e
          subst e
          exact .lst (SqL.of ha) (dpAll_of ih l vs qs r' q2)
      · rename_i l hl
        obtain ⟨a, vs, rfl, _, ha, r'⟩ := hr.rd hl r
        cases q2 : optAll (l.map (D.snap A n)) with
        | none => rw [q2] at e; simp at e
        | some qs =>
          rw [q2] at e
          simp only [Option.map_some, Option.some.injEq] at e
          subst e
          exact .lst ha.sq (dpAll_of ih l vs qs r' q2)
      · cases e
    | fn x => simp [D.snap] at e
theorem eqD_ok {K : PySem.W.Frag} {H : Hp} {m : List Addr} {A : Hpp} {dx dy : D} {x y : V} {b : Bool} (hr : HR K H m A) (rx : Rep K H m dx x) (ry : Rep K H m dy y) (e : eqD dx dy A = some b) :
    (scal x y = true ∧ b = decide (x = y)) ∨ ∃ d e, Dp K H x d ∧ Dp K H y e ∧ SeqAt.shaped d = true ∧ SeqAt.shaped e = true ∧ b = PyData.eqv d e := by
  unfold eqD at e
  split at e
  · simp only [Rep] at rx ry; subst rx; subst ry; cases e; exact .inl ⟨rfl, by simp⟩
  · simp only [Rep] at rx ry; subst rx; subst ry; cases e; exact .inl ⟨rfl, by simp⟩
  · simp only [Rep] at rx ry; subst rx; subst ry; cases e; exact .inl ⟨rfl, by simp⟩
  · simp only [Rep] at rx ry; subst rx; subst ry; cases e; exact .inl ⟨rfl, by simp⟩
  · simp only [Rep] at rx ry; subst rx; subst ry; cases e; exact .inl ⟨rfl, by simp⟩
  · simp only [Rep] at rx ry; subst rx; subst ry; cases e; exact .inl ⟨rfl, by simp⟩
  · split at e
    · rename_i d e' h1 h2
      split at e
      · rename_i hs
        rw [Bool.and_eq_true] at hs
        cases e
        exact .inr ⟨d, e', dp_of hr _ _ _ _ rx h1, dp_of hr _ _ _ _ ry h2, hs.1, hs.2, rfl⟩
      · cases e
    · cases e
theorem c_eq (hu : X.A.units + 64 < cLine) : OpR X (compareOp .Eq) (rB X.K cmpEq) := by
  refine OpR.weak (OpR.or op_eq (op_eqD hu)) ?_
  rintro x y H Q ⟨m, A, dx, dy, d, A', hr, rx, ry, e, post⟩
  unfold cmpEq at e
  obtain ⟨b, A1, e1, e2⟩ := R.bind_eq_ok e
  obtain ⟨e1, rfl⟩ := R.ofO_ok e1
  cases e2
  rcases eqD_ok hr rx ry e1 with ⟨h1, rfl⟩ | ⟨d, e9, h1, h2, h3, h4, rfl⟩
  · exact .inl ⟨h1, post.now hr rfl⟩
  · exact .inr ⟨d, e9, h1, h2, h3, h4, post.now hr rfl⟩
theorem c_ne (hu : X.A.units + 64 < cLine) : OpR X (compareOp .NotEq) (rB X.K cmpNe) := by
  refine OpR.weak (OpR.or op_ne (op_neD hu)) ?_
  rintro x y H Q ⟨m, A, dx, dy, d, A', hr, rx, ry, e, post⟩
  unfold cmpNe at e
  obtain ⟨b, A1, e1, e2⟩ := R.bind_eq_ok e
  obtain ⟨e1, rfl⟩ := R.ofO_ok e1
  cases e2
  rcases eqD_ok hr rx ry e1 with ⟨h1, rfl⟩ | ⟨d, e9, h1, h2, h3, h4, rfl⟩
  · exact .inl ⟨h1, post.now hr rfl⟩
  · exact .inr ⟨d, e9, h1, h2, h3, h4, post.now hr rfl⟩
theorem c_lt : OpR X (compareOp .Lt) (rB X.K cmpLt) := by
  refine OpR.weak (OpR.or op_lt op_lt_str) ?_
  rintro x y H Q ⟨m, A, dx, dy, d, A', hr, rx, ry, e, post⟩
  unfold cmpLt at e
  split at e
  · simp only [Rep] at rx ry; subst rx; subst ry; cases e
    exact .inl ⟨_, _, rfl, rfl, post.now hr rfl⟩
  · simp only [Rep] at rx ry; subst rx; subst ry; cases e
    exact .inr ⟨_, _, rfl, rfl, post.now hr rfl⟩
  · cases e
theorem c_le : OpR X (compareOp .LtE) (rB X.K cmpLe) := by
  refine OpR.weak (OpR.or op_le op_le_str) ?_
  rintro x y H Q ⟨m, A, dx, dy, d, A', hr, rx, ry, e, post⟩
  unfold cmpLe at e
  split at e
  · simp only [Rep] at rx ry; subst rx; subst ry; cases e
    exact .inl ⟨_, _, rfl, rfl, post.now hr rfl⟩
  · simp only [Rep] at rx ry; subst rx; subst ry; cases e
    exact .inr ⟨_, _, rfl, rfl, post.now hr rfl⟩
  · cases e
theorem c_gt : OpR X (compareOp .Gt) (rB X.K cmpGt) := by
  refine OpR.weak op_gt ?_
  rintro x y H Q ⟨m, A, dx, dy, d, A', hr, rx, ry, e, post⟩
  unfold cmpGt at e
  split at e
  · simp only [Rep] at rx ry; subst rx; subst ry; cases e
    exact ⟨_, _, rfl, rfl, post.now hr rfl⟩
  · cases e
theorem c_ge : OpR X (compareOp .GtE) (rB X.K cmpGe) := by
  refine OpR.weak op_ge ?_
  rintro x y H Q ⟨m, A, dx, dy, d, A', hr, rx, ry, e, post⟩
  unfold cmpGe at e
  split at e
  · simp only [Rep] at rx ry; subst rx; subst ry; cases e
    exact ⟨_, _, rfl, rfl, post.now hr rfl⟩
  · cases e
theorem non_iff {K : PySem.W.Frag} {H : Hp} {m : List Addr} {d : D} {x : V} (r : Rep K H m d x) : decide (x = .non) = decide (d = .non) := by
  cases d with
  | non => simp only [Rep] at r; subst r; simp
  | bl b => simp only [Rep] at r; subst r; simp
  | int b => simp only [Rep] at r; subst r; simp
  | str b => simp only [Rep] at r; subst r; simp
  | tup l => obtain ⟨p, vs, rfl, _⟩ := rep_tup r; simp
  | ref k => simp only [Rep] at r; obtain ⟨a, _, rfl⟩ := r; simp
  | fn k => simp only [Rep] at r; obtain ⟨a, _, rfl⟩ := r; simp
theorem c_is : OpR X (compareOp .Is) (rB X.K cmpIs) := by
  refine OpR.weak (OpR.or op_isN op_isBl) ?_
  rintro x y H Q ⟨m, A, dx, dy, d, A', hr, rx, ry, e, post⟩
  unfold cmpIs at e
  split at e
  · simp only [Rep] at ry; subst ry; cases e
    refine .inl ⟨rfl, ?_⟩
    rw [non_iff rx]
    exact post.now hr rfl
  · simp only [Rep] at ry; subst ry
    split at e
    · simp only [Rep] at rx; subst rx; cases e
      exact .inr ⟨_, _, rfl, rfl, post.now hr rfl⟩
    · cases e
  · cases e
theorem c_isnot : OpR X (compareOp .IsNot) (rB X.K cmpIsNot) := by
  refine OpR.weak (OpR.or op_notN op_notBl) ?_
  rintro x y H Q ⟨m, A, dx, dy, d, A', hr, rx, ry, e, post⟩
  unfold cmpIsNot at e
  split at e
  · simp only [Rep] at ry; subst ry; cases e
    refine .inl ⟨rfl, ?_⟩
    rw [non_iff rx]
    exact post.now hr rfl
  · simp only [Rep] at ry; subst ry
    split at e
    · simp only [Rep] at rx; subst rx; cases e
      exact .inr ⟨_, _, rfl, rfl, post.now hr rfl⟩
    · cases e
  · cases e
theorem inS_ok {K : PySem.W.Frag} {H : Hp} {m : List Addr} {A : Hpp} {dx dy : D} {x y : V} {b : Bool} (hr : HR K H m A) (rx : Rep K H m dx x) (ry : Rep K H m dy y) (e : inS dx dy A = some b) :
    ∃ d ds, Dp K H x d ∧ SeqAt.shaped d = true ∧ b = (ds.any fun z => PyData.eqv z d) ∧ ((Dp K H y (.list ds) ∧ SeqAt.shaped (.list ds) = true) ∨ (Dp K H y (.tuple ds) ∧ SeqAt.shaped (.tuple ds) = true)) := by
  unfold inS at e
  split at e
  · rename_i d ds h1 h2
    split at e
    · rename_i hs
      rw [Bool.and_eq_true] at hs
      cases e
      exact ⟨d, ds, dp_of hr _ _ _ _ rx h1, hs.1, rfl, .inl ⟨dp_of hr _ _ _ _ ry h2, hs.2⟩⟩
    · cases e
  · rename_i d ds h1 h2
    split at e
    · rename_i hs
      rw [Bool.and_eq_true] at hs
      cases e
      exact ⟨d, ds, dp_of hr _ _ _ _ rx h1, hs.1, rfl, .inr ⟨dp_of hr _ _ _ _ ry h2, hs.2⟩⟩
    · cases e
  · cases e
theorem op_inT (hu : X.A.units + 65 < cLine) : OpR X (compareOp .In) (fun x y H Q => ∃ d ds, Dp X.K H x d ∧ Dp X.K H y (.tuple ds) ∧ SeqAt.shaped d = true ∧ SeqAt.shaped (.tuple ds) = true ∧ Q (.bl (ds.any fun z => PyData.eqv z d)) H) := by
  intro pins s σ H x y v u Q I rx ry h
  obtain ⟨d, ds, hd, he, sd, se, q⟩ := h
  obtain ⟨as, r1⟩ := Dp.reads I d x v hd rx
  obtain ⟨bs, r2⟩ := Dp.reads I (.tuple ds) y u he ry
  exact SeqAt.in_tuple_reads r2 r1 (SeqAt.canLay_of_shaped se) (SeqAt.canLay_of_shaped sd) (PyProof.Rows.room_in_shaped sd hu) ⟨.bl _, H, I, rfl, q⟩
theorem op_notInT (hu : X.A.units + 65 < cLine) : OpR X (compareOp .NotIn) (fun x y H Q => ∃ d ds, Dp X.K H x d ∧ Dp X.K H y (.tuple ds) ∧ SeqAt.shaped d = true ∧ SeqAt.shaped (.tuple ds) = true ∧ Q (.bl (!ds.any fun z => PyData.eqv z d)) H) := by
  intro pins s σ H x y v u Q I rx ry h
  obtain ⟨d, ds, hd, he, sd, se, q⟩ := h
  obtain ⟨as, r1⟩ := Dp.reads I d x v hd rx
  obtain ⟨bs, r2⟩ := Dp.reads I (.tuple ds) y u he ry
  exact SeqAt.notIn_tuple_reads r2 r1 (SeqAt.canLay_of_shaped se) (SeqAt.canLay_of_shaped sd) (PyProof.Rows.room_in_shaped sd hu) ⟨.bl _, H, I, rfl, q⟩
theorem inT_ok {s z : Str} {b : Bool} (h : inT s z = some b) : ∃ c : Nat, s = ⟨#[c]⟩ ∧ b = decide (c ∈ z.cps.toList) := by
  unfold inT at h
  split at h
  · rename_i c hc
    cases h
    refine ⟨c, ?_, rfl⟩
    obtain ⟨a⟩ := s
    congr 1
    apply Array.toList_inj.mp
    exact hc
  · cases h
theorem c_in (hu : X.A.units + 65 < cLine) : OpR X (compareOp .In) (rB X.K cmpIn) := by
  refine OpR.weak (OpR.or op_in_sign (OpR.or (op_inD hu) (op_inT hu))) ?_
  rintro x y H Q ⟨m, A, dx, dy, d, A', hr, rx, ry, e, post⟩
  unfold cmpIn at e
  obtain ⟨b, A1, e1, e2⟩ := R.bind_eq_ok e
  obtain ⟨e1, rfl⟩ := R.ofO_ok e1
  cases e2
  unfold inD at e1
  split at e1
  · obtain ⟨c, rfl, rfl⟩ := inT_ok e1
    simp only [Rep] at rx ry
    subst rx; subst ry
    exact .inl ⟨c, _, rfl, rfl, post.now hr rfl⟩
  · obtain ⟨d, ds, h1, h2, rfl, ⟨h3, h4⟩ | ⟨h3, h4⟩⟩ := inS_ok hr rx ry e1
    · exact .inr (.inl ⟨d, ds, h1, h3, h2, h4, post.now hr rfl⟩)
    · exact .inr (.inr ⟨d, ds, h1, h3, h2, h4, post.now hr rfl⟩)
theorem c_notin (hu : X.A.units + 65 < cLine) : OpR X (compareOp .NotIn) (rB X.K cmpNotIn) := by
  refine OpR.weak (OpR.or op_notIn_sign (OpR.or (op_notInD hu) (op_notInT hu))) ?_
  rintro x y H Q ⟨m, A, dx, dy, d, A', hr, rx, ry, e, post⟩
  unfold cmpNotIn at e
  obtain ⟨b, A1, e1, e2⟩ := R.bind_eq_ok e
  obtain ⟨e1, rfl⟩ := R.ofO_ok e1
  cases e2
  unfold inD at e1
  split at e1
  · obtain ⟨c, rfl, rfl⟩ := inT_ok e1
    simp only [Rep] at rx ry
    subst rx; subst ry
    exact .inl ⟨c, _, rfl, rfl, post.now hr rfl⟩
  · obtain ⟨d, ds, h1, h2, rfl, ⟨h3, h4⟩ | ⟨h3, h4⟩⟩ := inS_ok hr rx ry e1
    · exact .inr (.inl ⟨d, ds, h1, h3, h2, h4, post.now hr rfl⟩)
    · exact .inr (.inr ⟨d, ds, h1, h3, h2, h4, post.now hr rfl⟩)
theorem c_of (hu : X.A.units + 65 < cLine) {op : CmpOp} {f : D → D → Hpp → R D} (h : cmpOf op = some f) : OpR X (compareOp op) (rB X.K f) := by
  cases op <;> simp only [cmpOf, Option.some.injEq, reduceCtorEq] at h <;> subst h
  · exact c_eq (by omega)
  · exact c_ne (by omega)
  · exact c_lt
  · exact c_le
  · exact c_gt
  · exact c_ge
  · exact c_is
  · exact c_isnot
  · exact c_in hu
  · exact c_notin hu
theorem o_of {op : Operator} {f : D → D → Hpp → R D} (h : binOf op = some f) : OpR X (binaryOp op) (rB X.K f) := by
  cases op <;> simp only [binOf, Option.some.injEq, reduceCtorEq] at h <;> subst h
  · exact o_add
  · exact o_sub
  · exact o_mul
  · exact o_mod
  · exact o_pow
  · exact o_fdiv
end
end Rf
namespace Rf
open PySem PySem.Spec PyProof.Rows L2
section
variable {X : Cx}
theorem atI_rep {K : PySem.W.Frag} {H : Hp} {m : List Addr} {l : List D} {vs : List V} {i : Int} {d : D} (r : RepL K H m l vs) (e : atI l i = some d) : ∃ v, atI vs i = some v ∧ Rep K H m d v := by
  unfold atI at e ⊢
  rw [r.length]
  cases q : ixN l.length i with
  | none => rw [q] at e; simp at e
  | some j =>
    rw [q] at e
    simp only [Option.bind_some] at e
    obtain ⟨v, h1, h2⟩ := r.get e
    exact ⟨v, by simpa using h1, h2⟩
theorem sub_tail {prog : Program} {w : World} {A : Around} {E : Value → Shared → Prop} {s : Shared} {value slice : Expr} {o i : Value} {T id : String} {Q : Value → Shared → Prop}
    (tyo : s.TypeIs o T) (look : typeLookup (.type T) "__getitem__" = pure (some (.builtin id))) (plain : subscripted slice false o i = operate [o, i] (getItem o i))
    (h : wpAny (model prog w) A (getItem o i) Q E s) : wpAny (model prog w) A (subscriptTail value slice o i) Q E s := by
  have last : wpAny (model prog w) A (subscripted slice false o i)
      (fun r s3 => wpAny (model prog w) A (letTemporaryGo value o r >>= fun _ => pure r) Q E s3) E s := by
    rw [plain]
    refine wpAny_operating (wpAny_mono h (fun r s3 h3 => ?_) fun _ _ x => x)
    exact wpAny_bind (wpAny_letTemporaryGo (wpAny_pure h3))
  unfold subscriptTail
  refine wpAny_bind ?_
  rw [getitemInPython_of_ne tyo.not_modules]
  exact wpAny_bind (wpAny_specialOf tyo look (wpAny_pure (wpAny_bind last)))
/-- a dict's item, as a subscript -/
theorem ix_dct (hu : X.A.units + 1 < cLine) : IxR X (fun x y H Q => ∃ a v, x = .ref a ∧ DGet H a y (some v) ∧ Q v H) := by
  rintro value slice pins s q H x y v u Q I rx ry ⟨a, w, rfl, g, z⟩ hs
  cases rx
  exact sub_tail (dict_typeIs I g) PySem.F.slot_dict_getitem.lookup hs (d_getItem hu I g ry fun w' s' I' r' => ⟨w, H, I', r', z⟩)
theorem keyD_rep {K : PySem.W.Frag} {H : Hp} {m : List Addr} {d : D} {k : Key} {y : V} (r : Rep K H m d y) (e : keyD d = some k) : y = kV k := by
  cases d with
  | int i => simp only [keyD, Option.some.injEq] at e; subst e; simp only [Rep] at r; exact r
  | str i => simp only [keyD, Option.some.injEq] at e; subst e; simp only [Rep] at r; exact r
  | _ => simp [keyD] at e
theorem i_ix (hu : X.A.units + 1 < cLine) : IxR X (rB X.K opIx) := by
  refine IxR.weak (IxR.or ix_seq (ix_dct hu)) ?_
  rintro x y H Q ⟨m, A, dx, dy, d, A', hr, rx, ry, e, post⟩
  unfold opIx at e
  split at e
  · obtain ⟨e2, rfl⟩ := R.ofO_ok e
    obtain ⟨p, vs, rfl, tp, rp⟩ := rep_tup rx
    simp only [Rep] at ry; subst ry
    obtain ⟨v, h1, h2⟩ := atI_rep rp e2
    exact .inl (.inr (.inl ⟨p, vs, _, v, rfl, rfl, tp.sq, h1, post.now hr h2⟩))
  · split at e
    · rename_i hl
      obtain ⟨e2, rfl⟩ := R.ofO_ok e
      simp only [Rep] at rx ry; subst rx; subst ry
      obtain ⟨c, h1, h2⟩ := Option.map_eq_some_iff.mp e2
      subst h2
      exact .inl (.inr (.inr ⟨_, _, c, rfl, rfl, hl, h1, post.now hr rfl⟩))
    · cases e
  · split at e
    · rename_i hl
      obtain ⟨e2, rfl⟩ := R.ofO_ok e
      obtain ⟨a, vs, rfl, _, ha, rp⟩ := hr.lst hl rx
      simp only [Rep] at ry; subst ry
      obtain ⟨v, h1, h2⟩ := atI_rep rp e2
      exact .inl (.inl ⟨a, vs, _, v, rfl, rfl, SqL.of ha, h1, post.now hr h2⟩)
    · rename_i hl
      obtain ⟨e2, rfl⟩ := R.ofO_ok e
      obtain ⟨a, vs, rfl, _, ha, rp⟩ := hr.rd hl rx
      simp only [Rep] at ry; subst ry
      obtain ⟨v, h1, h2⟩ := atI_rep rp e2
      exact .inl (.inl ⟨a, vs, _, v, rfl, rfl, ha.sq, h1, post.now hr h2⟩)
    · rename_i hl
      split at e
      · rename_i k hk
        obtain ⟨e2, rfl⟩ := R.ofO_ok e
        obtain ⟨a, vs, rfl, _, ha, rp⟩ := hr.dct hl rx
        have hy := keyD_rep ry hk
        subst hy
        have q := rp.look k
        rw [e2] at q
        obtain ⟨v, h1, h2⟩ := q
        refine .inr ⟨a, v, rfl, ?_, post.now hr h2⟩
        rw [← h1]
        exact DGet.k ha
      · cases e
    · cases e
  · cases e
theorem cut_rep {K : PySem.W.Frag} {H : Hp} {m : List Addr} {l : List D} {vs : List V} (r : RepL K H m l vs) (lo hi : Option Int) : RepL K H m (cutD l lo hi) (cutV vs lo hi) := by
  unfold cutD cutV
  rw [r.length]
  exact (r.drop _).take _
theorem cut_whole {α : Type} (l : List α) (lo hi : Option Int) (h : HT.sIx l.length 0 lo = 0 ∧ HT.sIx l.length l.length hi = l.length) : cutD l lo hi = l := by
  unfold cutD
  rw [h.1, h.2]
  simp
def rS (K : PySem.W.Frag) : V → Option Int → Option Int → Hp → VK → Prop := fun x lo hi H Q => ∃ (m : List Addr) (A : Hpp) (dx d : D) (A' : Hpp), HR K H m A ∧ Rep K H m dx x ∧ opSl dx lo hi A = .ok d A' ∧ PostD K H m d A' Q
theorem i_sl : SlR X (rS X.K) := by
  refine SlR.weak (SlR.or C8.sl_txt (SlR.or sl_list sl_tupA)) ?_
  rintro x lo hi H Q ⟨m, A, dx, d, A', hr, rx, e, post⟩
  unfold opSl at e
  split at e
  · cases e
    rename_i l
    obtain ⟨p, vs, rfl, tp, rp⟩ := rep_tup rx
    refine .inr (.inr ⟨p, vs, rfl, tp.sq, fun z => ?_, fun z => ?_⟩)
    · rw [rp.length] at z
      rw [cut_whole l lo hi z] at post
      exact post.now hr rx
    · exact PostD.newT post hr (cut_rep rp lo hi)
  · split at e
    · cases e
      rename_i hl
      obtain ⟨a, vs, rfl, _, ha, rp⟩ := hr.lst hl rx
      exact .inr (.inl ⟨a, vs, rfl, SqL.of ha, PostD.newL post hr (cut_rep rp lo hi)⟩)
    · cases e
      rename_i hl
      obtain ⟨a, vs, rfl, _, ha, rp⟩ := hr.rd hl rx
      exact .inr (.inl ⟨a, vs, rfl, ha.sq, PostD.newL post hr (cut_rep rp lo hi)⟩)
    · cases e
  · split at e
    · cases e
      rename_i hz
      simp only [Rep] at rx; subst rx
      exact .inl ⟨_, rfl, hz, post.now hr rfl⟩
    · cases e
  · cases e
theorem RepL.put {K : PySem.W.Frag} {H : Hp} {m : List Addr} {d : D} {v : V} (hv : Rep K H m d v) : ∀ {l : List D} {vs : List V} (j : Nat), RepL K H m l vs → RepL K H m (l.set j d) (vs.set j v)
  | [], vs, j, r => by simp only [RepL] at r; subst r; rfl
  | x :: l, vs, j, r => by
    simp only [RepL] at r
    obtain ⟨w, t, rfl, a, b⟩ := r
    cases j with
    | zero => exact ⟨v, t, rfl, hv, b⟩
    | succ j => exact ⟨w, _, rfl, a, RepL.put hv j b⟩
/-- o[i] = v -/
def rSet (K : PySem.W.Frag) : TSet := fun o i v H Q => ∃ (m : List Addr) (A : Hpp) (dO dI dV : D) (A' : Hpp), HR K H m A ∧ Rep K H m dO o ∧ Rep K H m dI i ∧ Rep K H m dV v ∧ setIx dO dI dV A = .ok () A' ∧ PostB K H m A' Q
theorem i_set (hu : X.A.units + 1 < cLine) : PSet X (rSet X.K) := by
  rintro pins s q H o i v ov iv u Q I ro ri rv ⟨m, A, dO, dI, dV, A', hr, rO, rI, rV, e, post⟩
  unfold setIx at e
  split at e
  · split at e
    · rename_i hl
      split at e
      · rename_i k hk
        split at e
        · rename_i hz
          cases e
          obtain ⟨a, vs, rfl, em, ha, rp⟩ := hr.dct hl rO
          have hy := keyD_rep rI hk
          subst hy
          cases ro
          obtain ⟨h1, h2⟩ := hr.set (o := .dK (putK vs k v)) (u' := .dct (putD _ k dV)) hl em rfl rfl ⟨_, upd_same, (RepK.mono (Keep.write ha (fun _ z => by cases z)) (List.prefix_refl _) _ _ (rp.put k rV))⟩
          refine d_setItem hu I (DPut.k ha (by rw [rp.length]; exact hz)) ri rv fun s' I' => ⟨_, I', ?_⟩
          exact post m _ (List.prefix_refl _) h2 h1
        · cases e
      · cases e
    · rename_i hl
      split at e
      · split at e
        · rename_i j hj
          cases e
          obtain ⟨a, vs, rfl, em, ha, rp⟩ := hr.lst hl rO
          simp only [Rep] at rI
          subst rI
          have kp : Keep H (upd H a (.lst (vs.set j v))) := Keep.write ha (fun _ z => by cases z)
          obtain ⟨h1, h2⟩ := hr.set (o := .lst (vs.set j v)) (u' := .lst _) hl em rfl rfl ⟨_, upd_same, RepL.mono kp (List.prefix_refl _) _ _ (RepL.put rV j rp)⟩
          exact set_list pins s q H _ _ _ _ _ _ _ I ro ri rv ⟨a, vs, _, j, rfl, rfl, ha, by rw [rp.length]; exact hj, post m _ (List.prefix_refl _) h2 h1⟩
        · cases e
      · cases e
    · cases e
  · cases e
end
end Rf
namespace Rf
open PySem PySem.Spec PyProof.Rows L2
section
variable {X : Cx}
theorem b_len : CallR X (.builtin "len") (rF X.K bLen) := by
  refine CallR.weak call_len ?_
  rintro xs H Q ⟨m, A, ds, d, A', hr, rs, e, post⟩
  unfold bLen at e
  split at e
  · cases e
    obtain ⟨v, rfl, r⟩ := rs.one
    obtain ⟨p, vs, rfl, tp, rp⟩ := rep_tup r
    refine ⟨_, vs.length, rfl, .inr ⟨vs, tp.sq, rfl⟩, ?_⟩
    rw [rp.length]
    exact post.now hr rfl
  · split at e
    · cases e
      obtain ⟨v, rfl, r⟩ := rs.one
      simp only [Rep] at r; subst r
      rename_i hz
      exact ⟨_, _, rfl, ⟨hz, rfl⟩, post.now hr rfl⟩
    · cases e
  · obtain ⟨v, rfl, r⟩ := rs.one
    split at e
    · cases e
      rename_i hl
      obtain ⟨a, vs, rfl, _, ha, rp⟩ := hr.lst hl r
      refine ⟨_, vs.length, rfl, .inl ⟨vs, SqL.of ha, rfl⟩, ?_⟩
      rw [rp.length]
      exact post.now hr rfl
    · cases e
      rename_i hl
      obtain ⟨a, vs, rfl, _, ha, rp⟩ := hr.rd hl r
      refine ⟨_, vs.length, rfl, .inl ⟨vs, ha.sq, rfl⟩, ?_⟩
      rw [rp.length]
      exact post.now hr rfl
    · cases e
  · cases e
theorem b_ord : CallR X (.builtin "ord") (rF X.K bOrd) := by
  refine CallR.weak call_ord ?_
  rintro xs H Q ⟨m, A, ds, d, A', hr, rs, e, post⟩
  unfold bOrd at e
  split at e
  · split at e
    · cases e
      rename_i hl
      obtain ⟨v, rfl, r⟩ := rs.one
      simp only [Rep] at r; subst r
      exact ⟨_, rfl, hl, post.now hr rfl⟩
    · cases e
  · cases e
theorem noDict_of {K : PySem.W.Frag} {H : Hp} : (∀ (v : V) (d : PyData), Dp K H v d → d.hasDict = false) := by
  intro v d h
  induction h using Dp.rec (motive_2 := fun vs ds _ => PyData.hasDictAll ds = false) with
  | non => rfl
  | bl b => rfl
  | int b => rfl
  | str b => rfl
  | lst _ _ ih => simpa [PyData.hasDict] using ih
  | tup _ _ ih => simpa [PyData.hasDict] using ih
  | nil => rfl
  | cons _ _ i1 i2 => simp [PyData.hasDictAll, i1, i2]
theorem b_repr (hg : X.A.guards = some []) (hu : X.A.units + (deepest + 1) < cLine) : CallR X (.builtin "repr") (rF X.K bRepr) := by
  rintro pins s q H xs us Q I rv ⟨m, A, ds, d, A', hr, rs, e, post⟩
  unfold bRepr at e
  split at e
  · rename_i dd A
    obtain ⟨v, rfl, r⟩ := rs.one
    obtain ⟨u, rfl, ru⟩ := vals1 rv
    split at e
    · rename_i p hp
      split at e
      · rename_i hs
        cases e
        obtain ⟨h1, h2, h3⟩ := hs
        have dp := dp_of hr _ _ _ _ r hp
        have fin : ∀ (s' : Shared) (t : Tok), Inv X pins q H s' → EP X pins q Q (.str p.shown t) s' := fun s' t I' => ⟨.str p.shown, H, I', ⟨t, rfl⟩, post.now hr rfl⟩
        have big : ∀ a, u = .ref a → wpAny (model X.prog X.w) X.A (call (.builtin "repr") [u]) (EP X pins q Q) X.xe s := fun a ea => by
          obtain ⟨as, rd⟩ := Dp.reads I p v u dp ru
          subst ea
          refine repr_of_reads' rd h1 (fun z => ?_) hg (by omega) (fun b o z => z) (fun h' u' tk hk => ?_) h2
          · rw [noDict_of _ _ dp] at z; cases z
          · exact fin _ _ (I.kept hk)
        cases dp with
        | non => cases ru; exact PySem.P.repr_of_none (fin _ _ (I.tok _))
        | bl b => cases ru; exact PySem.P.repr_of_bool (fin _ _ (I.tok _))
        | int i => obtain ⟨t, rfl⟩ := ru; exact PySem.P.repr_of_int (by simpa [PyData.showable] using h1) (fin _ _ (I.tok _))
        | str i => obtain ⟨t, rfl⟩ := ru; exact PySem.P.repr_of_str (fin _ _ (I.tok _)) h2
        | lst _ _ => exact big _ ru
        | tup _ _ => exact big _ ru
      · cases e
    · cases e
  · cases e
theorem b_tuple : CallR X (.type "tuple") (rF X.K bTuple) := by
  refine CallR.weak call_tuple_of ?_
  rintro xs H Q ⟨m, A, ds, d, A', hr, rs, e, post⟩
  unfold bTuple at e
  split at e
  · cases e
    obtain ⟨v, rfl, r⟩ := rs.one
    obtain ⟨p, vs, rfl, tp, rp⟩ := rep_tup r
    exact ⟨p, vs, rfl, .inr ⟨tp.sq, post.now hr r⟩⟩
  · obtain ⟨v, rfl, r⟩ := rs.one
    split at e
    · cases e
      rename_i hl
      obtain ⟨a, vs, rfl, _, ha, rp⟩ := hr.lst hl r
      exact ⟨a, vs, rfl, .inl ⟨SqL.of ha, PostD.newT post hr rp⟩⟩
    · cases e
      rename_i hl
      obtain ⟨a, vs, rfl, _, ha, rp⟩ := hr.rd hl r
      exact ⟨a, vs, rfl, .inl ⟨ha.sq, PostD.newT post hr rp⟩⟩
    · cases e
  · cases e
theorem b_list : CallR X (.type "list") (rF X.K bList) := by
  refine CallR.weak call_list_of ?_
  rintro xs H Q ⟨m, A, ds, d, A', hr, rs, e, post⟩
  unfold bList at e
  split at e
  · cases e
    obtain ⟨v, rfl, r⟩ := rs.one
    obtain ⟨p, vs, rfl, tp, rp⟩ := rep_tup r
    exact ⟨p, vs, rfl, .inr tp.sq, PostD.newL post hr rp⟩
  · obtain ⟨v, rfl, r⟩ := rs.one
    split at e
    · cases e
      rename_i hl
      obtain ⟨a, vs, rfl, _, ha, rp⟩ := hr.lst hl r
      exact ⟨a, vs, rfl, .inl (SqL.of ha), PostD.newL post hr rp⟩
    · cases e
      rename_i hl
      obtain ⟨a, vs, rfl, _, ha, rp⟩ := hr.rd hl r
      exact ⟨a, vs, rfl, .inl ha.sq, PostD.newL post hr rp⟩
    · cases e
  · cases e
theorem PostD.newK {K : PySem.W.Frag} {H : Hp} {m : List Addr} {A : Hpp} {l : List (Key × D)} {vs : List (Key × V)} {Q : VK} (h : PostD K H m (.ref A.length) (A ++ [.dct l]) Q) (hr : HR K H m A) (r : RepK K H m l vs) : ∀ p, H p = none → Q (.ref p) (upd H p (.dK vs)) := fun p hp => by
  have x : HR K (upd H p (.dK vs)) (m ++ [p]) (A ++ [.dct l]) := hr.new hp rfl ⟨vs, upd_same, RepK.mono (Keep.new hp) (List.prefix_append _ _) _ _ r⟩
  refine h (m ++ [p]) (.ref p) _ (List.prefix_append _ _) (Keep.new hp) x ?_
  simp only [Rep]
  exact ⟨p, by rw [← hr.len]; simp, rfl⟩
theorem merge_rep0 {K : PySem.W.Frag} {H : Hp} {m : List Addr} : ∀ {l : List (Key × D)} {kvs : List (Key × V)} {acc : List (Key × D)} {acv : List (Key × V)}, RepK K H m l kvs → RepK K H m acc acv →
    RepK K H m (l.foldl (fun acc kv => putD acc kv.1 kv.2) acc) (mergeK acv kvs)
  | [], kvs, acc, acv, r, ra => by cases r; exact ra
  | d :: l, kvs, acc, acv, r, ra => by
    obtain ⟨v, t, rfl, a, b⟩ := r
    have := merge_rep0 b (ra.put d.1 a)
    unfold mergeK at this ⊢
    simpa only [List.foldl_cons] using this
theorem pairD_rep {K : PySem.W.Frag} {H : Hp} {m : List Addr} : ∀ {l : List D} {vs : List V} {kvs : List (Key × D)}, RepL K H m l vs → (optAll (l.map pairD)).bind keysD = some kvs →
    ∃ (ps : List Addr) (us : List (Key × V)), vs = ps.map V.ref ∧ Paired (fun p kv => SqT K H p [kV kv.1, kv.2]) ps us ∧ RepK K H m kvs us
  | [], vs, kvs, r, e => by
    simp only [RepL] at r; subst r
    simp only [List.map_nil, optAll, Option.bind_some, keysD, Option.some.injEq] at e
    subst e
    exact ⟨[], [], rfl, .nil, rfl⟩
  | d :: l, vs, kvs, r, e => by
    simp only [RepL] at r
    obtain ⟨v, t, rfl, a, b⟩ := r
    rw [List.map_cons] at e
    cases hp : pairD d with
    | none => rw [hp] at e; simp [optAll] at e
    | some q =>
      rw [hp] at e
      simp only [optAll] at e
      cases ho : optAll (l.map pairD) with
      | none => rw [ho] at e; simp at e
      | some qs =>
        rw [ho] at e
        simp only [Option.map_some, Option.bind_some] at e
        unfold keysD at e
        split at e
        · rename_i k t' hk ht
          cases e
          obtain ⟨ps, us, rfl, pr, rk⟩ := pairD_rep b (by rw [ho]; exact ht)
          unfold pairD at hp
          split at hp
          · cases hp
            obtain ⟨p, ws, rfl, tp, rp⟩ := rep_tup a
            simp only [RepL] at rp
            obtain ⟨w1, t1, rfl, a1, w2, t2, rfl, a2, rfl⟩ := rp
            have hy := keyD_rep a1 hk
            subst hy
            exact ⟨p :: ps, (k, w2) :: us, rfl, .cons tp.sq pr, ⟨_, _, rfl, a2, rk⟩⟩
          · cases hp
        · cases e
theorem b_dict (hc : X.calm = true) : CallR X (.type "dict") (rF X.K bDict) := by
  refine CallR.weak (call_dictP hc) ?_
  rintro xs H Q ⟨m, A, ds, d, A', hr, rs, e, post⟩
  unfold bDict at e
  split at e
  · obtain ⟨v, rfl, r⟩ := rs.one
    split at e
    · rename_i hl
      split at e
      · rename_i kvs hk
        cases e
        obtain ⟨a, vs, rfl, _, ha, rp⟩ := hr.lst hl r
        obtain ⟨ps, us, rfl, pr, rk⟩ := pairD_rep rp hk
        exact ⟨a, ps, us, rfl, SqL.of ha, pr, PostD.newK post hr (merge_rep0 (acc := []) (acv := []) rk rfl)⟩
      · cases e
    · cases e
  · cases e
theorem bools_rep {K : PySem.W.Frag} {H : Hp} {m : List Addr} : ∀ {l : List D} {vs : List V} {bs : List Bool}, RepL K H m l vs → boolsD l = some bs → vs = bs.map V.bl
  | [], vs, bs, r, e => by simp only [RepL] at r; subst r; simp only [boolsD, Option.some.injEq] at e; subst e; rfl
  | d :: l, vs, bs, r, e => by
    simp only [RepL] at r
    obtain ⟨v, t, rfl, a, b⟩ := r
    cases d with
    | bl k =>
      simp only [boolsD] at e
      obtain ⟨cs, h1, h2⟩ := Option.map_eq_some_iff.mp e
      subst h2
      simp only [Rep] at a
      subst a
      rw [bools_rep b h1]
      rfl
    | _ => simp [boolsD] at e
theorem b_all (hc : X.calm = true) : CallR X (.builtin "all") (rF X.K bAll) := by
  refine CallR.weak (cr_all hc) ?_
  rintro xs H Q ⟨m, A, ds, d, A', hr, rs, e, post⟩
  unfold bAll at e
  split at e
  · obtain ⟨v, rfl, r⟩ := rs.one
    split at e
    · rename_i hl
      split at e
      · cases e
        rename_i bs hb
        obtain ⟨a, vs, rfl, _, ha, rp⟩ := hr.lst hl r
        have := bools_rep rp hb
        subst this
        exact ⟨a, bs, rfl, SqL.of ha, post.now hr rfl⟩
      · cases e
    · cases e
  · cases e
theorem b_any (hc : X.calm = true) : CallR X (.builtin "any") (rF X.K bAny) := by
  refine CallR.weak (cr_any hc) ?_
  rintro xs H Q ⟨m, A, ds, d, A', hr, rs, e, post⟩
  unfold bAny at e
  split at e
  · obtain ⟨v, rfl, r⟩ := rs.one
    split at e
    · rename_i hl
      split at e
      · cases e
        rename_i bs hb
        obtain ⟨a, vs, rfl, _, ha, rp⟩ := hr.lst hl r
        have := bools_rep rp hb
        subst this
        exact ⟨a, bs, rfl, SqL.of ha, post.now hr rfl⟩
      · cases e
    · cases e
  · cases e
theorem b_min (hc : X.calm = true) : CallR X (.builtin "min") (rF X.K bMin2) := by
  refine CallR.weak (call_min2 hc) ?_
  rintro xs H Q ⟨m, A, ds, d, A', hr, rs, e, post⟩
  unfold bMin2 at e
  split at e
  · cases e
    obtain ⟨v, u, rfl, r1, r2⟩ := rs.two
    simp only [Rep] at r1 r2; subst r1; subst r2
    exact ⟨_, _, rfl, post.now hr rfl⟩
  · cases e
theorem b_max (hc : X.calm = true) : CallR X (.builtin "max") (rF X.K bMax2) := by
  refine CallR.weak (call_max2 hc) ?_
  rintro xs H Q ⟨m, A, ds, d, A', hr, rs, e, post⟩
  unfold bMax2 at e
  split at e
  · cases e
    obtain ⟨v, u, rfl, r1, r2⟩ := rs.two
    simp only [Rep] at r1 r2; subst r1; subst r2
    exact ⟨_, _, rfl, post.now hr rfl⟩
  · cases e
theorem b_int : CallR X (.type "int") (rF X.K bInt) := by
  refine CallR.weak call_int1 ?_
  rintro xs H Q ⟨m, A, ds, d, A', hr, rs, e, post⟩
  unfold bInt at e
  split at e
  · cases e
    obtain ⟨v, rfl, r⟩ := rs.one
    simp only [Rep] at r; subst r
    exact .inl ⟨_, rfl, post.now hr rfl⟩
  · cases e
    obtain ⟨v, rfl, r⟩ := rs.one
    simp only [Rep] at r; subst r
    exact .inr ⟨_, rfl, post.now hr rfl⟩
  · cases e
theorem call_str_bl : CallR X (.type "str") (fun xs H Q => ∃ k : Bool, xs = [.bl k] ∧ Q (.str (if k = true then "True" else "False")) H) := by
  intro pins s q H xs us Q I r ⟨k, ex, h⟩
  subst ex
  obtain ⟨u, rfl, e⟩ := vals1 r
  cases e
  refine PySem.P.str_of_bool ⟨.str _, H, I.tok _, ⟨_, rfl⟩, ?_⟩
  cases k <;> exact h
theorem b_str : CallR X (.type "str") (rF X.K bStr) := by
  refine CallR.weak (CallR.or call_str_int call_str_bl) ?_
  rintro xs H Q ⟨m, A, ds, d, A', hr, rs, e, post⟩
  unfold bStr at e
  split at e
  · split at e
    · cases e
      rename_i hz
      obtain ⟨v, rfl, r⟩ := rs.one
      simp only [Rep] at r; subst r
      exact .inl ⟨_, rfl, hz, post.now hr rfl⟩
    · cases e
  · cases e
    obtain ⟨v, rfl, r⟩ := rs.one
    simp only [Rep] at r; subst r
    exact .inr ⟨_, rfl, post.now hr rfl⟩
  · cases e
/-! sum(x, start=0) -/
section
variable {prog : Program} {w : World} {A : Around} {E : Value → Shared → Prop} {s : Shared}
theorem args_sumK (a b : Value) : argsOk "sum" ⟨[a], [("start", b)]⟩ := by unfold argsOk; kernel_rfl
theorem call_tree_kw {id : String} {b : Builtin} {args : List Value} {kw : List (Str × Value)} {Q : Value → Shared → Prop} (hk : builtinKind id = none) (hp : plainId id = true)
    (hb : entryFor table id = some b) (ha : argsOk id ⟨args, kw⟩)
    (hc : wpAny (model prog w) A.in1 (b ⟨args, kw⟩) (fun fin s' => match fin with
      | .done f => (match (Except.ok f : Result) with | .ok (.ret v) => Q v s' | .ok _ => False | .error e => E e s')
      | .again c' => c'.quiet = true ∧ codeAny (model prog w) A c' (fun r s' => match r with | .ok (.ret v) => Q v s' | .ok _ => False | .error e => E e s') s') E s) :
    wpAny (model prog w) A (call (.builtin id) args kw) Q E s := by
  refine wpAny_call (codeAny_call_builtin hp hb ?_)
  simp only [checkBuiltinCall, hk]
  cases hsig : Manifest.signature? id with
  | none => exact wpAny_pure hc
  | some sig =>
    simp only [argsOk, hsig] at ha
    have h2 : Bind.checkArgs id sig ⟨args, kw⟩ = pure () := ha
    show wpAny _ A.in1 (Bind.checkArgs id sig ⟨args, kw⟩) _ _ s
    rw [h2]; exact wpAny_pure hc
theorem sum_start {l : Addr} {its : List Value} {ns : List Int} {t : Tok} {Q : Value → Shared → Prop} (hh : A.handled = none) (hl : s.heap.IsList l its.toArray) (hi : IntsAre its ns)
    (h : ∀ h' tk t', (∀ b o, s.heap.get? b = some o → h'.get? b = some o) → Q (.int ns.sum t') { s with heap := h', toks := tk }) : wpAny (model prog w) A (call (.builtin "sum") [.ref l] [("start", .int 0 t)]) Q E s := by
  obtain ⟨xs, e⟩ := hi.allInts.items
  have hn : numsOf (intItems xs).toList = ns := by rw [← e]; exact hi.numsOf
  rw [nums_intItems] at hn
  rw [e] at hl
  have fin : ∀ h' tk t', (∀ b o, s.heap.get? b = some o → h'.get? b = some o) → Q (.int (preSum (numAt xs) xs.size) t') { s with heap := h', toks := tk } := fun h' tk t' hk => by
    have := h h' tk t' hk
    rw [preSum_eq, List.take_of_length_le (by simp), hn]; exact this
  refine call_tree_kw F.kind_sum F.plain_sum F.entry_sum (args_sumK _ _) ?_
  unfold Builtin.«sum»
  simp only [List.length_cons, List.length_nil]
  rw [if_neg (by decide)]
  refine wpAny_bind (wpAny_of_eq (show Builtin.Builtins.bindParams "sum" ["start"] 0 ⟨[], [("start", .int 0 t)]⟩ = pure [some (.int 0 t)] from by first | rfl | kernel_rfl) ?_)
  refine wpAny_bind (iter_intList hl fun s₂ es st hfp hlI => ?_)
  subst es
  have W := Walks.list (prog := prog) (w := w) (A := A.in1) hh _ l hlI (intItems xs)
  refine wpAny_bind (wpAny_rule (wpAny_bind (wpAny_mkInt (wpAny_bind (wpAny_pure ?_)))))
  simp only [List.forIn_cons, List.forIn_nil]
  refine wpAny_bind (wpAny_bind (wpAny_bind (wpAny_isInstance (T := "int") (b := false) (typeIs_int _ _ _) PySem.sub_int_str ?_)))
  simp only [Bool.false_eq_true, if_false]
  refine wpAny_pure (wpAny_bind (wpAny_bind (wpAny_isInstance (T := "int") (b := false) (typeIs_int _ _ _) PySem.sub_int_bytes ?_)))
  simp only [Bool.false_eq_true, if_false]
  refine wpAny_pure (wpAny_bind (wpAny_bind (wpAny_isInstance (T := "int") (b := false) (typeIs_int _ _ _) PySem.sub_int_bytearray ?_)))
  simp only [Bool.false_eq_true, if_false]
  refine wpAny_pure (wpAny_pure ?_)
  refine wpAny_bind (wpAny_newObj_type ?_)
  refine wpAny_pure ⟨plainId_quiet F.plain_sum_loop _, codeAny_sum_loopG W (numAt xs) (fun _ _ => intItems_at) _ (fun hm => Nat.lt_irrefl _ (hfp _ hm)) _ 0 _ _ 0 0 (Or.inl rfl) rfl (Nat.zero_le _)
    (W.frame _ _ _ st fun b _ o e => Heap.get?_push_of_some _ e) (Heap.get?_push_size _ rfl) fun h' tk t' hk => ?_⟩
  have := fin h' tk t' fun b o e => hk b o (by simp; exact Nat.ne_of_lt (Heap.lt_size e)) (Nat.ne_of_lt (Nat.lt_of_lt_of_le (Heap.lt_size e) (by show s.heap.objs.size ≤ (s.heap.push _).objs.size; rw [Heap.size_push]; exact Nat.le_succ _))) (Heap.get?_push_of_some _ (Heap.get?_push_of_some _ e))
  simpa [intItems] using this
end
def CallRK' (X : Cx) (id : String) (ks : List Str) (op : List D → List D → Hpp → R D) : Prop := CallRK X (.builtin id) ks fun xs zs H Q => ∃ (m : List Addr) (A : Hpp) (ds es : List D) (d : D) (A' : Hpp), HR X.K H m A ∧ RepL X.K H m ds xs ∧ RepL X.K H m es zs ∧ op ds es A = .ok d A' ∧ PostD X.K H m d A' Q
theorem ints_rep {K : PySem.W.Frag} {H : Hp} {m : List Addr} : ∀ {l : List D} {vs : List V} {is : List Int}, RepL K H m l vs → intsD l = some is → vs = is.map V.int
  | [], vs, is, r, e => by cases e; simpa [RepL] using r
  | d :: l, vs, is, r, e => by
    obtain ⟨v, t, rfl, rd, rt⟩ := r
    cases d <;> simp only [intsD, reduceCtorEq] at e
    obtain ⟨js, hj, rfl⟩ := Option.map_eq_some_iff.mp e
    simp only [Rep] at rd
    subst rd
    rw [ints_rep rt hj]; rfl
theorem b_sumK (hc : X.calm = true) : CallRK' X "sum" ["start"] bSumK := by
  rintro pins s q H xs zs us ws Q I rx rz ⟨m, A, ds, es, d, A', hr, r1, r2, e, post⟩
  unfold bSumK at e
  split at e
  · split at e
    · rename_i l hl
      split at e
      · rename_i is hi
        cases e
        obtain ⟨v, rfl, rv⟩ := r1.one
        obtain ⟨z, rfl, rz'⟩ := r2.one
        simp only [Rep] at rz'; subst rz'
        obtain ⟨a, vs, rfl, _, ha, rp⟩ := hr.lst hl rv
        have ev := ints_rep rp hi
        subst ev
        obtain ⟨its, rvs, hll, _⟩ := I.list (SqL.of ha)
        obtain ⟨u, rfl, ru⟩ := vals1 rx
        obtain ⟨w, rfl, rw'⟩ := vals1 rz
        cases ru
        obtain ⟨t, rfl⟩ := rw'
        exact sum_start (I.ok.hd hc) hll.isList rvs.ints fun h' tk t' hk => ⟨.int _, H, I.kept hk, ⟨_, rfl⟩, post.now hr rfl⟩
      · cases e
    · cases e
  · cases e
/-! isinstance -/
def kindOf : D → String
  | .non => "NoneType" | .bl _ => "bool" | .int _ => "int" | .str _ => "str" | .tup _ => "tuple" | .ref _ => "list" | .fn _ => "function"
def isiB : String → Ty → Bool
  | "bool", T => decide (T = .int ∨ T = .bool)
  | "int", T => decide (T = .int)
  | "str", T => decide (T = .str)
  | "tuple", T => decide (T = .tuple)
  | "list", T => decide (T = .list)
  | _, _ => false
theorem kit_all (T : Ty) : kitB "NoneType" T.name = some (isiB "NoneType" T) ∧ kitB "bool" T.name = some (isiB "bool" T) ∧ kitB "int" T.name = some (isiB "int" T) ∧ kitB "str" T.name = some (isiB "str" T) ∧
    kitB "tuple" T.name = some (isiB "tuple" T) ∧ kitB "list" T.name = some (isiB "list" T) ∧ kitB "dict" T.name = some (isiB "dict" T) := by
  cases T <;> decide +kernel
def rIsiD (K : PySem.W.Frag) (T : Ty) : List V → Hp → VK → Prop := fun xs H Q => ∃ (x : V) (m : List Addr) (A : Hpp) (dx d : D) (A' : Hpp), xs = [x, .ty T.name] ∧ HR K H m A ∧ Rep K H m dx x ∧ opIsi T dx A = .ok d A' ∧ PostD K H m d A' Q
theorem tup_ty {K : PySem.W.Frag} {H : Hp} {p : Addr} {vs : List V} (h : TupAt K H p vs) : TyX K H (.ref p) (.type "tuple") := by
  rcases h with h | ⟨o, its, n, h1, h2, _⟩
  · exact .base (.tup h)
  · exact .kTuple h1 h2
theorem b_isi (T : Ty) : CallR X (.builtin "isinstance") (rIsiD X.K T) := by
  refine CallR.weak call_isi ?_
  rintro xs H Q ⟨x, m, A, dx, d, A', rfl, hr, rx, e, post⟩
  obtain ⟨k1, k2, k3, k4, k5, k6, k7⟩ := kit_all T
  unfold opIsi at e
  split at e
  · cases e
    simp only [Rep] at rx; subst rx
    exact ⟨_, _, _, _, _, rfl, .ty _, .base .non, kit_ty k1, post.now hr rfl⟩
  · cases e
    simp only [Rep] at rx; subst rx
    exact ⟨_, _, _, _, _, rfl, .ty _, .base (.bl _), kit_ty k2, post.now hr rfl⟩
  · cases e
    simp only [Rep] at rx; subst rx
    exact ⟨_, _, _, _, _, rfl, .ty _, .base (.int _), kit_ty k3, post.now hr rfl⟩
  · cases e
    simp only [Rep] at rx; subst rx
    exact ⟨_, _, _, _, _, rfl, .ty _, .base (.str _), kit_ty k4, post.now hr rfl⟩
  · cases e
    obtain ⟨p, vs, rfl, tp, rp⟩ := rep_tup rx
    exact ⟨_, _, _, _, _, rfl, .ty _, tup_ty tp, kit_ty k5, post.now hr rfl⟩
  · split at e
    · cases e
      rename_i hl
      obtain ⟨a, vs, rfl, _, ha, rp⟩ := hr.lst hl rx
      exact ⟨_, _, _, _, _, rfl, .ty _, .base (.lst ha), kit_ty k6, post.now hr rfl⟩
    · cases e
      rename_i hl
      obtain ⟨a, vs, rfl, _, ha, rp⟩ := hr.dct hl rx
      exact ⟨_, _, _, _, _, rfl, .ty _, .base (.dK ha), kit_ty k7, post.now hr rfl⟩
    · cases e
  · cases e
/-! methods -/
theorem m_append : MtR X "list.append" (rM X.K mAppend) := by
  refine MtR.weak (fun pins s q H x xs v us Q I rx ry z => mt_append pins s q H x xs v us Q I rx ry z) ?_
  rintro x xs H Q ⟨m, A, dx, ds, d, A', hr, rx, rs, e, post⟩
  unfold mAppend at e
  split at e
  · obtain ⟨v, rfl, r⟩ := rs.one
    split at e
    · rename_i hl
      split at e
      · rename_i hz
        cases e
        obtain ⟨a, vs, rfl, em, ha, rp⟩ := hr.lst hl rx
        have kp : Keep H (upd H a (.lst (vs ++ [v]))) := Keep.write ha (fun _ z => by cases z)
        obtain ⟨h1, h2⟩ := hr.set (o := .lst (vs ++ [v])) (u' := .lst _) hl em rfl rfl ⟨_, upd_same, RepL.mono kp (List.prefix_refl _) _ _ (rp.append (RepL.single r))⟩
        exact ⟨a, vs, v, rfl, rfl, ha, by rw [rp.length]; exact hz, post m .non _ (List.prefix_refl _) h2 h1 rfl⟩
      · cases e
    · cases e
  · cases e
theorem m_extend : MtR X "list.extend" (rM X.K mExtend) := by
  refine MtR.weak (fun pins s q H x xs v us Q I rx ry z => mt_extend pins s q H x xs v us Q I rx ry z) ?_
  rintro x xs H Q ⟨m, A, dx, ds, d, A', hr, rx, rs, e, post⟩
  unfold mExtend at e
  split at e
  · obtain ⟨v, rfl, r⟩ := rs.one
    split at e
    · rename_i hl hl2
      split at e
      · rename_i hz
        cases e
        obtain ⟨a, vs, rfl, em, ha, rp⟩ := hr.lst hl rx
        obtain ⟨b, ws, rfl, em2, hb, rq⟩ := hr.lst hl2 r
        have kp : Keep H (upd H a (.lst (vs ++ ws))) := Keep.write ha (fun _ z => by cases z)
        obtain ⟨h1, h2⟩ := hr.set (o := .lst (vs ++ ws)) (u' := .lst _) hl em rfl rfl ⟨_, upd_same, RepL.mono kp (List.prefix_refl _) _ _ (rp.append rq)⟩
        exact ⟨a, b, vs, ws, rfl, rfl, ha, hb, by rw [rp.length, rq.length]; exact hz, post m .non _ (List.prefix_refl _) h2 h1 rfl⟩
      · cases e
    · cases e
  · cases e
theorem strs_rep {K : PySem.W.Frag} {H : Hp} {m : List Addr} : ∀ {l : List D} {vs : List V} {bs : List Str}, RepL K H m l vs → strsD l = some bs → vs = bs.map V.str
  | [], vs, bs, r, e => by simp only [RepL] at r; subst r; simp only [strsD, Option.some.injEq] at e; subst e; rfl
  | d :: l, vs, bs, r, e => by
    simp only [RepL] at r
    obtain ⟨v, t, rfl, a, b⟩ := r
    cases d with
    | str k =>
      simp only [strsD] at e
      obtain ⟨cs, h1, h2⟩ := Option.map_eq_some_iff.mp e
      subst h2
      simp only [Rep] at a
      subst a
      rw [strs_rep b h1]
      rfl
    | _ => simp [strsD] at e
theorem m_join : MtR X "str.join" (rM X.K mJoin) := by
  refine MtR.weak mt_join ?_
  rintro x xs H Q ⟨m, A, dx, ds, d, A', hr, rx, rs, e, post⟩
  unfold mJoin at e
  split at e
  · obtain ⟨v, rfl, r⟩ := rs.one
    split at e
    · rename_i hl
      split at e
      · rename_i ys hy
        split at e
        · rename_i hz
          cases e
          obtain ⟨a, vs, rfl, em, ha, rp⟩ := hr.lst hl r
          have := strs_rep rp hy
          subst this
          simp only [Rep] at rx; subst rx
          exact ⟨_, a, ys, rfl, rfl, .inl (SqL.of ha), hz, post.now hr rfl⟩
        · cases e
      · cases e
    · cases e
  · obtain ⟨v, rfl, r⟩ := rs.one
    split at e
    · rename_i ys hy
      split at e
      · rename_i hz
        cases e
        obtain ⟨a, vs, rfl, ha, rp⟩ := rep_tup r
        have := strs_rep rp hy
        subst this
        simp only [Rep] at rx; subst rx
        exact ⟨_, a, ys, rfl, rfl, .inr ha.sq, hz, post.now hr rfl⟩
      · cases e
    · cases e
  · cases e
end
end Rf
namespace Rf
open PySem PySem.Spec PyProof.Rows L2
section
variable {X : Cx} {a b c e : Expr} {fa fb fc f : M} {pos p : Pos}
abbrev EO (X : Cx) (e : Expr) (f : M) : Prop := PE X e (tE X.K f)
abbrev TO' (X : Cx) (e : Expr) (f : M) : Prop := PT X e (tT X.K (mTest f))
theorem e_var {i : Nat} {x : Str} (hN : X.N[i]? = some x) (hv : Vis X.env.scope x) (hd : (x == ("__debug__" : Str)) = false) (hcd : (x == ("__classdict__" : Str)) = false) : EO X (.Name x pos) (mVar i) := by
  refine PE.weak (pe_var hN hv hd hcd) ?_
  rintro s H Q ⟨m, A, L, d, A', hr, lr, e, post⟩
  unfold mVar at e
  split at e
  · cases e
    rename_i h
    obtain ⟨v, h1, h2⟩ := lr.at_ _ _ h
    exact ⟨v, h1, post.now hr h2⟩
  · cases e
theorem e_c {d : D} {v : V} (h : PE X e (tC v)) (r : ∀ H m, Rep X.K H m d v) : EO X e (mC d) := by
  refine PE.weak h ?_
  rintro s H Q ⟨m, A, L, d', A', hr, lr, e, post⟩
  cases e
  exact post.now hr (r _ _)
theorem e_int {i : Int} {j : Nat} : EO X (.Constant (.int i) j pos) (mC (.int i)) := e_c pe_int fun _ _ => rfl
theorem e_bl {i : Bool} {j : Nat} : EO X (.Constant (.bool i) j pos) (mC (.bl i)) := e_c pe_bl fun _ _ => rfl
theorem e_str {i : Str} {j : Nat} : EO X (.Constant (.str i) j pos) (mC (.str i)) := e_c pe_str fun _ _ => rfl
theorem e_non {j : Nat} : EO X (.Constant .none j pos) (mC .non) := e_c pe_non fun _ _ => rfl
/-- two readings one behind the other -/
theorem two_of {K : PySem.W.Frag} {s : L2.St} {H : Hp} {Q : VK} {g : D → D → Hpp → R D} (h : tE K (mBin g fa fb) s H Q) : tOp (rB K g) (tE K fa) (tE K fb) s H Q := by
  obtain ⟨m, A, L, d, A', hr, lr, e, post⟩ := h
  obtain ⟨x, A1, e1, e⟩ := R.bind_eq_ok e
  obtain ⟨y, A2, e2, e3⟩ := R.bind_eq_ok e
  refine ⟨m, A, L, x, A1, hr, lr, e1, fun m1 v H1 p1 k1 hr1 r1 => ?_⟩
  refine ⟨m1, A1, L, y, A2, hr1, lr.mono k1 p1, e2, fun m2 u H2 p2 k2 hr2 r2 => ?_⟩
  exact ⟨m2, A2, x, y, d, A', hr2, Rep.mono k2 p2 _ _ r1, r2, e3, (post.later p1 k1).later p2 k2⟩
theorem e_bin {op : Operator} {g : D → D → Hpp → R D} (hg : binOf op = some g) (ha : EO X a fa) (hb : EO X b fb) : EO X (.BinOp a op b pos) (mBin g fa fb) :=
  PE.weak (pe_op (o_of hg) ha hb) fun _ _ _ h => two_of h
theorem e_neg (ha : EO X a fa) : EO X (.UnaryOp .USub a pos) (mUn opNeg fa) := by
  refine PE.weak (pe_un u_neg ha) ?_
  rintro s H Q ⟨m, A, L, d, A', hr, lr, e, post⟩
  obtain ⟨x, A1, e1, e⟩ := R.bind_eq_ok e
  refine ⟨m, A, L, x, A1, hr, lr, e1, fun m1 v H1 p1 k1 hr1 r1 => ?_⟩
  exact ⟨m1, A1, x, d, A', hr1, r1, e, post.later p1 k1⟩
theorem e_cmp (hu : X.A.units + 65 < cLine) {op : CmpOp} {g : D → D → Hpp → R D} (hg : cmpOf op = some g) (ha : EO X a fa) (hb : EO X b fb) (hm : behindInMarks op b = false) : EO X (.Compare a [op] [b] pos) (mBin g fa fb) :=
  PE.weak (pe_cmpR (c_of hu hg) ha hb hm) fun _ _ _ h => two_of h
theorem cmp_bool {op : CmpOp} {g : D → D → Hpp → R D} (hg : cmpOf op = some g) {x y d : D} {A A' : Hpp} (e : g x y A = .ok d A') : ∃ k, d = .bl k ∧ A' = A := by
  cases op <;> simp only [cmpOf, Option.some.injEq, reduceCtorEq] at hg <;> subst hg
  · unfold cmpEq at e
    obtain ⟨k, A1, e1, e2⟩ := R.bind_eq_ok e
    obtain ⟨_, rfl⟩ := R.ofO_ok e1
    cases e2
    exact ⟨_, rfl, rfl⟩
  · unfold cmpNe at e
    obtain ⟨k, A1, e1, e2⟩ := R.bind_eq_ok e
    obtain ⟨_, rfl⟩ := R.ofO_ok e1
    cases e2
    exact ⟨_, rfl, rfl⟩
  all_goals
    first
      | (unfold cmpLt at e; split at e <;> cases e <;> exact ⟨_, rfl, rfl⟩)
      | (unfold cmpLe at e; split at e <;> cases e <;> exact ⟨_, rfl, rfl⟩)
      | (unfold cmpGt at e; split at e <;> cases e; exact ⟨_, rfl, rfl⟩)
      | (unfold cmpGe at e; split at e <;> cases e; exact ⟨_, rfl, rfl⟩)
      | (unfold cmpIs at e
         split at e
         · cases e; exact ⟨_, rfl, rfl⟩
         · split at e
           · cases e; exact ⟨_, rfl, rfl⟩
           · cases e
         · cases e)
      | (unfold cmpIsNot at e
         split at e
         · cases e; exact ⟨_, rfl, rfl⟩
         · split at e
           · cases e; exact ⟨_, rfl, rfl⟩
           · cases e
         · cases e)
      | (unfold cmpIn at e
         obtain ⟨k, A1, e1, e2⟩ := R.bind_eq_ok e
         obtain ⟨_, rfl⟩ := R.ofO_ok e1
         cases e2
         exact ⟨_, rfl, rfl⟩)
      | (unfold cmpNotIn at e
         obtain ⟨k, A1, e1, e2⟩ := R.bind_eq_ok e
         obtain ⟨_, rfl⟩ := R.ofO_ok e1
         cases e2
         exact ⟨_, rfl, rfl⟩)
theorem test_of {K : PySem.W.Frag} {s : L2.St} {H : Hp} {Q : Bool → Hp → Prop} (h : tT K (mTest f) s H Q) :
    ∃ (m : List Addr) (A : Hpp) (L : Loc) (d : D) (A' : Hpp) (k : Bool), HR K H m A ∧ LR K H m L s ∧ f L A = .ok d A' ∧ truth d A' = some k ∧ PostB K H m A' (Q k) := by
  obtain ⟨m, A, L, k, A', hr, lr, e, post⟩ := h
  obtain ⟨x, A1, e1, e⟩ := R.bind_eq_ok e
  obtain ⟨e2, rfl⟩ := R.ofO_ok e
  exact ⟨m, A, L, x, _, k, hr, lr, e1, e2, post⟩
theorem t_cmp (hu : X.A.units + 65 < cLine) {op : CmpOp} {g : D → D → Hpp → R D} (hg : cmpOf op = some g) (ha : EO X a fa) (hb : EO X b fb) (hm : behindInMarks op b = false) : TO' X (.Compare a [op] [b] pos) (mBin g fa fb) := by
  refine PT.weak (pt_cmpR (c_of hu hg) ha hb hm) fun s H Q h => ?_
  obtain ⟨m, A, L, d, A', k, hr, lr, e, et, post⟩ := test_of h
  refine two_of ⟨m, A, L, d, A', hr, lr, e, fun m' v H' p' k' hr' r' => ?_⟩
  obtain ⟨x, A1, e1, e⟩ := R.bind_eq_ok e
  obtain ⟨y, A2, e2, e3⟩ := R.bind_eq_ok e
  obtain ⟨j, rfl, rfl⟩ := cmp_bool hg e3
  simp only [Rep] at r'
  simp only [truth, Option.some.injEq] at et
  subst et
  exact ⟨j, r', post m' H' p' k' hr'⟩
theorem truth_tru {K : PySem.W.Frag} {H : Hp} {m : List Addr} {A : Hpp} {d : D} {x : V} {k : Bool} (hr : HR K H m A) (r : Rep K H m d x) (e : truth d A = some k) : TruV K x H k := by
  cases d with
  | non => simp only [Rep] at r; subst r; simp only [truth, Option.some.injEq] at e; exact e.symm
  | bl b => simp only [Rep] at r; subst r; simp only [truth, Option.some.injEq] at e; exact e.symm
  | int b => simp only [Rep] at r; subst r; simp only [truth, Option.some.injEq] at e; exact e.symm
  | str b =>
    simp only [Rep] at r; subst r
    simp only [truth] at e
    split at e
    · cases e; rename_i h; exact ⟨h, rfl⟩
    · cases e
  | tup l =>
    obtain ⟨p, vs, rfl, tp, rp⟩ := rep_tup r
    simp only [truth, Option.some.injEq] at e
    refine .inr (.inl ⟨vs, tp.sq, ?_⟩)
    rw [← e]
    have := rp.length
    cases l <;> cases vs <;> simp_all
  | ref n =>
    simp only [truth] at e
    split at e
    · rename_i l hl
      obtain ⟨a, vs, rfl, _, ha, rp⟩ := hr.lst hl r
      cases e
      refine .inl ⟨vs, SqL.of ha, ?_⟩
      have := rp.length
      cases l <;> cases vs <;> simp_all
    · rename_i l hl
      obtain ⟨a, vs, rfl, _, ha, rp⟩ := hr.rd hl r
      cases e
      refine .inl ⟨vs, ha.sq, ?_⟩
      have := rp.length
      cases l <;> cases vs <;> simp_all
    · rename_i l hl
      obtain ⟨a, vs, rfl, _, ha, rp⟩ := hr.dct hl r
      cases e
      refine .inr (.inr ⟨vs, ha, ?_⟩)
      have := rp.length
      cases l <;> cases vs <;> simp_all
    · cases e
  | fn x => simp [truth] at e
theorem t_val (ha : EO X e f) (he : ∀ whole, isTrue e X.env whole = (do let v ← whole; standAt e.pos; holding [v] (truthy v))) : TO' X e f := by
  refine PT.weak (pt_truth ha he) fun s H Q h => ?_
  obtain ⟨m, A, L, d, A', k, hr, lr, e, et, post⟩ := test_of h
  exact ⟨m, A, L, d, A', hr, lr, e, fun m' v H' p' k' hr' r' => ⟨k, truth_tru hr' r' et, post m' H' p' k' hr'⟩⟩
/-! and, or, not, if -/
theorem and_of {K : PySem.W.Frag} {s : L2.St} {H : Hp} {Q : VK} (h : tE K (mAnd fa fb) s H Q) : tAndT K (tE K fa) (tE K fb) s H Q := by
  obtain ⟨m, A, L, d, A', hr, lr, e, post⟩ := h
  obtain ⟨x, A1, e1, e⟩ := R.bind_eq_ok e
  obtain ⟨k, A2, e2, e3⟩ := R.bind_eq_ok e
  obtain ⟨e2, rfl⟩ := R.ofO_ok e2
  refine ⟨m, A, L, x, _, hr, lr, e1, fun m1 v H1 p1 k1 hr1 r1 => ⟨k, truth_tru hr1 r1 e2, ?_⟩⟩
  cases k with
  | true => exact ⟨m1, _, L, d, A', hr1, lr.mono k1 p1, e3, post.later p1 k1⟩
  | false => cases e3; exact post m1 v H1 p1 k1 hr1 r1
theorem or_of {K : PySem.W.Frag} {s : L2.St} {H : Hp} {Q : VK} (h : tE K (mOr fa fb) s H Q) : tOrT K (tE K fa) (tE K fb) s H Q := by
  obtain ⟨m, A, L, d, A', hr, lr, e, post⟩ := h
  obtain ⟨x, A1, e1, e⟩ := R.bind_eq_ok e
  obtain ⟨k, A2, e2, e3⟩ := R.bind_eq_ok e
  obtain ⟨e2, rfl⟩ := R.ofO_ok e2
  refine ⟨m, A, L, x, _, hr, lr, e1, fun m1 v H1 p1 k1 hr1 r1 => ⟨k, truth_tru hr1 r1 e2, ?_⟩⟩
  cases k with
  | false => exact ⟨m1, _, L, d, A', hr1, lr.mono k1 p1, e3, post.later p1 k1⟩
  | true => cases e3; exact post m1 v H1 p1 k1 hr1 r1
theorem e_and {rest : List Expr} (ha : EO X a fa) (hb : EO X (.BoolOp .And (b :: rest) pos) fb) : EO X (.BoolOp .And (a :: b :: rest) pos) (mAnd fa fb) := PE.weak (pe_andT ha hb) fun _ _ _ h => and_of h
theorem e_or {rest : List Expr} (ha : EO X a fa) (hb : EO X (.BoolOp .Or (b :: rest) pos) fb) : EO X (.BoolOp .Or (a :: b :: rest) pos) (mOr fa fb) := PE.weak (pe_orT ha hb) fun _ _ _ h => or_of h
abbrev WO (X : Cx) (e : Expr) (f : M) : Prop := PW X e (tT X.K (mTest f))
theorem w_and1 (ha : TO' X a fa) : WO X (.BoolOp .And [a] pos) fa := pw_and1 ha
theorem w_or1 (ha : TO' X a fa) : WO X (.BoolOp .Or [a] pos) fa := pw_or1 ha
theorem w_and {rest : List Expr} (ha : TO' X a fa) (hb : WO X (.BoolOp .And (b :: rest) pos) fb) : WO X (.BoolOp .And (a :: b :: rest) pos) (mAnd fa fb) := by
  refine PW.weak (pw_and ha hb) fun s H Q h => ?_
  obtain ⟨m, A, L, d, A', k, hr, lr, e, et, post⟩ := test_of h
  obtain ⟨x, A1, e1, e⟩ := R.bind_eq_ok e
  obtain ⟨j, A2, e2, e3⟩ := R.bind_eq_ok e
  obtain ⟨e2', rfl⟩ := R.ofO_ok e2
  refine ⟨m, A, L, j, _, hr, lr, by unfold mTest; rw [e1]; exact e2, fun m1 H1 p1 k1 hr1 => ?_⟩
  cases j with
  | true =>
    refine ⟨m1, _, L, k, A', hr1, lr.mono k1 p1, ?_, fun m2 H2 p2 k2 hr2 => post m2 H2 (p1.trans p2) (k1.trans k2) hr2⟩
    unfold mTest
    rw [show fb L _ = _ from e3]
    simp [et, R.ofO]
  | false =>
    cases e3
    rw [et] at e2'
    cases e2'
    exact post m1 H1 p1 k1 hr1
theorem w_or {rest : List Expr} (ha : TO' X a fa) (hb : WO X (.BoolOp .Or (b :: rest) pos) fb) : WO X (.BoolOp .Or (a :: b :: rest) pos) (mOr fa fb) := by
  refine PW.weak (pw_or ha hb) fun s H Q h => ?_
  obtain ⟨m, A, L, d, A', k, hr, lr, e, et, post⟩ := test_of h
  obtain ⟨x, A1, e1, e⟩ := R.bind_eq_ok e
  obtain ⟨j, A2, e2, e3⟩ := R.bind_eq_ok e
  obtain ⟨e2', rfl⟩ := R.ofO_ok e2
  refine ⟨m, A, L, j, _, hr, lr, by unfold mTest; rw [e1]; exact e2, fun m1 H1 p1 k1 hr1 => ?_⟩
  cases j with
  | false =>
    refine ⟨m1, _, L, k, A', hr1, lr.mono k1 p1, ?_, fun m2 H2 p2 k2 hr2 => post m2 H2 (p1.trans p2) (k1.trans k2) hr2⟩
    unfold mTest
    rw [show fb L _ = _ from e3]
    simp [et, R.ofO]
  | true =>
    cases e3
    rw [et] at e2'
    cases e2'
    exact post m1 H1 p1 k1 hr1
theorem e_not (ha : EO X a fa) : EO X (.UnaryOp .Not a pos) (mNot fa) := by
  refine PE.weak (pe_notT ha) ?_
  rintro s H Q ⟨m, A, L, d, A', hr, lr, e, post⟩
  obtain ⟨k, A1, e1, e⟩ := R.bind_eq_ok e
  obtain ⟨x, A2, e2, e3⟩ := R.bind_eq_ok e1
  obtain ⟨e3, rfl⟩ := R.ofO_ok e3
  cases e
  exact ⟨m, A, L, x, _, hr, lr, e2, fun m1 v H1 p1 k1 hr1 r1 => ⟨k, truth_tru hr1 r1 e3, post m1 _ H1 p1 k1 hr1 rfl⟩⟩
theorem t_not (ha : TO' X a fa) : TO' X (.UnaryOp .Not a pos) (mNot fa) := by
  refine PT.weak (pt_not ha) fun s H Q h => ?_
  obtain ⟨m, A, L, d, A', k, hr, lr, e, et, post⟩ := test_of h
  obtain ⟨j, A1, e1, e⟩ := R.bind_eq_ok e
  cases e
  simp only [truth, Option.some.injEq] at et
  subst et
  exact ⟨m, A, L, j, _, hr, lr, e1, post⟩
theorem if_of {K : PySem.W.Frag} {s : L2.St} {H : Hp} {Q : VK} (h : tE K (mIf fc fa fb) s H Q) : tIf (tT K (mTest fc)) (tE K fa) (tE K fb) s H Q := by
  obtain ⟨m, A, L, d, A', hr, lr, e, post⟩ := h
  obtain ⟨k, A1, e1, e2⟩ := R.bind_eq_ok e
  refine ⟨m, A, L, k, A1, hr, lr, e1, fun m1 H1 p1 k1 hr1 => ?_⟩
  cases k with
  | true => exact ⟨m1, A1, L, d, A', hr1, lr.mono k1 p1, e2, post.later p1 k1⟩
  | false => exact ⟨m1, A1, L, d, A', hr1, lr.mono k1 p1, e2, post.later p1 k1⟩
theorem e_if (hc : TO' X c fc) (ha : EO X a fa) (hb : EO X b fb) : EO X (.IfExp c a b pos) (mIf fc fa fb) := PE.weak (pe_ifExp hc ha hb) fun _ _ _ h => if_of h
theorem e_chain (hu : X.A.units + 65 < cLine) {op op' : CmpOp} {g g' : D → D → Hpp → R D} (hg : cmpOf op = some g) (hg' : cmpOf op' = some g') (ha : EO X a fa) (hb : EO X b fb) (hc : EO X c fc) (hm : lastMarks [op, op'] [b, c] = false) :
    EO X (.Compare a [op, op'] [b, c] pos) (mChain g g' fa fb fc) := by
  refine PE.weak (pe_chain (c_of hu hg) (c_of hu hg') ha hb hc hm) ?_
  rintro s H Q ⟨m, A, L, d, A', hr, lr, e, post⟩
  obtain ⟨x, A1, e1, e⟩ := R.bind_eq_ok e
  obtain ⟨y, A2, e2, e⟩ := R.bind_eq_ok e
  obtain ⟨z, A3, e3, e4⟩ := R.bind_eq_ok e
  obtain ⟨j, rfl, rfl⟩ := cmp_bool hg e3
  refine ⟨m, A, L, x, A1, hr, lr, e1, fun m1 v H1 p1 k1 hr1 r1 => ?_⟩
  refine ⟨m1, A1, L, y, _, hr1, lr.mono k1 p1, e2, fun m2 u H2 p2 k2 hr2 r2 => ?_⟩
  refine ⟨m2, _, x, y, .bl j, _, hr2, Rep.mono k2 p2 _ _ r1, r2, e3, fun m3 w H3 p3 k3 hr3 r3 => ?_⟩
  simp only [Rep] at r3
  refine ⟨j, r3, ?_⟩
  cases j with
  | false => cases e4; exact post m3 _ H3 (p1.trans (p2.trans p3)) (k1.trans (k2.trans k3)) hr3 rfl
  | true =>
    obtain ⟨w', A4, e5, e6⟩ := R.bind_eq_ok e4
    refine ⟨m3, _, L, w', A4, hr3, lr.mono (k1.trans (k2.trans k3)) (p1.trans (p2.trans p3)), e5, fun m4 u4 H4 p4 k4 hr4 r4 => ?_⟩
    exact ⟨m4, A4, y, w', d, A', hr4, Rep.mono (k3.trans k4) (p3.trans p4) _ _ r2, r4, e6, post.later (p1.trans (p2.trans (p3.trans p4))) (k1.trans (k2.trans (k3.trans k4)))⟩
theorem t_chain (hu : X.A.units + 65 < cLine) {op op' : CmpOp} {g g' : D → D → Hpp → R D} (hg : cmpOf op = some g) (hg' : cmpOf op' = some g') (ha : EO X a fa) (hb : EO X b fb) (hc : EO X c fc) (hm : lastMarks [op, op'] [b, c] = false) :
    TO' X (.Compare a [op, op'] [b, c] pos) (mChain g g' fa fb fc) := by
  refine PT.weak (pt_chain (c_of hu hg) (c_of hu hg') ha hb hc hm) fun s H Q h => ?_
  obtain ⟨m, A, L, d, A', k, hr, lr, e, et, post⟩ := test_of h
  obtain ⟨x, A1, e1, e⟩ := R.bind_eq_ok e
  obtain ⟨y, A2, e2, e⟩ := R.bind_eq_ok e
  obtain ⟨z, A3, e3, e4⟩ := R.bind_eq_ok e
  obtain ⟨j, rfl, rfl⟩ := cmp_bool hg e3
  refine ⟨m, A, L, x, A1, hr, lr, e1, fun m1 v H1 p1 k1 hr1 r1 => ?_⟩
  refine ⟨m1, A1, L, y, _, hr1, lr.mono k1 p1, e2, fun m2 u H2 p2 k2 hr2 r2 => ?_⟩
  refine ⟨m2, _, x, y, .bl j, _, hr2, Rep.mono k2 p2 _ _ r1, r2, e3, fun m3 w H3 p3 k3 hr3 r3 => ?_⟩
  simp only [Rep] at r3
  refine ⟨j, r3, ?_⟩
  cases j with
  | false =>
    cases e4
    simp only [truth, Option.some.injEq] at et
    subst et
    exact ⟨false, rfl, post m3 H3 (p1.trans (p2.trans p3)) (k1.trans (k2.trans k3)) hr3⟩
  | true =>
    obtain ⟨w', A4, e5, e6⟩ := R.bind_eq_ok e4
    obtain ⟨j2, rfl, rfl⟩ := cmp_bool hg' e6
    simp only [truth, Option.some.injEq] at et
    subst et
    refine ⟨m3, _, L, w', _, hr3, lr.mono (k1.trans (k2.trans k3)) (p1.trans (p2.trans p3)), e5, fun m4 u4 H4 p4 k4 hr4 r4 => ?_⟩
    refine ⟨m4, _, y, w', .bl j2, _, hr4, Rep.mono (k3.trans k4) (p3.trans p4) _ _ r2, r4, e6, fun m5 v5 H5 p5 k5 hr5 r5 => ?_⟩
    simp only [Rep] at r5
    exact ⟨j2, r5, post m5 H5 (p1.trans (p2.trans (p3.trans (p4.trans p5)))) (k1.trans (k2.trans (k3.trans (k4.trans k5)))) hr5⟩
end
/-! arguments -/
def noStar : Expr → Bool
  | .Starred _ _ => false
  | _ => true
theorem star_cons {e : Expr} {es : List Expr} {env : Env} (h : noStar e = true) : starEach (e :: es) env = (false, eval e env) :: starEach es env := by
  cases e <;> first | rfl | cases h
theorem star_none {pos : Pos} {env : Env} : ∀ {es : List Expr}, es.all noStar = true → (backTo pos (starEach es env)).any (·.1) = false
  | [], _ => rfl
  | e :: es, h => by
    rw [List.all_cons, Bool.and_eq_true] at h
    rw [star_cons h.1]
    show (false || (backTo pos (starEach es env)).any (·.1)) = false
    rw [star_none h.2]
    rfl
section
variable {X : Cx} {a b c e : Expr} {fa fb fc f : M} {pos p p2 : Pos} {es : List Expr} {r : ML}
abbrev AO (X : Cx) (es : List Expr) (r : ML) : Prop := PA X es (tL X.K r)
theorem a_nil : AO X [] mNil := by
  refine PA.weak pa_nil ?_
  rintro s H Q ⟨m, A, L, ds, A', hr, lr, e, post⟩
  cases e
  exact post m [] H (List.prefix_refl _) (Keep.refl _) hr rfl
theorem cons_of {K : PySem.W.Frag} {s : L2.St} {H : Hp} {Q : List V → Hp → Prop} (h : tL K (mCons f r) s H Q) : tCons (tE K f) (tL K r) s H Q := by
  obtain ⟨m, A, L, ds, A', hr, lr, e, post⟩ := h
  obtain ⟨x, A1, e1, e⟩ := R.bind_eq_ok e
  obtain ⟨xs, A2, e2, e⟩ := R.bind_eq_ok e
  cases e
  refine ⟨m, A, L, x, A1, hr, lr, e1, fun m1 v H1 p1 k1 hr1 r1 => ?_⟩
  refine ⟨m1, A1, L, xs, _, hr1, lr.mono k1 p1, e2, fun m2 vs H2 p2 k2 hr2 r2 => ?_⟩
  exact post m2 (v :: vs) H2 (p1.trans p2) (k1.trans k2) hr2 ⟨v, vs, rfl, Rep.mono k2 p2 _ _ r1, r2⟩
theorem a_cons (hs : noStar e = true) (ha : EO X e f) (hr : AO X es r) : AO X (e :: es) (mCons f r) := PA.weak (pa_cons ha hr (star_cons hs)) fun _ _ _ h => cons_of h
theorem e_tup {k : Nat} (h : AO X es r) : EO X (.Tuple es k pos) (mTup r) := by
  refine PE.weak (pe_tup h) ?_
  rintro s H Q ⟨m, A, L, d, A', hr, lr, e, post⟩
  obtain ⟨xs, A1, e1, e⟩ := R.bind_eq_ok e
  split at e
  · rename_i hz
    cases e
    refine ⟨m, A, L, xs, _, hr, lr, e1, fun m1 vs H1 p1 k1 hr1 r1 => ⟨by rw [r1.length]; exact hz, ?_⟩⟩
    exact PostD.newT (post.later p1 k1) hr1 r1
  · cases e
theorem e_lst (h : AO X es r) : EO X (.List es pos) (mLst r) := by
  refine PE.weak (pe_lst h) ?_
  rintro s H Q ⟨m, A, L, d, A', hr, lr, e, post⟩
  obtain ⟨xs, A1, e1, e⟩ := R.bind_eq_ok e
  split at e
  · rename_i hz
    cases e
    refine ⟨m, A, L, xs, _, hr, lr, e1, fun m1 vs H1 p1 k1 hr1 r1 => ⟨by rw [r1.length]; exact hz, ?_⟩⟩
    exact PostD.newL (post.later p1 k1) hr1 r1
  · cases e
theorem cb_of {K : PySem.W.Frag} {g : List D → Hpp → R D} {s : L2.St} {H : Hp} {Q : VK} (h : tE K (mB g r) s H Q) : tCB (rF K g) (tL K r) s H Q := by
  obtain ⟨m, A, L, d, A', hr, lr, e, post⟩ := h
  obtain ⟨xs, A1, e1, e⟩ := R.bind_eq_ok e
  exact ⟨m, A, L, xs, A1, hr, lr, e1, fun m1 vs H1 p1 k1 hr1 r1 => ⟨m1, A1, xs, d, A', hr1, r1, e, post.later p1 k1⟩⟩
theorem e_callB {x : Str} {id : String} {g : List D → Hpp → R D} (hc : CallR X (.builtin id) (rF X.K g)) (hg : Gl X x) (hm : X.mg x = none) (hv : bootBuiltins x = some (.builtin id)) (hs : noStar e = true) (hs2 : es.all noStar = true) (ha : AO X (e :: es) r)
    (hn : x ≠ "__name__") (hdb : (x == ("__debug__" : Str)) = false) : EO X (.Call (.Name x p) (e :: es) [] pos) (mB g r) :=
  PE.weak (pe_callB hc hg hm hv ha hn hdb (star_cons hs) (star_none hs2)) fun _ _ _ h => cb_of h
theorem e_callT {x : Str} {id : String} {g : List D → Hpp → R D} (hc : CallR X (.type id) (rF X.K g)) (hg : Gl X x) (hm : X.mg x = none) (hv : bootBuiltins x = some (.type id)) (hs : noStar e = true) (hs2 : es.all noStar = true) (ha : AO X (e :: es) r)
    (hn : x ≠ "__name__") (hdb : (x == ("__debug__" : Str)) = false) : EO X (.Call (.Name x p) (e :: es) [] pos) (mB g r) :=
  PE.weak (pe_callTy hc hg hm hv ha hn hdb (star_cons hs) (star_none hs2)) fun _ _ _ h => cb_of h
/-- isinstance(e, T) -/
theorem e_isi {T : Ty} {x y : Str} (hg : Gl X x) (hm : X.mg x = none) (hv : bootBuiltins x = some (.builtin "isinstance")) (hgy : Gl X y) (hmy : X.mg y = none) (hvy : bootBuiltins y = some (.type T.name)) (hs : noStar e = true) (ha : EO X e f)
    (hn : x ≠ "__name__") (hdb : (x == ("__debug__" : Str)) = false) (hn2 : y ≠ "__name__") (hdb2 : (y == ("__debug__" : Str)) = false) : EO X (.Call (.Name x p) [e, .Name y p2] [] pos) (mUn (opIsi T) f) := by
  refine PE.weak (pe_callB (b_isi T) hg hm hv (pa_cons ha (pa_cons (pe_bltn (v := .ty T.name) hgy hmy hvy rfl hn2 hdb2) pa_nil (star_cons rfl)) (star_cons hs)) hn hdb (star_cons hs) (star_none rfl)) ?_
  rintro s H Q ⟨m, A, L, d, A', hr, lr, e, post⟩
  obtain ⟨x, A1, e1, e⟩ := R.bind_eq_ok e
  refine ⟨m, A, L, x, A1, hr, lr, e1, fun m1 v H1 p1 k1 hr1 r1 => ?_⟩
  exact ⟨v, m1, A1, x, d, A', rfl, hr1, r1, e, post.later p1 k1⟩
def plainIx : Expr → Bool
  | .Slice _ _ _ _ => false
  | _ => true
theorem plain_ix {b : Expr} (h : plainIx b = true) : PlainIx b := by
  intro o i
  cases b <;> first | rfl | cases h
theorem e_ix (hu : X.A.units + 1 < cLine) (hs : plainIx b = true) (ha : EO X a fa) (hb : EO X b fb) : EO X (.Subscript a b pos) (mBin opIx fa fb) :=
  PE.weak (pe_ix (i_ix hu) ha hb (plain_ix hs)) fun _ _ _ h => two_of h
def PostO (K : PySem.W.Frag) (H : Hp) (m : List Addr) (A : Hpp) (Q : Hp → Prop) : Prop := PostB K H m A Q
def tO (K : PySem.W.Frag) (f : MO) : TO := fun s H Q => ∃ (m : List Addr) (A : Hpp) (L : Loc) (o : Option Int) (A' : Hpp), HR K H m A ∧ LR K H m L s ∧ f L A = .ok o A' ∧ PostB K H m A' (Q o)
theorem PO.weak {e : Option Expr} {t t' : TO} (h : PO X e t) (w : ∀ s H Q, t' s H Q → t s H Q) : PO X e t' := ⟨fun pins s q H Q I x => h.run pins s q H Q I (w q H Q x)⟩
theorem p_none : PO X none (tO X.K oNone) := by
  refine PO.weak po_none ?_
  rintro s H Q ⟨m, A, L, o, A', hr, lr, e, post⟩
  cases e
  exact post m H (List.prefix_refl _) (Keep.refl _) hr
theorem p_some (h : EO X e f) : PO X (some e) (tO X.K (oSome f)) := by
  refine PO.weak (po_some h) ?_
  rintro s H Q ⟨m, A, L, o, A', hr, lr, e, post⟩
  obtain ⟨x, A1, e1, e⟩ := R.bind_eq_ok e
  split at e
  · cases e
    refine ⟨m, A, L, _, _, hr, lr, e1, fun m1 v H1 p1 k1 hr1 r1 => ?_⟩
    simp only [Rep] at r1
    exact ⟨_, r1, post m1 H1 p1 k1 hr1⟩
  · cases e
theorem e_slice {lo hi : Option Expr} {fl fh : MO} (ha : EO X e f) (hl : PO X lo (tO X.K fl)) (hh : PO X hi (tO X.K fh)) : EO X (.Subscript e (.Slice lo hi none p2) pos) (mSlice f fl fh) := by
  refine PE.weak (pe_slice i_sl ha hl hh) ?_
  rintro s H Q ⟨m, A, L, d, A', hr, lr, e, post⟩
  obtain ⟨x, A1, e1, e⟩ := R.bind_eq_ok e
  obtain ⟨l, A2, e2, e⟩ := R.bind_eq_ok e
  obtain ⟨h, A3, e3, e4⟩ := R.bind_eq_ok e
  refine ⟨m, A, L, x, A1, hr, lr, e1, fun m1 v H1 p1 k1 hr1 r1 => ?_⟩
  refine ⟨m1, A1, L, l, A2, hr1, lr.mono k1 p1, e2, fun m2 H2 p2 k2 hr2 => ?_⟩
  refine ⟨m2, A2, L, h, A3, hr2, lr.mono (k1.trans k2) (p1.trans p2), e3, fun m3 H3 p3 k3 hr3 => ?_⟩
  exact ⟨m3, A3, x, d, A', hr3, Rep.mono (k2.trans k3) (p2.trans p3) _ _ r1, e4, post.later (p1.trans (p2.trans p3)) (k1.trans (k2.trans k3))⟩
end
end Rf
namespace Rf
open PySem PySem.Spec PyProof.Rows L2
/-! dict displays -/
def trsOf (K : PySem.W.Frag) (ps : List (M × M)) : List (TE × TE) := ps.map fun p => (tE K p.1, tE K p.2)
theorem pairs_of {K : PySem.W.Frag} {s : L2.St} {L : Loc} : ∀ {ps : List (M × M)} {H : Hp} {m : List Addr} {A A' : Hpp} {ds : List (D × D)} {Q : List (V × V) → Hp → Prop}, HR K H m A → LR K H m L s → mPairs ps L A = .ok ds A' →
    (∀ (m' : List Addr) (vs : List (V × V)) (H' : Hp), m <+: m' → Keep H H' → HR K H' m' A' → RepL K H' m' (ds.map (·.1)) (vs.map (·.1)) → RepL K H' m' (ds.map (·.2)) (vs.map (·.2)) → Q vs H') → tPairs (trsOf K ps) s H Q
  | [], H, m, A, A', ds, Q, hr, lr, e, post => by
    cases e
    exact post m [] H (List.prefix_refl _) (Keep.refl _) hr rfl rfl
  | kv :: ps, H, m, A, A', ds, Q, hr, lr, e, post => by
    unfold mPairs at e
    obtain ⟨x, A1, e1, e⟩ := R.bind_eq_ok e
    obtain ⟨y, A2, e2, e⟩ := R.bind_eq_ok e
    obtain ⟨t, A3, e3, e⟩ := R.bind_eq_ok e
    cases e
    refine ⟨m, A, L, x, A1, hr, lr, e1, fun m1 v H1 p1 k1 hr1 r1 => ?_⟩
    refine ⟨m1, A1, L, y, A2, hr1, lr.mono k1 p1, e2, fun m2 u H2 p2 k2 hr2 r2 => ?_⟩
    refine pairs_of hr2 (lr.mono (k1.trans k2) (p1.trans p2)) e3 fun m3 vs H3 p3 k3 hr3 ra rb => ?_
    exact post m3 ((v, u) :: vs) H3 (p1.trans (p2.trans p3)) (k1.trans (k2.trans k3)) hr3 ⟨v, _, rfl, Rep.mono (k2.trans k3) (p2.trans p3) _ _ r1, ra⟩ ⟨u, _, rfl, Rep.mono k3 p3 _ _ r2, rb⟩
theorem keys_of {K : PySem.W.Frag} {H : Hp} {m : List Addr} : ∀ {ds : List (D × D)} {vs : List (V × V)} {l : List (Key × D)}, RepL K H m (ds.map (·.1)) (vs.map (·.1)) → RepL K H m (ds.map (·.2)) (vs.map (·.2)) → keysD ds = some l →
    ∃ kvs : List (Key × V), vs = kvs.map (fun kv => (kV kv.1, kv.2)) ∧ RepK K H m l kvs
  | [], vs, l, ra, rb, e => by
    cases vs with
    | nil => cases e; exact ⟨[], rfl, rfl⟩
    | cons v vs => simp [RepL] at ra
  | d :: ds, vs, l, ra, rb, e => by
    cases vs with
    | nil => simp [RepL] at ra
    | cons v vs =>
      simp only [List.map_cons, RepL, List.cons.injEq] at ra rb
      obtain ⟨a1, a2, ⟨rfl, rfl⟩, a3, a4⟩ := ra
      obtain ⟨b1, b2, ⟨rfl, rfl⟩, b3, b4⟩ := rb
      unfold keysD at e
      split at e
      · rename_i k t hk ht
        cases e
        obtain ⟨kvs, rfl, rk⟩ := keys_of a4 b4 ht
        have := keyD_rep a3 hk
        exact ⟨(k, v.2) :: kvs, by rw [List.map_cons, ← this], ⟨_, _, rfl, b3, rk⟩⟩
      · cases e
theorem merge_rep {K : PySem.W.Frag} {H : Hp} {m : List Addr} : ∀ {l : List (Key × D)} {kvs : List (Key × V)} {acc : List (Key × D)} {acv : List (Key × V)}, RepK K H m l kvs → RepK K H m acc acv →
    RepK K H m (l.foldl (fun acc kv => putD acc kv.1 kv.2) acc) (mergeK acv kvs)
  | [], kvs, acc, acv, r, ra => by cases r; exact ra
  | d :: l, kvs, acc, acv, r, ra => by
    obtain ⟨v, t, rfl, a, b⟩ := r
    have := merge_rep b (ra.put d.1 a)
    unfold mergeK at this ⊢
    simpa only [List.foldl_cons] using this
section
variable {X : Cx} {pos : Pos}
abbrev DO (X : Cx) (pos : Pos) (keys : List (Option Expr)) (values : List Expr) (ps : List (M × M)) : Prop := PPs X pos keys values (trsOf X.K ps)
theorem d_nil : DO X pos [] [] [] := pps_nil
theorem d_cons {k v : Expr} {fk fv : M} {ks : List (Option Expr)} {vs : List Expr} {ps : List (M × M)} (hk : EO X k fk) (hv : EO X v fv) (hr : DO X pos ks vs ps) : DO X pos (some k :: ks) (v :: vs) ((fk, fv) :: ps) := pps_cons hk hv hr
theorem e_dict {keys : List (Option Expr)} {values : List Expr} {ps : List (M × M)} (h : DO X pos keys values ps) (hall : keys.all (·.isSome) = true) (hl : keys.length = values.length) (h0 : keys ≠ []) (h15 : keys.length ≤ 15) : EO X (.Dict keys values pos) (mDict ps) := by
  refine PE.weak (pe_disp h hall hl h0 h15) ?_
  rintro s H Q ⟨m, A, L, d, A', hr, lr, e, post⟩ p hp
  unfold mDict at e
  obtain ⟨kvs, A1, e1, e⟩ := R.bind_eq_ok e
  split at e
  · rename_i l hk
    split at e
    · rename_i hc
      cases e
      have hr0 : HR X.K (upd H p (.dK [])) (m ++ [p]) (A ++ [.dct []]) := hr.new hp rfl ⟨[], upd_same, rfl⟩
      have em : (m ++ [p])[A.length]? = some p := by rw [← hr.len]; simp
      refine pairs_of hr0 (lr.mono (Keep.new hp) (List.prefix_append _ _)) e1 fun m' vs H' p' k' hr' ra rb => ?_
      obtain ⟨kv2, rfl, rk⟩ := keys_of ra rb hk
      have em' : m'[A.length]? = some p := Pre.get p' em
      obtain ⟨ws, hw, rw'⟩ := hr'.at_ _ _ _ em' hc.2
      have : ws = [] := rw'
      subst this
      refine ⟨hw, kv2, rfl, by rw [rk.length]; exact hc.1, ?_⟩
      have kp : Keep H' (upd H' p (.dK (mergeK [] kv2))) := Keep.write hw (fun _ z => by cases z)
      obtain ⟨h1, h2⟩ := hr'.set (o := .dK (mergeK [] kv2)) (u' := .dct (mergeD l)) hc.2 em' rfl rfl ⟨_, upd_same, RepK.mono kp (List.prefix_refl _) _ _ (merge_rep (acc := []) (acv := []) rk rfl)⟩
      refine post m' (.ref p) _ ((List.prefix_append _ _).trans p') ((Keep.new hp).trans (k'.trans h2)) h1 ?_
      simp only [Rep]
      exact ⟨p, em', rfl⟩
    · cases e
  · cases e
/-! methods of built-in types -/
def plainBase : Expr → Bool
  | .Call (.Name _ _) [] [] _ => false
  | _ => true
theorem base_of {o : Expr} {name : Str} {env : Env} (h : plainBase o = true) : attributeBase o name env (eval o env) = eval o env := by
  unfold attributeBase
  split
  · cases h
  · rfl
theorem few_of {cpos : Pos} {env : Env} {es : List Expr} (h : es.all noStar = true) (hl : es.length < 25) : ((backTo cpos (starEach es env)).all (fun x => !x.1) && (backToKw cpos (keywordEach [] env)).all (fun x => x.1.isSome)
      && decide (es.length + ([] : List Keyword).length + (if ([] : List Keyword).isEmpty then 0 else 1) < 30)) = true := by
  have h1 : (backTo cpos (starEach es env)).all (fun x => !x.1) = true := by
    have := star_none (pos := cpos) (env := env) h
    rw [List.all_eq_true]
    intro x hx
    rw [List.any_eq_false] at this
    simpa using this x hx
  rw [h1]
  have h2 : decide (es.length + ([] : List Keyword).length + (if ([] : List Keyword).isEmpty then 0 else 1) < 30) = true := by
    simp
    omega
  rw [h2]
  rfl
theorem e_meth {o e : Expr} {es : List Expr} {name : Str} {apos cpos : Pos} {T id : String} {g : D → List D → Hpp → R D} {fo : M} {r : ML} (pa : PlainAttrs T) (slot : Slot T name id) (hty : typeOf (.builtin id) = pure (.type "method_descriptor"))
    (hm : MtR X id (rM X.K g)) {pre : D → Hpp → Bool} (hk : ∀ {H : Hp} {m : List Addr} {A : Hpp} {x : D} {v : V}, HR X.K H m A → pre x A = true → Rep X.K H m x v → tyV X.K T v H)
    (hb : plainBase o = true) (hl : (apos.endLine == cpos.line) = true) (hs : noStar e = true) (hs2 : es.all noStar = true) (hn : (e :: es).length < 25) (ho : EO X o fo) (ha : AO X (e :: es) r) : EO X (.Call (.Attribute o name apos) (e :: es) [] cpos) (mMeth pre g fo r) := by
  refine PE.weak (pe_bm pa slot hty hm ho ha (base_of hb) (few_of (by rw [List.all_cons, hs, hs2]; rfl) hn) hl (star_cons hs) (star_none hs2)) ?_
  rintro s H Q ⟨m, A, L, d, A', hr, lr, e, post⟩
  obtain ⟨x, A1, e1, e⟩ := R.bind_eq_ok e
  split at e
  · rename_i hp
    obtain ⟨xs, A2, e2, e3⟩ := R.bind_eq_ok e
    refine ⟨m, A, L, x, A1, hr, lr, e1, fun m1 v H1 p1 k1 hr1 r1 => ⟨hk hr1 hp r1, ?_⟩⟩
    refine ⟨m1, A1, L, xs, A2, hr1, lr.mono k1 p1, e2, fun m2 vs H2 p2 k2 hr2 r2 => ?_⟩
    exact ⟨m2, A2, x, xs, d, A', hr2, Rep.mono k2 p2 _ _ r1, r2, e3, (post.later p1 k1).later p2 k2⟩
  · cases e
theorem pre_lst {H : Hp} {m : List Addr} {A : Hpp} {x : D} {v : V} (hr : HR X.K H m A) (hp : isLst x A = true) (r : Rep X.K H m x v) : tyV X.K "list" v H := by
  cases x with
  | ref n =>
    unfold isLst at hp
    simp only at hp
    split at hp
    · rename_i l hl
      obtain ⟨a, vs, rfl, _, ha, _⟩ := hr.lst hl r
      exact .inl ⟨rfl, vs, SqL.of ha⟩
    · cases hp
  | _ => cases hp
theorem pre_str {H : Hp} {m : List Addr} {A : Hpp} {x : D} {v : V} (hr : HR X.K H m A) (hp : isStrD x A = true) (r : Rep X.K H m x v) : tyV X.K "str" v H := by
  cases x with
  | str n => simp only [Rep] at r; subst r; rfl
  | _ => cases hp
theorem pre_dct {H : Hp} {m : List Addr} {A : Hpp} {x : D} {v : V} (hr : HR X.K H m A) (hp : isDct x A = true) (r : Rep X.K H m x v) : tyV X.K "dict" v H := by
  cases x with
  | ref n =>
    unfold isDct at hp
    simp only at hp
    split at hp
    · rename_i l hl
      obtain ⟨a, vs, rfl, _, ha, _⟩ := hr.dct hl r
      exact .inr (.inr (.inl ⟨rfl, .inl ⟨vs, ha⟩⟩))
    · cases hp
  | _ => cases hp
/-! targets -/
def PostN (K : PySem.W.Frag) (H : Hp) (m : List Addr) (L : Loc) (A : Hpp) (Q : L2.St → Hp → Prop) : Prop :=
  ∀ (m' : List Addr) (s' : L2.St) (H' : Hp), m <+: m' → Keep H H' → HR K H' m' A → LR K H' m' L s' → Q s' H'
theorem PostN.later {K : PySem.W.Frag} {H H1 : Hp} {m m1 : List Addr} {L : Loc} {A : Hpp} {Q : L2.St → Hp → Prop} (h : PostN K H m L A Q) (p : m <+: m1) (k : Keep H H1) : PostN K H1 m1 L A Q :=
  fun m' v H' p' k' r q => h m' v H' (p.trans p') (k.trans k') r q
theorem PostN.now {K : PySem.W.Frag} {H : Hp} {m : List Addr} {L : Loc} {A : Hpp} {Q : L2.St → Hp → Prop} {s : L2.St} (h : PostN K H m L A Q) (hr : HR K H m A) (lr : LR K H m L s) : Q s H :=
  h m s H (List.prefix_refl _) (Keep.refl _) hr lr
def tG (K : PySem.W.Frag) (t : T) : TG := fun v s H Q => ∃ (m : List Addr) (A : Hpp) (L : Loc) (d : D) (L' : Loc) (A' : Hpp), HR K H m A ∧ LR K H m L s ∧ Rep K H m d v ∧ t d L A = .ok L' A' ∧ PostN K H m L' A' Q
def tGL (K : PySem.W.Frag) (t : TL) : TGs := fun vs s H Q => ∃ (m : List Addr) (A : Hpp) (L : Loc) (ds : List D) (L' : Loc) (A' : Hpp), HR K H m A ∧ LR K H m L s ∧ RepL K H m ds vs ∧ t ds L A = .ok L' A' ∧ PostN K H m L' A' Q
abbrev GO (X : Cx) (e : Expr) (t : T) : Prop := PG X e (tG X.K t)
abbrev GLO (X : Cx) (es : List Expr) (t : TL) : Prop := PGs X es (tGL X.K t)
theorem g_var {i : Nat} {x : Str} (hN : X.N.Nodup) (hi : X.N[i]? = some x) (hx : L2.Loc X.env.scope x) (hf : X.fn x = true ∨ X.env.scope.names.lookup x = some .local) : GO X (.Name x pos) (gVar i) := by
  refine PG.weak (pg_name hN hi hx hf) ?_
  rintro v s H Q ⟨m, A, L, d, L', A', hr, lr, rv, e, post⟩
  cases e
  exact post.now hr (lr.set rv)
theorem g_nil : GLO X [] gNil' := by
  refine PGs.weak pgs_nil ?_
  rintro v s H Q ⟨m, A, L, ds, L', A', hr, lr, rv, e, post⟩
  unfold gNil' at e
  split at e
  · cases e
    exact ⟨rv, post.now hr lr⟩
  · cases e
theorem assign_cons {e : Expr} {es : List Expr} {env : Env} (h : noStar e = true) : assignEach (e :: es) env = (false, assign e env) :: assignEach es env := by
  cases e <;> first | rfl | cases h
theorem g_cons {e : Expr} {es : List Expr} {t : T} {u : TL} (hs : noStar e = true) (h1 : GO X e t) (h2 : GLO X es u) : GLO X (e :: es) (gCons' t u) := by
  refine PGs.weak (pgs_cons h1 h2 (by rw [assign_cons hs] <;> rfl)) ?_
  rintro v s H Q ⟨m, A, L, ds, L', A', hr, lr, rv, e, post⟩
  unfold gCons' at e
  split at e
  · obtain ⟨L1, A1, e1, e2⟩ := R.bind_eq_ok e
    obtain ⟨w, t', rfl, a, b⟩ := rv
    refine ⟨w, t', rfl, m, A, L, _, L1, A1, hr, lr, a, e1, fun m1 s1 H1 p1 k1 hr1 lr1 => ?_⟩
    exact ⟨m1, A1, L1, _, L', A', hr1, lr1, RepL.mono k1 p1 _ _ b, e2, post.later p1 k1⟩
  · cases e
theorem len_assign {env : Env} : ∀ {es : List Expr}, es.all noStar = true → (assignEach es env).length = es.length ∧ (assignEach es env).findIdx? (·.1) = none
  | [], _ => ⟨rfl, rfl⟩
  | e :: es, h => by
    rw [List.all_cons, Bool.and_eq_true] at h
    obtain ⟨a, b⟩ := len_assign (env := env) h.2
    rw [assign_cons h.1]
    refine ⟨by simp [a], ?_⟩
    rw [List.findIdx?_cons]
    simp [b]
/-- a target's length is told by its form -/
inductive TLen : TL → Nat → Prop
  | nil : TLen gNil' 0
  | cons {t : T} {u : TL} {n : Nat} : TLen u n → TLen (gCons' t u) (n + 1)
theorem TLen.ok {u : TL} {n : Nat} (h : TLen u n) : ∀ {ds : List D} {L L' : Loc} {A A' : Hpp}, u ds L A = .ok L' A' → ds.length = n := by
  induction h with
  | nil =>
    intro ds L L' A A' e
    unfold gNil' at e
    split at e
    · rfl
    · cases e
  | cons _ ih =>
    intro ds L L' A A' e
    unfold gCons' at e
    split at e
    · obtain ⟨L1, A1, e1, e2⟩ := R.bind_eq_ok e
      simp [ih e2]
    · cases e
theorem pg_or {tg : Expr} {t u : TG} (h1 : PG X tg t) (h2 : PG X tg u) : PG X tg (fun v s H Q => t v s H Q ∨ u v s H Q) :=
  ⟨fun pins s q H v w Q I r h => h.elim (h1.run pins s q H v w Q I r) (h2.run pins s q H v w Q I r)⟩
theorem seq_rep {K : PySem.W.Frag} {H : Hp} {m : List Addr} {A : Hpp} {d : D} {ds : List D} {v : V} (hr : HR K H m A) (h : seqOf d A = some ds) (r : Rep K H m d v) :
    (∃ p vs, v = .ref p ∧ SqT K H p vs ∧ RepL K H m ds vs) ∨ ∃ p vs, v = .ref p ∧ SqL K H p vs ∧ RepL K H m ds vs := by
  unfold seqOf at h
  split at h
  · cases h
    obtain ⟨p, vs, rfl, tp, rp⟩ := rep_tup r
    exact .inl ⟨p, vs, rfl, tp.sq, rp⟩
  · split at h
    · cases h
      rename_i hl
      obtain ⟨a, vs, rfl, _, ha, rp⟩ := hr.lst hl r
      exact .inr ⟨a, vs, rfl, SqL.of ha, rp⟩
    · cases h
      rename_i hl
      obtain ⟨a, vs, rfl, _, ha, rp⟩ := hr.rd hl r
      exact .inr ⟨a, vs, rfl, ha.sq, rp⟩
    · cases h
  · cases h
theorem g_tup {es : List Expr} {k : Nat} {u : TL} (hc : X.calm = true) (hs : es.all noStar = true) (hl : TLen u es.length) (h : GLO X es u) : GO X (.Tuple es k pos) (gTup' u) := by
  obtain ⟨a, b⟩ := len_assign (env := X.env) hs
  refine PG.weak (pg_or (pg_tup hc h a b) (pg_unl hc h a b)) ?_
  rintro v s H Q ⟨m, A, L, d, L', A', hr, lr, rv, e, post⟩
  unfold gTup' at e
  split at e
  · rename_i ds hd
    rcases seq_rep hr hd rv with ⟨p, vs, rfl, tp, rp⟩ | ⟨p, vs, rfl, tp, rp⟩
    · exact .inl ⟨p, vs, rfl, tp, by rw [rp.length]; exact hl.ok e, m, A, L, _, L', A', hr, lr, rp, e, post⟩
    · exact .inr ⟨p, vs, rfl, tp, by rw [rp.length]; exact hl.ok e, m, A, L, _, L', A', hr, lr, rp, e, post⟩
  · cases e
theorem g_sub (hu : X.A.units + 1 < cLine) {o i : Expr} {fo fi : M} (hs : plainIx i = true) (ho : EO X o fo) (hi : EO X i fi) : GO X (.Subscript o i pos) (gSub' fo fi) := by
  refine PG.weak (pg_sub ho hi (i_set hu) ?_) ?_
  · intro v
    cases i <;> first | rfl | cases hs
  rintro v s H Q ⟨m, A, L, d, L', A', hr, lr, rv, e, post⟩
  obtain ⟨x, A1, e1, e⟩ := R.bind_eq_ok e
  obtain ⟨y, A2, e2, e⟩ := R.bind_eq_ok e
  obtain ⟨_, A3, e3, e⟩ := R.bind_eq_ok e
  cases e
  refine ⟨m, A, L, x, A1, hr, lr, e1, fun m1 w H1 p1 k1 hr1 r1 => ?_⟩
  refine ⟨m1, A1, L, y, A2, hr1, lr.mono k1 p1, e2, fun m2 u H2 p2 k2 hr2 r2 => ?_⟩
  refine ⟨m2, A2, x, y, d, _, hr2, Rep.mono k2 p2 _ _ r1, r2, Rep.mono (k1.trans k2) (p1.trans p2) _ _ rv, e3, fun m3 H3 p3 k3 hr3 => ?_⟩
  exact post m3 s H3 (p1.trans (p2.trans p3)) (k1.trans (k2.trans k3)) hr3 (lr.mono (k1.trans (k2.trans k3)) (p1.trans (p2.trans p3)))
end
/-! statements -/
def endsIn (K : PySem.W.Frag) (H : Hp) (m : List Addr) (A : Hpp) (E : Ends) : O → Prop
  | .nx L => PostN K H m L A E.nx
  | .bk L => PostN K H m L A E.bk
  | .ct L => PostN K H m L A E.ct
  | .rt d => PostD K H m d A E.rt
theorem endsIn.later {K : PySem.W.Frag} {H H1 : Hp} {m m1 : List Addr} {A : Hpp} {E : Ends} {o : O} (h : endsIn K H m A E o) (p : m <+: m1) (k : Keep H H1) : endsIn K H1 m1 A E o := by
  cases o with
  | nx L => exact PostN.later h p k
  | bk L => exact PostN.later h p k
  | ct L => exact PostN.later h p k
  | rt d => exact PostD.later h p k
def tS (K : PySem.W.Frag) (f : S) : TS := fun E s H => ∃ (m : List Addr) (A : Hpp) (L : Loc) (o : O) (A' : Hpp), HR K H m A ∧ LR K H m L s ∧ f L A = .ok o A' ∧ endsIn K H m A' E o
section
variable {X : Cx} {pos : Pos} {e c : Expr} {f fc : M} {st : Stmt} {rest : List Stmt} {g h : S}
abbrev SO (X : Cx) (st : Stmt) (f : S) : Prop := PS X st (tS X.K f)
abbrev SLO (X : Cx) (st : List Stmt) (f : S) : Prop := PSs X st (tS X.K f)
theorem l_nil : SLO X [] sNil := by
  refine PSs.weak pss_nil ?_
  rintro E s H ⟨m, A, L, o, A', hr, lr, e, post⟩
  cases e
  exact PostN.now post hr lr
theorem l_cons (h1 : SO X st g) (h2 : SLO X rest h) : SLO X (st :: rest) (sSeq g h) := by
  refine PSs.weak (pss_cons h1 h2) ?_
  rintro E s H ⟨m, A, L, o, A', hr, lr, e, post⟩
  obtain ⟨o1, A1, e1, e2⟩ := R.bind_eq_ok e
  refine ⟨m, A, L, o1, A1, hr, lr, e1, ?_⟩
  cases o1 with
  | nx L1 => exact fun m1 s1 H1 p1 k1 hr1 lr1 => ⟨m1, A1, L1, o, A', hr1, lr1, e2, post.later p1 k1⟩
  | bk L1 => cases e2; exact post
  | ct L1 => cases e2; exact post
  | rt d => cases e2; exact post
theorem s_pass : SO X (.Pass pos) sNil := by
  refine PS.weak ps_pass ?_
  rintro E s H ⟨m, A, L, o, A', hr, lr, e, post⟩
  cases e
  exact PostN.now post hr lr
theorem s_break : SO X (.Break pos) sBreak := by
  refine PS.weak ps_break ?_
  rintro E s H ⟨m, A, L, o, A', hr, lr, e, post⟩
  cases e
  exact PostN.now post hr lr
theorem s_cont : SO X (.Continue pos) sCont := by
  refine PS.weak ps_continue ?_
  rintro E s H ⟨m, A, L, o, A', hr, lr, e, post⟩
  cases e
  exact PostN.now post hr lr
theorem s_bad : SO X st sBad := by
  refine PS.weak ps_never ?_
  rintro E s H ⟨m, A, L, o, A', hr, lr, e, post⟩
  cases e
theorem s_ret (he : EO X e f) : SO X (.Return (some e) pos) (sRet f) := by
  refine PS.weak (ps_ret he) ?_
  rintro E s H ⟨m, A, L, o, A', hr, lr, e, post⟩
  obtain ⟨d, A1, e1, e2⟩ := R.bind_eq_ok e
  cases e2
  exact ⟨m, A, L, d, _, hr, lr, e1, post⟩
theorem s_retN : SO X (.Return none pos) sRetN := by
  refine PS.weak ps_retN ?_
  rintro E s H ⟨m, A, L, o, A', hr, lr, e, post⟩
  cases e
  exact PostD.now post hr rfl
theorem s_drop (he : EO X e f) (hs : swapsWith e none pos.line X.env = pure false) : SO X (.Expr e pos) (sDrop f) := by
  refine PS.weak (ps_expr he hs) ?_
  rintro E s H ⟨m, A, L, o, A', hr, lr, e, post⟩
  obtain ⟨d, A1, e1, e2⟩ := R.bind_eq_ok e
  cases e2
  exact ⟨m, A, L, d, _, hr, lr, e1, fun m1 v H1 p1 k1 hr1 r1 => post m1 s H1 p1 k1 hr1 (lr.mono k1 p1)⟩
theorem s_if {p q : List Stmt} (hc : TO' X c fc) (ha : SLO X p g) (hb : SLO X q h) : SO X (.If c p q pos) (sIf fc g h) := by
  refine PS.weak (ps_if hc ha hb) ?_
  rintro E s H ⟨m, A, L, o, A', hr, lr, e, post⟩
  obtain ⟨k, A1, e1, e2⟩ := R.bind_eq_ok e
  refine ⟨m, A, L, k, A1, hr, lr, e1, fun m1 H1 p1 k1 hr1 => ?_⟩
  cases k with
  | true => exact ⟨m1, A1, L, o, A', hr1, lr.mono k1 p1, e2, post.later p1 k1⟩
  | false => exact ⟨m1, A1, L, o, A', hr1, lr.mono k1 p1, e2, post.later p1 k1⟩
theorem asg_of {K : PySem.W.Frag} {t : T} {E : Ends} {s : L2.St} {H : Hp} (h : tS K (sAsg f t) E s H) : tAsg (tE K f) (tG K t) E s H := by
  obtain ⟨m, A, L, o, A', hr, lr, e, post⟩ := h
  obtain ⟨d, A1, e1, e⟩ := R.bind_eq_ok e
  obtain ⟨L1, A2, e2, e⟩ := R.bind_eq_ok e
  cases e
  refine ⟨m, A, L, d, A1, hr, lr, e1, fun m1 v H1 p1 k1 hr1 r1 => ?_⟩
  exact ⟨m1, A1, L, d, L1, _, hr1, lr.mono k1 p1, r1, e2, PostN.later post p1 k1⟩
theorem s_asg {tg : Expr} {t : T} (hst : noStar tg = true) (he : EO X e f) (hg : GO X tg t) (hs : swapsWithSole [tg] e pos.line X.env = pure false) (hw : swappedStores [tg] e X.env = pure none) : SO X (.Assign [tg] e pos) (sAsg f t) := by
  refine PS.weak (ps_asg he hg hs hw (by rw [assign_cons hst] <;> rfl)) fun _ _ _ h => asg_of h
theorem s_par {i j : Nat} {x y : Str} {a b : Expr} {r : ML} {px py pt pt2 : Pos} {kt k2 : Nat} (hc : X.calm = true) (hN : X.N.Nodup) (hi : X.N[i]? = some x) (hj : X.N[j]? = some y) (hij : i ≠ j)
    (hx : X.env.scope.names.lookup x = some .local) (hy : X.env.scope.names.lookup y = some .local) (ha : AO X [a, b] r)
    (hw : swappedStores [.Tuple [.Name x px, .Name y py] kt pt] (.Tuple [a, b] k2 pt2) X.env = pure (some [x, y]))
    (hs : swapsWithSole [.Tuple [.Name x px, .Name y py] kt pt] (.Tuple [a, b] k2 pt2) pos.line X.env = pure false) :
    SO X (.Assign [.Tuple [.Name x px, .Name y py] kt pt] (.Tuple [a, b] k2 pt2) pos) (sPar i j r) := by
  refine PS.weak (ps_par hc hN hi hj hij hx hy ha hw hs) ?_
  rintro E s H ⟨m, A, L, o, A', hr, lr, e, post⟩
  obtain ⟨vs, A1, e1, e⟩ := R.bind_eq_ok e
  split at e
  · cases e
    refine ⟨m, A, L, _, _, hr, lr, e1, fun m1 us H1 p1 k1 hr1 r1 => ?_⟩
    obtain ⟨v, u, rfl, ra, rb⟩ := r1.two
    exact ⟨v, u, rfl, post m1 _ H1 p1 k1 hr1 (((lr.mono k1 p1).set ra).set rb)⟩
  · cases e
theorem s_par3 {i j l : Nat} {x y z : Str} {a b d : Expr} {r : ML} {px py pz pt pt2 : Pos} {kt k2 : Nat} (hc : X.calm = true) (hN : X.N.Nodup) (hi : X.N[i]? = some x) (hj : X.N[j]? = some y) (hl : X.N[l]? = some z) (hij : i ≠ j) (hil : i ≠ l) (hjl : j ≠ l)
    (hx : X.env.scope.names.lookup x = some .local) (hy : X.env.scope.names.lookup y = some .local) (hz : X.env.scope.names.lookup z = some .local) (ha : AO X [a, b, d] r)
    (hw : swappedStores [.Tuple [.Name x px, .Name y py, .Name z pz] kt pt] (.Tuple [a, b, d] k2 pt2) X.env = pure (some [x, y, z]))
    (hs : swapsWithSole [.Tuple [.Name x px, .Name y py, .Name z pz] kt pt] (.Tuple [a, b, d] k2 pt2) pos.line X.env = pure false) :
    SO X (.Assign [.Tuple [.Name x px, .Name y py, .Name z pz] kt pt] (.Tuple [a, b, d] k2 pt2) pos) (sPar3 i j l r) := by
  refine PS.weak (ps_par3 hc hN hi hj hl hij hil hjl hx hy hz ha hw hs) ?_
  rintro E s H ⟨m, A, L, o, A', hr, lr, e, post⟩
  obtain ⟨vs, A1, e1, e2⟩ := R.bind_eq_ok e
  refine ⟨m, A, L, vs, A1, hr, lr, e1, fun m1 us H1 p1 k1 hr1 r1 => ?_⟩
  split at e2
  · cases e2
    obtain ⟨u, t1, rfl, ra, r1⟩ := r1
    obtain ⟨v, t2, rfl, rb, r1⟩ := r1
    obtain ⟨w, t3, rfl, rc, r1⟩ := r1
    cases r1
    refine ⟨u, v, w, rfl, ?_⟩
    exact post m1 _ H1 p1 k1 hr1 ((((lr.mono k1 p1).set ra).set rb).set rc)
  · cases e2
theorem s_aug {i : Nat} {x : Str} {op : Operator} {k : D → D → Hpp → R D} {pos' : Pos} (hN : X.N.Nodup) (hi : X.N[i]? = some x) (hx : L2.Loc X.env.scope x) (he : EO X e f) (ho : PIp X op (rB X.K k)) (hf : X.fn x = true ∨ X.env.scope.names.lookup x = some .local) :
    SO X (.AugAssign (.Name x pos') op e pos) (sAug k i f) := by
  refine PS.weak (ps_aug hN hi hx he ho hf) ?_
  rintro E s H ⟨m, A, L, o, A', hr, lr, e, post⟩
  obtain ⟨x, A1, e1, e⟩ := R.bind_eq_ok e
  obtain ⟨y, A2, e2, e⟩ := R.bind_eq_ok e
  obtain ⟨z, A3, e3, e⟩ := R.bind_eq_ok e
  cases e
  unfold mVar at e1
  split at e1
  · cases e1
    rename_i hv
    obtain ⟨v, h1, h2⟩ := lr.at_ _ _ hv
    refine ⟨v, h1, m, _, L, y, A2, hr, lr, e2, fun m1 u H1 p1 k1 hr1 r1 => ?_⟩
    refine ⟨m1, A2, _, y, z, _, hr1, Rep.mono k1 p1 _ _ h2, r1, e3, fun m2 w H2 p2 k2 hr2 r2 => ?_⟩
    exact post m2 _ H2 (p1.trans p2) (k1.trans k2) hr2 ((lr.mono (k1.trans k2) (p1.trans p2)).set r2)
  · cases e1
end
end Rf
namespace Rf
open PySem PySem.Spec PyProof.Rows L2
section
variable {prog : Program} {w : World} {A : Around} {E : Value → Shared → Prop} {s : Shared} {I : Addr} {fp wr : List Addr} {n : Nat} {P : Nat → Value → Prop} {St : Nat → Heap → Prop}
/-- a walk from its i-th place on -/
theorem walks_from (W : Walks prog w A I fp wr n P St) (i : Nat) (hi : i ≤ n) : Walks prog w A I fp wr (n - i) (fun j => P (i + j)) (fun j => St (i + j)) where
  sub := W.sub
  frame := fun j h h' st hk => W.frame (i + j) h h' st hk
  item := fun j s Q E hj st hQ => W.item (i + j) s Q E (by omega) st fun v h' tk hP st' hk => hQ v h' tk hP (by rw [← Nat.add_assoc]; exact st') hk
  done := fun s Q E st hQ => W.done s Q E (by rw [show i + (n - i) = n by omega] at st; exact st) hQ
  self := fun j s Q E st hQ => W.self (i + j) s Q E st hQ
theorem draw_walk {items : Array Value} (W : Walks prog w A I fp wr items.size (fun i v => items[i]? = some v) St) : ∀ (k i : Nat) (s : Shared) (Q : List Value → Shared → Prop), i + k ≤ items.size → St i s.heap →
    (∀ h' tk, St (i + k) h' → (∀ b o, b ∉ wr → s.heap.get? b = some o → h'.get? b = some o) → Q ((items.toList.drop i).take k) { s with heap := h', toks := tk }) → wpAny (model prog w) A (draw (.ref I) k) Q E s
  | 0, i, s, Q, _, st, hQ => by
    show wpAny _ _ (pure []) Q E s
    exact wpAny_pure (by simpa using hQ s.heap s.toks st fun _ _ _ e => e)
  | k + 1, i, s, Q, hle, st, hQ => by
    have hlt : i < items.size := by omega
    show wpAny _ _ (pyNext (.ref I) >>= _) Q E s
    refine wpAny_bind (W.item i s _ _ hlt st fun v h1 tk hv st1 hk1 => ?_)
    refine wpAny_bind (wpAny_holding (draw_walk W k (i + 1) _ _ (by omega) st1 fun h2 tk2 st2 hk2 => wpAny_pure ?_))
    have hd : items.toList.drop i = items[i] :: items.toList.drop (i + 1) := by simp [List.drop_eq_getElem_cons, hlt]
    have hv' : v = items[i] := by
      have : items[i]? = some v := hv
      rw [Array.getElem?_eq_getElem hlt] at this
      exact (Option.some.inj this).symm
    have := hQ h2 tk2 (by rw [show i + (k + 1) = i + 1 + k by omega]; exact st2) fun b o hb e => hk2 b o hb (hk1 b o hb e)
    rw [hd, List.take_succ_cons] at this
    subst hv'
    exact this
theorem items_of {items acc : Array Value} {i : Nat} (hi : i ≤ items.size) (h : ItemsOf (fun j v => items[i + j]? = some v) acc (items.size - i)) : acc.toList = items.toList.drop i := by
  obtain ⟨h1, h2⟩ := h
  refine List.ext_getElem? fun j => ?_
  rw [List.getElem?_drop, Array.getElem?_toList, Array.getElem?_toList]
  cases e : acc[j]? with
  | some v => exact (h2 j v e).symm
  | none =>
    have := Array.getElem?_eq_none_iff.mp e
    exact (Array.getElem?_eq_none_iff.mpr (by omega)).symm
/-- a, .., *b, .., c = e: what is stored -/
theorem unpack_star {T : String} {items : Array Value} {v : Value} {a b : Nat} {Q : List Value → Shared → Prop}
    (hT : T = "str_ascii_iterator" ∨ T = "str_iterator" ∨ T = "list_iterator" ∨ T = "tuple_iterator")
    (W : ∀ A' : Around, A'.handled = none → Walks prog w A' I fp wr items.size (fun i v => items[i]? = some v) St) (hh : A.handled = none) (hTy : ∀ i h (s : Shared), St i h → s.heap = h → s.TypeIs (.ref I) T)
    (hni : ∀ Q' : Bool → Shared → Prop, Q' false s → wpAny (model prog w) A (notIterableAtAll v) Q' E s)
    (hit : ∀ Q' : Value → Shared → Prop, (∀ h', St 0 h' → (∀ b o, s.heap.get? b = some o → h'.get? b = some o) → Q' (.ref I) { s with heap := h' }) → wpAny (model prog w) A (pyIter v) Q' E s)
    (hI : I ∈ fp) (hfs : ∀ i h, St i h → ∀ b ∈ fp, b < h.objs.size) (hwr : ∀ b o, s.heap.get? b = some o → b ∉ wr) (hab : a + b ≤ items.size) (hz : items.size ≤ sizeLine)
    (hQ : ∀ (h' : Heap) (tk : Nat), (∀ b o, s.heap.get? b = some o → h'.get? b = some o) → s.toks ≤ tk ∨ True → Q (items.toList.take a ++ [.ref h'.objs.size] ++ items.toList.drop (items.size - b))
      { s with heap := h'.push { cls := .type "list", data := .seq ((items.toList.drop a).take (items.size - a - b)).toArray }, toks := tk }) :
    wpAny (model prog w) A (unpackItems v (a + b + 1) (some a)) Q E s := by
  unfold unpackItems
  refine wpAny_bind (hni _ ?_)
  simp only [Bool.false_eq_true, if_false]
  refine wpAny_bind (wpAny_holding (hit _ fun h1 st1 k1 => ?_))
  refine wpAny_bind (wpAny_holding (draw_walk (W A hh) a 0 _ _ (by omega) st1 fun h2 tk2 st2 k2 => ?_))
  rw [List.drop_zero, Nat.zero_add] at *
  have la : (items.toList.take a).length = a := by simp; omega
  rw [if_neg (by rw [la]; exact Nat.lt_irrefl _)]
  have W1 : Walks prog w A.in1 I fp wr (items.size - a) (fun j v => items[a + j]? = some v) (fun j => St (a + j)) := walks_from (W A.in1 hh) a (by omega)
  refine wpAny_bind (wpAny_holding (wpAny_collect_iter hT W1.toS (fun j s' st' => hTy (a + j) s'.heap s' st' rfl) st2 (hfs _ _ st2) hI (fun s3 acc mv it => ?_) (by omega)))
  have e := items_of (by omega) it
  rw [e]
  have lr : (items.toList.drop a).length = items.size - a := by simp
  have e1 : a + b + 1 - 1 - a = b := by omega
  simp only [lr, e1]
  rw [if_neg (by omega)]
  have hs3 : s3 = { s with heap := s3.heap, toks := s3.toks } := by
    obtain ⟨sh, sg, sd, st, so⟩ := s3
    have g1 : sg = s.gens := mv.gens
    have g2 : sd = s.drawn := mv.drawn
    have g3 : so = s.os := mv.os
    subst g1; subst g2; subst g3
    rfl
  have hq := hQ s3.heap s3.toks (fun b' o e' => mv.heap b' o (hwr b' o e') (k2 b' o (hwr b' o e') (k1 b' o e'))) (.inr trivial)
  refine wpAny_bind (wpAny_newObj_type (wpAny_pure ?_) ?_)
  · rw [List.drop_drop, show a + (items.size - a - b) = items.size - b by omega]
    generalize s3.heap = h3 at hs3 hq
    generalize s3.toks = t3 at hs3 hq
    subst hs3
    exact hq
  · show ((items.toList.drop a).take (items.size - a - b)).toArray.size ≤ sizeLine
    simp; omega
end
section
variable {X : Cx} {pos : Pos}
/-- a, *b, c = a tuple or a list -/
def gSt (K : PySem.W.Frag) (a b : Nat) (t : TGs) : TG := fun v σ H Q => ∃ p xs, v = .ref p ∧ (SqT K H p xs ∨ SqL K H p xs) ∧ a + b ≤ xs.length ∧
  ∀ r, H r = none → t (xs.take a ++ [.ref r] ++ xs.drop (xs.length - b)) σ (upd H r (.lst ((xs.drop a).take (xs.length - a - b)))) Q
theorem vals_drop {xs : List V} {us : List Value} (r : Vals xs us) (n : Nat) : Vals (xs.drop n) (us.drop n) := r.drop n
theorem pg_star {es : List Expr} {k a b : Nat} {t : TGs} (hc : X.calm = true) (h : PGs X es t) (hn : (assignEach es X.env).length = a + b + 1) (hst : (assignEach es X.env).findIdx? (·.1) = some a) : PG X (.Tuple es k pos) (gSt X.K a b t) := by
  refine ⟨fun pins s σ H v u Q I r hw => ?_⟩
  obtain ⟨p, xs, e1, hq, hl, hw⟩ := hw
  subst e1
  cases r
  rw [PyProof.Rows.assign_Tuple]
  refine wpAny_bind (wpAny_standAt ?_)
  unfold unpack
  rw [hn, hst]
  have fin : ∀ (its : List Value), Vals xs its → xs.length ≤ sizeLine → ∀ (h' : Heap) (tk : Nat), (∀ b o, s.heap.get? b = some o → h'.get? b = some o) →
      wpAny (model X.prog X.w) X.A (assignInOrder ((assignEach es X.env).map (·.2)) (its.take a ++ [.ref h'.objs.size] ++ its.drop (its.length - b))) (fun _ s' => ∃ σ' H', Inv X pins σ' H' s' ∧ Q σ' H') X.xe
        { s with heap := h'.push { cls := .type "list", data := .seq ((its.drop a).take (its.length - a - b)).toArray }, toks := tk } := by
    intro its rv hz h' tk hx
    have lx := rv.length
    have I1 : Inv X pins σ H { s with heap := h', toks := tk } := I.kept (t' := tk) fun b o e => hx b o e
    have hf : H h'.objs.size = none := I1.hok.fresh (Nat.le_refl _)
    have I2 : Inv X pins σ (upd H h'.objs.size (.lst ((xs.drop a).take (xs.length - a - b)))) { s with heap := h'.push { cls := .type "list", data := .seq ((its.drop a).take (its.length - a - b)).toArray }, toks := tk } := by
      refine I1.laid (t' := tk) (fun b u e => Heap.get?_push_of_some _ e) (Nat.le_refl _) ?_
      refine ⟨?_, _, 0, ?_, Heap.get?_push_size _ rfl⟩
      · rw [List.length_take, List.length_drop]; omega
      · rw [lx]; exact (rv.drop a).take _
    refine h.run pins _ σ _ _ _ Q I2 ?_ (hw _ hf)
    rw [lx]
    have one : Vals [V.ref h'.objs.size] [Value.ref h'.objs.size] := .cons (show RelV (.ref h'.objs.size) (.ref h'.objs.size) from rfl) .nil
    exact ((rv.take a).append one).append (rv.drop _)
  rcases hq with hq | hq
  · obtain ⟨its, rv, ht, hz⟩ := I.tuple hq
    have lx := rv.length
    have ht' : s.heap.IsTuple p its.toArray := ht
    have hlt : p < s.heap.objs.size := by obtain ⟨o, ho, _⟩ := ht; exact Heap.lt_size ho
    refine wpAny_bind (wpAny_holding (unpack_star (T := "tuple_iterator") (I := s.heap.objs.size) (fp := [s.heap.objs.size, p]) (wr := [s.heap.objs.size]) (items := its.toArray) (St := fun i h => h.IsTupleIter s.heap.objs.size p i ∧ h.IsTuple p its.toArray) (.inr (.inr (.inr rfl)))
      (fun A' hA => Walks.tuple hA _ _ (Nat.ne_of_lt hlt) _) (I.ok.hd hc) (fun i h s' st e => by subst e; exact st.1.typeIs) (fun Q' q' => ?_) (fun Q' q' => ?_) (by simp) (fun i h st b hb => ?_) (fun b o e hb => ?_) (by simp; omega) (by simp; omega) (fun h' tk hx _ => ?_)))
    · unfold notIterableAtAll
      exact wpAny_bind (wpAny_specialOf ht.typeIs slot_tuple_iter.lookup (wpAny_pure q'))
    · refine iter_tuple ht (q' _ ⟨⟨_, Heap.get?_push_size _ rfl, rfl, rfl⟩, ht'.push _⟩ (fun b o e => Heap.get?_push_of_some _ e))
    · simp at hb
      rcases hb with rfl | rfl
      · obtain ⟨⟨o, ho, _⟩, _⟩ := st; exact Heap.lt_size ho
      · obtain ⟨_, ⟨o, ho, _⟩⟩ := st; exact Heap.lt_size ho
    · simp at hb; subst hb; exact Nat.lt_irrefl _ (Heap.lt_size e)
    · simpa using fin its rv hz h' tk hx
  · obtain ⟨its, rv, pl, hz⟩ := I.list hq
    have lx := rv.length
    have hl' : s.heap.IsList p its.toArray := by
      obtain ⟨o, m, e, c, d, q⟩ := pl
      exact ⟨o, e, c, m, q⟩
    have hlt : p < s.heap.objs.size := by obtain ⟨o, ho, _⟩ := hl'; exact Heap.lt_size ho
    refine wpAny_bind (wpAny_holding (unpack_star (T := "list_iterator") (I := s.heap.objs.size) (fp := [s.heap.objs.size, p]) (wr := [s.heap.objs.size]) (items := its.toArray) (St := fun i h => h.IsListIter s.heap.objs.size p i ∧ h.IsList p its.toArray) (.inr (.inr (.inl rfl)))
      (fun A' hA => Walks.list hA _ _ (Nat.ne_of_lt hlt) _) (I.ok.hd hc) (fun i h s' st e => by subst e; exact st.1.typeIs) (fun Q' q' => ?_) (fun Q' q' => ?_) (by simp) (fun i h st b hb => ?_) (fun b o e hb => ?_) (by simp; omega) (by simp; omega) (fun h' tk hx _ => ?_)))
    · unfold notIterableAtAll
      exact wpAny_bind (wpAny_specialOf hl'.typeIs slot_list_iter.lookup (wpAny_pure q'))
    · refine wpAny_pyIter_list hl' (q' _ ⟨⟨_, Heap.get?_push_size _ rfl, rfl, rfl⟩, hl'.push _⟩ (fun b o e => Heap.get?_push_of_some _ e))
    · simp at hb
      rcases hb with rfl | rfl
      · obtain ⟨⟨o, ho, _⟩, _⟩ := st; exact Heap.lt_size ho
      · obtain ⟨_, ⟨o, ho, _⟩⟩ := st; exact Heap.lt_size ho
    · simp at hb; subst hb; exact Nat.lt_irrefl _ (Heap.lt_size e)
    · simpa using fin its rv hz h' tk hx
theorem g_consS {e : Expr} {p : Pos} {es : List Expr} {t : T} {u : TL} (hs : noStar e = true) (h1 : GO X e t) (h2 : GLO X es u) : GLO X (.Starred e p :: es) (gCons' t u) := by
  have h := g_cons hs h1 h2
  refine ⟨fun pins s q H vs us Q I r hq => ?_⟩
  have := h.run pins s q H vs us Q I r hq
  rw [assign_cons hs] at this
  exact this
theorem g_star {es : List Expr} {k a b : Nat} {u : TL} (hc : X.calm = true) (h : GLO X es u) (hn : (assignEach es X.env).length = a + b + 1) (hst : (assignEach es X.env).findIdx? (·.1) = some a) : GO X (.Tuple es k pos) (gStar' a b u) := by
  refine PG.weak (pg_star hc h hn hst) ?_
  rintro v s H Q ⟨m, A, L, d, L', A', hr, lr, rv, e, post⟩
  unfold gStar' at e
  split at e
  · rename_i ds hd
    split at e
    · rename_i hab
      have key : ∀ p vs, v = .ref p → (SqT X.K H p vs ∨ SqL X.K H p vs) → RepL X.K H m ds vs → gSt X.K a b (tGL X.K u) v s H Q := by
        rintro p vs rfl hq rp
        have lv := rp.length
        refine ⟨p, vs, rfl, hq, by omega, fun r hf => ?_⟩
        have m1 := RepL.mono (Keep.new (o := .lst ((vs.drop a).take (vs.length - a - b))) hf) (List.prefix_append m [r]) _ _ rp
        have hr' : HR X.K (upd H r (.lst ((vs.drop a).take (vs.length - a - b)))) (m ++ [r]) (A ++ [.lst ((ds.drop a).take (ds.length - a - b))]) := hr.new hf rfl ⟨_, upd_same, by rw [← lv]; exact (m1.drop a).take _⟩
        refine ⟨m ++ [r], _, L, _, L', A', hr', lr.mono (Keep.new hf) (List.prefix_append _ _), ?_, e, fun m' s' H' p' k' r' l' => post m' s' H' ((List.prefix_append _ _).trans p') ((Keep.new hf).trans k') r' l'⟩
        rw [← lv]
        refine ((m1.take a).append ?_).append (m1.drop _)
        refine ⟨_, _, rfl, ?_, rfl⟩
        simp only [Rep]
        exact ⟨r, by rw [← hr.len]; simp, rfl⟩
      rcases seq_rep hr hd rv with ⟨p, vs, e1, tp, rp⟩ | ⟨p, vs, e1, tp, rp⟩
      · exact key p vs e1 (.inl tp) rp
      · exact key p vs e1 (.inr tp) rp
    · cases e
  · cases e
end
end Rf
namespace Rf
open PySem PySem.Spec PyProof.Rows L2
section
variable {prog : Program} {w : World} {A : Around} {E : Value → Shared → Prop} {s : Shared}
theorem rev_places (n : Nat) : Builtin.Slice.slicePlaces ((n : Int) - 1) (-1) (-1) = n := by
  unfold Builtin.Slice.slicePlaces
  rw [if_neg (by decide)]
  have e : (- -1 : Int) = 1 := by decide
  rw [e, Int.ediv_one]
  by_cases h : (n : Int) - 1 > -1
  · rw [if_pos h]; omega
  · rw [if_neg h]; omega
theorem rev_picked (xs : Array Value) : ((List.range xs.size).filterMap fun (k : Nat) => xs[((xs.size : Int) - 1 + (k : Int) * -1).toNat]?).toArray = xs.toList.reverse.toArray := by
  congr 1
  apply List.ext_getElem?
  intro i
  have e : ((List.range xs.size).filterMap fun (k : Nat) => xs[((xs.size : Int) - 1 + (k : Int) * -1).toNat]?) = (List.range xs.size).map fun k => (xs[xs.size - 1 - k]?).getD .none := by
    have key : ∀ l : List Nat, (∀ k ∈ l, k < xs.size) → (l.filterMap fun (k : Nat) => xs[((xs.size : Int) - 1 + (k : Int) * -1).toNat]?) = l.map fun k => (xs[xs.size - 1 - k]?).getD .none := by
      intro l
      induction l with
      | nil => intro _; rfl
      | cons k l ih =>
        intro hl
        have hk := hl k (List.mem_cons_self ..)
        have e1 : ((xs.size : Int) - 1 + (k : Int) * -1).toNat = xs.size - 1 - k := by omega
        have e2 : xs[xs.size - 1 - k]? = some xs[xs.size - 1 - k] := Array.getElem?_eq_getElem (by omega)
        rw [List.filterMap_cons_some (b := xs[xs.size - 1 - k]) (by rw [e1]; exact e2), List.map_cons, ih fun z hz => hl z (List.mem_cons_of_mem _ hz), e2]
        rfl
    exact key _ fun k hk => List.mem_range.mp hk
  rw [e]
  by_cases hi : i < xs.size
  · rw [List.getElem?_map, List.getElem?_range hi, List.getElem?_reverse (by simpa using hi)]
    have : xs.size - 1 - i < xs.size := by omega
    simp [this]
  · rw [List.getElem?_eq_none (by simp; omega), List.getElem?_eq_none (by simp; omega)]
theorem rev_applied {sl : Addr} {vl vu vs : Value} {n : Nat} {Q : Int × Int × Nat → Shared → Prop} (hs : s.heap.IsSliceOf sl vl vu vs) (pl : IsPart vl none) (pu : IsPart vu none) (ps : IsPart vs (some (-1)))
    (h : Q ((n : Int) - 1, -1, n) s) : wpAny (model prog w) A (Builtin.Slice.sliceApplied (.ref sl) (pure (n : Int))) Q E s := by
  obtain ⟨os, hos, hcs, hds⟩ := id hs
  unfold Builtin.Slice.sliceApplied Builtin.Slice.sliceFields
  refine wpAny_bind (wpAny_bind (wpAny_field hos hds (x := vl) rfl ?_))
  refine wpAny_bind (wpAny_field hos hds (x := vu) rfl ?_)
  refine wpAny_bind (wpAny_field hos hds (x := vs) rfl (wpAny_pure ?_))
  refine wpAny_bind (HT.slicePart_ ps ?_)
  show wpAny _ _ (if ((-1 : Int) == 0) = true then _ else _) _ _ s
  rw [if_neg (by decide)]
  refine wpAny_bind (HT.slicePart_ pl ?_)
  refine wpAny_bind (HT.slicePart_ pu (wpAny_bind (wpAny_pure ?_)))
  show wpAny _ _ (pure ((n : Int) - 1, (-1 : Int), Builtin.Slice.slicePlaces ((n : Int) - 1) (-1) (-1))) _ _ s
  rw [rev_places]
  exact wpAny_pure h
theorem rev_tuple {t sl : Addr} {items : Array Value} {vl vu vs : Value} {Q : Value → Shared → Prop} (ht : IsTup s.heap t items) (hs : s.heap.IsSliceOf sl vl vu vs) (pl : IsPart vl none) (pu : IsPart vu none) (ps : IsPart vs (some (-1)))
    (h : Q (.ref s.heap.objs.size) { s with heap := s.heap.push { cls := .type "tuple", data := .seq items.toList.reverse.toArray } })
    (hsz : items.size ≤ sizeLine) : wpAny (model prog w) A (getItem (.ref t) (.ref sl)) Q E s := by
  have hrev : sizeOk (.seq items.toList.reverse.toArray) := by
    show items.toList.reverse.toArray.size ≤ sizeLine
    simpa using hsz
  obtain ⟨os, hos, hcs, hds⟩ := id hs
  have hT : s.TypeIs (.ref sl) "slice" := ⟨os, hos, hcs⟩
  unfold getItem
  try with_reducible refine wpAny_holding ?_
  first | refine wpAny_bind (wpAny_pure ?_) | skip
  refine wpAny_bind (wpAny_sequenceKey ht.typeIs (by decide) ?_)
  refine wpAny_bind (wpAny_callSpecial?_slot (name := Str.ofString "__getitem__") ht.typeIs PyProof.Rows.slot_tuple_getitem ?_)
  refine wpAny_call_entry PyProof.Rows.slot_tuple_getitem ht.typeIs entry_tuple_getitem ?_ (args_tuple_getitem _ _)
  show wpAny _ _ (Builtin.Tuple.tupleItemsOf (.ref t) >>= _) _ _ s
  refine wpAny_bind (tupleItemsOf_ ht ?_)
  refine wpAny_bind (wpAny_typeOf hT ?_)
  rw [if_pos (by decide)]
  refine wpAny_bind (rev_applied hs pl pu ps ?_)
  have hno : ¬ (((items.size : Int) - 1 == 0 && (-1 : Int) == 1 && items.size == items.size) = true) := by simp
  show wpAny _ _ (if ((items.size : Int) - 1 == 0 && (-1 : Int) == 1 && items.size == items.size) = true then _ else _) _ _ s
  rw [if_neg hno, rev_picked]
  first
    | exact wpAny_bind (m := Builtin.Tuple.tupleExact _) (wpAny_newObj_type (wpAny_pure ⟨_, rfl, wpAny_pure h⟩) hrev)
    | exact wpAny_bind (m := Builtin.Tuple.tupleExact _) (wpAny_newObj_type (wpAny_bind (wpAny_pure (wpAny_pure ⟨_, rfl, wpAny_pure h⟩))) hrev)
    | exact wpAny_bind (wpAny_bind (m := Builtin.Tuple.tupleExact _) (wpAny_newObj_type (wpAny_pure (wpAny_pure ⟨_, rfl, wpAny_pure h⟩)) hrev))
    | exact wpAny_bind (wpAny_bind (m := Builtin.Tuple.tupleExact _) (wpAny_newObj_type (wpAny_pure ⟨_, rfl, wpAny_pure h⟩) hrev))
end
section
variable {X : Cx}
def tRevT (K : PySem.W.Frag) (te : TE) : TE := fun σ H Q => te σ H fun x H1 => ∃ a xs, x = .ref a ∧ SqT K H1 a xs ∧ ∀ p, H1 p = none → Q (.ref p) (upd H1 p (.tup xs.reverse))
def tRevA (K : PySem.W.Frag) (te : TE) : TE := fun σ H Q => te σ H fun x H1 => (∃ a xs, x = .ref a ∧ SqL K H1 a xs ∧ ∀ p, H1 p = none → Q (.ref p) (upd H1 p (.lst xs.reverse))) ∨ ∃ a xs, x = .ref a ∧ SqT K H1 a xs ∧ ∀ p, H1 p = none → Q (.ref p) (upd H1 p (.tup xs.reverse))
theorem pe_revA {e : Expr} {te : TE} {k : Nat} {p1 p2 p3 pos : Pos} (he : PE X e te) : PE X (.Subscript e (.Slice none none (some (.UnaryOp .USub (.Constant (.int 1) k p1) p2)) p3) pos) (tRevA X.K te) := by
  refine ⟨fun pins s σ H Q I0 h0 => ?_⟩
  refine Subscript_ (thn (he.run pins s σ H _ I0 h0) fun v s1 ⟨x, H1, I1, r1, q1⟩ => ?_)
  have stp : PO X (some (.UnaryOp .USub (.Constant (.int 1) k p1) p2)) (tPart (tUn (L2.rU fun i => V.int (-i)) (tC (.int 1)))) := po_some (pe_un un_neg pe_int)
  have ex : ∃ a, x = .ref a := by
    rcases q1 with ⟨a, xs, e, _⟩ | ⟨a, xs, e, _⟩
    · exact ⟨a, e⟩
    · exact ⟨a, e⟩
  obtain ⟨a, rfl⟩ := ex
  cases r1
  refine wpAny_Slice (thn (po_none.run pins s1 σ H1 (fun o G => o = none ∧ G = H1) I1 ⟨rfl, rfl⟩) fun vl s2 ⟨l, H2, I2, pl, el, e2⟩ => ?_)
  subst el e2
  refine thn (po_none.run pins s2 σ H2 (fun o G => o = none ∧ G = H2) I2 ⟨rfl, rfl⟩) fun vu s3 ⟨u, H3, I3, pu, eu, e3⟩ => ?_
  subst eu e3
  refine thn (stp.run pins s3 σ H3 (fun o G => o = some (-1) ∧ G = H3) I3 ⟨1, rfl, -1, rfl, rfl, rfl⟩) fun vs s4 ⟨o, H4, I4, ps, eo, e4⟩ => ?_
  subst eo e4
  have I5 : Inv X pins σ H4 { s4 with heap := s4.heap.push { cls := .type "slice", data := .fields #[vl, vu, vs] } } := I4.kept (t' := s4.toks) fun b ob z => Heap.get?_push_of_some _ z
  show wpAny (model X.prog X.w) X.A (subscriptTail e (.Slice none none (some (.UnaryOp .USub (.Constant (.int 1) k p1) p2)) p3) (.ref a) (.ref s4.heap.objs.size)) (EP X pins σ Q) X.xe { s4 with heap := s4.heap.push { cls := .type "slice", data := .fields #[vl, vu, vs] } }
  rcases q1 with ⟨a', xs, e', hx, q⟩ | ⟨a', xs, e', hx, q⟩
  · cases e'
    obtain ⟨its, r, ht, hz⟩ := I5.list hx
    have hlen := r.length
    refine tail_any (ops := [.ref a, .ref s4.heap.objs.size]) ht.isList.typeIs (PySem.slot_list_getitem.lookup) ?_ (by with_unfolding_all rfl)
    refine wpAny_getItem_list_slice ht.isList (Heap.IsSliceOf.new _ vl vu vs) pl pu ps (by decide) ?_ (by rw [List.size_toArray]; omega)
    rw [PySem.W.krv_pick]
    refine ⟨.ref _, _, I5.laid (t' := s4.toks) (o := .lst xs.reverse) (fun b ob z => Heap.get?_push_of_some _ z) (Nat.le_refl _) ?_, rfl, q _ (I5.hok.fresh (Nat.le_refl _))⟩
    exact ⟨by rw [List.length_reverse]; exact hz, _, 0, r.reverse, Heap.get?_push_size _ rfl⟩
  · cases e'
    obtain ⟨its, r, ht, hz⟩ := I5.tuple hx
    have hlen := r.length
    refine tail_any (ops := [.ref a, .ref s4.heap.objs.size]) ht.typeIs (PyProof.Rows.slot_tuple_getitem.lookup) ?_ (by with_unfolding_all rfl)
    refine rev_tuple ht (Heap.IsSliceOf.new _ vl vu vs) pl pu ps ?_ (by rw [List.size_toArray]; omega)
    refine ⟨.ref _, _, I5.laid (t' := s4.toks) (o := .tup xs.reverse) (fun b ob z => Heap.get?_push_of_some _ z) (Nat.le_refl _) ?_, rfl, q _ (I5.hok.fresh (Nat.le_refl _))⟩
    exact ⟨by rw [List.length_reverse]; exact hz, _, r.reverse, ⟨_, Heap.get?_push_size _ rfl, rfl, 0, rfl⟩⟩
theorem RepL.rev {K : PySem.W.Frag} {H : Hp} {m : List Addr} : ∀ {l : List D} {vs : List V}, RepL K H m l vs → RepL K H m l.reverse vs.reverse
  | [], vs, r => by simp only [RepL] at r; subst r; rfl
  | d :: l, vs, r => by
    simp only [RepL] at r
    obtain ⟨v, t, rfl, a, b⟩ := r
    rw [List.reverse_cons, List.reverse_cons]
    exact RepL.append (RepL.rev b) (RepL.single a)
theorem e_rev {e : Expr} {f : M} {k : Nat} {p1 p2 p3 pos : Pos} (ha : EO X e f) : EO X (.Subscript e (.Slice none none (some (.UnaryOp .USub (.Constant (.int 1) k p1) p2)) p3) pos) (mUn opRev f) := by
  refine PE.weak (pe_revA ha) ?_
  rintro s H Q ⟨m, A, L, d, A', hr, lr, e, post⟩
  obtain ⟨x, A1, e1, e⟩ := R.bind_eq_ok e
  refine ⟨m, A, L, x, A1, hr, lr, e1, fun m1 v H1 p1 k1 hr1 r1 => ?_⟩
  unfold opRev at e
  split at e
  · cases e
    obtain ⟨p, vs, rfl, tp, rp⟩ := rep_tup r1
    exact .inr ⟨p, vs, rfl, tp.sq, PostD.newT (post.later p1 k1) hr1 (RepL.rev rp)⟩
  · split at e
    · cases e
      rename_i hl
      obtain ⟨a, vs, rfl, _, ha, rp⟩ := hr1.lst hl r1
      exact .inl ⟨a, vs, rfl, SqL.of ha, PostD.newL (post.later p1 k1) hr1 (RepL.rev rp)⟩
    · cases e
  · cases e
theorem e_upper {o : Expr} {fo : M} {apos cpos : Pos} (hb : plainBase o = true) (hl : (apos.endLine == cpos.line) = true) (ho : EO X o fo) : EO X (.Call (.Attribute o "upper" apos) [] [] cpos) (mUn opUpper fo) := by
  refine PE.weak (pe_upper ho (base_of hb) hl) ?_
  rintro s H Q ⟨m, A, L, d, A', hr, lr, e, post⟩
  obtain ⟨x, A1, e1, e⟩ := R.bind_eq_ok e
  refine ⟨m, A, L, x, A1, hr, lr, e1, fun m1 v H1 p1 k1 hr1 r1 => ?_⟩
  unfold opUpper at e
  split at e
  · split at e
    · rename_i hz
      cases e
      simp only [Rep] at r1; subst r1
      exact ⟨⟨_, rfl⟩, _, rfl, rfl, hz, (post.later p1 k1).now hr1 rfl⟩
    · cases e
  · cases e
end
end Rf
namespace Rf
open PySem PySem.Spec PyProof.Rows L2
/-- a zip that is strict -/
abbrev IsZipS (h : Heap) (z TI TO : Addr) (f0 : Value) : Prop :=
  h.get? z = some { cls := .type "zip", dict := none, data := .fields #[f0, .bool false, .bool true, .ref TI, .ref TO], slots := #[] }
/-- an iterator over a tuple or a list -/
def SqIt (t : Bool) (h : Heap) (it l : Addr) (i : Nat) : Prop := match t with | true => h.IsTupleIter it l i | false => h.IsListIter it l i
def SqAt (t : Bool) (h : Heap) (l : Addr) (items : Array Value) : Prop := match t with | true => h.IsTuple l items | false => h.IsList l items
theorem SqIt.extBut {t : Bool} {h h' : Heap} {a b l : Addr} {i : Nat} (x : SqIt t h a l i) (hs : Heap.ExtBut b h h') (hab : a ≠ b) : SqIt t h' a l i := by
  cases t
  · exact Heap.IsListIter.extBut (show h.IsListIter a l i from x) hs hab
  · exact Heap.IsTupleIter.extBut (show h.IsTupleIter a l i from x) hs hab
theorem SqIt.at {t : Bool} {h h' : Heap} {a l : Addr} {i : Nat} (x : SqIt t h a l i) (e : ∀ o, h.get? a = some o → h'.get? a = some o) : SqIt t h' a l i := by
  cases t
  · exact Heap.IsListIter.at (show h.IsListIter a l i from x) e
  · exact Heap.IsTupleIter.at (show h.IsTupleIter a l i from x) e
theorem SqAt.extBut {t : Bool} {h h' : Heap} {a b : Addr} {items : Array Value} (x : SqAt t h a items) (hs : Heap.ExtBut b h h') (hab : a ≠ b) : SqAt t h' a items := by
  cases t
  · exact Heap.IsList.extBut (show h.IsList a items from x) hs hab
  · exact Heap.IsTuple.extBut (show h.IsTuple a items from x) hs hab
theorem SqAt.push {t : Bool} {h : Heap} {a : Addr} {items : Array Value} (x : SqAt t h a items) (o : Obj) : SqAt t (h.push o) a items := by
  cases t
  · exact Heap.IsList.push (show h.IsList a items from x) o
  · exact Heap.IsTuple.push (show h.IsTuple a items from x) o
theorem SqIt.obj {t : Bool} {h : Heap} {a l : Addr} {i : Nat} (x : SqIt t h a l i) : ∃ o, h.get? a = some o ∧ ∃ vs, o.data = .fields vs := by
  cases t
  · obtain ⟨o, e, _, d⟩ := (show h.IsListIter a l i from x); exact ⟨o, e, _, d⟩
  · obtain ⟨o, e, _, d⟩ := (show h.IsTupleIter a l i from x); exact ⟨o, e, _, d⟩
theorem SqAt.obj {t : Bool} {h : Heap} {a : Addr} {items : Array Value} (x : SqAt t h a items) : ∃ o, h.get? a = some o := by
  cases t
  · obtain ⟨o, e, _⟩ := (show h.IsList a items from x); exact ⟨o, e⟩
  · obtain ⟨o, e, _⟩ := (show h.IsTuple a items from x); exact ⟨o, e⟩
section
variable {prog : Program} {w : World} {A : Around} {E : Value → Shared → Prop} {s : Shared}
theorem orEnd_item {t : Bool} {it l : Addr} {i : Nat} {items : Array Value} {x : Value} {Q : Option Value → Shared → Prop} (hit : SqIt t s.heap it l i)
    (hl : SqAt t s.heap l items) (hx : items[i]? = some x)
    (hQ : ∀ h', SqIt t h' it l (i + 1) → Heap.SameBut it s.heap h' → Q (some x) { s with heap := h' }) :
    wpAny (model prog w) A (Builtin.SmallTypes.nextOrEnd (.ref it)) Q E s := by
  unfold Builtin.SmallTypes.nextOrEnd
  cases t
  · exact wpAny_bind (wpAny_attempt (wpAny_nextOf_list_item hit hl hx fun h' a b => wpAny_pure (hQ h' a b)))
  · exact wpAny_bind (wpAny_attempt (RZ.nextOf_tuple_item hit hl hx fun h' a b => wpAny_pure (hQ h' a b)))
theorem orEnd_end {t : Bool} {it l : Addr} {i : Nat} {items : Array Value} {Q : Option Value → Shared → Prop} (hh : A.handled = none) (hit : SqIt t s.heap it l i)
    (hl : SqAt t s.heap l items) (hx : items[i]? = none)
    (hQ : ∀ h', Heap.ExtBut it s.heap h' → Q none { s with heap := h' }) :
    wpAny (model prog w) A (Builtin.SmallTypes.nextOrEnd (.ref it)) Q E s := by
  unfold Builtin.SmallTypes.nextOrEnd
  cases t
  · refine wpAny_bind (wpAny_attempt (wpAny_nextOf_list_end hh hit hl hx fun h' e hb he => ?_))
    obtain ⟨o, ho, hc⟩ := he
    refine wpAny_bind (wpAny_isInstance (T := "StopIteration") (b := true) ⟨o, ho, hc⟩ isSubtype_stop ?_)
    exact wpAny_pure (hQ h' hb)
  · refine wpAny_bind (wpAny_attempt (RZ.nextOf_tuple_end hh hit hl hx fun h' e hb he => ?_))
    obtain ⟨o, ho, hc⟩ := he
    refine wpAny_bind (wpAny_isInstance (T := "StopIteration") (b := true) ⟨o, ho, hc⟩ isSubtype_stop ?_)
    exact wpAny_pure (hQ h' hb)
theorem zipS_item {t1 t2 : Bool} {z TI TO i1 i2 l1 l2 : Addr} {k1 k2 : Nat} {xs ys : Array Value} {x y a b : Value} {Q : Value → Shared → Prop} (D : ZipApart z TI TO i1 i2 l1 l2)
    (hz : IsZipS s.heap z TI TO .none) (hTI : PySem.IsPair s.heap TI (.ref i1) (.ref i2)) (hTO : PySem.IsPair s.heap TO a b)
    (h1 : SqIt t1 s.heap i1 l1 k1) (h2 : SqIt t2 s.heap i2 l2 k2) (hl1 : SqAt t1 s.heap l1 xs) (hl2 : SqAt t2 s.heap l2 ys) (hx : xs[k1]? = some x) (hy : ys[k2]? = some y)
    (hQ : ∀ h', IsZipS h' z TI TO (rawInt s.heap.objs.size) → PySem.IsPair h' TO x y → SqIt t1 h' i1 l1 (k1 + 1) → SqIt t2 h' i2 l2 (k2 + 1) → PySem.IsPair h' s.heap.objs.size x y → h'.objs.size = s.heap.objs.size + 1 →
      (∀ c o, c ≠ z → c ≠ TO → c ≠ i1 → c ≠ i2 → s.heap.get? c = some o → h'.get? c = some o) → Q (.ref s.heap.objs.size) { s with heap := h' }) :
    wpAny (model prog w) A (Builtin.«zip.__next__» ⟨[.ref z], []⟩) (fun fin s' => ∃ v, fin = .done (.ret v) ∧ Q v s') E s := by
  show wpAny _ _ (field (.ref z) 2 >>= _) _ _ _
  refine wpAny_bind (wpAny_field hz rfl (x := .bool true) rfl ?_)
  show wpAny _ _ (field (.ref z) 3 >>= _) _ _ _
  refine wpAny_bind (wpAny_field hz rfl (x := .ref TI) rfl ?_)
  refine wpAny_bind (wpAny_seqItems hTI rfl ?_)
  show wpAny _ _ (Builtin.SmallTypes.ownedTupleIsFree (.ref z) >>= _) _ _ _
  refine wpAny_bind ?_
  unfold Builtin.SmallTypes.ownedTupleIsFree
  refine wpAny_bind (wpAny_field hz rfl (x := .none) rfl (wpAny_pure ?_))
  simp only [if_true]
  refine wpAny_bind (wpAny_rule ?_)
  refine wpAny_bind (wpAny_field hz rfl (x := .ref TO) rfl ?_)
  refine wpAny_bind (wpAny_setField_rec hz (by simp) fun g1 hz1 hs1 => ?_)
  replace hz1 : IsZipS g1 z TI TO .ellipsis := hz1
  refine wpAny_bind ?_
  simp only [List.zipIdx_cons, List.zipIdx_nil, List.forIn_cons, List.forIn_nil]
  refine wpAny_bind (wpAny_bind (wpAny_onRaise ?_))
  show wpAny _ _ (Builtin.SmallTypes.nextOrEnd (.ref i1)) _ _ _
  refine orEnd_item (h1.extBut hs1.extBut D.i1z) (hl1.extBut hs1.extBut D.l1z) hx fun g2 h12 hs2 => ?_
  have hTO2 : PySem.IsPair g2 TO a b := hs2.extBut _ _ D.TOi1 (hs1.extBut _ _ D.TOz hTO)
  refine wpAny_bind (wpAny_seqItems hTO2 rfl ?_)
  refine wpAny_bind (wpAny_updateSeq_pair hTO2 fun g3 hTO3 hs3 => ?_)
  replace hTO3 : PySem.IsPair g3 TO x b := hTO3
  refine wpAny_bind (wpAny_letGo (wpAny_pure ?_))
  refine wpAny_bind (wpAny_bind (wpAny_onRaise ?_))
  show wpAny _ _ (Builtin.SmallTypes.nextOrEnd (.ref i2)) _ _ _
  refine orEnd_item (((h2.extBut hs1.extBut D.i2z).extBut hs2.extBut D.i12.symm).extBut hs3.extBut D.TOi2.symm)
    (((hl2.extBut hs1.extBut D.l2z).extBut hs2.extBut D.l2i1).extBut hs3.extBut D.l2TO) hy fun g4 h24 hs4 => ?_
  have hTO4 : PySem.IsPair g4 TO x b := hs4.extBut _ _ D.TOi2 hTO3
  refine wpAny_bind (wpAny_seqItems hTO4 rfl ?_)
  refine wpAny_bind (wpAny_updateSeq_pair hTO4 fun g5 hTO5 hs5 => ?_)
  replace hTO5 : PySem.IsPair g5 TO x y := hTO5
  refine wpAny_bind (wpAny_letGo (wpAny_pure (wpAny_pure ?_)))
  refine wpAny_bind (wpAny_seqItems hTO5 rfl ?_)
  refine wpAny_bind (wpAny_newTuple ?_)
  have hsz : g5.objs.size = s.heap.objs.size := by rw [hs5.1, hs4.1, hs3.1, hs2.1, hs1.1]
  have hz5 : IsZipS g5 z TI TO .ellipsis := hs5.extBut _ _ D.TOz.symm (hs4.extBut _ _ D.i2z.symm (hs3.extBut _ _ D.TOz.symm (hs2.extBut _ _ D.i1z.symm hz1)))
  have hk5 : ∀ c o, c ≠ z → c ≠ TO → c ≠ i1 → c ≠ i2 → s.heap.get? c = some o → g5.get? c = some o := fun c o c1 c2 c3 c4 e =>
    hs5.extBut _ _ c2 (hs4.extBut _ _ c4 (hs3.extBut _ _ c2 (hs2.extBut _ _ c3 (hs1.extBut _ _ c1 e))))
  have h15 : SqIt t1 g5 i1 l1 (k1 + 1) := ((h12.extBut hs3.extBut D.TOi1.symm).extBut hs4.extBut D.i12).extBut hs5.extBut D.TOi1.symm
  have h25 : SqIt t2 g5 i2 l2 (k2 + 1) := h24.extBut hs5.extBut D.TOi2.symm
  have hzlt : z < g5.objs.size := Heap.lt_size hz5
  show wpAny _ _ (Builtin.SmallTypes.ownedTupleHandOut (.ref z) (.ref g5.objs.size) >>= _) _ _ _
  refine wpAny_bind ?_
  unfold Builtin.SmallTypes.ownedTupleHandOut
  have hz6 : IsZipS (g5.push { cls := .type "tuple", data := .seq #[x, y] }) z TI TO .ellipsis := Heap.get?_push_of_some _ hz5
  refine wpAny_bind (wpAny_setField_rec hz6 (by simp) fun g7 hz7 hs7 => ?_)
  replace hz7 : IsZipS g7 z TI TO (rawInt g5.objs.size) := hz7
  refine wpAny_setField_rec hz7 (by simp) fun g8 hz8 hs8 => ?_
  replace hz8 : IsZipS g8 z TI TO (rawInt g5.objs.size) := hz8
  have up : ∀ c o, c ≠ z → g5.get? c = some o → g8.get? c = some o := fun c o c1 e => hs8.extBut _ _ c1 (hs7.extBut _ _ c1 (Heap.get?_push_of_some _ e))
  have hT8 : PySem.IsPair g8 g5.objs.size x y := hs8.extBut _ _ (Nat.ne_of_gt hzlt) (hs7.extBut _ _ (Nat.ne_of_gt hzlt) (Heap.get?_push_size _ rfl))
  have sz8 : g8.objs.size = g5.objs.size + 1 := by rw [hs8.1, hs7.1, Heap.size_push]
  rw [hsz] at hz8 hT8 sz8
  refine wpAny_pure ⟨_, rfl, ?_⟩
  show Q (.ref g5.objs.size) _
  rw [hsz]
  exact hQ g8 hz8 (up _ _ D.TOz hTO5) (h15.at fun o e => up _ o D.i1z e) (h25.at fun o e => up _ o D.i2z e) hT8 sz8 fun c o c1 c2 c3 c4 e => up c o c1 (hk5 c o c1 c2 c3 c4 e)
theorem stop_here {Q : Fin → Shared → Prop} (hh : A.handled = none) (hE : ∀ h' e, (∀ c o, s.heap.get? c = some o → h'.get? c = some o) → (∃ o, h'.get? e = some o ∧ o.cls = .type "StopIteration") → E (.ref e) { s with heap := h' }) :
    wpAny (model prog w) A (Builtin.SmallTypes.stopIteration) Q E s := by
  unfold Builtin.SmallTypes.stopIteration
  refine wpAny_bind ?_
  simp only [newExc, newTuple]
  refine wpAny_bind (wpAny_newObj_type ?_ (by size_fits))
  refine wpAny_bind (m := firstArgMember _ _) (wpAny_of_eq (a := Value.none) (by first | rfl | (simp only [firstArgMember]; rfl)) ?_)
  refine wpAny_newObj_type ?_ (by size_fits)
  simp only [raiseNew]
  refine wpAny_bind (wpAny_handled ?_)
  rw [hh]
  refine wpAny_bind (wpAny_pure (wpAny_throw ?_))
  exact hE _ _ (fun c o e => Heap.get?_push_of_some _ (Heap.get?_push_of_some _ e)) ⟨_, Heap.get?_push_size _ rfl, rfl⟩
theorem zipS_end {t1 t2 : Bool} {z TI TO i1 i2 l1 l2 : Addr} {k1 k2 : Nat} {xs ys : Array Value} {a b : Value} {Q : Fin → Shared → Prop} (hh : A.handled = none) (D : ZipApart z TI TO i1 i2 l1 l2)
    (hz : IsZipS s.heap z TI TO .none) (hTI : PySem.IsPair s.heap TI (.ref i1) (.ref i2)) (hTO : PySem.IsPair s.heap TO a b)
    (h1 : SqIt t1 s.heap i1 l1 k1) (h2 : SqIt t2 s.heap i2 l2 k2) (hl1 : SqAt t1 s.heap l1 xs) (hl2 : SqAt t2 s.heap l2 ys) (hx : xs[k1]? = none) (hy : ys[k2]? = none)
    (hE : ∀ h' e, (∀ c o, c ≠ z → c ≠ TO → c ≠ i1 → c ≠ i2 → s.heap.get? c = some o → h'.get? c = some o) → (∃ o, h'.get? e = some o ∧ o.cls = .type "StopIteration") → E (.ref e) { s with heap := h' }) :
    wpAny (model prog w) A (Builtin.«zip.__next__» ⟨[.ref z], []⟩) Q E s := by
  show wpAny _ _ (field (.ref z) 2 >>= _) _ _ _
  refine wpAny_bind (wpAny_field hz rfl (x := .bool true) rfl ?_)
  show wpAny _ _ (field (.ref z) 3 >>= _) _ _ _
  refine wpAny_bind (wpAny_field hz rfl (x := .ref TI) rfl ?_)
  refine wpAny_bind (wpAny_seqItems hTI rfl ?_)
  show wpAny _ _ (Builtin.SmallTypes.ownedTupleIsFree (.ref z) >>= _) _ _ _
  refine wpAny_bind ?_
  unfold Builtin.SmallTypes.ownedTupleIsFree
  refine wpAny_bind (wpAny_field hz rfl (x := .none) rfl (wpAny_pure ?_))
  simp only [if_true]
  refine wpAny_bind (wpAny_rule ?_)
  refine wpAny_bind (wpAny_field hz rfl (x := .ref TO) rfl ?_)
  refine wpAny_bind (wpAny_setField_rec hz (by simp) fun g1 hz1 hs1 => ?_)
  replace hz1 : IsZipS g1 z TI TO .ellipsis := hz1
  refine wpAny_bind ?_
  simp only [List.zipIdx_cons, List.zipIdx_nil, List.forIn_cons, List.forIn_nil]
  refine wpAny_bind (wpAny_bind (wpAny_onRaise ?_))
  show wpAny _ _ (Builtin.SmallTypes.nextOrEnd (.ref i1)) _ _ _
  refine orEnd_end hh (h1.extBut hs1.extBut D.i1z) (hl1.extBut hs1.extBut D.l1z) hx fun g2 hs2 => ?_
  have hz2 : IsZipS g2 z TI TO .ellipsis := hs2 _ _ D.i1z.symm hz1
  refine wpAny_bind (wpAny_setField_rec hz2 (by simp) fun g3 hz3 hs3 => ?_)
  refine wpAny_bind ?_
  show wpAny _ _ (forIn ([(Value.ref i2, 1)] : List (Value × Nat)) PUnit.unit _ >>= _) _ _ _
  refine wpAny_bind ?_
  simp only [List.forIn_cons, List.forIn_nil]
  refine wpAny_bind (wpAny_bind ?_)
  have h2' : SqIt t2 g3 i2 l2 k2 := ((h2.extBut hs1.extBut D.i2z).extBut hs2 D.i12.symm).extBut hs3.extBut D.i2z
  have hl2' : SqAt t2 g3 l2 ys := ((hl2.extBut hs1.extBut D.l2z).extBut hs2 D.l2i1).extBut hs3.extBut D.l2z
  refine orEnd_end hh h2' hl2' hy fun g4 hs4 => ?_
  rw [if_neg (by simp)]
  refine wpAny_pure (wpAny_pure (wpAny_bind (wpAny_rule ?_)))
  refine stop_here hh fun h' e hk he => ?_
  exact hE h' e (fun c o c1 c2 c3 c4 hc => hk c o (hs4 _ _ c4 (hs3.extBut _ _ c1 (hs2 _ _ c3 (hs1.extBut _ _ c1 hc))))) he
theorem nextS_item {t1 t2 : Bool} {z TI TO i1 i2 l1 l2 : Addr} {k1 k2 : Nat} {xs ys : Array Value} {x y a b : Value} {Q : Option Value → Shared → Prop} (D : ZipApart z TI TO i1 i2 l1 l2)
    (hz : IsZipS s.heap z TI TO .none) (hTI : PySem.IsPair s.heap TI (.ref i1) (.ref i2)) (hTO : PySem.IsPair s.heap TO a b)
    (h1 : SqIt t1 s.heap i1 l1 k1) (h2 : SqIt t2 s.heap i2 l2 k2) (hl1 : SqAt t1 s.heap l1 xs) (hl2 : SqAt t2 s.heap l2 ys) (hx : xs[k1]? = some x) (hy : ys[k2]? = some y)
    (hQ : ∀ h', IsZipS h' z TI TO (rawInt s.heap.objs.size) → PySem.IsPair h' TO x y → SqIt t1 h' i1 l1 (k1 + 1) → SqIt t2 h' i2 l2 (k2 + 1) → PySem.IsPair h' s.heap.objs.size x y → h'.objs.size = s.heap.objs.size + 1 →
      (∀ c o, c ≠ z → c ≠ TO → c ≠ i1 → c ≠ i2 → s.heap.get? c = some o → h'.get? c = some o) → Q (some (.ref s.heap.objs.size)) { s with heap := h' }) :
    wpAny (model prog w) A (pyNext (.ref z)) Q E s := by
  have hT : s.TypeIs (.ref z) "zip" := ⟨_, hz, rfl⟩
  unfold pyNext
  exact wpAny_bind (wpAny_attempt (wpAny_callSpecial?_slot (name := Str.ofString "__next__") hT F.slot_zip_next
    (wpAny_call_entry F.slot_zip_next hT F.entry_zip_next
      (zipS_item D hz hTI hTO h1 h2 hl1 hl2 hx hy fun h' a1 a2 a3 a4 a5 a6 a7 => wpAny_pure (hQ h' a1 a2 a3 a4 a5 a6 a7)) (F.args_zip_next_1 _))))
theorem nextS_end {t1 t2 : Bool} {z TI TO i1 i2 l1 l2 : Addr} {k1 k2 : Nat} {xs ys : Array Value} {a b : Value} {Q : Option Value → Shared → Prop} (hh : A.handled = none) (D : ZipApart z TI TO i1 i2 l1 l2)
    (hz : IsZipS s.heap z TI TO .none) (hTI : PySem.IsPair s.heap TI (.ref i1) (.ref i2)) (hTO : PySem.IsPair s.heap TO a b)
    (h1 : SqIt t1 s.heap i1 l1 k1) (h2 : SqIt t2 s.heap i2 l2 k2) (hl1 : SqAt t1 s.heap l1 xs) (hl2 : SqAt t2 s.heap l2 ys) (hx : xs[k1]? = none) (hy : ys[k2]? = none)
    (hQ : ∀ h', (∀ c o, c ≠ z → c ≠ TO → c ≠ i1 → c ≠ i2 → s.heap.get? c = some o → h'.get? c = some o) → Q none { s with heap := h' }) : wpAny (model prog w) A (pyNext (.ref z)) Q E s := by
  have hT : s.TypeIs (.ref z) "zip" := ⟨_, hz, rfl⟩
  unfold pyNext
  refine wpAny_bind (wpAny_attempt (wpAny_callSpecial?_slot (name := Str.ofString "__next__") hT F.slot_zip_next
    (wpAny_call_entry F.slot_zip_next hT F.entry_zip_next (zipS_end hh D hz hTI hTO h1 h2 hl1 hl2 hx hy fun h' e hk he => ?_) (F.args_zip_next_1 _))))
  obtain ⟨o, ho, hc⟩ := he
  refine wpAny_bind (wpAny_isInstance (T := "StopIteration") (b := true) ⟨o, ho, hc⟩ isSubtype_stop ?_)
  exact wpAny_pure (hQ _ hk)
theorem goS {elts : List Expr} {x1} {pos : Pos} {z TI TO T : Addr} {Q : Unit → Shared → Prop} (hz : IsZipS s.heap z TI TO (rawInt T))
    (hQ : ∀ h', IsZipS h' z TI TO .none → Heap.SameBut z s.heap h' → Q () { s with heap := h' }) :
    wpAny (model prog w) A (letOwnedTupleGo (.Tuple elts x1 pos) (.ref z) (.ref T)) Q E s := by
  unfold letOwnedTupleGo
  refine wpAny_bind (wpAny_load hz ?_)
  show wpAny _ _ (if (["enumerate", "zip", "dict_itemiterator", "dict_reverseitemiterator", "odict_iterator", "itertools.zip_longest", "itertools.pairwise"].contains "zip" &&
      (#[rawInt T, .bool false, .bool true, .ref TI, .ref TO] : Array Value)[0]? == some (rawInt T)) = true then _ else _) Q E s
  rw [if_pos (by simp)]
  refine wpAny_bind (wpAny_rule ?_)
  show wpAny _ _ (setField (.ref z) 0 .none) Q E s
  exact wpAny_setField_rec hz (by simp) fun h' hz' hs' => hQ h' hz' hs'
theorem iterS {z TI TO : Addr} {f0 : Value} {Q : Value → Shared → Prop} (hz : IsZipS s.heap z TI TO f0) (h : Q (.ref z) s) : wpAny (model prog w) A (pyIter (.ref z)) Q E s := by
  have hT : s.TypeIs (.ref z) "zip" := ⟨_, hz, rfl⟩
  refine wpAny_pyIter_slot hT F.slot_zip_iter (wpAny_call_entry F.slot_zip_iter hT F.entry_zip_iter ?_ (F.args_zip_iter_1 _))
  show wpAny _ _ (ret (.ref z)) _ _ s
  exact wpAny_pure ⟨_, rfl, "zip", _, hT, F.slot_zip_next.lookup, h⟩
end
end Rf
namespace Rf
open PySem PySem.Spec PyProof.Rows L2
section
variable {prog : Program} {w : World} {A : Around} {E : Value → Shared → Prop} {s : Shared}
/-- the keyword strict=True -/
abbrev kwS : List (Str × Value) := [(Str.ofString "strict", .bool true)]
theorem typeCall_zipS (a b : Value) : checkTypeCall "zip" ⟨[a, b], kwS⟩ = pure () := by kernel_rfl
theorem newCall_zipS (a b : Value) : checkBuiltinCall "zip.__new__" ⟨[.type "zip", a, b], kwS⟩ = pure () := by kernel_rfl
theorem args_initS (a b c : Value) : argsOk "object.__init__" ⟨[a, b, c], kwS⟩ := by
  unfold argsOk; rw [signature?_of (id := "object.__init__") (n := ['_', '_', 't', 'i', 'n', 'i', '_', '_']) (o := ['t', 'c', 'e', 'j', 'b', 'o']) (by kernel_rfl) F.owner_object]; kernel_rfl
theorem callType_K {T newId initId : String} {Bn Bi : Builtin} {args : List Value} {kw : List (Str × Value)} {S : PySem.Spec} {Q Q₁ : Value → Shared → Prop} (ft : TypeCalled T newId initId)
    (hct : checkTypeCall T ⟨args, kw⟩ = pure ()) (hcn : checkBuiltinCall newId ⟨.type T :: args, kw⟩ = pure ())
    (entryN : entryFor table newId = some Bn) (entryI : entryFor table initId = some Bi) (g : Meets (Bn ⟨.type T :: args, kw⟩) S)
    (h : S A.in1 (wants Q₁ E) s)
    (hnext : ∀ obj s₁, Q₁ obj s₁ → s₁.TypeIs obj T ∧ argsOk initId ⟨obj :: args, kw⟩ ∧ ∃ Si, Meets (Bi ⟨obj :: args, kw⟩) Si ∧ Si A.in1 (wants (fun r s₂ => r = .none ∧ Q obj s₂) E) s₁) :
    wpAny (model prog w) A (call (.type T) args kw) Q E s := by
  obtain ⟨c, tl, hmro⟩ := ft.mro
  have hmade := ft.made
  have hsub := ft.sub
  refine wpAny_call (codeAny_of_tree ?_)
  show wpAny _ _ (callAny (.type T) _) _ _ _
  refine wpAny_pure ⟨Code.quiet_builtin _ (by decide +kernel), codeAny_builtin F.entry_type_call ?_⟩
  rw [Around.under_plain (weight_type_call_type T args kw) (units_type_call_type T args kw)]
  have h1 := ft.notType
  have h2 := ft.canCreate
  repeat (any_goals (first | assumption | wp_step))
  refine codeAny_mono (codeAny_call_builtin ft.plain entryN (wpAny_of_eq hcn (g prog w A.in1 _ s h))) fun r s₁ hr => ?_
  cases r with
  | error e => exact hr
  | ok fl =>
    cases fl with
    | ret obj =>
      obtain ⟨hT, hok, Si, gi, hsi⟩ := hnext _ _ hr
      have hli := ft.init.lookup
      have hbi := ft.init.bind obj
      repeat (any_goals (first | assumption | wp_step))
      refine codeAny_mono (codeAny_call_builtin ft.init.plain entryI (ft.init.check _ _ _ _ _ _ _ _ hT hok (gi prog w A.in1 _ s₁ hsi))) fun r₂ s₂ hr₂ => ?_
      cases r₂ with
      | error e => exact hr₂
      | ok fl₂ =>
        cases fl₂ with
        | ret r =>
          obtain ⟨rfl, hq⟩ := hr₂
          repeat (any_goals (first | assumption | wp_step))
        | _ => exact hr₂.elim
    | _ => exact hr.elim
theorem init_K {T newId : String} {self a : Value} {rest : List Value} {kw : List (Str × Value)} (hl : typeLookup (.type T) "__init__" = pure (some (.builtin "object.__init__")))
    (hm : Bind.madeBy (.type T) = pure (some newId)) (hne : (some newId != some "object.__new__") = true) :
    Meets (Builtin.«object.__init__» ⟨self :: a :: rest, kw⟩) (fun _ R s => s.TypeIs self T ∧ R (.ok (.ret .none)) s) := by
  refine Meets.of_wp fun prog w A R s hs => ?_
  obtain ⟨hT, hq⟩ := hs
  repeat (any_goals (first | assumption | wp_step))
  exact ⟨_, rfl, hq⟩
/-- an iterator as it is made -/
def itOb (t : Bool) (l : Addr) : Obj := match t with
  | true => { cls := .type "tuple_iterator", data := .fields #[.ref l, .int 0 0] }
  | false => { cls := .type "list_iterator", data := .fields #[.ref l, .int 0 0] }
theorem itOb_it {t : Bool} {h : Heap} {a l : Addr} (e : h.get? a = some (itOb t l)) : SqIt t h a l 0 := by
  cases t <;> exact ⟨_, e, rfl, rfl⟩
abbrev zH1 (t1 : Bool) (h : Heap) (l1 : Addr) : Heap := h.push (itOb t1 l1)
abbrev zH2 (t1 t2 : Bool) (h : Heap) (l1 l2 : Addr) : Heap := (zH1 t1 h l1).push (itOb t2 l2)
abbrev zH3 (t1 t2 : Bool) (h : Heap) (l1 l2 : Addr) : Heap := (zH2 t1 t2 h l1 l2).push { cls := .type "tuple", data := .seq #[.ref h.objs.size, .ref (zH1 t1 h l1).objs.size] }
abbrev zH4 (t1 t2 : Bool) (h : Heap) (l1 l2 : Addr) : Heap := (zH3 t1 t2 h l1 l2).push { cls := .type "tuple", data := .seq #[.none, .none] }
abbrev zH5 (t1 t2 : Bool) (h : Heap) (l1 l2 : Addr) : Heap := (zH4 t1 t2 h l1 l2).push { cls := .type "zip", data := .fields #[.none, .bool false, .bool true, .ref (zH2 t1 t2 h l1 l2).objs.size, .ref (zH3 t1 t2 h l1 l2).objs.size] }
theorem meets_zipS_new (t1 t2 : Bool) (l1 l2 : Addr) (xs ys : Array Value) :
    Meets (Builtin.«zip.__new__» ⟨[.type "zip", .ref l1, .ref l2], kwS⟩) (fun _ R s => SqAt t1 s.heap l1 xs ∧ SqAt t2 s.heap l2 ys ∧
      R (.ok (.ret (.ref (zH4 t1 t2 s.heap l1 l2).objs.size))) { s with heap := zH5 t1 t2 s.heap l1 l2 }) :=
  .of_wp fun prog w A R s h => by
    obtain ⟨hp, g, d, tk, os⟩ := s; obtain ⟨hl1, hl2, h⟩ := h
    have hsub := sub_zip
    cases t1
    · cases t2
      · have hL1 : Heap.IsList (Shared.heap ⟨hp, g, d, tk, os⟩) l1 xs := hl1
        have hL2 : Heap.IsList (Shared.heap ⟨hp.push { cls := .type "list_iterator", data := .fields #[.ref l1, .int 0 0] }, g, d, tk, os⟩) l2 ys := Heap.IsList.push hl2 _
        wp_walk using wpAny_pyIter_list hL1, wpAny_pyIter_list hL2
        exact ⟨_, rfl, h⟩
      · have hL1 : Heap.IsList (Shared.heap ⟨hp, g, d, tk, os⟩) l1 xs := hl1
        have hL2 : Heap.IsTuple (Shared.heap ⟨hp.push { cls := .type "list_iterator", data := .fields #[.ref l1, .int 0 0] }, g, d, tk, os⟩) l2 ys := Heap.IsTuple.push hl2 _
        wp_walk using wpAny_pyIter_list hL1, wpAny_pyIter_tuple hL2
        exact ⟨_, rfl, h⟩
    · cases t2
      · have hL1 : Heap.IsTuple (Shared.heap ⟨hp, g, d, tk, os⟩) l1 xs := hl1
        have hL2 : Heap.IsList (Shared.heap ⟨hp.push { cls := .type "tuple_iterator", data := .fields #[.ref l1, .int 0 0] }, g, d, tk, os⟩) l2 ys := Heap.IsList.push hl2 _
        wp_walk using wpAny_pyIter_tuple hL1, wpAny_pyIter_list hL2
        exact ⟨_, rfl, h⟩
      · have hL1 : Heap.IsTuple (Shared.heap ⟨hp, g, d, tk, os⟩) l1 xs := hl1
        have hL2 : Heap.IsTuple (Shared.heap ⟨hp.push { cls := .type "tuple_iterator", data := .fields #[.ref l1, .int 0 0] }, g, d, tk, os⟩) l2 ys := Heap.IsTuple.push hl2 _
        wp_walk using wpAny_pyIter_tuple hL1, wpAny_pyIter_tuple hL2
        exact ⟨_, rfl, h⟩
theorem call_zipS {t1 t2 : Bool} {l1 l2 : Addr} {xs ys : Array Value} {Q : Value → Shared → Prop} (hl1 : SqAt t1 s.heap l1 xs) (hl2 : SqAt t2 s.heap l2 ys)
    (h : ∀ h', IsZipS h' (s.heap.objs.size + 4) (s.heap.objs.size + 2) (s.heap.objs.size + 3) .none → PySem.IsPair h' (s.heap.objs.size + 2) (.ref s.heap.objs.size) (.ref (s.heap.objs.size + 1)) →
      PySem.IsPair h' (s.heap.objs.size + 3) .none .none → SqIt t1 h' s.heap.objs.size l1 0 → SqIt t2 h' (s.heap.objs.size + 1) l2 0 → h'.objs.size = s.heap.objs.size + 5 →
      (∀ c o, s.heap.get? c = some o → h'.get? c = some o) → Q (.ref (s.heap.objs.size + 4)) { s with heap := h' }) :
    wpAny (model prog w) A (call (.type "zip") [.ref l1, .ref l2] kwS) Q E s := by
  refine callType_K (Q₁ := fun obj s₁ => s₁.TypeIs obj "zip" ∧ Q obj s₁) F.called_zip (typeCall_zipS _ _) (newCall_zipS _ _) F.entry_zip_new F.entry_object_init
    (meets_zipS_new t1 t2 l1 l2 xs ys) ⟨hl1, hl2, ?_⟩ fun obj s1 hq => ⟨hq.1, args_initS obj _ _, _, init_K F.called_zip.init.lookup F.called_zip.made (by decide), hq.1, rfl, hq.2⟩
  have z1 : (zH1 t1 s.heap l1).objs.size = s.heap.objs.size + 1 := Heap.size_push ..
  have z2 : (zH2 t1 t2 s.heap l1 l2).objs.size = s.heap.objs.size + 2 := by rw [Heap.size_push, z1]
  have z3 : (zH3 t1 t2 s.heap l1 l2).objs.size = s.heap.objs.size + 3 := by rw [Heap.size_push, z2]
  have z4 : (zH4 t1 t2 s.heap l1 l2).objs.size = s.heap.objs.size + 4 := by rw [Heap.size_push, z3]
  have z5 : (zH5 t1 t2 s.heap l1 l2).objs.size = s.heap.objs.size + 5 := by rw [Heap.size_push, z4]
  have g5 : (zH5 t1 t2 s.heap l1 l2).get? (zH4 t1 t2 s.heap l1 l2).objs.size = some _ := Heap.get?_push_size _ rfl
  have g4 : (zH5 t1 t2 s.heap l1 l2).get? (zH3 t1 t2 s.heap l1 l2).objs.size = some _ := Heap.get?_push_of_some _ (Heap.get?_push_size _ rfl)
  have g3 : (zH5 t1 t2 s.heap l1 l2).get? (zH2 t1 t2 s.heap l1 l2).objs.size = some _ := Heap.get?_push_of_some _ (Heap.get?_push_of_some _ (Heap.get?_push_size _ rfl))
  have g2 : (zH5 t1 t2 s.heap l1 l2).get? (zH1 t1 s.heap l1).objs.size = some (itOb t2 l2) := Heap.get?_push_of_some _ (Heap.get?_push_of_some _ (Heap.get?_push_of_some _ (Heap.get?_push_size _ (by cases t2 <;> rfl))))
  have g1 : (zH5 t1 t2 s.heap l1 l2).get? s.heap.objs.size = some (itOb t1 l1) := Heap.get?_push_of_some _ (Heap.get?_push_of_some _ (Heap.get?_push_of_some _ (Heap.get?_push_of_some _ (Heap.get?_push_size _ (by cases t1 <;> rfl)))))
  show _ ∧ _
  rw [z2, z3, z4] at g5
  rw [z1, z2] at g3
  rw [z3] at g4
  rw [z1] at g2
  rw [z4]
  exact ⟨⟨_, g5, rfl⟩, h _ g5 g3 g4 (itOb_it g1) (itOb_it g2) z5 fun c o x =>
    Heap.get?_push_of_some _ (Heap.get?_push_of_some _ (Heap.get?_push_of_some _ (Heap.get?_push_of_some _ (Heap.get?_push_of_some _ x))))⟩
end
end Rf
namespace Rf
open PySem PySem.Spec PyProof.Rows L2
/-- the walk J yields what the source has -/
structure Wk (K : PySem.W.Frag) (J : It) (src : Src) (H0 : Hp) (m0 : List Addr) : Prop where
  go : ∀ (i : Nat) (H : Hp) (m : List Addr) (A : Hpp), m0 <+: m → Keep H0 H → HR K H m A → src.still A = true → i < src.items.length → J.go i H
  stop : ∀ (H : Hp) (m : List Addr) (A : Hpp), m0 <+: m → Keep H0 H → HR K H m A → src.still A = true → J.stop src.items.length H
  yld : ∀ (i : Nat) (H : Hp) (m : List Addr) (A : Hpp) (x : V) (H' : Hp) (d : D), m0 <+: m → Keep H0 H → HR K H m A → src.still A = true → src.items[i]? = some d → J.yld i H x H' → HR K H' m A ∧ Keep H H' ∧ Rep K H' m d x
theorem Wk.later {K : PySem.W.Frag} {J : It} {src : Src} {H0 H1 : Hp} {m0 m1 : List Addr} (w : Wk K J src H0 m0) (p : m0 <+: m1) (k : Keep H0 H1) : Wk K J src H1 m1 where
  go := fun i H m A p' k' => w.go i H m A (p.trans p') (k.trans k')
  stop := fun H m A p' k' => w.stop H m A (p.trans p') (k.trans k')
  yld := fun i H m A x H' d p' k' => w.yld i H m A x H' d (p.trans p') (k.trans k')
def tI (K : PySem.W.Frag) (f : MS) : TI := fun s H R => ∃ (m : List Addr) (A : Hpp) (L : Loc) (src : Src) (A' : Hpp), HR K H m A ∧ LR K H m L s ∧ f L A = .ok src A' ∧
  ∀ (m' : List Addr) (H' : Hp) (J : It), m <+: m' → Keep H H' → HR K H' m' A' → Wk K J src H' m' → R J H'
abbrev IO' (X : Cx) (tg e : Expr) (f : MS) : Prop := PI X tg e (tI X.K f)
theorem wk_list {K : PySem.W.Frag} {H0 : Hp} {m0 : List Addr} {n : Nat} {l : List D} {a : Addr} (hm : m0[n]? = some a) : Wk K (Itl K a) (.lst n l) H0 m0 := by
  have get : ∀ (H : Hp) (m : List Addr) (A : Hpp), m0 <+: m → HR K H m A → Src.still A (.lst n l) = true → ∃ vs, SqL K H a vs ∧ RepL K H m l vs := fun H m A p hr st => by
    simp only [Src.still, decide_eq_true_eq] at st
    have hm' := Pre.get p hm
    rcases st with st | st
    · obtain ⟨vs, e, r⟩ := hr.at_ n a _ hm' st
      exact ⟨vs, SqL.of e, r⟩
    · obtain ⟨vs, e, r⟩ := hr.at_ n a _ hm' st
      exact ⟨vs, e.sq, r⟩
  refine ⟨fun i H m A p _ hr st hi => ?_, fun H m A p _ hr st => ?_, fun i H m A x H' d p _ hr st hd y => ?_⟩
  · obtain ⟨vs, sq, r⟩ := get H m A p hr st
    have hi' : i < vs.length := by rw [r.length]; exact hi
    exact ⟨vs, vs[i], sq, List.getElem?_eq_getElem hi'⟩
  · obtain ⟨vs, sq, r⟩ := get H m A p hr st
    exact ⟨vs, sq, by rw [r.length]; exact Nat.le_refl _⟩
  · obtain ⟨vs, sq, r⟩ := get H m A p hr st
    obtain ⟨rfl, y⟩ := y
    obtain ⟨v, h1, h2⟩ := r.get hd
    have := y vs sq
    rw [h1] at this
    cases this
    exact ⟨hr, Keep.refl _, h2⟩
theorem wk_tup {K : PySem.W.Frag} {H0 : Hp} {m0 : List Addr} {l : List D} {a : Addr} {vs : List V} (ht : TupAt K H0 a vs) (r0 : RepL K H0 m0 l vs) : Wk K (Itt K a) (.its l) H0 m0 := by
  refine ⟨fun i H m A p k hr st hi => ?_, fun H m A p k hr st => ?_, fun i H m A x H' d p k hr st hd y => ?_⟩
  · have hi' : i < vs.length := by rw [r0.length]; exact hi
    exact ⟨vs, vs[i], (ht.mono k).sq, List.getElem?_eq_getElem hi'⟩
  · exact ⟨vs, (ht.mono k).sq, by rw [r0.length]; exact Nat.le_refl _⟩
  · obtain ⟨rfl, y⟩ := y
    obtain ⟨v, h1, h2⟩ := (RepL.mono k p _ _ r0).get hd
    have := y vs (ht.mono k).sq
    rw [h1] at this
    cases this
    exact ⟨hr, Keep.refl _, h2⟩
theorem wk_str {K : PySem.W.Frag} {H0 : Hp} {m0 : List Addr} {z : Str} : Wk K (Its z) (.its (z.cps.toList.map fun c => .str ⟨#[c]⟩)) H0 m0 := by
  refine ⟨fun i H m A p k hr st hi => ?_, fun H m A p k hr st => ?_, fun i H m A x H' d p k hr st hd y => ?_⟩
  · simpa [Its, Src.items] using hi
  · simp [Its, Src.items]
  · obtain ⟨rfl, c, h1, rfl⟩ := y
    simp only [Src.items, List.getElem?_map, Array.getElem?_toList, h1, Option.map_some, Option.some.injEq] at hd
    subst hd
    exact ⟨hr, Keep.refl _, rfl⟩
theorem wk_range {K : PySem.W.Frag} {H0 : Hp} {m0 : List Addr} {lo : Int} {n : Nat} : Wk K (Itr lo n) (.its (rangeD lo n)) H0 m0 := by
  refine ⟨fun i H m A p k hr st hi => ?_, fun H m A p k hr st => ?_, fun i H m A x H' d p k hr st hd y => ?_⟩
  · simpa [Itr, Src.items, rangeD] using hi
  · simp [Itr, Src.items, rangeD]
  · obtain ⟨rfl, rfl⟩ := y
    simp only [Src.items, rangeD, List.getElem?_map] at hd
    obtain ⟨j, h1, h2⟩ := Option.map_eq_some_iff.mp hd
    have hj : i = j := by
      rw [List.getElem?_range] at h1
      · exact Option.some.inj h1
      · have := (List.getElem?_eq_some_iff.mp h1).1
        simpa using this
    subst hj
    subst h2
    exact ⟨hr, Keep.refl _, rfl⟩
section
variable {X : Cx} {tg e a b : Expr} {f fa fb : M} {pos p : Pos}
theorem PI.or {t t' : TI} (h : PI X tg e t) (h' : PI X tg e t') : PI X tg e (fun s H R => t s H R ∨ t' s H R) :=
  ⟨fun pins s q H R I z => z.elim (h.run pins s q H R I) (h'.run pins s q H R I)⟩
theorem i_seq (he : EO X e f) : IO' X tg e (srcSeq f) := by
  refine PI.weak (PI.or (pi_list he) (PI.or (pi_tup he) (pi_str he))) ?_
  rintro s H RR ⟨m, A, L, src, A', hr, lr, e, post⟩
  obtain ⟨x, A1, e1, e⟩ := R.bind_eq_ok e
  split at e
  · cases e
    refine .inr (.inl ⟨m, A, L, _, _, hr, lr, e1, fun m1 v H1 p1 k1 hr1 r1 => ?_⟩)
    obtain ⟨q, vs, rfl, tp, rp⟩ := rep_tup r1
    exact ⟨q, rfl, ⟨vs, tp.sq⟩, post m1 H1 _ p1 k1 hr1 (wk_tup tp rp)⟩
  · split at e
    · rename_i hl
      cases e
      refine .inl ⟨m, A, L, _, _, hr, lr, e1, fun m1 v H1 p1 k1 hr1 r1 => ?_⟩
      obtain ⟨q, vs, rfl, hm, ha, rp⟩ := hr1.lst hl r1
      exact ⟨q, rfl, ⟨vs, SqL.of ha⟩, post m1 H1 _ p1 k1 hr1 (wk_list hm)⟩
    · rename_i hl
      cases e
      refine .inl ⟨m, A, L, _, _, hr, lr, e1, fun m1 v H1 p1 k1 hr1 r1 => ?_⟩
      obtain ⟨q, vs, rfl, hm, ha, rp⟩ := hr1.rd hl r1
      exact ⟨q, rfl, ⟨vs, ha.sq⟩, post m1 H1 _ p1 k1 hr1 (wk_list hm)⟩
    · cases e
  · cases e
    refine .inr (.inr ⟨m, A, L, _, _, hr, lr, e1, fun m1 v H1 p1 k1 hr1 r1 => ?_⟩)
    simp only [Rep] at r1
    exact ⟨_, r1, post m1 H1 _ p1 k1 hr1 wk_str⟩
  · cases e
theorem i_range1 (hg : Gl X "range") (hm : X.mg "range" = none) (hs : noStar a = true) (ha : EO X a fa) : IO' X tg (.Call (.Name "range" p) [a] [] pos) (srcRange1 fa) := by
  refine PI.weak (pi_range1 hg hm (pa_cons ha pa_nil (star_cons hs)) (star_cons hs)) ?_
  rintro s H RR ⟨m, A, L, src, A', hr, lr, e, post⟩
  obtain ⟨x, A1, e1, e⟩ := R.bind_eq_ok e
  split at e
  · split at e
    · rename_i hz
      cases e
      refine ⟨m, A, L, _, _, hr, lr, e1, fun m1 v H1 p1 k1 hr1 r1 => ?_⟩
      simp only [Rep] at r1
      subst r1
      exact ⟨_, rfl, hz.1, hz.2, post m1 H1 _ p1 k1 hr1 wk_range⟩
    · cases e
  · cases e
theorem i_range2 (hg : Gl X "range") (hm : X.mg "range" = none) (hs : noStar a = true) (hs2 : noStar b = true) (ha : EO X a fa) (hb : EO X b fb) : IO' X tg (.Call (.Name "range" p) [a, b] [] pos) (srcRange2 fa fb) := by
  refine PI.weak (pi_range2 hg hm (pa_cons ha (pa_cons hb pa_nil (star_cons hs2)) (star_cons hs)) (by rw [star_cons hs, star_cons hs2] <;> rfl) (star_cons hs2)) ?_
  rintro s H RR ⟨m, A, L, src, A', hr, lr, e, post⟩
  obtain ⟨x, A1, e1, e⟩ := R.bind_eq_ok e
  obtain ⟨y, A2, e2, e⟩ := R.bind_eq_ok e
  split at e
  · split at e
    · rename_i hz
      cases e
      refine ⟨m, A, L, _, _, hr, lr, e1, fun m1 v H1 p1 k1 hr1 r1 => ?_⟩
      refine ⟨m1, _, L, _, _, hr1, lr.mono k1 p1, e2, fun m2 u H2 p2 k2 hr2 r2 => ?_⟩
      simp only [Rep] at r1 r2
      subst r1; subst r2
      exact ⟨_, _, rfl, ⟨hz.1.1, hz.1.2, hz.2.1, hz.2.2⟩, post m2 H2 _ (p1.trans p2) (k1.trans k2) hr2 wk_range⟩
    · cases e
  · cases e
theorem rg_rep {K : PySem.W.Frag} {H : Hp} {m : List Addr} (i j : Int) : RepL K H m (rangeD i (j - i).toNat) (rgV i j) := by
  unfold rangeD rgV
  generalize List.range (j - i).toNat = l
  induction l with
  | nil => exact rfl
  | cons x l ih => exact ⟨_, _, rfl, rfl, ih⟩
theorem rgD_of {K : PySem.W.Frag} {H : Hp} {m : List Addr} {A A' : Hpp} {i j : Int} {k : Bool} {d : D} {Q : VK} (hr : HR K H m A) (e : rgD k i j A = .ok d A') (post : PostD K H m d A' Q) :
    RgOk i j ∧ ∀ q, H q = none → Q (.ref q) (upd H q (if k = true then .tup (rgV i j) else .lst (rgV i j))) := by
  unfold rgD at e
  split at e
  · rename_i hk
    refine ⟨hk, ?_⟩
    cases k with
    | true => cases e; exact PostD.newT post hr (rg_rep i j)
    | false => cases e; exact PostD.newL post hr (rg_rep i j)
  · cases e
theorem e_rg1 {x y : Str} {q1 q2 : Pos} {k : Bool} (hc : X.calm = true) (hx : x = if k = true then "tuple" else "list") (gx : Gl X x) (mx : X.mg x = none) (gr : Gl X "range") (mr : X.mg "range" = none) (hs : noStar a = true) (ha : EO X a fa) :
    EO X (.Call (.Name x p) [.Call (.Name "range" q1) [a] [] q2] [] pos) (mRg1 k fa) := by
  have pr := prg_1 (p := q1) (pos := q2) gr mr ha (star_cons hs)
  cases k with
  | true =>
    subst hx
    refine PE.weak (pe_tupRg hc gx mx pr (star_cons rfl)) ?_
    rintro s H Q ⟨m, A, L, d, A', hr, lr, e, post⟩
    obtain ⟨z, A1, e1, e⟩ := R.bind_eq_ok e
    split at e
    · refine ⟨m, A, L, _, A1, hr, lr, e1, fun m1 v H1 p1 k1 hr1 r1 => ?_⟩
      simp only [Rep] at r1
      subst r1
      obtain ⟨h1, h2⟩ := rgD_of hr1 e (post.later p1 k1)
      exact ⟨_, rfl, h1, fun q hq => h2 q hq⟩
    · cases e
  | false =>
    subst hx
    refine PE.weak (pe_listRg hc gx mx pr (star_cons rfl)) ?_
    rintro s H Q ⟨m, A, L, d, A', hr, lr, e, post⟩
    obtain ⟨z, A1, e1, e⟩ := R.bind_eq_ok e
    split at e
    · refine ⟨m, A, L, _, A1, hr, lr, e1, fun m1 v H1 p1 k1 hr1 r1 => ?_⟩
      simp only [Rep] at r1
      subst r1
      obtain ⟨h1, h2⟩ := rgD_of hr1 e (post.later p1 k1)
      exact ⟨_, rfl, h1, fun q hq => h2 q hq⟩
    · cases e
theorem e_rg2 {x y : Str} {q1 q2 : Pos} {k : Bool} (hc : X.calm = true) (hx : x = if k = true then "tuple" else "list") (gx : Gl X x) (mx : X.mg x = none) (gr : Gl X "range") (mr : X.mg "range" = none) (hs : noStar a = true) (hs2 : noStar b = true) (ha : EO X a fa) (hb : EO X b fb) :
    EO X (.Call (.Name x p) [.Call (.Name "range" q1) [a, b] [] q2] [] pos) (mRg2 k fa fb) := by
  have pr := prg_2 (p := q1) (pos := q2) gr mr ha hb (star_cons hs) (star_cons hs2) (star_none (by rw [List.all_cons, hs2]; rfl))
  have go : ∀ {s : L2.St} {H : Hp} {Q : VK}, tE X.K (mRg2 k fa fb) s H Q → tRg2 (tE X.K fa) (tE X.K fb) s H fun i j H1 => RgOk i j ∧ ∀ q, H1 q = none → Q (.ref q) (upd H1 q (if k = true then .tup (rgV i j) else .lst (rgV i j))) := by
    rintro s H Q ⟨m, A, L, d, A', hr, lr, e, post⟩
    obtain ⟨z, A1, e1, e⟩ := R.bind_eq_ok e
    obtain ⟨z2, A2, e2, e⟩ := R.bind_eq_ok e
    split at e
    · refine ⟨m, A, L, _, A1, hr, lr, e1, fun m1 v H1 p1 k1 hr1 r1 => ?_⟩
      refine ⟨m1, A1, L, _, A2, hr1, lr.mono k1 p1, e2, fun m2 u H2 p2 k2 hr2 r2 => ?_⟩
      simp only [Rep] at r1 r2
      subst r1; subst r2
      exact ⟨_, _, rfl, rfl, rgD_of hr2 e ((post.later p1 k1).later p2 k2)⟩
    · cases e
  cases k with
  | true =>
    subst hx
    exact PE.weak (pe_tupRg hc gx mx pr (star_cons rfl)) fun _ _ _ h => go h
  | false =>
    subst hx
    exact PE.weak (pe_listRg hc gx mx pr (star_cons rfl)) fun _ _ _ h => go h
theorem drop_cons {α : Type} {l : List α} {i : Nat} {d : α} (h : l[i]? = some d) : l.drop i = d :: l.drop (i + 1) := by
  have hi := (List.getElem?_eq_some_iff.mp h).1
  rw [List.drop_eq_getElem_cons hi]
  rw [List.getElem?_eq_getElem hi] at h
  cases h
  rfl
theorem s_for {fs : MS} {t : T} {g : S} {body : List Stmt} (hp : PassesOwn (model X.prog X.w) X.A X.env X.xe) (hc : X.calm = true) (hi : IO' X tg e fs) (hg : GO X tg t) (hb : SLO X body g) (hs : ∀ x, foldedSetIterable e X.env x = pure x) :
    SO X (.For tg e body [] pos) (sFor fs t g) := by
  refine PS.weak (ps_for hp hc hi hg hb hs) ?_
  rintro E s H ⟨m, A, L, o, A', hr, lr, e, post⟩
  obtain ⟨src, A1, e1, e2⟩ := R.bind_eq_ok e
  refine ⟨m, A, L, src, A1, hr, lr, e1, fun m1 H1 J p1 k1 hr1 wk => ?_⟩
  refine ⟨fun i n s2 H2 => ∃ (m2 : List Addr) (A2 : Hpp) (L2 : Loc), i ≤ src.items.length ∧ n = src.items.length - i ∧ m1 <+: m2 ∧ Keep H1 H2 ∧ HR X.K H2 m2 A2 ∧ LR X.K H2 m2 L2 s2 ∧ forLoop src t g (src.items.drop i) L2 A2 = .ok o A',
    ⟨_, m1, A1, L, Nat.zero_le _, rfl, List.prefix_refl _, Keep.refl _, hr1, lr.mono k1 p1, e2⟩, ?_⟩
  rintro i n s2 H2 ⟨m2, A2, L2, hi, rfl, p2, k2, hr2, lr2, e3⟩
  by_cases hlt : i < src.items.length
  · have hd : src.items[i]? = some src.items[i] := List.getElem?_eq_getElem hlt
    rw [drop_cons hd] at e3
    unfold forLoop at e3
    split at e3
    · rename_i st
      refine .inr ⟨wk.go i H2 m2 A2 p2 k2 hr2 st hlt, ?_⟩
      obtain ⟨L3, A3, e4, e5⟩ := R.bind_eq_ok e3
      obtain ⟨o2, A4, e6, e7⟩ := R.bind_eq_ok e5
      refine ⟨fun s' H' => ∃ (m' : List Addr) (A5 : Hpp) (L' : Loc), m1 <+: m' ∧ Keep H1 H' ∧ HR X.K H' m' A5 ∧ LR X.K H' m' L' s' ∧ forLoop src t g (src.items.drop (i + 1)) L' A5 = .ok o A', ?_, ?_⟩
      · rintro s' H' ⟨m', A5, L', q1, q2, q3, q4, q5⟩
        exact ⟨src.items.length - (i + 1), by omega, m', A5, L', by omega, rfl, q1, q2, q3, q4, q5⟩
      · intro x H3 y
        obtain ⟨hr3, k3, r3⟩ := wk.yld i H2 m2 A2 x H3 _ p2 k2 hr2 st hd y
        refine ⟨m2, A2, L2, _, L3, A3, hr3, lr2.mono k3 (List.prefix_refl _), r3, e4, fun m4 s4 H4 p4 k4 hr4 lr4 => ?_⟩
        refine ⟨m4, A3, L3, o2, A4, hr4, lr4, e6, ?_⟩
        cases o2 with
        | nx L5 => exact fun m5 s5 H5 p5 k5 hr5 lr5 => ⟨m5, A4, L5, p2.trans (p4.trans p5), k2.trans (k3.trans (k4.trans k5)), hr5, lr5, e7⟩
        | ct L5 => exact fun m5 s5 H5 p5 k5 hr5 lr5 => ⟨m5, A4, L5, p2.trans (p4.trans p5), k2.trans (k3.trans (k4.trans k5)), hr5, lr5, e7⟩
        | bk L5 =>
          cases e7
          exact PostN.later post (p1.trans (p2.trans p4)) (k1.trans (k2.trans (k3.trans k4)))
        | rt d =>
          cases e7
          exact PostD.later post (p1.trans (p2.trans p4)) (k1.trans (k2.trans (k3.trans k4)))
    · cases e3
  · have hi' : i = src.items.length := by omega
    subst hi'
    rw [List.drop_length] at e3
    unfold forLoop at e3
    split at e3
    · rename_i st
      cases e3
      exact .inl ⟨wk.stop H2 m2 _ p2 k2 hr2 st, post m2 s2 H2 (p1.trans p2) (k1.trans k2) hr2 lr2⟩
    · cases e3
theorem s_while {c : Expr} {fc : M} {g : S} {body : List Stmt} (hp : PassesOwn (model X.prog X.w) X.A X.env X.xe) (hc : TO' X c fc) (hb : SLO X body g) : SO X (.While c body [] pos) (sWhile fc g) := by
  refine PS.weak (ps_while hp hc hb) ?_
  rintro E s H ⟨m, A, L, o, A', hr, lr, e, post⟩
  unfold sWhile at e
  refine ⟨fun n s2 H2 => ∃ (m2 : List Addr) (A2 : Hpp) (L2 : Loc), m <+: m2 ∧ Keep H H2 ∧ HR X.K H2 m2 A2 ∧ LR X.K H2 m2 L2 s2 ∧ whileLoop fc g n L2 A2 = .ok o A',
    ⟨_, m, A, L, List.prefix_refl _, Keep.refl _, hr, lr, e⟩, ?_⟩
  rintro n s2 H2 ⟨m2, A2, L2, p2, k2, hr2, lr2, e2⟩
  cases n with
  | zero => cases e2
  | succ n =>
    unfold whileLoop at e2
    obtain ⟨b, A3, e3, e4⟩ := R.bind_eq_ok e2
    refine ⟨m2, A2, L2, b, A3, hr2, lr2, e3, fun m3 H3 p3 k3 hr3 => ?_⟩
    cases b with
    | false =>
      cases e4
      exact post m3 s2 H3 (p2.trans p3) (k2.trans k3) hr3 (lr2.mono k3 p3)
    | true =>
      obtain ⟨o2, A4, e5, e6⟩ := R.bind_eq_ok e4
      refine ⟨fun s' H' => ∃ (m' : List Addr) (A5 : Hpp) (L' : Loc), m <+: m' ∧ Keep H H' ∧ HR X.K H' m' A5 ∧ LR X.K H' m' L' s' ∧ whileLoop fc g n L' A5 = .ok o A', fun s' H' q => ⟨n, by omega, q⟩, ?_⟩
      refine ⟨m3, A3, L2, o2, A4, hr3, lr2.mono k3 p3, e5, ?_⟩
      cases o2 with
      | nx L5 => exact fun m5 s5 H5 p5 k5 hr5 lr5 => ⟨m5, A4, L5, p2.trans (p3.trans p5), k2.trans (k3.trans k5), hr5, lr5, e6⟩
      | ct L5 => exact fun m5 s5 H5 p5 k5 hr5 lr5 => ⟨m5, A4, L5, p2.trans (p3.trans p5), k2.trans (k3.trans k5), hr5, lr5, e6⟩
      | bk L5 =>
        cases e6
        exact PostN.later post (p2.trans p3) (k2.trans k3)
      | rt d =>
        cases e6
        exact PostD.later post (p2.trans p3) (k2.trans k3)
end
/-! comprehensions -/
/-- a comprehension's target: its own names alone -/
structure TgOk (K : PySem.W.Frag) (own : List Nat) (g : TG) (t : T) : Prop where
  run : ∀ (v : V) (s : L2.St) (H : Hp) (m : List Addr) (A : Hpp) (L : Loc) (d : D) (L' : Loc) (A' : Hpp) (Q : L2.St → Hp → Prop), HR K H m A → LR K H m L s → Rep K H m d v → t d L A = .ok L' A' →
    (A' = A → ∀ s', LR K H m L' s' → wipe s' own = wipe s own → Q s' H) → g v s H Q
structure TgsOk (K : PySem.W.Frag) (own : List Nat) (g : TGs) (t : TL) (n : Nat) : Prop where
  run : ∀ (vs : List V) (s : L2.St) (H : Hp) (m : List Addr) (A : Hpp) (L : Loc) (ds : List D) (L' : Loc) (A' : Hpp) (Q : L2.St → Hp → Prop), HR K H m A → LR K H m L s → RepL K H m ds vs → t ds L A = .ok L' A' →
    (A' = A → ∀ s', LR K H m L' s' → wipe s' own = wipe s own → Q s' H) → vs.length = n ∧ g vs s H Q
theorem wipe_set_ne {s : L2.St} {i : Nat} {x : Option V} : ∀ {own : List Nat}, i ∉ own → wipe (s.set i x) own = (wipe s own).set i x
  | [], _ => rfl
  | j :: own, h => by
    simp only [List.mem_cons, not_or] at h
    show (wipe (s.set i x) own).set j none = ((wipe s own).set j none).set i x
    rw [wipe_set_ne h.2, List.set_comm _ _ h.1]
theorem wipe_set {s : L2.St} {i : Nat} {x : Option V} : ∀ {own : List Nat}, i ∈ own → wipe (s.set i x) own = wipe s own
  | j :: own, h => by
    show (wipe (s.set i x) own).set j none = (wipe s own).set j none
    by_cases hi : i ∈ own
    · rw [wipe_set hi]
    · have : i = j := by
        rcases List.mem_cons.mp h with z | z
        · exact z
        · exact absurd z hi
      subst this
      rw [wipe_set_ne hi, List.set_set]
theorem wipe_none (s : L2.St) : ∀ (own : List Nat) (i : Nat), i ∈ own → (wipe s own).set i none = wipe s own
  | j :: own, i, h => by
    show ((wipe s own).set j none).set i none = (wipe s own).set j none
    by_cases e : i = j
    · subst e; rw [List.set_set]
    · have hi : i ∈ own := by
        rcases List.mem_cons.mp h with z | z
        · exact absurd z e
        · exact z
      rw [List.set_comm _ _ (Ne.symm e), wipe_none s own i hi]
theorem wipe_some' (s : L2.St) : ∀ (own l : List Nat), (∀ i ∈ l, i ∈ own) → wipe (wipe s own) l = wipe s own
  | own, [], _ => rfl
  | own, i :: l, h => by
    show (wipe (wipe s own) l).set i none = wipe s own
    rw [wipe_some' s own l fun j hj => h j (List.mem_cons_of_mem _ hj)]
    exact wipe_none s own i (h i List.mem_cons_self)
theorem wipe_twice (s : L2.St) (own : List Nat) : wipe (wipe s own) own = wipe s own := wipe_some' s own own fun _ h => h
theorem tg_var {K : PySem.W.Frag} {own : List Nat} {i : Nat} (h : i ∈ own) : TgOk K own (gName i) (gVar i) := by
  refine ⟨fun v s H m A L d L' A' Q hr lr rv e q => ?_⟩
  cases e
  exact q rfl _ (lr.set rv) (wipe_set h)
theorem tgs_nil {K : PySem.W.Frag} {own : List Nat} : TgsOk K own gNil gNil' 0 := by
  refine ⟨fun vs s H m A L ds L' A' Q hr lr rv e q => ?_⟩
  unfold gNil' at e
  split at e
  · cases e
    cases rv
    exact ⟨rfl, rfl, q rfl _ lr rfl⟩
  · cases e
/-- a target of names leaves the heap -/
inductive TNames : TL → Nat → List Nat → Prop
  | nil : TNames gNil' 0 []
  | cons {i n : Nat} {u : TL} {l : List Nat} : TNames u n l → TNames (gCons' (gVar i) u) (n + 1) (i :: l)
def gsOf : List Nat → TGs
  | [] => gNil
  | i :: l => gCons (gName i) (gsOf l)
theorem tgs_names {K : PySem.W.Frag} {own : List Nat} {u : TL} {n : Nat} {l : List Nat} (h : TNames u n l) : (∀ i ∈ l, i ∈ own) → TgsOk K own (gsOf l) u n := by
  induction h with
  | nil => exact fun _ => tgs_nil
  | cons _ ih =>
    intro hm
    refine ⟨fun vs s H m A L ds L' A' Q hr lr rv e q => ?_⟩
    unfold gCons' at e
    split at e
    · obtain ⟨L1, A1, e1, e2⟩ := R.bind_eq_ok e
      obtain ⟨v, r, rfl, ra, rb⟩ := rv
      cases e1
      obtain ⟨hl, hg⟩ := (ih fun i hi => hm i (List.mem_cons_of_mem _ hi)).run r _ H m _ _ _ L' A' Q hr (lr.set ra) rb e2 fun q1 s' lr' w => q q1 s' lr' (w.trans (wipe_set (hm _ List.mem_cons_self)))
      exact ⟨by simp [hl], v, r, rfl, hg⟩
    · cases e
theorem tg_tup {K : PySem.W.Frag} {own : List Nat} {u : TL} {n : Nat} {l : List Nat} (h : TNames u n l) (hm : ∀ i ∈ l, i ∈ own) : TgOk K own (gTup K n (gsOf l)) (gTupT' u) := by
  refine ⟨fun v s H m A L d L' A' Q hr lr rv e q => ?_⟩
  unfold gTupT' at e
  split at e
  · obtain ⟨p, vs, rfl, tp, rp⟩ := rep_tup rv
    obtain ⟨hl, hg⟩ := (tgs_names h hm).run vs s H m A L _ L' A' Q hr lr rp e q
    exact ⟨p, vs, rfl, tp.sq, hl, hg⟩
  · cases e
theorem lc_of {K : PySem.W.Frag} {fs : MS} {g : TG} {t : T} {c : MB} {f : M} {own : List Nat} {s : L2.St} {H : Hp} {Q : VK} (ht : TgOk K own g t)
    (h : tE K (mLc fs t c f own) s H Q) : tLc (tI K fs) g (tT K c) (tE K f) own s H Q := by
  obtain ⟨m, A, L, d, A', hr, lr, e, post⟩ := h
  obtain ⟨src, A1, e1, e⟩ := R.bind_eq_ok e
  obtain ⟨_, A2, e2, e⟩ := R.bind_eq_ok e
  cases e
  refine ⟨m, A, L, src, A1, hr, lr, e1, fun m1 H1 J p1 k1 hr1 wk => ?_⟩
  intro D hD
  have hr2 : HR K (upd H1 D (.lst [])) (m1 ++ [D]) (A1 ++ [.lst []]) := hr1.new hD rfl ⟨[], upd_same, rfl⟩
  have em : (m1 ++ [D])[A1.length]? = some D := by rw [← hr1.len]; simp
  refine ⟨fun i n H2 => ∃ (m2 : List Addr) (A3 : Hpp), i ≤ src.items.length ∧ n = src.items.length - i ∧ (m1 ++ [D]) <+: m2 ∧ Keep H1 H2 ∧ HR K H2 m2 A3 ∧ lcLoop src A1.length t c f (wipeL L own) (src.items.drop i) A3 = .ok () A',
    ⟨_, m1 ++ [D], _, Nat.zero_le _, rfl, List.prefix_refl _, Keep.new hD, hr2, e2⟩, ?_⟩
  rintro i n H2 ⟨m2, A3, hi, rfl, p2, k2, hr3, e3⟩
  have pp : m1 <+: m2 := (List.prefix_append _ _).trans p2
  by_cases hlt : i < src.items.length
  · have hd : src.items[i]? = some src.items[i] := List.getElem?_eq_getElem hlt
    rw [drop_cons hd] at e3
    unfold lcLoop at e3
    split at e3
    · rename_i st
      refine .inr ⟨wk.go i H2 m2 A3 pp k2 hr3 st hlt, ?_⟩
      obtain ⟨L3, A4, e4, e5⟩ := R.bind_eq_ok e3
      obtain ⟨k, A5, e6, e7⟩ := R.bind_eq_ok e5
      refine ⟨fun H' => ∃ (m' : List Addr) (A6 : Hpp), (m1 ++ [D]) <+: m' ∧ Keep H1 H' ∧ HR K H' m' A6 ∧ lcLoop src A1.length t c f (wipeL L own) (src.items.drop (i + 1)) A6 = .ok () A', ?_, ?_⟩
      · rintro H' ⟨m', A6, q1, q2, q3, q4⟩
        exact ⟨src.items.length - (i + 1), by omega, m', A6, by omega, rfl, q1, q2, q3, q4⟩
      · intro x H3 y
        obtain ⟨hr4, k4, r4⟩ := wk.yld i H2 m2 A3 x H3 _ pp k2 hr3 st hd y
        have lrw : LR K H3 m2 (wipeL L own) (wipe s own) := (lr.mono (k1.trans (k2.trans k4)) (p1.trans pp)).wipe own
        refine ht.run x (wipe s own) H3 m2 A3 (wipeL L own) _ L3 A4 _ hr4 lrw r4 e4 fun eA s5 lr5 hws => ⟨hws.trans (wipe_twice s own), ?_⟩
        subst eA
        refine ⟨m2, A4, L3, k, A5, hr4, lr5, e6, fun m6 H6 p6 k6 hr6 => ?_⟩
        cases k with
        | false => exact ⟨m6, A5, p2.trans p6, k2.trans (k4.trans k6), hr6, e7⟩
        | true =>
          obtain ⟨z, A7, e8, e9⟩ := R.bind_eq_ok e7
          refine ⟨m6, A5, L3, z, A7, hr6, lr5.mono k6 p6, e8, fun m7 v H7 p7 k7 hr7 r7 => ?_⟩
          split at e9
          · rename_i acc hacc
            split at e9
            · rename_i hz
              have em7 : m7[A1.length]? = some D := Pre.get (p2.trans (p6.trans p7)) em
              obtain ⟨vs, hv, rv⟩ := hr7.at_ _ _ _ em7 hacc
              have kp : Keep H7 (upd H7 D (.lst (vs ++ [v]))) := Keep.write hv (fun _ z => by cases z)
              obtain ⟨q1, q2⟩ := hr7.set (o := .lst (vs ++ [v])) (u' := .lst (acc ++ [z])) hacc em7 rfl rfl ⟨_, upd_same, RepL.mono kp (List.prefix_refl _) _ _ (rv.append (RepL.single r7))⟩
              exact ⟨vs, hv, by rw [rv.length]; exact hz, m7, _, p2.trans (p6.trans p7), k2.trans (k4.trans (k6.trans (k7.trans q2))), q1, e9⟩
            · cases e9
          · cases e9
    · cases e3
  · have hi' : i = src.items.length := by omega
    subst hi'
    rw [List.drop_length] at e3
    unfold lcLoop at e3
    split at e3
    · rename_i st
      cases e3
      refine .inl ⟨wk.stop H2 m2 _ pp k2 hr3 st, post m2 (.ref D) H2 (p1.trans pp) (k1.trans k2) hr3 ?_⟩
      simp only [Rep]
      exact ⟨D, Pre.get p2 em, rfl⟩
    · cases e3
end Rf
namespace Rf
open PySem PySem.Spec PyProof.Rows L2
/-- a tuple or a list -/
def SqV (t : Bool) (K : PySem.W.Frag) (H : Hp) (a : Addr) (xs : List V) : Prop := match t with | true => SqT K H a xs | false => SqL K H a xs
theorem SqV.at_ {t : Bool} {X : Cx} {pins : List (Addr × Obj)} {σ : L2.St} {H : Hp} {s : Shared} {a : Addr} {xs : List V} (h : SqV t X.K H a xs) (I : Inv X pins σ H s) : ∃ its : List Value, Vals xs its ∧ SqAt t s.heap a its.toArray := by
  cases t
  · obtain ⟨its, rv, p, _⟩ := I.list (show SqL X.K H a xs from h); exact ⟨its, rv, p.isList⟩
  · obtain ⟨its, rv, p, _⟩ := I.tuple (show SqT X.K H a xs from h); exact ⟨its, rv, p⟩
theorem SqV.inj {t : Bool} {X : Cx} {pins : List (Addr × Obj)} {σ : L2.St} {H : Hp} {s : Shared} {a : Addr} {xs ys : List V} (I : Inv X pins σ H s) (h : SqV t X.K H a xs) (h' : SqV t X.K H a ys) : xs = ys := by
  cases t
  · exact I.list_inj h h'
  · exact I.tuple_inj h h'
/-- two tuples of one length, the items in new pairs -/
def ItzS (t1 t2 : Bool) (K : PySem.W.Frag) (a b : Addr) : It :=
  ⟨fun i H => ∃ (xs ys : List V) (x y : V), SqV t1 K H a xs ∧ SqV t2 K H b ys ∧ xs[i]? = some x ∧ ys[i]? = some y,
    fun i H v H' => ∃ T x y, v = .ref T ∧ H T = none ∧ H' = upd H T (.tup [x, y]) ∧ (∀ xs, SqV t1 K H a xs → xs[i]? = some x) ∧ ∀ ys, SqV t2 K H b ys → ys[i]? = some y,
    fun i H => ∃ xs ys : List V, SqV t1 K H a xs ∧ SqV t2 K H b ys ∧ xs.length ≤ i ∧ ys.length ≤ i⟩
theorem turn_zipS {t1 t2 : Bool} {P : Program} {w : World} {K : PySem.W.Frag} {elts : List Expr} {kk : Nat} {tpos : Pos} {a b z TI TO i1 i2 : Addr} (D : ZipApart z TI TO i1 i2 a b) :
    Turn P w K (.Tuple elts kk tpos) (ItzS t1 t2 K a b) [z, TI, TO, i1, i2] z (fun i h => IsZipS h z TI TO .none ∧ PySem.IsPair h TI (.ref i1) (.ref i2) ∧ (∃ x y, PySem.IsPair h TO x y) ∧ SqIt t1 h i1 a i ∧ SqIt t2 h i2 b i) where
  mem := by simp
  obj := fun i h st c hc => by
    obtain ⟨hz, hTI, ⟨x, y, hTO⟩, h1, h2⟩ := st
    obtain ⟨o1, e1, w1, d1⟩ := h1.obj
    obtain ⟨o2, e2, w2, d2⟩ := h2.obj
    have e' : c = z ∨ c = TI ∨ c = TO ∨ c = i1 ∨ c = i2 := by simpa using hc
    rcases e' with q | q | q | q | q
    · rw [q]; exact ⟨_, hz, fun v q => nomatch q⟩
    · rw [q]; exact ⟨_, hTI, fun v q => nomatch q⟩
    · rw [q]; exact ⟨_, hTO, fun v q => nomatch q⟩
    · rw [q]; exact ⟨o1, e1, fun v q => by rw [d1] at q; cases q⟩
    · rw [q]; exact ⟨o2, e2, fun v q => by rw [d2] at q; cases q⟩
  keep := fun i h h' st k => by
    obtain ⟨hz, hTI, ⟨x, y, hTO⟩, h1, h2⟩ := st
    exact ⟨k z (by simp) _ hz, k TI (by simp) _ hTI, ⟨x, y, k TO (by simp) _ hTO⟩, h1.at fun o q => k i1 (by simp) o q, h2.at fun o q => k i2 (by simp) o q⟩
  item := by
    intro X hP hw hK hc i pins s σ H E I hf st hg
    subst hP hw hK
    obtain ⟨hz, hTI, ⟨x0, y0, hTO⟩, h1, h2⟩ := st
    obtain ⟨xs, ys, x, y, hqx, hqy, hx, hy⟩ := hg
    obtain ⟨its, rv, p⟩ := hqx.at_ I
    obtain ⟨its2, rv2, p2⟩ := hqy.at_ I
    obtain ⟨u, hu, ru⟩ := rv.get hx
    obtain ⟨u2, hu2, ru2⟩ := rv2.get hy
    have hzl : z < s.heap.objs.size := Heap.lt_size hz
    refine nextS_item D hz hTI hTO h1 h2 p p2 (x := u) (y := u2) (by simpa using hu) (by simpa using hu2) fun h' z' TO' h1' h2' hT hsz hk => ?_
    refine ⟨_, rfl, goS (s := { s with heap := h' }) z' fun h'' z'' sb => ?_⟩
    have hT2 : h''.get? s.heap.objs.size = some { cls := .type "tuple", data := .seq #[u, u2] } := (sb.2 _ (Nat.ne_of_gt hzl)).trans hT
    have new : ObjOk X.prog X.w (upd H s.heap.objs.size (.tup [x, y])) h'' s.heap.objs.size (.tup [x, y]) :=
      ⟨by show 2 ≤ sizeLine; decide, [u, u2], .cons ru (.cons ru2 .nil), ⟨_, hT2, rfl, _, rfl⟩⟩
    have I1 : Inv X pins σ (upd H s.heap.objs.size (.tup [x, y])) { s with heap := h'' } :=
      I.turnedNew (t' := s.toks) (ch := [z, TI, TO, i1, i2]) (fun c o hb q => (sb.2 c (fun q' => hb (by simp [q']))).trans (hk c o (fun q' => hb (by simp [q'])) (fun q' => hb (by simp [q'])) (fun q' => hb (by simp [q'])) (fun q' => hb (by simp [q'])) q)) hf (Nat.le_refl _) new
    refine ⟨.ref s.heap.objs.size, _, I1, rfl, ⟨_, x, y, rfl, I.hok.fresh (Nat.le_refl _), rfl, fun l hl => by rw [SqV.inj I hl hqx]; exact hx, fun l hl => by rw [SqV.inj I hl hqy]; exact hy⟩, ⟨z'', ?_, ⟨u, u2, ?_⟩, ?_, ?_⟩, fun c hcm => ?_⟩
    · exact (sb.2 _ D.TIz).trans (hk _ _ D.TIz D.TITO D.TIi1 D.TIi2 hTI)
    · exact (sb.2 _ D.TOz).trans TO'
    · exact h1'.at fun o q => (sb.2 _ D.i1z).trans q
    · exact h2'.at fun o q => (sb.2 _ D.i2z).trans q
    · have hlt : c < s.heap.objs.size := by
        have e' : c = z ∨ c = TI ∨ c = TO ∨ c = i1 ∨ c = i2 := by simpa using hcm
        rcases e' with q | q | q | q | q
        · rw [q]; exact hzl
        · rw [q]; exact Heap.lt_size hTI
        · rw [q]; exact Heap.lt_size hTO
        · rw [q]; obtain ⟨_, e1, _⟩ := h1.obj; exact Heap.lt_size e1
        · rw [q]; obtain ⟨_, e2, _⟩ := h2.obj; exact Heap.lt_size e2
      rw [upd_ne (Nat.ne_of_lt hlt)]
      exact (hf c hcm).1
  done := by
    intro X hP hw hK hc i pins s σ H E I hf st hg
    subst hP hw hK
    obtain ⟨hz, hTI, ⟨x0, y0, hTO⟩, h1, h2⟩ := st
    obtain ⟨xs, ys, hqx, hqy, e1, e2⟩ := hg
    obtain ⟨its, rv, p⟩ := hqx.at_ I
    obtain ⟨its2, rv2, p2⟩ := hqy.at_ I
    have l1 := rv.length
    have l2 := rv2.length
    exact nextS_end (I.ok.hd hc) D hz hTI hTO h1 h2 p p2 (by simp; omega) (by simp; omega) fun h' hk => ⟨rfl, I.turnedL (t' := s.toks) (ch := [z, TI, TO, i1, i2]) (fun c o hb q =>
      hk c o (fun q' => hb (by simp [q'])) (fun q' => hb (by simp [q'])) (fun q' => hb (by simp [q'])) (fun q' => hb (by simp [q'])) q) hf⟩
  self := fun A i s Q E st h => iterS st.1 h
/-! zip(e, e2, strict=True) -/
section
variable {M : Model} {A : Around} {E : Value → Shared → Prop} {s : Shared} {env : Env}
theorem callWith_typeK {pos : Pos} {T : String} {e : Expr} {rest : List Expr} {kws : List Keyword} {Q : Value → Shared → Prop}
    (h : wpAny M A (spliced (backTo pos (starEach (e :: rest) env))) (fun vs s₁ => wpAny M A (evalAll ((backToKw pos (keywordEach kws env)).map (·.2)))
      (fun kvs s₂ => wpAny M A (call (.type T) vs (((backToKw pos (keywordEach kws env)).filterMap (·.1)).zip kvs)) Q E s₂) E s₁) E s)
    (he : backTo pos (starEach (e :: rest) env) = (false, eval e env) :: backTo pos (starEach rest env))
    (hplain : (backTo pos (starEach (e :: rest) env)).any (·.1) = false)
    (hall : (backToKw pos (keywordEach kws env)).all (·.1.isSome) = true)
    (hkw : (backToKw pos (keywordEach kws env)).any (·.1.isNone) = false) :
    wpAny M A (callWith pos (.type T) [] (backTo pos (starEach (e :: rest) env)) (backToKw pos (keywordEach kws env))) Q E s := by
  unfold callWith
  have h2 : wpAny M A (evalArgs (.type T) true (backTo pos (starEach (e :: rest) env)) (backToKw pos (keywordEach kws env))) (fun a s₁ => wpAny M A (call (.type T) ([] ++ a.pos) a.kw) Q E s₁) E s := by
    rw [he] at h ⊢
    exact evalArgs_kwB hall h
  refine wpAny_bind (wpAny_holding (wpAny_mono h2 (fun a s₁ h₁ => wpAny_bind (wpAny_standAt ?_)) fun _ _ x => x))
  simp only [hplain, hkw, Bool.or_false]
  refine wpAny_bind (wpAny_pure ?_)
  exact wpAny_bind (wpAny_mono h₁ (fun r s₂ hr => wpAny_bind (wpAny_holding (wpAny_point (wpAny_pure hr)))) fun _ _ x => x)
end
def iZipS (K : PySem.W.Frag) (ta : TA) : TI := fun σ H R => ta σ H fun vs H1 => ∃ t1 t2 a b xs ys, vs = [.ref a, .ref b] ∧ SqV t1 K H1 a xs ∧ SqV t2 K H1 b ys ∧ R (ItzS t1 t2 K a b) H1
theorem pi_zipS {X : Cx} {e e2 : Expr} {ta : TA} {p pos tpos kp cp : Pos} {elts : List Expr} {kk j : Nat} (hg : Gl X "zip") (hm : X.mg "zip" = none) (ha : PA X [e, e2] ta)
    (hs : starEach [e, e2] X.env = (false, eval e X.env) :: starEach [e2] X.env) (hpl : (backTo pos (starEach [e, e2] X.env)).any (·.1) = false) :
    PI X (.Tuple elts kk tpos) (.Call (.Name "zip" p) [e, e2] [⟨some (Str.ofString "strict"), .Constant (.bool true) j cp, kp⟩] pos) (iZipS X.K ta) := by
  refine ⟨fun pins s σ H R I h => ?_⟩
  refine wpAny_Call_Name_kw (ld_blt I hg hm PyProof.Rows.boot_zip ?_)
  refine callWith_typeK (thn (ha.run pos pins s σ H _ I h) fun us s1 ⟨vs, H1, I1, r1, q1⟩ => ?_) (by rw [hs]; rfl) hpl rfl rfl
  refine kws_cons ?_
  show wpAny _ _ (pure (Value.bool true)) _ _ _
  refine wpAny_pure (kws_nil ?_)
  obtain ⟨t1, t2, a, b, xs, ys, ex, hqx, hqy, q⟩ := q1
  subst ex
  cases r1 with
  | cons r rr =>
    cases rr with
    | cons r' rr =>
      cases rr
      cases r
      cases r'
      have fresh5 : ∀ c, c ∈ [s1.heap.objs.size + 4, s1.heap.objs.size + 2, s1.heap.objs.size + 3, s1.heap.objs.size, s1.heap.objs.size + 1] → FpOk X pins H1 c := fun c hcm => by
        have e' : c = s1.heap.objs.size + 4 ∨ c = s1.heap.objs.size + 2 ∨ c = s1.heap.objs.size + 3 ∨ c = s1.heap.objs.size ∨ c = s1.heap.objs.size + 1 := by simpa using hcm
        have hle : s1.heap.objs.size ≤ c := by
          rcases e' with z | z | z | z | z
          · rw [z]; exact Nat.le_add_right _ _
          · rw [z]; exact Nat.le_add_right _ _
          · rw [z]; exact Nat.le_add_right _ _
          · rw [z]; exact Nat.le_refl _
          · rw [z]; exact Nat.le_add_right _ _
        exact I1.fpOk hle (I1.hok.fresh hle)
      obtain ⟨its, rv, p1⟩ := hqx.at_ I1
      obtain ⟨its2, rv2, p2⟩ := hqy.at_ I1
      obtain ⟨o1, ho1⟩ := p1.obj
      obtain ⟨o2, ho2⟩ := p2.obj
      refine call_zipS p1 p2 fun h' hz hTI hTO h1 h2 hsz hk => iterS hz ?_
      have I2 : Inv X pins σ H1 { s1 with heap := h' } := I1.kept (t' := s1.toks) hk
      exact ⟨s1.heap.objs.size + 4, [s1.heap.objs.size + 4, s1.heap.objs.size + 2, s1.heap.objs.size + 3, s1.heap.objs.size, s1.heap.objs.size + 1], _, _, H1, rfl, I2, turn_zipS (PySem.W.ktu_apart s1.heap.objs.size a b (Heap.lt_size ho1) (Heap.lt_size ho2)), ⟨hz, hTI, ⟨_, _, hTO⟩, h1, h2⟩, fresh5, q⟩
/-- what is zipped, as it lies -/
def ZipAt (K : PySem.W.Frag) (H0 : Hp) (m0 : List Addr) (t : Bool) (a : Addr) (p : List D × List (Nat × List D)) : Prop := match t with
  | true => p.2 = [] ∧ ∃ us, TupAt K H0 a us ∧ RepL K H0 m0 p.1 us
  | false => ∃ n, p.2 = [(n, p.1)] ∧ m0[n]? = some a
theorem ZipAt.get {K : PySem.W.Frag} {H0 : Hp} {m0 : List Addr} {t : Bool} {a : Addr} {q : List D × List (Nat × List D)} (z : ZipAt K H0 m0 t a q) {H : Hp} {m : List Addr} {A : Hpp} (p : m0 <+: m) (k : Keep H0 H) (hr : HR K H m A) (st : (q.2.all fun x => decide (A[x.1]? = some (.lst x.2))) = true) : ∃ us, SqV t K H a us ∧ RepL K H m q.1 us := by
  cases t
  · obtain ⟨n, e, hm⟩ := z
    rw [e] at st
    simp only [List.all_cons, List.all_nil, Bool.and_true, decide_eq_true_eq] at st
    have hm' : m[n]? = some a := Pre.get p hm
    obtain ⟨vs, h1, h2⟩ := hr.at_ n a _ hm' st
    exact ⟨vs, SqL.of h1, h2⟩
  · obtain ⟨_, us, h1, h2⟩ := z
    exact ⟨us, (h1.mono k).sq, RepL.mono k p _ _ h2⟩
theorem wk_zipS {t1 t2 : Bool} {K : PySem.W.Frag} {H0 : Hp} {m0 : List Addr} {xs ys : List D × List (Nat × List D)} {a b : Addr} (hl : xs.1.length = ys.1.length) (ha : ZipAt K H0 m0 t1 a xs) (hb : ZipAt K H0 m0 t2 b ys) : Wk K (ItzS t1 t2 K a b) (.zs (xs.2 ++ ys.2) (zipD xs.1 ys.1)) H0 m0 := by
  have lz : (zipD xs.1 ys.1).length = xs.1.length := by simp [zipD, hl]
  have get : ∀ {H : Hp} {m : List Addr} {A : Hpp}, m0 <+: m → Keep H0 H → HR K H m A → Src.still A (.zs (xs.2 ++ ys.2) (zipD xs.1 ys.1)) = true → ∃ us vs, SqV t1 K H a us ∧ SqV t2 K H b vs ∧ RepL K H m xs.1 us ∧ RepL K H m ys.1 vs := fun p k hr st => by
    simp only [Src.still, List.all_append, Bool.and_eq_true] at st
    obtain ⟨us, h1, h2⟩ := ha.get p k hr st.1
    obtain ⟨vs, h3, h4⟩ := hb.get p k hr st.2
    exact ⟨us, vs, h1, h3, h2, h4⟩
  refine ⟨fun i H m A p k hr st hi => ?_, fun H m A p k hr st => ?_, fun i H m A x H' d p k hr st hd y => ?_⟩
  · obtain ⟨us, vs, h1, h2, ra, rb⟩ := get p k hr st
    have lu := ra.length
    have lv := rb.length
    have hi' : i < xs.1.length := by rw [← lz]; exact hi
    have hi1 : i < us.length := by omega
    have hi2 : i < vs.length := by omega
    exact ⟨us, vs, us[i], vs[i], h1, h2, List.getElem?_eq_getElem hi1, List.getElem?_eq_getElem hi2⟩
  · obtain ⟨us, vs, h1, h2, ra, rb⟩ := get p k hr st
    have lu := ra.length
    have lv := rb.length
    refine ⟨us, vs, h1, h2, ?_, ?_⟩
    · show us.length ≤ (zipD xs.1 ys.1).length; rw [lz, lu]; exact Nat.le_refl _
    · show vs.length ≤ (zipD xs.1 ys.1).length; rw [lz, lv, hl]; exact Nat.le_refl _
  · obtain ⟨us, vs, h1, h2, ra, rb⟩ := get p k hr st
    obtain ⟨T, v1, v2, rfl, hT, rfl, f1, f2⟩ := y
    have g1 := f1 us h1
    have g2 := f2 vs h2
    simp only [Src.items, zipD, List.getElem?_map] at hd
    obtain ⟨q, h1, h2⟩ := Option.map_eq_some_iff.mp hd
    subst h2
    rw [List.getElem?_zip_eq_some] at h1
    obtain ⟨w1, e1, r1⟩ := ra.get h1.1
    obtain ⟨w2, e2, r2⟩ := rb.get h1.2
    rw [e1] at g1; cases g1
    rw [e2] at g2; cases g2
    refine ⟨hr.tup hT, Keep.new hT, ?_⟩
    simp only [Rep]
    refine ⟨T, _, rfl, .inl upd_same, ?_⟩
    refine RepL.mono (Keep.new hT) (List.prefix_refl _) _ _ ?_
    exact ⟨_, _, rfl, r1, _, _, rfl, r2, rfl⟩
theorem zipOp_at {K : PySem.W.Frag} {H : Hp} {m : List Addr} {A : Hpp} {d : D} {q : List D × List (Nat × List D)} {x : V} (hr : HR K H m A) (e : zipOp d A = some q) (r : Rep K H m d x) : ∃ t a us, x = .ref a ∧ ZipAt K H m t a q ∧ SqV t K H a us := by
  unfold zipOp at e
  split at e
  · cases e
    obtain ⟨p, us, rfl, t1, r1⟩ := rep_tup r
    exact ⟨true, p, us, rfl, ⟨rfl, us, t1, r1⟩, t1.sq⟩
  · split at e
    · rename_i hl
      cases e
      obtain ⟨a, vs, rfl, em, ha, rp⟩ := hr.lst hl r
      exact ⟨false, a, vs, rfl, ⟨_, rfl, em⟩, SqL.of ha⟩
    · cases e
  · cases e
theorem wk_rangeC {K : PySem.W.Frag} {H0 : Hp} {m0 : List Addr} {lo c : Int} {n : Nat} : Wk K (Itc lo c n) (.its (rangeC lo c n)) H0 m0 := by
  refine ⟨fun i H m A p k hr st hi => ?_, fun H m A p k hr st => ?_, fun i H m A x H' d p k hr st hd y => ?_⟩
  · simpa [Itc, Src.items, rangeC] using hi
  · simp [Itc, Src.items, rangeC]
  · obtain ⟨rfl, rfl⟩ := y
    simp only [Src.items, rangeC, List.getElem?_map] at hd
    obtain ⟨j, h1, h2⟩ := Option.map_eq_some_iff.mp hd
    have hj : i = j := by
      rw [List.getElem?_range] at h1
      · exact Option.some.inj h1
      · have := (List.getElem?_eq_some_iff.mp h1).1
        simpa using this
    subst hj
    subst h2
    exact ⟨hr, Keep.refl _, rfl⟩
section
variable {X : Cx} {tg e a b c : Expr} {f fa fb fc : M} {pos p : Pos}
theorem i_range3 (hg : Gl X "range") (hm : X.mg "range" = none) (hs : noStar a = true) (hs2 : noStar b = true) (hs3 : noStar c = true) (ha : EO X a fa) (hb : EO X b fb) (hc : EO X c fc) : IO' X tg (.Call (.Name "range" p) [a, b, c] [] pos) (srcRange3 fa fb fc) := by
  refine PI.weak (pi_range3 hg hm (pa_cons ha (pa_cons hb (pa_cons hc pa_nil (star_cons hs3)) (star_cons hs2)) (star_cons hs)) (star_cons hs) (star_none (by rw [List.all_cons, List.all_cons, hs2, hs3]; rfl))) ?_
  rintro s H RR ⟨m, A, L, src, A', hr, lr, e, post⟩
  obtain ⟨x, A1, e1, e⟩ := R.bind_eq_ok e
  obtain ⟨y, A2, e2, e⟩ := R.bind_eq_ok e
  obtain ⟨z, A3, e3, e⟩ := R.bind_eq_ok e
  split at e
  · split at e
    · rename_i hz
      cases e
      refine ⟨m, A, L, _, _, hr, lr, e1, fun m1 v H1 p1 k1 hr1 r1 => ?_⟩
      refine ⟨m1, _, L, _, _, hr1, lr.mono k1 p1, e2, fun m2 u H2 p2 k2 hr2 r2 => ?_⟩
      refine ⟨m2, _, L, _, _, hr2, (lr.mono k1 p1).mono k2 p2, e3, fun m3 u3 H3 p3 k3 hr3 r3 => ?_⟩
      simp only [Rep] at r1 r2 r3
      subst r1; subst r2; subst r3
      exact ⟨_, _, _, _, rfl, hz, post m3 H3 _ (p1.trans (p2.trans p3)) (k1.trans (k2.trans k3)) hr3 wk_rangeC⟩
    · cases e
  · cases e
theorem i_zipS {tpos kp cp : Pos} {elts : List Expr} {kk j : Nat} (hg : Gl X "zip") (hm : X.mg "zip" = none) (hs : noStar a = true) (hs2 : noStar b = true) (ha : EO X a fa) (hb : EO X b fb) : IO' X (.Tuple elts kk tpos) (.Call (.Name "zip" p) [a, b] [⟨some (Str.ofString "strict"), .Constant (.bool true) j cp, kp⟩] pos) (srcZipS fa fb) := by
  refine PI.weak (pi_zipS hg hm (pa_cons ha (pa_cons hb pa_nil (star_cons hs2)) (star_cons hs)) (star_cons hs) (star_none (by rw [List.all_cons, List.all_cons, hs, hs2]; rfl))) ?_
  rintro s H RR ⟨m, A, L, src, A', hr, lr, e, post⟩
  obtain ⟨x, A1, e1, e⟩ := R.bind_eq_ok e
  obtain ⟨y, A2, e2, e⟩ := R.bind_eq_ok e
  split at e
  · rename_i q1 q2 z1 z2
    split at e
    · rename_i hz
      cases e
      refine ⟨m, A, L, _, _, hr, lr, e1, fun m1 v H1 p1 k1 hr1 r1 => ?_⟩
      refine ⟨m1, _, L, _, _, hr1, lr.mono k1 p1, e2, fun m2 u H2 p2 k2 hr2 r2 => ?_⟩
      obtain ⟨t1, a1, us, rfl, za, sa⟩ := zipOp_at hr2 z1 (Rep.mono k2 p2 _ _ r1)
      obtain ⟨t2, a2, vs, rfl, zb, sb⟩ := zipOp_at hr2 z2 r2
      exact ⟨t1, t2, a1, a2, us, vs, rfl, sa, sb, post m2 H2 _ (p1.trans p2) (k1.trans k2) hr2 (wk_zipS hz za zb)⟩
    · cases e
  · cases e
end
end Rf
namespace Rf
open PySem PySem.Spec PyProof.Rows L2
/-! comprehensions as expressions -/
section
variable {X : Cx}
theorem pts_yes : PTs X [] (tT X.K mYes) := by
  refine ⟨fun pins s q H Q I h => pts_nil.run pins s q H Q I ?_⟩
  obtain ⟨m, A, L, b, A', hr, lr, e, post⟩ := h
  cases e
  exact post m H (List.prefix_refl _) (Keep.refl _) hr
theorem pts_if {c : Expr} {f : M} (h : TO' X c f) : PTs X [c] (tT X.K (mTest f)) := pts_one h
theorem e_lc {elt tg iter : Expr} {ifs : List Expr} {scope : Scope} {own : List (Str × Nat)} {pos : Pos} {fs : MS} {g : TG} {t : T} {c : MB} {f : M} (hc : X.calm = true) (hN : X.N.Nodup) (hi : IO' X tg iter fs) (ok : BlkOk X.N X.env.scope scope own)
    (hg : ∀ (s : Shared) (H : Hp) (C : Addr) (cl : List (Str × Addr)) (fp : List Addr), PG (X.blk s H scope (compEnvC scope cl C X.env) fp) tg g) (tg' : TgOk X.K (own.map (·.2)) g t)
    (ht : ∀ (s : Shared) (H : Hp) (C : Addr) (cl : List (Str × Addr)) (fp : List Addr), PTs (X.blk s H scope (compEnvC scope cl C X.env) fp) ifs (tT X.K c))
    (he : ∀ (s : Shared) (H : Hp) (C : Addr) (cl : List (Str × Addr)) (fp : List Addr), EO (X.blk s H scope (compEnvC scope cl C X.env) fp) elt f) (hs : ∀ x, foldedSetIterable iter X.env x = pure x) :
    EO X (.ListComp elt [⟨tg, iter, ifs, 0⟩] scope pos) (mLc fs t c f (own.map (·.2))) :=
  PE.weak (pe_lc hc hN hi ok hg ht he hs) fun _ _ _ h => lc_of tg' h
theorem s_setLc {i : Nat} {y : Str} {py : Pos} {elt tg iter : Expr} {ifs : List Expr} {scope : Scope} {own : List (Str × Nat)} {pos spos : Pos} {fs : MS} {g : TG} {t : T} {c : MB} {f : M} (hc : X.calm = true) (hN : X.N.Nodup) (hy : X.N[i]? = some y) (hyl : X.env.scope.names.lookup y = some .local)
    (hsw : swapsWith (.ListComp elt [⟨tg, iter, ifs, 0⟩] scope pos) (some (.Name y py)) spos.line X.env = pure true) (hi : IO' X tg iter fs) (ok : BlkOk X.N X.env.scope scope own)
    (hg : ∀ (s : Shared) (H : Hp) (C : Addr) (cl : List (Str × Addr)) (fp : List Addr), PG (X.blk s H scope (compEnvC scope cl C X.env) fp) tg g) (tg' : TgOk X.K (own.map (·.2)) g t)
    (ht : ∀ (s : Shared) (H : Hp) (C : Addr) (cl : List (Str × Addr)) (fp : List Addr), PTs (X.blk s H scope (compEnvC scope cl C X.env) fp) ifs (tT X.K c))
    (he : ∀ (s : Shared) (H : Hp) (C : Addr) (cl : List (Str × Addr)) (fp : List Addr), EO (X.blk s H scope (compEnvC scope cl C X.env) fp) elt f) (hs : ∀ x, foldedSetIterable iter X.env x = pure x) :
    SO X (.Assign [.Name y py] (.ListComp elt [⟨tg, iter, ifs, 0⟩] scope pos) spos) (sAsg (mLc fs t c f (own.map (·.2))) (gVar i)) := by
  refine PS.weak (ps_setLc (te := tE X.K f) hc hN hy hyl hsw hi ok hg ht he hs) ?_
  rintro E s H ⟨m, A, L, o, A', hr, lr, e, post⟩
  obtain ⟨d, A1, e1, e⟩ := R.bind_eq_ok e
  obtain ⟨L1, A2, e2, e⟩ := R.bind_eq_ok e
  cases e2
  cases e
  refine lc_of tg' ⟨m, A, L, d, _, hr, lr, e1, fun m1 v H1 p1 k1 hr1 r1 => ?_⟩
  exact post m1 _ H1 p1 k1 hr1 ((lr.mono k1 p1).set r1)
end
/-! ### defs -/
/-- what a def promises, while no repr is under way -/
structure FnG (P : Program) (w : World) (K : PySem.W.Frag) (mg : Str → Option Value) (base : Heap) (k : Nat) (f : Addr) (fd : FuncData) (ps : List Str) (sp : List V → Hp → VK → Prop) : Prop where
  run : ∀ (A : Around) (outer : List Env) (s : Shared) (H : Hp) (args : Args) (us : List Value) (vs : List V) (Q : VK), Room k A → A.guards = some [] → Env0 P w K mg base A outer s H → BindsTo s fd args (ps.zip us) → Vals vs us →
    vs.length = ps.length → sp vs H Q →
    codeAny (model P w) A (.call (.ref f) args) (fun r s' => ∃ u, r = .ok (.ret u) ∧ CE outer P w H s Q u s') s
/-- the promise that the small semantics gives -/
def spG (K : PySem.W.Frag) (F : List D → Hpp → R D) : List V → Hp → VK → Prop := fun vs H Q => ∃ (m : List Addr) (A : Hpp) (ds : List D) (d : D) (A' : Hpp), HR K H m A ∧ RepL K H m ds vs ∧ F ds A = .ok d A' ∧ PostD K H m d A' Q
theorem HR.cutTo {K : PySem.W.Frag} {H : Hp} {m : List Addr} {A : Hpp} (hr : HR K H m A) {n : Nat} (hl : (A.take n).all (HOb.low n) = true) : HR K H (m.take n) (A.take n) where
  len := by simp [hr.len]
  inj := fun i j a o u e1 e2 f1 f2 m1 m2 => by
    have g : ∀ {α : Type} (l : List α) (i : Nat) (x : α), (l.take n)[i]? = some x → l[i]? = some x := fun l i x h => by
      have hi := (List.getElem?_eq_some_iff.mp h).1
      rw [List.length_take] at hi
      rwa [List.getElem?_take_of_lt (by omega)] at h
    exact hr.inj i j a o u (g _ _ _ e1) (g _ _ _ e2) (g _ _ _ f1) (g _ _ _ f2) m1 m2
  at_ := fun i a o e1 f1 => by
    have g : ∀ {α : Type} (l : List α) (i : Nat) (x : α), (l.take n)[i]? = some x → l[i]? = some x := fun l i x h => by
      have hi := (List.getElem?_eq_some_iff.mp h).1
      rw [List.length_take] at hi
      rwa [List.getElem?_take_of_lt (by omega)] at h
    have lo : HOb.low n o = true := List.all_eq_true.mp hl o (List.mem_of_getElem? f1)
    have x := hr.at_ i a o (g _ _ _ e1) (g _ _ _ f1)
    cases o with
    | lst ds => obtain ⟨vs, h1, h2⟩ := x; exact ⟨vs, h1, RepL.cut _ _ lo h2⟩
    | rd ds => obtain ⟨vs, h1, h2⟩ := x; exact ⟨vs, h1, RepL.cut _ _ lo h2⟩
    | dct ds => obtain ⟨vs, h1, h2⟩ := x; exact ⟨vs, h1, RepK.cut _ _ lo h2⟩
theorem HR.allLow {K : PySem.W.Frag} {H : Hp} {m : List Addr} {A : Hpp} (hr : HR K H m A) : A.all (HOb.low A.length) = true := by
  rw [List.all_eq_true]
  intro o ho
  obtain ⟨i, hi⟩ := List.getElem?_of_mem ho
  obtain ⟨a, ha⟩ := hr.addr hi
  have x := hr.at_ i a o ha hi
  rw [← hr.len]
  cases o with
  | lst ds => obtain ⟨vs, h1, h2⟩ := x; exact RepL.low _ _ h2
  | rd ds => obtain ⟨vs, h1, h2⟩ := x; exact RepL.low _ _ h2
  | dct ds => obtain ⟨vs, h1, h2⟩ := x; exact RepL.low _ _ (RepK.vals _ _ h2)
theorem take_pre {m m' : List Addr} {n : Nat} (h : m <+: m') (e : m.length = n) : m'.take n = m := by
  obtain ⟨t, rfl⟩ := h
  subst e
  simp
mutual
theorem low_zero : ∀ (d : D) (n : Nat), d.low 0 = true → d.low n = true
  | .non, _, _ => rfl
  | .bl _, _, _ => rfl
  | .int _, _, _ => rfl
  | .str _, _, _ => rfl
  | .tup l, n, h => by simp only [D.low] at h ⊢; exact lowL_zero l n h
  | .ref k, n, h => by simp [D.low] at h
  | .fn _, _, _ => rfl
theorem lowL_zero : ∀ (l : List D) (n : Nat), D.lowL 0 l = true → D.lowL n l = true
  | [], _, _ => rfl
  | d :: l, n, h => by
    simp only [D.lowL, Bool.and_eq_true] at h ⊢
    exact ⟨low_zero d n h.1, lowL_zero l n h.2⟩
end
theorem gc_ok {K : PySem.W.Frag} {H0 : Hp} {m0 : List Addr} {A0 : Hpp} {d d' : D} {A1 A' : Hpp} {Q : VK} (hr0 : HR K H0 m0 A0) (e : gcR A0 d A1 = .ok d' A') (post : PostD K H0 m0 d' A' Q) : PostD K H0 m0 d A1 Q := by
  intro m v H p k hr r
  have tk : m.take A0.length = m0 := take_pre p hr0.len
  unfold gcR at e
  split at e
  · cases e
    exact post m v H p k hr r
  split at e
  · rename_i h
    cases e
    have h2 : (A1.take A0.length).all (HOb.low A0.length) = true := by rw [h.2]; exact hr0.allLow
    have x := hr.cutTo h2
    rw [tk, h.2] at x
    have y := Rep.cut (n := A0.length) _ _ (low_zero _ _ h.1) r
    rw [tk] at y
    exact post m0 v H (List.prefix_refl _) k x y
  · split at e
    · rename_i h
      cases e
      have x := hr.cutTo h.2
      have y := Rep.cut (n := A0.length) _ _ h.1 r
      rw [tk] at x y
      exact post m0 v H (List.prefix_refl _) k x y
    · split at e
      · rename_i j _ _
        split at e
        · rename_i o ho
          split at e
          · rename_i h
            cases e
            simp only [Rep] at r
            obtain ⟨a, ha, rfl⟩ := r
            have x := hr.cutTo h.2.2
            rw [tk] at x
            have ln : (A1.take A0.length).length = A0.length := by rw [← x.len]; exact hr0.len
            have ob := hr.at_ j a o ha ho
            have obc : ObR K H (m0 ++ [a]) a o := by
              have cutl : ∀ (ds : List D) (vs : List V), D.lowL A0.length ds = true → RepL K H m ds vs → RepL K H (m0 ++ [a]) ds vs := fun ds vs lo rr => by
                have := RepL.cut (n := A0.length) ds vs lo rr
                rw [tk] at this
                exact RepL.mono (Keep.refl _) (List.prefix_append _ _) _ _ this
              cases o with
              | lst ds => obtain ⟨vs, h1, h2⟩ := ob; exact ⟨vs, h1, cutl ds vs h.2.1 h2⟩
              | rd ds => obtain ⟨vs, h1, h2⟩ := ob; exact ⟨vs, h1, cutl ds vs h.2.1 h2⟩
              | dct ds =>
                obtain ⟨vs, h1, h2⟩ := ob
                have := RepK.cut (n := A0.length) ds vs h.2.1 h2
                rw [tk] at this
                exact ⟨vs, h1, RepK.mono (Keep.refl _) (List.prefix_append _ _) _ _ this⟩
            have jl : A0.length ≤ j := h.1
            have y : HR K H (m0 ++ [a]) (A1.take A0.length ++ [o]) := by
              have gt : ∀ (i : Nat) (b : Addr), m0[i]? = some b → m[i]? = some b := fun i b q => Pre.get p q
              have gA : ∀ (i : Nat) (u : HOb), (A1.take A0.length)[i]? = some u → A1[i]? = some u := fun i u q => by
                have hi := (List.getElem?_eq_some_iff.mp q).1
                rw [List.length_take] at hi
                rwa [List.getElem?_take_of_lt (by omega)] at q
              have l0 : m0.length = A0.length := hr0.len
              have split : ∀ (i : Nat) (b : Addr) (u : HOb), (m0 ++ [a])[i]? = some b → (A1.take A0.length ++ [o])[i]? = some u → (i < A0.length ∧ m0[i]? = some b ∧ (A1.take A0.length)[i]? = some u) ∨ (i = A0.length ∧ b = a ∧ u = o) := fun i b u q1 q2 => by
                by_cases hi : i < A0.length
                · rw [List.getElem?_append_left (by omega)] at q1
                  rw [List.getElem?_append_left (by omega)] at q2
                  exact .inl ⟨hi, q1, q2⟩
                · have := (List.getElem?_eq_some_iff.mp q1).1
                  simp at this
                  have hi2 : i = A0.length := by omega
                  subst hi2
                  rw [List.getElem?_append_right (by omega)] at q1 q2
                  simp [l0] at q1
                  simp [ln] at q2
                  exact .inr ⟨rfl, q1.symm, q2.symm⟩
              refine ⟨by simp [ln, l0], fun i1 i2 b o1 o2 q1 q2 f1 f2 u1 u2 => ?_, fun i b u q1 f1 => ?_⟩
              · rcases split i1 b o1 q1 f1 with ⟨z1, z2, z3⟩ | ⟨z1, z2, z3⟩
                · rcases split i2 b o2 q2 f2 with ⟨w1, w2, w3⟩ | ⟨w1, w2, w3⟩
                  · exact hr.inj i1 i2 b o1 o2 (gt _ _ z2) (gt _ _ w2) (gA _ _ z3) (gA _ _ w3) u1 u2
                  · subst w2; subst w3
                    have := hr.inj i1 j _ o1 _ (gt _ _ z2) ha (gA _ _ z3) ho u1 u2
                    omega
                · rcases split i2 b o2 q2 f2 with ⟨w1, w2, w3⟩ | ⟨w1, w2, w3⟩
                  · subst z2; subst z3
                    have := hr.inj i2 j _ o2 _ (gt _ _ w2) ha (gA _ _ w3) ho u2 u1
                    omega
                  · rw [z1, w1]
              · rcases split i b u q1 f1 with ⟨z1, z2, z3⟩ | ⟨rfl, rfl, rfl⟩
                · have w := x.at_ i b u z2 z3
                  refine w.mono (Keep.refl _) (List.prefix_append _ _) (fun _ => rfl) fun _ _ q => q
                · exact obc
            refine post (m0 ++ [a]) (.ref a) H (List.prefix_append _ _) k y ?_
            simp only [Rep]
            exact ⟨a, by rw [← hr0.len]; simp, rfl⟩
          · cases e
            exact post m v H p k hr r
        · cases e
          exact post m v H p k hr r
      · cases e
        exact post m v H p k hr r
theorem enter_ok {n : Nat} {b : S} {ds : List D} {A A' : Hpp} {d : D} (e : enter n b ds A = .ok d A') : ∃ o A1 d1, b (ds.map some ++ List.replicate (n - ds.length) none) A = .ok o A1 ∧ gcR A d1 A1 = .ok d A' ∧ ((∃ L, o = .nx L ∧ d1 = .non) ∨ o = .rt d1) := by
  unfold enter at e
  split at e
  · rename_i L A1 h
    exact ⟨_, A1, .non, h, e, .inl ⟨L, rfl, rfl⟩⟩
  · rename_i d1 A1 h
    exact ⟨_, A1, d1, h, e, .inr rfl⟩
  · cases e
  · cases e
  · cases e
/-- a def of the text, by its body -/
theorem fnG_of {P : Program} {w : World} {K : PySem.W.Frag} {mg : Str → Option Value} {base : Heap} {k : Nat} {f : Addr} {name qual : Str} {params : Arguments} {body : List Stmt} {scope : Scope} {dV kV doc pm cdv ct oc : Value} {an od : Option Addr}
    {osl : Array (Option Value)} {N ps : List Str} {b : S} {nn : Nat} (lk : K.lookup f = some ⟨oc, od, .func (PySem.W.fnOf name qual params body scope dV kV doc pm an cdv ct), osl⟩) (hcd : PySem.W.codeIn K cdv qual = true) (sc : FnScope N ps scope) (hnn : nn = N.length) (hpn : ps.length ≤ N.length)
    (hbody : ∀ (A : Around) (outer : List Env) (s : Shared) (H : Hp), Room k (A.deeper (envOfC qual scope s.heap.objs.size f cdv)) → (A.deeper (envOfC qual scope s.heap.objs.size f cdv)).guards = some [] →
      SLO (cxOf (fun _ _ _ _ _ _ => False) P w K mg base N qual scope f cdv A outer s H (fun _ _ _ => False)).nox body b) :
    FnG P w K mg base (k + 1) f (PySem.W.fnOf name qual params body scope dV kV doc pm an cdv ct) ps (spG K fun ds A => if ds.length = ps.length then enter nn b ds A else .bad) := by
  refine ⟨fun A outer s H args us vs Q hr hg e0 hb r hl hsp => ?_⟩
  obtain ⟨m, Ah, ds, d, A', hR, rp, e, post⟩ := hsp
  have hin : K.In s.heap := e0.mod.kin.keeps fun b o q => (e0.bs b o q).1
  have nol : s.heap.NoLimit := e0.mod.nolimit.keeps fun b o q => (e0.bs b o q).1
  have kinds : ∀ y ∈ ps.zip us, scope.names.lookup y.1 = some .local ∨ (scope.names.lookup y.1 = some .cell ∧ ((cellsFrom (s.heap.objs.size + 1) scope.names []).lookup y.1).isSome = true) := by
    rintro ⟨n, v⟩ hy
    rcases sc.par n (List.of_mem_zip hy).1 with q | q
    · exact .inl q
    · exact .inr ⟨q, PySem.W.cellsFrom_some _ _ _ (.inl q)⟩
  simp only at e
  split at e
  · rename_i hdl
    obtain ⟨o, A1, d1, e1, e2, ho⟩ := enter_ok e
    have post1 : PostD K H m d1 A1 Q := gc_ok hR e2 post
    refine codeAny_call_function hr.depth (hin _ _ lk) rfl sc.co sc.gen rfl (PySem.W.codeRec_of hin hcd) (hb _ _ _ _ ?_)
    refine wpAny_newFunctionEnv_cells sc.kind kinds fun env he s1 x => ?_
    subst he
    refine ⟨nol.keeps x.toInCall.keep, codeAny_func ?_⟩
    have I := inv_start (CX := fun _ _ _ _ _ _ => False) (E := fun _ _ _ => False) (cd := cdv) sc hr.hd e0 hl r x
    have bd := hbody A outer s H (hr.deeper _) hg
    have st : tS K b { nx := fun _ H' => Q .non H', rt := Q } (start N vs) H := by
      refine ⟨m, Ah, _, o, A1, hR, LR.start rp (by rw [hl]; exact hpn), by rw [← hnn]; exact e1, ?_⟩
      rcases ho with ⟨L, rfl, rfl⟩ | rfl
      · exact fun m' s' H' p' k' hr' lr' => post1 m' .non H' p' k' hr' rfl
      · exact post1
    refine wpAny_mono (bd.run [] s1 (start N vs) H _ (I.wish _) st) (fun fl s' hs => ?_) fun e s' hs => False.elim hs
    have last : ∀ {q' : L2.St} {H' : Hp} {v : V} {u : Value}, Inv (cxOf (fun _ _ _ _ _ _ => False) P w K mg base N qual scope f cdv A outer s H (fun _ _ _ => False)) [] q' H' s' → RelV v u → Q v H' → CE outer P w H s Q u s' :=
      fun J rv q => ⟨_, _, J.os, J.bare, J.base, J.hok, rv, q⟩
    cases fl with
    | ret u =>
      obtain ⟨v, q', H', J, rv, q⟩ := hs
      exact ⟨u, rfl, last J.unwish rv q⟩
    | next =>
      obtain ⟨q', H', J, q⟩ := hs
      exact ⟨_, rfl, last (v := V.non) (u := Value.none) J.unwish rfl q⟩
    | brk =>
      obtain ⟨_, _, _, q⟩ := hs
      exact False.elim q
    | cont =>
      obtain ⟨_, _, _, q⟩ := hs
      exact False.elim q
  · cases e
end Rf
namespace Rf
open PySem PySem.Spec PyProof.Rows L2
section
variable {X : Cx} {e : Expr} {f : M} {kws : List Keyword} {r : ML}
abbrev KO (X : Cx) (kws : List Keyword) (r : ML) : Prop := PK X kws (tL X.K r)
theorem k_nil : KO X [] mNil := by
  refine PK.weak pk_nil ?_
  rintro s H Q ⟨m, A, L, ds, A', hr, lr, e, post⟩
  cases e
  exact post m [] H (List.prefix_refl _) (Keep.refl _) hr rfl
theorem k_cons {nm : Option Str} {kpos : Pos} (ha : EO X e f) (hr : KO X kws r) : KO X (⟨nm, e, kpos⟩ :: kws) (mCons f r) := PK.weak (pk_cons ha hr) fun _ _ _ h => cons_of h
end
/-- how values come to the parameters -/
def GatherR (K : PySem.W.Frag) : List G → List Value → List Value → List Value → Prop
  | [], _, _, zs => zs = []
  | g :: gs, us, ws, zs => ∃ z r, zs = z :: r ∧ (match g with
      | .pos j => us[j]? = some z
      | .kw j => ws[j]? = some z
      | .df d => ∃ v, RelV v z ∧ ∀ H m, Rep K H m d v) ∧ GatherR K gs us ws r
theorem gather_ok {K : PySem.W.Frag} {H : Hp} {m : List Addr} {ds es : List D} {vs ys : List V} {us ws : List Value} (r1 : RepL K H m ds vs) (r2 : RepL K H m es ys) (q1 : Vals vs us) (q2 : Vals ys ws) :
    ∀ {gs : List G} {zs : List Value} {as : List D}, GatherR K gs us ws zs → gather gs ds es = some as → ∃ xs, Vals xs zs ∧ RepL K H m as xs
  | [], zs, as, g, e => by
    cases g
    simp only [gather, List.map_nil, optAll, Option.some.injEq] at e
    subst e
    exact ⟨[], .nil, rfl⟩
  | g :: gs, zs, as, h, e => by
    obtain ⟨z, t, rfl, hz, ht⟩ := h
    unfold gather at e
    rw [List.map_cons] at e
    have step : ∀ (x : D) (v : V), Rep K H m x v → RelV v z → (optAll (some x :: gs.map fun
        | .pos j => ds[j]?
        | .kw j => es[j]?
        | .df d => some d)) = some as → ∃ xs, Vals xs (z :: t) ∧ RepL K H m as xs := fun x v rx rv q => by
      simp only [optAll] at q
      obtain ⟨as', h1, h2⟩ := Option.map_eq_some_iff.mp q
      subst h2
      obtain ⟨xs, a, b⟩ := gather_ok r1 r2 q1 q2 ht h1
      exact ⟨v :: xs, .cons rv a, v, xs, rfl, rx, b⟩
    cases g with
    | pos j =>
      simp only at e hz
      cases q : ds[j]? with
      | none => rw [q] at e; simp [optAll] at e
      | some x =>
        rw [q] at e
        obtain ⟨v, hv, rx⟩ := r1.get q
        obtain ⟨u, hu, rv⟩ := q1.get hv
        rw [hz] at hu
        cases hu
        exact step x v rx rv e
    | kw j =>
      simp only at e hz
      cases q : es[j]? with
      | none => rw [q] at e; simp [optAll] at e
      | some x =>
        rw [q] at e
        obtain ⟨v, hv, rx⟩ := r2.get q
        obtain ⟨u, hu, rv⟩ := q2.get hv
        rw [hz] at hu
        cases hu
        exact step x v rx rv e
    | df d =>
      obtain ⟨v, rv, rx⟩ := hz
      exact step d v (rx H m) rv e
/-- a call's pattern binds so -/
def BindOk (K : PySem.W.Frag) (fd : FuncData) (ps : List Str) (n : Nat) (ks : List Str) (gs : List G) : Prop :=
  ∀ (s : Shared) (us ws : List Value), K.In s.heap → us.length = n → ws.length = ks.length → ∃ zs, zs.length = ps.length ∧ BindsTo s fd ⟨us, ks.zip ws⟩ (ps.zip zs) ∧ GatherR K gs us ws zs
section
variable {X : Cx}
theorem run_G {k n : Nat} {f : Addr} {fd : FuncData} {ps ks : List Str} {gs : List G} {Fi : List D → Hpp → R D} {pins : List (Addr × Obj)} {q : L2.St} {H : Hp} {s : Shared} {Q : VK} {us ws : List Value} {vs ys : List V} {m : List Addr} {A A' : Hpp} {ds es as : List D} {d : D}
    (F : FnG X.prog X.w X.K X.mg X.base k f fd ps (spG X.K Fi)) (hr : Room k X.A) (hg : X.A.guards = some []) (hb : BindOk X.K fd ps n ks gs) (I : Inv X pins q H s) (r : Vals vs us) (rz : Vals ys ws) (h : HR X.K H m A) (r1 : RepL X.K H m ds vs) (r2 : RepL X.K H m es ys)
    (l1 : ds.length = n) (l2 : es.length = ks.length) (eg : gather gs ds es = some as) (e : Fi as A = .ok d A') (post : PostD X.K H m d A' Q) :
    wpAny (model X.prog X.w) X.A (call (.ref f) us (ks.zip ws)) (EP X pins q Q) X.xe s := by
  obtain ⟨zs, lz, bz, gz⟩ := hb s us ws I.kIn (by rw [← r.length, r1.length]; exact l1) (by rw [← rz.length, r2.length]; exact l2)
  obtain ⟨xs, vx, rx⟩ := gather_ok r1 r2 r rz gz eg
  refine wpAny_call (codeAny_mono (F.run X.A X.stack s H ⟨us, ks.zip ws⟩ zs xs Q hr hg I.env0 bz vx (by rw [vx.length]; exact lz) ⟨m, A, as, d, A', h, rx, e, post⟩) fun res s' hq => ?_)
  obtain ⟨u, rfl, hq⟩ := hq
  exact I.after hq
theorem kw_all {pos : Pos} {env : Env} : ∀ {kws : List Keyword}, kws.all (fun k => k.arg.isSome) = true → (backToKw pos (keywordEach kws env)).all (·.1.isSome) = true ∧ (backToKw pos (keywordEach kws env)).any (·.1.isNone) = false
  | [], _ => ⟨rfl, rfl⟩
  | ⟨nm, v, p⟩ :: kws, h => by
    rw [List.all_cons, Bool.and_eq_true] at h
    obtain ⟨a, b⟩ := kw_all (pos := pos) (env := env) h.2
    have hn : nm.isSome = true := h.1
    have e : backToKw pos (keywordEach (⟨nm, v, p⟩ :: kws) env) = (nm, do let x ← eval v env; standAt pos; pure x) :: backToKw pos (keywordEach kws env) := rfl
    rw [e, List.all_cons, List.any_cons, a, b]
    cases nm with
    | none => cases hn
    | some x => exact ⟨rfl, rfl⟩
theorem kw_names {pos : Pos} {env : Env} : ∀ {kws : List Keyword}, (backToKw pos (keywordEach kws env)).filterMap (·.1) = kws.filterMap (·.arg)
  | [] => rfl
  | ⟨nm, v, p⟩ :: kws => by
    have e : backToKw pos (keywordEach (⟨nm, v, p⟩ :: kws) env) = (nm, do let x ← eval v env; standAt pos; pure x) :: backToKw pos (keywordEach kws env) := rfl
    rw [e, List.filterMap_cons, List.filterMap_cons, kw_names]
theorem e_call {e0 : Expr} {k n i : Nat} {f : Addr} {fd : FuncData} {ps ks : List Str} {gs : List G} {F : FE} {x : Str} {p pos : Pos} {es : List Expr} {kws : List Keyword} {r kr : ML}
    (G' : FnG X.prog X.w X.K X.mg X.base k f fd ps (spG X.K (F i))) (hr : Room k X.A) (hg : X.A.guards = some []) (gl : Gl X x) (hm : X.mg x = some (.ref f)) (hk : PySem.W.keepIn X.K (.ref f) = true) (hb : BindOk X.K fd ps n ks gs)
    (hs : (e0 :: es).all noStar = true) (hkn : kws.all (fun k => k.arg.isSome) = true) (hks : kws.filterMap (·.arg) = ks) (hdb : (x == ("__debug__" : Str)) = false) (ha : AO X (e0 :: es) r) (hkw : KO X kws kr) :
    EO X (.Call (.Name x p) (e0 :: es) kws pos) (mCall F i n ks.length gs r kr) := by
  refine ⟨fun pins s q H Q I h => ?_⟩
  obtain ⟨m, A, L, d, A', hR, lr, e, post⟩ := h
  unfold mCall mCallV at e
  obtain ⟨us, A1, e1, e⟩ := R.bind_eq_ok e
  obtain ⟨ws, A2, e2, e⟩ := R.bind_eq_ok e
  split at e
  · rename_i hl
    split at e
    · rename_i as eg
      refine wpAny_Call_Name_kw (ld_glob I gl hm ?_ hdb)
      obtain ⟨kall, kno⟩ := kw_all (pos := pos) (env := X.env) hkn
      have fin : ∀ (us' ws' : List Value) (s2 : Shared) (vs ys : List V) (H1 H2 : Hp) (m1 m2 : List Addr), Vals vs us' → Vals ys ws' → Inv X pins q H2 s2 → m <+: m1 → Keep H H1 → m1 <+: m2 → Keep H1 H2 → HR X.K H2 m2 A2 → RepL X.K H1 m1 us vs → RepL X.K H2 m2 ws ys →
          wpAny (model X.prog X.w) X.A (call (.ref f) us' (((backToKw pos (keywordEach kws X.env)).filterMap (·.1)).zip ws')) (EP X pins q Q) X.xe s2 := fun us' ws' s2 vs ys H1 H2 m1 m2 r1 r2 I2 p1 k1 p2 k2 hr2 q1 q2 => by
        rw [kw_names, hks]
        exact run_G G' hr hg hb I2 r1 r2 hr2 (RepL.mono k2 p2 _ _ q1) q2 hl.1 hl.2 eg e ((post.later p1 k1).later p2 k2)
      rw [List.all_cons, Bool.and_eq_true] at hs
      refine PySem.W.callWith_KW (h₀ := X.base) I.ok.mod.kin hk kall ?_ (by rw [star_none (by rw [List.all_cons, hs.1, hs.2]; rfl), kno]; rfl) (star_cons hs.1)
      refine thn (ha.run pos pins s q H (fun vs H1 => ∃ m1, m <+: m1 ∧ Keep H H1 ∧ HR X.K H1 m1 A1 ∧ RepL X.K H1 m1 us vs) I ⟨m, A, L, us, A1, hR, lr, e1, fun m1 vs H1 p1 k1 hr1 q1 => ⟨m1, p1, k1, hr1, q1⟩⟩) fun us' s1 ⟨vs, H1, I1, rv, m1, p1, k1, hr1, q1⟩ => ?_
      refine thn (hkw.run pos pins s1 q H1 (fun ys H2 => ∃ m2, m1 <+: m2 ∧ Keep H1 H2 ∧ HR X.K H2 m2 A2 ∧ RepL X.K H2 m2 ws ys) I1 ⟨m1, A1, L, ws, A2, hr1, lr.mono k1 p1, e2, fun m2 ys H2 p2 k2 hr2 q2 => ⟨m2, p2, k2, hr2, q2⟩⟩) fun ws' s2 ⟨ys, H2, I2, ry, m2, p2, k2, hr2, q2⟩ => ⟨I2.kIn, ?_⟩
      exact fin us' ws' s2 vs ys H1 H2 m1 m2 rv ry I2 p1 k1 p2 k2 hr2 q1 q2
    · cases e
  · cases e
theorem e_call0 {k i : Nat} {f : Addr} {fd : FuncData} {ps ks : List Str} {gs : List G} {F : FE} {x : Str} {p pos : Pos} {kws : List Keyword} {kr : ML}
    (G' : FnG X.prog X.w X.K X.mg X.base k f fd ps (spG X.K (F i))) (hr : Room k X.A) (hg : X.A.guards = some []) (gl : Gl X x) (hm : X.mg x = some (.ref f)) (hk : PySem.W.keepIn X.K (.ref f) = true) (hb : BindOk X.K fd ps 0 ks gs)
    (hkn : kws.all (fun k => k.arg.isSome) = true) (hks : kws.filterMap (·.arg) = ks) (hdb : (x == ("__debug__" : Str)) = false) (hkw : KO X kws kr) :
    EO X (.Call (.Name x p) [] kws pos) (mCall F i 0 ks.length gs mNil kr) := by
  refine ⟨fun pins s q H Q I h => ?_⟩
  obtain ⟨m, A, L, d, A', hR, lr, e, post⟩ := h
  unfold mCall mCallV at e
  obtain ⟨us, A1, e1, e⟩ := R.bind_eq_ok e
  cases e1
  obtain ⟨ws, A2, e2, e⟩ := R.bind_eq_ok e
  split at e
  · rename_i hl
    split at e
    · rename_i as eg
      refine wpAny_Call_Name_kw (ld_glob I gl hm ?_ hdb)
      obtain ⟨kall, kno⟩ := kw_all (pos := pos) (env := X.env) hkn
      refine PySem.W.callWith_KW0 (h₀ := X.base) I.ok.mod.kin hk kall ?_ (by rw [kno]; rfl)
      refine thn (hkw.run pos pins s q H (fun ys H2 => ∃ m2, m <+: m2 ∧ Keep H H2 ∧ HR X.K H2 m2 A2 ∧ RepL X.K H2 m2 ws ys) I ⟨m, _, L, ws, A2, hR, lr, e2, fun m2 ys H2 p2 k2 hr2 q2 => ⟨m2, p2, k2, hr2, q2⟩⟩) fun ws' s2 ⟨ys, H2, I2, ry, m2, p2, k2, hr2, q2⟩ => ⟨I2.kIn, ?_⟩
      rw [kw_names, hks]
      exact run_G (us := []) (vs := []) (ds := []) G' hr hg hb I2 .nil ry hr2 rfl q2 rfl hl.2 eg e (post.later p2 k2)
    · cases e
  · cases e
end
section
variable {X : Cx}
/-- a built-in called with keywords -/
theorem e_callBK {x : Str} {id : String} {ks : List Str} {g : List D → List D → Hpp → R D} {e : Expr} {es : List Expr} {kws : List Keyword} {r k : ML} {p pos : Pos} (hc : CallRK' X id ks g) (hg : Gl X x) (hm : X.mg x = none) (hv : bootBuiltins x = some (.builtin id))
    (hs : (e :: es).all noStar = true) (hkn : kws.all (fun k => k.arg.isSome) = true) (hks : kws.filterMap (·.arg) = ks) (ha : AO X (e :: es) r) (hkw : KO X kws k)
    (hn : x ≠ "__name__") (hdb : (x == ("__debug__" : Str)) = false) : EO X (.Call (.Name x p) (e :: es) kws pos) (mBK g r k) := by
  have hs' := hs
  rw [List.all_cons, Bool.and_eq_true] at hs'
  refine PE.weak (pe_callBK hc hg hm hv ha hkw hn hdb ?_ ?_ (kw_all hkn).1 (kw_all hkn).2 (by rw [kw_names]; exact hks)) ?_
  · rw [star_cons hs'.1]; rfl
  · exact star_none hs
  · rintro s H Q ⟨m, A, L, d, A', hr, lr, e, post⟩
    obtain ⟨xs, A1, e1, e⟩ := R.bind_eq_ok e
    obtain ⟨ys, A2, e2, e⟩ := R.bind_eq_ok e
    refine ⟨m, A, L, xs, A1, hr, lr, e1, fun m1 vs H1 p1 k1 hr1 r1 => ?_⟩
    refine ⟨m1, A1, L, ys, A2, hr1, lr.mono k1 p1, e2, fun m2 ws H2 p2 k2 hr2 r2 => ?_⟩
    exact ⟨m2, A2, xs, ys, d, A', hr2, RepL.mono k2 p2 _ _ r1, r2, e, (post.later p1 k1).later p2 k2⟩
end
end Rf
namespace Rf
open PySem PySem.Spec PyProof.Rows L2
/-! ### a dict of the module -/
/-- what is known of it -/
structure GDict (K : PySem.W.Frag) (w : World) (d : Addr) (kvs : List (Str × D)) : Prop where
  kd : ∃ es n, KDict K w d es n
  get : ∀ z : Str, ∃ r, PySem.W.nsIn K d z = some r ∧ r.isSome = decide (z ∈ kvs.map (·.1))
  val : ∀ p ∈ kvs, ∃ u0 v0, PySem.W.nsIn K d p.1 = some (some u0) ∧ RelV v0 u0 ∧ ∀ H m, Rep K H m p.2 v0
theorem find_keys {P : Params} (z : Str) : ∀ {l : List DictEntry} {ks : List Str}, l.map He.keyOf = He.keysIn P ks → (∃ e, l.find? (·.key.isStr z) = some e ∧ z ∈ ks) ∨ (l.find? (·.key.isStr z) = none ∧ z ∉ ks) 
  | [], [], _ => .inr ⟨rfl, by simp⟩
  | [], _ :: _, h => by simp [He.keysIn] at h
  | _ :: _, [], h => by simp [He.keysIn] at h
  | e :: l, k :: ks, h => by
    have h1 : He.keyOf e :: l.map He.keyOf = some (k, PyData.keyHash P k) :: He.keysIn P ks := h
    injection h1 with h2 h3
    have hk : ∃ t, e.key = .str k t := by
      unfold He.keyOf at h2
      split at h2
      · rename_i x t q
        have h4 := Option.some.inj h2
        obtain ⟨h5, _⟩ := Prod.mk.inj h4
        subst h5
        exact ⟨t, q⟩
      · cases h2
    obtain ⟨t, ht⟩ := hk
    have ei : e.key.isStr z = (k == z) := by rw [ht]; rfl
    rw [List.find?_cons, ei]
    by_cases q : k = z
    · subst q
      refine .inl ⟨e, by simp, by simp⟩
    · have : (k == z) = false := by simpa using q
      rw [this]
      rcases find_keys z h3 with ⟨e', a, b⟩ | ⟨a, b⟩
      · exact .inl ⟨e', a, List.mem_cons_of_mem _ b⟩
      · exact .inr ⟨a, fun z' => (List.mem_cons.mp z').elim (fun y => q y.symm) b⟩
theorem noRef {P : Params} : ∀ {l : List DictEntry} {ks : List Str}, l.map He.keyOf = He.keysIn P ks → l.any (·.refKey) = false
  | [], _, _ => rfl
  | e :: l, [], h => by simp [He.keysIn] at h
  | e :: l, k :: ks, h => by
    have h1 : He.keyOf e :: l.map He.keyOf = some (k, PyData.keyHash P k) :: He.keysIn P ks := h
    injection h1 with h2 h3
    rw [List.any_cons, noRef h3, Bool.or_false]
    unfold He.keyOf at h2
    split at h2
    · rename_i x t q
      unfold DictEntry.refKey
      rw [q]
    · cases h2
theorem dicW_get {K : PySem.W.Frag} {w : World} {a : Addr} {ks : List Str} (h : He.dicW K a = some (He.keysIn w.params ks)) (z : Str) : ∃ r, PySem.W.nsIn K a z = some r ∧ r.isSome = decide (z ∈ ks) := by
  unfold He.dicW at h
  split at h
  · rename_i c es n sl q
    split at h
    · have hk : es.toList.map He.keyOf = He.keysIn w.params ks := Option.some.inj h
      unfold PySem.W.nsIn
      rw [q]
      simp only
      rcases find_keys z hk with ⟨e, a, b⟩ | ⟨a, b⟩
      · rw [a]; exact ⟨_, rfl, by simp [b]⟩
      · rw [a, noRef hk]; exact ⟨none, rfl, by simp [b]⟩
    · cases h
  · cases h
section
variable {X : Cx} {a : Expr} {fa : M} {pos p : Pos} {x : Str} {d : Addr} {kvs : List (Str × D)}
theorem gin_of {K : PySem.W.Frag} {w : World} (G : GDict K w d kvs) {s : L2.St} {H : Hp} {Q : VK} {neg : Bool} (h : tE K (mGIn neg (kvs.map (·.1)) fa) s H Q) :
    tOp (fun x y H Q => ∃ (z : Str) (r : Option Value), x = .str z ∧ y = .ref d ∧ PySem.W.nsIn K d z = some r ∧ Q (.bl (if neg = true then !r.isSome else r.isSome)) H) (tE K fa) (tC (.ref d)) s H Q := by
  obtain ⟨m, A, L, v, A', hr, lr, e, post⟩ := h
  obtain ⟨y, A1, e1, e⟩ := R.bind_eq_ok e
  split at e
  · rename_i z
    cases e
    refine ⟨m, A, L, _, _, hr, lr, e1, fun m1 v H1 p1 k1 hr1 r1 => ?_⟩
    obtain ⟨r, g1, g2⟩ := G.get z
    simp only [Rep] at r1
    refine ⟨z, r, r1, rfl, g1, post m1 _ H1 p1 k1 hr1 ?_⟩
    rw [g2]; exact rfl
  · cases e
theorem e_gin (G : GDict X.K X.w d kvs) (gl : Gl X x) (hm : X.mg x = some (.ref d)) (hd : (x == ("__debug__" : Str)) = false) (ha : EO X a fa) : EO X (.Compare a [.In] [.Name x p] pos) (mGIn false (kvs.map (·.1)) fa) := by
  obtain ⟨es, n, D⟩ := G.kd
  exact PE.weak (pe_cmpR (op_in_kd D) ha (pe_glob (v := .ref d) gl hm rfl hd) rfl) fun s H Q h => gin_of G h
theorem e_gnin (G : GDict X.K X.w d kvs) (gl : Gl X x) (hm : X.mg x = some (.ref d)) (hd : (x == ("__debug__" : Str)) = false) (ha : EO X a fa) : EO X (.Compare a [.NotIn] [.Name x p] pos) (mGIn true (kvs.map (·.1)) fa) := by
  obtain ⟨es, n, D⟩ := G.kd
  exact PE.weak (pe_cmpR (op_notIn_kd D) ha (pe_glob (v := .ref d) gl hm rfl hd) rfl) fun s H Q h => gin_of G h
theorem gin_bool {neg : Bool} {ks : List Str} {L : Loc} {A A' : Hpp} {v : D} (e : mGIn neg ks fa L A = .ok v A') : ∃ k, v = .bl k := by
  obtain ⟨y, A1, e1, e⟩ := R.bind_eq_ok e
  split at e
  · cases e; exact ⟨_, rfl⟩
  · cases e
theorem gin_test {K : PySem.W.Frag} {w : World} (G : GDict K w d kvs) {s : L2.St} {H : Hp} {Q : Bool → Hp → Prop} {neg : Bool} (h : tT K (mTest (mGIn neg (kvs.map (·.1)) fa)) s H Q) :
    tTest (tOp (fun x y H Q => ∃ (z : Str) (r : Option Value), x = .str z ∧ y = .ref d ∧ PySem.W.nsIn K d z = some r ∧ Q (.bl (if neg = true then !r.isSome else r.isSome)) H) (tE K fa) (tC (.ref d))) s H Q := by
  obtain ⟨m, A, L, v, A', k, hr, lr, e, et, post⟩ := test_of h
  refine gin_of G ⟨m, A, L, v, A', hr, lr, e, fun m' u H' p' k' hr' r' => ?_⟩
  obtain ⟨j, rfl⟩ := gin_bool e
  simp only [Rep] at r'
  simp only [truth, Option.some.injEq] at et
  subst et
  exact ⟨j, r', post m' H' p' k' hr'⟩
theorem t_gin (G : GDict X.K X.w d kvs) (gl : Gl X x) (hm : X.mg x = some (.ref d)) (hd : (x == ("__debug__" : Str)) = false) (ha : EO X a fa) : TO' X (.Compare a [.In] [.Name x p] pos) (mGIn false (kvs.map (·.1)) fa) := by
  obtain ⟨es, n, D⟩ := G.kd
  exact PT.weak (pt_cmpR (op_in_kd D) ha (pe_glob (v := .ref d) gl hm rfl hd) rfl) fun s H Q h => gin_test G h
theorem t_gnin (G : GDict X.K X.w d kvs) (gl : Gl X x) (hm : X.mg x = some (.ref d)) (hd : (x == ("__debug__" : Str)) = false) (ha : EO X a fa) : TO' X (.Compare a [.NotIn] [.Name x p] pos) (mGIn true (kvs.map (·.1)) fa) := by
  obtain ⟨es, n, D⟩ := G.kd
  exact PT.weak (pt_cmpR (op_notIn_kd D) ha (pe_glob (v := .ref d) gl hm rfl hd) rfl) fun s H Q h => gin_test G h
theorem e_gix (G : GDict X.K X.w d kvs) (gl : Gl X x) (hm : X.mg x = some (.ref d)) (hd : (x == ("__debug__" : Str)) = false) (hs : plainIx a = true) (ha : EO X a fa) : EO X (.Subscript (.Name x p) a pos) (mGIx kvs fa) := by
  obtain ⟨es, n, D⟩ := G.kd
  refine PE.weak (pe_ix ix_kdict (pe_glob (v := .ref d) gl hm rfl hd) ha (plain_ix hs)) ?_
  rintro s H Q ⟨m, A, L, v, A', hr, lr, e, post⟩
  obtain ⟨y, A1, e1, e⟩ := R.bind_eq_ok e
  split at e
  · rename_i z
    split at e
    · rename_i q hq
      cases e
      have e2 : q.1 = z := by simpa using List.find?_some hq
      obtain ⟨u0, v0, g1, g2, g3⟩ := G.val q (List.mem_of_find?_eq_some hq)
      subst e2
      refine ⟨m, A, L, _, _, hr, lr, e1, fun m1 v H1 p1 k1 hr1 r1 => ?_⟩
      simp only [Rep] at r1
      exact ⟨d, q.1, v0, rfl, r1, ⟨es, n, u0, D.at_, D.lit, g1, g2⟩, post m1 _ H1 p1 k1 hr1 (g3 _ _)⟩
    · cases e
  · cases e
/-- a call of what a name holds -/
theorem e_callX {k n i : Nat} {e0 : Expr} {es : List Expr} {r : ML} {tab : List (Str × List G × (List D → Hpp → R D))} (hr : Room k X.A) (hg : X.A.guards = some []) (hN : X.N[i]? = some x) (hv : Vis X.env.scope x) (hdb : (x == ("__debug__" : Str)) = false) (hcd : (x == ("__classdict__" : Str)) = false)
    (T : ∀ t ∈ tab, ∃ f fd ps, PySem.W.nsIn X.K mainGlobals t.1 = some (some (.ref f)) ∧ FnG X.prog X.w X.K X.mg X.base k f fd ps (spG X.K t.2.2) ∧ PySem.W.keepIn X.K (.ref f) = true ∧ BindOk X.K fd ps n [] t.2.1)
    (hs : (e0 :: es).all noStar = true) (ha : AO X (e0 :: es) r) : EO X (.Call (.Name x p) (e0 :: es) [] pos) (mCallX tab n (mVar i) r) := by
  refine ⟨fun pins s q H Q I h => ?_⟩
  obtain ⟨m, A, L, d, A', hR, lr, e, post⟩ := h
  unfold mCallX at e
  obtain ⟨fv, A1, e1, e⟩ := R.bind_eq_ok e
  obtain ⟨us, A2, e2, e⟩ := R.bind_eq_ok e
  cases fv with
  | fn y =>
    simp only at e
    cases ht : tab.find? (fun t => decide (t.1 = y)) with
    | none => rw [ht] at e; cases e
    | some t =>
      rw [ht] at e
      simp only at e
      split at e
      · rename_i hl
        cases eg : gather t.2.1 us [] with
        | none => rw [eg] at e; cases e
        | some as =>
          rw [eg] at e
          simp only at e
          have ef := e
          have ey : t.1 = y := by simpa using List.find?_some ht
          obtain ⟨f, fd, ps, g1, g2, g3, g4⟩ := T t (List.mem_of_find?_eq_some ht)
          subst ey
          have hsl : q[i]? = some (some (.ref f)) ∧ A1 = A := by
            unfold mVar at e1
            split at e1
            · rename_i hq
              cases e1
              obtain ⟨v, h1, h2⟩ := lr.at_ _ _ hq
              simp only [Rep] at h2
              obtain ⟨f', h3, rfl⟩ := h2
              rw [g1] at h3
              cases h3
              exact ⟨h1, rfl⟩
            · cases e1
          obtain ⟨hsl, rfl⟩ := hsl
          refine wpAny_Call_Name_kw (thn ((pe_var (pos := p) hN hv hdb hcd).run pins s q H (fun v H1 => v = .ref f ∧ H1 = H) I ⟨.ref f, hsl, rfl, rfl⟩) fun u s1 ⟨v, H1, I1, r1, q1⟩ => ?_)
          obtain ⟨rfl, rfl⟩ := q1
          cases r1
          have hs' := hs
          rw [List.all_cons, Bool.and_eq_true] at hs'
          refine PySem.W.callWith_K (h₀ := X.base) I.ok.mod.kin g3 (thn (ha.run pos pins s1 q _ (fun vs H1 => ∃ m1, m <+: m1 ∧ Keep H1 H1 ∧ Keep _ H1 ∧ HR X.K H1 m1 A2 ∧ RepL X.K H1 m1 us vs) I1 ⟨m, A1, L, us, A2, hR, lr, e2, fun m1 vs H1 p1 k1 hr1 q1 => ⟨m1, p1, Keep.refl _, k1, hr1, q1⟩⟩) fun us' s2 ⟨vs, H2, I2, rv, m1, p1, _, k1, hr1, q1⟩ => ⟨I2.kIn, ?_⟩) (star_cons hs'.1) (star_none hs'.2)
          exact run_G (ks := []) (ws := []) (ys := []) (es := []) g2 hr hg g4 I2 rv .nil hr1 q1 rfl hl rfl eg ef (post.later p1 k1)
      · cases e
  | _ => cases e
end
end Rf
namespace Rf
open PySem PySem.Spec PyProof.Rows L2
structure FnI where
  name : Str
  qual : Str
  params : Arguments
  body : List Stmt
  scope : Scope
  N : List Str
  ps : List Str
structure Pat where
  i : Nat
  n : Nat
  ks : List Str
  gs : List G
/-- what is known of the module: defs, patterns of calls, constants, names of built-ins that the module leaves alone -/
structure Tb where
  fns : List FnI
  pats : List Pat
  consts : List (Str × D)
  nos : List Str
  dicts : List (Str × List (Str × D)) := []
  fvs : List Nat := []
/-- where one stands: the names by slot, the scope, the block's own scope within a comprehension -/
structure Cxt where
  N : List Str
  sc : Scope
  inner : Option Scope
def Cxt.fn (c : Cxt) (x : Str) : Bool := match c.inner with
  | none => true
  | some s => s.names.lookup x == some .cell
def visB (sc : Scope) (x : Str) : Bool := match sc.names.lookup x with
  | some .local => true
  | some .cell => true
  | some .free => true
  | _ => false
def locB (c : Cxt) (x : Str) : Bool := match c.sc.names.lookup x with
  | some .local => true
  | some .cell => c.fn x
  | _ => false
def glB (sc : Scope) (x : Str) : Bool := match sc.names.lookup x with
  | some .globalImplicit => true
  | _ => false
def okName (x : Str) : Bool := !(x == ("__debug__" : Str)) && !(x == ("__classdict__" : Str)) && !(x == ("__name__" : Str))
def slot (c : Cxt) (x : Str) : Option Nat := if c.N[c.N.idxOf x]? = some x then some (c.N.idxOf x) else none
def when {α : Type} (b : Bool) (x : Option α) : Option α := if b = true then x else none
theorem when_some {α : Type} {b : Bool} {x : Option α} {a : α} (h : when b x = some a) : b = true ∧ x = some a := by
  unfold when at h
  split at h
  · rename_i q; exact ⟨q, h⟩
  · cases h
def trName (B : Tb) (c : Cxt) (x : Str) : Option M := when (okName x) (if visB c.sc x = true then (slot c x).bind fun i => some (mVar i) else when (glB c.sc x) ((B.consts.find? fun p => decide (p.1 = x)).bind fun p => some (mC p.2)))
def trArgs (te : Expr → Option M) : List Expr → Option ML
  | [] => some mNil
  | e :: es => when (noStar e) ((te e).bind fun f => (trArgs te es).bind fun r => some (mCons f r))
def trKws (te : Expr → Option M) : List Keyword → Option ML
  | [] => some mNil
  | k :: ks => when k.arg.isSome ((te k.value).bind fun f => (trKws te ks).bind fun r => some (mCons f r))
def trBool (te : Expr → Option M) (op : BoolOp) : List Expr → Option M
  | [] => none
  | [e] => te e
  | e :: es => (te e).bind fun f => (trBool te op es).bind fun r => some (match op with | .And => mAnd f r | .Or => mOr f r)
def trPairs (te : Expr → Option M) : List (Option Expr) → List Expr → Option (List (M × M))
  | [], [] => some []
  | some k :: ks, v :: vs => (te k).bind fun fk => (te v).bind fun fv => (trPairs te ks vs).bind fun r => some ((fk, fv) :: r)
  | _, _ => none
def trPart (te : Expr → Option M) : Option Expr → Option MO
  | none => some oNone
  | some e => (te e).bind fun f => some (oSome f)
inductive BI where
  | f (id : String) (op : List D → Hpp → R D) | t (id : String) (op : List D → Hpp → R D)
def builtinOf (x : Str) (n : Nat) : Option BI :=
  if x = "len" then some (.f "len" bLen)
  else if x = "ord" then some (.f "ord" bOrd)
  else if x = "repr" then some (.f "repr" bRepr)
  else if x = "all" then some (.f "all" bAll)
  else if x = "any" then some (.f "any" bAny)
  else if x = "min" ∧ n = 2 then some (.f "min" bMin2)
  else if x = "max" ∧ n = 2 then some (.f "max" bMax2)
  else if x = "tuple" then some (.t "tuple" bTuple)
  else if x = "list" then some (.t "list" bList)
  else if x = "int" then some (.t "int" bInt)
  else if x = "str" then some (.t "str" bStr)
  else if x = "dict" then some (.t "dict" bDict)
  else none
def tyOf (x : Str) : Option Ty :=
  if x = "int" then some .int else if x = "bool" then some .bool else if x = "str" then some .str else if x = "tuple" then some .tuple else if x = "list" then some .list else none
def biM : BI → ML → M
  | .f _ op, r => mB op r
  | .t _ op, r => mB op r
def trIsi (B : Tb) (c : Cxt) (te : Expr → Option M) : List Expr → Option M
  | [e, .Name y _] => when (okName y && glB c.sc y && B.nos.contains y && noStar e) ((tyOf y).bind fun T => (te e).bind fun f => some (mUn (opIsi T) f))
  | _ => none
def trBi (te : Expr → Option M) (x : Str) : List Expr → Option M
  | [] => none
  | e :: es => (builtinOf x (es.length + 1)).bind fun b => (trArgs te (e :: es)).bind fun r => some (biM b r)
def tupOrList (x : Str) : Option Bool := if x = "tuple" then some true else if x = "list" then some false else none
/-- tuple(range(..)), list(range(..)) -/
def trRg (B : Tb) (c : Cxt) (te : Expr → Option M) (x : Str) (args : List Expr) : Option M :=
  match args with
  | [.Call (.Name y _) ra [] _] => when (decide (y = "range") && glB c.sc y && B.nos.contains y) ((tupOrList x).bind fun k => match ra with
    | [a] => when (noStar a) ((te a).bind fun f => some (mRg1 k f))
    | [a, b] => when (noStar a && noStar b) ((te a).bind fun f => (te b).bind fun g => some (mRg2 k f g))
    | _ => none)
  | _ => none
def orElse' {α : Type} (a b : Option α) : Option α := match a with | some x => some x | none => b
def trFn (B : Tb) (F : FE) (te : Expr → Option M) (x : Str) (args : List Expr) (kws : List Keyword) : Option M :=
  (B.pats.find? fun p => decide ((B.fns[p.i]?.map (·.name)) = some x ∧ p.n = args.length ∧ p.ks = kws.filterMap (·.arg))).bind fun p =>
    (trArgs te args).bind fun r => (trKws te kws).bind fun k => some (mCall F p.i p.n p.ks.length p.gs r k)
/-- sum(x, start=0) -/
def trSumK (te : Expr → Option M) (x : Str) (args : List Expr) (kws : List Keyword) : Option M :=
  when (decide (x = "sum") && decide (kws.filterMap (·.arg) = [("start" : Str)])) (match args with
    | e :: es => (trArgs te (e :: es)).bind fun r => (trKws te kws).bind fun k => some (mBK bSumK r k)
    | [] => none)
/-- a call by name -/
def trCall (B : Tb) (F : FE) (c : Cxt) (te : Expr → Option M) (x : Str) (args : List Expr) (kws : List Keyword) : Option M :=
  when (okName x && glB c.sc x) (
    if B.nos.contains x = true then orElse' (trSumK te x args kws) <| when kws.isEmpty (if x = "isinstance" then trIsi B c te args else orElse' (trRg B c te x args) (trBi te x args))
    else trFn B F te x args kws)
def trMeth (te : Expr → Option M) (o : Expr) (name : Str) (apos cpos : Pos) (args : List Expr) : Option M :=
  when (plainBase o && (apos.endLine == cpos.line) && decide (args.length < 25)) (
    if name = "append" then (match args with
      | [e] => (te o).bind fun fo => (trArgs te [e]).bind fun r => some (mMeth isLst mAppend fo r)
      | _ => none)
    else if name = "extend" then (match args with
      | [e] => (te o).bind fun fo => (trArgs te [e]).bind fun r => some (mMeth isLst mExtend fo r)
      | _ => none)
    else if name = "join" then (match args with
      | [e] => (te o).bind fun fo => (trArgs te [e]).bind fun r => some (mMeth isStrD mJoin fo r)
      | _ => none)
    else if name = "upper" then (match args with
      | [] => (te o).bind fun fo => some (mUn opUpper fo)
      | _ => none)
    else none)
/-- what a for walks -/
def isTup : Expr → Bool
  | .Tuple .. => true
  | _ => false
def trSrc (B : Tb) (c : Cxt) (te : Expr → Option M) (tg e : Expr) : Option MS :=
  match e with
  | .Call (.Name x p) [a, b] [⟨some kn, .Constant (.bool true) j cp, kp⟩] pos => when (decide (x = "zip") && decide (kn = "strict") && glB c.sc x && B.nos.contains x && noStar a && noStar b && isTup tg) ((te a).bind fun f => (te b).bind fun g => some (srcZipS f g))
  | .Call (.Name x p) [a, b, d] [] pos => if x = "range" ∧ glB c.sc x = true ∧ B.nos.contains x = true ∧ noStar a = true ∧ noStar b = true ∧ noStar d = true then (te a).bind fun f => (te b).bind fun g => (te d).bind fun h => some (srcRange3 f g h) else (te e).bind fun f => some (srcSeq f)
  | .Call (.Name x p) [a] [] pos => if x = "range" ∧ glB c.sc x = true ∧ B.nos.contains x = true ∧ noStar a = true then (te a).bind fun f => some (srcRange1 f) else (te e).bind fun f => some (srcSeq f)
  | .Call (.Name x p) [a, b] [] pos => if x = "range" ∧ glB c.sc x = true ∧ B.nos.contains x = true ∧ noStar a = true ∧ noStar b = true then (te a).bind fun f => (te b).bind fun g => some (srcRange2 f g) else (te e).bind fun f => some (srcSeq f)
  | .Set _ _ _ => none
  | e => (te e).bind fun f => some (srcSeq f)
def trTgName (c : Cxt) : Expr → Option Nat
  | .Name x _ => when (locB c x) (slot c x)
  | _ => none
def trTgNames (c : Cxt) : List Expr → Option (List Nat)
  | [] => some []
  | e :: es => (trTgName c e).bind fun i => (trTgNames c es).bind fun l => some (i :: l)
/-- names with one star among them: how many ahead of it, how many behind, the slots -/
def trStar (c : Cxt) : List Expr → Option (Nat × Nat × List Nat)
  | [] => none
  | .Starred e _ :: es => (trTgName c e).bind fun i => (trTgNames c es).bind fun l => when (es.all noStar) (some (0, es.length, i :: l))
  | e :: es => when (noStar e) ((trTgName c e).bind fun i => (trStar c es).bind fun r => some (r.1 + 1, r.2.1, i :: r.2.2))
def tlOf : List Nat → TL
  | [] => gNil'
  | i :: l => gCons' (gVar i) (tlOf l)
/-- a comprehension's own names -/
def ownOf (N : List Str) (scope : Scope) : List (Str × Nat) := (scope.names.filter fun y => (y.2 == .local || y.2 == .cell) && N.contains y.1).map fun y => (y.1, N.idxOf y.1)
def trTgC (c : Cxt) (own : List Nat) (tg : Expr) : Option T :=
  match tg with
  | .Name x p => (trTgName c (.Name x p)).bind fun i => when (own.contains i) (some (gVar i))
  | .Tuple es _ _ => (trTgNames c es).bind fun l => when (l.all own.contains) (some (gTupT' (tlOf l)))
  | _ => none
def trIfs (te : Expr → Option M) : List Expr → Option MB
  | [] => some mYes
  | [e] => (te e).bind fun f => some (mTest f)
  | _ => none
def inBlk (c : Cxt) (scope : Scope) : Cxt := ⟨c.N, relS scope c.sc, some scope⟩
/-- x in P, x not in P of a dict of the module -/
def trGIn (B : Tb) (c : Cxt) (te : Expr → Option M) (op : CmpOp) (a b : Expr) : Option M := match b with
  | .Name x _ => when (okName x && glB c.sc x) ((B.dicts.find? fun p => decide (p.1 = x)).bind fun p => (match op with
    | .In => (te a).bind fun f => some (mGIn false (p.2.map (·.1)) f)
    | .NotIn => (te a).bind fun f => some (mGIn true (p.2.map (·.1)) f)
    | _ => none))
  | _ => none
def trGIx (B : Tb) (c : Cxt) (te : Expr → Option M) (a s : Expr) : Option M := match a with
  | .Name x _ => when (okName x && glB c.sc x && plainIx s) ((B.dicts.find? fun p => decide (p.1 = x)).bind fun p => (te s).bind fun f => some (mGIx p.2 f))
  | _ => none
/-- the defs that are held as values, by how many they take -/
def tabX (B : Tb) (F : FE) (n : Nat) : List (Str × List G × (List D → Hpp → R D)) := B.pats.filterMap fun p => if (B.fvs.contains p.i && decide (p.n = n) && p.ks.isEmpty) = true then (B.fns[p.i]?).map fun I => (I.name, p.gs, F p.i) else none
def trCallX (B : Tb) (F : FE) (c : Cxt) (te : Expr → Option M) (x : Str) (args : List Expr) (kws : List Keyword) : Option M :=
  when (okName x && visB c.sc x && kws.isEmpty && !args.isEmpty) ((slot c x).bind fun i => (trArgs te args).bind fun r => some (mCallX (tabX B F args.length) args.length (mVar i) r))
def trE (B : Tb) (F : FE) : Nat → Cxt → Expr → Option M
  | 0, _, _ => none
  | n + 1, c, e => match e with
    | .Constant k _ _ => (match k with
      | .int i => some (mC (.int i))
      | .bool b => some (mC (.bl b))
      | .str s => some (mC (.str s))
      | .none => some (mC .non)
      | _ => none)
    | .Name x _ => trName B c x
    | .BinOp a op b _ => (binOf op).bind fun g => (trE B F n c a).bind fun fa => (trE B F n c b).bind fun fb => some (mBin g fa fb)
    | .UnaryOp op a _ => (match op with
      | .Not => (trE B F n c a).bind fun f => some (mNot f)
      | .USub => (trE B F n c a).bind fun f => some (mUn opNeg f)
      | _ => none)
    | .BoolOp op vs _ => trBool (trE B F n c) op vs
    | .IfExp t a b _ => (trE B F n c t).bind fun ft => (trE B F n c a).bind fun fa => (trE B F n c b).bind fun fb => some (mIf ft fa fb)
    | .Compare a ops cs _ => (match ops, cs with
      | [op], [b] => orElse' (trGIn B c (trE B F n c) op a b) <| when (!behindInMarks op b) ((cmpOf op).bind fun g => (trE B F n c a).bind fun fa => (trE B F n c b).bind fun fb => some (mBin g fa fb))
      | [op, op'], [b, d] => when (!lastMarks [op, op'] [b, d]) ((cmpOf op).bind fun g => (cmpOf op').bind fun g' => (trE B F n c a).bind fun fa => (trE B F n c b).bind fun fb => (trE B F n c d).bind fun fd => some (mChain g g' fa fb fd))
      | _, _ => none)
    | .Tuple es _ _ => (trArgs (trE B F n c) es).bind fun r => some (mTup r)
    | .List es _ => (trArgs (trE B F n c) es).bind fun r => some (mLst r)
    | .Dict ks vs _ => when (ks.all (·.isSome) && decide (ks.length = vs.length) && !ks.isEmpty && decide (ks.length ≤ 15)) ((trPairs (trE B F n c) ks vs).bind fun r => some (mDict r))
    | .Subscript a s _ => (match s with
      | .Slice none none (some (.UnaryOp .USub (.Constant (.int 1) _ _) _)) _ => (trE B F n c a).bind fun f => some (mUn opRev f)
      | .Slice lo hi none _ => (trE B F n c a).bind fun f => (trPart (trE B F n c) lo).bind fun l => (trPart (trE B F n c) hi).bind fun h => some (mSlice f l h)
      | s => orElse' (trGIx B c (trE B F n c) a s) <| when (plainIx s) ((trE B F n c a).bind fun fa => (trE B F n c s).bind fun fb => some (mBin opIx fa fb)))
    | .Call fe args kws cpos => (match fe with
      | .Name x _ => orElse' (trCallX B F c (trE B F n c) x args kws) (trCall B F c (trE B F n c) x args kws)
      | .Attribute o name apos => when kws.isEmpty (trMeth (trE B F n c) o name apos cpos args)
      | _ => none)
    | .ListComp elt gens scope _ => (match gens with
      | [⟨tg, iter, ifs, 0⟩] => when (blkC c.N c.sc scope (ownOf c.N scope)) (
          (trSrc B c (trE B F n c) tg iter).bind fun fs => (trTgC (inBlk c scope) ((ownOf c.N scope).map (·.2)) tg).bind fun t =>
          (trIfs (trE B F n (inBlk c scope)) ifs).bind fun fc => (trE B F n (inBlk c scope) elt).bind fun f => some (mLc fs t fc f ((ownOf c.N scope).map (·.2))))
      | _ => none)
    | _ => none
/-- a value that is no comprehension -/
def notComp : Expr → Bool
  | .ListComp .. => false
  | .SetComp .. => false
  | .DictComp .. => false
  | _ => true
def notTup : Expr → Bool
  | .Tuple .. => false
  | _ => true
def notSeq : Expr → Bool
  | .Tuple .. => false
  | .List .. => false
  | _ => true
def trTg (te : Expr → Option M) (c : Cxt) : Nat → Expr → Option T
  | 0, _ => none
  | n + 1, tg => match tg with
    | .Name x p => (trTgName c (.Name x p)).bind fun i => some (gVar i)
    | .Tuple es _ _ => if es.all noStar = true then (trTgNames c es).bind fun l => some (gTup' (tlOf l)) else (trStar c es).bind fun r => some (gStar' r.1 r.2.1 (tlOf r.2.2))
    | .Subscript o i _ => when (plainIx i) ((te o).bind fun fo => (te i).bind fun fi => some (gSub' fo fi))
    | _ => none
def isName : Expr → Bool
  | .Name .. => true
  | _ => false
/-- name = [..]: the store is made within -/
def swapsC (c : Cxt) (tg value : Expr) : Bool := match value, tg with
  | .ListComp _ _ scope pos, .Name t py => (match c.sc.names.lookup t with | some .local => true | _ => false) && (py.line == pos.line) && !(scope.names.any fun (n, k) => n == t && (k == .local || k == .cell))
  | _, _ => false
/-- two names at once -/
def parOk (c : Cxt) (x y : Str) (px py : Pos) (a b : Expr) : Bool :=
  (match c.sc.kind with | .function => true | _ => false) && (match c.sc.names.lookup x with | some .local => true | _ => false) && (match c.sc.names.lookup y with | some .local => true | _ => false) && (py.line == px.line) && !(x == y) &&
  noStar a && noStar b && !([a, b].all (foldedForSure 8)) && !([a, b].all (constantsAlone 8))
def parOk3 (c : Cxt) (x y z : Str) (px py pz : Pos) (vs : List Expr) : Bool :=
  (match c.sc.kind with | .function => true | _ => false) && (match c.sc.names.lookup x with | some .local => true | _ => false) && (match c.sc.names.lookup y with | some .local => true | _ => false) && (match c.sc.names.lookup z with | some .local => true | _ => false) &&
  (py.line == px.line) && (pz.line == px.line) && !(x == y) && !(x == z) && !(y == z) && vs.all noStar && !(vs.all (foldedForSure 8)) && !(vs.all (constantsAlone 8))
def notLoc (c : Cxt) : Expr → Bool
  | .Name x _ => (match c.sc.names.lookup x with | some .local => false | _ => true)
  | _ => true
/-- a tuple is made and unpacked -/
def parNone (c : Cxt) : Expr → Expr → Bool
  | .Tuple ts _ _, .Tuple vs _ _ => ts.any (notLoc c) || vs.all (foldedForSure 8)
  | _, _ => false
def trPar (te : Expr → Option M) (c : Cxt) : Expr → Expr → Option S
  | .Tuple [.Name x px, .Name y py] _ _, .Tuple [a, b] _ _ => when (parOk c x y px py a b) ((slot c x).bind fun i => (slot c y).bind fun j => (trArgs te [a, b]).bind fun r => some (sPar i j r))
  | .Tuple [.Name x px, .Name y py, .Name z pz] _ _, .Tuple [a, b, d] _ _ => when (parOk3 c x y z px py pz [a, b, d]) ((slot c x).bind fun i => (slot c y).bind fun j => (slot c z).bind fun l => (trArgs te [a, b, d]).bind fun r => some (sPar3 i j l r))
  | _, _ => none
mutual
def trS (B : Tb) (F : FE) : Nat → Cxt → Stmt → Option S
  | 0, _, _ => none
  | n + 1, c, st => match st with
    | .Return v _ => (match v with
      | some e => (trE B F n c e).bind fun f => some (sRet f)
      | none => some sRetN)
    | .Pass _ => some sNil
    | .Break _ => some sBreak
    | .Continue _ => some sCont
    | .Raise _ _ _ => some sBad
    | .If t a b _ => (trE B F n c t).bind fun ft => (trSs B F n c a).bind fun fa => (trSs B F n c b).bind fun fb => some (sIf ft fa fb)
    | .Expr e _ => when (notComp e) ((trE B F n c e).bind fun f => some (sDrop f))
    | .While t a els _ => when els.isEmpty ((trE B F n c t).bind fun ft => (trSs B F n c a).bind fun fa => some (sWhile ft fa))
    | .For tg it a els _ => when els.isEmpty ((trSrc B c (trE B F n c) tg it).bind fun fs => (trTg (trE B F n c) c 1 tg).bind fun t => (trSs B F n c a).bind fun fa => some (sFor fs t fa))
    | .AugAssign tg op e _ => (match tg with
      | .Name x p => (augOf op).bind fun k => (trTgName c (.Name x p)).bind fun i => (trE B F n c e).bind fun f => some (sAug k i f)
      | _ => none)
    | .Assign tgs e _ => (match tgs with
      | [tg] => orElse' (trPar (trE B F n c) c tg e) (when ((notTup e || notSeq tg || parNone c tg e) && noStar tg && (notComp e || swapsC c tg e || !isName tg || notLoc c tg)) ((trE B F n c e).bind fun f => (trTg (trE B F n c) c 1 tg).bind fun t => some (sAsg f t)))
      | _ => none)
    | _ => none
def trSs (B : Tb) (F : FE) : Nat → Cxt → List Stmt → Option S
  | 0, _, _ => none
  | n + 1, c, l => match l with
    | [] => some sNil
    | s :: r => (trS B F n c s).bind fun f => (trSs B F n c r).bind fun g => some (sSeq f g)
end
end Rf
namespace Rf
open PySem PySem.Spec PyProof.Rows L2
/-- the module as it stands behind the top -/
structure World' (B : Tb) (w : World) (K : PySem.W.Frag) (mg : Str → Option Value) (ad : Nat → Addr) (fd : Nat → FuncData) : Prop where
  nos : ∀ x ∈ B.nos, mg x = none
  consts : ∀ p ∈ B.consts, ∃ v u, mg p.1 = some u ∧ RelV v u ∧ ∀ H m, Rep K H m p.2 v
  fn : ∀ (i : Nat) (I : FnI), B.fns[i]? = some I → mg I.name = some (.ref (ad i)) ∧ PySem.W.keepIn K (.ref (ad i)) = true ∧
    ∃ (oc : Value) (od : Option Addr) (dV kV doc pm : Value) (an : Option Addr) (cdv ct : Value) (osl : Array (Option Value)),
      fd i = PySem.W.fnOf I.name I.qual I.params I.body I.scope dV kV doc pm an cdv ct ∧ K.lookup (ad i) = some ⟨oc, od, .func (fd i), osl⟩ ∧ PySem.W.codeIn K cdv I.qual = true
  pat : ∀ p ∈ B.pats, ∀ I, B.fns[p.i]? = some I → BindOk K (fd p.i) I.ps p.n p.ks p.gs
  dicts : ∀ p ∈ B.dicts, ∃ d, mg p.1 = some (.ref d) ∧ GDict K w d p.2
  fnv : ∀ i ∈ B.fvs, ∀ I, B.fns[i]? = some I → PySem.W.nsIn K mainGlobals I.name = some (some (.ref (ad i)))
/-- a context fits -/
structure Fits (P : Program) (w : World) (K : PySem.W.Frag) (mg : Str → Option Value) (base : Heap) (k : Nat) (c : Cxt) (X : Cx) : Prop where
  prog : X.prog = P
  wld : X.w = w
  frag : X.K = K
  mod : X.mg = mg
  bas : X.base = base
  names : X.N = c.N
  scope : X.env.scope = c.sc
  fn : ∀ x, c.fn x = true → X.fn x = true
  nd : X.N.Nodup
  calm : X.calm = true
  gd : X.A.guards = some []
  room : Room k X.A
  xe : X.xe = fun _ _ => False
  kind : X.env.scope.kind = .function
theorem not_of {b : Bool} (h : (!b) = true) : b = false := by simpa using h
theorem Fits.blk {P : Program} {w : World} {K : PySem.W.Frag} {mg : Str → Option Value} {base : Heap} {k : Nat} {c : Cxt} {X : Cx} (h : Fits P w K mg base k c X) (s : Shared) (H : Hp) (scope : Scope) (cl : List (Str × Addr)) (C : Addr) (fp : List Addr) (hk : scope.kind = .function) :
    Fits P w K mg base k (inBlk c scope) (X.blk s H scope (compEnvC scope cl C X.env) fp) where
  prog := h.prog
  wld := h.wld
  frag := h.frag
  mod := h.mod
  bas := h.bas
  names := h.names
  scope := by
    show relabel scope X.env = relS scope c.sc
    rw [← h.scope]
    rfl
  fn := fun x hx => hx
  nd := h.nd
  calm := h.calm
  gd := h.gd
  room := h.room
  xe := rfl
  kind := hk
/-- what the defs promise at level k -/
def Calls (B : Tb) (P : Program) (w : World) (K : PySem.W.Frag) (mg : Str → Option Value) (base : Heap) (k : Nat) (ad : Nat → Addr) (fd : Nat → FuncData) (F : FE) : Prop :=
  ∀ (i : Nat) (I : FnI), B.fns[i]? = some I → FnG P w K mg base k (ad i) (fd i) I.ps (spG K (F i))
section
variable {B : Tb} {P : Program} {w : World} {K : PySem.W.Frag} {mg : Str → Option Value} {base : Heap} {k : Nat} {ad : Nat → Addr} {fd : Nat → FuncData} {F : FE} {c : Cxt} {X : Cx}
theorem vis_of {sc : Scope} {x : Str} (h : visB sc x = true) : Vis sc x := by
  unfold visB at h
  split at h
  · rename_i q; exact .inl q
  · rename_i q; exact .inr (.inl q)
  · rename_i q; exact .inr (.inr q)
  · cases h
theorem gl_of (f : Fits P w K mg base k c X) {x : Str} (h : glB c.sc x = true) : Gl X x := by
  unfold glB at h
  unfold Gl Env.kindOf
  rw [f.scope]
  split at h
  · rename_i q; exact q
  · cases h
theorem slot_of {x : Str} {i : Nat} (h : slot c x = some i) : c.N[i]? = some x := by
  unfold slot at h
  split at h
  · cases h; rename_i q; exact q
  · cases h
theorem okName_of {x : Str} (h : okName x = true) : (x == ("__debug__" : Str)) = false ∧ (x == ("__classdict__" : Str)) = false ∧ x ≠ "__name__" := by
  unfold okName at h
  simp only [Bool.and_eq_true, Bool.not_eq_true'] at h
  exact ⟨h.1.1, h.1.2, by simpa using h.2⟩
theorem loc_of (f : Fits P w K mg base k c X) {x : Str} (h : locB c x = true) : L2.Loc X.env.scope x ∧ (X.fn x = true ∨ X.env.scope.names.lookup x = some .local) := by
  unfold locB at h
  unfold L2.Loc
  rw [f.scope]
  split at h
  · rename_i q; exact ⟨.inl q, .inr q⟩
  · rename_i q; exact ⟨.inr q, .inl (f.fn x h)⟩
  · cases h
theorem units64 (f : Fits P w K mg base k c X) : X.A.units + 64 < cLine := f.room.units
theorem units1 (f : Fits P w K mg base k c X) : X.A.units + 1 < cLine := by have := f.room.units; omega
theorem units66 (f : Fits P w K mg base k c X) : X.A.units + (deepest + 1) < cLine := by have := f.room.un; unfold deepest; omega
abbrev Good (X : Cx) (e : Expr) (f : M) : Prop := EO X e f ∧ TO' X e f
theorem good_val {e : Expr} {f : M} (h : EO X e f) (he : ∀ whole, isTrue e X.env whole = (do let v ← whole; standAt e.pos; holding [v] (truthy v))) : Good X e f := ⟨h, t_val h he⟩
theorem trName_ok (W : World' B w K mg ad fd) (f : Fits P w K mg base k c X) {x : Str} {pos : Pos} {m : M} (h : trName B c x = some m) : Good X (.Name x pos) m := by
  unfold trName at h
  obtain ⟨ok, h⟩ := when_some h
  obtain ⟨d1, d2, d3⟩ := okName_of ok
  split at h
  · rename_i hv
    obtain ⟨i, hi, h⟩ := Option.bind_eq_some_iff.mp h
    cases h
    refine good_val (e_var (by rw [f.names]; exact slot_of hi) (by rw [f.scope]; exact vis_of hv) d1 d2) fun _ => rfl
  · obtain ⟨hg, h⟩ := when_some h
    obtain ⟨p, hp, h⟩ := Option.bind_eq_some_iff.mp h
    cases h
    have e1 : p.1 = x := by simpa using List.find?_some hp
    obtain ⟨v, u, h1, h2, h3⟩ := W.consts p (List.mem_of_find?_eq_some hp)
    subst e1
    refine good_val (e_c (v := v) (pe_glob (gl_of f hg) (by rw [f.mod]; exact h1) h2 d1) fun H m => by rw [f.frag]; exact h3 H m) fun _ => rfl
theorem trArgs_ok {te : Expr → Option M} (ih : ∀ e f, te e = some f → EO X e f) : ∀ {es : List Expr} {r : ML}, trArgs te es = some r → es.all noStar = true ∧ AO X es r
  | [], r, h => by cases h; exact ⟨rfl, a_nil⟩
  | e :: es, r, h => by
    unfold trArgs at h
    obtain ⟨hs, h⟩ := when_some h
    obtain ⟨f, hf, h⟩ := Option.bind_eq_some_iff.mp h
    obtain ⟨q, hq, h⟩ := Option.bind_eq_some_iff.mp h
    cases h
    obtain ⟨a, b⟩ := trArgs_ok ih hq
    exact ⟨by rw [List.all_cons, hs, a]; rfl, a_cons hs (ih e f hf) b⟩
theorem trKws_ok {te : Expr → Option M} (ih : ∀ e f, te e = some f → EO X e f) : ∀ {es : List Keyword} {r : ML}, trKws te es = some r → es.all (fun k => k.arg.isSome) = true ∧ KO X es r
  | [], r, h => by cases h; exact ⟨rfl, k_nil⟩
  | ⟨nm, e, p⟩ :: es, r, h => by
    unfold trKws at h
    obtain ⟨hs, h⟩ := when_some h
    obtain ⟨f, hf, h⟩ := Option.bind_eq_some_iff.mp h
    obtain ⟨q, hq, h⟩ := Option.bind_eq_some_iff.mp h
    cases h
    obtain ⟨a, b⟩ := trKws_ok ih hq
    exact ⟨by rw [List.all_cons, hs, a]; rfl, k_cons (ih e f hf) b⟩
theorem trBool_ok {te : Expr → Option M} (ih : ∀ e f, te e = some f → Good X e f) {op : BoolOp} {pos : Pos} : ∀ {es : List Expr} {f : M}, trBool te op es = some f → EO X (.BoolOp op es pos) f ∧ WO X (.BoolOp op es pos) f
  | [], f, h => by cases h
  | [e], f, h => by
    unfold trBool at h
    obtain ⟨a, b⟩ := ih e f h
    refine ⟨pe_one a, ?_⟩
    cases op
    · exact w_and1 b
    · exact w_or1 b
  | e :: e2 :: es, f, h => by
    unfold trBool at h
    obtain ⟨fa, ha, h⟩ := Option.bind_eq_some_iff.mp h
    obtain ⟨fb, hb, h⟩ := Option.bind_eq_some_iff.mp h
    obtain ⟨a1, a2⟩ := ih e fa ha
    obtain ⟨b1, b2⟩ := trBool_ok ih (op := op) (pos := pos) hb
    cases op
    · cases h; exact ⟨e_and a1 b1, w_and a2 b2⟩
    · cases h; exact ⟨e_or a1 b1, w_or a2 b2⟩
theorem trPairs_ok {te : Expr → Option M} (ih : ∀ e f, te e = some f → EO X e f) {pos : Pos} : ∀ {ks : List (Option Expr)} {vs : List Expr} {ps : List (M × M)}, trPairs te ks vs = some ps → DO X pos ks vs ps
  | [], [], ps, h => by cases h; exact d_nil
  | [], _ :: _, ps, h => by cases h
  | none :: _, _, ps, h => by simp [trPairs] at h
  | some k :: ks, [], ps, h => by simp [trPairs] at h
  | some k :: ks, v :: vs, ps, h => by
    unfold trPairs at h
    obtain ⟨fk, hk, h⟩ := Option.bind_eq_some_iff.mp h
    obtain ⟨fv, hv, h⟩ := Option.bind_eq_some_iff.mp h
    obtain ⟨q, hq, h⟩ := Option.bind_eq_some_iff.mp h
    cases h
    exact d_cons (ih k fk hk) (ih v fv hv) (trPairs_ok ih hq)
theorem trPart_ok {te : Expr → Option M} (ih : ∀ e f, te e = some f → EO X e f) {o : Option Expr} {f : MO} (h : trPart te o = some f) : PO X o (tO X.K f) := by
  cases o with
  | none => cases h; exact p_none
  | some e =>
    obtain ⟨g, hg, h⟩ := Option.bind_eq_some_iff.mp h
    cases h
    exact p_some (ih e g hg)
theorem no_of (W : World' B w K mg ad fd) (f : Fits P w K mg base k c X) {x : Str} (h : B.nos.contains x = true) : X.mg x = none := by
  rw [f.mod]
  exact W.nos x (by simpa using h)
def BiOk (X : Cx) (x : Str) : BI → Prop
  | .f id op => bootBuiltins x = some (.builtin id) ∧ CallR X (.builtin id) (rF X.K op)
  | .t id op => bootBuiltins x = some (.type id) ∧ CallR X (.type id) (rF X.K op)
theorem bb_len : bootBuiltins "len" = some (.builtin "len") := by decide +kernel
theorem bb_ord : bootBuiltins "ord" = some (.builtin "ord") := by decide +kernel
theorem bb_repr : bootBuiltins "repr" = some (.builtin "repr") := by decide +kernel
theorem bb_all : bootBuiltins "all" = some (.builtin "all") := by decide +kernel
theorem bb_any : bootBuiltins "any" = some (.builtin "any") := by decide +kernel
theorem bb_min : bootBuiltins "min" = some (.builtin "min") := by decide +kernel
theorem bb_max : bootBuiltins "max" = some (.builtin "max") := by decide +kernel
theorem bb_tuple : bootBuiltins "tuple" = some (.type "tuple") := by decide +kernel
theorem bb_list : bootBuiltins "list" = some (.type "list") := by decide +kernel
theorem bb_int : bootBuiltins "int" = some (.type "int") := by decide +kernel
theorem bb_str : bootBuiltins "str" = some (.type "str") := by decide +kernel
theorem bb_dict : bootBuiltins "dict" = some (.type "dict") := by decide +kernel
theorem builtin_ok (f : Fits P w K mg base k c X) {x : Str} {n : Nat} {b : BI} (h : builtinOf x n = some b) : BiOk X x b := by
  unfold builtinOf at h
  split at h
  · rename_i q; subst q; cases h; exact ⟨bb_len, b_len⟩
  split at h
  · rename_i q; subst q; cases h; exact ⟨bb_ord, b_ord⟩
  split at h
  · rename_i q; subst q; cases h; exact ⟨bb_repr, b_repr f.gd (units66 f)⟩
  split at h
  · rename_i q; subst q; cases h; exact ⟨bb_all, b_all f.calm⟩
  split at h
  · rename_i q; subst q; cases h; exact ⟨bb_any, b_any f.calm⟩
  split at h
  · rename_i q; obtain ⟨rfl, rfl⟩ := q; cases h; exact ⟨bb_min, b_min f.calm⟩
  split at h
  · rename_i q; obtain ⟨rfl, rfl⟩ := q; cases h; exact ⟨bb_max, b_max f.calm⟩
  split at h
  · rename_i q; subst q; cases h; exact ⟨bb_tuple, b_tuple⟩
  split at h
  · rename_i q; subst q; cases h; exact ⟨bb_list, b_list⟩
  split at h
  · rename_i q; subst q; cases h; exact ⟨bb_int, b_int⟩
  split at h
  · rename_i q; subst q; cases h; exact ⟨bb_str, b_str⟩
  split at h
  · rename_i q; subst q; cases h; exact ⟨bb_dict, b_dict f.calm⟩
  · cases h
theorem tyOf_ok {y : Str} {T : Ty} (h : tyOf y = some T) : bootBuiltins y = some (.type T.name) := by
  unfold tyOf at h
  split at h
  · rename_i q; subst q; cases h; decide +kernel
  split at h
  · rename_i q; subst q; cases h; decide +kernel
  split at h
  · rename_i q; subst q; cases h; decide +kernel
  split at h
  · rename_i q; subst q; cases h; decide +kernel
  split at h
  · rename_i q; subst q; cases h; decide +kernel
  · cases h
theorem boot_isi : bootBuiltins "isinstance" = some (.builtin "isinstance") := by decide +kernel
theorem trIsi_ok (W : World' B w K mg ad fd) (f : Fits P w K mg base k c X) {te : Expr → Option M} (ih : ∀ e f, te e = some f → EO X e f) {p pos : Pos} {args : List Expr} {m : M} (gl : Gl X "isinstance") (hno : X.mg "isinstance" = none)
    (h : trIsi B c te args = some m) : EO X (.Call (.Name "isinstance" p) args [] pos) m := by
  unfold trIsi at h
  split at h
  · obtain ⟨h1, h⟩ := when_some h
    rw [Bool.and_eq_true, Bool.and_eq_true, Bool.and_eq_true] at h1
    obtain ⟨T, hT, h⟩ := Option.bind_eq_some_iff.mp h
    obtain ⟨g, hg, h⟩ := Option.bind_eq_some_iff.mp h
    cases h
    obtain ⟨e1, e2, e3⟩ := okName_of h1.1.1.1
    exact e_isi gl hno boot_isi (gl_of f h1.1.1.2) (no_of W f h1.1.2) (tyOf_ok hT) h1.2 (ih _ _ hg) (by decide) (by decide) e3 e1
  · cases h
theorem trBi_ok (f : Fits P w K mg base k c X) {te : Expr → Option M} (ih : ∀ e f, te e = some f → EO X e f) {x : Str} {p pos : Pos} {args : List Expr} {m : M} (gl : Gl X x) (hno : X.mg x = none) (d1 : (x == ("__debug__" : Str)) = false) (d3 : x ≠ "__name__")
    (h : trBi te x args = some m) : EO X (.Call (.Name x p) args [] pos) m := by
  cases args with
  | nil => cases h
  | cons e es =>
    unfold trBi at h
    obtain ⟨b, hb, h⟩ := Option.bind_eq_some_iff.mp h
    obtain ⟨r, hr, h⟩ := Option.bind_eq_some_iff.mp h
    have hbi := builtin_ok f hb
    obtain ⟨ns, ha⟩ := trArgs_ok ih hr
    rw [List.all_cons, Bool.and_eq_true] at ns
    cases h
    cases b with
    | f id op => exact e_callB hbi.2 gl hno hbi.1 ns.1 ns.2 ha d3 d1
    | t id op => exact e_callT hbi.2 gl hno hbi.1 ns.1 ns.2 ha d3 d1
theorem trFn_ok (W : World' B w K mg ad fd) (C : Calls B P w K mg base k ad fd F) (f : Fits P w K mg base k c X) {te : Expr → Option M} (ih : ∀ e f, te e = some f → EO X e f) {x : Str} {p pos : Pos} {args : List Expr} {kws : List Keyword} {m : M} (gl : Gl X x) (d1 : (x == ("__debug__" : Str)) = false)
    (h : trFn B F te x args kws = some m) : EO X (.Call (.Name x p) args kws pos) m := by
  unfold trFn at h
  obtain ⟨q, hq, h⟩ := Option.bind_eq_some_iff.mp h
  obtain ⟨r, hr, h⟩ := Option.bind_eq_some_iff.mp h
  obtain ⟨kr, hkr, h⟩ := Option.bind_eq_some_iff.mp h
  cases h
  have hq1 := List.find?_some hq
  have hq2 := List.mem_of_find?_eq_some hq
  simp only [decide_eq_true_eq] at hq1
  obtain ⟨hn, h1, h2⟩ := hq1
  obtain ⟨I, hI, hIn⟩ := Option.map_eq_some_iff.mp hn
  obtain ⟨w1, w2, w3⟩ := W.fn q.i I hI
  have bo := W.pat q hq2 I hI
  have G' := C q.i I hI
  obtain ⟨ns, ha⟩ := trArgs_ok ih hr
  obtain ⟨kn, hkw⟩ := trKws_ok ih hkr
  rw [hIn] at w1
  rw [← f.prog, ← f.wld, ← f.frag, ← f.mod, ← f.bas] at G'
  rw [← f.frag] at bo w2
  rw [← f.mod] at w1
  cases args with
  | nil =>
    cases hr
    rw [h1] at bo ⊢
    exact e_call0 G' f.room f.gd gl w1 w2 bo kn h2.symm d1 hkw
  | cons e0 es => exact e_call G' f.room f.gd gl w1 w2 bo ns kn h2.symm d1 ha hkw
theorem tol_ok {x : Str} {k : Bool} (h : tupOrList x = some k) : x = if k = true then "tuple" else "list" := by
  unfold tupOrList at h
  split at h
  · cases h; rename_i q; rw [q]; rfl
  · split at h
    · cases h; rename_i q; rw [q]; rfl
    · cases h
theorem trRg_ok (W : World' B w K mg ad fd) (f : Fits P w K mg base k c X) {te : Expr → Option M} (ih : ∀ e f, te e = some f → EO X e f) {x : Str} {p pos : Pos} {args : List Expr} {m : M} (gl : Gl X x) (hno : X.mg x = none)
    (h : trRg B c te x args = some m) : EO X (.Call (.Name x p) args [] pos) m := by
  unfold trRg at h
  split at h
  · obtain ⟨h1, h2⟩ := when_some h
    clear h
    rw [Bool.and_eq_true, Bool.and_eq_true, decide_eq_true_eq] at h1
    obtain ⟨⟨rfl, g1⟩, g2⟩ := h1
    obtain ⟨kk, hk, h3⟩ := Option.bind_eq_some_iff.mp h2
    clear h2
    split at h3
    · obtain ⟨n1, h4⟩ := when_some h3
      obtain ⟨fa, ha, h5⟩ := Option.bind_eq_some_iff.mp h4
      cases h5
      exact e_rg1 (y := x) f.calm (tol_ok hk) gl hno (gl_of f g1) (no_of W f g2) n1 (ih _ _ ha)
    · obtain ⟨n1, h4⟩ := when_some h3
      rw [Bool.and_eq_true] at n1
      obtain ⟨fa, ha, h5⟩ := Option.bind_eq_some_iff.mp h4
      obtain ⟨fb, hb, h6⟩ := Option.bind_eq_some_iff.mp h5
      cases h6
      exact e_rg2 (y := x) f.calm (tol_ok hk) gl hno (gl_of f g1) (no_of W f g2) n1.1 n1.2 (ih _ _ ha) (ih _ _ hb)
    · cases h3
  · cases h
theorem bb_sum : bootBuiltins "sum" = some (.builtin "sum") := by decide +kernel
theorem trSumK_ok (f : Fits P w K mg base k c X) {te : Expr → Option M} (ih : ∀ e f, te e = some f → EO X e f) {x : Str} {p pos : Pos} {args : List Expr} {kws : List Keyword} {m : M} (gl : Gl X x) (hno : X.mg x = none)
    (h : trSumK te x args kws = some m) : EO X (.Call (.Name x p) args kws pos) m := by
  unfold trSumK at h
  obtain ⟨h1, h2⟩ := when_some h
  rw [Bool.and_eq_true, decide_eq_true_eq, decide_eq_true_eq] at h1
  obtain ⟨rfl, hk⟩ := h1
  cases args with
  | nil => cases h2
  | cons e es =>
    obtain ⟨r, hr, h3⟩ := Option.bind_eq_some_iff.mp h2
    obtain ⟨kr, hkr, h4⟩ := Option.bind_eq_some_iff.mp h3
    cases h4
    obtain ⟨ns, ha⟩ := trArgs_ok ih hr
    obtain ⟨kn, hkw⟩ := trKws_ok ih hkr
    exact e_callBK (b_sumK f.calm) gl hno bb_sum ns kn hk ha hkw (by decide) (by decide)
theorem trCall_ok (W : World' B w K mg ad fd) (C : Calls B P w K mg base k ad fd F) (f : Fits P w K mg base k c X) {te : Expr → Option M} (ih : ∀ e f, te e = some f → EO X e f) {x : Str} {p pos : Pos} {args : List Expr} {kws : List Keyword} {m : M}
    (h : trCall B F c te x args kws = some m) : EO X (.Call (.Name x p) args kws pos) m := by
  unfold trCall at h
  obtain ⟨ok, h0⟩ := when_some h
  rw [Bool.and_eq_true] at ok
  obtain ⟨d1, d2, d3⟩ := okName_of ok.1
  have gl := gl_of f ok.2
  clear h
  split at h0
  · rename_i hno
    unfold orElse' at h0
    split at h0
    · rename_i q
      cases h0
      exact trSumK_ok f ih gl (no_of W f hno) q
    obtain ⟨hk, h1⟩ := when_some h0
    clear h0
    have hk' : kws = [] := by simpa using hk
    subst hk'
    split at h1
    · rename_i hx
      subst hx
      exact trIsi_ok W f ih gl (no_of W f hno) h1
    · split at h1
      · rename_i q
        cases h1
        exact trRg_ok W f ih gl (no_of W f hno) q
      · exact trBi_ok f ih gl (no_of W f hno) d1 d3 h1
  · exact trFn_ok W C f ih gl d1 h0
end
end Rf
namespace Rf
open PySem PySem.Spec PyProof.Rows L2
section
variable {B : Tb} {P : Program} {w : World} {K : PySem.W.Frag} {mg : Str → Option Value} {base : Heap} {k : Nat} {ad : Nat → Addr} {fd : Nat → FuncData} {F : FE} {c : Cxt} {X : Cx}
theorem trMeth_ok {te : Expr → Option M} (ih : ∀ e f, te e = some f → EO X e f) {o : Expr} {name : Str} {apos cpos : Pos} {args : List Expr} {m : M} (h : trMeth te o name apos cpos args = some m) : EO X (.Call (.Attribute o name apos) args [] cpos) m := by
  unfold trMeth at h
  obtain ⟨h1, h2⟩ := when_some h
  clear h
  rw [Bool.and_eq_true, Bool.and_eq_true, decide_eq_true_eq] at h1
  split at h2
  · rename_i q
    subst q
    split at h2
    · obtain ⟨fo, ho, h⟩ := Option.bind_eq_some_iff.mp h2
      obtain ⟨r, hr, h⟩ := Option.bind_eq_some_iff.mp h
      cases h
      obtain ⟨ns, ha⟩ := trArgs_ok ih hr
      rw [List.all_cons, Bool.and_eq_true] at ns
      exact e_meth PySem.F.plainAttrs_list PySem.F.slot_list_append PySem.F.type_list_append m_append (fun a b d => pre_lst a b d) h1.1.1 h1.1.2 ns.1 ns.2 h1.2 (ih _ _ ho) ha
    · cases h2
  split at h2
  · rename_i q
    subst q
    split at h2
    · obtain ⟨fo, ho, h⟩ := Option.bind_eq_some_iff.mp h2
      obtain ⟨r, hr, h⟩ := Option.bind_eq_some_iff.mp h
      cases h
      obtain ⟨ns, ha⟩ := trArgs_ok ih hr
      rw [List.all_cons, Bool.and_eq_true] at ns
      exact e_meth PySem.F.plainAttrs_list PySem.F.slot_list_extend PySem.F.type_list_extend m_extend (fun a b d => pre_lst a b d) h1.1.1 h1.1.2 ns.1 ns.2 h1.2 (ih _ _ ho) ha
    · cases h2
  · split at h2
    · rename_i q
      subst q
      split at h2
      · obtain ⟨fo, ho, h⟩ := Option.bind_eq_some_iff.mp h2
        obtain ⟨r, hr, h⟩ := Option.bind_eq_some_iff.mp h
        cases h
        obtain ⟨ns, ha⟩ := trArgs_ok ih hr
        rw [List.all_cons, Bool.and_eq_true] at ns
        exact e_meth PySem.F.plainAttrs_str PySem.F.slot_str_join PySem.F.type_str_join m_join (fun a b d => pre_str a b d) h1.1.1 h1.1.2 ns.1 ns.2 h1.2 (ih _ _ ho) ha
      · cases h2
    · split at h2
      · rename_i q
        subst q
        split at h2
        · obtain ⟨fo, ho, h⟩ := Option.bind_eq_some_iff.mp h2
          cases h
          exact e_upper h1.1.1 h1.1.2 (ih _ _ ho)
        · cases h2
      · cases h2
theorem trSrc_ok (W : World' B w K mg ad fd) (f : Fits P w K mg base k c X) {te : Expr → Option M} (ih : ∀ e f, te e = some f → EO X e f) {tg e : Expr} {m : MS} (h : trSrc B c te tg e = some m) : IO' X tg e m ∧ ∀ x, foldedSetIterable e X.env x = pure x := by
  have gen : ∀ {e : Expr} {m : MS}, ((te e).bind fun f => some (srcSeq f)) = some m → IO' X tg e m := fun {e m} q => by
    obtain ⟨g, hg, q⟩ := Option.bind_eq_some_iff.mp q
    cases q
    exact i_seq (ih _ _ hg)
  unfold trSrc at h
  split at h
  · obtain ⟨h1, h2⟩ := when_some h
    simp only [Bool.and_eq_true, decide_eq_true_eq] at h1
    obtain ⟨⟨⟨⟨⟨⟨rfl, rfl⟩, q2⟩, q3⟩, q4⟩, q5⟩, q6⟩ := h1
    obtain ⟨g, hg, h⟩ := Option.bind_eq_some_iff.mp h2
    obtain ⟨g2, hg2, h⟩ := Option.bind_eq_some_iff.mp h
    cases h
    cases tg <;> first | (cases q6; done) | skip
    exact ⟨i_zipS (gl_of f q2) (no_of W f q3) q4 q5 (ih _ _ hg) (ih _ _ hg2), fun _ => rfl⟩
  · split at h
    · rename_i q
      obtain ⟨rfl, q2, q3, q4, q5, q6⟩ := q
      obtain ⟨g, hg, h⟩ := Option.bind_eq_some_iff.mp h
      obtain ⟨g2, hg2, h⟩ := Option.bind_eq_some_iff.mp h
      obtain ⟨g3, hg3, h⟩ := Option.bind_eq_some_iff.mp h
      cases h
      exact ⟨i_range3 (gl_of f q2) (no_of W f q3) q4 q5 q6 (ih _ _ hg) (ih _ _ hg2) (ih _ _ hg3), fun _ => rfl⟩
    · exact ⟨gen h, fun _ => rfl⟩
  · split at h
    · rename_i q
      obtain ⟨rfl, q2, q3, q4⟩ := q
      obtain ⟨g, hg, h⟩ := Option.bind_eq_some_iff.mp h
      cases h
      exact ⟨i_range1 (gl_of f q2) (no_of W f q3) q4 (ih _ _ hg), fun _ => rfl⟩
    · exact ⟨gen h, fun _ => rfl⟩
  · split at h
    · rename_i q
      obtain ⟨rfl, q2, q3, q4, q5⟩ := q
      obtain ⟨g, hg, h⟩ := Option.bind_eq_some_iff.mp h
      obtain ⟨g2, hg2, h⟩ := Option.bind_eq_some_iff.mp h
      cases h
      exact ⟨i_range2 (gl_of f q2) (no_of W f q3) q4 q5 (ih _ _ hg) (ih _ _ hg2), fun _ => rfl⟩
    · exact ⟨gen h, fun _ => rfl⟩
  · cases h
  · rename_i hn3 hn4 hn1 hn2 hns
    refine ⟨gen h, fun x => ?_⟩
    unfold foldedSetIterable
    split
    · exact absurd rfl (hns _ _ _)
    · rfl
theorem trTgName_ok (f : Fits P w K mg base k c X) {e : Expr} {i : Nat} (h : trTgName c e = some i) : PG X e (gName i) ∧ noStar e = true := by
  unfold trTgName at h
  split at h
  · obtain ⟨h1, h2⟩ := when_some h
    obtain ⟨l1, l2⟩ := loc_of f h1
    exact ⟨pg_name f.nd (by rw [f.names]; exact slot_of h2) l1 l2, rfl⟩
  · cases h
theorem gname_weak {i : Nat} {e : Expr} (h : PG X e (gName i)) : GO X e (gVar i) := by
  refine PG.weak h ?_
  rintro v s H Q ⟨m, A, L, d, L', A', hr, lr, rv, e, post⟩
  cases e
  exact post.now hr (lr.set rv)
theorem trTgNames_ok (f : Fits P w K mg base k c X) : ∀ {es : List Expr} {l : List Nat}, trTgNames c es = some l → PGs X es (gsOf l) ∧ GLO X es (tlOf l) ∧ es.all noStar = true ∧ TLen (tlOf l) es.length ∧ TNames (tlOf l) es.length l
  | [], l, h => by cases h; exact ⟨pgs_nil, g_nil, rfl, .nil, .nil⟩
  | e :: es, l, h => by
    unfold trTgNames at h
    obtain ⟨i, hi, h⟩ := Option.bind_eq_some_iff.mp h
    obtain ⟨r, hr, h⟩ := Option.bind_eq_some_iff.mp h
    cases h
    obtain ⟨a1, a2⟩ := trTgName_ok f hi
    obtain ⟨b1, b2, b3, b4, b5⟩ := trTgNames_ok f hr
    exact ⟨pgs_cons a1 b1 (by rw [assign_cons a2] <;> rfl), g_cons a2 (gname_weak a1) b2, by rw [List.all_cons, a2, b3]; rfl, .cons b4, .cons b5⟩
theorem trStar_ok (f : Fits P w K mg base k c X) : ∀ {es : List Expr} {r : Nat × Nat × List Nat}, trStar c es = some r → GLO X es (tlOf r.2.2) ∧ (assignEach es X.env).length = r.1 + r.2.1 + 1 ∧ (assignEach es X.env).findIdx? (·.1) = some r.1
  | [], r, h => by cases h
  | e :: es, r, h => by
    unfold trStar at h
    split at h
    · cases ‹_ = _›
    · rename_i heq
      cases heq
      obtain ⟨i, hi, h⟩ := Option.bind_eq_some_iff.mp h
      obtain ⟨l, hl, h⟩ := Option.bind_eq_some_iff.mp h
      obtain ⟨hs, h⟩ := when_some h
      cases h
      obtain ⟨a1, a2⟩ := trTgName_ok f hi
      obtain ⟨b1, b2, b3, b4, b5⟩ := trTgNames_ok f hl
      obtain ⟨z1, z2⟩ := len_assign (env := X.env) hs
      refine ⟨g_consS a2 (gname_weak a1) b2, ?_, ?_⟩
      · show ((true, _) :: assignEach _ X.env).length = _
        rw [List.length_cons, z1]; simp
      · show ((true, _) :: assignEach _ X.env).findIdx? _ = _
        rw [List.findIdx?_cons]; rfl
    · rename_i heq
      cases heq
      obtain ⟨hs, h⟩ := when_some h
      obtain ⟨i, hi, h⟩ := Option.bind_eq_some_iff.mp h
      obtain ⟨q, hq, h⟩ := Option.bind_eq_some_iff.mp h
      cases h
      obtain ⟨a1, a2⟩ := trTgName_ok f hi
      obtain ⟨b1, b2, b3⟩ := trStar_ok f hq
      refine ⟨g_cons hs (gname_weak a1) b1, ?_, ?_⟩
      · rw [assign_cons hs, List.length_cons, b2]; simp; omega
      · rw [assign_cons hs, List.findIdx?_cons, b3]; rfl
theorem trTgC_ok {own : List Nat} {tg : Expr} {t : T} (h : trTgC c own tg = some t) : ∃ g, TgOk K own g t ∧ ∀ X, Fits P w K mg base k c X → PG X tg g := by
  cases tg with
  | Name x p =>
    unfold trTgC at h
    obtain ⟨i, hi, h⟩ := Option.bind_eq_some_iff.mp h
    obtain ⟨h1, h2⟩ := when_some h
    cases h2
    exact ⟨gName i, tg_var (by simpa using h1), fun X f => (trTgName_ok f hi).1⟩
  | Tuple es kk pp =>
    unfold trTgC at h
    obtain ⟨l, hl, h⟩ := Option.bind_eq_some_iff.mp h
    obtain ⟨h1, h2⟩ := when_some h
    cases h2
    by_cases hX : ∃ X, Fits P w K mg base k c X
    · obtain ⟨X, f⟩ := hX
      obtain ⟨_, _, _, _, b5⟩ := trTgNames_ok f hl
      refine ⟨gTup K es.length (gsOf l), tg_tup b5 (fun i hi => by simpa using List.all_eq_true.mp h1 i hi), fun X f => ?_⟩
      obtain ⟨b1, b2, b3, b4, b5⟩ := trTgNames_ok f hl
      obtain ⟨z1, z2⟩ := len_assign (env := X.env) b3
      rw [← f.frag]
      exact pg_tup f.calm b1 z1 z2
    · exact ⟨fun v s H Q => ∃ (m : List Addr) (A : Hpp) (L : Loc) (d : D) (L' : Loc) (A' : Hpp), HR K H m A ∧ LR K H m L s ∧ Rep K H m d v ∧ gTupT' (tlOf l) d L A = .ok L' A' ∧ (A' = A → ∀ s', LR K H m L' s' → wipe s' own = wipe s own → Q s' H),
        ⟨fun v s H m A L d L' A' Q hr lr rv e q => ⟨m, A, L, d, L', A', hr, lr, rv, e, q⟩⟩, fun X f => absurd ⟨X, f⟩ hX⟩
  | _ => simp [trTgC] at h
theorem trIfs_ok {te : Expr → Option M} (ih : ∀ e f, te e = some f → Good X e f) {es : List Expr} {m : MB} (h : trIfs te es = some m) : PTs X es (tT X.K m) := by
  unfold trIfs at h
  split at h
  · cases h; exact pts_yes
  · obtain ⟨f, hf, h⟩ := Option.bind_eq_some_iff.mp h
    cases h
    exact pts_if (ih _ _ hf).2
  · cases h
theorem t_if {a b t : Expr} {fa fb ft : M} {pos : Pos} (hc : TO' X t ft) (ha : TO' X a fa) (hb : TO' X b fb) : TO' X (.IfExp t a b pos) (mIf ft fa fb) := by
  refine ⟨fun pins s q H Q I h => ?_⟩
  obtain ⟨m, A, L, d, A', j, hr, lr, e, et, post⟩ := test_of h
  obtain ⟨b1, A1, e1, e2⟩ := R.bind_eq_ok e
  have un : PySem.isTrue (.IfExp t a b pos) X.env (eval (.IfExp t a b pos) X.env) = (do if ← PySem.isTrue t X.env (eval t X.env) then PySem.isTrue a X.env (eval a X.env) else PySem.isTrue b X.env (eval b X.env)) := by
    conv => lhs; unfold PySem.isTrue
  rw [un]
  refine wpAny_bind (thn (hc.run pins s q H (fun x H1 => x = b1 ∧ ∃ m1, m <+: m1 ∧ Keep H H1 ∧ HR X.K H1 m1 A1) I ⟨m, A, L, b1, A1, hr, lr, e1, fun m1 H1 p1 k1 hr1 => ⟨rfl, m1, p1, k1, hr1⟩⟩) fun x s1 ⟨H1, I1, hx, m1, p1, k1, hr1⟩ => ?_)
  subst hx
  cases x with
  | true =>
    refine ha.run pins s1 q H1 Q I1 ⟨m1, A1, L, j, A', hr1, lr.mono k1 p1, ?_, fun m2 H2 p2 k2 hr2 => post m2 H2 (p1.trans p2) (k1.trans k2) hr2⟩
    unfold mTest
    rw [show fa L _ = _ from e2]
    simp [et, R.ofO]
  | false =>
    refine hb.run pins s1 q H1 Q I1 ⟨m1, A1, L, j, A', hr1, lr.mono k1 p1, ?_, fun m2 H2 p2 k2 hr2 => post m2 H2 (p1.trans p2) (k1.trans k2) hr2⟩
    unfold mTest
    rw [show fb L _ = _ from e2]
    simp [et, R.ofO]
end
end Rf
namespace Rf
open PySem PySem.Spec PyProof.Rows L2
section
variable {B : Tb} {P : Program} {w : World} {K : PySem.W.Frag} {mg : Str → Option Value} {base : Heap} {k : Nat} {ad : Nat → Addr} {fd : Nat → FuncData} {F : FE}
/-- the parts of a comprehension -/
theorem lc_parts {n : Nat} {c : Cxt} {elt : Expr} {gens : List Comprehension} {scope : Scope} {p : Pos} {m : M} (h : trE B F (n + 1) c (.ListComp elt gens scope p) = some m) :
    ∃ (tg iter : Expr) (ifs : List Expr) (fs : MS) (t : T) (fc : MB) (fe : M), gens = [⟨tg, iter, ifs, 0⟩] ∧ blkC c.N c.sc scope (ownOf c.N scope) = true ∧ trSrc B c (trE B F n c) tg iter = some fs ∧
      trTgC (inBlk c scope) ((ownOf c.N scope).map (·.2)) tg = some t ∧ trIfs (trE B F n (inBlk c scope)) ifs = some fc ∧ trE B F n (inBlk c scope) elt = some fe ∧ m = mLc fs t fc fe ((ownOf c.N scope).map (·.2)) := by
  unfold trE at h
  simp only at h
  split at h
  · obtain ⟨h1, h2⟩ := when_some h
    obtain ⟨fs, hs, h⟩ := Option.bind_eq_some_iff.mp h2
    obtain ⟨t, ht, h⟩ := Option.bind_eq_some_iff.mp h
    obtain ⟨fc, hc, h⟩ := Option.bind_eq_some_iff.mp h
    obtain ⟨fe, he, h⟩ := Option.bind_eq_some_iff.mp h
    cases h
    exact ⟨_, _, _, fs, t, fc, fe, rfl, h1, hs, ht, hc, he, rfl⟩
  · cases h
theorem or_some {α : Type} {a b : Option α} {x : α} (h : orElse' a b = some x) : a = some x ∨ b = some x := by
  unfold orElse' at h
  split at h
  · rename_i y; exact .inl (by rw [← h])
  · exact .inr h
theorem trGIn_ok (W : World' B w K mg ad fd) {c : Cxt} {X : Cx} (f : Fits P w K mg base k c X) {te : Expr → Option M} (ih : ∀ e m, te e = some m → EO X e m) {op : CmpOp} {a b : Expr} {m : M} {p : Pos} (h : trGIn B c te op a b = some m) : Good X (.Compare a [op] [b] p) m := by
  unfold trGIn at h
  split at h
  · rename_i x pos'
    obtain ⟨h1, h2⟩ := when_some h
    rw [Bool.and_eq_true] at h1
    obtain ⟨q, hq, h⟩ := Option.bind_eq_some_iff.mp h2
    have e1 : q.1 = x := by simpa using List.find?_some hq
    obtain ⟨d, g1, g2⟩ := W.dicts q (List.mem_of_find?_eq_some hq)
    rw [e1] at g1
    have G : GDict X.K X.w d q.2 := by rw [f.frag, f.wld]; exact g2
    have gl := gl_of f h1.2
    have hm := g1
    rw [← f.mod] at hm
    have hd := (okName_of h1.1).1
    split at h
    · obtain ⟨fa, ha, h⟩ := Option.bind_eq_some_iff.mp h
      cases h
      exact ⟨e_gin G gl hm hd (ih _ _ ha), t_gin G gl hm hd (ih _ _ ha)⟩
    · obtain ⟨fa, ha, h⟩ := Option.bind_eq_some_iff.mp h
      cases h
      exact ⟨e_gnin G gl hm hd (ih _ _ ha), t_gnin G gl hm hd (ih _ _ ha)⟩
    · cases h
  · cases h
theorem trGIx_ok (W : World' B w K mg ad fd) {c : Cxt} {X : Cx} (f : Fits P w K mg base k c X) {te : Expr → Option M} (ih : ∀ e m, te e = some m → EO X e m) {a s : Expr} {m : M} {p : Pos} (h : trGIx B c te a s = some m) : EO X (.Subscript a s p) m := by
  unfold trGIx at h
  split at h
  · rename_i x pos'
    obtain ⟨h1, h2⟩ := when_some h
    rw [Bool.and_eq_true, Bool.and_eq_true] at h1
    obtain ⟨q, hq, h⟩ := Option.bind_eq_some_iff.mp h2
    have e1 : q.1 = x := by simpa using List.find?_some hq
    obtain ⟨d, g1, g2⟩ := W.dicts q (List.mem_of_find?_eq_some hq)
    rw [e1] at g1
    have G : GDict X.K X.w d q.2 := by rw [f.frag, f.wld]; exact g2
    obtain ⟨fa, ha, h⟩ := Option.bind_eq_some_iff.mp h
    cases h
    exact e_gix G (gl_of f h1.1.2) (by rw [f.mod]; exact g1) (okName_of h1.1.1).1 h1.2 (ih _ _ ha)
  · cases h
theorem trCallX_ok (W : World' B w K mg ad fd) (C : Calls B P w K mg base k ad fd F) {c : Cxt} {X : Cx} (f : Fits P w K mg base k c X) {te : Expr → Option M} (ih : ∀ e m, te e = some m → EO X e m) {x : Str} {args : List Expr} {kws : List Keyword} {m : M} {p pos : Pos} (h : trCallX B F c te x args kws = some m) : EO X (.Call (.Name x p) args kws pos) m := by
  unfold trCallX at h
  obtain ⟨h1, h2⟩ := when_some h
  rw [Bool.and_eq_true, Bool.and_eq_true, Bool.and_eq_true] at h1
  obtain ⟨i, hi, h⟩ := Option.bind_eq_some_iff.mp h2
  obtain ⟨r, hr, h⟩ := Option.bind_eq_some_iff.mp h
  cases h
  have hk : kws = [] := by simpa using h1.1.2
  subst hk
  cases args with
  | nil => exact absurd h1.2 (by simp)
  | cons e0 es =>
    obtain ⟨a1, a2⟩ := trArgs_ok ih hr
    obtain ⟨d1, d2, d3⟩ := okName_of h1.1.1.1
    refine e_callX f.room f.gd (by rw [f.names]; exact slot_of hi) (by rw [f.scope]; exact vis_of h1.1.1.2) d1 d2 (fun t ht => ?_) a1 a2
    unfold tabX at ht
    obtain ⟨q, hq, e⟩ := List.mem_filterMap.mp ht
    split at e
    · rename_i z
      rw [Bool.and_eq_true, Bool.and_eq_true, decide_eq_true_eq] at z
      cases hI : B.fns[q.i]? with
      | none => rw [hI] at e; cases e
      | some I =>
        rw [hI] at e
        cases e
        have fi := W.fn q.i I hI
        have bo := W.pat q hq I hI
        have ks : q.ks = [] := by simpa using z.2
        rw [z.1.2, ks] at bo
        have G := C q.i I hI
        refine ⟨ad q.i, fd q.i, I.ps, ?_, ?_, ?_, ?_⟩
        · rw [f.frag]; exact W.fnv q.i (by simpa using z.1.1) I hI
        · rw [f.prog, f.wld, f.frag, f.mod, f.bas]; exact G
        · rw [f.frag]; exact fi.2.1
        · rw [f.frag]; exact bo
    · cases e
theorem trE_ok (W : World' B w K mg ad fd) (C : Calls B P w K mg base k ad fd F) : ∀ (n : Nat) (c : Cxt) (e : Expr) (m : M), trE B F n c e = some m → ∀ X : Cx, Fits P w K mg base k c X → Good X e m := by
  intro n
  induction n with
  | zero => intro c e m h; cases h
  | succ n ih =>
    intro c e m h X f
    have ihE : ∀ e m, trE B F n c e = some m → EO X e m := fun e m q => (ih c e m q X f).1
    have ihG : ∀ e m, trE B F n c e = some m → Good X e m := fun e m q => ih c e m q X f
    cases e with
    | Constant v j p =>
      unfold trE at h
      cases v with
      | int i => cases h; exact good_val e_int fun _ => rfl
      | bool i => cases h; exact good_val e_bl fun _ => rfl
      | str i => cases h; exact good_val e_str fun _ => rfl
      | none => cases h; exact good_val e_non fun _ => rfl
      | _ => simp at h
    | Name x p => unfold trE at h; exact trName_ok W f h
    | BinOp a op b p =>
      unfold trE at h
      obtain ⟨g, hg, h⟩ := Option.bind_eq_some_iff.mp h
      obtain ⟨fa, ha, h⟩ := Option.bind_eq_some_iff.mp h
      obtain ⟨fb, hb, h⟩ := Option.bind_eq_some_iff.mp h
      cases h
      exact good_val (e_bin hg (ihE _ _ ha) (ihE _ _ hb)) fun _ => rfl
    | UnaryOp op a p =>
      unfold trE at h
      cases op with
      | Not =>
        obtain ⟨fa, ha, h⟩ := Option.bind_eq_some_iff.mp h
        cases h
        exact ⟨e_not (ihE _ _ ha), t_not (ihG _ _ ha).2⟩
      | USub =>
        obtain ⟨fa, ha, h⟩ := Option.bind_eq_some_iff.mp h
        cases h
        exact good_val (e_neg (ihE _ _ ha)) fun _ => rfl
      | _ => simp at h
    | BoolOp op vs p =>
      unfold trE at h
      obtain ⟨a, b⟩ := trBool_ok ihG (pos := p) h
      exact ⟨a, b.pt⟩
    | IfExp t a b p =>
      unfold trE at h
      obtain ⟨ft, ht, h⟩ := Option.bind_eq_some_iff.mp h
      obtain ⟨fa, ha, h⟩ := Option.bind_eq_some_iff.mp h
      obtain ⟨fb, hb, h⟩ := Option.bind_eq_some_iff.mp h
      cases h
      exact ⟨e_if (ihG _ _ ht).2 (ihE _ _ ha) (ihE _ _ hb), t_if (ihG _ _ ht).2 (ihG _ _ ha).2 (ihG _ _ hb).2⟩
    | Compare a ops cs p =>
      unfold trE at h
      simp only at h
      split at h
      · rcases or_some h with h | h
        · exact trGIn_ok W f ihE h
        obtain ⟨h1, h2⟩ := when_some h
        obtain ⟨g, hg, h⟩ := Option.bind_eq_some_iff.mp h2
        obtain ⟨fa, ha, h⟩ := Option.bind_eq_some_iff.mp h
        obtain ⟨fb, hb, h⟩ := Option.bind_eq_some_iff.mp h
        cases h
        have hm := not_of h1
        exact ⟨e_cmp (units66 f) hg (ihE _ _ ha) (ihE _ _ hb) hm, t_cmp (units66 f) hg (ihE _ _ ha) (ihE _ _ hb) hm⟩
      · obtain ⟨h1, h2⟩ := when_some h
        obtain ⟨g, hg, h⟩ := Option.bind_eq_some_iff.mp h2
        obtain ⟨g', hg', h⟩ := Option.bind_eq_some_iff.mp h
        obtain ⟨fa, ha, h⟩ := Option.bind_eq_some_iff.mp h
        obtain ⟨fb, hb, h⟩ := Option.bind_eq_some_iff.mp h
        obtain ⟨fc, hc, h⟩ := Option.bind_eq_some_iff.mp h
        cases h
        have hm := not_of h1
        exact ⟨e_chain (units66 f) hg hg' (ihE _ _ ha) (ihE _ _ hb) (ihE _ _ hc) hm, t_chain (units66 f) hg hg' (ihE _ _ ha) (ihE _ _ hb) (ihE _ _ hc) hm⟩
      · cases h
    | Tuple es j p =>
      unfold trE at h
      obtain ⟨r, hr, h⟩ := Option.bind_eq_some_iff.mp h
      cases h
      exact good_val (e_tup (trArgs_ok ihE hr).2) fun _ => rfl
    | List es p =>
      unfold trE at h
      obtain ⟨r, hr, h⟩ := Option.bind_eq_some_iff.mp h
      cases h
      exact good_val (e_lst (trArgs_ok ihE hr).2) fun _ => rfl
    | Dict ks vs p =>
      unfold trE at h
      obtain ⟨h1, h2⟩ := when_some h
      obtain ⟨r, hr, h⟩ := Option.bind_eq_some_iff.mp h2
      cases h
      rw [Bool.and_eq_true, Bool.and_eq_true, Bool.and_eq_true, decide_eq_true_eq, decide_eq_true_eq] at h1
      refine good_val (e_dict (trPairs_ok ihE hr) h1.1.1.1 h1.1.1.2 (fun z => ?_) h1.2) fun _ => rfl
      rw [z] at h1
      exact absurd h1.1.2 (by decide)
    | Subscript a s p =>
      unfold trE at h
      simp only at h
      split at h
      · obtain ⟨fa, ha, h⟩ := Option.bind_eq_some_iff.mp h
        cases h
        exact good_val (e_rev (ihE _ _ ha)) fun _ => rfl
      · obtain ⟨fa, ha, h⟩ := Option.bind_eq_some_iff.mp h
        obtain ⟨l, hl, h⟩ := Option.bind_eq_some_iff.mp h
        obtain ⟨u, hu, h⟩ := Option.bind_eq_some_iff.mp h
        cases h
        exact good_val (e_slice (ihE _ _ ha) (trPart_ok ihE hl) (trPart_ok ihE hu)) fun _ => rfl
      · rcases or_some h with h | h
        · exact good_val (trGIx_ok W f ihE h) fun _ => rfl
        obtain ⟨h1, h2⟩ := when_some h
        obtain ⟨fa, ha, h⟩ := Option.bind_eq_some_iff.mp h2
        obtain ⟨fb, hb, h⟩ := Option.bind_eq_some_iff.mp h
        cases h
        exact good_val (e_ix (units1 f) h1 (ihE _ _ ha) (ihE _ _ hb)) fun _ => rfl
    | Call fe args kws p =>
      cases fe with
      | Name x q =>
        unfold trE at h
        rcases or_some h with h | h
        · exact good_val (trCallX_ok W C f ihE h) fun _ => rfl
        exact good_val (trCall_ok W C f ihE h) fun _ => rfl
      | Attribute o name q =>
        unfold trE at h
        obtain ⟨h1, h2⟩ := when_some h
        have : kws = [] := by simpa using h1
        subst this
        exact good_val (trMeth_ok ihE h2) fun _ => rfl
      | _ => simp [trE] at h
    | ListComp elt gens scope p =>
      obtain ⟨tg, iter, ifs, fs, t, fc, fe, rfl, h1, hs, ht, hc, he, rfl⟩ := lc_parts h
      obtain ⟨s1, s2⟩ := trSrc_ok W f ihE (tg := tg) hs
      obtain ⟨g, g1, g2⟩ := trTgC_ok (P := P) (w := w) (K := K) (mg := mg) (base := base) (k := k) ht
      have blk : BlkOk X.N X.env.scope scope (ownOf c.N scope) := by rw [f.names, f.scope]; exact blkOk_by h1
      refine good_val (e_lc f.calm f.nd s1 blk (fun s H Cc cl fp => g2 _ (f.blk s H scope cl Cc fp blk.kind)) (by rw [f.frag]; exact g1) (fun s H Cc cl fp => ?_) (fun s H Cc cl fp => ?_) s2) fun _ => rfl
      · exact trIfs_ok (X := X.blk s H scope (compEnvC scope cl Cc X.env) fp) (fun e m q => ih (inBlk c scope) e m q _ (f.blk s H scope cl Cc fp blk.kind)) hc
      · exact (ih (inBlk c scope) elt fe he _ (f.blk s H scope cl Cc fp blk.kind)).1
    | _ => simp [trE] at h
theorem trTg_ok {c : Cxt} {X : Cx} (f : Fits P w K mg base k c X) {te : Expr → Option M} (ih : ∀ e m, te e = some m → EO X e m) {n : Nat} {tg : Expr} {t : T} (h : trTg te c n tg = some t) : GO X tg t := by
  cases n with
  | zero => cases h
  | succ n =>
    cases tg with
    | Name x p =>
      unfold trTg at h
      obtain ⟨i, hi, h⟩ := Option.bind_eq_some_iff.mp h
      cases h
      exact gname_weak (trTgName_ok f hi).1
    | Tuple es j p =>
      have h' : (if es.all noStar = true then (trTgNames c es).bind fun l => some (gTup' (tlOf l)) else (trStar c es).bind fun r => some (gStar' r.1 r.2.1 (tlOf r.2.2))) = some t := h
      clear h
      split at h'
      · rename_i h1
        obtain ⟨l, hl, h⟩ := Option.bind_eq_some_iff.mp h'
        cases h
        obtain ⟨b1, b2, b3, b4, b5⟩ := trTgNames_ok f hl
        exact g_tup f.calm h1 b4 b2
      · obtain ⟨r, hr, h⟩ := Option.bind_eq_some_iff.mp h'
        cases h
        obtain ⟨b1, b2, b3⟩ := trStar_ok f hr
        exact g_star f.calm b1 b2 b3
    | Subscript o i p =>
      unfold trTg at h
      obtain ⟨h1, h2⟩ := when_some h
      obtain ⟨fo, ho, h⟩ := Option.bind_eq_some_iff.mp h2
      obtain ⟨fi, hi, h⟩ := Option.bind_eq_some_iff.mp h
      cases h
      exact g_sub (units1 f) h1 (ih _ _ ho) (ih _ _ hi)
    | _ => simp [trTg] at h
theorem comp_none {e : Expr} {l : Nat} {env : Env} (h : notComp e = true) {o : Option Expr} : swapsWith e o l env = pure false := by
  cases e <;> first | rfl | cases h
theorem not_swapped {tg e : Expr} {env : Env} (h : (notTup e || notSeq tg) = true) : swappedStores [tg] e env = pure none := by
  unfold swappedStores
  cases tg <;> cases e <;> first | rfl | cases h
theorem p_aug {X : Cx} {op : Operator} {g : D → D → Hpp → R D} (h : augOf op = some g) : PIp X op (rB X.K g) := by
  cases op <;> simp only [augOf, Option.some.injEq, reduceCtorEq] at h <;> subst h
  · refine OpR.weak (X := X) iop_add ?_
    rintro x y H Q ⟨m, A, dx, dy, d, A', hr, rx, ry, e, post⟩
    unfold augAdd at e
    split at e
    · cases e
      simp only [Rep] at rx ry
      subst rx; subst ry
      exact ⟨_, _, rfl, rfl, post.now hr rfl⟩
    · cases e
  · refine OpR.weak (X := X) iop_mul ?_
    rintro x y H Q ⟨m, A, dx, dy, d, A', hr, rx, ry, e, post⟩
    unfold augMul at e
    split at e
    · split at e
      · cases e
        rename_i hc
        simp only [Rep] at rx ry
        subst rx; subst ry
        exact ⟨_, _, rfl, rfl, hc, post.now hr rfl⟩
      · cases e
    · cases e
theorem par_ok {c : Cxt} {X : Cx} (f : Fits P w K mg base k c X) {x y : Str} {px py pt pt2 : Pos} {kt k2 : Nat} {a b : Expr} (h : parOk c x y px py a b = true) :
    X.env.scope.names.lookup x = some .local ∧ X.env.scope.names.lookup y = some .local ∧ x ≠ y ∧ swappedStores [.Tuple [.Name x px, .Name y py] kt pt] (.Tuple [a, b] k2 pt2) X.env = pure (some [x, y]) := by
  unfold parOk at h
  simp only [Bool.and_eq_true, Bool.not_eq_true'] at h
  obtain ⟨⟨⟨⟨⟨⟨⟨⟨h1, h2⟩, h3⟩, h4⟩, h5⟩, h6⟩, h7⟩, h8⟩, h9⟩ := h
  have kf : c.sc.kind = .function := by
    split at h1
    · assumption
    · cases h1
  have lx : c.sc.names.lookup x = some .local := by
    split at h2
    · assumption
    · cases h2
  have ly : c.sc.names.lookup y = some .local := by
    split at h3
    · assumption
    · cases h3
  have hne : x ≠ y := by simpa using h5
  refine ⟨by rw [f.scope]; exact lx, by rw [f.scope]; exact ly, hne, ?_⟩
  have bk : X.env.blockKind = .function := by
    unfold Env.blockKind
    rw [f.scope, kf]
    rfl
  have kx : (X.env.kindOf x == some .local) = true := by unfold Env.kindOf; rw [f.scope, lx]; rfl
  have ky : (X.env.kindOf y == some .local) = true := by unfold Env.kindOf; rw [f.scope, ly]; rfl
  have hp : (Expr.Name x px).pos = px := rfl
  have dups : ([x, y] : List Str).eraseDups.length = 2 := by
    have : (y == x) = false := by simpa using fun z => hne z.symm
    simp [List.eraseDups, List.eraseDupsBy, List.eraseDupsBy.loop, this]
  have nm : ([Expr.Name x px, Expr.Name y py].filterMap fun
    | .Name id pos => if X.env.kindOf id == some .local && pos.line == px.line then some id else none
    | _ => none) = [x, y] := by
    simp only [List.filterMap_cons, List.filterMap_nil, kx, ky, h4, beq_self_eq_true, Bool.and_self, if_true]
  unfold swappedStores
  simp only [List.length_cons, List.length_nil, bk]
  rw [if_neg (by decide)]
  split
  · rename_i hany
    exfalso
    simp only [List.any_cons, List.any_nil, Bool.or_false, Bool.or_eq_true] at hany
    rcases hany with q | q
    · split at q
      · cases h6
      · cases q
    · split at q
      · cases h7
      · cases q
  · simp only [List.filterMap_cons, List.filterMap_nil, List.head?_cons, Option.map_some, Option.getD_some, hp, kx, ky, h4, beq_self_eq_true, Bool.and_self, if_true, List.length_cons, List.length_nil]
    rw [show ([x, y] : List Str).eraseDups.length = 2 from dups, h8, h9]
    rfl
theorem filt_lt {α β : Type} {f : α → Option β} : ∀ {l : List α}, (l.filterMap f).length ≤ l.length ∧ ((∃ a ∈ l, f a = none) → (l.filterMap f).length < l.length)
  | [] => ⟨Nat.le_refl _, fun ⟨a, h, _⟩ => by cases h⟩
  | a :: l => by
    obtain ⟨h1, h2⟩ := filt_lt (f := f) (l := l)
    cases e : f a with
    | none =>
      rw [List.filterMap_cons_none e]
      exact ⟨by simp; omega, fun _ => by simp; omega⟩
    | some b =>
      rw [List.filterMap_cons_some e]
      refine ⟨by simpa using h1, fun ⟨a', ha, hf⟩ => ?_⟩
      rcases List.mem_cons.mp ha with rfl | ha
      · rw [e] at hf; cases hf
      · simpa using h2 ⟨a', ha, hf⟩
theorem par_none {c : Cxt} {X : Cx} (f : Fits P w K mg base k c X) {tg e : Expr} (h : parNone c tg e = true) : swappedStores [tg] e X.env = pure none := by
  cases tg <;> first | (cases h; done) | skip
  cases e <;> first | (cases h; done) | skip
  rename_i ts kt pt vs k2 pt2
  have h' : (ts.any (notLoc c) || vs.all (foldedForSure 8)) = true := h
  unfold swappedStores
  dsimp only
  split
  · rfl
  split
  · rfl
  split
  · rfl
  rename_i hn
  split
  · rfl
  rename_i hv
  exfalso
  rw [Bool.or_eq_true] at h'
  rcases h' with h' | h'
  · apply hn
    rw [Bool.or_eq_true]
    refine .inl ?_
    obtain ⟨a, ha, hf⟩ := List.any_eq_true.mp h'
    have := (filt_lt (f := fun x => match x with
      | .Name id pos => if (X.env.kindOf id == some .local && pos.line == (ts.head?.map (·.pos.line)).getD 0) = true then some id else none
      | _ => none) (l := ts)).2 ⟨a, ha, by
        cases a <;> first | rfl | skip
        rename_i y py
        have hk : (X.env.kindOf y == some NameKind.local) = false := by
          unfold Env.kindOf
          rw [f.scope]
          simp only [notLoc] at hf
          split at hf
          · cases hf
          · rename_i q
            cases e : c.sc.names.lookup y with
            | none => rfl
            | some kk =>
              cases kk <;> first | rfl | (exact absurd e q)
        simp only [hk, Bool.false_and, Bool.false_eq_true, if_false]⟩
    simp only [bne_iff_ne, ne_eq]
    intro z
    exact (Nat.ne_of_lt this) z
  · exact hv h'
theorem not_swapped' {c : Cxt} {X : Cx} (f : Fits P w K mg base k c X) {tg e : Expr} (h : (notTup e || notSeq tg || parNone c tg e) = true) : swappedStores [tg] e X.env = pure none := by
  rw [Bool.or_eq_true] at h
  exact h.elim not_swapped (par_none f)
theorem swaps_not {c : Cxt} {X : Cx} (f : Fits P w K mg base k c X) {tg e : Expr} {p : Pos} (h : notLoc c tg = true) : swapsWithSole [tg] e p.line X.env = pure false := by
  show swapsWith e (some tg) p.line X.env = pure false
  cases e <;> first | rfl | skip
  all_goals
    cases tg <;> first | rfl | skip
    rename_i y py
    have hk : (X.env.kindOf y == some NameKind.local) = false := by
      unfold Env.kindOf
      rw [f.scope]
      simp only [notLoc] at h
      split at h
      · cases h
      · rename_i q
        cases e : c.sc.names.lookup y with
        | none => rfl
        | some kk =>
          cases kk <;> first | rfl | (exact absurd e q)
    unfold swapsWith
    dsimp only
    rw [hk, Bool.and_false, Bool.false_and, Bool.false_and]
theorem loc_is {c : Cxt} {x : Str} (h : (match c.sc.names.lookup x with | some .local => true | _ => false) = true) : c.sc.names.lookup x = some .local := by
  split at h
  · assumption
  · cases h
theorem par_ok3 {c : Cxt} {X : Cx} (f : Fits P w K mg base k c X) {x y z : Str} {px py pz pt pt2 : Pos} {kt k2 : Nat} {a b d : Expr} (h : parOk3 c x y z px py pz [a, b, d] = true) :
    X.env.scope.names.lookup x = some .local ∧ X.env.scope.names.lookup y = some .local ∧ X.env.scope.names.lookup z = some .local ∧ x ≠ y ∧ x ≠ z ∧ y ≠ z ∧ swappedStores [.Tuple [.Name x px, .Name y py, .Name z pz] kt pt] (.Tuple [a, b, d] k2 pt2) X.env = pure (some [x, y, z]) := by
  unfold parOk3 at h
  simp only [Bool.and_eq_true, Bool.not_eq_true'] at h
  obtain ⟨⟨⟨⟨⟨⟨⟨⟨⟨⟨⟨h1, h2⟩, h3⟩, h4⟩, h5⟩, h6⟩, h7⟩, h8⟩, h9⟩, h10⟩, h11⟩, h12⟩ := h
  have kf : c.sc.kind = .function := by
    split at h1
    · assumption
    · cases h1
  have lx := loc_is h2
  have ly := loc_is h3
  have lz := loc_is h4
  have n1 : x ≠ y := by simpa using h7
  have n2 : x ≠ z := by simpa using h8
  have n3 : y ≠ z := by simpa using h9
  refine ⟨by rw [f.scope]; exact lx, by rw [f.scope]; exact ly, by rw [f.scope]; exact lz, n1, n2, n3, ?_⟩
  have bk : X.env.blockKind = .function := by
    unfold Env.blockKind
    rw [f.scope, kf]
    rfl
  have kx : (X.env.kindOf x == some .local) = true := by unfold Env.kindOf; rw [f.scope, lx]; rfl
  have ky : (X.env.kindOf y == some .local) = true := by unfold Env.kindOf; rw [f.scope, ly]; rfl
  have kz : (X.env.kindOf z == some .local) = true := by unfold Env.kindOf; rw [f.scope, lz]; rfl
  have dups : ([x, y, z] : List Str).eraseDups.length = 3 := by
    have q1 : (y == x) = false := by simpa using fun w => n1 w.symm
    have q2 : (z == x) = false := by simpa using fun w => n2 w.symm
    have q3 : (z == y) = false := by simpa using fun w => n3 w.symm
    simp [List.eraseDups, List.eraseDupsBy, List.eraseDupsBy.loop, q1, q2, q3]
  have nm : ([Expr.Name x px, Expr.Name y py, Expr.Name z pz].filterMap fun
    | .Name id pos => if X.env.kindOf id == some .local && pos.line == px.line then some id else none
    | _ => none) = [x, y, z] := by
    simp only [List.filterMap_cons, List.filterMap_nil, kx, ky, kz, h5, h6, beq_self_eq_true, Bool.and_self, if_true]
  have hp : (Expr.Name x px).pos = px := rfl
  have stars : ∀ {e : Expr}, noStar e = true → (match e with | .Starred .. => true | _ => false) = false := fun {e} he => by
    cases e <;> first | rfl | cases he
  simp only [List.all_cons, List.all_nil, Bool.and_true, Bool.and_eq_true] at h10
  unfold swappedStores
  simp only [List.length_cons, List.length_nil, bk]
  rw [if_neg (by decide)]
  split
  · rename_i hany
    exfalso
    simp only [List.any_cons, List.any_nil, Bool.or_false, Bool.or_eq_true] at hany
    rcases hany with q | q | q
    · split at q
      · cases h10.1
      · cases q
    · split at q
      · cases h10.2.1
      · cases q
    · split at q
      · cases h10.2.2
      · cases q
  · simp only [List.filterMap_cons, List.filterMap_nil, List.head?_cons, Option.map_some, Option.getD_some, hp, kx, ky, kz, h5, h6, beq_self_eq_true, Bool.and_self, if_true, List.length_cons, List.length_nil]
    rw [show ([x, y, z] : List Str).eraseDups.length = 3 from dups, h11, h12]
    rfl
theorem trPar_ok {c : Cxt} {X : Cx} (f : Fits P w K mg base k c X) {te : Expr → Option M} (ih : ∀ e m, te e = some m → EO X e m) {tg e : Expr} {p : Pos} {s : S} (h : trPar te c tg e = some s) : SO X (.Assign [tg] e p) s := by
  unfold trPar at h
  split at h
  · obtain ⟨h1, h2⟩ := when_some h
    obtain ⟨i, hi, h3⟩ := Option.bind_eq_some_iff.mp h2
    obtain ⟨j, hj, h4⟩ := Option.bind_eq_some_iff.mp h3
    obtain ⟨r, hr, h5⟩ := Option.bind_eq_some_iff.mp h4
    cases h5
    obtain ⟨q1, q2, q3, q4⟩ := par_ok f h1
    have ei := slot_of hi
    have ej := slot_of hj
    exact s_par f.calm f.nd (by rw [f.names]; exact ei) (by rw [f.names]; exact ej) (fun z => q3 (by subst z; rw [ei] at ej; exact Option.some.inj ej)) q1 q2 (trArgs_ok ih hr).2 q4 rfl
  · obtain ⟨h1, h2⟩ := when_some h
    obtain ⟨i, hi, h3⟩ := Option.bind_eq_some_iff.mp h2
    obtain ⟨j, hj, h4⟩ := Option.bind_eq_some_iff.mp h3
    obtain ⟨l, hl, h5⟩ := Option.bind_eq_some_iff.mp h4
    obtain ⟨r, hr, h6⟩ := Option.bind_eq_some_iff.mp h5
    cases h6
    obtain ⟨q1, q2, q3, n1, n2, n3, q4⟩ := par_ok3 f h1
    have ei := slot_of hi
    have ej := slot_of hj
    have el := slot_of hl
    exact s_par3 f.calm f.nd (by rw [f.names]; exact ei) (by rw [f.names]; exact ej) (by rw [f.names]; exact el) (fun z => n1 (by subst z; rw [ei] at ej; exact Option.some.inj ej)) (fun z => n2 (by subst z; rw [ei] at el; exact Option.some.inj el)) (fun z => n3 (by subst z; rw [ej] at el; exact Option.some.inj el)) q1 q2 q3 (trArgs_ok ih hr).2 q4 rfl
  · cases h
theorem trS_ok (W : World' B w K mg ad fd) (C : Calls B P w K mg base k ad fd F) : ∀ (n : Nat), (∀ (c : Cxt) (st : Stmt) (m : S), trS B F n c st = some m → ∀ X : Cx, Fits P w K mg base k c X → SO X st m) ∧
    (∀ (c : Cxt) (l : List Stmt) (m : S), trSs B F n c l = some m → ∀ X : Cx, Fits P w K mg base k c X → SLO X l m) := by
  intro n
  induction n with
  | zero => exact ⟨fun c st m h => by simp [trS] at h, fun c l m h => by simp [trSs] at h⟩
  | succ n ih =>
    refine ⟨fun c st m h X f => ?_, fun c l m h X f => ?_⟩
    · have ihE : ∀ e m, trE B F n c e = some m → EO X e m := fun e m q => (trE_ok W C n c e m q X f).1
      have ihG : ∀ e m, trE B F n c e = some m → Good X e m := fun e m q => trE_ok W C n c e m q X f
      have ihL : ∀ l m, trSs B F n c l = some m → SLO X l m := fun l m q => ih.2 c l m q X f
      have po : PassesOwn (model X.prog X.w) X.A X.env X.xe := by rw [f.xe]; exact PassesOwn.never
      cases st with
      | Return v p =>
        unfold trS at h
        cases v with
        | none => cases h; exact s_retN
        | some e =>
          obtain ⟨fe, he, h⟩ := Option.bind_eq_some_iff.mp h
          cases h
          exact s_ret (ihE _ _ he)
      | Pass p => unfold trS at h; cases h; exact s_pass
      | Break p => unfold trS at h; cases h; exact s_break
      | Continue p => unfold trS at h; cases h; exact s_cont
      | Raise a b p => unfold trS at h; cases h; exact s_bad
      | If t a b p =>
        unfold trS at h
        obtain ⟨ft, ht, h⟩ := Option.bind_eq_some_iff.mp h
        obtain ⟨fa, ha, h⟩ := Option.bind_eq_some_iff.mp h
        obtain ⟨fb, hb, h⟩ := Option.bind_eq_some_iff.mp h
        cases h
        exact s_if (ihG _ _ ht).2 (ihL _ _ ha) (ihL _ _ hb)
      | Expr e p =>
        unfold trS at h
        obtain ⟨h1, h2⟩ := when_some h
        obtain ⟨fe, he, h⟩ := Option.bind_eq_some_iff.mp h2
        cases h
        exact s_drop (ihE _ _ he) (comp_none h1)
      | While t a els p =>
        unfold trS at h
        obtain ⟨h1, h2⟩ := when_some h
        have : els = [] := by simpa using h1
        subst this
        obtain ⟨ft, ht, h⟩ := Option.bind_eq_some_iff.mp h2
        obtain ⟨fa, ha, h⟩ := Option.bind_eq_some_iff.mp h
        cases h
        exact s_while po (ihG _ _ ht).2 (ihL _ _ ha)
      | For tg it a els p =>
        unfold trS at h
        obtain ⟨h1, h2⟩ := when_some h
        have : els = [] := by simpa using h1
        subst this
        obtain ⟨fs, hs, h⟩ := Option.bind_eq_some_iff.mp h2
        obtain ⟨t, ht, h⟩ := Option.bind_eq_some_iff.mp h
        obtain ⟨fa, ha, h⟩ := Option.bind_eq_some_iff.mp h
        cases h
        obtain ⟨s1, s2⟩ := trSrc_ok W f ihE (tg := tg) hs
        exact s_for po f.calm s1 (trTg_ok f ihE ht) (ihL _ _ ha) s2
      | AugAssign tg op e p =>
        cases tg with
        | Name x q =>
          unfold trS at h
          obtain ⟨g, hg, h⟩ := Option.bind_eq_some_iff.mp h
          obtain ⟨i, hi, h⟩ := Option.bind_eq_some_iff.mp h
          obtain ⟨fe, he, h⟩ := Option.bind_eq_some_iff.mp h
          cases h
          unfold trTgName at hi
          obtain ⟨h1, h2⟩ := when_some hi
          obtain ⟨l1, l2⟩ := loc_of f h1
          exact s_aug f.nd (by rw [f.names]; exact slot_of h2) l1 (ihE _ _ he) (p_aug hg) l2
        | _ => simp [trS] at h
      | Assign tgs e p =>
        unfold trS at h
        simp only at h
        split at h
        · rename_i tg
          unfold orElse' at h
          split at h
          · rename_i q
            cases h
            exact trPar_ok f ihE q
          · obtain ⟨h1, h2⟩ := when_some h
            rw [Bool.and_eq_true, Bool.and_eq_true] at h1
            have nsw := not_swapped' f h1.1.1
            obtain ⟨fe, he, h3⟩ := Option.bind_eq_some_iff.mp h2
            obtain ⟨t, ht, h4⟩ := Option.bind_eq_some_iff.mp h3
            cases h4
            by_cases hcomp : notComp e = true
            · exact s_asg h1.1.2 (ihE _ _ he) (trTg_ok f ihE ht) (comp_none hcomp) nsw
            · by_cases hnl : notLoc c tg = true
              · refine s_asg h1.1.2 (ihE _ _ he) (trTg_ok f ihE ht) ?_ nsw
                exact swaps_not f hnl
              by_cases hnm : isName tg = true
              · have hsw : swapsC c tg e = true := by
                  have := h1.2
                  rw [hnm] at this
                  have hc' : notComp e = false := by simpa using hcomp
                  have hl' : notLoc c tg = false := by simpa using hnl
                  rw [hc', hl'] at this
                  simpa using this
                cases e with
                | ListComp elt gens scope q =>
                  cases tg with
                  | Name y py =>
                    cases n with
                    | zero => simp [trE] at he
                    | succ n =>
                      obtain ⟨tg, iter, ifs, fs, t', fc, fe', rfl, h1, hs, ht', hc, he', rfl⟩ := lc_parts he
                      have ihE' : ∀ e m, trE B F n c e = some m → EO X e m := fun e m q => (trE_ok W C n c e m q X f).1
                      obtain ⟨s1, s2⟩ := trSrc_ok W f ihE' (tg := tg) hs
                      obtain ⟨g, g1, g2⟩ := trTgC_ok (P := P) (w := w) (K := K) (mg := mg) (base := base) (k := k) ht'
                      have blk : BlkOk X.N X.env.scope scope (ownOf c.N scope) := by rw [f.names, f.scope]; exact blkOk_by h1
                      unfold swapsC at hsw
                      simp only [Bool.and_eq_true, Bool.not_eq_true'] at hsw
                      have ly : X.env.scope.names.lookup y = some .local := by
                        rw [f.scope]
                        have z := hsw.1.1
                        split at z
                        · assumption
                        · cases z
                      unfold trTg at ht
                      obtain ⟨i, hi, ht⟩ := Option.bind_eq_some_iff.mp ht
                      cases ht
                      unfold trTgName at hi
                      obtain ⟨z1, z2⟩ := when_some hi
                      refine s_setLc f.calm f.nd (by rw [f.names]; exact slot_of z2) ly (sw_true ?_ ly hsw.1.2 hsw.2) s1 blk (fun s H Cc cl fp => g2 _ (f.blk s H scope cl Cc fp blk.kind)) (by rw [f.frag]; exact g1) (fun s H Cc cl fp => ?_) (fun s H Cc cl fp => ?_) s2
                      · exact f.kind
                      · exact trIfs_ok (X := X.blk s H scope (compEnvC scope cl Cc X.env) fp) (fun e m q => trE_ok W C n (inBlk c scope) e m q _ (f.blk s H scope cl Cc fp blk.kind)) hc
                      · exact (trE_ok W C n (inBlk c scope) elt fe' he' _ (f.blk s H scope cl Cc fp blk.kind)).1
                  | _ => exact absurd hnm (by simp [isName])
                | _ => first | (exact absurd rfl hcomp) | (simp [swapsC] at hsw)
              · refine s_asg h1.1.2 (ihE _ _ he) (trTg_ok f ihE ht) ?_ nsw
                show swapsWith e (some tg) p.line X.env = pure false
                cases e <;> first | rfl | (cases tg <;> first | rfl | (exact absurd rfl hnm))
        · cases h
      | _ => simp [trS] at h
    · cases l with
      | nil => unfold trSs at h; cases h; exact l_nil
      | cons s r =>
        unfold trSs at h
        obtain ⟨fs, hs, h⟩ := Option.bind_eq_some_iff.mp h
        obtain ⟨fr, hr, h⟩ := Option.bind_eq_some_iff.mp h
        cases h
        exact l_cons (ih.1 c s fs hs X f) (ih.2 c r fr hr X f)
end
end Rf
namespace Rf
open PySem PySem.Spec PyProof.Rows L2
/-- the program's small form agrees with the text -/
def Turned (B : Tb) (Pr : Nat → Option Fn) : Prop :=
  ∀ (i : Nat) (I : FnI), B.fns[i]? = some I → ∃ fn, Pr i = some fn ∧ fn.names = I.N.length ∧ fn.pars = I.ps.length ∧ I.ps.length ≤ I.N.length ∧ FnScope I.N I.ps I.scope ∧ ∃ fuel, ∀ F, trSs B F fuel ⟨I.N, I.scope, none⟩ I.body = some (fn.body F)
theorem fnG_all {B : Tb} {P : Program} {w : World} {K : PySem.W.Frag} {mg : Str → Option Value} {base : Heap} {ad : Nat → Addr} {fd : Nat → FuncData} {Pr : Nat → Option Fn} (W : World' B w K mg ad fd) (T : Turned B Pr) : ∀ k, Calls B P w K mg base k ad fd (FF Pr k) := by
  intro k
  induction k with
  | zero =>
    intro i I hI
    refine ⟨fun A outer s H args us vs Q _ _ _ _ _ _ h => ?_⟩
    obtain ⟨m, A, ds, d, A', _, _, e, _⟩ := h
    cases e
  | succ k ih =>
    intro i I hI
    obtain ⟨w1, w2, oc, od, dV, kV, doc, pm, an, cdv, ct, osl, e1, e2, e3⟩ := W.fn i I hI
    obtain ⟨fn, p1, p2, p3, p4, p5, fuel, p6⟩ := T i I hI
    have eF : FF Pr (k + 1) i = fun ds A => if ds.length = I.ps.length then enter fn.names (fn.body (FF Pr k)) ds A else .bad := by
      funext ds A
      show (match Pr i with | some f => if ds.length = f.pars then enter f.names (f.body (FF Pr k)) ds A else .bad | none => .bad) = _
      rw [p1]
      show (if ds.length = fn.pars then _ else _) = _
      rw [p3]
    rw [eF, e1]
    rw [e1] at e2
    refine fnG_of e2 e3 p5 p2 p4 fun A outer s H hr hg => ?_
    refine (trS_ok W ih fuel).2 ⟨I.N, I.scope, none⟩ I.body _ (p6 _) _ ?_
    exact ⟨rfl, rfl, rfl, rfl, rfl, rfl, rfl, fun _ _ => rfl, p5.nd, rfl, hg, hr, rfl, p5.kind⟩
/-- the law's call -/
theorem lawG_call {P : Program} {w : World} {K : PySem.W.Frag} {mg mb : Str → Option Value} {k : Nat} {fa a : Addr} {fd : FuncData} {x : Str} {Fi : List D → Hpp → R D} {s1 : Shared} {vs : List Value} {ns : List Int}
    (kin : K.In s1.heap) (hns : s1.heap.Ns mainGlobals mg) (hb : s1.heap.Ns builtinsNs mb) (hbb : ∀ x : Str, x ≠ "__name__" → mb x = bootBuiltins x) (nol : s1.heap.NoLimit) (hg : s1.gens = #[])
    (ha : s1.heap.get? a = some { cls := .type "list", data := .seq vs.toArray }) (hi : IntsAre vs ns) (hl : ns.length ≤ sizeLine) (hr : Room k callerA)
    (F : ∀ base : Heap, K.In base → base.Ns mainGlobals mg → FnG P w K mg base k fa fd [x] (spG K Fi)) (hbind : ∀ (s : Shared) (u : Value), BindsTo s fd ⟨[u], []⟩ [(x, u)])
    (fin : ∃ A', Fi [.ref 0] [.rd (ns.map D.int)] = .ok (.bl true) A') :
    codeAny (model P w) callerA (.call (.ref fa) ⟨[.ref a], []⟩) (fun r s' => r = .ok (.ret (.bool true)) ∧ OldK s1.heap s'.heap ∧ s'.os = s1.os ∧ AllBare s'.gens) s1 := by
  obtain ⟨Af, ef⟩ := fin
  have rv := vals_ints hi
  have lv := hi.length
  have rints : ∀ (H : Hp) (m : List Addr) (l : List Int), RepL K H m (l.map D.int) (l.map V.int) := fun H m l => by
    induction l with
    | nil => exact rfl
    | cons i l ih => exact ⟨_, _, rfl, rfl, ih⟩
  have main : ∀ H : Hp, (∀ b, H b = none ∨ ∃ o xs, H b = some (.frz o (.lst xs))) → RdAt K H a (ns.map V.int) → HOk P w H s1.heap → (∀ b, H b ≠ none → b = a) → (H a ≠ none → K.lookup a = none) →
      codeAny (model P w) callerA (.call (.ref fa) ⟨[.ref a], []⟩) (fun r s' => r = .ok (.ret (.bool true)) ∧ OldK s1.heap s'.heap ∧ s'.os = s1.os ∧ AllBare s'.gens) s1 := by
    intro H only rd hok single noK
    have under : ∀ {b : Addr} {o : Obj}, s1.heap.get? b = some o → H b = none → (hidT s1.heap H).get? b = some o := fun e n => hidT_get e n
    have dicts : ∀ {b : Addr} {o : Obj} {es : Array DictEntry} {ep : Nat}, s1.heap.get? b = some o → o.data = .dict es ep → H b = none := fun {b o es ep} e d => by
      refine Classical.byContradiction fun q => ?_
      have e' : b = a := single b q
      subst e'
      rw [ha] at e
      cases e
      have d' : Data.seq vs.toArray _ = Data.dict es ep := d
      cases d'
    have spaces : ∀ {b : Addr} {m : Str → Option Value}, s1.heap.Ns b m → (hidT s1.heap H).Ns b m := fun {b m} ⟨o, es, ep, e, d, r⟩ => ⟨o, es, ep, under e (dicts e d), d, r⟩
    have kb : K.In (hidT s1.heap H) := fun b o e => by
      refine under (kin b o e) (Classical.byContradiction fun q => ?_)
      have e' : b = a := single b q
      subst e'
      rw [noK q] at e
      cases e
    have md : Mod K mg (hidT s1.heap H) := by
      refine ⟨kb, spaces hns, ⟨mb, spaces hb, hbb⟩, ?_⟩
      obtain ⟨mc, h1, h2⟩ := nol
      exact ⟨mc, spaces h1, h2⟩
    have e0 : Env0 P w K mg (hidT s1.heap H) callerA [] s1 H :=
      ⟨rfl, md, fun b o e => of_hidT e, Nat.le_of_eq (hidT_size _ _), trivial, fun b hb => absurd (show b ∈ ([] : List Addr) from hb) (by simp), hok, .of_eq hg⟩
    have hR : HR K H [a] [.rd (ns.map D.int)] := by
      refine ⟨rfl, fun i j b o u e1 e2 f1 f2 m1 m2 => ?_, fun i b o e1 f1 => ?_⟩
      · have h1 := (List.getElem?_eq_some_iff.mp e1).1
        have h2 := (List.getElem?_eq_some_iff.mp e2).1
        simp at h1 h2
        omega
      · have h1 := (List.getElem?_eq_some_iff.mp e1).1
        simp at h1
        subst h1
        simp at e1 f1
        subst e1; subst f1
        exact ⟨_, rd, rints H _ ns⟩
    refine codeAny_mono ((F _ kb (spaces hns)).run callerA [] s1 H ⟨[.ref a], []⟩ [.ref a] [.ref a] (fun v _ => v = .bl true) hr rfl e0 (hbind s1 (.ref a)) (.cons rfl .nil) rfl
      ⟨[a], _, [.ref 0], .bl true, Af, hR, ⟨_, _, rfl, ⟨a, rfl, rfl⟩, rfl⟩, ef, fun m' v H' _ _ _ r => r⟩) fun r s' h => ?_
    obtain ⟨u, rfl, v, H', os, bare, un, hok', r', q⟩ := h
    have q' : v = .bl true := q
    subst q'
    have r'' : u = Value.bool true := r'
    subst r''
    refine ⟨rfl, OldK.of_keep fun b o e => ?_, os, bare⟩
    rcases only b with z | ⟨ob, xs, z⟩
    · exact un.keep b o e z (by intro y; exact absurd (show b ∈ ([] : List Addr) from y) (by simp)) (by simp)
    · have z2 := un.frzs b ob _ z
      obtain ⟨g1, _⟩ := hok b _ z
      obtain ⟨g2, _⟩ := hok' b _ z2
      rw [e] at g1
      cases g1
      exact g2
  cases hk : K.lookup a with
  | some o =>
    have e := kin a o hk
    rw [ha] at e
    cases e
    refine main (fun _ => none) (fun _ => .inl rfl) (.inr ⟨_, vs.toArray, _, hk, rfl, rfl, rfl, by rw [List.size_toArray, lv]; exact hl, by simpa using rv⟩) (fun b u z => ?_) (fun b z => absurd rfl z) fun z => absurd rfl z
    have z' : (none : Option HO) = some u := z
    cases z'
  | none =>
    refine main (fun b => if b = a then some (.frz { cls := .type "list", data := .seq vs.toArray } (.lst (ns.map V.int))) else none) (fun b => ?_) (.inl ⟨_, if_pos rfl⟩) (fun b u z => ?_) (fun b z => ?_) fun _ => hk
    · by_cases hb : b = a
      · exact .inr ⟨_, _, if_pos hb⟩
      · exact .inl (if_neg hb)
    · by_cases hb : b = a
      · have z' := (if_pos hb).symm.trans z
        cases z'
        subst hb
        exact ⟨ha, by rw [List.length_map]; exact hl, vs, _, rv, ha⟩
      · have z' := (if_neg hb).symm.trans z
        cases z'
    · refine Classical.byContradiction fun hb => z ?_
      exact if_neg hb
/-- the goal that k_head leaves -/
theorem walkG {l : PySem.W.OpenLaw} {n k : Nat} {q : Program} {loose : List Str} {XP : (Str → Option Value) → Heap → Prop} {YP : World → Heap → Prop} {d : DefRec} {K : Params → PySem.W.Frag} {x : Str}
    (hn : l.most = some n) (hn2 : n ≤ sizeLine) (hdf : d.params.defaults = []) (hr : Room k callerA)
    (hY : ∀ (w : World) (h : Heap), YP w h → (K w.params).In h)
    (F : ∀ (w : World) (mg : Str → Option Value) (fa : Addr) (h : Heap), (K w.params).In h → h.Ns mainGlobals mg → mg d.name = some (.ref fa) →
      ∃ (fd : FuncData) (Fi : List D → Hpp → R D), (∀ (s : Shared) (u : Value), BindsTo s fd ⟨[u], []⟩ [(x, u)]) ∧
        (∀ base : Heap, (K w.params).In base → base.Ns mainGlobals mg → FnG l.prog w (K w.params) mg base k fa fd [x] (spG (K w.params) Fi)) ∧
        ∀ ns : List Int, ns.length ≤ n → ∃ A', Fi [.ref 0] [.rd (ns.map D.int)] = .ok (.bl true) A') :
    PySem.W.WalkO q loose XP YP l.row.toRowW d [] (fun f vs => PySem.call f vs) := by
  refine Att.attach_call hn hdf fun w s0 s1 mg mb fa o pm cd doc a vs ns G Y ho hd hcd hmg hobj hints hlen hg => ?_
  have kin := hY w _ Y
  obtain ⟨fd, Fi, hb, hF, hE⟩ := F w mg fa _ kin G.T.g hmg
  exact lawG_call kin G.T.g G.T.b G.T.builtins G.T.nolimit hg hobj hints (Nat.le_trans hlen hn2) hr hF hb (hE ns hlen)
end Rf
namespace Rf
open PySem L2
/-! ### a second small form without a heap: lists and dicts are values; what is changed by several defs is an object -/
inductive Pv where
  | non | bl (b : Bool) | int (i : Int) | str (s : Str) | tup (l : List Pv) | lst (l : List Pv) | dct (ks : List Key) (vs : List Pv) | fn (x : Str) | obj (n : Nat)
  deriving Inhabited
inductive Ob where
  | lst (l : List Pv) | rd (l : List Pv) | dct (ks : List Key) (vs : List Pv)
  deriving Inhabited
abbrev PSt := List Ob
/-- what a name holds: a value, or a list or dict of its own that may be changed -/
inductive Sl where
  | val (v : Pv) | own (v : Pv)
  deriving Inhabited
abbrev PLoc := List (Option Sl)
inductive ZR (α : Type) where
  | ok (a : α) (s : PSt) | ex (c : Nat) (fs : List Pv) (s : PSt) | bad
  deriving Inhabited
def ZR.bind {α β : Type} : ZR α → (α → PSt → ZR β) → ZR β
  | .ok a s, f => f a s
  | .ex c fs s, _ => .ex c fs s
  | .bad, _ => .bad
@[simp] theorem ZR.bind_ok {α β : Type} (a : α) (s : PSt) (f : α → PSt → ZR β) : (ZR.ok a s).bind f = f a s := rfl
@[simp] theorem ZR.bind_bad {α β : Type} (f : α → PSt → ZR β) : (ZR.bad).bind f = .bad := rfl
@[simp] theorem ZR.bind_ex {α β : Type} (c : Nat) (fs : List Pv) (s : PSt) (f : α → PSt → ZR β) : (ZR.ex c fs s).bind f = .ex c fs s := rfl
def ZR.ofO {α : Type} (o : Option α) (s : PSt) : ZR α := match o with | some a => .ok a s | none => .bad
abbrev ZM := PLoc → PSt → ZR Pv
abbrev ZMB := PLoc → PSt → ZR Bool
abbrev ZML := PLoc → PSt → ZR (List Pv)
inductive ZO where
  | nx (L : PLoc) | rt (d : Pv) | bk (L : PLoc) | ct (L : PLoc)
abbrev ZS := PLoc → PSt → ZR ZO
abbrev ZF := List Pv → PSt → ZR Pv
abbrev ZFE := Nat → ZF
/-- a thing read, so deep at most -/
def Pv.snap : Nat → Pv → Option PyData
  | _, .non => some .none
  | _, .bl b => some (.bool b)
  | _, .int i => some (.int i)
  | _, .str s => some (.str s)
  | n + 1, .tup l => (optAll (l.map (Pv.snap n))).map .tuple
  | n + 1, .lst l => (optAll (l.map (Pv.snap n))).map .list
  | 0, .tup _ => none
  | 0, .lst _ => none
  | _, .dct _ _ => none
  | _, .fn _ => none
  | _, .obj _ => none
def pEqO (x y : Pv) : Option Bool :=
  match x, y with
  | .str a, .str b => some (decide (a = b))
  | .int a, .int b => some (decide (a = b))
  | .str _, .int _ => some false
  | .int _, .str _ => some false
  | .non, .str _ => some false
  | .str _, .non => some false
  | x, y => match x.snap deepest, y.snap deepest with
    | some d, some e => if SeqAt.shaped d && SeqAt.shaped e then some (PyData.eqv d e) else none
    | _, _ => none
def pTruth (d : Pv) (s : PSt) : Option Bool :=
  match d with
  | .non => some false
  | .bl b => some b
  | .int i => some (i != 0)
  | .str s => if s.length ≤ sizeLine then some ((s.length : Int) != 0) else none
  | .tup l => some (!l.isEmpty)
  | .lst l => some (!l.isEmpty)
  | .dct ks _ => some (!ks.isEmpty)
  | .fn _ => none
  | .obj _ => none
/-! operators -/
abbrev ZB := Pv → Pv → PSt → ZR Pv
def pAdd : ZB
  | .int i, .int j, s => .ok (.int (i + j)) s
  | .bl k, .int j, s => .ok (.int ((if k = true then 1 else 0) + j)) s
  | .str a, .str b, s => if a.length + b.length ≤ sizeLine then .ok (.str (a ++ b)) s else .bad
  | .tup a, .tup b, s => if a.length + b.length ≤ sizeLine then .ok (.tup (a ++ b)) s else .bad
  | .lst a, .lst b, s => if a.length + b.length ≤ sizeLine then .ok (.lst (a ++ b)) s else .bad
  | _, _, _ => .bad
def pSub : ZB
  | .int i, .int j, s => .ok (.int (i - j)) s
  | .bl k, .int j, s => .ok (.int ((if k = true then 1 else 0) - j)) s
  | _, _, _ => .bad
def pMul : ZB
  | .int i, .int j, s => if CMul i j ∨ CMulW i j then .ok (.int (i * j)) s else .bad
  | .tup a, .int k, s => if a ≠ [] ∧ 2 ≤ k ∧ k ≤ 1000 ∧ a.length ≤ 1000 then .ok (.tup (List.replicate k.toNat a).flatten) s else .bad
  | .lst a, .int k, s => if 0 ≤ k ∧ k ≤ 1000000 ∧ a.length * k.toNat ≤ sizeLine then .ok (.lst (List.replicate k.toNat a).flatten) s else .bad
  | .str a, .int k, s => if 2 ≤ k ∧ k ≤ 10000 ∧ a.length ≤ 100 ∧ 0 < a.length then .ok (.str (strRep a k.toNat)) s else .bad
  | _, _, _ => .bad
def pMod : ZB
  | .int i, .int j, s => if 0 < j then .ok (.int (i % j)) s else .bad
  | _, _, _ => .bad
def pFdiv : ZB
  | .int i, .int j, s => if CDivW i j then .ok (.int (i / j)) s else .bad
  | _, _, _ => .bad
def pPow : ZB
  | .int i, .int j, s => if CPow i j then .ok (.int (i ^ j.toNat)) s else .bad
  | _, _, _ => .bad
def pAugAdd : ZB | .int i, .int j, s => .ok (.int (i + j)) s | _, _, _ => .bad
def pAugMul : ZB | .int i, .int j, s => if CMul i j then .ok (.int (i * j)) s else .bad | _, _, _ => .bad
def pNeg (x : Pv) (s : PSt) : ZR Pv := match x with | .int i => .ok (.int (-i)) s | _ => .bad
def pEq : ZB := fun x y s => (ZR.ofO (pEqO x y) s).bind fun b s => .ok (.bl b) s
def pNe : ZB := fun x y s => (ZR.ofO (pEqO x y) s).bind fun b s => .ok (.bl (!b)) s
def pLt : ZB | .int i, .int j, s => .ok (.bl (decide (i < j))) s | .str a, .str b, s => .ok (.bl (decide (a.cps.toList < b.cps.toList))) s | _, _, _ => .bad
def pLe : ZB | .int i, .int j, s => .ok (.bl (decide (i ≤ j))) s | .str a, .str b, s => .ok (.bl (!decide (b.cps.toList < a.cps.toList))) s | _, _, _ => .bad
def pGt : ZB | .int i, .int j, s => .ok (.bl (decide (j < i))) s | _, _, _ => .bad
def pGe : ZB | .int i, .int j, s => .ok (.bl (decide (j ≤ i))) s | _, _, _ => .bad
def Pv.isNon : Pv → Bool | .non => true | _ => false
def pIs : ZB | x, .non, s => .ok (.bl x.isNon) s | .bl a, .bl b, s => .ok (.bl (decide (a = b))) s | _, _, _ => .bad
def pIsNot : ZB | x, .non, s => .ok (.bl (!x.isNon)) s | .bl a, .bl b, s => .ok (.bl (!decide (a = b))) s | _, _, _ => .bad
def pInS (x y : Pv) : Option Bool :=
  match x.snap deepest, y.snap deepest with
  | some d, some (.list ds) => if SeqAt.shaped d && SeqAt.shaped (.list ds) then some (ds.any fun z => PyData.eqv z d) else none
  | some d, some (.tuple ds) => if SeqAt.shaped d && SeqAt.shaped (.tuple ds) then some (ds.any fun z => PyData.eqv z d) else none
  | _, _ => none
def pInO (x y : Pv) : Option Bool :=
  match x, y with
  | .str s, .str z => inT s z
  | x, y => pInS x y
def pIn : ZB := fun x y s => (ZR.ofO (pInO x y) s).bind fun b s => .ok (.bl b) s
def pNotIn : ZB := fun x y s => (ZR.ofO (pInO x y) s).bind fun b s => .ok (.bl (!b)) s
def Pv.key : Pv → Option Key
  | .int i => some (.inl i)
  | .str s => some (.inr s)
  | _ => none
def pLook : List Key → List Pv → Key → Option Pv
  | k :: ks, v :: vs, q => if k = q then some v else pLook ks vs q
  | _, _, _ => none
/-- the pairs with one put in -/
def pPutV : List Key → List Pv → Key → Pv → List Pv
  | k :: ks, v :: vs, q, w => (if k = q then w else v) :: pPutV ks vs q w
  | _, _, _, _ => []
def pPut (ks : List Key) (vs : List Pv) (q : Key) (w : Pv) : List Key × List Pv :=
  if (ks.any fun k => decide (k = q)) = true then (ks, pPutV ks vs q w) else (ks ++ [q], vs ++ [w])
def pIx : ZB
  | .tup l, .int i, s => ZR.ofO (atI l i) s
  | .lst l, .int i, s => ZR.ofO (atI l i) s
  | .str z, .int i, s => if z.length ≤ sizeLine then ZR.ofO ((atI z.cps.toList i).map fun c => .str ⟨#[c]⟩) s else .bad
  | .dct ks vs, k, s => match k.key with
    | some k => ZR.ofO (pLook ks vs k) s
    | none => .bad
  | .obj n, k, s => match s[n]?, k with
    | some (.lst l), .int i => ZR.ofO (atI l i) s
    | some (.rd l), .int i => ZR.ofO (atI l i) s
    | some (.dct ks vs), k => match k.key with
      | some k => ZR.ofO (pLook ks vs k) s
      | none => .bad
    | _, _ => .bad
  | _, _, _ => .bad
def pSl (x : Pv) (lo hi : Option Int) (s : PSt) : ZR Pv :=
  match x with
  | .tup l => .ok (.tup (cutD l lo hi)) s
  | .lst l => .ok (.lst (cutD l lo hi)) s
  | .obj n => match s[n]? with
    | some (.lst l) => .ok (.lst (cutD l lo hi)) s
    | some (.rd l) => .ok (.lst (cutD l lo hi)) s
    | _ => .bad
  | .str z => if z.length ≤ sizeLine then .ok (.str (Txt.slice z lo hi)) s else .bad
  | _ => .bad
def pUpper (x : Pv) (s : PSt) : ZR Pv := match x with | .str z => if z.length ≤ 5592405 then .ok (.str (Txt.upper z)) s else .bad | _ => .bad
def pRev (x : Pv) (s : PSt) : ZR Pv := match x with | .tup l => .ok (.tup l.reverse) s | .lst l => .ok (.lst l.reverse) s | _ => .bad
def pIsi (T : Ty) (d : Pv) (s : PSt) : ZR Pv :=
  match d with
  | .non => .ok (.bl false) s
  | .bl _ => .ok (.bl (decide (T = .int ∨ T = .bool))) s
  | .int _ => .ok (.bl (decide (T = .int))) s
  | .str _ => .ok (.bl (decide (T = .str))) s
  | .tup _ => .ok (.bl (decide (T = .tuple))) s
  | .lst _ => .ok (.bl (decide (T = .list))) s
  | .dct _ _ => .ok (.bl false) s
  | _ => .bad
/-! built-ins -/
abbrev ZBI := List Pv → PSt → ZR Pv
def pLen : ZBI
  | [.tup l], s => .ok (.int l.length) s
  | [.lst l], s => .ok (.int l.length) s
  | [.str z], s => if z.length ≤ sizeLine then .ok (.int z.length) s else .bad
  | [.obj n], s => match s[n]? with
    | some (.lst l) => .ok (.int l.length) s
    | some (.rd l) => .ok (.int l.length) s
    | _ => .bad
  | _, _ => .bad
def pOrd : ZBI
  | [.str z], s => if z.length = 1 then .ok (.int (z.cps.getD 0 0 : Nat)) s else .bad
  | _, _ => .bad
def pRepr : ZBI
  | [d], s => match d.snap deepest with
    | some p => if p.showable = true ∧ p.shown.length ≤ sizeLine ∧ p.depth ≤ deepest then .ok (.str p.shown) s else .bad
    | none => .bad
  | _, _ => .bad
def pTuple : ZBI
  | [.tup l], s => .ok (.tup l) s
  | [.lst l], s => .ok (.tup l) s
  | _, _ => .bad
def pList : ZBI
  | [.tup l], s => .ok (.lst l) s
  | [.lst l], s => .ok (.lst l) s
  | [.obj n], s => match s[n]? with
    | some (.lst l) => .ok (.lst l) s
    | some (.rd l) => .ok (.lst l) s
    | _ => .bad
  | _, _ => .bad
def boolsP : List Pv → Option (List Bool)
  | [] => some []
  | .bl b :: r => (boolsP r).map (b :: ·)
  | _ => none
def pAll : ZBI
  | [.lst l], s => match boolsP l with | some bs => .ok (.bl (bs.all id)) s | none => .bad
  | _, _ => .bad
def pAny : ZBI
  | [.lst l], s => match boolsP l with | some bs => .ok (.bl (bs.any id)) s | none => .bad
  | _, _ => .bad
def intsP : List Pv → Option (List Int)
  | [] => some []
  | .int i :: r => (intsP r).map (i :: ·)
  | _ => none
def pSumK : List Pv → List Pv → PSt → ZR Pv
  | [.lst l], [.int 0], s => match intsP l with | some is => .ok (.int is.sum) s | none => .bad
  | _, _, _ => .bad
def pMin2 : ZBI
  | [.int i, .int j], s => .ok (.int (if j < i then j else i)) s
  | _, _ => .bad
def pMax2 : ZBI
  | [.int i, .int j], s => .ok (.int (if j > i then j else i)) s
  | _, _ => .bad
def pInt : ZBI
  | [.int i], s => .ok (.int i) s
  | [.bl k], s => .ok (.int (if k then 1 else 0)) s
  | _, _ => .bad
def pStr : ZBI
  | [.int i], s => if i.natAbs.log2 < 1920 then .ok (.str (toString i)) s else .bad
  | [.bl k], s => .ok (.str (if k = true then "True" else "False")) s
  | _, _ => .bad
def strsP : List Pv → Option (List Str)
  | [] => some []
  | .str s :: r => (strsP r).map (s :: ·)
  | _ => none
def pJoin : Pv → List Pv → PSt → ZR Pv
  | .str a, [.lst l], s => match strsP l with
    | some ys => if joinOk a ys then .ok (.str (Txt.join a ys)) s else .bad
    | none => .bad
  | .str a, [.tup l], s => match strsP l with
    | some ys => if joinOk a ys then .ok (.str (Txt.join a ys)) s else .bad
    | none => .bad
  | _, _, _ => .bad
/-! ### combinators -/
def pVar (i : Nat) : ZM := fun L s => match L[i]? with | some (some (.val v)) => .ok v s | _ => .bad
/-- a name that is only read -/
def pRd (i : Nat) : ZM := fun L s => match L[i]? with | some (some (.val v)) => .ok v s | some (some (.own v)) => .ok v s | _ => .bad
def pC (d : Pv) : ZM := fun _ s => .ok d s
def pUn (op : Pv → PSt → ZR Pv) (a : ZM) : ZM := fun L s => (a L s).bind op
def pBin (op : ZB) (a b : ZM) : ZM := fun L s => (a L s).bind fun x s1 => (b L s1).bind fun y s2 => op x y s2
def pTest (a : ZM) : ZMB := fun L s => (a L s).bind fun x s1 => ZR.ofO (pTruth x s1) s1
def pAnd (a b : ZM) : ZM := fun L s => (a L s).bind fun x s1 => (ZR.ofO (pTruth x s1) s1).bind fun k s2 => if k = true then b L s2 else .ok x s2
def pOr (a b : ZM) : ZM := fun L s => (a L s).bind fun x s1 => (ZR.ofO (pTruth x s1) s1).bind fun k s2 => if k = true then .ok x s2 else b L s2
def pNot (a : ZM) : ZM := fun L s => (pTest a L s).bind fun k s1 => .ok (.bl (!k)) s1
def pIf (c a b : ZM) : ZM := fun L s => (pTest c L s).bind fun k s1 => if k = true then a L s1 else b L s1
def pChain (op op' : ZB) (a b c : ZM) : ZM := fun L s => (a L s).bind fun x s1 => (b L s1).bind fun y s2 => (op x y s2).bind fun z s3 =>
  match z with
  | .bl true => (c L s3).bind fun w s4 => op' y w s4
  | .bl false => .ok (.bl false) s3
  | _ => .bad
def pNil : ZML := fun _ s => .ok [] s
def pCons (a : ZM) (r : ZML) : ZML := fun L s => (a L s).bind fun x s1 => (r L s1).bind fun xs s2 => .ok (x :: xs) s2
def pTup (r : ZML) : ZM := fun L s => (r L s).bind fun xs s1 => if xs.length ≤ sizeLine then .ok (.tup xs) s1 else .bad
def pLst (r : ZML) : ZM := fun L s => (r L s).bind fun xs s1 => if xs.length ≤ sizeLine then .ok (.lst xs) s1 else .bad
/-- a list that is an object -/
def pObj (r : ZML) : ZM := fun L s => (r L s).bind fun xs s1 => if xs.length ≤ sizeLine then .ok (.obj s1.length) (s1 ++ [.lst xs]) else .bad
def pB (op : ZBI) (r : ZML) : ZM := fun L s => (r L s).bind op
def pBK (op : List Pv → List Pv → PSt → ZR Pv) (r k : ZML) : ZM := fun L s => (r L s).bind fun xs s1 => (k L s1).bind fun ys s2 => op xs ys s2
def isStrP : Pv → Bool | .str _ => true | _ => false
def pMethS (op : Pv → List Pv → PSt → ZR Pv) (o : ZM) (r : ZML) : ZM := fun L s => (o L s).bind fun x s1 => if isStrP x = true then (r L s1).bind fun xs s2 => op x xs s2 else .bad
abbrev ZMO := PLoc → PSt → ZR (Option Int)
def qNone : ZMO := fun _ s => .ok none s
def qSome (a : ZM) : ZMO := fun L s => (a L s).bind fun x s1 => match x with | .int i => .ok (some i) s1 | _ => .bad
def pSlice (a : ZM) (lo hi : ZMO) : ZM := fun L s => (a L s).bind fun x s1 => (lo L s1).bind fun l s2 => (hi L s2).bind fun h s3 => pSl x l h s3
inductive ZG where
  | pos (j : Nat) | kw (j : Nat) | df (d : Pv)
def pPick (us ws : List Pv) : ZG → Option Pv
  | .pos j => us[j]?
  | .kw j => ws[j]?
  | .df d => some d
def pGather (gs : List ZG) (us ws : List Pv) : Option (List Pv) := optAll (gs.map (pPick us ws))
def pCallV (c : ZF) (n m : Nat) (gs : List ZG) (r k : ZML) : ZM := fun L s => (r L s).bind fun us s1 => (k L s1).bind fun ws s2 =>
  if us.length = n ∧ ws.length = m then match pGather gs us ws with
    | some vs => c vs s2
    | none => .bad
  else .bad
/-! targets, sources -/
abbrev ZT := Pv → PLoc → PSt → ZR PLoc
def qVar (i : Nat) : ZT := fun d L s => .ok (L.set i (some (.val d))) s
abbrev ZTL := List Pv → PLoc → PSt → ZR PLoc
def qNil : ZTL := fun ds L s => match ds with | [] => .ok L s | _ => .bad
def qCons (t : ZT) (u : ZTL) : ZTL := fun ds L s => match ds with | d :: r => (t d L s).bind fun L1 s1 => u r L1 s1 | [] => .bad
def ptlOf : List Nat → ZTL
  | [] => qNil
  | i :: l => qCons (qVar i) (ptlOf l)
def pSeqOf (d : Pv) (s : PSt) : Option (List Pv) := match d with
  | .tup l => some l
  | .lst l => some l
  | .obj n => match s[n]? with
    | some (.lst l) => some l
    | some (.rd l) => some l
    | _ => none
  | _ => none
def qTup (u : ZTL) : ZT := fun d L s => match pSeqOf d s with | some ds => u ds L s | none => .bad
def qTupT (u : ZTL) : ZT := fun d L s => match d with | .tup ds => u ds L s | _ => .bad
def qStar (a b : Nat) (u : ZTL) : ZT := fun d L s => match pSeqOf d s with
  | some ds => if a + b ≤ ds.length then u (ds.take a ++ [.lst ((ds.drop a).take (ds.length - a - b))] ++ ds.drop (ds.length - b)) L s else .bad
  | none => .bad
abbrev ZMS := PLoc → PSt → ZR (List Pv)
def qSeq (a : ZM) : ZMS := fun L s => (a L s).bind fun x s1 => match x with
  | .tup l => .ok l s1
  | .lst l => .ok l s1
  | .str z => .ok (z.cps.toList.map fun c => .str ⟨#[c]⟩) s1
  | _ => .bad
def rangeP (lo : Int) (n : Nat) : List Pv := (List.range n).map fun (i : Nat) => Pv.int (lo + (i : Int))
def qRange1 (a : ZM) : ZMS := fun L s => (a L s).bind fun x s1 => match x with
  | .int j => if okEnd j then .ok (rangeP 0 j.toNat) s1 else .bad
  | _ => .bad
def qRange2 (a b : ZM) : ZMS := fun L s => (a L s).bind fun x s1 => (b L s1).bind fun y s2 => match x, y with
  | .int i, .int j => if okEnd i ∧ okEnd j then .ok (rangeP i (j - i).toNat) s2 else .bad
  | _, _ => .bad
def rangePC (lo c : Int) (n : Nat) : List Pv := (List.range n).map fun (i : Nat) => Pv.int (lo + (i : Int) * c)
def qRange3 (a b c : ZM) : ZMS := fun L s => (a L s).bind fun x s1 => (b L s1).bind fun y s2 => (c L s2).bind fun z s3 => match x, y, z with
  | .int i, .int j, .int k => if RgC i j k (Builtin.Range.rangeSize i j k).toNat then .ok (rangePC i k (Builtin.Range.rangeSize i j k).toNat) s3 else .bad
  | _, _, _ => .bad
def zipP (xs ys : List Pv) : List Pv := (xs.zip ys).map fun p => .tup [p.1, p.2]
def pZipOp : Pv → Option (List Pv)
  | .tup l => some l
  | .lst l => some l
  | _ => none
def qZipS (a b : ZM) : ZMS := fun L s => (a L s).bind fun x s1 => (b L s1).bind fun y s2 => match pZipOp x, pZipOp y with
  | some xs, some ys => if xs.length = ys.length then .ok (zipP xs ys) s2 else .bad
  | _, _ => .bad
def rgP (tup : Bool) (i j : Int) (s : PSt) : ZR Pv := if RgOk i j then (if tup = true then .ok (.tup (rangeP i (j - i).toNat)) s else .ok (.lst (rangeP i (j - i).toNat)) s) else .bad
def pRg1 (tup : Bool) (a : ZM) : ZM := fun L s => (a L s).bind fun x s1 => match x with | .int j => rgP tup 0 j s1 | _ => .bad
def pRg2 (tup : Bool) (a b : ZM) : ZM := fun L s => (a L s).bind fun x s1 => (b L s1).bind fun y s2 => match x, y with | .int i, .int j => rgP tup i j s2 | _, _ => .bad
def pWipe (L : PLoc) : List Nat → PLoc
  | [] => L
  | v :: vs => (pWipe L vs).set v none
def plcLoop (t : ZT) (c : ZMB) (e : ZM) (L : PLoc) : List Pv → List Pv → PSt → ZR (List Pv)
  | [], acc, s => .ok acc s
  | d :: r, acc, s => (t d L s).bind fun L1 s1 => (c L1 s1).bind fun k s2 =>
      if k = true then (e L1 s2).bind fun x s3 => if acc.length < sizeLine then plcLoop t c e L r (acc ++ [x]) s3 else .bad
      else plcLoop t c e L r acc s2
def pLc (f : ZMS) (t : ZT) (c : ZMB) (e : ZM) (own : List Nat) : ZM := fun L s => (f L s).bind fun src s1 =>
  (plcLoop t c e (pWipe L own) src [] s1).bind fun l s2 => .ok (.lst l) s2
def pYes : ZMB := fun _ s => .ok true s
/-! statements -/
def tNil : ZS := fun L s => .ok (.nx L) s
def tSeq (a b : ZS) : ZS := fun L s => (a L s).bind fun o s1 => match o with
  | .nx L1 => b L1 s1
  | o => .ok o s1
def tRet (a : ZM) : ZS := fun L s => (a L s).bind fun d s1 => .ok (.rt d) s1
def tRetN : ZS := fun _ s => .ok (.rt .non) s
def tDrop (a : ZM) : ZS := fun L s => (a L s).bind fun _ s1 => .ok (.nx L) s1
def tAsg (a : ZM) (t : ZT) : ZS := fun L s => (a L s).bind fun d s1 => (t d L s1).bind fun L1 s2 => .ok (.nx L1) s2
/-- a new list or dict, of the name's own -/
def Pv.isLst : Pv → Bool | .lst _ => true | .dct _ _ => true | _ => false
def tOwn (a : ZM) (i : Nat) : ZS := fun L s => (a L s).bind fun d s1 => .ok (.nx (L.set i (some (if d.isLst = true then .own d else .val d)))) s1
/-- from now on it stays as it is -/
def tFreeze (i : Nat) : ZS := fun L s => match L[i]? with
  | some (some (.own v)) => .ok (.nx (L.set i (some (.val v)))) s
  | _ => .ok (.nx L) s
def tApp (i : Nat) (e : ZM) : ZS := fun L s => match L[i]? with
  | some (some (.own (.lst l))) => (e L s).bind fun v s1 => if l.length < sizeLine then .ok (.nx (L.set i (some (.own (.lst (l ++ [v])))))) s1 else .bad
  | _ => .bad
def tExt (i : Nat) (e : ZM) : ZS := fun L s => match L[i]? with
  | some (some (.own (.lst l))) => (e L s).bind fun v s1 => match v with
    | .lst r => if l.length + r.length ≤ sizeLine then .ok (.nx (L.set i (some (.own (.lst (l ++ r)))))) s1 else .bad
    | _ => .bad
  | _ => .bad
/-- x[i] = v of an own list or dict -/
def pSetV (x i v : Pv) : Option Pv := match x, i with
  | .lst l, .int k => (ixN l.length k).map fun j => .lst (l.set j v)
  | .dct ks vs, k => match k.key with
    | some k => if ks.length < sizeLine then some (.dct (pPut ks vs k v).1 (pPut ks vs k v).2) else none
    | none => none
  | _, _ => none
def tSetOwn (i : Nat) (a k : ZM) : ZS := fun L s => (a L s).bind fun v s1 => match L[i]? with
  | some (some (.own x)) => (k L s1).bind fun kv s2 => match pSetV x kv v with
    | some y => .ok (.nx (L.set i (some (.own y)))) s2
    | none => .bad
  | _ => .bad
def pSetO (o : Ob) (i v : Pv) : Option Ob := match o, i with
  | .lst l, .int k => (ixN l.length k).map fun j => .lst (l.set j v)
  | .dct ks vs, k => match k.key with
    | some k => if ks.length < sizeLine then some (.dct (pPut ks vs k v).1 (pPut ks vs k v).2) else none
    | none => none
  | _, _ => none
/-- o[i] = v of an object -/
def tSetObj (a o k : ZM) : ZS := fun L s => (a L s).bind fun v s1 => (o L s1).bind fun ov s2 => (k L s2).bind fun kv s3 => match ov with
  | .obj n => match s3[n]? with
    | some ob => match pSetO ob kv v with
      | some ob' => .ok (.nx L) (s3.set n ob')
      | none => .bad
    | none => .bad
  | _ => .bad
def tPar (i j : Nat) (r : ZML) : ZS := fun L s => (r L s).bind fun vs s1 => match vs with
  | [v, w] => .ok (.nx ((L.set i (some (.val v))).set j (some (.val w)))) s1
  | _ => .bad
def tPar3 (i j l : Nat) (r : ZML) : ZS := fun L s => (r L s).bind fun vs s1 => match vs with
  | [v, w, u] => .ok (.nx (((L.set i (some (.val v))).set j (some (.val w))).set l (some (.val u)))) s1
  | _ => .bad
def tIf (c : ZM) (a b : ZS) : ZS := fun L s => (pTest c L s).bind fun k s1 => if k = true then a L s1 else b L s1
def tBad : ZS := fun _ _ => .bad
def tBreak : ZS := fun L s => .ok (.bk L) s
def tCont : ZS := fun L s => .ok (.ct L) s
def pforLoop (t : ZT) (b : ZS) : List Pv → ZS
  | [], L, s => .ok (.nx L) s
  | d :: r, L, s => (t d L s).bind fun L1 s1 => (b L1 s1).bind fun o s2 => match o with
      | .nx L2 => pforLoop t b r L2 s2
      | .ct L2 => pforLoop t b r L2 s2
      | .bk L2 => .ok (.nx L2) s2
      | .rt v => .ok (.rt v) s2
def tFor (f : ZMS) (t : ZT) (b : ZS) : ZS := fun L s => (f L s).bind fun src s1 => pforLoop t b src L s1
def pwhileLoop (c : ZM) (b : ZS) : Nat → ZS
  | 0, _, _ => .bad
  | n + 1, L, s => (pTest c L s).bind fun k s1 => if k = true then (b L s1).bind fun o s2 => match o with
      | .nx L2 => pwhileLoop c b n L2 s2
      | .ct L2 => pwhileLoop c b n L2 s2
      | .bk L2 => .ok (.nx L2) s2
      | .rt v => .ok (.rt v) s2
    else .ok (.nx L) s1
def tWhile (c : ZM) (b : ZS) : ZS := pwhileLoop c b turnsMost
def tAug (op : ZB) (i : Nat) (a : ZM) : ZS := fun L s => (pVar i L s).bind fun x s1 => (a L s1).bind fun y s2 => (op x y s2).bind fun z s3 => .ok (.nx (L.set i (some (.val z)))) s3
/-! calls -/
def pEnter (k : Nat) (b : ZS) (args : List Pv) (s : PSt) : ZR Pv :=
  match b (args.map (fun v => some (.val v)) ++ List.replicate (k - args.length) none) s with
  | .ok (.nx _) s' => .ok .non s'
  | .ok (.rt d) s' => .ok d s'
  | .ok _ _ => .bad
  | .ex c fs s' => .ex c fs s'
  | .bad => .bad
def pRun (k p : Nat) (b : ZS) : ZF := fun args s => if args.length = p then pEnter k b args s else .bad
structure ZFn where
  names : Nat
  pars : Nat
  body : ZFE → ZS
def ZFF (P : Nat → Option ZFn) : Nat → ZFE
  | 0, _, _, _ => .bad
  | n + 1, i, args, s => match P i with
    | some f => pRun f.names f.pars (f.body (ZFF P n)) args s
    | none => .bad
end Rf
namespace Rf
open PySem L2
/-! a call of what a name holds; dicts of the module; {k: v, ..} -/
def pCallX (tab : List (Str × List ZG × ZF)) (n : Nat) (fe : ZM) (r : ZML) : ZM := fun L s => (fe L s).bind fun f s1 => (r L s1).bind fun us s2 => match f with
  | .fn x => match tab.find? (fun t => decide (t.1 = x)) with
    | some t => if us.length = n then (match pGather t.2.1 us [] with
      | some vs => t.2.2 vs s2
      | none => .bad) else .bad
    | none => .bad
  | _ => .bad
def pGIn (neg : Bool) (ks : List Str) (a : ZM) : ZM := fun L s => (a L s).bind fun x s1 => match x with
  | .str z => .ok (.bl (if neg = true then !decide (z ∈ ks) else decide (z ∈ ks))) s1
  | _ => .bad
def pGIx (kvs : List (Str × Pv)) (a : ZM) : ZM := fun L s => (a L s).bind fun x s1 => match x with
  | .str z => match kvs.find? (fun p => decide (p.1 = z)) with
    | some p => .ok p.2 s1
    | none => .bad
  | _ => .bad
def pPairs : List (ZM × ZM) → PLoc → PSt → ZR (List (Pv × Pv))
  | [], _, s => .ok [] s
  | kv :: r, L, s => (kv.1 L s).bind fun x s1 => (kv.2 L s1).bind fun y s2 => (pPairs r L s2).bind fun t s3 => .ok ((x, y) :: t) s3
def pKeys : List (Pv × Pv) → Option (List (Key × Pv))
  | [] => some []
  | kv :: r => match kv.1.key, pKeys r with
    | some k, some t => some ((k, kv.2) :: t)
    | _, _ => none
def pMerge (acc : List Key × List Pv) : List (Key × Pv) → List Key × List Pv
  | [] => acc
  | kv :: r => pMerge (pPut acc.1 acc.2 kv.1 kv.2) r
def pDict (ps : List (ZM × ZM)) : ZM := fun L s => (pPairs ps L s).bind fun kvs s1 => match pKeys kvs with
  | some l => if l.length ≤ 15 then .ok (.dct (pMerge ([], []) l).1 (pMerge ([], []) l).2) s1 else .bad
  | none => .bad
end Rf
namespace Rf
open PySem L2
abbrev Obs := List (Option Nat)
def Fzn (ob : Obs) (X : List Nat) (k : Nat) : Prop := some k ∉ ob ∧ k ∉ X
mutual
/-- a value as it lies in the small heap: its lists are nobody's -/
def See (ob : Obs) (X : List Nat) (A : Hpp) : Pv → D → Prop
  | .non, d => d = .non
  | .bl b, d => d = .bl b
  | .int i, d => d = .int i
  | .str z, d => d = .str z
  | .fn x, d => d = .fn x
  | .tup l, d => ∃ ds, d = .tup ds ∧ SeeL ob X A l ds
  | .lst l, d => ∃ k ds, d = .ref k ∧ Fzn ob X k ∧ A[k]? = some (.lst ds) ∧ SeeL ob X A l ds
  | .dct ks vs, d => ∃ k ds, d = .ref k ∧ Fzn ob X k ∧ A[k]? = some (.dct (ks.zip ds)) ∧ ks.length = ds.length ∧ SeeL ob X A vs ds
  | .obj n, d => ∃ k, ob[n]? = some (some k) ∧ d = .ref k
def SeeL (ob : Obs) (X : List Nat) (A : Hpp) : List Pv → List D → Prop
  | [], ds => ds = []
  | v :: l, ds => ∃ d r, ds = d :: r ∧ See ob X A v d ∧ SeeL ob X A l r
end
section
variable {ob ob' : Obs} {X X' : List Nat} {A A' : Hpp}
mutual
theorem See.to (live : ∀ (n k : Nat), ob[n]? = some (some k) → ob'[n]? = some (some k)) (h : ∀ (k : Nat) (u : HOb), A[k]? = some u → Fzn ob X k → Fzn ob' X' k ∧ A'[k]? = some u) : ∀ (v : Pv) (d : D), See ob X A v d → See ob' X' A' v d
  | .non, d, q => by simpa [See] using q
  | .bl _, d, q => by simpa [See] using q
  | .int _, d, q => by simpa [See] using q
  | .str _, d, q => by simpa [See] using q
  | .fn _, d, q => by simpa [See] using q
  | .tup l, d, q => by
    simp only [See] at q ⊢
    obtain ⟨ds, e, r⟩ := q
    exact ⟨ds, e, SeeL.to live h l ds r⟩
  | .lst l, d, q => by
    simp only [See] at q ⊢
    obtain ⟨k, ds, e, f, a, r⟩ := q
    obtain ⟨f', a'⟩ := h k _ a f
    exact ⟨k, ds, e, f', a', SeeL.to live h l ds r⟩
  | .dct ks l, d, q => by
    simp only [See] at q ⊢
    obtain ⟨k, ds, e, f, a, z, r⟩ := q
    obtain ⟨f', a'⟩ := h k _ a f
    exact ⟨k, ds, e, f', a', z, SeeL.to live h l ds r⟩
  | .obj n, d, q => by
    simp only [See] at q ⊢
    obtain ⟨k, a, e⟩ := q
    exact ⟨k, live n k a, e⟩
theorem SeeL.to (live : ∀ (n k : Nat), ob[n]? = some (some k) → ob'[n]? = some (some k)) (h : ∀ (k : Nat) (u : HOb), A[k]? = some u → Fzn ob X k → Fzn ob' X' k ∧ A'[k]? = some u) : ∀ (l : List Pv) (ds : List D), SeeL ob X A l ds → SeeL ob' X' A' l ds
  | [], ds, q => by simpa [SeeL] using q
  | v :: l, ds, q => by
    simp only [SeeL] at q ⊢
    obtain ⟨d, r, e, a, b⟩ := q
    exact ⟨d, r, e, See.to live h v d a, SeeL.to live h l r b⟩
end
theorem SeeL.length : ∀ {l : List Pv} {ds : List D}, SeeL ob X A l ds → ds.length = l.length
  | [], ds, h => by simp only [SeeL] at h; subst h; rfl
  | v :: l, ds, h => by
    simp only [SeeL] at h
    obtain ⟨d, r, rfl, a, b⟩ := h
    simp [SeeL.length b]
theorem SeeL.append : ∀ {l m : List Pv} {ds es : List D}, SeeL ob X A l ds → SeeL ob X A m es → SeeL ob X A (l ++ m) (ds ++ es)
  | [], m, ds, es, h, g => by simp only [SeeL] at h; subst h; exact g
  | v :: l, m, ds, es, h, g => by
    simp only [SeeL] at h
    obtain ⟨d, r, rfl, a, b⟩ := h
    exact ⟨d, r ++ es, rfl, a, SeeL.append b g⟩
theorem SeeL.one {v : Pv} {d : D} (h : See ob X A v d) : SeeL ob X A [v] [d] := ⟨d, [], rfl, h, rfl⟩
theorem SeeL.get : ∀ {l : List Pv} {ds : List D}, SeeL ob X A l ds → ∀ {i : Nat} {v : Pv}, l[i]? = some v → ∃ d, ds[i]? = some d ∧ See ob X A v d
  | [], ds, h, i, v, e => by simp at e
  | c :: l, ds, h, i, v, e => by
    simp only [SeeL] at h
    obtain ⟨d, r, rfl, a, b⟩ := h
    cases i with
    | zero => simp at e; subst e; exact ⟨d, rfl, a⟩
    | succ j => simpa using SeeL.get b (by simpa using e)
theorem SeeL.of_get : ∀ {l : List Pv} {ds : List D}, ds.length = l.length → (∀ (i : Nat) (v : Pv) (d : D), l[i]? = some v → ds[i]? = some d → See ob X A v d) → SeeL ob X A l ds
  | [], [], _, _ => rfl
  | [], _ :: _, h, _ => by simp at h
  | _ :: _, [], h, _ => by simp at h
  | v :: l, d :: ds, h, g => ⟨d, ds, rfl, g 0 v d rfl rfl, SeeL.of_get (by simpa using h) fun i v d a b => g (i + 1) v d (by simpa using a) (by simpa using b)⟩
theorem SeeL.take (n : Nat) {l : List Pv} {ds : List D} (h : SeeL ob X A l ds) : SeeL ob X A (l.take n) (ds.take n) := by
  refine .of_get (by simp [h.length]) fun i v d a b => ?_
  rw [List.getElem?_take] at a b
  split at a
  · rename_i q
    rw [if_pos q] at b
    obtain ⟨d', e1, e2⟩ := h.get a
    rw [e1] at b; cases b; exact e2
  · cases a
theorem SeeL.drop (n : Nat) {l : List Pv} {ds : List D} (h : SeeL ob X A l ds) : SeeL ob X A (l.drop n) (ds.drop n) := by
  refine .of_get (by simp [h.length]) fun i v d a b => ?_
  rw [List.getElem?_drop] at a b
  obtain ⟨d', e1, e2⟩ := h.get a
  rw [e1] at b; cases b; exact e2
theorem SeeL.rev : ∀ {l : List Pv} {ds : List D}, SeeL ob X A l ds → SeeL ob X A l.reverse ds.reverse
  | [], ds, h => by simp only [SeeL] at h; subst h; exact rfl
  | v :: l, ds, h => by
    simp only [SeeL] at h
    obtain ⟨d, r, rfl, a, b⟩ := h
    rw [List.reverse_cons, List.reverse_cons]
    exact SeeL.append (SeeL.rev b) (SeeL.one a)
theorem SeeL.set {l : List Pv} {ds : List D} (h : SeeL ob X A l ds) (j : Nat) {v : Pv} {d : D} (r : See ob X A v d) : SeeL ob X A (l.set j v) (ds.set j d) := by
  refine .of_get (by simp [h.length]) fun i v' d' a b => ?_
  by_cases hi : i = j
  · subst hi
    have hl : i < l.length := by have := (List.getElem?_eq_some_iff.mp a).1; simpa using this
    rw [List.getElem?_set_self hl] at a
    rw [List.getElem?_set_self (by rw [h.length]; exact hl)] at b
    cases a; cases b; exact r
  · rw [List.getElem?_set_ne (Ne.symm hi)] at a b
    obtain ⟨d'', e1, e2⟩ := h.get a
    rw [e1] at b; cases b; exact e2
theorem SeeL.flat {l : List Pv} {ds : List D} (h : SeeL ob X A l ds) : ∀ k : Nat, SeeL ob X A (List.replicate k l).flatten (List.replicate k ds).flatten
  | 0 => rfl
  | k + 1 => by
    rw [List.replicate_succ, List.replicate_succ, List.flatten_cons, List.flatten_cons]
    exact SeeL.append h (SeeL.flat h k)
theorem SeeL.cut {l : List Pv} {ds : List D} (h : SeeL ob X A l ds) (lo hi : Option Int) : SeeL ob X A (cutD l lo hi) (cutD ds lo hi) := by
  unfold cutD
  rw [h.length]
  exact (h.drop _).take _
mutual
theorem See.low (hob : ∀ (n k : Nat), ob[n]? = some (some k) → k < A.length) : ∀ (v : Pv) (d : D), See ob X A v d → d.low A.length = true
  | .non, d, q => by simp only [See] at q; subst q; rfl
  | .bl _, d, q => by simp only [See] at q; subst q; rfl
  | .int _, d, q => by simp only [See] at q; subst q; rfl
  | .str _, d, q => by simp only [See] at q; subst q; rfl
  | .fn _, d, q => by simp only [See] at q; subst q; rfl
  | .tup l, d, q => by
    simp only [See] at q
    obtain ⟨ds, rfl, r⟩ := q
    simp only [D.low]
    exact SeeL.low hob l ds r
  | .lst l, d, q => by
    simp only [See] at q
    obtain ⟨k, ds, rfl, f, a, r⟩ := q
    simp only [D.low, decide_eq_true_eq]
    exact (List.getElem?_eq_some_iff.mp a).1
  | .dct ks l, d, q => by
    simp only [See] at q
    obtain ⟨k, ds, rfl, f, a, z, r⟩ := q
    simp only [D.low, decide_eq_true_eq]
    exact (List.getElem?_eq_some_iff.mp a).1
  | .obj n, d, q => by
    simp only [See] at q
    obtain ⟨k, a, rfl⟩ := q
    simp only [D.low, decide_eq_true_eq]
    exact hob n k a
theorem SeeL.low (hob : ∀ (n k : Nat), ob[n]? = some (some k) → k < A.length) : ∀ (l : List Pv) (ds : List D), SeeL ob X A l ds → D.lowL A.length ds = true
  | [], ds, q => by simp only [SeeL] at q; subst q; rfl
  | v :: l, ds, q => by
    simp only [SeeL] at q
    obtain ⟨d, r, rfl, a, b⟩ := q
    simp only [D.lowL, Bool.and_eq_true]
    exact ⟨See.low hob v d a, SeeL.low hob l r b⟩
end
end
/-- what an own list or dict holds -/
def OwnS (ob : Obs) (X : List Nat) (A : Hpp) (v : Pv) (j : Nat) : Prop := match v with
  | .lst l => ∃ ds, A[j]? = some (.lst ds) ∧ SeeL ob X A l ds
  | .dct ks vs => ∃ ds, A[j]? = some (.dct (ks.zip ds)) ∧ ks.length = ds.length ∧ SeeL ob X A vs ds
  | _ => False
theorem OwnS.to {ob ob' : Obs} {X X' : List Nat} {A A' : Hpp} {v : Pv} {j : Nat} (live : ∀ (n k : Nat), ob[n]? = some (some k) → ob'[n]? = some (some k)) (h : ∀ (k : Nat) (u : HOb), A[k]? = some u → Fzn ob X k → Fzn ob' X' k ∧ A'[k]? = some u) (hj : A'[j]? = A[j]?) (o : OwnS ob X A v j) : OwnS ob' X' A' v j := by
  cases v with
  | lst l => obtain ⟨ds, a, b⟩ := o; exact ⟨ds, hj.trans a, SeeL.to live h _ _ b⟩
  | dct ks l => obtain ⟨ds, a, z, b⟩ := o; exact ⟨ds, hj.trans a, z, SeeL.to live h _ _ b⟩
  | _ => exact o.elim
theorem OwnS.lt {ob : Obs} {X : List Nat} {A : Hpp} {v : Pv} {j : Nat} (o : OwnS ob X A v j) : j < A.length := by
  cases v with
  | lst l => obtain ⟨ds, a, b⟩ := o; exact (List.getElem?_eq_some_iff.mp a).1
  | dct ks l => obtain ⟨ds, a, b⟩ := o; exact (List.getElem?_eq_some_iff.mp a).1
  | _ => exact o.elim
theorem OwnS.see {ob : Obs} {X : List Nat} {A : Hpp} {v : Pv} {j : Nat} (o : OwnS ob X A v j) (f : Fzn ob X j) : See ob X A v (.ref j) := by
  cases v with
  | lst l => obtain ⟨ds, a, b⟩ := o; simp only [See]; exact ⟨j, ds, rfl, f, a, b⟩
  | dct ks l => obtain ⟨ds, a, z, b⟩ := o; simp only [See]; exact ⟨j, ds, rfl, f, a, z, b⟩
  | _ => exact o.elim
def ObS (ob : Obs) (X : List Nat) (A : Hpp) : Ob → HOb → Prop
  | .lst l, u => ∃ ds, u = .lst ds ∧ SeeL ob X A l ds
  | .rd l, u => ∃ ds, u = .rd ds ∧ SeeL ob X A l ds
  | .dct ks vs, u => ∃ ds, u = .dct (ks.zip ds) ∧ ks.length = ds.length ∧ SeeL ob X A vs ds
theorem ObS.to {ob ob' : Obs} {X X' : List Nat} {A A' : Hpp} {o : Ob} {u : HOb} (live : ∀ (n k : Nat), ob[n]? = some (some k) → ob'[n]? = some (some k)) (h : ∀ (k : Nat) (u : HOb), A[k]? = some u → Fzn ob X k → Fzn ob' X' k ∧ A'[k]? = some u) (q : ObS ob X A o u) : ObS ob' X' A' o u := by
  cases o with
  | lst l => obtain ⟨ds, a, b⟩ := q; exact ⟨ds, a, SeeL.to live h _ _ b⟩
  | rd l => obtain ⟨ds, a, b⟩ := q; exact ⟨ds, a, SeeL.to live h _ _ b⟩
  | dct ks l => obtain ⟨ds, a, z, b⟩ := q; exact ⟨ds, a, z, SeeL.to live h _ _ b⟩
def Clo (A : Hpp) : Prop := ∀ (k : Nat) (o : HOb), A[k]? = some o → o.low A.length = true
structure WR (ob : Obs) (X : List Nat) (A : Hpp) (s : PSt) : Prop where
  cl : Clo A
  len : s.length = ob.length
  inj : ∀ (n m k : Nat), ob[n]? = some (some k) → ob[m]? = some (some k) → n = m
  at_ : ∀ (n k : Nat), ob[n]? = some (some k) → ∃ o u, s[n]? = some o ∧ A[k]? = some u ∧ ObS ob X A o u
  xx : ∀ k ∈ X, some k ∉ ob ∧ k < A.length
theorem WR.lt {ob : Obs} {X : List Nat} {A : Hpp} {s : PSt} (w : WR ob X A s) : ∀ (n k : Nat), ob[n]? = some (some k) → k < A.length := fun n k h => by
  obtain ⟨o, u, _, a, _⟩ := w.at_ n k h
  exact (List.getElem?_eq_some_iff.mp a).1
theorem WR.mem_lt {ob : Obs} {X : List Nat} {A : Hpp} {s : PSt} (w : WR ob X A s) {k : Nat} (h : some k ∈ ob) : k < A.length := by
  obtain ⟨n, hn⟩ := List.getElem?_of_mem h
  exact w.lt n k hn
/-- what has happened below b: nothing but to objects -/
structure Go (b : Nat) (ob : Obs) (A : Hpp) (ob' : Obs) (A' : Hpp) : Prop where
  live : ∀ (n k : Nat), ob[n]? = some (some k) → ob'[n]? = some (some k)
  keep : ∀ (k : Nat), k < b → some k ∉ ob → some k ∉ ob' ∧ A'[k]? = A[k]?
  len : A.length ≤ A'.length
theorem Go.refl (b : Nat) (ob : Obs) (A : Hpp) : Go b ob A ob A := ⟨fun _ _ h => h, fun _ _ h => ⟨h, rfl⟩, Nat.le_refl _⟩
theorem Go.trans {b : Nat} {ob ob1 ob2 : Obs} {A A1 A2 : Hpp} (g : Go b ob A ob1 A1) (h : Go b ob1 A1 ob2 A2) : Go b ob A ob2 A2 :=
  ⟨fun n k q => h.live n k (g.live n k q), fun k hk q => by
    obtain ⟨a, e⟩ := g.keep k hk q
    obtain ⟨a', e'⟩ := h.keep k hk a
    exact ⟨a', e'.trans e⟩, Nat.le_trans g.len h.len⟩
theorem Go.mono {b b' : Nat} {ob ob1 : Obs} {A A1 : Hpp} (g : Go b ob A ob1 A1) (h : b' ≤ b) : Go b' ob A ob1 A1 := ⟨g.live, fun k hk => g.keep k (Nat.lt_of_lt_of_le hk h), g.len⟩
theorem Go.fz {ob ob' : Obs} {A A' : Hpp} {X X' : List Nat} (g : Go A.length ob A ob' A') (hx : ∀ k ∈ X', k ∈ X ∨ A.length ≤ k) : ∀ (k : Nat) (u : HOb), A[k]? = some u → Fzn ob X k → Fzn ob' X' k ∧ A'[k]? = some u := fun k u e f => by
  have hk := (List.getElem?_eq_some_iff.mp e).1
  obtain ⟨a, e'⟩ := g.keep k hk f.1
  refine ⟨⟨a, fun hm => ?_⟩, e'.trans e⟩
  rcases hx k hm with q | q
  · exact f.2 q
  · omega
theorem See.go {ob ob' : Obs} {A A' : Hpp} {X : List Nat} (g : Go A.length ob A ob' A') {v : Pv} {d : D} (h : See ob X A v d) : See ob' X A' v d := See.to g.live (g.fz fun k h => .inl h) v d h
theorem SeeL.go {ob ob' : Obs} {A A' : Hpp} {X : List Nat} (g : Go A.length ob A ob' A') {v : List Pv} {d : List D} (h : SeeL ob X A v d) : SeeL ob' X A' v d := SeeL.to g.live (g.fz fun k h => .inl h) v d h
/-- a value that is only read -/
def SeeR (ob : Obs) (X : List Nat) (A : Hpp) (v : Pv) (d : D) : Prop := See ob X A v d ∨ ∃ j, d = .ref j ∧ j ∈ X ∧ some j ∉ ob ∧ OwnS ob X A v j
theorem SeeR.go {ob ob' : Obs} {A A' : Hpp} {X : List Nat} (g : Go A.length ob A ob' A') {v : Pv} {d : D} (h : SeeR ob X A v d) : SeeR ob' X A' v d := by
  rcases h with h | ⟨j, e, x, n, o⟩
  · exact .inl (h.go g)
  · obtain ⟨a, b⟩ := g.keep j o.lt n
    exact .inr ⟨j, e, x, a, o.to g.live (g.fz fun k h => .inl h) b⟩
/-- names -/
structure LocR (b : Nat) (ob : Obs) (X : List Nat) (A : Hpp) (PL : PLoc) (L : Loc) : Prop where
  len : PL.length = L.length
  val : ∀ (i : Nat) (v : Pv), PL[i]? = some (some (.val v)) → ∃ d, L[i]? = some (some d) ∧ See ob X A v d
  own : ∀ (i : Nat) (v : Pv), PL[i]? = some (some (.own v)) → ∃ j, L[i]? = some (some (.ref j)) ∧ b ≤ j ∧ j ∈ X ∧ some j ∉ ob ∧ OwnS ob X A v j
  one : ∀ (i i' : Nat) (v v' : Pv) (j : Nat), PL[i]? = some (some (.own v)) → PL[i']? = some (some (.own v')) → L[i]? = some (some (.ref j)) → L[i']? = some (some (.ref j)) → i = i'
theorem LocR.to {b : Nat} {ob ob' : Obs} {X X' : List Nat} {A A' : Hpp} {PL : PLoc} {L : Loc} (r : LocR b ob X A PL L) (live : ∀ (n k : Nat), ob[n]? = some (some k) → ob'[n]? = some (some k)) (h : ∀ (k : Nat) (u : HOb), A[k]? = some u → Fzn ob X k → Fzn ob' X' k ∧ A'[k]? = some u)
    (hj : ∀ (i : Nat) (v : Pv) (j : Nat), PL[i]? = some (some (.own v)) → L[i]? = some (some (.ref j)) → j < A.length → b ≤ j → j ∈ X → some j ∉ ob → A'[j]? = A[j]? ∧ j ∈ X' ∧ some j ∉ ob') : LocR b ob' X' A' PL L where
  len := r.len
  val := fun i v e => let ⟨d, a, c⟩ := r.val i v e; ⟨d, a, See.to live h v d c⟩
  own := fun i v e => by
    obtain ⟨j, a, c, d, f, o⟩ := r.own i v e
    obtain ⟨h1, h2, h3⟩ := hj i v j e a o.lt c d f
    exact ⟨j, a, c, h2, h3, o.to live h h1⟩
  one := r.one
theorem LocR.go {b : Nat} {ob ob' : Obs} {X : List Nat} {A A' : Hpp} {PL : PLoc} {L : Loc} (r : LocR b ob X A PL L) (g : Go A.length ob A ob' A') : LocR b ob' X A' PL L :=
  r.to g.live (g.fz fun k h => .inl h) fun _ _ j _ _ hj _ hx hn => let ⟨a, e⟩ := g.keep j hj hn; ⟨e, hx, a⟩
/-! ### what one run says of the other -/
def Post {α β : Type} (b : Nat) (Q : Obs → Hpp → α → β → Prop) (ob : Obs) (X : List Nat) (A : Hpp) (z : ZR α) (r : R β) : Prop := match z with
  | .ok a s => ∃ c A' ob', r = .ok c A' ∧ Go b ob A ob' A' ∧ WR ob' X A' s ∧ Q ob' A' a c
  | .ex n fs s => ∃ ds A' ob', r = .ex n ds A' ∧ Go b ob A ob' A' ∧ WR ob' X A' s ∧ SeeL ob' X A' fs ds
  | .bad => True
section
variable {α β γ δ : Type} {b : Nat} {Q : Obs → Hpp → α → β → Prop} {Q' : Obs → Hpp → γ → δ → Prop} {ob ob1 : Obs} {X : List Nat} {A A1 : Hpp} {s : PSt} {z : ZR α} {r : R β} {f : α → PSt → ZR γ} {g : β → Hpp → R δ}
theorem Post.ok {a : α} {c : β} (w : WR ob X A s) (q : Q ob A a c) : Post b Q ob X A (.ok a s) (.ok c A) := ⟨c, A, ob, rfl, Go.refl _ _ _, w, q⟩
theorem Post.lift {z : ZR γ} {r : R δ} (g : Go b ob A ob1 A1) (h : Post b Q' ob1 X A1 z r) : Post b Q' ob X A z r := by
  cases z with
  | ok a s => obtain ⟨c, A2, ob2, e, g2, w, q⟩ := h; exact ⟨c, A2, ob2, e, g.trans g2, w, q⟩
  | ex n fs s => obtain ⟨c, A2, ob2, e, g2, w, q⟩ := h; exact ⟨c, A2, ob2, e, g.trans g2, w, q⟩
  | bad => trivial
theorem Post.mono {b' : Nat} {z : ZR γ} {r : R δ} (h : Post b Q' ob X A z r) (hb : b' ≤ b) : Post b' Q' ob X A z r := by
  cases z with
  | ok a s => obtain ⟨c, A2, ob2, e, g2, w, q⟩ := h; exact ⟨c, A2, ob2, e, g2.mono hb, w, q⟩
  | ex n fs s => obtain ⟨c, A2, ob2, e, g2, w, q⟩ := h; exact ⟨c, A2, ob2, e, g2.mono hb, w, q⟩
  | bad => trivial
theorem Post.bind (h : Post b Q ob X A z r) (k : ∀ a c A' ob' s, Go b ob A ob' A' → WR ob' X A' s → Q ob' A' a c → Post b Q' ob' X A' (f a s) (g c A')) : Post b Q' ob X A (z.bind f) (r.bind g) := by
  cases z with
  | ok a s =>
    obtain ⟨c, A2, ob2, rfl, g2, w, q⟩ := h
    exact Post.lift g2 (k a c A2 ob2 s g2 w q)
  | ex n fs s => obtain ⟨c, A2, ob2, rfl, g2, w, q⟩ := h; exact ⟨c, A2, ob2, rfl, g2, w, q⟩
  | bad => trivial
theorem Post.imp {Q2 : Obs → Hpp → α → β → Prop} (h : Post b Q ob X A z r) (k : ∀ ob' A' a c, Q ob' A' a c → Q2 ob' A' a c) : Post b Q2 ob X A z r := by
  cases z with
  | ok a s => obtain ⟨c, A2, ob2, e, g2, w, q⟩ := h; exact ⟨c, A2, ob2, e, g2, w, k _ _ _ _ q⟩
  | ex n fs s => exact h
  | bad => trivial
theorem Post.ofO {a : Option α} {c : Option β} (w : WR ob X A s) (h : ∀ x, a = some x → ∃ y, c = some y ∧ Q ob A x y) : Post b Q ob X A (ZR.ofO a s) (R.ofO c A) := by
  cases a with
  | none => trivial
  | some x => obtain ⟨y, rfl, q⟩ := h x rfl; exact Post.ok w q
end
abbrev QV (X : List Nat) : Obs → Hpp → Pv → D → Prop := fun ob A v d => See ob X A v d
abbrev QR (X : List Nat) : Obs → Hpp → Pv → D → Prop := fun ob A v d => SeeR ob X A v d
abbrev QL (X : List Nat) : Obs → Hpp → List Pv → List D → Prop := fun ob A v d => SeeL ob X A v d
abbrev QE {α : Type} : Obs → Hpp → α → α → Prop := fun _ _ a c => a = c
def SimE (m : M) (p : ZM) : Prop := ∀ b ob X A s L PL, WR ob X A s → LocR b ob X A PL L → Post A.length (QV X) ob X A (p PL s) (m L A)
def SimR (m : M) (p : ZM) : Prop := ∀ b ob X A s L PL, WR ob X A s → LocR b ob X A PL L → Post A.length (QR X) ob X A (p PL s) (m L A)
def SimB (m : MB) (p : ZMB) : Prop := ∀ b ob X A s L PL, WR ob X A s → LocR b ob X A PL L → Post A.length QE ob X A (p PL s) (m L A)
def SimL (m : ML) (p : ZML) : Prop := ∀ b ob X A s L PL, WR ob X A s → LocR b ob X A PL L → Post A.length (QL X) ob X A (p PL s) (m L A)
def SimO (m : MO) (p : ZMO) : Prop := ∀ b ob X A s L PL, WR ob X A s → LocR b ob X A PL L → Post A.length QE ob X A (p PL s) (m L A)
theorem SimE.r {m : M} {p : ZM} (h : SimE m p) : SimR m p := fun b ob X A s L PL w r => (h b ob X A s L PL w r).imp fun _ _ _ _ q => .inl q
/-- a value is made that nothing else knows -/
def SimN (m : M) (p : ZM) : Prop := ∀ b ob X A s L PL, WR ob X A s → LocR b ob X A PL L → match p PL s with
  | .ok v s' => ∃ d A' ob', m L A = .ok d A' ∧ Go A.length ob A ob' A' ∧ ((∃ j, d = .ref j ∧ v.isLst = true ∧ A.length ≤ j ∧ WR ob' (j :: X) A' s' ∧ OwnS ob' (j :: X) A' v j) ∨ (v.isLst = false ∧ WR ob' X A' s' ∧ See ob' X A' v d))
  | .ex n fs s' => ∃ ds A' ob', m L A = .ex n ds A' ∧ Go A.length ob A ob' A' ∧ WR ob' X A' s' ∧ SeeL ob' X A' fs ds
  | .bad => True
theorem WR.less {ob : Obs} {X X' : List Nat} {A : Hpp} {s : PSt} (w : WR ob X A s) (h : ∀ k ∈ X', k ∈ X) : WR ob X' A s where
  cl := w.cl
  len := w.len
  inj := w.inj
  at_ := fun n k e => by
    obtain ⟨o, u, a, c, q⟩ := w.at_ n k e
    exact ⟨o, u, a, c, q.to (fun _ _ h => h) fun k u e f => ⟨⟨f.1, fun z => f.2 (h k z)⟩, e⟩⟩
  xx := fun k hk => w.xx k (h k hk)
theorem SimN.e {m : M} {p : ZM} (h : SimN m p) : SimE m p := fun b ob X A s L PL w r => by
  have := h b ob X A s L PL w r
  cases hp : p PL s with
  | bad => trivial
  | ex n fs s' => rw [hp] at this; exact this
  | ok v s' =>
    rw [hp] at this
    obtain ⟨d, A', ob', e, g, h⟩ := this
    rcases h with ⟨j, rfl, _, hj, w', o⟩ | ⟨_, w', o⟩
    · have nx : j ∉ X := fun z => by have := (w.xx j z).2; omega
      refine ⟨.ref j, A', ob', e, g, w'.less fun k hk => List.mem_cons_of_mem _ hk, ?_⟩
      refine OwnS.see (o.to (fun _ _ h => h) (fun k u e f => ⟨⟨f.1, fun z => f.2 (List.mem_cons_of_mem _ z)⟩, e⟩) rfl) ⟨(w'.xx j (List.mem_cons_self ..)).1, nx⟩
    · exact ⟨d, A', ob', e, g, w', o⟩
/-! new places -/
mutual
theorem low_monoD {n m : Nat} (h : n ≤ m) : ∀ d : D, d.low n = true → d.low m = true
  | .non, _ => rfl
  | .bl _, _ => rfl
  | .int _, _ => rfl
  | .str _, _ => rfl
  | .fn _, _ => rfl
  | .tup l, q => by simp only [D.low] at q ⊢; exact low_monoL h l q
  | .ref k, q => by simp only [D.low, decide_eq_true_eq] at q ⊢; omega
theorem low_monoL {n m : Nat} (h : n ≤ m) : ∀ l : List D, D.lowL n l = true → D.lowL m l = true
  | [], _ => rfl
  | d :: l, q => by simp only [D.lowL, Bool.and_eq_true] at q ⊢; exact ⟨low_monoD h d q.1, low_monoL h l q.2⟩
end
theorem low_monoH {n m : Nat} (h : n ≤ m) (o : HOb) (q : o.low n = true) : o.low m = true := by
  cases o with
  | lst l => exact low_monoL h _ q
  | rd l => exact low_monoL h _ q
  | dct l => exact low_monoL h _ q
theorem Clo.snoc {A : Hpp} {o : HOb} (h : Clo A) (ho : o.low (A.length + 1) = true) : Clo (A ++ [o]) := fun k u e => by
  rw [List.length_append, List.length_singleton]
  by_cases hk : k < A.length
  · rw [List.getElem?_append_left hk] at e
    exact low_monoH (by omega) u (h k u e)
  · have := (List.getElem?_eq_some_iff.mp e).1
    simp at this
    have : k = A.length := by omega
    subst this
    simp at e; subst e; exact ho
theorem fz_app {ob : Obs} {X X' : List Nat} {A Y : Hpp} (hx : ∀ k ∈ X', k ∈ X ∨ A.length ≤ k) : ∀ (k : Nat) (u : HOb), A[k]? = some u → Fzn ob X k → Fzn ob X' k ∧ (A ++ Y)[k]? = some u := fun k u e f => by
  have hk := (List.getElem?_eq_some_iff.mp e).1
  refine ⟨⟨f.1, fun z => ?_⟩, by rw [List.getElem?_append_left hk]; exact e⟩
  rcases hx k z with q | q
  · exact f.2 q
  · omega
theorem Go.app (b : Nat) (ob : Obs) (A Y : Hpp) (hb : b ≤ A.length) : Go b ob A ob (A ++ Y) := ⟨fun _ _ h => h, fun k hk h => ⟨h, by rw [List.getElem?_append_left (by omega)]⟩, by simp⟩
theorem WR.snoc {ob : Obs} {X X' : List Nat} {A : Hpp} {s : PSt} {o : HOb} (w : WR ob X A s) (ho : o.low (A.length + 1) = true) (hx : ∀ k ∈ X', k ∈ X ∨ k = A.length) : WR ob X' (A ++ [o]) s where
  cl := w.cl.snoc ho
  len := w.len
  inj := w.inj
  at_ := fun n k e => by
    obtain ⟨o', u, a, c, q⟩ := w.at_ n k e
    have hk := (List.getElem?_eq_some_iff.mp c).1
    exact ⟨o', u, a, by rw [List.getElem?_append_left hk]; exact c, q.to (fun _ _ h => h) (fz_app fun k hk => (hx k hk).imp id fun z => by omega)⟩
  xx := fun k hk => by
    rw [List.length_append, List.length_singleton]
    rcases hx k hk with q | q
    · exact ⟨(w.xx k q).1, by have := (w.xx k q).2; omega⟩
    · exact ⟨fun z => by have := w.mem_lt z; omega, by omega⟩
theorem lowH {ob : Obs} {X : List Nat} {A : Hpp} {s : PSt} (w : WR ob X A s) {l : List Pv} {ds : List D} (h : SeeL ob X A l ds) : (HOb.lst ds).low (A.length + 1) = true := low_monoL (Nat.le_succ _) _ (SeeL.low w.lt l ds h)
/-- a new list is laid, known by nobody -/
theorem new_lst {ob : Obs} {X : List Nat} {A : Hpp} {s : PSt} (w : WR ob X A s) {l : List Pv} {ds : List D} (h : SeeL ob X A l ds) : WR ob (A.length :: X) (A ++ [.lst ds]) s ∧ OwnS ob (A.length :: X) (A ++ [.lst ds]) (.lst l) A.length := by
  have hx : ∀ k ∈ A.length :: X, k ∈ X ∨ k = A.length := fun k hk => (List.mem_cons.mp hk).elim .inr .inl
  refine ⟨w.snoc (lowH w h) hx, ds, by simp, SeeL.to (fun _ _ h => h) (fz_app fun k hk => (hx k hk).imp id fun z => by omega) _ _ h⟩
theorem see_new {ob : Obs} {X : List Nat} {A : Hpp} {s : PSt} (w : WR ob X A s) {l : List Pv} {ds : List D} (h : SeeL ob X A l ds) : Post A.length (QV X) ob X A (.ok (.lst l) s) (.ok (.ref A.length) (A ++ [.lst ds])) := by
  refine ⟨_, _, ob, rfl, Go.app _ _ _ _ (Nat.le_refl _), w.snoc (lowH w h) fun k hk => .inl hk, ?_⟩
  simp only [See]
  exact ⟨A.length, ds, rfl, ⟨fun z => by have := w.mem_lt z; omega, fun z => by have := (w.xx _ z).2; omega⟩, by simp, SeeL.to (fun _ _ h => h) (fz_app fun k hk => .inl hk) _ _ h⟩
end Rf
namespace Rf
open PySem L2
section
variable {ob : Obs} {X : List Nat} {A : Hpp} {d e : D} {s : PSt}
theorem SeeR.non (h : SeeR ob X A .non d) : d = .non := h.elim (fun h => by simpa [See] using h) fun ⟨_, _, _, _, h⟩ => h.elim
theorem SeeR.bl {b : Bool} (h : SeeR ob X A (.bl b) d) : d = .bl b := h.elim (fun h => by simpa [See] using h) fun ⟨_, _, _, _, h⟩ => h.elim
theorem SeeR.int {b : Int} (h : SeeR ob X A (.int b) d) : d = .int b := h.elim (fun h => by simpa [See] using h) fun ⟨_, _, _, _, h⟩ => h.elim
theorem SeeR.str {b : Str} (h : SeeR ob X A (.str b) d) : d = .str b := h.elim (fun h => by simpa [See] using h) fun ⟨_, _, _, _, h⟩ => h.elim
theorem SeeR.fn {b : Str} (h : SeeR ob X A (.fn b) d) : d = .fn b := h.elim (fun h => by simpa [See] using h) fun ⟨_, _, _, _, h⟩ => h.elim
theorem SeeR.tup {l : List Pv} (h : SeeR ob X A (.tup l) d) : ∃ ds, d = .tup ds ∧ SeeL ob X A l ds := h.elim (fun h => by simpa [See] using h) fun ⟨_, _, _, _, h⟩ => h.elim
theorem SeeR.lst {l : List Pv} (h : SeeR ob X A (.lst l) d) : ∃ k ds, d = .ref k ∧ A[k]? = some (.lst ds) ∧ SeeL ob X A l ds := by
  rcases h with h | ⟨j, rfl, _, _, ds, a, b⟩
  · simp only [See] at h
    obtain ⟨k, ds, e, _, a, b⟩ := h
    exact ⟨k, ds, e, a, b⟩
  · exact ⟨j, ds, rfl, a, b⟩
theorem SeeR.dct {ks : List Key} {l : List Pv} (h : SeeR ob X A (.dct ks l) d) : ∃ k ds, d = .ref k ∧ A[k]? = some (.dct (ks.zip ds)) ∧ ks.length = ds.length ∧ SeeL ob X A l ds := by
  rcases h with h | ⟨j, rfl, _, _, ds, a, b, c⟩
  · simp only [See] at h
    obtain ⟨k, ds, e, _, a, b, c⟩ := h
    exact ⟨k, ds, e, a, b, c⟩
  · exact ⟨j, ds, rfl, a, b, c⟩
theorem SeeR.obj {n : Nat} (h : SeeR ob X A (.obj n) d) : ∃ k, ob[n]? = some (some k) ∧ d = .ref k := by
  rcases h with h | ⟨_, _, _, _, h⟩
  · simpa [See] using h
  · exact h.elim
theorem WR.objL (w : WR ob X A s) {n k : Nat} {l : List Pv} (h : ob[n]? = some (some k)) (e : s[n]? = some (.lst l)) : ∃ ds, A[k]? = some (.lst ds) ∧ SeeL ob X A l ds := by
  obtain ⟨o, u, a, b, c⟩ := w.at_ n k h
  rw [e] at a; cases a
  obtain ⟨ds, rfl, z⟩ := c
  exact ⟨ds, b, z⟩
theorem WR.objRd (w : WR ob X A s) {n k : Nat} {l : List Pv} (h : ob[n]? = some (some k)) (e : s[n]? = some (.rd l)) : ∃ ds, A[k]? = some (.rd ds) ∧ SeeL ob X A l ds := by
  obtain ⟨o, u, a, b, c⟩ := w.at_ n k h
  rw [e] at a; cases a
  obtain ⟨ds, rfl, z⟩ := c
  exact ⟨ds, b, z⟩
theorem WR.objD (w : WR ob X A s) {n k : Nat} {ks : List Key} {l : List Pv} (h : ob[n]? = some (some k)) (e : s[n]? = some (.dct ks l)) : ∃ ds, A[k]? = some (.dct (ks.zip ds)) ∧ ks.length = ds.length ∧ SeeL ob X A l ds := by
  obtain ⟨o, u, a, b, c⟩ := w.at_ n k h
  rw [e] at a; cases a
  obtain ⟨ds, rfl, z⟩ := c
  exact ⟨ds, b, z⟩
/-! reading -/
theorem snapL {n : Nat} (ih : ∀ (v : Pv) (d : D) (p : PyData), See ob X A v d → v.snap n = some p → d.snap A n = some p) : ∀ (l : List Pv) (ds : List D) (ps : List PyData), SeeL ob X A l ds → optAll (l.map (Pv.snap n)) = some ps → optAll (ds.map (D.snap A n)) = some ps
  | [], ds, ps, h, e => by simp only [SeeL] at h; subst h; exact e
  | v :: l, ds, ps, h, e => by
    simp only [SeeL] at h
    obtain ⟨d, r, rfl, a, b⟩ := h
    rw [List.map_cons] at e ⊢
    cases q : v.snap n with
    | none => rw [q] at e; simp [optAll] at e
    | some p =>
      rw [q] at e
      rw [ih v d p a q]
      simp only [optAll] at e ⊢
      cases q2 : optAll (l.map (Pv.snap n)) with
      | none => rw [q2] at e; simp at e
      | some qs => rw [q2] at e; rw [snapL ih l r qs b q2]; exact e
theorem See.snap : ∀ (n : Nat) (v : Pv) (d : D) (p : PyData), See ob X A v d → v.snap n = some p → d.snap A n = some p := by
  intro n
  induction n with
  | zero =>
    intro v d p h e
    cases v with
    | non => simp only [See] at h; subst h; simpa [Pv.snap, D.snap] using e
    | bl b => simp only [See] at h; subst h; simpa [Pv.snap, D.snap] using e
    | int b => simp only [See] at h; subst h; simpa [Pv.snap, D.snap] using e
    | str b => simp only [See] at h; subst h; simpa [Pv.snap, D.snap] using e
    | _ => simp [Pv.snap] at e
  | succ n ih =>
    intro v d p h e
    cases v with
    | non => simp only [See] at h; subst h; simpa [Pv.snap, D.snap] using e
    | bl b => simp only [See] at h; subst h; simpa [Pv.snap, D.snap] using e
    | int b => simp only [See] at h; subst h; simpa [Pv.snap, D.snap] using e
    | str b => simp only [See] at h; subst h; simpa [Pv.snap, D.snap] using e
    | tup l =>
      simp only [See] at h
      obtain ⟨ds, rfl, b⟩ := h
      simp only [Pv.snap] at e
      simp only [D.snap]
      cases q2 : optAll (l.map (Pv.snap n)) with
      | none => rw [q2] at e; simp at e
      | some qs => rw [q2] at e; rw [snapL ih l ds qs b q2]; exact e
    | lst l =>
      simp only [See] at h
      obtain ⟨k, ds, rfl, _, a, b⟩ := h
      simp only [Pv.snap] at e
      simp only [D.snap, a]
      cases q2 : optAll (l.map (Pv.snap n)) with
      | none => rw [q2] at e; simp at e
      | some qs => rw [q2] at e; rw [snapL ih l ds qs b q2]; exact e
    | _ => simp [Pv.snap] at e
theorem SeeR.snap {n : Nat} {v : Pv} {p : PyData} (h : SeeR ob X A v d) (e : v.snap n = some p) : d.snap A n = some p := by
  rcases h with h | ⟨j, rfl, _, _, o⟩
  · exact See.snap n v d p h e
  · cases v with
    | lst l =>
      obtain ⟨ds, a, b⟩ := o
      cases n with
      | zero => simp [Pv.snap] at e
      | succ n =>
        simp only [Pv.snap] at e
        simp only [D.snap, a]
        cases q2 : optAll (l.map (Pv.snap n)) with
        | none => rw [q2] at e; simp at e
        | some qs => rw [q2] at e; rw [snapL (See.snap n) l ds qs b q2]; exact e
    | dct ks l => cases n <;> simp [Pv.snap] at e
    | _ => exact o.elim
theorem truth_see {v : Pv} {k : Bool} (w : WR ob X A s) (h : SeeR ob X A v d) (e : pTruth v s = some k) : truth d A = some k := by
  cases v with
  | non => rw [h.non]; exact e
  | bl b => rw [h.bl]; exact e
  | int b => rw [h.int]; exact e
  | str b => rw [h.str]; exact e
  | tup l =>
    obtain ⟨ds, rfl, b⟩ := h.tup
    have := b.length
    simp only [pTruth, truth] at e ⊢
    cases ds <;> cases l <;> simp_all
  | lst l =>
    obtain ⟨j, ds, rfl, a, b⟩ := h.lst
    have := b.length
    simp only [pTruth, truth, a] at e ⊢
    cases ds <;> cases l <;> simp_all
  | dct ks l =>
    obtain ⟨j, ds, rfl, a, z, b⟩ := h.dct
    have := b.length
    simp only [pTruth, truth, a] at e ⊢
    cases ds <;> cases ks <;> simp_all <;> omega
  | fn x => cases e
  | obj n => cases e
end
/-! ### operators -/
def SimOp2 (op : D → D → Hpp → R D) (pop : ZB) : Prop := ∀ ob X A s v w d e, WR ob X A s → SeeR ob X A v d → SeeR ob X A w e → Post A.length (QV X) ob X A (pop v w s) (op d e A)
def SimOp1 (op : D → Hpp → R D) (pop : Pv → PSt → ZR Pv) : Prop := ∀ ob X A s v d, WR ob X A s → SeeR ob X A v d → Post A.length (QV X) ob X A (pop v s) (op d A)
theorem see_rfl_int {ob : Obs} {X : List Nat} {A : Hpp} {i : Int} : See ob X A (.int i) (.int i) := by simp only [See]
theorem see_rfl_bl {ob : Obs} {X : List Nat} {A : Hpp} {i : Bool} : See ob X A (.bl i) (.bl i) := by simp only [See]
theorem see_rfl_str {ob : Obs} {X : List Nat} {A : Hpp} {i : Str} : See ob X A (.str i) (.str i) := by simp only [See]
theorem see_rfl_non {ob : Obs} {X : List Nat} {A : Hpp} : See ob X A .non .non := by simp only [See]
theorem see_tup {ob : Obs} {X : List Nat} {A : Hpp} {l : List Pv} {ds : List D} (h : SeeL ob X A l ds) : See ob X A (.tup l) (.tup ds) := by simp only [See]; exact ⟨ds, rfl, h⟩
theorem so_add : SimOp2 opAdd pAdd := by
  intro ob X A s v w d e W hv hw
  unfold pAdd
  split
  · rw [hv.int, hw.int]; exact Post.ok W see_rfl_int
  · rw [hv.bl, hw.int]; exact Post.ok W see_rfl_int
  · rw [hv.str, hw.str]
    split
    · rename_i q; show Post _ _ _ _ _ _ (if _ then _ else _); rw [if_pos q]; exact Post.ok W see_rfl_str
    · trivial
  · obtain ⟨ds, rfl, a⟩ := hv.tup
    obtain ⟨es, rfl, b⟩ := hw.tup
    split
    · rename_i q; show Post _ _ _ _ _ _ (if _ then _ else _); rw [a.length, b.length, if_pos q]; exact Post.ok W (see_tup (a.append b))
    · trivial
  · obtain ⟨i, ds, rfl, a0, a⟩ := hv.lst
    obtain ⟨j, es, rfl, b0, b⟩ := hw.lst
    split
    · rename_i q
      have e : opAdd (.ref i) (.ref j) A = .ok (.ref A.length) (A ++ [.lst (ds ++ es)]) := by
        simp only [opAdd, a0, b0]; rw [a.length, b.length, if_pos q]
      rw [e]
      exact see_new W (a.append b)
    · trivial
  · trivial
theorem so_sub : SimOp2 opSub pSub := by
  intro ob X A s v w d e W hv hw
  unfold pSub
  split
  · rw [hv.int, hw.int]; exact Post.ok W see_rfl_int
  · rw [hv.bl, hw.int]; exact Post.ok W see_rfl_int
  · trivial
theorem so_mod : SimOp2 opMod pMod := by
  intro ob X A s v w d e W hv hw
  unfold pMod
  split
  · rw [hv.int, hw.int]
    split
    · rename_i q; show Post _ _ _ _ _ _ (if _ then _ else _); rw [if_pos q]; exact Post.ok W see_rfl_int
    · trivial
  · trivial
theorem so_fdiv : SimOp2 opFdiv pFdiv := by
  intro ob X A s v w d e W hv hw
  unfold pFdiv
  split
  · rw [hv.int, hw.int]
    split
    · rename_i q; show Post _ _ _ _ _ _ (if _ then _ else _); rw [if_pos q]; exact Post.ok W see_rfl_int
    · trivial
  · trivial
theorem so_pow : SimOp2 opPow pPow := by
  intro ob X A s v w d e W hv hw
  unfold pPow
  split
  · rw [hv.int, hw.int]
    split
    · rename_i q; show Post _ _ _ _ _ _ (if _ then _ else _); rw [if_pos q]; exact Post.ok W see_rfl_int
    · trivial
  · trivial
theorem so_augAdd : SimOp2 augAdd pAugAdd := by
  intro ob X A s v w d e W hv hw
  unfold pAugAdd
  split
  · rw [hv.int, hw.int]; exact Post.ok W see_rfl_int
  · trivial
theorem so_augMul : SimOp2 augMul pAugMul := by
  intro ob X A s v w d e W hv hw
  unfold pAugMul
  split
  · rw [hv.int, hw.int]
    split
    · rename_i q; show Post _ _ _ _ _ _ (if _ then _ else _); rw [if_pos q]; exact Post.ok W see_rfl_int
    · trivial
  · trivial
theorem so_neg : SimOp1 opNeg pNeg := by
  intro ob X A s v d W hv
  unfold pNeg
  split
  · rw [hv.int]; exact Post.ok W see_rfl_int
  · trivial
theorem so_lt : SimOp2 cmpLt pLt := by
  intro ob X A s v w d e W hv hw
  unfold pLt
  split
  · rw [hv.int, hw.int]; exact Post.ok W see_rfl_bl
  · rw [hv.str, hw.str]; exact Post.ok W see_rfl_bl
  · trivial
theorem so_le : SimOp2 cmpLe pLe := by
  intro ob X A s v w d e W hv hw
  unfold pLe
  split
  · rw [hv.int, hw.int]; exact Post.ok W see_rfl_bl
  · rw [hv.str, hw.str]; exact Post.ok W see_rfl_bl
  · trivial
theorem so_gt : SimOp2 cmpGt pGt := by
  intro ob X A s v w d e W hv hw
  unfold pGt
  split
  · rw [hv.int, hw.int]; exact Post.ok W see_rfl_bl
  · trivial
theorem so_ge : SimOp2 cmpGe pGe := by
  intro ob X A s v w d e W hv hw
  unfold pGe
  split
  · rw [hv.int, hw.int]; exact Post.ok W see_rfl_bl
  · trivial
theorem non_see {ob : Obs} {X : List Nat} {A : Hpp} {v : Pv} {d : D} (h : SeeR ob X A v d) : decide (d = .non) = v.isNon := by
  cases v with
  | non => rw [h.non]; rfl
  | bl b => rw [h.bl]; rfl
  | int b => rw [h.int]; rfl
  | str b => rw [h.str]; rfl
  | fn b => rw [h.fn]; rfl
  | tup l => obtain ⟨ds, rfl, b⟩ := h.tup; rfl
  | lst l => obtain ⟨j, ds, rfl, a, b⟩ := h.lst; rfl
  | dct ks l => obtain ⟨j, ds, rfl, a, b⟩ := h.dct; rfl
  | obj n => obtain ⟨j, a, rfl⟩ := h.obj; rfl
theorem so_is : SimOp2 cmpIs pIs := by
  intro ob X A s v w d e W hv hw
  unfold pIs
  split
  · rw [hw.non]; simp only [cmpIs, non_see hv]; exact Post.ok W see_rfl_bl
  · rw [hv.bl, hw.bl]; exact Post.ok W see_rfl_bl
  · trivial
theorem so_isNot : SimOp2 cmpIsNot pIsNot := by
  intro ob X A s v w d e W hv hw
  unfold pIsNot
  split
  · rw [hw.non]; simp only [cmpIsNot, non_see hv]; exact Post.ok W see_rfl_bl
  · rw [hv.bl, hw.bl]; exact Post.ok W see_rfl_bl
  · trivial
theorem eq_see {ob : Obs} {X : List Nat} {A : Hpp} {v w : Pv} {d e : D} {k : Bool} (hv : SeeR ob X A v d) (hw : SeeR ob X A w e) (h : pEqO v w = some k) : eqD d e A = some k := by
  unfold pEqO at h
  split at h
  · rw [hv.str, hw.str]; exact h
  · rw [hv.int, hw.int]; exact h
  · rw [hv.str, hw.int]; exact h
  · rw [hv.int, hw.str]; exact h
  · rw [hv.non, hw.str]; exact h
  · rw [hv.str, hw.non]; exact h
  · rename_i n1 n2 n3 n4 n5 n6
    split at h
    · rename_i p q hp hq
      have ep := hv.snap hp
      have eq := hw.snap hq
      have core : (match D.snap A deepest d, D.snap A deepest e with
        | some d, some e => if SeqAt.shaped d && SeqAt.shaped e then some (PyData.eqv d e) else none
        | _, _ => none) = some k := by rw [ep, eq]; exact h
      have dv : ∀ z, d = .str z → v = .str z := fun z hz => by
        subst hz
        cases v with
        | non => cases hv.non
        | bl b => cases hv.bl
        | int b => cases hv.int
        | str b => cases hv.str; rfl
        | fn b => cases hv.fn
        | tup l => obtain ⟨ds, z, b⟩ := hv.tup; cases z
        | lst l => obtain ⟨j, ds, z, a, b⟩ := hv.lst; cases z
        | dct ks l => obtain ⟨j, ds, z, a, b⟩ := hv.dct; cases z
        | obj n => obtain ⟨j, a, z⟩ := hv.obj; cases z
      have dw : ∀ z, e = .str z → w = .str z := fun z hz => by
        subst hz
        cases w with
        | non => cases hw.non
        | bl b => cases hw.bl
        | int b => cases hw.int
        | str b => cases hw.str; rfl
        | fn b => cases hw.fn
        | tup l => obtain ⟨ds, z, b⟩ := hw.tup; cases z
        | lst l => obtain ⟨j, ds, z, a, b⟩ := hw.lst; cases z
        | dct ks l => obtain ⟨j, ds, z, a, b⟩ := hw.dct; cases z
        | obj n => obtain ⟨j, a, z⟩ := hw.obj; cases z
      have iv : ∀ z, d = .int z → v = .int z := fun z hz => by
        subst hz
        cases v with
        | non => cases hv.non
        | bl b => cases hv.bl
        | int b => cases hv.int; rfl
        | str b => cases hv.str
        | fn b => cases hv.fn
        | tup l => obtain ⟨ds, z, b⟩ := hv.tup; cases z
        | lst l => obtain ⟨j, ds, z, a, b⟩ := hv.lst; cases z
        | dct ks l => obtain ⟨j, ds, z, a, b⟩ := hv.dct; cases z
        | obj n => obtain ⟨j, a, z⟩ := hv.obj; cases z
      have iw : ∀ z, e = .int z → w = .int z := fun z hz => by
        subst hz
        cases w with
        | non => cases hw.non
        | bl b => cases hw.bl
        | int b => cases hw.int; rfl
        | str b => cases hw.str
        | fn b => cases hw.fn
        | tup l => obtain ⟨ds, z, b⟩ := hw.tup; cases z
        | lst l => obtain ⟨j, ds, z, a, b⟩ := hw.lst; cases z
        | dct ks l => obtain ⟨j, ds, z, a, b⟩ := hw.dct; cases z
        | obj n => obtain ⟨j, a, z⟩ := hw.obj; cases z
      have nv : d = .non → v = .non := fun hz => by
        have := non_see hv; rw [hz] at this
        cases v <;> first | rfl | cases this
      have nw : e = .non → w = .non := fun hz => by
        have := non_see hw; rw [hz] at this
        cases w <;> first | rfl | cases this
      unfold eqD
      split
      · exact absurd (dv _ rfl) (fun z => n1 _ _ z (dw _ rfl))
      · exact absurd (iv _ rfl) (fun z => n2 _ _ z (iw _ rfl))
      · exact absurd (dv _ rfl) (fun z => n3 _ _ z (iw _ rfl))
      · exact absurd (iv _ rfl) (fun z => n4 _ _ z (dw _ rfl))
      · exact absurd (nv rfl) (fun z => n5 _ z (dw _ rfl))
      · exact absurd (dv _ rfl) (fun z => n6 _ z (nw rfl))
      · exact core
    · cases h
theorem so_eq : SimOp2 cmpEq pEq := by
  intro ob X A s v w d e W hv hw
  unfold pEq cmpEq
  exact Post.bind (Post.ofO (Q := QE) W fun k h => ⟨k, eq_see hv hw h, rfl⟩) fun a c A' ob' s' g w' q => by cases q; exact Post.ok w' see_rfl_bl
theorem so_ne : SimOp2 cmpNe pNe := by
  intro ob X A s v w d e W hv hw
  unfold pNe cmpNe
  exact Post.bind (Post.ofO (Q := QE) W fun k h => ⟨k, eq_see hv hw h, rfl⟩) fun a c A' ob' s' g w' q => by cases q; exact Post.ok w' see_rfl_bl
end Rf
namespace Rf
open PySem L2
theorem so_mul : SimOp2 opMul pMul := by
  intro ob X A s v w d e W hv hw
  unfold pMul
  split
  · rw [hv.int, hw.int]
    split
    · rename_i q; show Post _ _ _ _ _ _ (if _ then _ else _); rw [if_pos q]; exact Post.ok W see_rfl_int
    · trivial
  · obtain ⟨ds, rfl, a⟩ := hv.tup
    rw [hw.int]
    split
    · rename_i q
      have hn : ds ≠ [] := fun z => q.1 (List.eq_nil_of_length_eq_zero (by rw [← a.length, z]; rfl))
      show Post _ _ _ _ _ _ (if _ then _ else _); rw [if_pos ⟨hn, q.2.1, q.2.2.1, by rw [a.length]; exact q.2.2.2⟩]
      exact Post.ok W (see_tup (a.flat _))
    · trivial
  · obtain ⟨i, ds, rfl, a0, a⟩ := hv.lst
    rw [hw.int]
    split
    · rename_i q
      simp only [opMul, a0]
      rw [a.length, if_pos q]
      exact see_new W (a.flat _)
    · trivial
  · rw [hv.str, hw.int]
    split
    · rename_i q; show Post _ _ _ _ _ _ (if _ then _ else _); rw [if_pos q]; exact Post.ok W see_rfl_str
    · trivial
  · trivial
theorem inS_see {ob : Obs} {X : List Nat} {A : Hpp} {v w : Pv} {d e : D} {k : Bool} (hv : SeeR ob X A v d) (hw : SeeR ob X A w e) (h : pInS v w = some k) : inS d e A = some k := by
  unfold pInS at h
  unfold inS
  split at h
  · rename_i p ps hp hq; rw [hv.snap hp, hw.snap hq]; exact h
  · rename_i p ps hp hq; rw [hv.snap hp, hw.snap hq]; exact h
  · cases h
theorem in_see {ob : Obs} {X : List Nat} {A : Hpp} {v w : Pv} {d e : D} {k : Bool} (hv : SeeR ob X A v d) (hw : SeeR ob X A w e) (h : pInO v w = some k) : inD d e A = some k := by
  unfold pInO at h
  split at h
  · rw [hv.str, hw.str]; exact h
  · have := inS_see hv hw h
    unfold inD
    split
    · exfalso
      rename_i n1 _ _ z1 z2
      unfold pInS at h
      split at h
      · rename_i p ps hp hq
        have := hw.snap hq
        simp [D.snap, deepest] at this
      · rename_i p ps hp hq
        have := hw.snap hq
        simp [D.snap, deepest] at this
      · cases h
    · exact this
theorem so_in : SimOp2 cmpIn pIn := by
  intro ob X A s v w d e W hv hw
  unfold pIn cmpIn
  exact Post.bind (Post.ofO (Q := QE) W fun k h => ⟨k, in_see hv hw h, rfl⟩) fun a c A' ob' s' g w' q => by cases q; exact Post.ok w' see_rfl_bl
theorem so_notIn : SimOp2 cmpNotIn pNotIn := by
  intro ob X A s v w d e W hv hw
  unfold pNotIn cmpNotIn
  exact Post.bind (Post.ofO (Q := QE) W fun k h => ⟨k, in_see hv hw h, rfl⟩) fun a c A' ob' s' g w' q => by cases q; exact Post.ok w' see_rfl_bl
theorem atI_see {ob : Obs} {X : List Nat} {A : Hpp} {l : List Pv} {ds : List D} (h : SeeL ob X A l ds) {i : Int} {v : Pv} (e : atI l i = some v) : ∃ d, atI ds i = some d ∧ See ob X A v d := by
  unfold atI at e ⊢
  rw [h.length]
  cases q : ixN l.length i with
  | none => rw [q] at e; cases e
  | some j => rw [q] at e; exact h.get e
theorem key_see {ob : Obs} {X : List Nat} {A : Hpp} {v : Pv} {d : D} {k : Key} (h : SeeR ob X A v d) (e : v.key = some k) : keyD d = some k := by
  cases v with
  | int i => rw [h.int]; exact e
  | str i => rw [h.str]; exact e
  | _ => cases e
theorem look_see {ob : Obs} {X : List Nat} {A : Hpp} {k : Key} {v : Pv} : ∀ {ks : List Key} {vs : List Pv} {ds : List D}, SeeL ob X A vs ds → pLook ks vs k = some v → ∃ d, lookD (ks.zip ds) k = some d ∧ See ob X A v d
  | [], vs, ds, h, e => by simp [pLook] at e
  | c :: ks, [], ds, h, e => by simp [pLook] at e
  | c :: ks, u :: vs, ds, h, e => by
    simp only [SeeL] at h
    obtain ⟨d, r, rfl, a, b⟩ := h
    simp only [pLook] at e
    rw [List.zip_cons_cons]
    by_cases q : c = k
    · rw [if_pos q] at e; cases e
      exact ⟨d, by simp [lookD, q], a⟩
    · rw [if_neg q] at e
      obtain ⟨d', e1, e2⟩ := look_see b e
      exact ⟨d', by simp only [lookD, List.find?_cons, q, decide_false]; exact e1, e2⟩
theorem so_ix : SimOp2 opIx pIx := by
  intro ob X A s v w d e W hv hw
  unfold pIx
  split
  · obtain ⟨ds, rfl, a⟩ := hv.tup
    rw [hw.int]
    exact Post.ofO W fun x h => atI_see a h
  · obtain ⟨i, ds, rfl, a0, a⟩ := hv.lst
    rw [hw.int]
    simp only [opIx, a0]
    exact Post.ofO W fun x h => atI_see a h
  · rw [hv.str, hw.int]
    split
    · rename_i q; show Post _ _ _ _ _ _ (if _ then _ else _); rw [if_pos q]
      refine Post.ofO W fun x h => ?_
      rename_i z i
      cases hz : atI z.cps.toList i with
      | none => rw [hz] at h; cases h
      | some c => rw [hz] at h; cases h; exact ⟨_, rfl, see_rfl_str⟩
    · trivial
  · obtain ⟨i, ds, rfl, a0, a1, a⟩ := hv.dct
    split
    · rename_i k hk
      simp only [opIx, a0, key_see hw hk]
      exact Post.ofO W fun x h => look_see a h
    · trivial
  · obtain ⟨k, hk, rfl⟩ := hv.obj
    split
    · rename_i l i hl
      obtain ⟨ds, a0, a⟩ := W.objL hk hl
      rw [hw.int]
      simp only [opIx, a0]
      exact Post.ofO W fun x h => atI_see a h
    · rename_i l i hl
      obtain ⟨ds, a0, a⟩ := W.objRd hk hl
      rw [hw.int]
      simp only [opIx, a0]
      exact Post.ofO W fun x h => atI_see a h
    · rename_i ks vs hl
      obtain ⟨ds, a0, a1, a⟩ := W.objD hk hl
      split
      · rename_i k hk
        simp only [opIx, a0, key_see hw hk]
        exact Post.ofO W fun x h => look_see a h
      · trivial
    · trivial
  · trivial
theorem so_upper : SimOp1 opUpper pUpper := by
  intro ob X A s v d W hv
  unfold pUpper
  split
  · rw [hv.str]
    split
    · rename_i q; show Post _ _ _ _ _ _ (if _ then _ else _); rw [if_pos q]; exact Post.ok W see_rfl_str
    · trivial
  · trivial
theorem so_rev : SimOp1 opRev pRev := by
  intro ob X A s v d W hv
  unfold pRev
  split
  · obtain ⟨ds, rfl, a⟩ := hv.tup
    exact Post.ok W (see_tup a.rev)
  · obtain ⟨i, ds, rfl, a0, a⟩ := hv.lst
    simp only [opRev, a0]
    exact see_new W a.rev
  · trivial
theorem so_isi (T : Ty) : SimOp1 (opIsi T) (pIsi T) := by
  intro ob X A s v d W hv
  unfold pIsi
  split
  · rw [hv.non]; exact Post.ok W see_rfl_bl
  · rw [hv.bl]; exact Post.ok W see_rfl_bl
  · rw [hv.int]; exact Post.ok W see_rfl_bl
  · rw [hv.str]; exact Post.ok W see_rfl_bl
  · obtain ⟨ds, rfl, a⟩ := hv.tup
    exact Post.ok W see_rfl_bl
  · obtain ⟨i, ds, rfl, a0, a⟩ := hv.lst
    simp only [opIsi, a0]
    exact Post.ok W see_rfl_bl
  · obtain ⟨i, ds, rfl, a0, a⟩ := hv.dct
    simp only [opIsi, a0]
    exact Post.ok W see_rfl_bl
  · trivial
theorem so_sl {ob : Obs} {X : List Nat} {A : Hpp} {s : PSt} {v : Pv} {d : D} (W : WR ob X A s) (hv : SeeR ob X A v d) (lo hi : Option Int) : Post A.length (QV X) ob X A (pSl v lo hi s) (opSl d lo hi A) := by
  unfold pSl
  split
  · obtain ⟨ds, rfl, a⟩ := hv.tup
    exact Post.ok W (see_tup (a.cut _ _))
  · obtain ⟨i, ds, rfl, a0, a⟩ := hv.lst
    simp only [opSl, a0]
    exact see_new W (a.cut _ _)
  · obtain ⟨k, hk, rfl⟩ := hv.obj
    split
    · rename_i l hl
      obtain ⟨ds, a0, a⟩ := W.objL hk hl
      simp only [opSl, a0]
      exact see_new W (a.cut _ _)
    · rename_i l hl
      obtain ⟨ds, a0, a⟩ := W.objRd hk hl
      simp only [opSl, a0]
      exact see_new W (a.cut _ _)
    · trivial
  · rw [hv.str]
    split
    · rename_i q; show Post _ _ _ _ _ _ (if _ then _ else _); rw [if_pos q]; exact Post.ok W see_rfl_str
    · trivial
  · trivial
/-! ### built-ins -/
def SeeRL (ob : Obs) (X : List Nat) (A : Hpp) : List Pv → List D → Prop
  | [], ds => ds = []
  | v :: l, ds => ∃ d r, ds = d :: r ∧ SeeR ob X A v d ∧ SeeRL ob X A l r
theorem SeeRL.go {ob ob' : Obs} {A A' : Hpp} {X : List Nat} (g : Go A.length ob A ob' A') : ∀ {v : List Pv} {d : List D}, SeeRL ob X A v d → SeeRL ob' X A' v d
  | [], d, h => h
  | v :: l, ds, h => by
    obtain ⟨d, r, e, a, b⟩ := h
    exact ⟨d, r, e, a.go g, SeeRL.go g b⟩
theorem SeeRL.one {ob : Obs} {A : Hpp} {X : List Nat} {v : Pv} {ds : List D} (h : SeeRL ob X A [v] ds) : ∃ d, ds = [d] ∧ SeeR ob X A v d := by
  obtain ⟨d, r, rfl, a, b⟩ := h
  cases b
  exact ⟨d, rfl, a⟩
theorem SeeRL.two {ob : Obs} {A : Hpp} {X : List Nat} {v w : Pv} {ds : List D} (h : SeeRL ob X A [v, w] ds) : ∃ d e, ds = [d, e] ∧ SeeR ob X A v d ∧ SeeR ob X A w e := by
  obtain ⟨d, r, rfl, a, b⟩ := h
  obtain ⟨e, rfl, c⟩ := SeeRL.one b
  exact ⟨d, e, rfl, a, c⟩
theorem SeeL.r {ob : Obs} {A : Hpp} {X : List Nat} : ∀ {v : List Pv} {ds : List D}, SeeL ob X A v ds → SeeRL ob X A v ds
  | [], d, h => by simpa [SeeL, SeeRL] using h
  | v :: l, ds, h => by
    simp only [SeeL] at h
    obtain ⟨d, r, e, a, b⟩ := h
    exact ⟨d, r, e, .inl a, SeeL.r b⟩
def SimBI (op : List D → Hpp → R D) (pop : ZBI) : Prop := ∀ ob X A s vs ds, WR ob X A s → SeeRL ob X A vs ds → Post A.length (QV X) ob X A (pop vs s) (op ds A)
theorem bi_len : SimBI bLen pLen := by
  intro ob X A s vs ds W h
  unfold pLen
  split
  · obtain ⟨d, rfl, g⟩ := h.one
    have h := g
    obtain ⟨es, rfl, a⟩ := h.tup
    simp only [bLen, a.length]
    exact Post.ok W see_rfl_int
  · obtain ⟨d, rfl, g⟩ := h.one
    have h := g
    obtain ⟨k, es, rfl, a0, a⟩ := h.lst
    simp only [bLen, a0, a.length]
    exact Post.ok W see_rfl_int
  · obtain ⟨d, rfl, g⟩ := h.one
    have h := g
    rw [h.str]
    split
    · rename_i q; show Post _ _ _ _ _ _ (if _ then _ else _); rw [if_pos q]; exact Post.ok W see_rfl_int
    · trivial
  · obtain ⟨d, rfl, g⟩ := h.one
    have h := g
    obtain ⟨k, hk, rfl⟩ := h.obj
    split
    · rename_i l hl
      obtain ⟨ds, a0, a⟩ := W.objL hk hl
      simp only [bLen, a0, a.length]
      exact Post.ok W see_rfl_int
    · rename_i l hl
      obtain ⟨ds, a0, a⟩ := W.objRd hk hl
      simp only [bLen, a0, a.length]
      exact Post.ok W see_rfl_int
    · trivial
  · trivial
theorem bi_ord : SimBI bOrd pOrd := by
  intro ob X A s vs ds W h
  unfold pOrd
  split
  · obtain ⟨d, rfl, g⟩ := h.one
    have h := g
    rw [h.str]
    split
    · rename_i q; show Post _ _ _ _ _ _ (if _ then _ else _); rw [if_pos q]; exact Post.ok W see_rfl_int
    · trivial
  · trivial
theorem bi_repr : SimBI bRepr pRepr := by
  intro ob X A s vs ds W h
  unfold pRepr
  split
  · obtain ⟨d, rfl, g⟩ := h.one
    have h := g
    split
    · rename_i p hp
      simp only [bRepr, h.snap hp]
      split
      · exact Post.ok W see_rfl_str
      · trivial
    · trivial
  · trivial
theorem bi_tuple : SimBI bTuple pTuple := by
  intro ob X A s vs ds W h
  unfold pTuple
  split
  · obtain ⟨d, rfl, g⟩ := h.one
    have h := g
    obtain ⟨es, rfl, a⟩ := h.tup
    exact Post.ok W (see_tup a)
  · obtain ⟨d, rfl, g⟩ := h.one
    have h := g
    obtain ⟨k, es, rfl, a0, a⟩ := h.lst
    simp only [bTuple, a0]
    exact Post.ok W (see_tup a)
  · trivial
theorem bi_list : SimBI bList pList := by
  intro ob X A s vs ds W h
  unfold pList
  split
  · obtain ⟨d, rfl, g⟩ := h.one
    have h := g
    obtain ⟨es, rfl, a⟩ := h.tup
    exact see_new W a
  · obtain ⟨d, rfl, g⟩ := h.one
    have h := g
    obtain ⟨k, es, rfl, a0, a⟩ := h.lst
    simp only [bList, a0]
    exact see_new W a
  · obtain ⟨d, rfl, g⟩ := h.one
    have h := g
    obtain ⟨k, hk, rfl⟩ := h.obj
    split
    · rename_i l hl
      obtain ⟨ds, a0, a⟩ := W.objL hk hl
      simp only [bList, a0]
      exact see_new W a
    · rename_i l hl
      obtain ⟨ds, a0, a⟩ := W.objRd hk hl
      simp only [bList, a0]
      exact see_new W a
    · trivial
  · trivial
theorem bools_see {ob : Obs} {X : List Nat} {A : Hpp} : ∀ {l : List Pv} {ds : List D} {bs : List Bool}, SeeL ob X A l ds → boolsP l = some bs → boolsD ds = some bs
  | [], ds, bs, h, e => by simp only [SeeL] at h; subst h; exact e
  | v :: l, ds, bs, h, e => by
    simp only [SeeL] at h
    obtain ⟨d, r, rfl, a, b⟩ := h
    cases v with
    | bl k =>
      simp only [See] at a; subst a
      simp only [boolsP] at e
      cases q : boolsP l with
      | none => rw [q] at e; cases e
      | some cs => rw [q] at e; simp only [boolsD, bools_see b q]; exact e
    | _ => simp [boolsP] at e
theorem ints_see {ob : Obs} {X : List Nat} {A : Hpp} : ∀ {l : List Pv} {ds : List D} {bs : List Int}, SeeL ob X A l ds → intsP l = some bs → intsD ds = some bs
  | [], ds, bs, h, e => by simp only [SeeL] at h; subst h; exact e
  | v :: l, ds, bs, h, e => by
    simp only [SeeL] at h
    obtain ⟨d, r, rfl, a, b⟩ := h
    cases v with
    | int k =>
      simp only [See] at a; subst a
      simp only [intsP] at e
      cases q : intsP l with
      | none => rw [q] at e; cases e
      | some cs => rw [q] at e; simp only [intsD, ints_see b q]; exact e
    | _ => simp [intsP] at e
theorem strs_see {ob : Obs} {X : List Nat} {A : Hpp} : ∀ {l : List Pv} {ds : List D} {bs : List Str}, SeeL ob X A l ds → strsP l = some bs → strsD ds = some bs
  | [], ds, bs, h, e => by simp only [SeeL] at h; subst h; exact e
  | v :: l, ds, bs, h, e => by
    simp only [SeeL] at h
    obtain ⟨d, r, rfl, a, b⟩ := h
    cases v with
    | str k =>
      simp only [See] at a; subst a
      simp only [strsP] at e
      cases q : strsP l with
      | none => rw [q] at e; cases e
      | some cs => rw [q] at e; simp only [strsD, strs_see b q]; exact e
    | _ => simp [strsP] at e
theorem bi_all : SimBI bAll pAll := by
  intro ob X A s vs ds W h
  unfold pAll
  split
  · obtain ⟨d, rfl, g⟩ := h.one
    have h := g
    obtain ⟨k, es, rfl, a0, a⟩ := h.lst
    split
    · rename_i bs hb
      simp only [bAll, a0, bools_see a hb]
      exact Post.ok W see_rfl_bl
    · trivial
  · trivial
theorem bi_any : SimBI bAny pAny := by
  intro ob X A s vs ds W h
  unfold pAny
  split
  · obtain ⟨d, rfl, g⟩ := h.one
    have h := g
    obtain ⟨k, es, rfl, a0, a⟩ := h.lst
    split
    · rename_i bs hb
      simp only [bAny, a0, bools_see a hb]
      exact Post.ok W see_rfl_bl
    · trivial
  · trivial
theorem bi_min : SimBI bMin2 pMin2 := by
  intro ob X A s vs ds W h
  unfold pMin2
  split
  · obtain ⟨d, e, rfl, h1, h2⟩ := h.two
    rw [h1.int, h2.int]
    exact Post.ok W see_rfl_int
  · trivial
theorem bi_max : SimBI bMax2 pMax2 := by
  intro ob X A s vs ds W h
  unfold pMax2
  split
  · obtain ⟨d, e, rfl, h1, h2⟩ := h.two
    rw [h1.int, h2.int]
    exact Post.ok W see_rfl_int
  · trivial
theorem bi_int : SimBI bInt pInt := by
  intro ob X A s vs ds W h
  unfold pInt
  split
  · obtain ⟨d, rfl, g⟩ := h.one
    have h := g
    rw [h.int]; exact Post.ok W see_rfl_int
  · obtain ⟨d, rfl, g⟩ := h.one
    have h := g
    rw [h.bl]; exact Post.ok W see_rfl_int
  · trivial
theorem bi_str : SimBI bStr pStr := by
  intro ob X A s vs ds W h
  unfold pStr
  split
  · obtain ⟨d, rfl, g⟩ := h.one
    have h := g
    rw [h.int]
    split
    · rename_i q; show Post _ _ _ _ _ _ (if _ then _ else _); rw [if_pos q]; exact Post.ok W see_rfl_str
    · trivial
  · obtain ⟨d, rfl, g⟩ := h.one
    have h := g
    rw [h.bl]; exact Post.ok W see_rfl_str
  · trivial
theorem bi_join {ob : Obs} {X : List Nat} {A : Hpp} {s : PSt} {v : Pv} {d : D} {vs : List Pv} {ds : List D} (W : WR ob X A s) (hv : SeeR ob X A v d) (h : SeeRL ob X A vs ds) : Post A.length (QV X) ob X A (pJoin v vs s) (mJoin d ds A) := by
  unfold pJoin
  split
  · obtain ⟨e, rfl, g⟩ := h.one
    have h := g
    obtain ⟨k, es, rfl, a0, a⟩ := h.lst
    rw [hv.str]
    split
    · rename_i ys hy
      simp only [mJoin, a0, strs_see a hy]
      split
      · exact Post.ok W see_rfl_str
      · trivial
    · trivial
  · obtain ⟨e, rfl, g⟩ := h.one
    have h := g
    obtain ⟨es, rfl, a⟩ := h.tup
    rw [hv.str]
    split
    · rename_i ys hy
      simp only [mJoin, strs_see a hy]
      split
      · exact Post.ok W see_rfl_str
      · trivial
    · trivial
  · trivial
end Rf
namespace Rf
open PySem L2
theorem Post.bindE {α β γ δ : Type} {Q : Obs → Hpp → α → β → Prop} {Q' : Obs → Hpp → γ → δ → Prop} {ob : Obs} {X : List Nat} {A : Hpp} {z : ZR α} {r : R β} {f : α → PSt → ZR γ} {g : β → Hpp → R δ}
    (h : Post A.length Q ob X A z r) (k : ∀ a c A' ob' s, Go A.length ob A ob' A' → WR ob' X A' s → Q ob' A' a c → Post A'.length Q' ob' X A' (f a s) (g c A')) : Post A.length Q' ob X A (z.bind f) (r.bind g) :=
  Post.bind h fun a c A' ob' s g1 w q => (k a c A' ob' s g1 w q).mono g1.len
mutual
def PvOf : D → Pv
  | .non => .non
  | .bl b => .bl b
  | .int i => .int i
  | .str s => .str s
  | .fn x => .fn x
  | .tup l => .tup (PvOfL l)
  | .ref _ => .non
def PvOfL : List D → List Pv
  | [] => []
  | d :: r => PvOf d :: PvOfL r
end
mutual
theorem see_cst {ob : Obs} {X : List Nat} {A : Hpp} : ∀ d : D, d.low 0 = true → See ob X A (PvOf d) d
  | .non, _ => by simp only [PvOf, See]
  | .bl _, _ => by simp only [PvOf, See]
  | .int _, _ => by simp only [PvOf, See]
  | .str _, _ => by simp only [PvOf, See]
  | .fn _, _ => by simp only [PvOf, See]
  | .tup l, h => by
    simp only [PvOf, See]
    simp only [D.low] at h
    exact ⟨l, rfl, seeL_cst l h⟩
  | .ref _, h => by simp [D.low] at h
theorem seeL_cst {ob : Obs} {X : List Nat} {A : Hpp} : ∀ l : List D, D.lowL 0 l = true → SeeL ob X A (PvOfL l) l
  | [], _ => rfl
  | d :: l, h => by
    simp only [D.lowL, Bool.and_eq_true] at h
    exact ⟨d, l, rfl, see_cst d h.1, seeL_cst l h.2⟩
end
section
variable {ma mb mc : M} {pa pb pc : ZM} {r k : ML} {pr pk : ZML}
theorem SimE.var {i : Nat} : SimE (mVar i) (pVar i) := fun b ob X A s L PL W hL => by
  unfold pVar
  split
  · rename_i v h
    obtain ⟨d, e, q⟩ := hL.val i v h
    simp only [mVar, e]
    exact Post.ok W q
  · trivial
theorem SimR.rd {i : Nat} : SimR (mVar i) (pRd i) := fun b ob X A s L PL W hL => by
  unfold pRd
  split
  · rename_i v h
    obtain ⟨d, e, q⟩ := hL.val i v h
    simp only [mVar, e]
    exact Post.ok W (.inl q)
  · rename_i v h
    obtain ⟨j, e, _, q1, q2, q⟩ := hL.own i v h
    simp only [mVar, e]
    exact Post.ok W (.inr ⟨j, rfl, q1, q2, q⟩)
  · trivial
theorem SimE.cst {d : D} {v : Pv} (h : PvOf d = v) (hl : d.low 0 = true) : SimE (mC d) (pC v) := fun b ob X A s L PL W hL => by
  subst h
  exact Post.ok W (see_cst d hl)
theorem SimE.un {op : D → Hpp → R D} {pop : Pv → PSt → ZR Pv} (ho : SimOp1 op pop) (ha : SimR ma pa) : SimE (mUn op ma) (pUn pop pa) := fun b ob X A s L PL W hL =>
  Post.bindE (ha b ob X A s L PL W hL) fun x d A1 ob1 s1 g1 W1 h1 => ho ob1 X A1 s1 x d W1 h1
theorem SimE.bin {op : D → D → Hpp → R D} {pop : ZB} (ho : SimOp2 op pop) (ha : SimR ma pa) (hb : SimR mb pb) : SimE (mBin op ma mb) (pBin pop pa pb) := fun b ob X A s L PL W hL =>
  Post.bindE (ha b ob X A s L PL W hL) fun x d A1 ob1 s1 g1 W1 h1 => Post.bindE (hb b ob1 X A1 s1 L PL W1 (hL.go g1)) fun y e A2 ob2 s2 g2 W2 h2 => ho ob2 X A2 s2 x y d e W2 (h1.go g2) h2
theorem SimB.test (ha : SimR ma pa) : SimB (mTest ma) (pTest pa) := fun b ob X A s L PL W hL =>
  Post.bindE (ha b ob X A s L PL W hL) fun x d A1 ob1 s1 g1 W1 h1 => Post.ofO W1 fun k h => ⟨k, truth_see W1 h1 h, rfl⟩
theorem SimE.and (ha : SimE ma pa) (hb : SimE mb pb) : SimE (mAnd ma mb) (pAnd pa pb) := fun b ob X A s L PL W hL =>
  Post.bindE (ha b ob X A s L PL W hL) fun x d A1 ob1 s1 g1 W1 h1 => Post.bindE (Q := QE) (Post.ofO W1 fun k h => ⟨k, truth_see W1 (.inl h1) h, rfl⟩) fun k k' A2 ob2 s2 g2 W2 h2 => by
    cases h2
    cases k with
    | true => exact hb b ob2 X A2 s2 L PL W2 ((hL.go g1).go g2)
    | false => exact Post.ok W2 (h1.go g2)
theorem SimE.or (ha : SimE ma pa) (hb : SimE mb pb) : SimE (mOr ma mb) (pOr pa pb) := fun b ob X A s L PL W hL =>
  Post.bindE (ha b ob X A s L PL W hL) fun x d A1 ob1 s1 g1 W1 h1 => Post.bindE (Q := QE) (Post.ofO W1 fun k h => ⟨k, truth_see W1 (.inl h1) h, rfl⟩) fun k k' A2 ob2 s2 g2 W2 h2 => by
    cases h2
    cases k with
    | true => exact Post.ok W2 (h1.go g2)
    | false => exact hb b ob2 X A2 s2 L PL W2 ((hL.go g1).go g2)
theorem SimE.not (ha : SimR ma pa) : SimE (mNot ma) (pNot pa) := fun b ob X A s L PL W hL =>
  Post.bindE (SimB.test ha b ob X A s L PL W hL) fun x d A1 ob1 s1 g1 W1 h1 => by cases h1; exact Post.ok W1 see_rfl_bl
theorem SimE.ifE (hc : SimR mc pc) (ha : SimE ma pa) (hb : SimE mb pb) : SimE (mIf mc ma mb) (pIf pc pa pb) := fun b ob X A s L PL W hL =>
  Post.bindE (SimB.test hc b ob X A s L PL W hL) fun x d A1 ob1 s1 g1 W1 h1 => by
    cases h1
    cases x with
    | true => exact ha b ob1 X A1 s1 L PL W1 (hL.go g1)
    | false => exact hb b ob1 X A1 s1 L PL W1 (hL.go g1)
theorem SimR.ifE (hc : SimR mc pc) (ha : SimR ma pa) (hb : SimR mb pb) : SimR (mIf mc ma mb) (pIf pc pa pb) := fun b ob X A s L PL W hL =>
  Post.bindE (SimB.test hc b ob X A s L PL W hL) fun x d A1 ob1 s1 g1 W1 h1 => by
    cases h1
    cases x with
    | true => exact ha b ob1 X A1 s1 L PL W1 (hL.go g1)
    | false => exact hb b ob1 X A1 s1 L PL W1 (hL.go g1)
theorem SimE.chain {op op' : D → D → Hpp → R D} {pop pop' : ZB} (ho : SimOp2 op pop) (ho' : SimOp2 op' pop') (ha : SimR ma pa) (hb : SimR mb pb) (hc : SimR mc pc) : SimE (mChain op op' ma mb mc) (pChain pop pop' pa pb pc) := fun b ob X A s L PL W hL =>
  Post.bindE (ha b ob X A s L PL W hL) fun x d A1 ob1 s1 g1 W1 h1 => Post.bindE (hb b ob1 X A1 s1 L PL W1 (hL.go g1)) fun y e A2 ob2 s2 g2 W2 h2 =>
    Post.bindE (ho ob2 X A2 s2 x y d e W2 (h1.go g2) h2) fun z z' A3 ob3 s3 g3 W3 h3 => by
      split
      · simp only [See] at h3; subst h3
        exact Post.bindE (hc b ob3 X A3 s3 L PL W3 (((hL.go g1).go g2).go g3)) fun w w' A4 ob4 s4 g4 W4 h4 => ho' ob4 X A4 s4 y w e w' W4 ((h2.go g3).go g4) h4
      · simp only [See] at h3; subst h3
        exact Post.ok W3 see_rfl_bl
      · trivial
theorem SimL.nil : SimL mNil pNil := fun b ob X A s L PL W hL => Post.ok W rfl
theorem SimL.cons (ha : SimE ma pa) (hr : SimL r pr) : SimL (mCons ma r) (pCons pa pr) := fun b ob X A s L PL W hL =>
  Post.bindE (ha b ob X A s L PL W hL) fun x d A1 ob1 s1 g1 W1 h1 => Post.bindE (hr b ob1 X A1 s1 L PL W1 (hL.go g1)) fun y e A2 ob2 s2 g2 W2 h2 => Post.ok W2 ⟨d, e, rfl, h1.go g2, h2⟩
def SimLR (m : ML) (p : ZML) : Prop := ∀ b ob X A s L PL, WR ob X A s → LocR b ob X A PL L → Post A.length (fun ob A v d => SeeRL ob X A v d) ob X A (p PL s) (m L A)
theorem SimLR.nil : SimLR mNil pNil := fun b ob X A s L PL W hL => Post.ok W rfl
theorem SimLR.cons (ha : SimR ma pa) (hr : SimLR r pr) : SimLR (mCons ma r) (pCons pa pr) := fun b ob X A s L PL W hL =>
  Post.bindE (ha b ob X A s L PL W hL) fun x d A1 ob1 s1 g1 W1 h1 => Post.bindE (hr b ob1 X A1 s1 L PL W1 (hL.go g1)) fun y e A2 ob2 s2 g2 W2 h2 => Post.ok W2 ⟨d, e, rfl, h1.go g2, h2⟩
theorem SimE.tup (hr : SimL r pr) : SimE (mTup r) (pTup pr) := fun b ob X A s L PL W hL =>
  Post.bindE (hr b ob X A s L PL W hL) fun x d A1 ob1 s1 g1 W1 h1 => by
    split
    · rename_i q
      rw [if_pos (by rw [h1.length]; exact q)]
      exact Post.ok W1 (see_tup h1)
    · trivial
theorem SimN.lst (hr : SimL r pr) : SimN (mLst r) (pLst pr) := fun b ob X A s L PL W hL => by
  have h := hr b ob X A s L PL W hL
  unfold pLst mLst
  cases hz : pr PL s with
  | bad => trivial
  | ex n fs s' => rw [hz] at h; obtain ⟨ds, A', ob', e, q⟩ := h; rw [e]; exact ⟨ds, A', ob', rfl, q⟩
  | ok xs s1 =>
    rw [hz] at h
    obtain ⟨ds, A1, ob1, e, g1, W1, h1⟩ := h
    rw [e]
    simp only [ZR.bind_ok, R.bind_ok]
    by_cases q : xs.length ≤ sizeLine
    · rw [if_pos q, if_pos (by rw [h1.length]; exact q)]
      obtain ⟨w2, o2⟩ := new_lst W1 h1
      exact ⟨_, _, ob1, rfl, g1.trans (Go.app _ _ _ _ g1.len), .inl ⟨_, rfl, rfl, g1.len, w2, o2⟩⟩
    · rw [if_neg q]; trivial
theorem SimE.lst (hr : SimL r pr) : SimE (mLst r) (pLst pr) := (SimN.lst hr).e
theorem SimE.bi {op : List D → Hpp → R D} {pop : ZBI} (ho : SimBI op pop) (hr : SimLR r pr) : SimE (mB op r) (pB pop pr) := fun b ob X A s L PL W hL =>
  Post.bindE (hr b ob X A s L PL W hL) fun x d A1 ob1 s1 g1 W1 h1 => ho ob1 X A1 s1 x d W1 h1
theorem SimE.sumK (hr : SimLR r pr) (hk : SimLR k pk) : SimE (mBK bSumK r k) (pBK pSumK pr pk) := fun b ob X A s L PL W hL =>
  Post.bindE (hr b ob X A s L PL W hL) fun x d A1 ob1 s1 g1 W1 h1 => Post.bindE (hk b ob1 X A1 s1 L PL W1 (hL.go g1)) fun y e A2 ob2 s2 g2 W2 h2 => by
    unfold pSumK
    split
    · obtain ⟨d', rfl, h1'⟩ := (h1.go g2).one
      obtain ⟨e', rfl, h2'⟩ := h2.one
      obtain ⟨k, es, rfl, a0, a⟩ := h1'.lst
      rw [h2'.int]
      split
      · rename_i is hi
        simp only [bSumK, a0, ints_see a hi]
        exact Post.ok W2 see_rfl_int
      · trivial
    · trivial
theorem SimE.join (ha : SimR ma pa) (hr : SimLR r pr) : SimE (mMeth isStrD mJoin ma r) (pMethS pJoin pa pr) := fun b ob X A s L PL W hL =>
  Post.bindE (ha b ob X A s L PL W hL) fun x d A1 ob1 s1 g1 W1 h1 => by
    cases x with
    | str z =>
      rw [h1.str]
      simp only [isStrP, isStrD, if_true]
      exact Post.bindE (hr b ob1 X A1 s1 L PL W1 (hL.go g1)) fun y e A2 ob2 s2 g2 W2 h2 => bi_join W2 (.inl see_rfl_str) h2
    | _ => simp only [isStrP, Bool.false_eq_true, if_false]; trivial
theorem SimO.none : SimO oNone qNone := fun b ob X A s L PL W hL => Post.ok W rfl
theorem SimO.some (ha : SimR ma pa) : SimO (oSome ma) (qSome pa) := fun b ob X A s L PL W hL =>
  Post.bindE (ha b ob X A s L PL W hL) fun x d A1 ob1 s1 g1 W1 h1 => by
    split
    · rw [h1.int]; exact Post.ok W1 rfl
    · trivial
theorem SimE.slice {lo hi : MO} {plo phi : ZMO} (ha : SimR ma pa) (hl : SimO lo plo) (hh : SimO hi phi) : SimE (mSlice ma lo hi) (pSlice pa plo phi) := fun b ob X A s L PL W hL =>
  Post.bindE (ha b ob X A s L PL W hL) fun x d A1 ob1 s1 g1 W1 h1 => Post.bindE (hl b ob1 X A1 s1 L PL W1 (hL.go g1)) fun y e A2 ob2 s2 g2 W2 h2 =>
    Post.bindE (hh b ob2 X A2 s2 L PL W2 ((hL.go g1).go g2)) fun y' e' A3 ob3 s3 g3 W3 h3 => by
      cases h2; cases h3
      exact so_sl W3 ((h1.go g2).go g3) _ _
theorem rng_see {ob : Obs} {X : List Nat} {A : Hpp} (lo : Int) (n : Nat) : SeeL ob X A (rangeP lo n) (rangeD lo n) := by
  refine .of_get (by simp [rangeP, rangeD]) fun i v d e f => ?_
  simp only [rangeP, rangeD, List.getElem?_map] at e f
  cases h : (List.range n)[i]? with
  | none => rw [h] at e; cases e
  | some j => rw [h] at e f; cases e; cases f; exact see_rfl_int
theorem rngC_see {ob : Obs} {X : List Nat} {A : Hpp} (lo c : Int) (n : Nat) : SeeL ob X A (rangePC lo c n) (rangeC lo c n) := by
  refine .of_get (by simp [rangePC, rangeC]) fun i v d e f => ?_
  simp only [rangePC, rangeC, List.getElem?_map] at e f
  cases h : (List.range n)[i]? with
  | none => rw [h] at e; cases e
  | some j => rw [h] at e f; cases e; cases f; exact see_rfl_int
theorem rg_see {ob : Obs} {X : List Nat} {A : Hpp} {s : PSt} (W : WR ob X A s) (t : Bool) (i j : Int) : Post A.length (QV X) ob X A (rgP t i j s) (rgD t i j A) := by
  unfold rgP rgD
  split
  · split
    · exact Post.ok W (see_tup (rng_see _ _))
    · exact see_new W (rng_see _ _)
  · trivial
theorem SimE.rg1 {t : Bool} (ha : SimR ma pa) : SimE (mRg1 t ma) (pRg1 t pa) := fun b ob X A s L PL W hL =>
  Post.bindE (ha b ob X A s L PL W hL) fun x d A1 ob1 s1 g1 W1 h1 => by
    split
    · rw [h1.int]; exact rg_see W1 _ _ _
    · trivial
theorem SimE.rg2 {t : Bool} (ha : SimR ma pa) (hb : SimR mb pb) : SimE (mRg2 t ma mb) (pRg2 t pa pb) := fun b ob X A s L PL W hL =>
  Post.bindE (ha b ob X A s L PL W hL) fun x d A1 ob1 s1 g1 W1 h1 => Post.bindE (hb b ob1 X A1 s1 L PL W1 (hL.go g1)) fun y e A2 ob2 s2 g2 W2 h2 => by
    split
    · rw [(h1.go g2).int, h2.int]; exact rg_see W2 _ _ _
    · trivial
/-! calls -/
def SimF (f : List D → Hpp → R D) (pf : ZF) : Prop := ∀ ob X A s vs ds, WR ob X A s → SeeL ob X A vs ds → Post A.length (QV X) ob X A (pf vs s) (f ds A)
def gOf1 : G → ZG
  | .pos j => .pos j
  | .kw j => .kw j
  | .df d => .df (PvOf d)
def gOf (gs : List G) : List ZG := gs.map gOf1
def gLow1 : G → Bool
  | .df d => d.low 0
  | _ => true
def gLow (gs : List G) : Bool := gs.all gLow1
def gPick (us ws : List D) : G → Option D
  | .pos j => us[j]?
  | .kw j => ws[j]?
  | .df d => some d
theorem gather_pick {gs : List G} {us ws : List D} : gather gs us ws = optAll (gs.map (gPick us ws)) := by
  unfold gather
  congr 1
theorem pick_see {ob : Obs} {X : List Nat} {A : Hpp} {us ws : List Pv} {ds es : List D} (h1 : SeeL ob X A us ds) (h2 : SeeL ob X A ws es) {g : G} {v : Pv} (hl : gLow1 g = true) (e : pPick us ws (gOf1 g) = some v) : ∃ d, gPick ds es g = some d ∧ See ob X A v d := by
  cases g with
  | pos j => exact h1.get e
  | kw j => exact h2.get e
  | df d => cases e; exact ⟨d, rfl, see_cst d hl⟩
theorem gather_see {ob : Obs} {X : List Nat} {A : Hpp} {us ws : List Pv} {ds es : List D} (h1 : SeeL ob X A us ds) (h2 : SeeL ob X A ws es) : ∀ (gs : List G) (vs : List Pv), gLow gs = true → pGather (gOf gs) us ws = some vs → ∃ xs, gather gs ds es = some xs ∧ SeeL ob X A vs xs
  | [], vs, _, e => by cases e; exact ⟨[], rfl, rfl⟩
  | g :: gs, vs, hl, e => by
    simp only [gLow, List.all_cons, Bool.and_eq_true] at hl
    rw [gather_pick]
    simp only [pGather, gOf, List.map_cons] at e ⊢
    cases q : pPick us ws (gOf1 g) with
    | none => rw [q] at e; simp [optAll] at e
    | some v =>
      rw [q] at e
      obtain ⟨d, hd, sd⟩ := pick_see h1 h2 hl.1 q
      rw [hd]
      simp only [optAll] at e ⊢
      cases q2 : optAll ((gs.map gOf1).map (pPick us ws)) with
      | none => rw [q2] at e; cases e
      | some vs' =>
        obtain ⟨xs, e1, e2⟩ := gather_see h1 h2 gs vs' hl.2 q2
        rw [q2] at e
        cases e
        rw [gather_pick] at e1
        rw [e1]
        exact ⟨d :: xs, rfl, d, xs, rfl, sd, e2⟩
theorem SimE.call {f : List D → Hpp → R D} {pf : ZF} {n m : Nat} {gs : List G} {pgs : List ZG} (hf : SimF f pf) (hg : gOf gs = pgs) (hl : gLow gs = true) (hr : SimL r pr) (hk : SimL k pk) : SimE (mCallV f n m gs r k) (pCallV pf n m pgs pr pk) := fun b ob X A s L PL W hL =>
  Post.bindE (hr b ob X A s L PL W hL) fun x d A1 ob1 s1 g1 W1 h1 => Post.bindE (hk b ob1 X A1 s1 L PL W1 (hL.go g1)) fun y e A2 ob2 s2 g2 W2 h2 => by
    subst hg
    split
    · rename_i q
      rw [if_pos (by rw [h1.length, h2.length]; exact q)]
      split
      · rename_i vs hv
        obtain ⟨xs, e1, e2⟩ := gather_see (h1.go g2) h2 gs vs hl hv
        rw [e1]
        exact hf ob2 X A2 s2 vs xs W2 e2
      · trivial
    · trivial
end
end Rf
namespace Rf
open PySem L2
/-! ### targets -/
section
variable {b : Nat} {ob : Obs} {X : List Nat} {A : Hpp} {PL : PLoc} {L : Loc}
theorem LocR.setV (h : LocR b ob X A PL L) {i : Nat} {v : Pv} {d : D} (q : See ob X A v d) : LocR b ob X A (PL.set i (some (.val v))) (L.set i (some d)) where
  len := by simp [h.len]
  val := fun j w e => by
    by_cases hj : j = i
    · subst hj
      have hl : j < PL.length := by have := (List.getElem?_eq_some_iff.mp e).1; simpa using this
      rw [List.getElem?_set_self hl] at e
      cases e
      exact ⟨d, List.getElem?_set_self (by rw [← h.len]; exact hl), q⟩
    · rw [List.getElem?_set_ne (Ne.symm hj)] at e ⊢
      exact h.val j w e
  own := fun j w e => by
    by_cases hj : j = i
    · subst hj
      have hl : j < PL.length := by have := (List.getElem?_eq_some_iff.mp e).1; simpa using this
      rw [List.getElem?_set_self hl] at e
      cases e
    · rw [List.getElem?_set_ne (Ne.symm hj)] at e ⊢
      exact h.own j w e
  one := fun j j' w w' k e e' f f' => by
    have ne : ∀ j w, (PL.set i (some (.val v)))[j]? = some (some (.own w)) → j ≠ i := fun j w e hj => by
      subst hj
      have hl : j < PL.length := by have := (List.getElem?_eq_some_iff.mp e).1; simpa using this
      rw [List.getElem?_set_self hl] at e
      cases e
    have n1 := ne j w e
    have n2 := ne j' w' e'
    rw [List.getElem?_set_ne (Ne.symm n1)] at e f
    rw [List.getElem?_set_ne (Ne.symm n2)] at e' f'
    exact h.one j j' w w' k e e' f f'
theorem LocR.wipe1 (h : LocR b ob X A PL L) (i : Nat) : LocR b ob X A (PL.set i none) (L.set i none) where
  len := by simp [h.len]
  val := fun j w e => by
    by_cases hj : j = i
    · subst hj
      have hl : j < PL.length := by have := (List.getElem?_eq_some_iff.mp e).1; simpa using this
      rw [List.getElem?_set_self hl] at e
      cases e
    · rw [List.getElem?_set_ne (Ne.symm hj)] at e ⊢
      exact h.val j w e
  own := fun j w e => by
    by_cases hj : j = i
    · subst hj
      have hl : j < PL.length := by have := (List.getElem?_eq_some_iff.mp e).1; simpa using this
      rw [List.getElem?_set_self hl] at e
      cases e
    · rw [List.getElem?_set_ne (Ne.symm hj)] at e ⊢
      exact h.own j w e
  one := fun j j' w w' k e e' f f' => by
    have ne : ∀ j w, (PL.set i none)[j]? = some (some (.own w)) → j ≠ i := fun j w e hj => by
      subst hj
      have hl : j < PL.length := by have := (List.getElem?_eq_some_iff.mp e).1; simpa using this
      rw [List.getElem?_set_self hl] at e
      cases e
    have n1 := ne j w e
    have n2 := ne j' w' e'
    rw [List.getElem?_set_ne (Ne.symm n1)] at e f
    rw [List.getElem?_set_ne (Ne.symm n2)] at e' f'
    exact h.one j j' w w' k e e' f f'
theorem LocR.wipe (h : LocR b ob X A PL L) : ∀ vs : List Nat, LocR b ob X A (pWipe PL vs) (wipeL L vs)
  | [] => h
  | v :: vs => (LocR.wipe h vs).wipe1 v
end
def SimT (t : T) (p : ZT) : Prop := ∀ b ob X A s v d L PL, WR ob X A s → See ob X A v d → LocR b ob X A PL L → Post A.length (fun ob' A' PL' L' => LocR b ob' X A' PL' L') ob X A (p v PL s) (t d L A)
def SimTL (t : TL) (p : ZTL) : Prop := ∀ b ob X A s v d L PL, WR ob X A s → SeeL ob X A v d → LocR b ob X A PL L → Post A.length (fun ob' A' PL' L' => LocR b ob' X A' PL' L') ob X A (p v PL s) (t d L A)
theorem SimT.var {i : Nat} : SimT (gVar i) (qVar i) := fun b ob X A s v d L PL W h hL => Post.ok W (hL.setV h)
theorem SimTL.nil : SimTL gNil' qNil := fun b ob X A s v d L PL W h hL => by
  unfold qNil
  split
  · simp only [SeeL] at h; subst h; exact Post.ok W hL
  · trivial
theorem SimTL.cons {t : T} {p : ZT} {u : TL} {pu : ZTL} (ht : SimT t p) (hu : SimTL u pu) : SimTL (gCons' t u) (qCons p pu) := fun b ob X A s v d L PL W h hL => by
  unfold qCons
  split
  · simp only [SeeL] at h
    obtain ⟨d', r', rfl, h1, h2⟩ := h
    exact Post.bindE (ht b ob X A s _ d' L PL W h1 hL) fun PL1 L1 A1 ob1 s1 g1 W1 hL1 => hu b ob1 X A1 s1 _ r' L1 PL1 W1 (h2.go g1) hL1
  · trivial
theorem SimTL.of : ∀ l : List Nat, SimTL (tlOf l) (ptlOf l)
  | [] => SimTL.nil
  | _ :: l => SimTL.cons SimT.var (SimTL.of l)
theorem seq_see {ob : Obs} {X : List Nat} {A : Hpp} {s : PSt} {v : Pv} {d : D} {l : List Pv} (W : WR ob X A s) (h : SeeR ob X A v d) (e : pSeqOf v s = some l) : ∃ ds, seqOf d A = some ds ∧ SeeL ob X A l ds := by
  unfold pSeqOf at e
  split at e
  · cases e; obtain ⟨ds, rfl, a⟩ := h.tup; exact ⟨ds, rfl, a⟩
  · cases e; obtain ⟨k, ds, rfl, a0, a⟩ := h.lst; exact ⟨ds, by simp [seqOf, a0], a⟩
  · obtain ⟨k, hk, rfl⟩ := h.obj
    split at e
    · rename_i l' hl
      cases e
      obtain ⟨ds, a0, a⟩ := W.objL hk hl
      exact ⟨ds, by simp [seqOf, a0], a⟩
    · rename_i l' hl
      cases e
      obtain ⟨ds, a0, a⟩ := W.objRd hk hl
      exact ⟨ds, by simp [seqOf, a0], a⟩
    · cases e
  · cases e
theorem SimT.tup {u : TL} {pu : ZTL} (hu : SimTL u pu) : SimT (gTup' u) (qTup pu) := fun b ob X A s v d L PL W h hL => by
  unfold qTup gTup'
  split
  · rename_i l hl
    obtain ⟨ds, e, q⟩ := seq_see W (.inl h) hl
    rw [e]
    exact hu b ob X A s l ds L PL W q hL
  · trivial
theorem SimT.tupT {u : TL} {pu : ZTL} (hu : SimTL u pu) : SimT (gTupT' u) (qTupT pu) := fun b ob X A s v d L PL W h hL => by
  unfold qTupT gTupT'
  split
  · simp only [See] at h
    obtain ⟨ds, rfl, q⟩ := h
    exact hu b ob X A s _ ds L PL W q hL
  · trivial
theorem SimT.star {x y : Nat} {u : TL} {pu : ZTL} (hu : SimTL u pu) : SimT (gStar' x y u) (qStar x y pu) := fun b ob X A s v d L PL W h hL => by
  unfold qStar gStar'
  split
  · rename_i l hl
    obtain ⟨ds, e, q⟩ := seq_see W (.inl h) hl
    rw [e]
    simp only
    split
    · rename_i hz
      rw [q.length, if_pos hz]
      obtain ⟨c, A1, ob1, e1, g1, W1, h1⟩ := see_new W ((q.drop x).take (l.length - x - y))
      cases e1
      refine (hu b ob1 X _ s _ _ L PL W1 ?_ (hL.go g1)).mono g1.len |>.lift g1
      exact ((q.take x).go g1).append (SeeL.one h1) |>.append ((q.drop _).go g1)
    · trivial
  · trivial
/-! ### sources -/
def Src.places : Src → List (Nat × List D)
  | .lst n l => [(n, l)]
  | .its _ => []
  | .zs ps _ => ps
def SrcR (ob : Obs) (X : List Nat) (A : Hpp) (l : List Pv) (src : Src) : Prop := SeeL ob X A l src.items ∧ ∀ k ds, (k, ds) ∈ src.places → Fzn ob X k ∧ A[k]? = some (.lst ds)
theorem SrcR.still {ob : Obs} {X : List Nat} {A : Hpp} {src : Src} (h : ∀ k ds, (k, ds) ∈ src.places → Fzn ob X k ∧ A[k]? = some (.lst ds)) : src.still A = true := by
  cases src with
  | lst k ds => simp only [Src.still]; exact decide_eq_true (.inl (h k ds (List.mem_singleton.mpr rfl)).2)
  | its l => rfl
  | zs ps l => simp only [Src.still]; exact List.all_eq_true.mpr fun p hp => decide_eq_true (h p.1 p.2 hp).2
def SimSrc (f : MS) (p : ZMS) : Prop := ∀ b ob X A s L PL, WR ob X A s → LocR b ob X A PL L → Post A.length (fun ob A l src => SrcR ob X A l src) ob X A (p PL s) (f L A)
theorem its_src {ob : Obs} {X : List Nat} {A : Hpp} {l : List Pv} {ds : List D} (h : SeeL ob X A l ds) : SrcR ob X A l (.its ds) := ⟨h, fun k ds e => absurd e (by simp [Src.places])⟩
theorem SimSrc.seq {a : M} {p : ZM} (ha : SimE a p) : SimSrc (srcSeq a) (qSeq p) := fun b ob X A s L PL W hL =>
  Post.bindE (ha b ob X A s L PL W hL) fun x d A1 ob1 s1 g1 W1 h1 => by
    split
    · simp only [See] at h1
      obtain ⟨ds, rfl, q⟩ := h1
      exact Post.ok W1 (its_src q)
    · simp only [See] at h1
      obtain ⟨k, ds, rfl, f, a0, q⟩ := h1
      simp only [a0]
      exact Post.ok W1 ⟨q, fun k' ds' e => by simp only [Src.places, List.mem_singleton, Prod.mk.injEq] at e; obtain ⟨rfl, rfl⟩ := e; exact ⟨f, a0⟩⟩
    · simp only [See] at h1
      subst h1
      refine Post.ok W1 (its_src (.of_get (by simp) fun i v d e f => ?_))
      rename_i z
      simp only [List.getElem?_map] at e f
      cases hz : z.cps.toList[i]? with
      | none => rw [hz] at e; cases e
      | some c => rw [hz] at e f; cases e; cases f; exact see_rfl_str
    · trivial
theorem SimSrc.range1 {a : M} {p : ZM} (ha : SimR a p) : SimSrc (srcRange1 a) (qRange1 p) := fun b ob X A s L PL W hL =>
  Post.bindE (ha b ob X A s L PL W hL) fun x d A1 ob1 s1 g1 W1 h1 => by
    split
    · rw [h1.int]
      simp only
      split
      · exact Post.ok W1 (its_src (rng_see _ _))
      · trivial
    · trivial
theorem SimSrc.range2 {a a2 : M} {p p2 : ZM} (ha : SimR a p) (hb : SimR a2 p2) : SimSrc (srcRange2 a a2) (qRange2 p p2) := fun b ob X A s L PL W hL =>
  Post.bindE (ha b ob X A s L PL W hL) fun x d A1 ob1 s1 g1 W1 h1 => Post.bindE (hb b ob1 X A1 s1 L PL W1 (hL.go g1)) fun y e A2 ob2 s2 g2 W2 h2 => by
    split
    · rw [(h1.go g2).int, h2.int]
      simp only
      split
      · exact Post.ok W2 (its_src (rng_see _ _))
      · trivial
    · trivial
theorem SimSrc.range3 {a a2 a3 : M} {p p2 p3 : ZM} (ha : SimR a p) (hb : SimR a2 p2) (hc : SimR a3 p3) : SimSrc (srcRange3 a a2 a3) (qRange3 p p2 p3) := fun b ob X A s L PL W hL =>
  Post.bindE (ha b ob X A s L PL W hL) fun x d A1 ob1 s1 g1 W1 h1 => Post.bindE (hb b ob1 X A1 s1 L PL W1 (hL.go g1)) fun y e A2 ob2 s2 g2 W2 h2 =>
    Post.bindE (hc b ob2 X A2 s2 L PL W2 ((hL.go g1).go g2)) fun z e3 A3 ob3 s3 g3 W3 h3 => by
      split
      · rw [((h1.go g2).go g3).int, (h2.go g3).int, h3.int]
        simp only
        split
        · exact Post.ok W3 (its_src (rngC_see _ _ _))
        · trivial
      · trivial
theorem zip_see {ob : Obs} {X : List Nat} {A : Hpp} : ∀ {l m : List Pv} {ds es : List D}, SeeL ob X A l ds → SeeL ob X A m es → SeeL ob X A (zipP l m) (zipD ds es)
  | [], m, ds, es, h1, h2 => by simp only [SeeL] at h1; subst h1; simp [zipP, zipD, SeeL]
  | v :: l, [], ds, es, h1, h2 => by simp only [SeeL] at h2; subst h2; simp [zipP, zipD, SeeL]
  | v :: l, w :: m, ds, es, h1, h2 => by
    simp only [SeeL] at h1 h2
    obtain ⟨d, r, rfl, a, c⟩ := h1
    obtain ⟨e, t, rfl, a', c'⟩ := h2
    have := zip_see c c'
    simp only [zipP, zipD, List.zip_cons_cons, List.map_cons] at this ⊢
    exact ⟨_, _, rfl, see_tup ⟨d, [e], rfl, a, SeeL.one a'⟩, this⟩
theorem zipOp_see {ob : Obs} {X : List Nat} {A : Hpp} {v : Pv} {d : D} {l : List Pv} (h : See ob X A v d) (e : pZipOp v = some l) : ∃ q, zipOp d A = some q ∧ SeeL ob X A l q.1 ∧ ∀ k es, (k, es) ∈ q.2 → Fzn ob X k ∧ A[k]? = some (.lst es) := by
  unfold pZipOp at e
  split at e
  · cases e
    simp only [See] at h
    obtain ⟨ds, rfl, q⟩ := h
    exact ⟨(ds, []), rfl, q, fun k es z => absurd z (by simp)⟩
  · cases e
    simp only [See] at h
    obtain ⟨k, ds, rfl, f, a, q⟩ := h
    refine ⟨(ds, [(k, ds)]), by simp [zipOp, a], q, fun k' es z => ?_⟩
    simp only [List.mem_singleton, Prod.mk.injEq] at z
    obtain ⟨rfl, rfl⟩ := z
    exact ⟨f, a⟩
  · cases e
theorem SimSrc.zipS {a a2 : M} {p p2 : ZM} (ha : SimE a p) (hb : SimE a2 p2) : SimSrc (srcZipS a a2) (qZipS p p2) := fun b ob X A s L PL W hL =>
  Post.bindE (ha b ob X A s L PL W hL) fun x d A1 ob1 s1 g1 W1 h1 => Post.bindE (hb b ob1 X A1 s1 L PL W1 (hL.go g1)) fun y e A2 ob2 s2 g2 W2 h2 => by
    split
    · rename_i xs ys hx hy
      obtain ⟨q1, e1, s1, f1⟩ := zipOp_see (h1.go g2) hx
      obtain ⟨q2, e2, s2, f2⟩ := zipOp_see h2 hy
      simp only [e1, e2]
      split
      · rename_i hz
        rw [if_pos (by rw [s1.length, s2.length]; exact hz)]
        exact Post.ok W2 ⟨zip_see s1 s2, fun k es z => (List.mem_append.mp z).elim (f1 k es) (f2 k es)⟩
      · trivial
    · trivial
/-! ### comprehensions -/
theorem WR.setX {ob : Obs} {X : List Nat} {A : Hpp} {s : PSt} (w : WR ob X A s) {n : Nat} (hn : n ∈ X) {o : HOb} (ho : o.low A.length = true) : WR ob X (A.set n o) s where
  cl := fun k u e => by
    rw [List.length_set]
    by_cases hk : k = n
    · subst hk
      rw [List.getElem?_set_self (w.xx k hn).2] at e
      cases e; exact ho
    · rw [List.getElem?_set_ne (Ne.symm hk)] at e
      exact w.cl k u e
  len := w.len
  inj := w.inj
  at_ := fun m k e => by
    obtain ⟨o', u, a, c, q⟩ := w.at_ m k e
    have hk : k ≠ n := fun z => by subst z; exact (w.xx k hn).1 (List.mem_of_getElem? e)
    exact ⟨o', u, a, by rw [List.getElem?_set_ne (Ne.symm hk)]; exact c, q.to (fun _ _ h => h) fun k u e f => ⟨f, by rw [List.getElem?_set_ne (fun z => by subst z; exact f.2 hn)]; exact e⟩⟩
  xx := fun k hk => ⟨(w.xx k hk).1, by rw [List.length_set]; exact (w.xx k hk).2⟩
theorem fz_set {ob : Obs} {X : List Nat} {A : Hpp} {n : Nat} {o : HOb} (hn : n ∈ X) : ∀ (k : Nat) (u : HOb), A[k]? = some u → Fzn ob X k → Fzn ob X k ∧ (A.set n o)[k]? = some u :=
  fun k u e f => ⟨f, by rw [List.getElem?_set_ne (fun z => by subst z; exact f.2 hn)]; exact e⟩
theorem Post.bindB {α β γ δ : Type} {b : Nat} {Q : Obs → Hpp → α → β → Prop} {Q' : Obs → Hpp → γ → δ → Prop} {ob : Obs} {X : List Nat} {A : Hpp} {z : ZR α} {r : R β} {f : α → PSt → ZR γ} {g : β → Hpp → R δ}
    (h : Post A.length Q ob X A z r) (hb : b ≤ A.length) (k : ∀ a c A' ob' s, Go A.length ob A ob' A' → WR ob' X A' s → Q ob' A' a c → Post b Q' ob' X A' (f a s) (g c A')) : Post b Q' ob X A (z.bind f) (r.bind g) := by
  cases z with
  | ok a s =>
    obtain ⟨c, A2, ob2, rfl, g2, w, q⟩ := h
    exact Post.lift (g2.mono hb) (k a c A2 ob2 s g2 w q)
  | ex n fs s => obtain ⟨c, A2, ob2, rfl, g2, w, q⟩ := h; exact ⟨c, A2, ob2, rfl, g2.mono hb, w, q⟩
  | bad => trivial
theorem src_go {ob ob' : Obs} {X : List Nat} {A A' : Hpp} {src : Src} (g : Go A.length ob A ob' A') (hs : ∀ k es, (k, es) ∈ src.places → Fzn ob X k ∧ A[k]? = some (.lst es)) : ∀ k es, (k, es) ∈ src.places → Fzn ob' X k ∧ A'[k]? = some (.lst es) := fun k es q => by
  obtain ⟨f, a⟩ := hs k es q
  exact g.fz (fun k h => .inl h) k _ a f
theorem lc_sim {b N n : Nat} {X : List Nat} {src : Src} {t : T} {pt : ZT} {c : MB} {pc : ZMB} {e : M} {pe : ZM} {L : Loc} {PL : PLoc} (ht : SimT t pt) (hc : SimB c pc) (he : SimE e pe) (hN : N ≤ n) (hnX : ∀ (i : Nat) (v : Pv), PL[i]? = some (some (.own v)) → L[i]? ≠ some (some (.ref n))) :
    ∀ (l : List Pv) (acc : List Pv) (ob : Obs) (A : Hpp) (s : PSt) (ds ads : List D), WR ob (n :: X) A s → LocR b ob (n :: X) A PL L → SeeL ob (n :: X) A l ds → (∀ k es, (k, es) ∈ src.places → Fzn ob (n :: X) k ∧ A[k]? = some (.lst es)) → A[n]? = some (.lst ads) → SeeL ob (n :: X) A acc ads →
      Post N (fun ob' A' r _ => ∃ rs, A'[n]? = some (.lst rs) ∧ SeeL ob' (n :: X) A' r rs) ob (n :: X) A (plcLoop pt pc pe PL l acc s) (lcLoop src n t c e L ds A)
  | [], acc, ob, A, s, ds, ads, W, hL, h, hs, hn, ha => by
    simp only [SeeL] at h; subst h
    simp only [plcLoop, lcLoop]
    rw [if_pos (SrcR.still hs)]
    exact Post.ok W ⟨ads, hn, ha⟩
  | v :: l, acc, ob, A, s, ds, ads, W, hL, h, hs, hn, ha => by
    simp only [SeeL] at h
    obtain ⟨d, r, rfl, h1, h2⟩ := h
    simp only [plcLoop, lcLoop]
    rw [if_pos (SrcR.still hs)]
    have nA : n < A.length := (List.getElem?_eq_some_iff.mp hn).1
    have key : ∀ {ob' : Obs} {A' : Hpp}, Go A.length ob A ob' A' → A'[n]? = some (.lst ads) := fun g => (g.keep n nA (W.xx n (List.mem_cons_self ..)).1).2.trans hn
    refine Post.bindB (ht b ob (n :: X) A s v d L PL W h1 hL) (by omega) fun PL1 L1 A1 ob1 s1 g1 W1 hL1 => ?_
    refine Post.bindB (hc b ob1 (n :: X) A1 s1 L1 PL1 W1 hL1) (by have := g1.len; omega) fun k k' A2 ob2 s2 g2 W2 hk => ?_
    cases hk
    have g12 := g1.trans (g2.mono g1.len)
    cases k with
    | false =>
      exact lc_sim ht hc he hN hnX l acc ob2 A2 s2 r ads W2 (hL.go g12) (h2.go g12) (src_go g12 hs) (key g12) (ha.go g12)
    | true =>
      refine Post.bindB (he b ob2 (n :: X) A2 s2 L1 PL1 W2 (hL1.go g2)) (by have := g12.len; omega) fun x x' A3 ob3 s3 g3 W3 hx => ?_
      have g := g12.trans (g3.mono g12.len)
      have n3 := key g
      simp only [n3]
      have la := ha.length
      by_cases q : acc.length < sizeLine
      · rw [if_pos q, if_pos (by omega)]
        have nX : n ∈ n :: X := List.mem_cons_self ..
        have hads := ha.go g
        have low : (HOb.lst (ads ++ [x'])).low A3.length = true := SeeL.low W3.lt _ _ (hads.append (SeeL.one hx))
        have fz := fz_set (ob := ob3) (A := A3) (o := .lst (ads ++ [x'])) nX
        have W4 := W3.setX nX low
        have gN : Go N ob3 A3 ob3 (A3.set n (.lst (ads ++ [x']))) := ⟨fun _ _ h => h, fun k hk h => ⟨h, by rw [List.getElem?_set_ne (by omega)]⟩, by simp⟩
        refine Post.lift gN (lc_sim (b := b) ht hc he hN hnX l (acc ++ [x]) ob3 _ s3 r (ads ++ [x']) W4 ?_ (SeeL.to (fun _ _ h => h) fz _ _ (h2.go g)) (fun k es z => ?_) (List.getElem?_set_self (by have := g.len; omega)) (SeeL.to (fun _ _ h => h) fz _ _ (hads.append (SeeL.one hx))))
        · exact (hL.go g).to (fun _ _ h => h) fz fun i v j e1 e2 hj _ hx hn => ⟨List.getElem?_set_ne (fun z => by subst z; exact hnX i v e1 e2), hx, hn⟩
        · obtain ⟨f, a⟩ := src_go g hs k es z
          exact fz k _ a f
      · rw [if_neg q]; trivial
theorem SimN.lc {fs : MS} {ps : ZMS} {t : T} {pt : ZT} {c : MB} {pc : ZMB} {e : M} {pe : ZM} {own : List Nat} (hf : SimSrc fs ps) (ht : SimT t pt) (hc : SimB c pc) (he : SimE e pe) : SimN (mLc fs t c e own) (pLc ps pt pc pe own) := fun b ob X A s L PL W hL => by
  have h := hf b ob X A s L PL W hL
  unfold pLc mLc
  cases hz : ps PL s with
  | bad => trivial
  | ex n fs s' => rw [hz] at h; obtain ⟨ds, A', ob', e, q⟩ := h; rw [e]; exact ⟨ds, A', ob', rfl, q⟩
  | ok l s1 =>
    rw [hz] at h
    obtain ⟨src, A1, ob1, e1, g1, W1, h1, hs1⟩ := h
    rw [e1]
    simp only [ZR.bind_ok, R.bind_ok]
    have nx : ∀ k ∈ A1.length :: X, k ∈ X ∨ A1.length ≤ k := fun k hk => (List.mem_cons.mp hk).elim (fun z => .inr (by omega)) .inl
    obtain ⟨W2, o2⟩ := new_lst W1 (l := []) (ds := []) rfl
    have fz := fz_app (ob := ob1) (X := X) (X' := A1.length :: X) (A := A1) (Y := [.lst []]) nx
    have hL1 := (hL.go g1).wipe own
    have hown : ∀ (i : Nat) (v : Pv), (pWipe PL own)[i]? = some (some (.own v)) → (wipeL L own)[i]? ≠ some (some (.ref A1.length)) := fun i v q1 q2 => by
      obtain ⟨j, e, _, hj, _, o⟩ := hL1.own i v q1
      rw [e] at q2; cases q2
      have := (W1.xx _ hj).2; omega
    have hL2 : LocR b ob1 (A1.length :: X) (A1 ++ [.lst []]) (pWipe PL own) (wipeL L own) := hL1.to (fun _ _ h => h) fz fun i v j _ _ hj _ hx hn => ⟨List.getElem?_append_left hj, List.mem_cons_of_mem _ hx, hn⟩
    have P := lc_sim (b := b) (N := A1.length) (X := X) (src := src) ht hc he (Nat.le_refl _) hown l [] ob1 _ s1 src.items [] W2 hL2 (SeeL.to (fun _ _ h => h) fz _ _ h1) (fun k es z => (fz k _ (hs1 k es z).2 (hs1 k es z).1)) (by simp) rfl
    have g2 : Go A.length ob A ob1 (A1 ++ [.lst []]) := g1.trans (Go.app _ _ _ _ g1.len)
    cases hp : plcLoop pt pc pe (pWipe PL own) l [] s1 with
    | bad => trivial
    | ex n fs s' =>
      rw [hp] at P
      obtain ⟨ds, A', ob', e, g, w, q⟩ := P
      rw [e]
      exact ⟨ds, A', ob', rfl, g2.trans (g.mono g1.len), w.less fun k hk => List.mem_cons_of_mem _ hk, SeeL.to (fun _ _ h => h) (fun k u e f => ⟨⟨f.1, fun z => f.2 (List.mem_cons_of_mem _ z)⟩, e⟩) _ _ q⟩
    | ok rl s2 =>
      rw [hp] at P
      obtain ⟨_, A', ob', e, g, w, rs, q1, q2⟩ := P
      rw [e]
      exact ⟨_, A', ob', rfl, g2.trans (g.mono g1.len), .inl ⟨_, rfl, rfl, g1.len, w, rs, q1, q2⟩⟩
theorem SimE.lc {fs : MS} {ps : ZMS} {t : T} {pt : ZT} {c : MB} {pc : ZMB} {e : M} {pe : ZM} {own : List Nat} (hf : SimSrc fs ps) (ht : SimT t pt) (hc : SimB c pc) (he : SimE e pe) : SimE (mLc fs t c e own) (pLc ps pt pc pe own) := (SimN.lc hf ht hc he).e
theorem SimB.yes : SimB mYes pYes := fun b ob X A s L PL W hL => Post.ok W rfl
/-- two lists put together, a new one -/
theorem SimN.add {ma mb : M} {pa pb : ZM} (ha : SimR ma pa) (hb : SimR mb pb) : SimN (mBin opAdd ma mb) (pBin pAdd pa pb) := fun b ob X A s L PL W hL => by
  have h := ha b ob X A s L PL W hL
  unfold pBin mBin
  cases hz : pa PL s with
  | bad => trivial
  | ex n fs s' => rw [hz] at h; obtain ⟨ds, A', ob', e, q⟩ := h; rw [e]; exact ⟨ds, A', ob', rfl, q⟩
  | ok x s1 =>
    rw [hz] at h
    obtain ⟨d, A1, ob1, e1, g1, W1, h1⟩ := h
    rw [e1]
    simp only [ZR.bind_ok, R.bind_ok]
    have h2 := hb b ob1 X A1 s1 L PL W1 (hL.go g1)
    cases hz2 : pb PL s1 with
    | bad => trivial
    | ex n fs s' => rw [hz2] at h2; obtain ⟨ds, A', ob', e, g, w, q⟩ := h2; rw [e]; exact ⟨ds, A', ob', rfl, g1.trans (g.mono g1.len), w, q⟩
    | ok y s2 =>
      rw [hz2] at h2
      obtain ⟨d2, A2, ob2, e2, g2, W2, h2⟩ := h2
      rw [e2]
      simp only [ZR.bind_ok, R.bind_ok]
      have g := g1.trans (g2.mono g1.len)
      have h1 := h1.go g2
      by_cases hh : ∃ l m, x = .lst l ∧ y = .lst m
      · obtain ⟨l, m, rfl, rfl⟩ := hh
        obtain ⟨i, ds, rfl, a0, a⟩ := h1.lst
        obtain ⟨j, es, rfl, b0, b'⟩ := h2.lst
        simp only [pAdd, opAdd, a0, b0]
        by_cases q : l.length + m.length ≤ sizeLine
        · rw [if_pos q, a.length, b'.length, if_pos q]
          obtain ⟨w3, o3⟩ := new_lst W2 (a.append b')
          exact ⟨_, _, ob2, rfl, g.trans (Go.app _ _ _ _ g.len), .inl ⟨_, rfl, rfl, g.len, w3, o3⟩⟩
        · rw [if_neg q]; trivial
      · have P := so_add ob2 X A2 s2 x y d d2 W2 h1 h2
        cases hp : pAdd x y s2 with
        | bad => trivial
        | ex n fs s' => rw [hp] at P; obtain ⟨ds, A', ob', e, g', w, q⟩ := P; exact ⟨ds, A', ob', e, g.trans (g'.mono g.len), w, q⟩
        | ok v s3 =>
          rw [hp] at P
          obtain ⟨dv, A', ob', e, g', w, q⟩ := P
          refine ⟨dv, A', ob', e, g.trans (g'.mono g.len), .inr ⟨?_, w, q⟩⟩
          unfold pAdd at hp
          split at hp
          · cases hp; rfl
          · cases hp; rfl
          · split at hp <;> cases hp; rfl
          · split at hp <;> cases hp; rfl
          · exact absurd ⟨_, _, rfl, rfl⟩ hh
          · cases hp
theorem SimN.list {r : ML} {pr : ZML} (hr : SimLR r pr) : SimN (mB bList r) (pB pList pr) := fun b ob X A s L PL W hL => by
  have h := hr b ob X A s L PL W hL
  unfold pB mB
  cases hz : pr PL s with
  | bad => trivial
  | ex n fs s' => rw [hz] at h; obtain ⟨ds, A', ob', e, q⟩ := h; rw [e]; exact ⟨ds, A', ob', rfl, q⟩
  | ok xs s1 =>
    rw [hz] at h
    obtain ⟨ds, A1, ob1, e1, g1, W1, h1⟩ := h
    rw [e1]
    simp only [ZR.bind_ok, R.bind_ok]
    have fin : ∀ {l : List Pv} {es : List D}, SeeL ob1 X A1 l es → (∃ d A' ob', R.ok (.ref A1.length) (A1 ++ [HOb.lst es]) = R.ok d A' ∧ Go A.length ob A ob' A' ∧ ((∃ j, d = .ref j ∧ (Pv.lst l).isLst = true ∧ A.length ≤ j ∧ WR ob' (j :: X) A' s1 ∧ OwnS ob' (j :: X) A' (.lst l) j) ∨ ((Pv.lst l).isLst = false ∧ WR ob' X A' s1 ∧ See ob' X A' (.lst l) d))) := fun q => by
      obtain ⟨w3, o3⟩ := new_lst W1 q
      exact ⟨_, _, ob1, rfl, g1.trans (Go.app _ _ _ _ g1.len), .inl ⟨_, rfl, rfl, g1.len, w3, o3⟩⟩
    unfold pList
    split
    · rename_i v s' hv
      split at hv
      · cases hv
        obtain ⟨d, rfl, g⟩ := h1.one
        obtain ⟨es, rfl, a⟩ := g.tup
        exact fin a
      · cases hv
        obtain ⟨d, rfl, g⟩ := h1.one
        obtain ⟨k, es, rfl, a0, a⟩ := g.lst
        simp only [bList, a0]
        exact fin a
      · obtain ⟨d, rfl, g⟩ := h1.one
        obtain ⟨k, hk, rfl⟩ := g.obj
        split at hv
        · rename_i l hl
          cases hv
          obtain ⟨es, a0, a⟩ := W1.objL hk hl
          simp only [bList, a0]
          exact fin a
        · rename_i l hl
          cases hv
          obtain ⟨es, a0, a⟩ := W1.objRd hk hl
          simp only [bList, a0]
          exact fin a
        · cases hv
      · cases hv
    · rename_i n fs s' hv
      split at hv
      · cases hv
      · cases hv
      · split at hv <;> cases hv
      · cases hv
    · trivial
end Rf
namespace Rf
open PySem L2
/-! ### statements -/
structure GoS (b : Nat) (ob : Obs) (X : List Nat) (A : Hpp) (ob' : Obs) (X' : List Nat) (A' : Hpp) : Prop where
  live : ∀ (n k : Nat), ob[n]? = some (some k) → ob'[n]? = some (some k)
  keep : ∀ (k : Nat), k < b → some k ∉ ob → some k ∉ ob' ∧ A'[k]? = A[k]?
  len : A.length ≤ A'.length
  xb : ∀ (k : Nat), k < b → (k ∈ X' ↔ k ∈ X)
  fz : ∀ (k : Nat) (u : HOb), A[k]? = some u → Fzn ob X k → Fzn ob' X' k ∧ A'[k]? = some u
theorem GoS.refl (b : Nat) (ob : Obs) (X : List Nat) (A : Hpp) : GoS b ob X A ob X A := ⟨fun _ _ h => h, fun _ _ h => ⟨h, rfl⟩, Nat.le_refl _, fun _ _ => Iff.rfl, fun _ _ e f => ⟨f, e⟩⟩
theorem GoS.trans {b : Nat} {ob ob1 ob2 : Obs} {X X1 X2 : List Nat} {A A1 A2 : Hpp} (g : GoS b ob X A ob1 X1 A1) (h : GoS b ob1 X1 A1 ob2 X2 A2) : GoS b ob X A ob2 X2 A2 :=
  ⟨fun n k q => h.live n k (g.live n k q), fun k hk q => by
    obtain ⟨a, e⟩ := g.keep k hk q
    obtain ⟨a', e'⟩ := h.keep k hk a
    exact ⟨a', e'.trans e⟩, Nat.le_trans g.len h.len, fun k hk => (h.xb k hk).trans (g.xb k hk), fun k u e f => by
    obtain ⟨a, c⟩ := g.fz k u e f
    exact h.fz k u c a⟩
theorem Go.s {b : Nat} {ob ob1 : Obs} {X : List Nat} {A A1 : Hpp} (g : Go A.length ob A ob1 A1) (hb : b ≤ A.length) : GoS b ob X A ob1 X A1 := ⟨g.live, (g.mono hb).keep, g.len, fun _ _ => Iff.rfl, g.fz fun k h => .inl h⟩
def OutR (b : Nat) (ob : Obs) (X : List Nat) (A : Hpp) : ZO → O → Prop
  | .nx PL, o => ∃ L, o = .nx L ∧ LocR b ob X A PL L
  | .bk PL, o => ∃ L, o = .bk L ∧ LocR b ob X A PL L
  | .ct PL, o => ∃ L, o = .ct L ∧ LocR b ob X A PL L
  | .rt v, o => ∃ d, o = .rt d ∧ See ob X A v d
def PostS (b : Nat) (ob : Obs) (X : List Nat) (A : Hpp) (z : ZR ZO) (r : R O) : Prop := match z with
  | .ok o s => ∃ o' A' ob' X', r = .ok o' A' ∧ GoS b ob X A ob' X' A' ∧ WR ob' X' A' s ∧ OutR b ob' X' A' o o'
  | .ex n fs s => ∃ ds A' ob' X', r = .ex n ds A' ∧ GoS b ob X A ob' X' A' ∧ WR ob' X' A' s ∧ SeeL ob' X' A' fs ds
  | .bad => True
def SimS (m : S) (p : ZS) : Prop := ∀ b ob X A s L PL, b ≤ A.length → WR ob X A s → LocR b ob X A PL L → PostS b ob X A (p PL s) (m L A)
section
variable {b : Nat} {ob ob1 : Obs} {X X1 : List Nat} {A A1 : Hpp} {s : PSt}
theorem PostS.ok {o : ZO} {o' : O} (w : WR ob X A s) (q : OutR b ob X A o o') : PostS b ob X A (.ok o s) (.ok o' A) := ⟨o', A, ob, X, rfl, GoS.refl _ _ _ _, w, q⟩
theorem PostS.lift {z : ZR ZO} {r : R O} (g : GoS b ob X A ob1 X1 A1) (h : PostS b ob1 X1 A1 z r) : PostS b ob X A z r := by
  cases z with
  | ok a s => obtain ⟨c, A2, ob2, X2, e, g2, w, q⟩ := h; exact ⟨c, A2, ob2, X2, e, g.trans g2, w, q⟩
  | ex n fs s => obtain ⟨c, A2, ob2, X2, e, g2, w, q⟩ := h; exact ⟨c, A2, ob2, X2, e, g.trans g2, w, q⟩
  | bad => trivial
theorem PostS.bindE {α β : Type} {Q : Obs → Hpp → α → β → Prop} {z : ZR α} {r : R β} {f : α → PSt → ZR ZO} {g : β → Hpp → R O} (hb : b ≤ A.length) (h : Post A.length Q ob X A z r)
    (k : ∀ a c A' ob' s, Go A.length ob A ob' A' → WR ob' X A' s → Q ob' A' a c → PostS b ob' X A' (f a s) (g c A')) : PostS b ob X A (z.bind f) (r.bind g) := by
  cases z with
  | ok a s =>
    obtain ⟨c, A2, ob2, rfl, g2, w, q⟩ := h
    exact PostS.lift (g2.s hb) (k a c A2 ob2 s g2 w q)
  | ex n fs s => obtain ⟨c, A2, ob2, rfl, g2, w, q⟩ := h; exact ⟨c, A2, ob2, X, rfl, g2.s hb, w, q⟩
  | bad => trivial
theorem PostS.bindS {z : ZR ZO} {r : R O} {f : ZO → PSt → ZR ZO} {g : O → Hpp → R O} (h : PostS b ob X A z r)
    (k : ∀ o o' A' ob' X' s, GoS b ob X A ob' X' A' → WR ob' X' A' s → OutR b ob' X' A' o o' → PostS b ob' X' A' (f o s) (g o' A')) : PostS b ob X A (z.bind f) (r.bind g) := by
  cases z with
  | ok a s =>
    obtain ⟨c, A2, ob2, X2, rfl, g2, w, q⟩ := h
    exact PostS.lift g2 (k a c A2 ob2 X2 s g2 w q)
  | ex n fs s => obtain ⟨c, A2, ob2, X2, rfl, g2, w, q⟩ := h; exact ⟨c, A2, ob2, X2, rfl, g2, w, q⟩
  | bad => trivial
end
section
variable {m : M} {p : ZM} {s1 s2 : S} {q1 q2 : ZS}
theorem SimS.nil : SimS sNil tNil := fun b ob X A s L PL hb W hL => PostS.ok W ⟨L, rfl, hL⟩
theorem SimS.seq (h1 : SimS s1 q1) (h2 : SimS s2 q2) : SimS (sSeq s1 s2) (tSeq q1 q2) := fun b ob X A s L PL hb W hL =>
  PostS.bindS (h1 b ob X A s L PL hb W hL) fun o o' A1 ob1 X1 s1 g W1 q => by
    cases o with
    | nx PL1 => obtain ⟨L1, rfl, hL1⟩ := q; exact h2 b ob1 X1 A1 s1 L1 PL1 (Nat.le_trans hb g.len) W1 hL1
    | bk PL1 => obtain ⟨L1, rfl, hL1⟩ := q; exact PostS.ok W1 ⟨L1, rfl, hL1⟩
    | ct PL1 => obtain ⟨L1, rfl, hL1⟩ := q; exact PostS.ok W1 ⟨L1, rfl, hL1⟩
    | rt v => obtain ⟨d, rfl, h⟩ := q; exact PostS.ok W1 ⟨d, rfl, h⟩
theorem SimS.ret (h : SimE m p) : SimS (sRet m) (tRet p) := fun b ob X A s L PL hb W hL =>
  PostS.bindE hb (h b ob X A s L PL W hL) fun v d A1 ob1 s1 g W1 q => PostS.ok W1 ⟨d, rfl, q⟩
theorem SimS.retN : SimS sRetN tRetN := fun b ob X A s L PL hb W hL => PostS.ok W ⟨_, rfl, see_rfl_non⟩
theorem SimS.drop (h : SimR m p) : SimS (sDrop m) (tDrop p) := fun b ob X A s L PL hb W hL =>
  PostS.bindE hb (h b ob X A s L PL W hL) fun v d A1 ob1 s1 g W1 q => PostS.ok W1 ⟨L, rfl, hL.go g⟩
theorem SimS.asg {t : T} {pt : ZT} (h : SimE m p) (ht : SimT t pt) : SimS (sAsg m t) (tAsg p pt) := fun b ob X A s L PL hb W hL =>
  PostS.bindE hb (h b ob X A s L PL W hL) fun v d A1 ob1 s1 g W1 q =>
    PostS.bindE (Nat.le_trans hb g.len) (ht b ob1 X A1 s1 v d L PL W1 q (hL.go g)) fun PL2 L2 A2 ob2 s2 g2 W2 q2 => PostS.ok W2 ⟨L2, rfl, q2⟩
theorem LocR.setO {b : Nat} {ob : Obs} {X : List Nat} {A : Hpp} {PL : PLoc} {L : Loc} (h : LocR b ob X A PL L) {i j : Nat} {v : Pv} (hb : b ≤ j) (hx : j ∈ X) (hn : some j ∉ ob) (o : OwnS ob X A v j) (hne : ∀ (i' : Nat) (w : Pv), i' ≠ i → PL[i']? = some (some (.own w)) → L[i']? ≠ some (some (.ref j))) : LocR b ob X A (PL.set i (some (.own v))) (L.set i (some (.ref j))) where
  len := by simp [h.len]
  val := fun k w e => by
    by_cases hj : k = i
    · subst hj
      have hl : k < PL.length := by have := (List.getElem?_eq_some_iff.mp e).1; simpa using this
      rw [List.getElem?_set_self hl] at e
      cases e
    · rw [List.getElem?_set_ne (Ne.symm hj)] at e ⊢
      exact h.val k w e
  own := fun k w e => by
    by_cases hj : k = i
    · subst hj
      have hl : k < PL.length := by have := (List.getElem?_eq_some_iff.mp e).1; simpa using this
      rw [List.getElem?_set_self hl] at e
      cases e
      exact ⟨j, List.getElem?_set_self (by rw [← h.len]; exact hl), hb, hx, hn, o⟩
    · rw [List.getElem?_set_ne (Ne.symm hj)] at e ⊢
      exact h.own k w e
  one := fun k k' w w' a e e' f f' => by
    have st : ∀ k w, (PL.set i (some (.own v)))[k]? = some (some (.own w)) → (L.set i (some (.ref j)))[k]? = some (some (.ref a)) → (k = i ∧ a = j) ∨ (k ≠ i ∧ PL[k]? = some (some (.own w)) ∧ L[k]? = some (some (.ref a))) := fun k w e f => by
      by_cases hk : k = i
      · subst hk
        have hl : k < L.length := by have := (List.getElem?_eq_some_iff.mp f).1; simpa using this
        rw [List.getElem?_set_self hl] at f
        cases f
        exact .inl ⟨rfl, rfl⟩
      · rw [List.getElem?_set_ne (Ne.symm hk)] at e f
        exact .inr ⟨hk, e, f⟩
    rcases st k w e f with ⟨r1, r2⟩ | ⟨r1, r2, r3⟩
    · rcases st k' w' e' f' with ⟨t1, t2⟩ | ⟨t1, t2, t3⟩
      · rw [r1, t1]
      · subst r2; exact absurd t3 (hne k' w' t1 t2)
    · rcases st k' w' e' f' with ⟨t1, t2⟩ | ⟨t1, t2, t3⟩
      · subst t2; exact absurd r3 (hne k w r1 r2)
      · exact h.one k k' w w' a r2 t2 r3 t3
theorem SimS.own {i : Nat} (h : SimN m p) : SimS (sAsg m (gVar i)) (tOwn p i) := fun b ob X A s L PL hb W hL => by
  have q := h b ob X A s L PL W hL
  unfold tOwn sAsg
  cases hz : p PL s with
  | bad => trivial
  | ex n fs s' => rw [hz] at q; obtain ⟨ds, A', ob', e, g, w, z⟩ := q; rw [e]; exact ⟨ds, A', ob', X, rfl, g.s hb, w, z⟩
  | ok v s' =>
    rw [hz] at q
    obtain ⟨d, A', ob', e, g, q⟩ := q
    rw [e]
    simp only [ZR.bind_ok, R.bind_ok, gVar]
    rcases q with ⟨j, rfl, hv, hj, w, o⟩ | ⟨hv, w, o⟩
    · rw [if_pos hv]
      have hx : ∀ k ∈ j :: X, k ∈ X ∨ A.length ≤ k := fun k hk => (List.mem_cons.mp hk).elim (fun z => .inr (by omega)) .inl
      have hL1 : LocR b ob' (j :: X) A' PL L := hL.to g.live (g.fz hx) fun i v k _ _ hk _ h1 h2 => ⟨(g.keep k hk h2).2, List.mem_cons_of_mem _ h1, (g.keep k hk h2).1⟩
      refine ⟨_, A', ob', j :: X, rfl, ⟨g.live, (g.mono hb).keep, g.len, fun k hk => ⟨fun z => (List.mem_cons.mp z).elim (fun z => by omega) id, List.mem_cons_of_mem _⟩, g.fz hx⟩, w, _, rfl, ?_⟩
      refine hL1.setO (by omega) (List.mem_cons_self ..) (w.xx j (List.mem_cons_self ..)).1 o fun i' w' _ e1 e2 => ?_
      obtain ⟨k, e3, _, h1, _, _⟩ := hL.own i' w' e1
      rw [e3] at e2; cases e2
      have := (W.xx j h1).2; omega
    · rw [hv]
      simp only [Bool.false_eq_true, if_false]
      exact ⟨_, A', ob', X, rfl, g.s hb, w, _, rfl, (hL.go g).setV o⟩
/-- what is frozen ahead of a statement -/
def frz1 (L : PLoc) (i : Nat) : PLoc := match L[i]? with
  | some (some (.own v)) => L.set i (some (.val v))
  | _ => L
def frz (L : PLoc) : List Nat → PLoc
  | [] => L
  | i :: is => frz (frz1 L i) is
def tFrz (is : List Nat) (q : ZS) : ZS := fun L s => q (frz L is) s
theorem frz1_ok {b : Nat} {ob : Obs} {X : List Nat} {A : Hpp} {s : PSt} {PL : PLoc} {L : Loc} (W : WR ob X A s) (hL : LocR b ob X A PL L) (i : Nat) : ∃ X', (∀ k, k < b → (k ∈ X' ↔ k ∈ X)) ∧ (∀ k ∈ X', k ∈ X) ∧ LocR b ob X' A (frz1 PL i) L := by
  unfold frz1
  split
  · rename_i v h
    obtain ⟨j, e, hj, hx, hn, o⟩ := hL.own i v h
    have sub : ∀ k ∈ X.filter (· ≠ j), k ∈ X := fun k hk => (List.mem_filter.mp hk).1
    have fz : ∀ (k : Nat) (u : HOb), A[k]? = some u → Fzn ob X k → Fzn ob (X.filter (· ≠ j)) k ∧ A[k]? = some u := fun k u e f => ⟨⟨f.1, fun z => f.2 (sub k z)⟩, e⟩
    have hl : i < PL.length := (List.getElem?_eq_some_iff.mp h).1
    refine ⟨X.filter (· ≠ j), fun k hk => ⟨sub k, fun z => List.mem_filter.mpr ⟨z, by simp; omega⟩⟩, sub, ?_⟩
    refine ⟨by simp [hL.len], fun k w q => ?_, fun k w q => ?_, fun k k' w w' a q q' f f' => ?_⟩
    · by_cases hk : k = i
      · subst hk
        rw [List.getElem?_set_self hl] at q
        cases q
        exact ⟨_, e, OwnS.see (o.to (fun _ _ h => h) fz rfl) ⟨hn, fun z => by simpa using (List.mem_filter.mp z).2⟩⟩
      · rw [List.getElem?_set_ne (Ne.symm hk)] at q
        obtain ⟨d, e1, e2⟩ := hL.val k w q
        exact ⟨d, e1, See.to (fun _ _ h => h) fz _ _ e2⟩
    · by_cases hk : k = i
      · subst hk
        rw [List.getElem?_set_self hl] at q
        cases q
      · rw [List.getElem?_set_ne (Ne.symm hk)] at q
        obtain ⟨j', e1, e2, e3, e4, e5⟩ := hL.own k w q
        have : j' ≠ j := fun z => by subst z; exact hk (hL.one k i w v j' q h e1 e)
        exact ⟨j', e1, e2, List.mem_filter.mpr ⟨e3, by simpa using this⟩, e4, e5.to (fun _ _ h => h) fz rfl⟩
    · have ne : ∀ (k : Nat) (w : Pv), (PL.set i (some (.val v)))[k]? = some (some (.own w)) → k ≠ i := fun k w q hk => by
        subst hk
        rw [List.getElem?_set_self hl] at q
        cases q
      have n1 := ne k w q
      have n2 := ne k' w' q'
      rw [List.getElem?_set_ne (Ne.symm n1)] at q
      rw [List.getElem?_set_ne (Ne.symm n2)] at q'
      exact hL.one k k' w w' a q q' f f'
  · exact ⟨X, fun _ _ => Iff.rfl, fun _ h => h, hL⟩
theorem frz_ok {b : Nat} {ob : Obs} {A : Hpp} {s : PSt} {L : Loc} : ∀ (is : List Nat) {X : List Nat} {PL : PLoc}, WR ob X A s → LocR b ob X A PL L → ∃ X', (∀ k, k < b → (k ∈ X' ↔ k ∈ X)) ∧ (∀ k ∈ X', k ∈ X) ∧ LocR b ob X' A (frz PL is) L
  | [], X, PL, W, hL => ⟨X, fun _ _ => Iff.rfl, fun _ h => h, hL⟩
  | i :: is, X, PL, W, hL => by
    obtain ⟨X1, a1, b1, c1⟩ := frz1_ok W hL i
    obtain ⟨X2, a2, b2, c2⟩ := frz_ok is (W.less b1) c1
    exact ⟨X2, fun k hk => (a2 k hk).trans (a1 k hk), fun k hk => b1 k (b2 k hk), c2⟩
theorem SimS.frz {is : List Nat} (h : SimS s1 q1) : SimS s1 (tFrz is q1) := fun b ob X A s L PL hb W hL => by
  obtain ⟨X', a, c, hL'⟩ := frz_ok is W hL
  refine PostS.lift (X1 := X') ⟨fun _ _ h => h, fun _ _ h => ⟨h, rfl⟩, Nat.le_refl _, a, fun k u e f => ⟨⟨f.1, fun z => f.2 (c k z)⟩, e⟩⟩ (h b ob X' A s L _ hb (W.less c) hL')
theorem SimS.ifS (hc : SimR m p) (h1 : SimS s1 q1) (h2 : SimS s2 q2) : SimS (sIf m s1 s2) (tIf p q1 q2) := fun b ob X A s L PL hb W hL =>
  PostS.bindE hb (SimB.test hc b ob X A s L PL W hL) fun k k' A1 ob1 s1 g W1 q => by
    cases q
    cases k with
    | true => exact h1 b ob1 X A1 s1 L PL (Nat.le_trans hb g.len) W1 (hL.go g)
    | false => exact h2 b ob1 X A1 s1 L PL (Nat.le_trans hb g.len) W1 (hL.go g)
theorem SimS.bad {s1 : S} : SimS s1 tBad := fun b ob X A s L PL hb W hL => trivial
theorem SimS.brk : SimS sBreak tBreak := fun b ob X A s L PL hb W hL => PostS.ok W ⟨L, rfl, hL⟩
theorem SimS.cont : SimS sCont tCont := fun b ob X A s L PL hb W hL => PostS.ok W ⟨L, rfl, hL⟩
theorem SimS.par {i j : Nat} {r : ML} {pr : ZML} (hr : SimL r pr) : SimS (sPar i j r) (tPar i j pr) := fun b ob X A s L PL hb W hL =>
  PostS.bindE hb (hr b ob X A s L PL W hL) fun vs ds A1 ob1 s1 g W1 q => by
    split
    · simp only [QL, SeeL] at q
      obtain ⟨d, r, rfl, h1, e, t, rfl, h2, rfl⟩ := q
      exact PostS.ok W1 ⟨_, rfl, ((hL.go g).setV h1).setV h2⟩
    · trivial
theorem SimS.par3 {i j l : Nat} {r : ML} {pr : ZML} (hr : SimL r pr) : SimS (sPar3 i j l r) (tPar3 i j l pr) := fun b ob X A s L PL hb W hL =>
  PostS.bindE hb (hr b ob X A s L PL W hL) fun vs ds A1 ob1 s1 g W1 q => by
    split
    · simp only [QL, SeeL] at q
      obtain ⟨d, r, rfl, h1, e, t, rfl, h2, e', t', rfl, h3, rfl⟩ := q
      exact PostS.ok W1 ⟨_, rfl, (((hL.go g).setV h1).setV h2).setV h3⟩
    · trivial
theorem SimS.aug {op : D → D → Hpp → R D} {pop : ZB} {i : Nat} (ho : SimOp2 op pop) (h : SimR m p) : SimS (sAug op i m) (tAug pop i p) := fun b ob X A s L PL hb W hL =>
  PostS.bindE hb (SimE.var b ob X A s L PL W hL) fun x d A1 ob1 s1 g1 W1 h1 => PostS.bindE (Nat.le_trans hb g1.len) (h b ob1 X A1 s1 L PL W1 (hL.go g1)) fun y e A2 ob2 s2 g2 W2 h2 =>
    PostS.bindE (Nat.le_trans hb (Nat.le_trans g1.len g2.len)) (ho ob2 X A2 s2 x y d e W2 (.inl (h1.go g2)) h2) fun z z' A3 ob3 s3 g3 W3 h3 => PostS.ok W3 ⟨_, rfl, (((hL.go g1).go g2).go g3).setV h3⟩
/-- an own list grows -/
theorem own_write {b : Nat} {ob : Obs} {X : List Nat} {A : Hpp} {s : PSt} {PL : PLoc} {L : Loc} {i j : Nat} {v w : Pv} {o : HOb} (hb : b ≤ A.length) (W : WR ob X A s) (hL : LocR b ob X A PL L) (hi : PL[i]? = some (some (.own v))) (hj : L[i]? = some (some (.ref j))) (bj : b ≤ j) (hx : j ∈ X) (hn : some j ∉ ob)
    (hlow : o.low A.length = true) (hw : ∀ fz : (∀ (k : Nat) (u : HOb), A[k]? = some u → Fzn ob X k → Fzn ob X k ∧ (A.set j o)[k]? = some u), OwnS ob X (A.set j o) w j) :
    PostS b ob X A (.ok (.nx (PL.set i (some (.own w)))) s) (.ok (.nx L) (A.set j o)) := by
  have fz := fz_set (ob := ob) (A := A) (o := o) hx
  refine ⟨_, _, ob, X, rfl, ⟨fun _ _ h => h, fun k hk h => ⟨h, List.getElem?_set_ne (by omega)⟩, by simp, fun _ _ => Iff.rfl, fz⟩, W.setX hx hlow, L, rfl, ?_⟩
  have hl : i < L.length := (List.getElem?_eq_some_iff.mp hj).1
  have hl' : i < PL.length := (List.getElem?_eq_some_iff.mp hi).1
  refine ⟨by simp [hL.len], fun k u q => ?_, fun k u q => ?_, fun k k' u u' a q q' f f' => ?_⟩
  · by_cases hk : k = i
    · subst hk; rw [List.getElem?_set_self hl'] at q; cases q
    · rw [List.getElem?_set_ne (Ne.symm hk)] at q
      obtain ⟨d, e1, e2⟩ := hL.val k u q
      exact ⟨d, e1, See.to (fun _ _ h => h) fz _ _ e2⟩
  · by_cases hk : k = i
    · subst hk; rw [List.getElem?_set_self hl'] at q; cases q
      exact ⟨j, hj, bj, hx, hn, hw fz⟩
    · rw [List.getElem?_set_ne (Ne.symm hk)] at q
      obtain ⟨j', e1, e2, e3, e4, e5⟩ := hL.own k u q
      have : j' ≠ j := fun z => by subst z; exact hk (hL.one k i u v j' q hi e1 hj)
      exact ⟨j', e1, e2, e3, e4, e5.to (fun _ _ h => h) fz (List.getElem?_set_ne (Ne.symm this))⟩
  · have ow : ∀ (k : Nat) (u : Pv), (PL.set i (some (Sl.own w)))[k]? = some (some (Sl.own u)) → ∃ u' : Pv, PL[k]? = some (some (.own u')) := fun k u q => by
      by_cases hk : k = i
      · subst hk; exact ⟨v, hi⟩
      · rw [List.getElem?_set_ne (Ne.symm hk)] at q; exact ⟨u, q⟩
    obtain ⟨x1, y1⟩ := ow k u q
    obtain ⟨x2, y2⟩ := ow k' u' q'
    exact hL.one k k' x1 x2 a y1 y2 f f'
theorem SimS.app {i : Nat} (h : SimE m p) : SimS (sDrop (mMeth isLst mAppend (mVar i) (mCons m mNil))) (tApp i p) := fun b ob X A s L PL hb W hL => by
  unfold tApp
  split
  · rename_i l hi
    obtain ⟨j, e, bj, hx, hn, ds, a, q⟩ := hL.own i _ hi
    have e1 : sDrop (mMeth isLst mAppend (mVar i) (mCons m mNil)) L A = (m L A).bind fun x A1 => (mAppend (.ref j) [x] A1).bind fun _ A2 => .ok (.nx L) A2 := by
      have il : isLst (.ref j) A = true := by simp [isLst, a]
      simp only [sDrop, mMeth, mVar, e, R.bind_ok, il, if_true, mCons, mNil]
      cases m L A <;> rfl
    rw [e1]
    refine PostS.bindE hb (h b ob X A s L PL W hL) fun x d A1 ob1 s1 g1 W1 h1 => ?_
    obtain ⟨hn1, a1⟩ := g1.keep j (List.getElem?_eq_some_iff.mp a).1 hn
    rw [a] at a1
    have q1 := q.go g1
    by_cases z : l.length < sizeLine
    · rw [if_pos z]
      have e2 : mAppend (.ref j) [d] A1 = .ok .non (A1.set j (.lst (ds ++ [d]))) := by
        simp only [mAppend, a1]; rw [q.length, if_pos z]
      rw [e2]
      simp only [R.bind_ok]
      have hL1 := hL.go g1
      refine own_write (Nat.le_trans hb g1.len) W1 hL1 hi e bj hx hn1 (SeeL.low W1.lt _ _ (q1.append (SeeL.one h1))) fun fz => ?_
      exact ⟨ds ++ [d], List.getElem?_set_self (List.getElem?_eq_some_iff.mp a1).1, SeeL.to (fun _ _ h => h) fz _ _ (q1.append (SeeL.one h1))⟩
    · rw [if_neg z]; trivial
  · trivial
theorem SimS.ext {i : Nat} (h : SimR m p) : SimS (sDrop (mMeth isLst mExtend (mVar i) (mCons m mNil))) (tExt i p) := fun b ob X A s L PL hb W hL => by
  unfold tExt
  split
  · rename_i l hi
    obtain ⟨j, e, bj, hx, hn, ds, a, q⟩ := hL.own i _ hi
    have e1 : sDrop (mMeth isLst mExtend (mVar i) (mCons m mNil)) L A = (m L A).bind fun x A1 => (mExtend (.ref j) [x] A1).bind fun _ A2 => .ok (.nx L) A2 := by
      have il : isLst (.ref j) A = true := by simp [isLst, a]
      simp only [sDrop, mMeth, mVar, e, R.bind_ok, il, if_true, mCons, mNil]
      cases m L A <;> rfl
    rw [e1]
    refine PostS.bindE hb (h b ob X A s L PL W hL) fun x d A1 ob1 s1 g1 W1 h1 => ?_
    obtain ⟨hn1, a1⟩ := g1.keep j (List.getElem?_eq_some_iff.mp a).1 hn
    rw [a] at a1
    have q1 := q.go g1
    split
    · obtain ⟨k, es, rfl, b0, b1⟩ := h1.lst
      split
      · rename_i r z
        have e2 : mExtend (.ref j) [.ref k] A1 = .ok .non (A1.set j (.lst (ds ++ es))) := by
          simp only [mExtend, a1, b0]; rw [q.length, b1.length, if_pos z]
        rw [e2]
        simp only [R.bind_ok]
        have hL1 := hL.go g1
        refine own_write (Nat.le_trans hb g1.len) W1 hL1 hi e bj hx hn1 (SeeL.low W1.lt _ _ (q1.append b1)) fun fz => ?_
        exact ⟨ds ++ es, List.getElem?_set_self (List.getElem?_eq_some_iff.mp a1).1, SeeL.to (fun _ _ h => h) fz _ _ (q1.append b1)⟩
      · trivial
    · trivial
  · trivial
end
end Rf
namespace Rf
open PySem L2
/-! ### o[i] = v -/
theorem any_key {ks : List Key} {ds : List D} {q : Key} (hl : ks.length = ds.length) : ((ks.zip ds).any fun kv => decide (kv.1 = q)) = ks.any fun k => decide (k = q) := by
  induction ks generalizing ds with
  | nil => simp
  | cons k ks ih =>
    cases ds with
    | nil => simp at hl
    | cons d ds => rw [List.zip_cons_cons, List.any_cons, ih (by simpa using hl), List.any_cons]
theorem putV_see {ob : Obs} {X : List Nat} {A : Hpp} {q : Key} {v : Pv} {d : D} (h : See ob X A v d) : ∀ {ks : List Key} {vs : List Pv} {ds : List D}, ks.length = ds.length → SeeL ob X A vs ds → ∃ es, ks.length = es.length ∧ ((ks.zip ds).map fun kv => if kv.1 = q then (kv.1, d) else kv) = ks.zip es ∧ SeeL ob X A (pPutV ks vs q v) es
  | [], vs, ds, hl, hs => ⟨[], rfl, rfl, by cases vs <;> simp [pPutV, SeeL]⟩
  | k :: ks, [], ds, hl, hs => by simp only [SeeL] at hs; subst hs; simp at hl
  | k :: ks, u :: vs, ds, hl, hs => by
    simp only [SeeL] at hs
    obtain ⟨e, r, rfl, a, c⟩ := hs
    obtain ⟨es, l1, e1, s1⟩ := putV_see h (by simpa using hl) c (q := q) (ks := ks)
    by_cases hk : k = q
    · refine ⟨d :: es, by simp [l1], ?_, ?_⟩
      · simp only [List.zip_cons_cons, List.map_cons, e1, if_pos hk]
      · simp only [pPutV, if_pos hk]; exact ⟨d, es, rfl, h, s1⟩
    · refine ⟨e :: es, by simp [l1], ?_, ?_⟩
      · simp only [List.zip_cons_cons, List.map_cons, e1, if_neg hk]
      · simp only [pPutV, if_neg hk]; exact ⟨e, es, rfl, a, s1⟩
theorem put_see {ob : Obs} {X : List Nat} {A : Hpp} {q : Key} {v : Pv} {d : D} (h : See ob X A v d) {ks : List Key} {vs : List Pv} {ds : List D} (hl : ks.length = ds.length) (hs : SeeL ob X A vs ds) : ∃ es, (pPut ks vs q v).1.length = es.length ∧ putD (ks.zip ds) q d = (pPut ks vs q v).1.zip es ∧ SeeL ob X A (pPut ks vs q v).2 es := by
  unfold pPut putD
  rw [any_key hl]
  by_cases hc : (ks.any fun k => decide (k = q)) = true
  · rw [if_pos hc, if_pos hc]
    obtain ⟨es, l1, e1, s1⟩ := putV_see h hl hs (q := q)
    exact ⟨es, l1, e1, s1⟩
  · rw [if_neg hc, if_neg hc]
    exact ⟨ds ++ [d], by simp [hl], by rw [List.zip_append hl]; rfl, hs.append (SeeL.one h)⟩
theorem zipvals {ks : List Key} {es : List D} (hl : ks.length = es.length) : (ks.zip es).map (·.2) = es := by
  induction ks generalizing es with
  | nil => cases es; rfl; simp at hl
  | cons k ks ih =>
    cases es with
    | nil => simp at hl
    | cons e es => simp [ih (by simpa using hl)]
section
variable {ma mk mo : M} {pa pk po : ZM}
theorem SimS.setOwn {i : Nat} (ha : SimE ma pa) (hk : SimR mk pk) : SimS (sAsg ma (gSub' (mVar i) mk)) (tSetOwn i pa pk) := fun b ob X A s L PL hb W hL => by
  unfold tSetOwn sAsg
  refine PostS.bindE hb (ha b ob X A s L PL W hL) fun v d A1 ob1 s1 g1 W1 h1 => ?_
  have hL1 := hL.go g1
  have hb1 := Nat.le_trans hb g1.len
  split
  · rename_i x hi
    obtain ⟨j, e, bj, hx, hn, o⟩ := hL1.own i _ hi
    have e1 : (gSub' (mVar i) mk d L A1).bind (fun L1 A2 => R.ok (O.nx L1) A2) = (mk L A1).bind fun iv A2 => (setIx (.ref j) iv d A2).bind fun _ A3 => .ok (.nx L) A3 := by
      simp only [gSub', mVar, e, R.bind_ok]
      cases mk L A1 with
      | ok iv A2 => simp only [R.bind_ok]; cases setIx (.ref j) iv d A2 <;> rfl
      | ex c fs A2 => rfl
      | bad => rfl
    rw [e1]
    refine PostS.bindE hb1 (hk b ob1 X A1 s1 L PL W1 hL1) fun kv iv A2 ob2 s2 g2 W2 h2 => ?_
    obtain ⟨hn2, a2⟩ := g2.keep j o.lt hn
    have o2 : OwnS ob2 X A2 x j := o.to g2.live (g2.fz fun k h => .inl h) a2
    have jl := o2.lt
    have hv := h1.go g2
    have hL2 := hL1.go g2
    split
    · rename_i y hy
      unfold pSetV at hy
      split at hy
      · rename_i l k
        obtain ⟨ds, a, q⟩ := o2
        rw [h2.int]
        cases hz : ixN l.length k with
        | none => rw [hz] at hy; cases hy
        | some n =>
          rw [hz] at hy; cases hy
          have e2 : setIx (.ref j) (.int k) d A2 = .ok () (A2.set j (.lst (ds.set n d))) := by
            simp only [setIx, a, q.length, hz]
          rw [e2]
          simp only [R.bind_ok]
          refine own_write (Nat.le_trans hb1 g2.len) W2 hL2 hi e bj hx hn2 (SeeL.low W2.lt _ _ (q.set n hv)) fun fz => ?_
          exact ⟨_, List.getElem?_set_self jl, SeeL.to (fun _ _ h => h) fz _ _ (q.set n hv)⟩
      · rename_i ks vs
        obtain ⟨ds, a, hl, q⟩ := o2
        split at hy
        · rename_i k hkey
          split at hy
          · rename_i hz
            cases hy
            obtain ⟨es, l1, e2, q2⟩ := put_see hv hl q (q := k)
            have e3 : setIx (.ref j) iv d A2 = .ok () (A2.set j (.dct (putD (ks.zip ds) k d))) := by
              simp only [setIx, a, key_see h2 hkey]
              rw [if_pos]
              rw [List.length_zip]; omega
            rw [e3, e2]
            simp only [R.bind_ok]
            refine own_write (Nat.le_trans hb1 g2.len) W2 hL2 hi e bj hx hn2 ?_ fun fz => ?_
            · simp only [HOb.low, zipvals l1]
              exact SeeL.low W2.lt _ _ q2
            · exact ⟨es, List.getElem?_set_self jl, l1, SeeL.to (fun _ _ h => h) fz _ _ q2⟩
          · cases hy
        · cases hy
      · cases hy
    · trivial
  · trivial
/-- an object is written -/
theorem obj_write {b : Nat} {ob : Obs} {X : List Nat} {A : Hpp} {s : PSt} {n k : Nat} {o : Ob} {u : HOb} (W : WR ob X A s) (hk : ob[n]? = some (some k)) (hlow : u.low A.length = true) (ho : ObS ob X A o u) : WR ob X (A.set k u) (s.set n o) ∧ (∀ (j : Nat) (w : HOb), A[j]? = some w → Fzn ob X j → Fzn ob X j ∧ (A.set k u)[j]? = some w) := by
  have fz : ∀ (j : Nat) (w : HOb), A[j]? = some w → Fzn ob X j → Fzn ob X j ∧ (A.set k u)[j]? = some w := fun j w e f => ⟨f, by
    rw [List.getElem?_set_ne (fun z => by subst z; exact f.1 (List.mem_of_getElem? hk))]; exact e⟩
  have kl := W.lt n k hk
  refine ⟨⟨fun j w e => ?_, by rw [List.length_set]; exact W.len, W.inj, fun m j e => ?_, fun j hj => ⟨(W.xx j hj).1, by rw [List.length_set]; exact (W.xx j hj).2⟩⟩, fz⟩
  · rw [List.length_set]
    by_cases z : j = k
    · subst z; rw [List.getElem?_set_self kl] at e; cases e; exact hlow
    · rw [List.getElem?_set_ne (Ne.symm z)] at e; exact W.cl j w e
  · by_cases z : m = n
    · subst z
      rw [hk] at e; cases e
      have hm : m < s.length := by rw [W.len]; exact (List.getElem?_eq_some_iff.mp hk).1
      exact ⟨o, u, List.getElem?_set_self hm, List.getElem?_set_self kl, ho.to (fun _ _ h => h) fz⟩
    · obtain ⟨o', u', a, c, q⟩ := W.at_ m j e
      have : j ≠ k := fun y => by subst y; exact z (W.inj m n j e hk)
      exact ⟨o', u', by rw [List.getElem?_set_ne (Ne.symm z)]; exact a, by rw [List.getElem?_set_ne (Ne.symm this)]; exact c, q.to (fun _ _ h => h) fz⟩
theorem SimS.setObj (ha : SimE ma pa) (ho : SimR mo po) (hk : SimR mk pk) : SimS (sAsg ma (gSub' mo mk)) (tSetObj pa po pk) := fun b ob X A s L PL hb W hL => by
  unfold tSetObj sAsg
  refine PostS.bindE hb (ha b ob X A s L PL W hL) fun v d A1 ob1 s1 g1 W1 h1 => ?_
  have hL1 := hL.go g1
  have hb1 := Nat.le_trans hb g1.len
  have e1 : (gSub' mo mk d L A1).bind (fun L1 A2 => R.ok (O.nx L1) A2) = (mo L A1).bind fun ov A2 => (mk L A2).bind fun iv A3 => (setIx ov iv d A3).bind fun _ A4 => .ok (.nx L) A4 := by
    simp only [gSub']
    cases mo L A1 with
    | ok ov A2 =>
      simp only [R.bind_ok]
      cases mk L A2 with
      | ok iv A3 => simp only [R.bind_ok]; cases setIx ov iv d A3 <;> rfl
      | ex c fs A2 => rfl
      | bad => rfl
    | ex c fs A2 => rfl
    | bad => rfl
  rw [e1]
  refine PostS.bindE hb1 (ho b ob1 X A1 s1 L PL W1 hL1) fun ov od A2 ob2 s2 g2 W2 h2 => ?_
  refine PostS.bindE (Nat.le_trans hb1 g2.len) (hk b ob2 X A2 s2 L PL W2 (hL1.go g2)) fun kv iv A3 ob3 s3 g3 W3 h3 => ?_
  have hL3 := (hL1.go g2).go g3
  have hv := (h1.go g2).go g3
  have ho3 := h2.go g3
  have fin : ∀ {n k : Nat} {o : Ob} {u : HOb}, ob3[n]? = some (some k) → u.low A3.length = true → ObS ob3 X A3 o u → PostS b ob3 X A3 (.ok (.nx PL) (s3.set n o)) (.ok (.nx L) (A3.set k u)) := fun {n k o u} hk hl hs => by
    obtain ⟨w4, fz⟩ := obj_write (b := b) W3 hk hl hs
    have km := List.mem_of_getElem? hk
    refine ⟨_, _, ob3, X, rfl, ⟨fun _ _ h => h, fun j hj h => ⟨h, List.getElem?_set_ne fun z => by subst z; exact h km⟩, by simp, fun _ _ => Iff.rfl, fz⟩, w4, L, rfl, ?_⟩
    exact hL3.to (fun _ _ h => h) fz fun i v j _ _ hj _ hx hn => ⟨List.getElem?_set_ne fun z => by subst z; exact hn km, hx, hn⟩
  split
  · rename_i n
    obtain ⟨k, hk3, rfl⟩ := ho3.obj
    split
    · rename_i o ho
      split
      · rename_i o' ho'
        unfold pSetO at ho'
        split at ho'
        · rename_i l i
          obtain ⟨ds, a, q⟩ := W3.objL hk3 ho
          rw [h3.int]
          cases hz : ixN l.length i with
          | none => rw [hz] at ho'; cases ho'
          | some m =>
            rw [hz] at ho'; cases ho'
            have e2 : setIx (.ref k) (.int i) d A3 = .ok () (A3.set k (.lst (ds.set m d))) := by simp only [setIx, a, q.length, hz]
            rw [e2]
            simp only [R.bind_ok]
            exact fin hk3 (SeeL.low W3.lt _ _ (q.set m hv)) ⟨_, rfl, q.set m hv⟩
        · rename_i ks vs
          obtain ⟨ds, a, hl, q⟩ := W3.objD hk3 ho
          split at ho'
          · rename_i key hkey
            split at ho'
            · rename_i hz
              cases ho'
              obtain ⟨es, l1, e2, q2⟩ := put_see hv hl q (q := key)
              have e3 : setIx (.ref k) iv d A3 = .ok () (A3.set k (.dct (putD (ks.zip ds) key d))) := by
                simp only [setIx, a, key_see h3 hkey]
                rw [if_pos]
                rw [List.length_zip]; omega
              rw [e3, e2]
              simp only [R.bind_ok]
              refine fin hk3 ?_ ⟨es, rfl, l1, q2⟩
              simp only [HOb.low, zipvals l1]
              exact SeeL.low W3.lt _ _ q2
            · cases ho'
          · cases ho'
        · cases ho'
      · trivial
    · trivial
  · trivial
end
/-! ### loops -/
theorem for_sim {t : T} {pt : ZT} {bd : S} {pbd : ZS} {src : Src} {b : Nat} (ht : SimT t pt) (hs : SimS bd pbd) : ∀ (l : List Pv) (ds : List D) (ob : Obs) (X : List Nat) (A : Hpp) (s : PSt) (L : Loc) (PL : PLoc), b ≤ A.length → WR ob X A s → LocR b ob X A PL L → SeeL ob X A l ds → (∀ k es, (k, es) ∈ src.places → Fzn ob X k ∧ A[k]? = some (.lst es)) →
    PostS b ob X A (pforLoop pt pbd l PL s) (forLoop src t bd ds L A)
  | [], ds, ob, X, A, s, L, PL, hb, W, hL, h, hsrc => by
    simp only [SeeL] at h; subst h
    simp only [pforLoop, forLoop]
    rw [if_pos (SrcR.still hsrc)]
    exact PostS.ok W ⟨L, rfl, hL⟩
  | v :: l, ds, ob, X, A, s, L, PL, hb, W, hL, h, hsrc => by
    simp only [SeeL] at h
    obtain ⟨d, r, rfl, h1, h2⟩ := h
    simp only [pforLoop, forLoop]
    rw [if_pos (SrcR.still hsrc)]
    refine PostS.bindE hb (ht b ob X A s v d L PL W h1 hL) fun PL1 L1 A1 ob1 s1 g1 W1 hL1 => ?_
    refine PostS.bindS (hs b ob1 X A1 s1 L1 PL1 (Nat.le_trans hb g1.len) W1 hL1) fun o o' A2 ob2 X2 s2 g2 W2 q => ?_
    have g := (g1.s (X := X) hb).trans g2
    have rest : ∀ PL2 L2, LocR b ob2 X2 A2 PL2 L2 → PostS b ob2 X2 A2 (pforLoop pt pbd l PL2 s2) (forLoop src t bd r L2 A2) := fun PL2 L2 hL2 =>
      for_sim ht hs l r ob2 X2 A2 s2 L2 PL2 (Nat.le_trans hb g.len) W2 hL2 (SeeL.to g.live g.fz _ _ h2) fun k es z => g.fz k _ (hsrc k es z).2 (hsrc k es z).1
    cases o with
    | nx PL2 => obtain ⟨L2, rfl, hL2⟩ := q; exact rest PL2 L2 hL2
    | ct PL2 => obtain ⟨L2, rfl, hL2⟩ := q; exact rest PL2 L2 hL2
    | bk PL2 => obtain ⟨L2, rfl, hL2⟩ := q; exact PostS.ok W2 ⟨L2, rfl, hL2⟩
    | rt v => obtain ⟨d', rfl, h⟩ := q; exact PostS.ok W2 ⟨d', rfl, h⟩
theorem SimS.for {fs : MS} {ps : ZMS} {t : T} {pt : ZT} {bd : S} {pbd : ZS} (hf : SimSrc fs ps) (ht : SimT t pt) (hs : SimS bd pbd) : SimS (sFor fs t bd) (tFor ps pt pbd) := fun b ob X A s L PL hb W hL =>
  PostS.bindE hb (hf b ob X A s L PL W hL) fun l src A1 ob1 s1 g1 W1 h1 => for_sim ht hs l src.items ob1 X A1 s1 L PL (Nat.le_trans hb g1.len) W1 (hL.go g1) h1.1 h1.2
theorem while_sim {c : M} {pc : ZM} {bd : S} {pbd : ZS} {b : Nat} (hc : SimR c pc) (hs : SimS bd pbd) : ∀ (n : Nat) (ob : Obs) (X : List Nat) (A : Hpp) (s : PSt) (L : Loc) (PL : PLoc), b ≤ A.length → WR ob X A s → LocR b ob X A PL L → PostS b ob X A (pwhileLoop pc pbd n PL s) (whileLoop c bd n L A)
  | 0, ob, X, A, s, L, PL, hb, W, hL => trivial
  | n + 1, ob, X, A, s, L, PL, hb, W, hL => by
    simp only [pwhileLoop, whileLoop]
    refine PostS.bindE hb (SimB.test hc b ob X A s L PL W hL) fun k k' A1 ob1 s1 g1 W1 q => ?_
    cases q
    cases k with
    | false => exact PostS.ok W1 ⟨L, rfl, hL.go g1⟩
    | true =>
      simp only [if_true]
      refine PostS.bindS (hs b ob1 X A1 s1 L PL (Nat.le_trans hb g1.len) W1 (hL.go g1)) fun o o' A2 ob2 X2 s2 g2 W2 q => ?_
      have hb2 := Nat.le_trans hb (Nat.le_trans g1.len g2.len)
      cases o with
      | nx PL2 => obtain ⟨L2, rfl, hL2⟩ := q; exact while_sim hc hs n ob2 X2 A2 s2 L2 PL2 hb2 W2 hL2
      | ct PL2 => obtain ⟨L2, rfl, hL2⟩ := q; exact while_sim hc hs n ob2 X2 A2 s2 L2 PL2 hb2 W2 hL2
      | bk PL2 => obtain ⟨L2, rfl, hL2⟩ := q; exact PostS.ok W2 ⟨L2, rfl, hL2⟩
      | rt v => obtain ⟨d', rfl, h⟩ := q; exact PostS.ok W2 ⟨d', rfl, h⟩
theorem SimS.while {c : M} {pc : ZM} {bd : S} {pbd : ZS} (hc : SimR c pc) (hs : SimS bd pbd) : SimS (sWhile c bd) (tWhile pc pbd) := fun b ob X A s L PL hb W hL => while_sim hc hs _ ob X A s L PL hb W hL
end Rf
namespace Rf
open PySem L2
/-! ### what a call leaves -/
section
variable {ob ob2 : Obs} {X : List Nat} {A A2 : Hpp} {N : Nat}
mutual
theorem See.cut (hc : ∀ (k : Nat) (o : HOb), k < N → A[k]? = some o → o.low N = true ∧ A2[k]? = some o) (hl : ∀ (n k : Nat), k < N → ob[n]? = some (some k) → ob2[n]? = some (some k)) (hf : ∀ (k : Nat), k < N → some k ∉ ob → some k ∉ ob2) : ∀ (v : Pv) (d : D), d.low N = true → See ob X A v d → See ob2 X A2 v d
  | .non, d, _, q => by simpa [See] using q
  | .bl _, d, _, q => by simpa [See] using q
  | .int _, d, _, q => by simpa [See] using q
  | .str _, d, _, q => by simpa [See] using q
  | .fn _, d, _, q => by simpa [See] using q
  | .tup l, d, z, q => by
    simp only [See] at q ⊢
    obtain ⟨ds, rfl, r⟩ := q
    simp only [D.low] at z
    exact ⟨ds, rfl, SeeL.cutN hc hl hf l ds z r⟩
  | .lst l, d, z, q => by
    simp only [See] at q ⊢
    obtain ⟨k, ds, rfl, f, a, r⟩ := q
    simp only [D.low, decide_eq_true_eq] at z
    obtain ⟨h1, h2⟩ := hc k _ z a
    exact ⟨k, ds, rfl, ⟨hf k z f.1, f.2⟩, h2, SeeL.cutN hc hl hf l ds h1 r⟩
  | .dct ks l, d, z, q => by
    simp only [See] at q ⊢
    obtain ⟨k, ds, rfl, f, a, ln, r⟩ := q
    simp only [D.low, decide_eq_true_eq] at z
    obtain ⟨h1, h2⟩ := hc k _ z a
    exact ⟨k, ds, rfl, ⟨hf k z f.1, f.2⟩, h2, ln, SeeL.cutN hc hl hf l ds (by simpa only [HOb.low, zipvals ln] using h1) r⟩
  | .obj n, d, z, q => by
    simp only [See] at q ⊢
    obtain ⟨k, a, rfl⟩ := q
    simp only [D.low, decide_eq_true_eq] at z
    exact ⟨k, hl n k z a, rfl⟩
theorem SeeL.cutN (hc : ∀ (k : Nat) (o : HOb), k < N → A[k]? = some o → o.low N = true ∧ A2[k]? = some o) (hl : ∀ (n k : Nat), k < N → ob[n]? = some (some k) → ob2[n]? = some (some k)) (hf : ∀ (k : Nat), k < N → some k ∉ ob → some k ∉ ob2) : ∀ (l : List Pv) (ds : List D), D.lowL N ds = true → SeeL ob X A l ds → SeeL ob2 X A2 l ds
  | [], ds, _, q => by simpa [SeeL] using q
  | v :: l, ds, z, q => by
    simp only [SeeL] at q ⊢
    obtain ⟨d, r, rfl, a, c⟩ := q
    simp only [D.lowL, Bool.and_eq_true] at z
    exact ⟨d, r, rfl, See.cut hc hl hf v d z.1 a, SeeL.cutN hc hl hf l r z.2 c⟩
end
theorem ObS.cut (hc : ∀ (k : Nat) (o : HOb), k < N → A[k]? = some o → o.low N = true ∧ A2[k]? = some o) (hl : ∀ (n k : Nat), k < N → ob[n]? = some (some k) → ob2[n]? = some (some k)) (hf : ∀ (k : Nat), k < N → some k ∉ ob → some k ∉ ob2) {o : Ob} {u : HOb} (z : u.low N = true) (q : ObS ob X A o u) : ObS ob2 X A2 o u := by
  cases o with
  | lst l => obtain ⟨ds, rfl, h⟩ := q; exact ⟨ds, rfl, SeeL.cutN hc hl hf _ _ z h⟩
  | rd l => obtain ⟨ds, rfl, h⟩ := q; exact ⟨ds, rfl, SeeL.cutN hc hl hf _ _ z h⟩
  | dct ks l => obtain ⟨ds, rfl, ln, h⟩ := q; exact ⟨ds, rfl, ln, SeeL.cutN hc hl hf _ _ (by simpa only [HOb.low, zipvals ln] using z) h⟩
end
def cut1 (N : Nat) (m : Option Nat) : Option Nat → Option Nat
  | some j => if j < N then some j else if some j = m then some N else none
  | none => none
def cutOb (N : Nat) (m : Option Nat) (ob : Obs) : Obs := ob.map (cut1 N m)
theorem cutOb_get {N : Nat} {m : Option Nat} {ob : Obs} {n j : Nat} (h : (cutOb N m ob)[n]? = some (some j)) : (j < N ∧ ob[n]? = some (some j)) ∨ (j = N ∧ ∃ k, N ≤ k ∧ m = some k ∧ ob[n]? = some (some k)) := by
  unfold cutOb at h
  rw [List.getElem?_map] at h
  cases e : ob[n]? with
  | none => rw [e] at h; cases h
  | some x =>
    rw [e] at h
    simp only [Option.map_some, Option.some.injEq] at h
    cases x with
    | none => cases h
    | some k =>
      simp only [cut1] at h
      split at h
      · rename_i q; cases h; exact .inl ⟨q, rfl⟩
      · rename_i q
        split at h
        · rename_i z; cases h; exact .inr ⟨rfl, k, by omega, z.symm, rfl⟩
        · cases h
theorem cutOb_keep {N : Nat} {m : Option Nat} {ob : Obs} {n k : Nat} (hk : k < N) (h : ob[n]? = some (some k)) : (cutOb N m ob)[n]? = some (some k) := by
  unfold cutOb
  rw [List.getElem?_map, h]
  simp [cut1, hk]
theorem cutOb_move {N k : Nat} {ob : Obs} {n : Nat} (hk : N ≤ k) (h : ob[n]? = some (some k)) : (cutOb N (some k) ob)[n]? = some (some N) := by
  unfold cutOb
  rw [List.getElem?_map, h]
  simp [cut1, Nat.not_lt.mpr hk]
theorem cutOb_mem {N : Nat} {m : Option Nat} {ob : Obs} {k : Nat} (hk : k < N) (h : some k ∈ cutOb N m ob) : some k ∈ ob := by
  obtain ⟨n, hn⟩ := List.getElem?_of_mem h
  rcases cutOb_get hn with ⟨_, q⟩ | ⟨q, _⟩
  · exact List.mem_of_getElem? q
  · omega
theorem gc_sim {ob ob' : Obs} {X : List Nat} {A A' : Hpp} {s s' : PSt} {v : Pv} {d : D} (W0 : WR ob X A s) (g : Go A.length ob A ob' A') (W : WR ob' X A' s') (h : See ob' X A' v d) :
    ∃ d2 A2 ob2, gcR A d A' = .ok d2 A2 ∧ Go A.length ob A ob2 A2 ∧ WR ob2 X A2 s' ∧ See ob2 X A2 v d2 := by
  have tk : ∀ k, k < A.length → (A'.take A.length)[k]? = A'[k]? := fun k hk => List.getElem?_take_of_lt hk
  have tl : (A'.take A.length).length = A.length := by rw [List.length_take]; have := g.len; omega
  have case3 : (∀ (k : Nat) (o : HOb), k < A.length → A'[k]? = some o → o.low A.length = true) → d.low A.length = true → ∃ d2 A2 ob2, (R.ok d (A'.take A.length) : R D) = .ok d2 A2 ∧ Go A.length ob A ob2 A2 ∧ WR ob2 X A2 s' ∧ See ob2 X A2 v d2 := fun hall hd => by
    have hc : ∀ (k : Nat) (o : HOb), k < A.length → A'[k]? = some o → o.low A.length = true ∧ (A'.take A.length)[k]? = some o := fun k o hk e => ⟨hall k o hk e, by rw [tk k hk]; exact e⟩
    have hl : ∀ (n k : Nat), k < A.length → ob'[n]? = some (some k) → (cutOb A.length none ob')[n]? = some (some k) := fun n k hk e => cutOb_keep hk e
    have hf : ∀ (k : Nat), k < A.length → some k ∉ ob' → some k ∉ cutOb A.length none ob' := fun k hk e z => e (cutOb_mem hk z)
    refine ⟨d, _, cutOb A.length none ob', rfl, ⟨fun n k e => hl n k (W0.lt n k e) (g.live n k e), fun k hk e => ?_, by rw [tl]; exact Nat.le_refl _⟩, ⟨fun k o e => ?_, ?_, fun n m k e1 e2 => ?_, fun n k e => ?_, fun k hk => ?_⟩, See.cut hc hl hf v d hd h⟩
    · obtain ⟨a, c⟩ := g.keep k hk e
      exact ⟨hf k hk a, by rw [tk k hk]; exact c⟩
    · have hk : k < A.length := by have := (List.getElem?_eq_some_iff.mp e).1; omega
      rw [tk k hk] at e
      rw [tl]; exact hall k o hk e
    · simp [cutOb, W.len]
    · rcases cutOb_get e1 with ⟨_, q1⟩ | ⟨_, _, _, q, _⟩
      · rcases cutOb_get e2 with ⟨_, q2⟩ | ⟨_, _, _, q, _⟩
        · exact W.inj n m k q1 q2
        · cases q
      · cases q
    · rcases cutOb_get e with ⟨hk, q1⟩ | ⟨_, _, _, q, _⟩
      · obtain ⟨o, u, a, c, q⟩ := W.at_ n k q1
        exact ⟨o, u, a, by rw [tk k hk]; exact c, q.cut hc hl hf (hall k u hk c)⟩
      · cases q
    · have := (W0.xx k hk).2
      exact ⟨hf k this (W.xx k hk).1, by rw [tl]; exact this⟩
  have allOf : (A'.take A.length).all (HOb.low A.length) = true → ∀ (k : Nat) (o : HOb), k < A.length → A'[k]? = some o → o.low A.length = true := fun q k o hk e => by
    rw [← tk k hk] at e
    exact List.all_eq_true.mp q o (List.mem_of_getElem? e)
  unfold gcR
  split
  · exact ⟨d, A', ob', rfl, g, W, h⟩
  · split
    · rename_i q
      obtain ⟨d2, A2, ob2, e, r⟩ := case3 (fun k o hk e => by rw [← tk k hk, q.2] at e; exact W0.cl k o e) (low_monoD (Nat.zero_le _) d q.1)
      rw [q.2] at e
      exact ⟨d2, A2, ob2, e, r⟩
    · split
      · rename_i q
        exact case3 (allOf q.2) q.1
      · split
        · rename_i k _ _
          split
          · rename_i o ho
            split
            · rename_i q
              have hall := allOf q.2.2
              have kN : A.length ≤ k := q.1
              have a2 : ∀ j, j < A.length → (A'.take A.length ++ [o])[j]? = A'[j]? := fun j hj => by rw [List.getElem?_append_left (by omega), tk j hj]
              have aN : (A'.take A.length ++ [o])[A.length]? = some o := by rw [List.getElem?_append_right (by omega), tl]; simp
              have l2 : (A'.take A.length ++ [o]).length = A.length + 1 := by rw [List.length_append, tl]; rfl
              have hc : ∀ (j : Nat) (u : HOb), j < A.length → A'[j]? = some u → u.low A.length = true ∧ (A'.take A.length ++ [o])[j]? = some u := fun j u hj e => ⟨hall j u hj e, by rw [a2 j hj]; exact e⟩
              have hl : ∀ (n j : Nat), j < A.length → ob'[n]? = some (some j) → (cutOb A.length (some k) ob')[n]? = some (some j) := fun n j hj e => cutOb_keep hj e
              have hf : ∀ (j : Nat), j < A.length → some j ∉ ob' → some j ∉ cutOb A.length (some k) ob' := fun j hj e z => e (cutOb_mem hj z)
              refine ⟨.ref A.length, _, cutOb A.length (some k) ob', rfl, ⟨fun n j e => hl n j (W0.lt n j e) (g.live n j e), fun j hj e => ?_, by rw [l2]; omega⟩, ⟨fun j u e => ?_, by simp [cutOb, W.len], fun n m j e1 e2 => ?_, fun n j e => ?_, fun j hj => ?_⟩, ?_⟩
              · obtain ⟨a, c⟩ := g.keep j hj e
                exact ⟨hf j hj a, by rw [a2 j hj]; exact c⟩
              · have hj : j < A.length + 1 := by have := (List.getElem?_eq_some_iff.mp e).1; omega
                rw [l2]
                by_cases z : j < A.length
                · rw [a2 j z] at e; exact low_monoH (Nat.le_succ _) u (hall j u z e)
                · have : j = A.length := by omega
                  subst this
                  rw [aN] at e; cases e; exact low_monoH (Nat.le_succ _) _ q.2.1
              · rcases cutOb_get e1 with ⟨z1, q1⟩ | ⟨z1, k1, _, y1, q1⟩
                · rcases cutOb_get e2 with ⟨z2, q2⟩ | ⟨z2, k2, _, y2, q2⟩
                  · exact W.inj n m j q1 q2
                  · omega
                · rcases cutOb_get e2 with ⟨z2, q2⟩ | ⟨z2, k2, _, y2, q2⟩
                  · omega
                  · cases y1; cases y2; exact W.inj n m k q1 q2
              · rcases cutOb_get e with ⟨hj, q1⟩ | ⟨z1, k1, _, y1, q1⟩
                · obtain ⟨o', u, a, c, q⟩ := W.at_ n j q1
                  exact ⟨o', u, a, by rw [a2 j hj]; exact c, q.cut hc hl hf (hall j u hj c)⟩
                · cases y1
                  obtain ⟨o', u, a, c, r⟩ := W.at_ n k q1
                  rw [ho] at c; cases c
                  subst z1
                  exact ⟨o', o, a, aN, r.cut hc hl hf q.2.1⟩
              · have := (W0.xx j hj).2
                exact ⟨hf j this (W.xx j hj).1, by rw [l2]; omega⟩
              · have nN : some k ∉ ob' → some A.length ∉ cutOb A.length (some k) ob' := fun e z => by
                  obtain ⟨n, hn⟩ := List.getElem?_of_mem z
                  rcases cutOb_get hn with ⟨z1, _⟩ | ⟨_, k1, _, y1, q1⟩
                  · omega
                  · cases y1; exact e (List.mem_of_getElem? q1)
                have nX : A.length ∉ X := fun z => by have := (W0.xx _ z).2; omega
                cases v with
                | non => simp only [See] at h; cases h
                | bl b => simp only [See] at h; cases h
                | int b => simp only [See] at h; cases h
                | str b => simp only [See] at h; cases h
                | fn b => simp only [See] at h; cases h
                | tup l => simp only [See] at h; obtain ⟨_, z, _⟩ := h; cases z
                | lst l =>
                  simp only [See] at h ⊢
                  obtain ⟨k', ds, e, f, a, r⟩ := h
                  cases e
                  rw [ho] at a; cases a
                  exact ⟨_, ds, rfl, ⟨nN f.1, nX⟩, aN, SeeL.cutN hc hl hf _ _ q.2.1 r⟩
                | dct ks l =>
                  simp only [See] at h ⊢
                  obtain ⟨k', ds, e, f, a, ln, r⟩ := h
                  cases e
                  rw [ho] at a; cases a
                  exact ⟨_, ds, rfl, ⟨nN f.1, nX⟩, aN, ln, SeeL.cutN hc hl hf _ _ (by simpa only [HOb.low, zipvals ln] using q.2.1) r⟩
                | obj n =>
                  simp only [See] at h ⊢
                  obtain ⟨k', e1, e2⟩ := h
                  cases e2
                  exact ⟨_, cutOb_move kN e1, rfl⟩
            · exact ⟨_, A', ob', rfl, g, W, h⟩
          · exact ⟨_, A', ob', rfl, g, W, h⟩
        · exact ⟨_, A', ob', rfl, g, W, h⟩
/-! ### calls -/
theorem loc_start {ob : Obs} {X : List Nat} {A : Hpp} {vs : List Pv} {ds : List D} (h : SeeL ob X A vs ds) (b n : Nat) : LocR b ob X A (vs.map (fun v => some (Sl.val v)) ++ List.replicate n none) (ds.map some ++ List.replicate n none) := by
  have nv : ∀ (i : Nat) (x : Sl), (vs.map (fun v => some (Sl.val v)) ++ List.replicate n none)[i]? = some (some x) → ∃ v, vs[i]? = some v ∧ x = .val v := fun i x e => by
    by_cases hi : i < vs.length
    · rw [List.getElem?_append_left (by simpa using hi), List.getElem?_map] at e
      cases q : vs[i]? with
      | none => rw [q] at e; cases e
      | some v => rw [q] at e; cases e; exact ⟨v, rfl, rfl⟩
    · rw [List.getElem?_append_right (by simpa using Nat.not_lt.mp hi), List.getElem?_replicate] at e
      split at e <;> cases e
  refine ⟨by simp [h.length], fun i v e => ?_, fun i v e => ?_, fun i i' v v' j e _ _ _ => ?_⟩
  · obtain ⟨w, hw, e2⟩ := nv i _ e
    cases e2
    obtain ⟨d, hd, q⟩ := h.get hw
    refine ⟨d, ?_, q⟩
    have hi : i < ds.length := (List.getElem?_eq_some_iff.mp hd).1
    rw [List.getElem?_append_left (by simpa using hi), List.getElem?_map, hd]; rfl
  · obtain ⟨w, hw, e2⟩ := nv i _ e; cases e2
  · obtain ⟨w, hw, e2⟩ := nv i _ e; cases e2
theorem SimF.run {k p : Nat} {bd : S} {pbd : ZS} (hs : SimS bd pbd) : SimF (run k p bd) (pRun k p pbd) := fun ob X A s vs ds W h => by
  unfold Rf.run pRun
  split
  · rename_i hp
    rw [if_pos (by rw [h.length]; exact hp)]
    unfold pEnter enter
    have P := hs A.length ob X A s _ _ (Nat.le_refl _) W (loc_start h A.length (k - vs.length))
    rw [h.length]
    have fin : ∀ {v : Pv} {d : D} {A' : Hpp} {ob' : Obs} {X' : List Nat} {s' : PSt}, GoS A.length ob X A ob' X' A' → WR ob' X' A' s' → See ob' X' A' v d → Post A.length (QV X) ob X A (.ok v s') (gcR A d A') := fun {v d A' ob' X' s'} g w q => by
      have sub : ∀ j ∈ X, j ∈ X' := fun j hj => (g.xb j (W.xx j hj).2).mpr hj
      have g2 : Go A.length ob A ob' A' := ⟨g.live, g.keep, g.len⟩
      obtain ⟨d2, A2, ob2, e, g3, w3, q3⟩ := gc_sim W g2 (w.less sub) (See.to (fun _ _ h => h) (fun j u e f => ⟨⟨f.1, fun z => f.2 (sub j z)⟩, e⟩) v d q)
      exact ⟨d2, A2, ob2, e, g3, w3, q3⟩
    cases hz : pbd (vs.map (fun v => some (Sl.val v)) ++ List.replicate (k - vs.length) none) s with
    | bad => trivial
    | ex n fs s' =>
      rw [hz] at P
      obtain ⟨es, A', ob', X', e, g, w, q⟩ := P
      rw [e]
      have sub : ∀ j ∈ X, j ∈ X' := fun j hj => (g.xb j (W.xx j hj).2).mpr hj
      exact ⟨es, A', ob', rfl, ⟨g.live, g.keep, g.len⟩, w.less sub, SeeL.to (fun _ _ h => h) (fun j u e f => ⟨⟨f.1, fun z => f.2 (sub j z)⟩, e⟩) _ _ q⟩
    | ok o s' =>
      rw [hz] at P
      obtain ⟨o', A', ob', X', e, g, w, q⟩ := P
      rw [e]
      cases o with
      | nx PL => obtain ⟨L, rfl, _⟩ := q; exact fin g w see_rfl_non
      | rt v => obtain ⟨d, rfl, q⟩ := q; exact fin g w q
      | bk PL => trivial
      | ct PL => trivial
  · trivial
theorem sim_all {P : Nat → Option Fn} {Z : Nat → Option ZFn} (h : ∀ i zf, Z i = some zf → ∃ f, P i = some f ∧ f.names = zf.names ∧ f.pars = zf.pars ∧ ∀ F ZF, (∀ i, SimF (F i) (ZF i)) → SimS (f.body F) (zf.body ZF)) : ∀ n i, SimF (FF P n i) (ZFF Z n i)
  | 0, i => fun ob X A s vs ds W h => trivial
  | n + 1, i => fun ob X A s vs ds W hd => by
    cases hz : Z i with
    | none => simp only [ZFF, hz]; trivial
    | some zf =>
      obtain ⟨f, e1, e2, e3, e4⟩ := h i zf hz
      simp only [ZFF, FF, hz, e1]
      rw [e2, e3]
      exact SimF.run (e4 _ _ (fun i => sim_all h n i)) ob X A s vs ds W hd
/-- a list that is an object from now on -/
theorem SimE.obj {r : ML} {pr : ZML} (hr : SimL r pr) : SimE (mLst r) (pObj pr) := fun b ob X A s L PL W hL =>
  Post.bindE (hr b ob X A s L PL W hL) fun xs ds A1 ob1 s1 g1 W1 h1 => by
    by_cases q : xs.length ≤ sizeLine
    · rw [if_pos q, if_pos (by rw [h1.length]; exact q)]
      have nN : some A1.length ∉ ob1 := fun z => by have := W1.mem_lt z; omega
      have ln := W1.len
      have old : ∀ (n k : Nat), ob1[n]? = some (some k) → (ob1 ++ [some A1.length])[n]? = some (some k) := fun n k e => by rw [List.getElem?_append_left (List.getElem?_eq_some_iff.mp e).1]; exact e
      have inv : ∀ (n k : Nat), (ob1 ++ [some A1.length])[n]? = some (some k) → ob1[n]? = some (some k) ∨ (n = ob1.length ∧ k = A1.length) := fun n k e => by
        by_cases hn : n < ob1.length
        · rw [List.getElem?_append_left hn] at e; exact .inl e
        · have := (List.getElem?_eq_some_iff.mp e).1
          simp at this
          have : n = ob1.length := by omega
          subst this
          simp at e
          exact .inr ⟨rfl, e.symm⟩
      have fz : ∀ (k : Nat) (u : HOb), A1[k]? = some u → Fzn ob1 X k → Fzn (ob1 ++ [some A1.length]) X k ∧ (A1 ++ [.lst ds])[k]? = some u := fun k u e f => by
        have hk := (List.getElem?_eq_some_iff.mp e).1
        refine ⟨⟨fun z => ?_, f.2⟩, by rw [List.getElem?_append_left hk]; exact e⟩
        rcases List.mem_append.mp z with z | z
        · exact f.1 z
        · simp at z; omega
      have hds := SeeL.to old fz _ _ h1
      refine ⟨.ref A1.length, A1 ++ [.lst ds], ob1 ++ [some A1.length], rfl, ⟨old, fun k hk h => ⟨fun z => ?_, List.getElem?_append_left hk⟩, by simp⟩, ⟨W1.cl.snoc (lowH W1 h1), by simp [ln], fun n m k e1 e2 => ?_, fun n k e => ?_, fun k hk => ?_⟩, ?_⟩
      · rcases List.mem_append.mp z with z | z
        · exact h z
        · simp at z; omega
      · rcases inv n k e1 with q1 | ⟨q1, q1'⟩
        · rcases inv m k e2 with q2 | ⟨q2, q2'⟩
          · exact W1.inj n m k q1 q2
          · subst q2'; exact absurd (List.mem_of_getElem? q1) nN
        · rcases inv m k e2 with q2 | ⟨q2, q2'⟩
          · subst q1'; exact absurd (List.mem_of_getElem? q2) nN
          · rw [q1, q2]
      · rcases inv n k e with q1 | ⟨q1, q1'⟩
        · obtain ⟨o, u, a, c, z⟩ := W1.at_ n k q1
          exact ⟨o, u, by rw [List.getElem?_append_left (List.getElem?_eq_some_iff.mp a).1]; exact a, by rw [List.getElem?_append_left (List.getElem?_eq_some_iff.mp c).1]; exact c, z.to old fz⟩
        · subst q1; subst q1'
          exact ⟨.lst xs, .lst ds, by rw [← ln]; simp, by simp, ds, rfl, hds⟩
      · have := W1.xx k hk
        refine ⟨fun z => ?_, by simp; omega⟩
        rcases List.mem_append.mp z with z | z
        · exact this.1 z
        · simp at z; omega
      · simp only [See]
        exact ⟨A1.length, by rw [ln]; simp, rfl⟩
    · rw [if_neg q]; trivial
/-- the law's own call -/
theorem law_sim {f : List D → Hpp → R D} {pf : ZF} (h : SimF f pf) {ns : List Int} {s : PSt} (e : pf [.obj 0] [.rd (ns.map Pv.int)] = .ok (.bl true) s) : ∃ A', f [.ref 0] [.rd (ns.map D.int)] = .ok (.bl true) A' := by
  have hs : ∀ (ob : Obs) (X : List Nat) (A : Hpp) (l : List Int), SeeL ob X A (l.map Pv.int) (l.map D.int) := fun ob X A l => by
    induction l with
    | nil => exact rfl
    | cons i l ih => exact ⟨_, _, rfl, see_rfl_int, ih⟩
  have W : WR [some 0] [] [.rd (ns.map D.int)] [.rd (ns.map Pv.int)] := by
    refine ⟨fun k o e => ?_, rfl, fun n m k e1 e2 => ?_, fun n k e => ?_, fun k hk => absurd hk (by simp)⟩
    · have hk := (List.getElem?_eq_some_iff.mp e).1
      simp at hk; subst hk
      cases e
      exact SeeL.low (ob := []) (X := []) (A := [.rd (ns.map D.int)]) (fun n k e => by simp at e) _ _ (hs _ _ _ ns)
    · have h1 := (List.getElem?_eq_some_iff.mp e1).1
      have h2 := (List.getElem?_eq_some_iff.mp e2).1
      simp at h1 h2; omega
    · have hn := (List.getElem?_eq_some_iff.mp e).1
      simp at hn; subst hn
      simp at e; subst e
      exact ⟨_, _, rfl, rfl, _, rfl, hs _ _ _ ns⟩
  have P := h [some 0] [] [.rd (ns.map D.int)] [.rd (ns.map Pv.int)] [.obj 0] [.ref 0] W ⟨_, _, rfl, by simp only [See]; exact ⟨0, rfl, rfl⟩, rfl⟩
  rw [e] at P
  obtain ⟨d, A', ob', e1, _, _, q⟩ := P
  simp only [QV, See] at q
  subst q
  exact ⟨A', e1⟩
end Rf
namespace Rf
open PySem L2
section
variable {ma : M} {pa : ZM} {r : ML} {pr : ZML}
/-- the defs that a name may hold -/
inductive TabR : List (Str × List G × (List D → Hpp → R D)) → List (Str × List ZG × ZF) → Prop
  | nil : TabR [] []
  | cons {x : Str} {gs : List G} {pgs : List ZG} {f : List D → Hpp → R D} {pf : ZF} {t : List (Str × List G × (List D → Hpp → R D))} {pt : List (Str × List ZG × ZF)} (hg : gOf gs = pgs) (hl : gLow gs = true) (hf : SimF f pf) (h : TabR t pt) : TabR ((x, gs, f) :: t) ((x, pgs, pf) :: pt)
theorem TabR.find {x : Str} : ∀ {t : List (Str × List G × (List D → Hpp → R D))} {pt : List (Str × List ZG × ZF)}, TabR t pt → ∀ {q : Str × List ZG × ZF}, pt.find? (fun t => decide (t.1 = x)) = some q → ∃ y gs f, t.find? (fun t => decide (t.1 = x)) = some (y, gs, f) ∧ gOf gs = q.2.1 ∧ gLow gs = true ∧ SimF f q.2.2
  | _, _, .nil, q, e => by cases e
  | _, _, .cons (x := y) (gs := gs) (f := f) hg hl hf h, q, e => by
    rw [List.find?_cons] at e ⊢
    simp only at e ⊢
    by_cases z : y = x
    · simp only [z, decide_true] at e ⊢
      cases e
      exact ⟨_, gs, f, rfl, hg, hl, hf⟩
    · simp only [z, decide_false] at e ⊢
      exact TabR.find h e
theorem SimE.callX {tab : List (Str × List G × (List D → Hpp → R D))} {ptab : List (Str × List ZG × ZF)} {n : Nat} (ht : TabR tab ptab) (ha : SimE ma pa) (hr : SimL r pr) : SimE (mCallX tab n ma r) (pCallX ptab n pa pr) := fun b ob X A s L PL W hL =>
  Post.bindE (ha b ob X A s L PL W hL) fun x d A1 ob1 s1 g1 W1 h1 => Post.bindE (hr b ob1 X A1 s1 L PL W1 (hL.go g1)) fun y e A2 ob2 s2 g2 W2 h2 => by
    cases x with
    | fn z =>
      simp only [QV, See] at h1
      subst h1
      simp only
      split
      · rename_i q hq
        obtain ⟨y', gs, f, e1, e2, e3, e4⟩ := ht.find hq
        rw [e1]
        simp only
        split
        · rename_i hz
          rw [if_pos (by rw [h2.length]; exact hz)]
          split
          · rename_i vs hv
            rw [← e2] at hv
            obtain ⟨xs, g1, g2⟩ := gather_see h2 (ws := []) (es := []) rfl gs vs e3 hv
            rw [g1]
            exact e4 ob2 X A2 s2 vs xs W2 g2
          · trivial
        · trivial
      · trivial
    | _ => trivial
theorem SimE.gin {neg : Bool} {ks : List Str} (ha : SimR ma pa) : SimE (mGIn neg ks ma) (pGIn neg ks pa) := fun b ob X A s L PL W hL =>
  Post.bindE (ha b ob X A s L PL W hL) fun x d A1 ob1 s1 g1 W1 h1 => by
    split
    · rw [h1.str]; exact Post.ok W1 see_rfl_bl
    · trivial
def gxOf (kvs : List (Str × D)) : List (Str × Pv) := kvs.map fun p => (p.1, PvOf p.2)
theorem gx_find {z : Str} : ∀ {kvs : List (Str × D)} {q : Str × Pv}, (gxOf kvs).find? (fun p => decide (p.1 = z)) = some q → kvs.all (fun p => p.2.low 0) = true → ∃ p, kvs.find? (fun p => decide (p.1 = z)) = some p ∧ PvOf p.2 = q.2 ∧ p.2.low 0 = true
  | [], q, e, _ => by cases e
  | p :: kvs, q, e, hl => by
    rw [List.all_cons, Bool.and_eq_true] at hl
    simp only [gxOf, List.map_cons, List.find?_cons] at e ⊢
    by_cases y : p.1 = z
    · simp only [y, decide_true] at e ⊢
      cases e
      exact ⟨p, rfl, rfl, hl.1⟩
    · simp only [y, decide_false] at e ⊢
      exact gx_find e hl.2
theorem SimE.gix {kvs : List (Str × D)} {pkvs : List (Str × Pv)} (hk : gxOf kvs = pkvs) (hl : kvs.all (fun p => p.2.low 0) = true) (ha : SimR ma pa) : SimE (mGIx kvs ma) (pGIx pkvs pa) := fun b ob X A s L PL W hL =>
  Post.bindE (ha b ob X A s L PL W hL) fun x d A1 ob1 s1 g1 W1 h1 => by
    subst hk
    split
    · rw [h1.str]
      simp only
      split
      · rename_i q hq
        obtain ⟨p, e1, e2, e3⟩ := gx_find hq hl
        rw [e1, ← e2]
        exact Post.ok W1 (see_cst _ e3)
      · trivial
    · trivial
end
/-! ### {k: v, ..} -/
inductive PairsR : List (M × M) → List (ZM × ZM) → Prop
  | nil : PairsR [] []
  | cons {a b : M} {pa pb : ZM} {l : List (M × M)} {pl : List (ZM × ZM)} (ha : SimE a pa) (hb : SimE b pb) (h : PairsR l pl) : PairsR ((a, b) :: l) ((pa, pb) :: pl)
def SeeP (ob : Obs) (X : List Nat) (A : Hpp) : List (Pv × Pv) → List (D × D) → Prop
  | [], ds => ds = []
  | v :: l, ds => ∃ d r, ds = d :: r ∧ See ob X A v.1 d.1 ∧ See ob X A v.2 d.2 ∧ SeeP ob X A l r
theorem pairs_sim : ∀ {l : List (M × M)} {pl : List (ZM × ZM)}, PairsR l pl → ∀ b ob X A s L PL, WR ob X A s → LocR b ob X A PL L → Post A.length (fun ob A v d => SeeP ob X A v d) ob X A (pPairs pl PL s) (mPairs l L A)
  | _, _, .nil, b, ob, X, A, s, L, PL, W, hL => Post.ok W rfl
  | _, _, .cons ha hb h, b, ob, X, A, s, L, PL, W, hL =>
    Post.bindE (ha b ob X A s L PL W hL) fun x d A1 ob1 s1 g1 W1 h1 => Post.bindE (hb b ob1 X A1 s1 L PL W1 (hL.go g1)) fun y e A2 ob2 s2 g2 W2 h2 =>
      Post.bindE (pairs_sim h b ob2 X A2 s2 L PL W2 ((hL.go g1).go g2)) fun t t' A3 ob3 s3 g3 W3 h3 => Post.ok W3 ⟨(d, e), t', rfl, (h1.go g2).go g3, h2.go g3, h3⟩
def SeeK (ob : Obs) (X : List Nat) (A : Hpp) : List (Key × Pv) → List (Key × D) → Prop
  | [], ds => ds = []
  | v :: l, ds => ∃ d r, ds = (v.1, d) :: r ∧ See ob X A v.2 d ∧ SeeK ob X A l r
theorem SeeK.len {ob : Obs} {X : List Nat} {A : Hpp} : ∀ {l : List (Key × Pv)} {ds : List (Key × D)}, SeeK ob X A l ds → ds.length = l.length
  | [], ds, h => by cases h; rfl
  | v :: l, ds, h => by obtain ⟨d, r, rfl, _, b⟩ := h; simp [SeeK.len b]
theorem keys_see {ob : Obs} {X : List Nat} {A : Hpp} : ∀ {l : List (Pv × Pv)} {ds : List (D × D)} {kl : List (Key × Pv)}, SeeP ob X A l ds → pKeys l = some kl → ∃ kd, keysD ds = some kd ∧ SeeK ob X A kl kd
  | [], ds, kl, h, e => by cases h; cases e; exact ⟨[], rfl, rfl⟩
  | v :: l, ds, kl, h, e => by
    obtain ⟨d, r, rfl, a, b, c⟩ := h
    simp only [pKeys] at e
    split at e
    · rename_i k t hk ht
      cases e
      obtain ⟨kd, e1, e2⟩ := keys_see c ht
      have := key_see (.inl a) hk
      exact ⟨(k, d.2) :: kd, by simp only [keysD, this, e1], d.2, kd, rfl, b, e2⟩
    · cases e
theorem merge_see {ob : Obs} {X : List Nat} {A : Hpp} : ∀ {l : List (Key × Pv)} {kd : List (Key × D)} (ks : List Key) (vs : List Pv) (ds : List D), SeeK ob X A l kd → ks.length = ds.length → SeeL ob X A vs ds →
    ∃ es, (pMerge (ks, vs) l).1.length = es.length ∧ kd.foldl (fun acc kv => putD acc kv.1 kv.2) (ks.zip ds) = (pMerge (ks, vs) l).1.zip es ∧ SeeL ob X A (pMerge (ks, vs) l).2 es
  | [], kd, ks, vs, ds, h, hl, hs => by cases h; exact ⟨ds, hl, rfl, hs⟩
  | v :: l, kd, ks, vs, ds, h, hl, hs => by
    obtain ⟨d, r, rfl, a, b⟩ := h
    obtain ⟨es, l1, e1, s1⟩ := put_see a hl hs (q := v.1)
    simp only [List.foldl_cons, e1, pMerge]
    exact merge_see _ _ es b l1 s1
theorem SimN.dict {ps : List (M × M)} {pps : List (ZM × ZM)} (h : PairsR ps pps) : SimN (mDict ps) (pDict pps) := fun b ob X A s L PL W hL => by
  have hx : ∀ k ∈ A.length :: X, k ∈ X ∨ k = A.length := fun k hk => (List.mem_cons.mp hk).elim .inr .inl
  have hx' : ∀ k ∈ A.length :: X, k ∈ X ∨ A.length ≤ k := fun k hk => (hx k hk).imp id fun z => by omega
  have W1 : WR ob (A.length :: X) (A ++ [.dct []]) s := W.snoc rfl hx
  have fz := fz_app (ob := ob) (X := X) (X' := A.length :: X) (A := A) (Y := [.dct []]) hx'
  have hL1 : LocR b ob (A.length :: X) (A ++ [.dct []]) PL L := hL.to (fun _ _ h => h) fz fun i v j _ _ hj _ hx hn => ⟨List.getElem?_append_left hj, List.mem_cons_of_mem _ hx, hn⟩
  have P := pairs_sim h b ob (A.length :: X) (A ++ [.dct []]) s L PL W1 hL1
  have g0 : Go A.length ob A ob (A ++ [.dct []]) := Go.app _ _ _ _ (Nat.le_refl _)
  have le0 : A.length ≤ (A ++ [HOb.dct []]).length := by simp
  unfold pDict mDict
  cases hz : pPairs pps PL s with
  | bad => trivial
  | ex n fs s' =>
    rw [hz] at P
    obtain ⟨ds, A', ob', e, g, w, q⟩ := P
    rw [e]
    exact ⟨ds, A', ob', rfl, g0.trans (g.mono le0), w.less fun k hk => List.mem_cons_of_mem _ hk, SeeL.to (fun _ _ h => h) (fun k u e f => ⟨⟨f.1, fun z => f.2 (List.mem_cons_of_mem _ z)⟩, e⟩) _ _ q⟩
  | ok kvs s1 =>
    rw [hz] at P
    obtain ⟨kds, A1, ob1, e, g, w, q⟩ := P
    rw [e]
    simp only [ZR.bind_ok, R.bind_ok]
    cases hk : pKeys kvs with
    | none => trivial
    | some kl =>
      obtain ⟨kd, e1, e2⟩ := keys_see q hk
      simp only [e1]
      have ln := e2.len
      have nX : A.length ∈ A.length :: X := List.mem_cons_self ..
      have an : A1[A.length]? = some (.dct []) := (g.keep A.length (by simp) (W1.xx _ nX).1).2.trans (by simp)
      by_cases z : kl.length ≤ 15
      · rw [if_pos z, if_pos ⟨by omega, an⟩]
        obtain ⟨es, l1, e3, s3⟩ := merge_see [] [] [] e2 rfl rfl
        have e3' : mergeD kd = (pMerge ([], []) kl).1.zip es := e3
        rw [e3']
        have low : (HOb.dct ((pMerge ([], []) kl).1.zip es)).low A1.length = true := by
          simp only [HOb.low, zipvals l1]
          exact SeeL.low w.lt _ _ s3
        have fz2 := fz_set (ob := ob1) (A := A1) (o := .dct ((pMerge ([], []) kl).1.zip es)) nX
        have gl := g.len
        refine ⟨_, _, ob1, rfl, ⟨fun n k h => g.live n k h, fun k hk h => ?_, by simp at gl ⊢; omega⟩, .inl ⟨_, rfl, rfl, Nat.le_refl _, w.setX nX low, es, ?_, l1, SeeL.to (fun _ _ h => h) fz2 _ _ s3⟩⟩
        · obtain ⟨a1, a2⟩ := (g0.trans (g.mono le0)).keep k hk h
          exact ⟨a1, by rw [List.getElem?_set_ne (by omega)]; exact a2⟩
        · exact List.getElem?_set_self (List.getElem?_eq_some_iff.mp an).1
      · rw [if_neg z]; trivial
theorem SimE.dict {ps : List (M × M)} {pps : List (ZM × ZM)} (h : PairsR ps pps) : SimE (mDict ps) (pDict pps) := (SimN.dict h).e
end Rf
namespace Rf
open PySem PySem.Spec L2
/-! ### things without a heap -/
mutual
/-- so deep at most; numbers up to m, signs below 128 -/
def Pv.good (m : Nat) : Nat → Pv → Bool
  | _, .non => true
  | _, .bl _ => true
  | _, .int i => decide (i.natAbs ≤ m)
  | _, .str s => s.cps.toList.all fun c => decide (c < 128)
  | n + 1, .tup l => Pv.goodL m n l
  | n + 1, .lst l => Pv.goodL m n l
  | _, _ => false
def Pv.goodL (m : Nat) : Nat → List Pv → Bool
  | _, [] => true
  | n, v :: l => Pv.good m n v && Pv.goodL m n l
end
mutual
def Pv.wg : Pv → Nat
  | .non => 1
  | .bl _ => 1
  | .int i => if i = 0 then 0 else i.natAbs.log2 + 1
  | .str s => s.length
  | .tup l => Pv.wgL l
  | .lst l => Pv.wgL l
  | _ => 0
def Pv.wgL : List Pv → Nat
  | [] => 0
  | v :: l => Pv.wg v + 1 + Pv.wgL l
end
mutual
def Pv.py : Pv → PyData
  | .non => .none
  | .bl b => .bool b
  | .int i => .int i
  | .str s => .str s
  | .tup l => .tuple (Pv.pyL l)
  | .lst l => .list (Pv.pyL l)
  | _ => .none
def Pv.pyL : List Pv → List PyData
  | [] => []
  | v :: l => Pv.py v :: Pv.pyL l
end
/-- a thing: numbers up to m, so deep, so heavy at most -/
structure Th (m n w : Nat) (v : Pv) : Prop where
  g : v.good m n = true
  w : v.wg ≤ w
structure ThL (m n w : Nat) (l : List Pv) : Prop where
  g : Pv.goodL m n l = true
  w : Pv.wgL l ≤ w
section
variable {m m' n n' w w' : Nat} {v : Pv} {l k : List Pv}
theorem goodL_iff : Pv.goodL m n l = true ↔ ∀ v ∈ l, v.good m n = true := by
  induction l with
  | nil => simp [Pv.goodL]
  | cons v l ih => simp [Pv.goodL, ih]
mutual
theorem good_mono (hm : m ≤ m') : ∀ {n n' : Nat} {v : Pv}, n ≤ n' → v.good m n = true → v.good m' n' = true
  | 0, n', .non, _, _ => by cases n' <;> rfl
  | _ + 1, n', .non, _, _ => by cases n' <;> rfl
  | 0, n', .bl _, _, _ => by cases n' <;> rfl
  | _ + 1, n', .bl _, _, _ => by cases n' <;> rfl
  | 0, n', .int i, _, h => by cases n' <;> simp only [Pv.good, decide_eq_true_eq] at h ⊢ <;> omega
  | _ + 1, n', .int i, _, h => by cases n' <;> simp only [Pv.good, decide_eq_true_eq] at h ⊢ <;> omega
  | 0, n', .str s, _, h => by cases n' <;> simpa only [Pv.good] using h
  | _ + 1, n', .str s, _, h => by cases n' <;> simpa only [Pv.good] using h
  | n + 1, n' + 1, .tup l, hn, h => by simp only [Pv.good] at h ⊢; exact goodL_mono hm (by omega) h
  | n + 1, n' + 1, .lst l, hn, h => by simp only [Pv.good] at h ⊢; exact goodL_mono hm (by omega) h
  | n + 1, 0, .tup l, hn, _ => by omega
  | n + 1, 0, .lst l, hn, _ => by omega
  | 0, _, .tup _, _, h => by simp [Pv.good] at h
  | 0, _, .lst _, _, h => by simp [Pv.good] at h
  | 0, _, .dct _ _, _, h => by simp [Pv.good] at h
  | _ + 1, _, .dct _ _, _, h => by simp [Pv.good] at h
  | 0, _, .fn _, _, h => by simp [Pv.good] at h
  | _ + 1, _, .fn _, _, h => by simp [Pv.good] at h
  | 0, _, .obj _, _, h => by simp [Pv.good] at h
  | _ + 1, _, .obj _, _, h => by simp [Pv.good] at h
theorem goodL_mono (hm : m ≤ m') : ∀ {n n' : Nat} {l : List Pv}, n ≤ n' → Pv.goodL m n l = true → Pv.goodL m' n' l = true
  | _, _, [], _, _ => rfl
  | n, n', v :: l, hn, h => by
    simp only [Pv.goodL, Bool.and_eq_true] at h ⊢
    exact ⟨good_mono hm hn h.1, goodL_mono hm hn h.2⟩
end
theorem Th.mono (h : Th m n w v) (hm : m ≤ m') (hn : n ≤ n') (hw : w ≤ w') : Th m' n' w' v := ⟨good_mono hm hn h.g, Nat.le_trans h.w hw⟩
theorem ThL.mono (h : ThL m n w l) (hm : m ≤ m') (hn : n ≤ n') (hw : w ≤ w') : ThL m' n' w' l := ⟨goodL_mono hm hn h.g, Nat.le_trans h.w hw⟩
theorem wgL_app : ∀ l k : List Pv, Pv.wgL (l ++ k) = Pv.wgL l + Pv.wgL k
  | [], k => by simp [Pv.wgL]
  | v :: l, k => by simp only [List.cons_append, Pv.wgL, wgL_app l k]; omega
theorem wgL_mem : ∀ {l : List Pv} {v : Pv}, v ∈ l → v.wg + 1 ≤ Pv.wgL l
  | u :: l, v, h => by
    simp only [Pv.wgL]
    rcases List.mem_cons.mp h with rfl | h
    · omega
    · have := wgL_mem h; omega
theorem wgL_len : ∀ l : List Pv, l.length ≤ Pv.wgL l
  | [] => Nat.zero_le _
  | v :: l => by simp only [Pv.wgL, List.length_cons]; have := wgL_len l; omega
theorem wgL_rev : ∀ l : List Pv, Pv.wgL l.reverse = Pv.wgL l
  | [] => rfl
  | v :: l => by rw [List.reverse_cons, wgL_app, wgL_rev l]; simp only [Pv.wgL]; omega
theorem ThL.nil : ThL m n 0 [] := ⟨rfl, Nat.le_refl _⟩
theorem ThL.cons {w2 : Nat} (h : Th m n w v) (t : ThL m n w2 l) : ThL m n (w + 1 + w2) (v :: l) := ⟨by simp only [Pv.goodL, h.g, t.g]; rfl, by have := h.w; have := t.w; simp only [Pv.wgL]; omega⟩
theorem ThL.app {w2 : Nat} (h : ThL m n w l) (t : ThL m n w2 k) : ThL m n (w + w2) (l ++ k) := by
  refine ⟨goodL_iff.mpr fun v hv => ?_, by have := h.w; have := t.w; rw [wgL_app]; omega⟩
  exact (List.mem_append.mp hv).elim (goodL_iff.mp h.g v) (goodL_iff.mp t.g v)
theorem ThL.sub (h : ThL m n w (l ++ k)) : ThL m n w l ∧ ThL m n w k := by
  have hw := h.w
  rw [wgL_app] at hw
  exact ⟨⟨goodL_iff.mpr fun v hv => goodL_iff.mp h.g v (List.mem_append_left _ hv), by omega⟩, ⟨goodL_iff.mpr fun v hv => goodL_iff.mp h.g v (List.mem_append_right _ hv), by omega⟩⟩
theorem ThL.take (i : Nat) (h : ThL m n w l) : ThL m n w (l.take i) := by rw [← List.take_append_drop i l] at h; exact h.sub.1
theorem ThL.drop (i : Nat) (h : ThL m n w l) : ThL m n w (l.drop i) := by rw [← List.take_append_drop i l] at h; exact h.sub.2
theorem ThL.cut (lo hi : Option Int) (h : ThL m n w l) : ThL m n w (cutD l lo hi) := (h.drop _).take _
theorem ThL.rev (h : ThL m n w l) : ThL m n w l.reverse := ⟨goodL_iff.mpr fun v hv => goodL_iff.mp h.g v (List.mem_reverse.mp hv), by rw [wgL_rev]; exact h.w⟩
theorem ThL.mem (h : ThL m n w l) (hv : v ∈ l) : Th m n w v := ⟨goodL_iff.mp h.g v hv, by have := wgL_mem hv; have := h.w; omega⟩
theorem ThL.len (h : ThL m n w l) : l.length ≤ w := Nat.le_trans (wgL_len l) h.w
theorem ThL.flat (h : ThL m n w l) : ∀ i : Nat, ThL m n (i * w) (List.replicate i l).flatten
  | 0 => by simp only [Nat.zero_mul]; exact ThL.nil
  | i + 1 => by
    rw [List.replicate_succ, List.flatten_cons]
    exact (h.app (ThL.flat h i)).mono (Nat.le_refl _) (Nat.le_refl _) (by rw [Nat.succ_mul]; omega)
theorem Th.tup (h : ThL m n w l) : Th m (n + 1) w (.tup l) := ⟨h.g, h.w⟩
theorem Th.lst (h : ThL m n w l) : Th m (n + 1) w (.lst l) := ⟨h.g, h.w⟩
theorem Th.unT (h : Th m (n + 1) w (.tup l)) : ThL m n w l := ⟨h.g, h.w⟩
theorem Th.unL (h : Th m (n + 1) w (.lst l)) : ThL m n w l := ⟨h.g, h.w⟩
theorem Th.non (hw : 1 ≤ w := by omega) : Th m n w .non := ⟨by cases n <;> rfl, hw⟩
theorem Th.bl {b : Bool} (hw : 1 ≤ w := by omega) : Th m n w (.bl b) := ⟨by cases n <;> rfl, hw⟩
theorem Th.int {i : Int} (h : i.natAbs ≤ m) (hw : i.natAbs < 2 ^ w) : Th m n w (.int i) := by
  refine ⟨by cases n <;> exact decide_eq_true h, ?_⟩
  simp only [Pv.wg]
  split
  · omega
  · have := (Nat.log2_lt (by omega)).mpr hw
    omega
theorem Th.str {s : Str} (h : (s.cps.toList.all fun c => decide (c < 128)) = true) (hw : s.length ≤ w) : Th m n w (.str s) := ⟨by cases n <;> exact h, hw⟩
theorem Th.wint {i : Int} (h : Th m n w (.int i)) : i.natAbs ≤ m := by
  have := h.g
  cases n <;> simpa only [Pv.good, decide_eq_true_eq] using this
theorem Th.wstr {s : Str} (h : Th m n w (.str s)) : (s.cps.toList.all fun c => decide (c < 128)) = true ∧ s.length ≤ w := by
  have := h.g
  refine ⟨?_, h.w⟩
  cases n <;> simpa only [Pv.good] using this
theorem Th.no_fn {x : Str} (h : Th m n w (.fn x)) : False := by have := h.g; cases n <;> simp [Pv.good] at this
theorem Th.no_obj {x : Nat} (h : Th m n w (.obj x)) : False := by have := h.g; cases n <;> simp [Pv.good] at this
theorem Th.no_dct {x : List Key} (h : Th m n w (.dct x l)) : False := by have := h.g; cases n <;> simp [Pv.good] at this
theorem Th.no_tup0 (h : Th m 0 w (.tup l)) : False := by have := h.g; simp [Pv.good] at this
theorem Th.no_lst0 (h : Th m 0 w (.lst l)) : False := by have := h.g; simp [Pv.good] at this
def thB (m n w : Nat) (v : Pv) : Bool := v.good m n && decide (v.wg ≤ w)
theorem Th.cst (h : thB m n w v = true) : Th m n w v := by
  simp only [thB, Bool.and_eq_true, decide_eq_true_eq] at h
  exact ⟨h.1, h.2⟩
def thLB (m n w : Nat) (l : List Pv) : Bool := Pv.goodL m n l && decide (Pv.wgL l ≤ w)
theorem ThL.cst (h : thLB m n w l = true) : ThL m n w l := by
  simp only [thLB, Bool.and_eq_true, decide_eq_true_eq] at h
  exact ⟨h.1, h.2⟩
/-! reading -/
theorem snapL_py {n : Nat} : ∀ l : List Pv, (∀ v ∈ l, Pv.snap n v = some v.py) → optAll (l.map (Pv.snap n)) = some (Pv.pyL l)
  | [], _ => rfl
  | d :: l, h => by
    rw [List.map_cons, h d List.mem_cons_self]
    simp only [optAll]
    rw [snapL_py l fun x hx => h x (List.mem_cons_of_mem _ hx)]
    rfl
theorem good_snap : ∀ (n k : Nat) (v : Pv), n ≤ k → v.good m n = true → Pv.snap k v = some v.py := by
  intro n
  induction n with
  | zero =>
    intro k v hk h
    cases v with
    | tup l => simp [Pv.good] at h
    | lst l => simp [Pv.good] at h
    | dct _ _ => simp [Pv.good] at h
    | fn _ => simp [Pv.good] at h
    | obj _ => simp [Pv.good] at h
    | _ => cases k <;> rfl
  | succ n ih =>
    intro k v hk h
    obtain ⟨k, rfl⟩ : ∃ q, k = q + 1 := ⟨k - 1, by omega⟩
    cases v with
    | tup l =>
      simp only [Pv.good] at h
      simp only [Pv.snap, snapL_py l fun v hv => ih k v (by omega) (goodL_iff.mp h v hv)]
      rfl
    | lst l =>
      simp only [Pv.good] at h
      simp only [Pv.snap, snapL_py l fun v hv => ih k v (by omega) (goodL_iff.mp h v hv)]
      rfl
    | dct _ _ => simp [Pv.good] at h
    | fn _ => simp [Pv.good] at h
    | obj _ => simp [Pv.good] at h
    | _ => rfl
theorem zpow_big : (2 : Nat) ^ 400 < 10 ^ 121 := by decide +kernel
theorem str_lay {s : Str} (h : (s.cps.toList.all fun c => decide (c < 128)) = true) : (PyData.str s).canLay0 = true ∧ (PyData.str s).leavesShort 130 = true := by
  constructor
  · show s.cps.all (fun c => decide (c < 0x110000)) = true
    rw [← Array.all_toList, List.all_eq_true]
    intro c hc
    have := of_decide_eq_true (List.all_eq_true.mp h c hc)
    exact decide_eq_true (Nat.lt_trans this (by decide))
  · simp only [PyData.leavesShort]
    rw [List.all_eq_true] at h ⊢
    intro c hc
    have := of_decide_eq_true (h c hc)
    exact decide_eq_true (by omega)
theorem int_lay {i : Int} (h : i.natAbs < 2 ^ 400) : (PyData.int i).showable = true ∧ (PyData.int i).leavesShort 130 = true := by
  constructor
  · simp only [PyData.showable, decide_eq_true_eq]
    by_cases hz : i.natAbs = 0
    · rw [hz]; decide
    · have := (Nat.log2_lt hz).mpr h
      omega
  · simp only [PyData.leavesShort, decide_eq_true_eq]
    have e := int_text_length_le10 (k := 121) (by decide) (Nat.lt_trans h zpow_big)
    show (Str.ofString (toString i)).length ≤ 130
    rw [ofString_length]
    omega
mutual
theorem py_good (hm : m < 2 ^ 400) : ∀ (n : Nat) (v : Pv), v.good m n = true → v.py.canLay0 = true ∧ v.py.showable = true ∧ v.py.leavesShort 130 = true ∧ v.py.depth ≤ n
  | _, .non, _ => ⟨rfl, rfl, rfl, Nat.zero_le _⟩
  | _, .bl _, _ => ⟨rfl, rfl, rfl, Nat.zero_le _⟩
  | n, .int i, h => by
    have h' : i.natAbs ≤ m := by cases n <;> simpa only [Pv.good, decide_eq_true_eq] using h
    obtain ⟨a, b⟩ := int_lay (Nat.lt_of_le_of_lt h' hm)
    exact ⟨rfl, a, b, Nat.zero_le _⟩
  | n, .str s, h => by
    have h' : (s.cps.toList.all fun c => decide (c < 128)) = true := by cases n <;> simpa only [Pv.good] using h
    obtain ⟨a, b⟩ := str_lay h'
    exact ⟨a, rfl, b, Nat.zero_le _⟩
  | n + 1, .tup l, h => by
    simp only [Pv.good] at h
    obtain ⟨a, b, c, e⟩ := pyL_good hm n l h
    exact ⟨a, b, c, by simp only [Pv.py, PyData.depth]; omega⟩
  | n + 1, .lst l, h => by
    simp only [Pv.good] at h
    obtain ⟨a, b, c, e⟩ := pyL_good hm n l h
    exact ⟨a, b, c, by simp only [Pv.py, PyData.depth]; omega⟩
  | 0, .tup _, h => by simp [Pv.good] at h
  | 0, .lst _, h => by simp [Pv.good] at h
  | n, .dct _ _, h => by cases n <;> simp [Pv.good] at h
  | n, .fn _, h => by cases n <;> simp [Pv.good] at h
  | n, .obj _, h => by cases n <;> simp [Pv.good] at h
theorem pyL_good (hm : m < 2 ^ 400) : ∀ (n : Nat) (l : List Pv), Pv.goodL m n l = true → PyData.canLayAll0 (Pv.pyL l) = true ∧ PyData.showableAll (Pv.pyL l) = true ∧ PyData.leavesShortAll 130 (Pv.pyL l) = true ∧ PyData.depthAll (Pv.pyL l) ≤ n
  | _, [], _ => ⟨rfl, rfl, rfl, Nat.zero_le _⟩
  | n, v :: l, h => by
    simp only [Pv.goodL, Bool.and_eq_true] at h
    obtain ⟨a1, a2, a3, a4⟩ := py_good hm n v h.1
    obtain ⟨b1, b2, b3, b4⟩ := pyL_good hm n l h.2
    refine ⟨?_, ?_, ?_, ?_⟩
    · simp only [Pv.pyL, PyData.canLayAll0, a1, b1]; rfl
    · simp only [Pv.pyL, PyData.showableAll, a2, b2]; rfl
    · simp only [Pv.pyL, PyData.leavesShortAll, a3, b3]; rfl
    · simp only [Pv.pyL, PyData.depthAll]; omega
end
theorem zesc_len {q c : Nat} (hq : q = 34 ∨ q = 39) (hc : c < 128) : (Builtin.Str.reprChar q c).length ≤ 4 := by
  have h1 : ∀ c : Nat, c < 128 → (Builtin.Str.reprChar 39 c).length ≤ 4 := by decide +kernel
  have h2 : ∀ c : Nat, c < 128 → (Builtin.Str.reprChar 34 c).length ≤ 4 := by decide +kernel
  rcases hq with rfl | rfl
  · exact h2 c hc
  · exact h1 c hc
theorem zrepr_len {x : Str} (h : (x.cps.toList.all fun c => decide (c < 128)) = true) : (reprText x).length ≤ 4 * x.length + 2 := by
  have hq : reprQuote x = 34 ∨ reprQuote x = 39 := by
    unfold reprQuote
    split
    · exact .inl rfl
    · exact .inr rfl
  have key : ∀ (l : List Nat) (acc : Array Nat), (∀ c ∈ l, c < 128) → (l.foldl (fun out c => out ++ (Builtin.Str.reprChar (reprQuote x) c).toArray) acc).size ≤ acc.size + 4 * l.length := by
    intro l
    induction l with
    | nil => intro acc _; simp
    | cons c l ih =>
      intro acc h
      rw [List.foldl_cons]
      have := ih (acc ++ (Builtin.Str.reprChar (reprQuote x) c).toArray) fun y hy => h y (List.mem_cons_of_mem _ hy)
      have := zesc_len hq (h c (List.mem_cons_self ..))
      simp only [Array.size_append, List.size_toArray, List.length_cons] at *
      omega
  unfold reprText
  show (Array.push _ _).size ≤ _
  rw [Array.size_push, ← Array.foldl_toList]
  have := key x.cps.toList #[reprQuote x] fun c hc => of_decide_eq_true (List.all_eq_true.mp h c hc)
  have e : x.cps.toList.length = x.length := by simp [Str.length]
  rw [e] at this
  have e1 : (#[reprQuote x] : Array Nat).size = 1 := rfl
  rw [e1] at this
  omega
theorem zint_len (i : Int) : (Str.ofString (toString i)).length ≤ 5 * (Pv.int i).wg + 3 := by
  simp only [Pv.wg]
  rw [ofString_length]
  by_cases h : i = 0
  · subst h; decide +kernel
  · rw [if_neg (by simpa using h)]
    have h1 : i.natAbs < 10 ^ (i.natAbs.log2 + 1) := by
      have h2 : i.natAbs < 2 ^ (i.natAbs.log2 + 1) := (Nat.log2_lt (by omega)).mp (by omega)
      exact Nat.lt_of_lt_of_le h2 (Nat.pow_le_pow_left (by decide) _)
    have := int_text_length_le10 (a := i) (k := i.natAbs.log2 + 1) (by omega) h1
    omega
mutual
theorem py_len : ∀ (n : Nat) (v : Pv), v.good m n = true → v.py.shown.length ≤ 5 * v.wg + 3
  | _, .non, _ => by decide +kernel
  | _, .bl b, _ => by cases b <;> decide +kernel
  | n, .int i, h => zint_len i
  | n, .str s, h => by
    have h' : (s.cps.toList.all fun c => decide (c < 128)) = true := by cases n <;> simpa only [Pv.good] using h
    have := zrepr_len h'
    simp only [Pv.py, PyData.shown, Pv.wg]
    omega
  | n + 1, .tup l, h => by
    simp only [Pv.good] at h
    have := pyL_len n l h
    have t := tupleText_len_le (PyData.shownAll (Pv.pyL l))
    simp only [Pv.py, PyData.shown, Pv.wg]
    omega
  | n + 1, .lst l, h => by
    simp only [Pv.good] at h
    have := pyL_len n l h
    have t := listText_len_le (PyData.shownAll (Pv.pyL l))
    simp only [Pv.py, PyData.shown, Pv.wg]
    omega
  | 0, .tup _, h => by simp [Pv.good] at h
  | 0, .lst _, h => by simp [Pv.good] at h
  | n, .dct _ _, h => by cases n <;> simp [Pv.good] at h
  | n, .fn _, h => by cases n <;> simp [Pv.good] at h
  | n, .obj _, h => by cases n <;> simp [Pv.good] at h
theorem pyL_len : ∀ (n : Nat) (l : List Pv), Pv.goodL m n l = true → ((PyData.shownAll (Pv.pyL l)).map (·.length)).sum + 2 * (PyData.shownAll (Pv.pyL l)).length ≤ 5 * Pv.wgL l
  | _, [], _ => by simp [Pv.pyL, PyData.shownAll, Pv.wgL]
  | n, v :: l, h => by
    simp only [Pv.goodL, Bool.and_eq_true] at h
    have a := py_len n v h.1
    have b := pyL_len n l h.2
    simp only [Pv.pyL, PyData.shownAll, Pv.wgL, List.map_cons, List.sum_cons, List.length_cons]
    omega
end
/-- repr of a thing -/
theorem th_repr (h : Th m n w v) (hm : m < 2 ^ 400 := by decide) (hn : n ≤ 60 := by decide) (hw : w ≤ 3300000 := by decide) (s : PSt) : pRepr [v] s = .ok (.str v.py.shown) s := by
  have e := good_snap n deepest v (Nat.le_trans hn (by decide)) h.g
  obtain ⟨a, b, c, k⟩ := py_good hm n v h.g
  have l := py_len n v h.g
  have := h.w
  unfold pRepr
  simp only [e]
  refine if_pos ⟨b, ?_, ?_⟩
  · have s := sizeLine_eq
    omega
  · exact Nat.le_trans k (Nat.le_trans hn (by decide))
theorem th_shaped (h : v.good m n = true) (hm : m < 2 ^ 400) (hn : n ≤ 60) : SeqAt.shaped v.py = true := by
  obtain ⟨a, b, c, k⟩ := py_good hm n v h
  unfold SeqAt.shaped
  rw [a]
  simp; omega
/-- == of things -/
theorem th_eq {u : Pv} {n2 : Nat} (h : v.good m n = true) (h2 : u.good m n2 = true) (hm : m < 2 ^ 400) (hn : n ≤ 60) (hn2 : n2 ≤ 60) : pEqO v u = some (PyData.eqv v.py u.py) := by
  have gen : (match v.snap deepest, u.snap deepest with
    | some d, some e => if SeqAt.shaped d && SeqAt.shaped e then some (PyData.eqv d e) else none
    | _, _ => none) = some (PyData.eqv v.py u.py) := by
    rw [good_snap n deepest v (Nat.le_trans hn (by decide)) h, good_snap n2 deepest u (Nat.le_trans hn2 (by decide)) h2]
    simp [th_shaped h hm hn, th_shaped h2 hm hn2]
  unfold pEqO
  split
  · simp [Pv.py, PyData.eqv, BEq.beq]
  · simp [Pv.py, PyData.eqv, BEq.beq]
  · simp [Pv.py, PyData.eqv]
  · simp [Pv.py, PyData.eqv]
  · simp [Pv.py, PyData.eqv]
  · simp [Pv.py, PyData.eqv]
  · exact gen
end
end Rf
namespace Rf
open PySem PySem.Spec L2
/-- a run that ends well -/
def POk {α : Type} (r : ZR α) (Q : α → PSt → Prop) : Prop := ∃ a s, r = .ok a s ∧ Q a s
theorem POk.mono {α : Type} {r : ZR α} {Q Q' : α → PSt → Prop} (h : POk r Q) (w : ∀ a s, Q a s → Q' a s) : POk r Q' := by
  obtain ⟨a, s, e, q⟩ := h
  exact ⟨a, s, e, w a s q⟩
theorem pok_ok {α : Type} {a : α} {s : PSt} {Q : α → PSt → Prop} : POk (.ok a s) Q ↔ Q a s := by
  constructor
  · rintro ⟨b, t, e, q⟩; cases e; exact q
  · exact fun q => ⟨a, s, rfl, q⟩
theorem pok_bind {α β : Type} {r : ZR α} {f : α → PSt → ZR β} {Q : β → PSt → Prop} : POk (r.bind f) Q ↔ POk r fun a s => POk (f a s) Q := by
  constructor
  · rintro ⟨b, t, e, q⟩
    cases r with
    | ok a s => exact ⟨a, s, rfl, b, t, e, q⟩
    | ex c fs s => cases e
    | bad => cases e
  · rintro ⟨a, s, rfl, h⟩
    exact h
section
variable {L : PLoc} {s : PSt} {a b c e : ZM} {r k : ZML} {t t2 : ZS} {g : ZT}
theorem y_ret : tRet a L s = (a L s).bind fun d s1 => .ok (.rt d) s1 := rfl
theorem y_retN : tRetN L s = .ok (.rt .non) s := rfl
theorem y_asg : tAsg a g L s = (a L s).bind fun d s1 => (g d L s1).bind fun L1 s2 => .ok (.nx L1) s2 := rfl
theorem y_own {i : Nat} : tOwn a i L s = (a L s).bind fun d s1 => .ok (.nx (L.set i (some (if d.isLst = true then .own d else .val d)))) s1 := rfl
theorem y_if : tIf a t t2 L s = (pTest a L s).bind fun k s1 => if k = true then t L s1 else t2 L s1 := rfl
theorem y_drop : tDrop a L s = (a L s).bind fun _ s1 => .ok (.nx L) s1 := rfl
theorem y_nilS : tNil L s = .ok (.nx L) s := rfl
theorem y_cont : tCont L s = .ok (.ct L) s := rfl
theorem y_brk : tBreak L s = .ok (.bk L) s := rfl
theorem y_frz {is : List Nat} : tFrz is t L s = t (frz L is) s := rfl
theorem y_for {f : ZMS} : tFor f g t L s = (f L s).bind fun src s1 => pforLoop g t src L s1 := rfl
theorem y_var {i : Nat} : pVar i L s = match L[i]? with | some (some (.val v)) => .ok v s | _ => .bad := rfl
theorem y_rd {i : Nat} : pRd i L s = match L[i]? with | some (some (.val v)) => .ok v s | some (some (.own v)) => .ok v s | _ => .bad := rfl
theorem y_c {d : Pv} : pC d L s = .ok d s := rfl
theorem y_un {op : Pv → PSt → ZR Pv} : pUn op a L s = (a L s).bind op := rfl
theorem y_bin {op : ZB} : pBin op a b L s = (a L s).bind fun x s1 => (b L s1).bind fun y s2 => op x y s2 := rfl
theorem y_test : pTest a L s = (a L s).bind fun x s1 => ZR.ofO (pTruth x s1) s1 := rfl
theorem y_and : pAnd a b L s = (a L s).bind fun x s1 => (ZR.ofO (pTruth x s1) s1).bind fun k s2 => if k = true then b L s2 else .ok x s2 := rfl
theorem y_or : pOr a b L s = (a L s).bind fun x s1 => (ZR.ofO (pTruth x s1) s1).bind fun k s2 => if k = true then .ok x s2 else b L s2 := rfl
theorem y_not : pNot a L s = (pTest a L s).bind fun k s1 => .ok (.bl (!k)) s1 := rfl
theorem y_ifE : pIf c a b L s = (pTest c L s).bind fun k s1 => if k = true then a L s1 else b L s1 := rfl
theorem y_chain {op op' : ZB} : pChain op op' a b c L s = (a L s).bind fun x s1 => (b L s1).bind fun y s2 => (op x y s2).bind fun z s3 => match z with
  | .bl true => (c L s3).bind fun w s4 => op' y w s4
  | .bl false => .ok (.bl false) s3
  | _ => .bad := rfl
theorem y_nil : pNil L s = .ok [] s := rfl
theorem y_cons : pCons a r L s = (a L s).bind fun x s1 => (r L s1).bind fun xs s2 => .ok (x :: xs) s2 := rfl
theorem y_tup : pTup r L s = (r L s).bind fun xs s1 => if xs.length ≤ sizeLine then .ok (.tup xs) s1 else .bad := rfl
theorem y_lst : pLst r L s = (r L s).bind fun xs s1 => if xs.length ≤ sizeLine then .ok (.lst xs) s1 else .bad := rfl
theorem y_obj : pObj r L s = (r L s).bind fun xs s1 => if xs.length ≤ sizeLine then .ok (.obj s1.length) (s1 ++ [.lst xs]) else .bad := rfl
theorem y_b {op : ZBI} : pB op r L s = (r L s).bind op := rfl
theorem y_bk {op : List Pv → List Pv → PSt → ZR Pv} : pBK op r k L s = (r L s).bind fun xs s1 => (k L s1).bind fun ys s2 => op xs ys s2 := rfl
theorem y_meth {op : Pv → List Pv → PSt → ZR Pv} : pMethS op a r L s = (a L s).bind fun x s1 => if isStrP x = true then (r L s1).bind fun xs s2 => op x xs s2 else .bad := rfl
theorem y_qNone : qNone L s = .ok none s := rfl
theorem y_qSome : qSome a L s = (a L s).bind fun x s1 => match x with | .int i => .ok (some i) s1 | _ => .bad := rfl
theorem y_slice {lo hi : ZMO} : pSlice a lo hi L s = (a L s).bind fun x s1 => (lo L s1).bind fun l s2 => (hi L s2).bind fun h s3 => pSl x l h s3 := rfl
theorem y_call {f : ZF} {n m : Nat} {gs : List ZG} : pCallV f n m gs r k L s = (r L s).bind fun us s1 => (k L s1).bind fun ws s2 => if us.length = n ∧ ws.length = m then match pGather gs us ws with | some vs => f vs s2 | none => .bad else .bad := rfl
theorem y_callX {tab : List (Str × List ZG × ZF)} {n : Nat} : pCallX tab n a r L s = (a L s).bind fun f s1 => (r L s1).bind fun us s2 => match f with
  | .fn x => match tab.find? (fun t => decide (t.1 = x)) with
    | some t => if us.length = n then (match pGather t.2.1 us [] with
      | some vs => t.2.2 vs s2
      | none => .bad) else .bad
    | none => .bad
  | _ => .bad := rfl
theorem y_gin {neg : Bool} {ks : List Str} : pGIn neg ks a L s = (a L s).bind fun x s1 => match x with
  | .str z => .ok (.bl (if neg = true then !decide (z ∈ ks) else decide (z ∈ ks))) s1
  | _ => .bad := rfl
theorem y_gix {kvs : List (Str × Pv)} : pGIx kvs a L s = (a L s).bind fun x s1 => match x with
  | .str z => match kvs.find? (fun p => decide (p.1 = z)) with
    | some p => .ok p.2 s1
    | none => .bad
  | _ => .bad := rfl
theorem y_qVar {i : Nat} {d : Pv} : qVar i d L s = .ok (L.set i (some (.val d))) s := rfl
theorem y_tlNil {d : List Pv} : ptlOf [] d L s = match d with | [] => .ok L s | _ => .bad := rfl
theorem y_tlCons {i : Nat} {l : List Nat} {d : Pv} {ds : List Pv} : ptlOf (i :: l) (d :: ds) L s = ptlOf l ds (L.set i (some (.val d))) s := rfl
theorem y_qTup {u : ZTL} {ds : List Pv} : qTup u (.tup ds) L s = u ds L s := rfl
theorem y_qTupT {u : ZTL} {ds : List Pv} : qTupT u (.tup ds) L s = u ds L s := rfl
theorem y_seqV : qSeq a L s = (a L s).bind fun x s1 => match x with
  | .tup l => .ok l s1
  | .lst l => .ok l s1
  | .str z => .ok (z.cps.toList.map fun c => .str ⟨#[c]⟩) s1
  | _ => .bad := rfl
theorem y_range1 : qRange1 a L s = (a L s).bind fun x s1 => match x with | .int j => if okEnd j then .ok (rangeP 0 j.toNat) s1 else .bad | _ => .bad := rfl
theorem y_range2 : qRange2 a b L s = (a L s).bind fun x s1 => (b L s1).bind fun y s2 => match x, y with
  | .int i, .int j => if okEnd i ∧ okEnd j then .ok (rangeP i (j - i).toNat) s2 else .bad
  | _, _ => .bad := rfl
theorem y_zipS : qZipS a b L s = (a L s).bind fun x s1 => (b L s1).bind fun y s2 => match pZipOp x, pZipOp y with
  | some xs, some ys => if xs.length = ys.length then .ok (zipP xs ys) s2 else .bad
  | _, _ => .bad := rfl
theorem y_lc {f : ZMS} {cc : ZMB} {own : List Nat} : pLc f g cc e own L s = (f L s).bind fun src s1 => (plcLoop g cc e (pWipe L own) src [] s1).bind fun l s2 => .ok (.lst l) s2 := rfl
theorem y_yes : pYes L s = .ok true s := rfl
theorem y_par {i j : Nat} : tPar i j r L s = (r L s).bind fun vs s1 => match vs with
  | [v, w] => .ok (.nx ((L.set i (some (.val v))).set j (some (.val w)))) s1
  | _ => .bad := rfl
theorem y_par3 {i j l : Nat} : tPar3 i j l r L s = (r L s).bind fun vs s1 => match vs with
  | [v, w, u] => .ok (.nx (((L.set i (some (.val v))).set j (some (.val w))).set l (some (.val u)))) s1
  | _ => .bad := rfl
theorem y_app {i : Nat} : tApp i e L s = match L[i]? with
  | some (some (.own (.lst l))) => (e L s).bind fun v s1 => if l.length < sizeLine then .ok (.nx (L.set i (some (.own (.lst (l ++ [v])))))) s1 else .bad
  | _ => .bad := rfl
theorem y_setObj : tSetObj a b c L s = (a L s).bind fun v s1 => (b L s1).bind fun ov s2 => (c L s2).bind fun kv s3 => match ov with
  | .obj n => match s3[n]? with
    | some ob => match pSetO ob kv v with
      | some ob' => .ok (.nx L) (s3.set n ob')
      | none => .bad
    | none => .bad
  | _ => .bad := rfl
theorem y_dict {ps : List (ZM × ZM)} : pDict ps L s = (pPairs ps L s).bind fun kvs s1 => match pKeys kvs with
  | some l => if l.length ≤ 15 then .ok (.dct (pMerge ([], []) l).1 (pMerge ([], []) l).2) s1 else .bad
  | none => .bad := rfl
theorem y_rg1 {q : Bool} : pRg1 q a L s = (a L s).bind fun x s1 => match x with | .int j => rgP q 0 j s1 | _ => .bad := rfl
/-- one statement behind another -/
theorem y_seq {Q : ZO → PSt → Prop} : POk (tSeq t t2 L s) Q ↔ POk (t L s) fun o s1 => match o with
    | .nx L1 => POk (t2 L1 s1) Q
    | o => Q o s1 := by
  unfold tSeq
  rw [pok_bind]
  constructor
  · intro h
    refine h.mono fun o s1 q => ?_
    cases o with
    | nx L1 => exact q
    | rt d => exact pok_ok.mp q
    | bk L1 => exact pok_ok.mp q
    | ct L1 => exact pok_ok.mp q
  · intro h
    refine POk.mono h fun o s1 q => ?_
    cases o with
    | nx L1 => exact q
    | rt d => exact pok_ok.mpr q
    | bk L1 => exact pok_ok.mpr q
    | ct L1 => exact pok_ok.mpr q
/-- the same as an equation -/
theorem y_seqE : tSeq t t2 L s = (t L s).bind fun o s1 => match o with
  | .nx L1 => t2 L1 s1
  | o => .ok o s1 := rfl
end
theorem y_ofO {α : Type} {a : α} {s : PSt} : ZR.ofO (some a) s = .ok a s := rfl
theorem y_truth {b : Bool} {s : PSt} : pTruth (.bl b) s = some b := rfl
theorem prun_ok {k p : Nat} {b : ZS} {args : List Pv} {s : PSt} {Q : Pv → PSt → Prop} (hp : args.length = p) (h : POk (b (args.map (fun v => some (.val v)) ++ List.replicate (k - args.length) none) s) fun o s' => match o with
    | .nx _ => Q .non s'
    | .rt d => Q d s'
    | _ => False) : POk (pRun k p b args s) Q := by
  unfold pRun pEnter
  rw [if_pos hp]
  obtain ⟨o, s', e, q⟩ := h
  rw [e]
  cases o with
  | nx L => exact pok_ok.mpr q
  | rt d => exact pok_ok.mpr q
  | bk L => exact q.elim
  | ct L => exact q.elim
theorem pfor_ok {t : ZT} {b : ZS} {Q : ZO → PSt → Prop} (P : List Pv → PLoc → PSt → Prop) (h0 : ∀ L s, P [] L s → Q (.nx L) s)
    (h1 : ∀ d r L s, P (d :: r) L s → POk (t d L s) fun L1 s1 => POk (b L1 s1) fun o s2 => match o with
      | .nx L2 => P r L2 s2
      | .ct L2 => P r L2 s2
      | .bk L2 => Q (.nx L2) s2
      | .rt v => Q (.rt v) s2) : ∀ ds L s, P ds L s → POk (pforLoop t b ds L s) Q
  | [], L, s, h => pok_ok.mpr (h0 L s h)
  | d :: ds, L, s, h => by
    have q := h1 d ds L s h
    unfold pforLoop
    rw [pok_bind]
    refine q.mono fun L1 s1 q1 => pok_bind.mpr (q1.mono fun o s2 q2 => ?_)
    cases o with
    | nx L2 => exact pfor_ok P h0 h1 ds L2 s2 q2
    | ct L2 => exact pfor_ok P h0 h1 ds L2 s2 q2
    | bk L2 => exact pok_ok.mpr q2
    | rt v => exact pok_ok.mpr q2
theorem plc_ok {t : ZT} {c : ZMB} {e : ZM} {L : PLoc} {Q : List Pv → PSt → Prop} (P : List Pv → List Pv → PSt → Prop) (h0 : ∀ acc s, P [] acc s → Q acc s)
    (h1 : ∀ d r acc s, P (d :: r) acc s → POk (t d L s) fun L1 s1 => POk (c L1 s1) fun k s2 => if k = true then POk (e L1 s2) fun x s3 => acc.length < sizeLine ∧ P r (acc ++ [x]) s3 else P r acc s2) : ∀ ds acc s, P ds acc s → POk (plcLoop t c e L ds acc s) Q
  | [], acc, s, h => pok_ok.mpr (h0 acc s h)
  | d :: ds, acc, s, h => by
    have q := h1 d ds acc s h
    unfold plcLoop
    rw [pok_bind]
    refine q.mono fun L1 s1 q1 => pok_bind.mpr (q1.mono fun k s2 q2 => ?_)
    cases k with
    | false => exact plc_ok P h0 h1 ds acc s2 q2
    | true =>
      refine pok_bind.mpr (POk.mono q2 fun x s3 q3 => ?_)
      rw [if_pos q3.1]
      exact plc_ok P h0 h1 ds _ s3 q3.2
/-- a comprehension that asks nobody -/
theorem plc_map {t : ZT} {e : ZM} {L : PLoc} {f : Pv → Pv} {s : PSt} {Lf : Pv → PLoc} : ∀ (ds acc : List Pv), (∀ d ∈ ds, t d L s = .ok (Lf d) s ∧ e (Lf d) s = .ok (f d) s) → acc.length + ds.length ≤ sizeLine → plcLoop t pYes e L ds acc s = .ok (acc ++ ds.map f) s
  | [], acc, _, _ => by simp [plcLoop]
  | d :: ds, acc, h, hl => by
    obtain ⟨h1, h2⟩ := h d (List.mem_cons_self ..)
    rw [List.length_cons] at hl
    simp only [plcLoop, h1, ZR.bind_ok, y_yes, if_true, h2]
    rw [if_pos (by omega), plc_map ds (acc ++ [f d]) (fun x hx => h x (List.mem_cons_of_mem _ hx)) (by rw [List.length_append, List.length_singleton]; omega)]
    simp
theorem plc_filt {t : ZT} {c : ZMB} {e : ZM} {L : PLoc} {p : Pv → Bool} {f : Pv → Pv} {s : PSt} {Lf : Pv → PLoc} : ∀ (ds acc : List Pv), (∀ d ∈ ds, t d L s = .ok (Lf d) s ∧ c (Lf d) s = .ok (p d) s ∧ e (Lf d) s = .ok (f d) s) → acc.length + ds.length ≤ sizeLine → plcLoop t c e L ds acc s = .ok (acc ++ (ds.filter p).map f) s
  | [], acc, _, _ => by simp [plcLoop]
  | d :: ds, acc, h, hl => by
    obtain ⟨h1, h2, h3⟩ := h d (List.mem_cons_self ..)
    rw [List.length_cons] at hl
    simp only [plcLoop, h1, ZR.bind_ok, h2]
    by_cases hp : p d = true
    · rw [if_pos hp, h3]
      simp only [ZR.bind_ok]
      rw [if_pos (by omega), plc_filt ds (acc ++ [f d]) (fun x hx => h x (List.mem_cons_of_mem _ hx)) (by rw [List.length_append, List.length_singleton]; omega), List.filter_cons_of_pos hp]
      simp
    · rw [if_neg hp, plc_filt ds acc (fun x hx => h x (List.mem_cons_of_mem _ hx)) (by omega), List.filter_cons_of_neg hp]
theorem bools_map {α : Type} (f : α → Bool) : ∀ l : List α, boolsP (l.map fun x => Pv.bl (f x)) = some (l.map f)
  | [] => rfl
  | x :: l => by simp only [List.map_cons, boolsP, bools_map f l]; rfl
/-! operators at hand -/
section
variable {s : PSt} {i j : Int} {a b : Str} {x y : Bool} {T : Ty} {l : List Pv}
theorem add_int : pAdd (.int i) (.int j) s = .ok (.int (i + j)) s := rfl
theorem sub_int : pSub (.int i) (.int j) s = .ok (.int (i - j)) s := rfl
theorem neg_int : pNeg (.int i) s = .ok (.int (-i)) s := rfl
theorem lt_int : pLt (.int i) (.int j) s = .ok (.bl (decide (i < j))) s := rfl
theorem le_int : pLe (.int i) (.int j) s = .ok (.bl (decide (i ≤ j))) s := rfl
theorem gt_int : pGt (.int i) (.int j) s = .ok (.bl (decide (j < i))) s := rfl
theorem ge_int : pGe (.int i) (.int j) s = .ok (.bl (decide (j ≤ i))) s := rfl
theorem eq_int : pEq (.int i) (.int j) s = .ok (.bl (decide (i = j))) s := rfl
theorem ne_int : pNe (.int i) (.int j) s = .ok (.bl (!decide (i = j))) s := rfl
theorem eq_str : pEq (.str a) (.str b) s = .ok (.bl (decide (a = b))) s := rfl
theorem ne_str : pNe (.str a) (.str b) s = .ok (.bl (!decide (a = b))) s := rfl
theorem is_non {v : Pv} : pIs v .non s = .ok (.bl v.isNon) s := by cases v <;> rfl
theorem isNot_non {v : Pv} : pIsNot v .non s = .ok (.bl (!v.isNon)) s := by cases v <;> rfl
theorem isi_nonP : pIsi T .non s = .ok (.bl false) s := rfl
theorem isi_blP : pIsi T (.bl x) s = .ok (.bl (decide (T = .int ∨ T = .bool))) s := rfl
theorem isi_intP : pIsi T (.int i) s = .ok (.bl (decide (T = .int))) s := rfl
theorem isi_strP : pIsi T (.str a) s = .ok (.bl (decide (T = .str))) s := rfl
theorem isi_tupP : pIsi T (.tup l) s = .ok (.bl (decide (T = .tuple))) s := rfl
theorem isi_lstP : pIsi T (.lst l) s = .ok (.bl (decide (T = .list))) s := rfl
theorem len_tupP : pLen [.tup l] s = .ok (.int l.length) s := rfl
theorem len_lstP : pLen [.lst l] s = .ok (.int l.length) s := rfl
theorem ix0 {v : Pv} : pIx (.tup (v :: l)) (.int 0) s = .ok v s := by show ZR.ofO (atI _ _) _ = _; simp [atI, ixN, ZR.ofO]
theorem ix1 {v u : Pv} : pIx (.tup (v :: u :: l)) (.int 1) s = .ok u s := by
  show ZR.ofO (atI _ _) _ = _
  have : ixN (v :: u :: l).length 1 = some 1 := by simp only [ixN, List.length_cons]; rw [if_pos (by omega)]; simp; omega
  unfold atI; rw [this]; rfl
theorem ix2 {v u w : Pv} : pIx (.tup (v :: u :: w :: l)) (.int 2) s = .ok w s := by
  show ZR.ofO (atI _ _) _ = _
  have : ixN (v :: u :: w :: l).length 2 = some 2 := by simp only [ixN, List.length_cons]; rw [if_pos (by omega)]; simp; omega
  unfold atI; rw [this]; rfl
theorem ixLst {v : Pv} (h : atI l i = some v) : pIx (.lst l) (.int i) s = .ok v s := by show ZR.ofO (atI _ _) _ = _; rw [h]; rfl
theorem ixTup {v : Pv} (h : atI l i = some v) : pIx (.tup l) (.int i) s = .ok v s := by show ZR.ofO (atI _ _) _ = _; rw [h]; rfl
theorem atI_in {i : Int} (h0 : 0 ≤ i) (h1 : i < l.length) : ∃ v, atI l i = some v ∧ v ∈ l ∧ l[i.toNat]? = some v := by
  have hl : i.toNat < l.length := by omega
  refine ⟨l[i.toNat], ?_, List.getElem_mem hl, List.getElem?_eq_getElem hl⟩
  have : ixN l.length i = some i.toNat := by simp only [ixN]; rw [if_pos h0]; simp; omega
  simp [atI, this, hl]
end
theorem pmul_int {i j : Int} {s : PSt} (h : CMul i j) : pMul (.int i) (.int j) s = .ok (.int (i * j)) s := if_pos (.inl h)
theorem pmul_lst {l : List Pv} {k : Int} {s : PSt} (h : 0 ≤ k ∧ k ≤ 1000000 ∧ l.length * k.toNat ≤ sizeLine) : pMul (.lst l) (.int k) s = .ok (.lst (List.replicate k.toNat l).flatten) s := if_pos h
theorem padd_lst {l k : List Pv} {s : PSt} (h : l.length + k.length ≤ sizeLine) : pAdd (.lst l) (.lst k) s = .ok (.lst (l ++ k)) s := if_pos h
theorem padd_tup {l k : List Pv} {s : PSt} (h : l.length + k.length ≤ sizeLine) : pAdd (.tup l) (.tup k) s = .ok (.tup (l ++ k)) s := if_pos h
theorem padd_str {a b : Str} {s : PSt} (h : a.length + b.length ≤ sizeLine) : pAdd (.str a) (.str b) s = .ok (.str (a ++ b)) s := if_pos h
theorem pmod_int {i j : Int} {s : PSt} (h : 0 < j) : pMod (.int i) (.int j) s = .ok (.int (i % j)) s := if_pos h
theorem pfdiv_int {i j : Int} {s : PSt} (h : CDivW i j) : pFdiv (.int i) (.int j) s = .ok (.int (i / j)) s := if_pos h
theorem ppow_int {i j : Int} {s : PSt} (h : CPow i j) : pPow (.int i) (.int j) s = .ok (.int (i ^ j.toNat)) s := if_pos h
end Rf
namespace Rf
open PySem PySem.Spec L2
/-! ### texts -/
theorem y_star1 {u : ZTL} {x : Pv} {ps : List Pv} {L : PLoc} {s : PSt} : qStar 1 0 u (.tup (x :: ps)) L s = u [x, .lst ps] L s := by
  unfold qStar pSeqOf
  simp
theorem y_star2 {u : ZTL} {x y : Pv} {ps : List Pv} {L : PLoc} {s : PSt} : qStar 2 0 u (.tup (x :: y :: ps)) L s = u [x, y, .lst ps] L s := by
  unfold qStar pSeqOf
  simp
theorem ztext_ascii (i : Int) : ((Str.ofString (toString i)).cps.toList.all fun c => decide (c < 128)) = true := by
  rw [List.all_eq_true]
  intro c hc
  refine decide_eq_true ?_
  by_cases h : c ≠ 45 ∧ (c < 48 ∨ 57 < c)
  · exact absurd hc (PyProof.Rows.int_text_free' c h i)
  · omega
theorem zupper {m n n' w : Nat} {s : Str} (h : Th m n w (.str s)) : Th m n' w (.str (Txt.upper s)) := by
  obtain ⟨a, b⟩ := h.wstr
  have hA : ∀ c ∈ s.cps.toList, c < 128 := fun c hc => of_decide_eq_true (List.all_eq_true.mp a c hc)
  rw [PyProof.Rows.upper_ascii hA]
  refine Th.str ?_ ?_
  · rw [List.all_eq_true]
    intro c hc
    simp only [Array.toList_map, List.mem_map] at hc
    obtain ⟨e, he, rfl⟩ := hc
    have := hA e he
    refine decide_eq_true ?_
    unfold PyProof.Rows.up1
    split <;> omega
  · have : (⟨s.cps.map PyProof.Rows.up1⟩ : Str).length = s.length := by simp [Str.length]
    omega
theorem zapp {m n w w' : Nat} {a b : Str} (h : Th m n w (.str a)) (h2 : Th m n w' (.str b)) : Th m n (w + w') (.str (a ++ b)) := by
  obtain ⟨a1, a2⟩ := h.wstr
  obtain ⟨b1, b2⟩ := h2.wstr
  have e : (a ++ b).cps = a.cps ++ b.cps := rfl
  refine Th.str ?_ ?_
  · rw [e, Array.toList_append, List.all_append, a1, b1]; rfl
  · have : (a ++ b).length = a.length + b.length := by show (a ++ b).cps.size = _; rw [e, Array.size_append]; rfl
    omega
theorem ztoStr {m n w : Nat} {i : Int} (h : Th m n w (.int i)) : Th m n (5 * w + 3) (.str (Str.ofString (toString i))) := by
  refine Th.str (ztext_ascii i) ?_
  have := zint_len i
  have := h.w
  omega
theorem cps_len (z : Str) : z.cps.toList.length = z.length := by simp [Str.length]
theorem len_strP {z : Str} {s : PSt} (h : z.length ≤ sizeLine) : pLen [.str z] s = .ok (.int z.length) s := if_pos h
/-- one sign within a text -/
theorem in_sign {c : Nat} {z : Str} {s : PSt} : pIn (.str ⟨#[c]⟩) (.str z) s = .ok (.bl (decide (c ∈ z.cps.toList))) s := rfl
theorem le_sign {a c : Nat} {s : PSt} : pLe (.str ⟨#[a]⟩) (.str ⟨#[c]⟩) s = .ok (.bl (decide (a ≤ c))) s := by
  show ZR.ok (Pv.bl (!decide (([c] : List Nat) < [a]))) s = _
  congr 2
  have key : ([c] : List Nat) < [a] ↔ c < a := by
    rw [List.cons_lt_cons_iff]
    constructor
    · rintro (h | ⟨_, h⟩)
      · exact h
      · exact absurd h (List.not_lt_nil _)
    · exact .inl
  by_cases h : a ≤ c
  · have : ¬ ([c] : List Nat) < [a] := fun z => by have := key.mp z; omega
    rw [decide_eq_false this, decide_eq_true h]; rfl
  · have : ([c] : List Nat) < [a] := key.mpr (by omega)
    rw [decide_eq_true this, decide_eq_false h]; rfl
theorem small_mem (c : Nat) : (c ∈ (Str.ofString "abcdefghijklmnopqrstuvwxyz").cps.toList) ↔ 97 ≤ c ∧ c ≤ 122 := by
  have e : (Str.ofString "abcdefghijklmnopqrstuvwxyz").cps.toList = List.range' 97 26 := by decide +kernel
  rw [e, List.mem_range'_1]
  omega
theorem fig_mem (c : Nat) : (c ∈ (Str.ofString "0123456789").cps.toList) ↔ 48 ≤ c ∧ c ≤ 57 := by
  have e : (Str.ofString "0123456789").cps.toList = List.range' 48 10 := by decide +kernel
  rw [e, List.mem_range'_1]
  omega
/-- == against [] -/
theorem eq_nilL {m n : Nat} {l : List Pv} {s : PSt} (h : Pv.goodL m n l = true) (hm : m < 2 ^ 400) (hn : n ≤ 50) : pEq (.lst l) (.lst []) s = .ok (.bl l.isEmpty) s := by
  unfold pEq
  rw [th_eq (m := m) (n := n + 1) (n2 := 1) (v := .lst l) (u := .lst []) h rfl hm (by omega) (by decide)]
  cases l <;> rfl
def signs (z : Str) : List Pv := z.cps.toList.map fun c => .str ⟨#[c]⟩
theorem all_signs {z : Str} {p : Nat → Bool} {s : PSt} : pAll [.lst ((z.cps.toList).map fun c => .bl (p c))] s = .ok (.bl (z.cps.toList.all p)) s := by
  simp only [pAll, bools_map]
  congr 2
  induction z.cps.toList with
  | nil => rfl
  | cons c l ih => simp [ih]
/-- all([sign in .. for sign in z]) -/
theorem lc_in {z t : Str} {L : PLoc} {i : Nat} {s : PSt} {e : ZM} (hi : i < L.length) (hz : z.length ≤ sizeLine) (he : ∀ c : Nat, e (L.set i (some (.val (.str ⟨#[c]⟩)))) s = .ok (.bl (decide (c ∈ t.cps.toList))) s) :
    plcLoop (qVar i) pYes e L (z.cps.toList.map fun c => .str ⟨#[c]⟩) [] s = .ok (z.cps.toList.map fun c => .bl (decide (c ∈ t.cps.toList))) s := by
  have gen : ∀ (cs : List Nat) (acc : List Pv), acc.length + cs.length ≤ sizeLine → plcLoop (qVar i) pYes e L (cs.map fun c => .str ⟨#[c]⟩) acc s = .ok (acc ++ cs.map fun c => .bl (decide (c ∈ t.cps.toList))) s := by
    intro cs
    induction cs with
    | nil => intro acc _; simp [plcLoop]
    | cons c cs ih =>
      intro acc hl
      rw [List.length_cons] at hl
      rw [List.map_cons]
      simp only [plcLoop, y_qVar, ZR.bind_ok, y_yes, if_true, he]
      rw [if_pos (by omega), ih _ (by rw [List.length_append, List.length_singleton]; omega)]
      simp
  have := gen z.cps.toList [] (by rw [cps_len]; simpa using hz)
  simpa using this
/-- [sign for sign in z if ..] -/
theorem lc_filter {z : Str} {L : PLoc} {i : Nat} {s : PSt} {c : ZMB} {e : ZM} {p : Nat → Bool} (hz : z.length ≤ sizeLine) (hc : ∀ x : Nat, c (L.set i (some (.val (.str ⟨#[x]⟩)))) s = .ok (p x) s) (he : ∀ x : Nat, e (L.set i (some (.val (.str ⟨#[x]⟩)))) s = .ok (.str ⟨#[x]⟩) s) :
    plcLoop (qVar i) c e L (z.cps.toList.map fun c => .str ⟨#[c]⟩) [] s = .ok ((z.cps.toList.filter p).map fun c => .str ⟨#[c]⟩) s := by
  have gen : ∀ (cs : List Nat) (acc : List Pv), acc.length + cs.length ≤ sizeLine → plcLoop (qVar i) c e L (cs.map fun c => .str ⟨#[c]⟩) acc s = .ok (acc ++ (cs.filter p).map fun c => .str ⟨#[c]⟩) s := by
    intro cs
    induction cs with
    | nil => intro acc _; simp [plcLoop]
    | cons x cs ih =>
      intro acc hl
      rw [List.length_cons] at hl
      rw [List.map_cons]
      simp only [plcLoop, y_qVar, ZR.bind_ok, hc]
      by_cases hp : p x = true
      · rw [if_pos hp, he]
        simp only [ZR.bind_ok]
        rw [if_pos (by omega), ih _ (by rw [List.length_append, List.length_singleton]; omega), List.filter_cons_of_pos hp]
        simp
      · rw [if_neg hp, ih _ (by omega), List.filter_cons_of_neg hp]
  have := gen z.cps.toList [] (by rw [cps_len]; simpa using hz)
  simpa using this
/-- such a filter leaves nothing -/
theorem filt_nil {cs : List Nat} {p : Nat → Bool} : ((cs.filter p).map fun c => Pv.str ⟨#[c]⟩).isEmpty = cs.all fun c => !p c := by
  induction cs with
  | nil => rfl
  | cons c cs ih =>
    by_cases hp : p c = true
    · rw [List.filter_cons_of_pos hp]; simp [hp]
    · rw [List.filter_cons_of_neg hp, ih]; simp [hp]
theorem filt_good {cs : List Nat} {p : Nat → Bool} (h : (cs.all fun c => decide (c < 128)) = true) : Pv.goodL 0 0 ((cs.filter p).map fun c => .str ⟨#[c]⟩) = true := by
  rw [goodL_iff]
  intro v hv
  obtain ⟨c, hc, rfl⟩ := List.mem_map.mp hv
  have := List.all_eq_true.mp h c (List.mem_filter.mp hc).1
  simpa [Pv.good] using this
theorem eqv_str (a b : Str) : PyData.eqv (.str a) (.str b) = decide (a = b) := by simp [PyData.eqv, BEq.beq]
theorem strs_pyL : ∀ l : List Str, Pv.pyL (l.map Pv.str) = l.map PyData.str
  | [] => rfl
  | a :: l => by simp only [List.map_cons, Pv.pyL, strs_pyL l]; rfl
def ascii (z : Str) : Bool := z.cps.toList.all fun c => decide (c < 128)
/-- a text among texts -/
theorem in_strs {l : List Str} {z : Str} {s : PSt} (h : ascii z = true) (hl : l.all ascii = true) : pIn (.str z) (.tup (l.map .str)) s = .ok (.bl (decide (z ∈ l))) s := by
  have g : (Pv.tup (l.map .str)).good 0 1 = true := by
    simp only [Pv.good]
    rw [goodL_iff]
    intro v hv
    obtain ⟨a, ha, rfl⟩ := List.mem_map.mp hv
    exact List.all_eq_true.mp hl a ha
  have g2 : (Pv.str z).good 0 0 = true := h
  have e1 := good_snap 1 deepest _ (by decide) g
  have e2 := good_snap 0 deepest _ (by decide) g2
  have s1 := th_shaped g (Nat.pos_of_ne_zero (by simp)) (by decide)
  have s2 := th_shaped g2 (Nat.pos_of_ne_zero (by simp)) (by decide)
  have k : pInO (.str z) (.tup (l.map .str)) = some (decide (z ∈ l)) := by
    unfold pInO
    simp only [pInS, e1, e2]
    simp only [Pv.py, strs_pyL] at s1 s2 ⊢
    simp only [s1, s2, Bool.and_self, if_true]
    congr 1
    induction l with
    | nil => rfl
    | cons a l ih =>
      rw [List.all_cons, Bool.and_eq_true] at hl
      simp only [List.map_cons, List.any_cons, eqv_str]
      have key : (List.map PyData.str l).any (fun x => PyData.eqv x (.str z)) = decide (z ∈ l) := by
        clear ih hl e1 e2 s1 s2 g
        induction l with
        | nil => rfl
        | cons b l ih2 => simp only [List.map_cons, List.any_cons, eqv_str, ih2, List.mem_cons]; by_cases q : b = z <;> simp [q]; exact fun y => absurd y.symm q
      rw [key]
      by_cases q : a = z <;> simp [q]
      exact fun y => absurd y.symm q
  unfold pIn
  rw [k]
  rfl
end Rf
namespace Rf
open PySem PySem.Spec L2
theorem notIn_strs {l : List Str} {z : Str} {s : PSt} (h : ascii z = true) (hl : l.all ascii = true) : pNotIn (.str z) (.tup (l.map .str)) s = .ok (.bl (!decide (z ∈ l))) s := by
  have e := in_strs (s := s) h hl
  unfold pIn at e
  unfold pNotIn
  cases q : pInO (.str z) (.tup (l.map .str)) with
  | none => rw [q] at e; cases e
  | some b =>
    rw [q] at e
    simp only [ZR.ofO, ZR.bind_ok] at e ⊢
    cases e
    rfl
section
variable {s : PSt} {a b c d e f : Pv} {l : List Pv}
theorem ix3 : pIx (.tup (a :: b :: c :: d :: l)) (.int 3) s = .ok d s := by
  show ZR.ofO (atI _ _) _ = _
  have : ixN (a :: b :: c :: d :: l).length 3 = some 3 := by simp only [ixN, List.length_cons]; rw [if_pos (by omega)]; simp; omega
  unfold atI; rw [this]; rfl
theorem ix4 : pIx (.tup (a :: b :: c :: d :: e :: l)) (.int 4) s = .ok e s := by
  show ZR.ofO (atI _ _) _ = _
  have : ixN (a :: b :: c :: d :: e :: l).length 4 = some 4 := by simp only [ixN, List.length_cons]; rw [if_pos (by omega)]; simp; omega
  unfold atI; rw [this]; rfl
theorem ixm5 : pIx (.tup [a, b, c, d, e]) (.int (-1)) s = .ok e s := rfl
theorem ixm6 : pIx (.tup [a, b, c, d, e, f]) (.int (-1)) s = .ok f s := rfl
end
end Rf
namespace Rf.K37
open PySem PySem.Spec L2
/-! ### the text by places -/
def top (i : Nat) : Stmt := PySem.Challenge.pw_sealedrows_k37_asks_by_kind.main.body.getD i (.Pass ⟨0, 0, 0, 0⟩)
def i_is_word_text : FnI := { name := "is_word_text", qual := "is_word_text", params := defArgs (top 4), body := defBody (top 4), scope := defScope (top 4), N := ["thing", "sign"], ps := ["thing"] }
def i_is_short_text : FnI := { name := "is_short_text", qual := "is_short_text", params := defArgs (top 5), body := defBody (top 5), scope := defScope (top 5), N := ["thing", "sign"], ps := ["thing"] }
def i_is_number : FnI := { name := "is_number", qual := "is_number", params := defArgs (top 7), body := defBody (top 7), scope := defScope (top 7), N := ["thing"], ps := ["thing"] }
def i_is_bound : FnI := { name := "is_bound", qual := "is_bound", params := defArgs (top 10), body := defBody (top 10), scope := defScope (top 10), N := ["thing"], ps := ["thing"] }
def i_is_worth : FnI := { name := "is_worth", qual := "is_worth", params := defArgs (top 11), body := defBody (top 11), scope := defScope (top 11), N := ["thing"], ps := ["thing"] }
def i_is_column : FnI := { name := "is_column", qual := "is_column", params := defArgs (top 12), body := defBody (top 12), scope := defScope (top 12), N := ["thing"], ps := ["thing"] }
def i_is_test : FnI := { name := "is_test", qual := "is_test", params := defArgs (top 13), body := defBody (top 13), scope := defScope (top 13), N := ["thing"], ps := ["thing"] }
def i_is_ask : FnI := { name := "is_ask", qual := "is_ask", params := defArgs (top 15), body := defBody (top 15), scope := defScope (top 15), N := ["thing", "word", "parts", "kinds", "is_kind", "part"], ps := ["thing"] }
def i_stretches_of : FnI := { name := "stretches_of", qual := "stretches_of", params := defArgs (top 16), body := defBody (top 16), scope := defScope (top 16), N := ["ask", "word", "table", "parts"], ps := ["ask"] }
def i__law_source : FnI := { name := "_law_source", qual := "_law_source", params := defArgs (top 18), body := defBody (top 18), scope := defScope (top 18), N := ["_law_script"], ps := ["_law_script"] }
def i__law_draw : FnI := { name := "_law_draw", qual := "_law_draw", params := defArgs (top 19), body := defBody (top 19), scope := defScope (top 19), N := ["_law_feed", "_law_choices", "_law_found", "_law_cell", "_law_mixed"], ps := ["_law_feed", "_law_choices"] }
def i__law_limit : FnI := { name := "_law_limit", qual := "_law_limit", params := defArgs (top 20), body := defBody (top 20), scope := defScope (top 20), N := ["_law_feed"], ps := ["_law_feed"] }
def i__law_as : FnI := { name := "_law_as", qual := "_law_as", params := defArgs (top 21), body := defBody (top 21), scope := defScope (top 21), N := ["_law_feed", "_law_top"], ps := ["_law_feed", "_law_top"] }
def i__law_test : FnI := { name := "_law_test", qual := "_law_test", params := defArgs (top 22), body := defBody (top 22), scope := defScope (top 22), N := ["_law_feed", "_law_worth"], ps := ["_law_feed"] }
def i__law_ask : FnI := { name := "_law_ask", qual := "_law_ask", params := defArgs (top 23), body := defBody (top 23), scope := defScope (top 23), N := ["_law_feed", "_law_top", "_law_name", "_law_key", "_law_way", "_law_early"], ps := ["_law_feed", "_law_top"] }
def i__law_odd : FnI := { name := "_law_odd", qual := "_law_odd", params := defArgs (top 24), body := defBody (top 24), scope := defScope (top 24), N := ["_law_feed", "_law_thing", "_law_some"], ps := ["_law_feed", "_law_thing"] }
def i__law_bent : FnI := { name := "_law_bent", qual := "_law_bent", params := defArgs (top 25), body := defBody (top 25), scope := defScope (top 25), N := ["_law_feed", "_law_thing", "_law_at", "_law_way"], ps := ["_law_feed", "_law_thing"] }
def i__law_is_number : FnI := { name := "_law_is_number", qual := "_law_is_number", params := defArgs (top 26), body := defBody (top 26), scope := defScope (top 26), N := ["_law_thing"], ps := ["_law_thing"] }
def i__law_is_word : FnI := { name := "_law_is_word", qual := "_law_is_word", params := defArgs (top 27), body := defBody (top 27), scope := defScope (top 27), N := ["_law_thing", "_law_c"], ps := ["_law_thing"] }
def i__law_is_maybe : FnI := { name := "_law_is_maybe", qual := "_law_is_maybe", params := defArgs (top 28), body := defBody (top 28), scope := defScope (top 28), N := ["_law_thing"], ps := ["_law_thing"] }
def i__law_is_test : FnI := { name := "_law_is_test", qual := "_law_is_test", params := defArgs (top 29), body := defBody (top 29), scope := defScope (top 29), N := ["_law_thing", "_law_c"], ps := ["_law_thing"] }
def i__law_due : FnI := { name := "_law_due", qual := "_law_due", params := defArgs (top 30), body := defBody (top 30), scope := defScope (top 30), N := ["_law_thing", "_law_word", "_law_many"], ps := ["_law_thing"] }
def i_law : FnI := { name := "law", qual := "law", params := defArgs (top 31), body := defBody (top 31), scope := defScope (top 31), N := ["_law_script", "_law_feed", "_law_asks", "_law_things", "_law_k", "_law_bent_here", "_law_thing", "_law_kept", "_law_ask_here", "_law_due_here"], ps := ["_law_script"] }
def g2_1 : List G := [.pos 0]
def g1_1 : List G := [.pos 0]
def g5_1 : List G := [.pos 0]
def g4_1 : List G := [.pos 0]
def g0_1 : List G := [.pos 0]
def g3_1 : List G := [.pos 0]
def g6_1 : List G := [.pos 0]
def g10_2 : List G := [.pos 0, .pos 1]
def g11_1 : List G := [.pos 0]
def g13_1 : List G := [.pos 0]
def g12_2 : List G := [.pos 0, .pos 1]
def g16_2 : List G := [.pos 0, .pos 1]
def g15_2 : List G := [.pos 0, .pos 1]
def g17_1 : List G := [.pos 0]
def g20_1 : List G := [.pos 0]
def g19_1 : List G := [.pos 0]
def g18_1 : List G := [.pos 0]
def g8_1 : List G := [.pos 0]
def g7_1 : List G := [.pos 0]
def g21_1 : List G := [.pos 0]
def g14_2 : List G := [.pos 0, .pos 1]
def g9_1 : List G := [.pos 0]
def tb : Tb := {
  fns := [i_is_word_text, i_is_short_text, i_is_number, i_is_bound, i_is_worth, i_is_column, i_is_test, i_is_ask, i_stretches_of, i__law_source, i__law_draw, i__law_limit, i__law_as, i__law_test, i__law_ask, i__law_odd, i__law_bent, i__law_is_number, i__law_is_word, i__law_is_maybe, i__law_is_test, i__law_due, i_law],
  pats := [⟨2, 1, [], g2_1⟩, ⟨1, 1, [], g1_1⟩, ⟨5, 1, [], g5_1⟩, ⟨4, 1, [], g4_1⟩, ⟨0, 1, [], g0_1⟩, ⟨3, 1, [], g3_1⟩, ⟨6, 1, [], g6_1⟩, ⟨10, 2, [], g10_2⟩, ⟨11, 1, [], g11_1⟩, ⟨13, 1, [], g13_1⟩, ⟨12, 2, [], g12_2⟩, ⟨16, 2, [], g16_2⟩, ⟨15, 2, [], g15_2⟩, ⟨17, 1, [], g17_1⟩, ⟨20, 1, [], g20_1⟩, ⟨19, 1, [], g19_1⟩, ⟨18, 1, [], g18_1⟩, ⟨8, 1, [], g8_1⟩, ⟨7, 1, [], g7_1⟩, ⟨21, 1, [], g21_1⟩, ⟨14, 2, [], g14_2⟩, ⟨9, 1, [], g9_1⟩],
  consts := [("SMALL", (.str "abcdefghijklmnopqrstuvwxyz")), ("MOST_SIGNS", (.int 16)), ("FIGURES", (.str "0123456789")), ("TESTS", (.tup [(.str "is"), (.str "under"), (.str "over")]))],
  nos := ["isinstance", "str", "len", "all", "int", "bool", "tuple", "zip", "list", "repr", "range"],
  dicts := [("PARTS", [("row", (.tup [(.fn "is_word_text"), (.fn "is_number"), (.fn "is_bound")])), ("past", (.tup [(.fn "is_word_text"), (.fn "is_number")])), ("all", (.tup [(.fn "is_word_text"), (.fn "is_bound"), (.fn "is_bound"), (.fn "is_test"), (.fn "is_bound")])), ("count", (.tup [(.fn "is_word_text"), (.fn "is_bound"), (.fn "is_bound"), (.fn "is_bound")])), ("total", (.tup [(.fn "is_word_text"), (.fn "is_bound"), (.fn "is_bound"), (.fn "is_column"), (.fn "is_bound")])), ("pair", (.tup [(.fn "is_word_text"), (.fn "is_word_text"), (.fn "is_bound")]))])],
  fvs := [0, 2, 3, 5, 6] }
def G_is_word_text : S :=
    (sSeq (sRet (mAnd (mUn (opIsi .str) (mVar 0)) (mAnd (mChain cmpLe cmpLe (mC (.int 1)) (mB bLen (mCons (mVar 0) mNil)) (mC (.int 8))) (mB bAll (mCons (mLc (srcSeq (mVar 0)) (gVar 1) mYes (mBin cmpIn (mVar 1) (mC (.str "abcdefghijklmnopqrstuvwxyz"))) [1]) mNil)))))
    sNil)
def b_is_word_text (F : FE) : S := G_is_word_text
def f_is_word_text : Fn := ⟨2, 1, b_is_word_text⟩
def G_is_short_text : S :=
    (sSeq (sRet (mAnd (mUn (opIsi .str) (mVar 0)) (mAnd (mBin cmpLe (mB bLen (mCons (mVar 0) mNil)) (mC (.int 16))) (mB bAll (mCons (mLc (srcSeq (mVar 0)) (gVar 1) mYes (mBin cmpIn (mVar 1) (mBin opAdd (mC (.str "abcdefghijklmnopqrstuvwxyz")) (mC (.str "0123456789")))) [1]) mNil)))))
    sNil)
def b_is_short_text (F : FE) : S := G_is_short_text
def f_is_short_text : Fn := ⟨2, 1, b_is_short_text⟩
def G_is_number : S :=
    (sSeq (sRet (mAnd (mUn (opIsi .int) (mVar 0)) (mNot (mUn (opIsi .bool) (mVar 0)))))
    sNil)
def b_is_number (F : FE) : S := G_is_number
def f_is_number : Fn := ⟨1, 1, b_is_number⟩
def G_is_bound (c_is_number : List D → Hpp → R D) : S :=
    (sSeq (sRet (mOr (mBin cmpIs (mVar 0) (mC .non)) (mCallV c_is_number 1 0 [.pos 0] (mCons (mVar 0) mNil) mNil)))
    sNil)
def b_is_bound (F : FE) : S := G_is_bound (F 2)
def f_is_bound : Fn := ⟨1, 1, b_is_bound⟩
def G_is_worth (c_is_number c_is_short_text : List D → Hpp → R D) : S :=
    (sSeq (sRet (mOr (mCallV c_is_number 1 0 [.pos 0] (mCons (mVar 0) mNil) mNil) (mCallV c_is_short_text 1 0 [.pos 0] (mCons (mVar 0) mNil) mNil)))
    sNil)
def b_is_worth (F : FE) : S := G_is_worth (F 2) (F 1)
def f_is_worth : Fn := ⟨1, 1, b_is_worth⟩
def G_is_column (c_is_number : List D → Hpp → R D) : S :=
    (sSeq (sRet (mAnd (mCallV c_is_number 1 0 [.pos 0] (mCons (mVar 0) mNil) mNil) (mBin cmpGe (mVar 0) (mC (.int 0)))))
    sNil)
def b_is_column (F : FE) : S := G_is_column (F 2)
def f_is_column : Fn := ⟨1, 1, b_is_column⟩
def G_is_test (c_is_column c_is_worth : List D → Hpp → R D) : S :=
    (sSeq (sIf (mBin cmpIs (mVar 0) (mC .non)) (sSeq (sRet (mC (.bl true)))
    sNil) sNil)
    (sSeq (sIf (mOr (mNot (mUn (opIsi .tuple) (mVar 0))) (mOr (mBin cmpNe (mB bLen (mCons (mVar 0) mNil)) (mC (.int 3))) (mOr (mNot (mCallV c_is_column 1 0 [.pos 0] (mCons (mBin opIx (mVar 0) (mC (.int 0))) mNil) mNil)) (mNot (mCallV c_is_worth 1 0 [.pos 0] (mCons (mBin opIx (mVar 0) (mC (.int 2))) mNil) mNil))))) (sSeq (sRet (mC (.bl false)))
    sNil) sNil)
    (sSeq (sRet (mAnd (mUn (opIsi .str) (mBin opIx (mVar 0) (mC (.int 1)))) (mBin cmpIn (mBin opIx (mVar 0) (mC (.int 1))) (mC (.tup [(.str "is"), (.str "under"), (.str "over")])))))
    sNil)))
def b_is_test (F : FE) : S := G_is_test (F 5) (F 4)
def f_is_test : Fn := ⟨1, 1, b_is_test⟩
def G_is_ask (c_is_number c_is_column c_is_word_text c_is_bound c_is_test : List D → Hpp → R D) : S :=
    (sSeq (sIf (mOr (mNot (mUn (opIsi .tuple) (mVar 0))) (mOr (mBin cmpEq (mB bLen (mCons (mVar 0) mNil)) (mC (.int 0))) (mOr (mNot (mUn (opIsi .str) (mBin opIx (mVar 0) (mC (.int 0))))) (mGIn true ["row", "past", "all", "count", "total", "pair"] (mBin opIx (mVar 0) (mC (.int 0))))))) (sSeq (sRet (mC (.bl false)))
    sNil) sNil)
    (sSeq (sAsg (mVar 0) (gStar' 1 0 (tlOf [1, 2])))
    (sSeq (sAsg (mGIx [("row", (.tup [(.fn "is_word_text"), (.fn "is_number"), (.fn "is_bound")])), ("past", (.tup [(.fn "is_word_text"), (.fn "is_number")])), ("all", (.tup [(.fn "is_word_text"), (.fn "is_bound"), (.fn "is_bound"), (.fn "is_test"), (.fn "is_bound")])), ("count", (.tup [(.fn "is_word_text"), (.fn "is_bound"), (.fn "is_bound"), (.fn "is_bound")])), ("total", (.tup [(.fn "is_word_text"), (.fn "is_bound"), (.fn "is_bound"), (.fn "is_column"), (.fn "is_bound")])), ("pair", (.tup [(.fn "is_word_text"), (.fn "is_word_text"), (.fn "is_bound")]))] (mVar 1)) (gVar 3))
    (sSeq (sRet (mAnd (mBin cmpEq (mB bLen (mCons (mVar 2) mNil)) (mB bLen (mCons (mVar 3) mNil))) (mB bAll (mCons (mLc (srcZipS (mVar 3) (mVar 2)) (gTupT' (tlOf [4, 5])) mYes (mCallX [("is_number", [.pos 0], c_is_number), ("is_column", [.pos 0], c_is_column), ("is_word_text", [.pos 0], c_is_word_text), ("is_bound", [.pos 0], c_is_bound), ("is_test", [.pos 0], c_is_test)] 1 (mVar 4) (mCons (mVar 5) mNil)) [4, 5]) mNil))))
    sNil))))
def b_is_ask (F : FE) : S := G_is_ask (F 2) (F 5) (F 0) (F 3) (F 6)
def f_is_ask : Fn := ⟨6, 1, b_is_ask⟩
def G_stretches_of : S :=
    (sSeq (sAsg (mVar 0) (gStar' 2 0 (tlOf [1, 2, 3])))
    (sSeq (sIf (mBin cmpIn (mVar 1) (mTup (mCons (mC (.str "row")) (mCons (mC (.str "past")) mNil)))) (sSeq (sRet (mTup (mCons (mTup (mCons (mVar 2) (mCons (mBin opIx (mVar 3) (mC (.int 0))) (mCons (mBin opIx (mVar 3) (mC (.int 0))) mNil)))) mNil)))
    sNil) sNil)
    (sSeq (sIf (mBin cmpEq (mVar 1) (mC (.str "pair"))) (sSeq (sRet (mTup (mCons (mTup (mCons (mVar 2) (mCons (mC .non) (mCons (mC .non) mNil)))) (mCons (mTup (mCons (mBin opIx (mVar 3) (mC (.int 0))) (mCons (mC .non) (mCons (mC .non) mNil)))) mNil))))
    sNil) sNil)
    (sSeq (sRet (mTup (mCons (mTup (mCons (mVar 2) (mCons (mBin opIx (mVar 3) (mC (.int 0))) (mCons (mBin opIx (mVar 3) (mC (.int 1))) mNil)))) mNil)))
    sNil))))
def b_stretches_of (F : FE) : S := G_stretches_of
def f_stretches_of : Fn := ⟨4, 1, b_stretches_of⟩
def G__law_source : S :=
    (sSeq (sRet (mLst (mCons (mSlice (mVar 0) oNone (oSome (mC (.int 63)))) (mCons (mC (.int 0)) (mCons (mC (.int 0)) (mCons (mC (.int 0)) mNil))))))
    sNil)
def b__law_source (F : FE) : S := G__law_source
def f__law_source : Fn := ⟨1, 1, b__law_source⟩
def G__law_draw : S :=
    (sSeq (sAsg (mBin opAdd (mBin opIx (mVar 0) (mC (.int 3))) (mC (.int 1))) (gSub' (mVar 0) (mC (.int 3))))
    (sSeq (sIf (mBin cmpGt (mBin opIx (mVar 0) (mC (.int 2))) (mC (.int 0))) (sSeq (sAsg (mBin opMod (mBin opIx (mVar 0) (mC (.int 2))) (mVar 1)) (gVar 2))
    (sSeq (sAsg (mBin opFdiv (mBin opIx (mVar 0) (mC (.int 2))) (mVar 1)) (gSub' (mVar 0) (mC (.int 2))))
    (sSeq (sRet (mVar 2))
    sNil))) sNil)
    (sSeq (sAsg (mIf (mBin cmpNe (mBin opIx (mVar 0) (mC (.int 0))) (mLst mNil)) (mBin opIx (mBin opIx (mVar 0) (mC (.int 0))) (mBin opMod (mBin opIx (mVar 0) (mC (.int 1))) (mB bLen (mCons (mBin opIx (mVar 0) (mC (.int 0))) mNil)))) (mC (.int 0))) (gVar 3))
    (sSeq (sAsg (mBin opAdd (mBin opIx (mVar 0) (mC (.int 1))) (mC (.int 1))) (gSub' (mVar 0) (mC (.int 1))))
    (sSeq (sIf (mAnd (mBin cmpGe (mVar 3) (mBin opPow (mC (.int 10)) (mC (.int 18)))) (mBin cmpLe (mBin opIx (mVar 0) (mC (.int 1))) (mB bLen (mCons (mBin opIx (mVar 0) (mC (.int 0))) mNil)))) (sSeq (sAsg (mBin opFdiv (mVar 3) (mVar 1)) (gSub' (mVar 0) (mC (.int 2))))
    (sSeq (sRet (mBin opMod (mVar 3) (mVar 1)))
    sNil)) sNil)
    (sSeq (sAsg (mBin opMod (mBin opPow (mBin opAdd (mBin opAdd (mBin opMod (mVar 3) (mC (.int 2147483629))) (mBin opMul (mC (.int 6007)) (mBin opIx (mVar 0) (mC (.int 3))))) (mC (.int 19))) (mC (.int 5))) (mC (.int 2147483587))) (gVar 4))
    (sSeq (sRet (mBin opMod (mBin opFdiv (mBin opMod (mBin opPow (mBin opAdd (mVar 4) (mBin opMul (mC (.int 7927)) (mBin opIx (mVar 0) (mC (.int 3))))) (mC (.int 5))) (mC (.int 2147483549))) (mC (.int 8))) (mVar 1)))
    sNil)))))))
def b__law_draw (F : FE) : S := G__law_draw
def f__law_draw : Fn := ⟨5, 2, b__law_draw⟩
def G__law_limit (c__law_draw : List D → Hpp → R D) : S :=
    (sSeq (sRet (mBin opIx (mLst (mCons (mC .non) (mCons (mUn opNeg (mC (.int 3))) (mCons (mC (.int 1)) (mCons (mC (.int 2)) (mCons (mC (.int 12)) (mCons (mC .non) mNil))))))) (mCallV c__law_draw 2 0 [.pos 0, .pos 1] (mCons (mVar 0) (mCons (mC (.int 6)) mNil)) mNil)))
    sNil)
def b__law_limit (F : FE) : S := G__law_limit (F 10)
def f__law_limit : Fn := ⟨1, 1, b__law_limit⟩
def G__law_as (c__law_draw : List D → Hpp → R D) : S :=
    (sSeq (sRet (mBin opIx (mLst (mCons (mC .non) (mCons (mCallV c__law_draw 2 0 [.pos 0, .pos 1] (mCons (mVar 0) (mCons (mBin opAdd (mVar 1) (mC (.int 2))) mNil)) mNil) (mCons (mVar 1) (mCons (mC .non) (mCons (mUn opNeg (mC (.int 1))) (mCons (mUn opNeg (mC (.int 7))) mNil))))))) (mCallV c__law_draw 2 0 [.pos 0, .pos 1] (mCons (mVar 0) (mCons (mC (.int 6)) mNil)) mNil)))
    sNil)
def b__law_as (F : FE) : S := G__law_as (F 10)
def f__law_as : Fn := ⟨2, 2, b__law_as⟩
def G__law_test (c__law_draw : List D → Hpp → R D) : S :=
    (sSeq (sIf (mBin cmpEq (mCallV c__law_draw 2 0 [.pos 0, .pos 1] (mCons (mVar 0) (mCons (mC (.int 2)) mNil)) mNil) (mC (.int 0))) (sSeq (sRet (mC .non))
    sNil) sNil)
    (sSeq (sAsg (mBin opIx (mLst (mCons (mBin opSub (mCallV c__law_draw 2 0 [.pos 0, .pos 1] (mCons (mVar 0) (mCons (mC (.int 9)) mNil)) mNil) (mC (.int 3))) (mCons (mC (.str "b7")) (mCons (mC (.str "a")) (mCons (mC (.str "")) mNil))))) (mCallV c__law_draw 2 0 [.pos 0, .pos 1] (mCons (mVar 0) (mCons (mC (.int 4)) mNil)) mNil)) (gVar 1))
    (sSeq (sRet (mTup (mCons (mCallV c__law_draw 2 0 [.pos 0, .pos 1] (mCons (mVar 0) (mCons (mC (.int 4)) mNil)) mNil) (mCons (mBin opIx (mLst (mCons (mC (.str "is")) (mCons (mC (.str "under")) (mCons (mC (.str "over")) mNil)))) (mCallV c__law_draw 2 0 [.pos 0, .pos 1] (mCons (mVar 0) (mCons (mC (.int 3)) mNil)) mNil)) (mCons (mVar 1) mNil)))))
    sNil)))
def b__law_test (F : FE) : S := G__law_test (F 10)
def f__law_test : Fn := ⟨2, 1, b__law_test⟩
def G__law_ask (c__law_draw c__law_limit c__law_test c__law_as : List D → Hpp → R D) : S :=
    (sSeq (sPar 2 3 (mCons (mBin opIx (mLst (mCons (mC (.str "t")) (mCons (mC (.str "t")) (mCons (mC (.str "u")) (mCons (mC (.str "none")) mNil))))) (mCallV c__law_draw 2 0 [.pos 0, .pos 1] (mCons (mVar 0) (mCons (mC (.int 4)) mNil)) mNil)) (mCons (mBin opIx (mLst (mCons (mC (.int 1)) (mCons (mC (.int 2)) (mCons (mC (.int 12)) (mCons (mUn opNeg (mC (.int 3))) (mCons (mC (.int 9)) mNil)))))) (mCallV c__law_draw 2 0 [.pos 0, .pos 1] (mCons (mVar 0) (mCons (mC (.int 5)) mNil)) mNil)) mNil)))
    (sSeq (sPar 4 5 (mCons (mCallV c__law_draw 2 0 [.pos 0, .pos 1] (mCons (mVar 0) (mCons (mC (.int 6)) mNil)) mNil) (mCons (mCallV c__law_as 2 0 [.pos 0, .pos 1] (mCons (mVar 0) (mCons (mVar 1) mNil)) mNil) mNil)))
    (sSeq (sIf (mBin cmpEq (mVar 4) (mC (.int 0))) (sSeq (sRet (mTup (mCons (mC (.str "row")) (mCons (mVar 2) (mCons (mVar 3) (mCons (mVar 5) mNil))))))
    sNil) sNil)
    (sSeq (sIf (mBin cmpEq (mVar 4) (mC (.int 1))) (sSeq (sRet (mTup (mCons (mC (.str "past")) (mCons (mVar 2) (mCons (mVar 3) mNil)))))
    sNil) sNil)
    (sSeq (sIf (mBin cmpEq (mVar 4) (mC (.int 2))) (sSeq (sRet (mTup (mCons (mC (.str "all")) (mCons (mVar 2) (mCons (mCallV c__law_limit 1 0 [.pos 0] (mCons (mVar 0) mNil) mNil) (mCons (mCallV c__law_limit 1 0 [.pos 0] (mCons (mVar 0) mNil) mNil) (mCons (mCallV c__law_test 1 0 [.pos 0] (mCons (mVar 0) mNil) mNil) (mCons (mVar 5) mNil))))))))
    sNil) sNil)
    (sSeq (sIf (mBin cmpEq (mVar 4) (mC (.int 3))) (sSeq (sRet (mTup (mCons (mC (.str "count")) (mCons (mVar 2) (mCons (mCallV c__law_limit 1 0 [.pos 0] (mCons (mVar 0) mNil) mNil) (mCons (mCallV c__law_limit 1 0 [.pos 0] (mCons (mVar 0) mNil) mNil) (mCons (mVar 5) mNil)))))))
    sNil) sNil)
    (sSeq (sIf (mBin cmpEq (mVar 4) (mC (.int 4))) (sSeq (sRet (mTup (mCons (mC (.str "total")) (mCons (mVar 2) (mCons (mCallV c__law_limit 1 0 [.pos 0] (mCons (mVar 0) mNil) mNil) (mCons (mCallV c__law_limit 1 0 [.pos 0] (mCons (mVar 0) mNil) mNil) (mCons (mCallV c__law_draw 2 0 [.pos 0, .pos 1] (mCons (mVar 0) (mCons (mC (.int 3)) mNil)) mNil) (mCons (mVar 5) mNil))))))))
    sNil) sNil)
    (sSeq (sRet (mTup (mCons (mC (.str "pair")) (mCons (mVar 2) (mCons (mBin opIx (mLst (mCons (mC (.str "t")) (mCons (mC (.str "u")) (mCons (mC (.str "none")) mNil)))) (mCallV c__law_draw 2 0 [.pos 0, .pos 1] (mCons (mVar 0) (mCons (mC (.int 3)) mNil)) mNil)) (mCons (mVar 5) mNil))))))
    sNil))))))))
def b__law_ask (F : FE) : S := G__law_ask (F 10) (F 11) (F 13) (F 12)
def f__law_ask : Fn := ⟨6, 2, b__law_ask⟩
def G__law_odd (c__law_draw : List D → Hpp → R D) : S :=
    (sSeq (sAsg (mLst (mCons (mC .non) (mCons (mC (.bl true)) (mCons (mC (.bl false)) (mCons (mC (.str "")) (mCons (mLst mNil) (mCons (mTup mNil) (mCons (mC (.int 0)) (mCons (mC (.int 1)) (mCons (mUn opNeg (mC (.int 1))) (mCons (mC (.int 2)) (mCons (mC (.str "t")) (mCons (mC (.str "where")) (mCons (mBin opPow (mC (.int 10)) (mC (.int 40))) (mCons (mTup (mCons (mC (.str "leaf")) (mCons (mC (.int 1)) mNil))) (mCons (mTup (mCons (mC (.str "cut")) (mCons (mTup (mCons (mC (.int 0)) (mCons (mC (.int 1)) mNil))) mNil))) (mCons (mTup (mCons (mC (.int 0)) (mCons (mC (.int 0)) mNil))) mNil))))))))))))))))) (gVar 2))
    (sSeq (sIf (mUn (opIsi .int) (mVar 1)) (sSeq (sAsg (mBin opAdd (mVar 2) (mBin opMul (mLst (mCons (mBin opAdd (mVar 1) (mC (.int 1))) (mCons (mBin opSub (mVar 1) (mC (.int 1))) (mCons (mB bStr (mCons (mVar 1) mNil)) mNil)))) (mC (.int 6)))) (gVar 2))
    sNil) sNil)
    (sSeq (sIf (mUn (opIsi .str) (mVar 1)) (sSeq (sAsg (mBin opAdd (mVar 2) (mBin opMul (mLst (mCons (mC (.str "is")) (mCons (mC (.str "u")) (mCons (mC (.str "fork")) (mCons (mBin opAdd (mVar 1) (mC (.str "a"))) (mCons (mUn opUpper (mVar 1)) mNil)))))) (mC (.int 3)))) (gVar 2))
    sNil) sNil)
    (sSeq (sIf (mUn (opIsi .tuple) (mVar 1)) (sSeq (sAsg (mBin opAdd (mVar 2) (mBin opMul (mLst (mCons (mB bList (mCons (mVar 1) mNil)) (mCons (mBin opAdd (mVar 1) (mTup (mCons (mC .non) mNil))) (mCons (mBin opAdd (mVar 1) (mSlice (mVar 1) (oSome (mUn opNeg (mC (.int 1)))) oNone)) (mCons (mSlice (mVar 1) oNone (oSome (mUn opNeg (mC (.int 1))))) (mCons (mUn opRev (mVar 1)) mNil)))))) (mC (.int 3)))) (gVar 2))
    sNil) sNil)
    (sSeq (sRet (mBin opIx (mVar 2) (mCallV c__law_draw 2 0 [.pos 0, .pos 1] (mCons (mVar 0) (mCons (mB bLen (mCons (mVar 2) mNil)) mNil)) mNil)))
    sNil)))))
def b__law_odd (F : FE) : S := G__law_odd (F 10)
def f__law_odd : Fn := ⟨3, 2, b__law_odd⟩
def G__law_bent (c__law_bent c__law_draw c__law_odd : List D → Hpp → R D) : S :=
    (sSeq (sIf (mOr (mNot (mUn (opIsi .tuple) (mVar 1))) (mOr (mBin cmpEq (mB bLen (mCons (mVar 1) mNil)) (mC (.int 0))) (mBin cmpEq (mCallV c__law_draw 2 0 [.pos 0, .pos 1] (mCons (mVar 0) (mCons (mC (.int 6)) mNil)) mNil) (mC (.int 0))))) (sSeq (sRet (mCallV c__law_odd 2 0 [.pos 0, .pos 1] (mCons (mVar 0) (mCons (mVar 1) mNil)) mNil))
    sNil) sNil)
    (sSeq (sAsg (mCallV c__law_draw 2 0 [.pos 0, .pos 1] (mCons (mVar 0) (mCons (mB bLen (mCons (mVar 1) mNil)) mNil)) mNil) (gVar 2))
    (sSeq (sAsg (mCallV c__law_draw 2 0 [.pos 0, .pos 1] (mCons (mVar 0) (mCons (mC (.int 9)) mNil)) mNil) (gVar 3))
    (sSeq (sIf (mBin cmpEq (mVar 3) (mC (.int 0))) (sSeq (sRet (mBin opAdd (mSlice (mVar 1) oNone (oSome (mVar 2))) (mSlice (mVar 1) (oSome (mBin opAdd (mVar 2) (mC (.int 1)))) oNone)))
    sNil) sNil)
    (sSeq (sIf (mBin cmpEq (mVar 3) (mC (.int 1))) (sSeq (sRet (mBin opAdd (mSlice (mVar 1) oNone (oSome (mBin opAdd (mVar 2) (mC (.int 1))))) (mSlice (mVar 1) (oSome (mVar 2)) oNone)))
    sNil) sNil)
    (sSeq (sIf (mBin cmpEq (mVar 3) (mC (.int 2))) (sSeq (sRet (mBin opAdd (mBin opAdd (mSlice (mVar 1) oNone (oSome (mVar 2))) (mUn opRev (mSlice (mVar 1) (oSome (mVar 2)) (oSome (mBin opAdd (mVar 2) (mC (.int 2))))))) (mSlice (mVar 1) (oSome (mBin opAdd (mVar 2) (mC (.int 2)))) oNone)))
    sNil) sNil)
    (sSeq (sRet (mBin opAdd (mBin opAdd (mSlice (mVar 1) oNone (oSome (mVar 2))) (mTup (mCons (mCallV c__law_bent 2 0 [.pos 0, .pos 1] (mCons (mVar 0) (mCons (mBin opIx (mVar 1) (mVar 2)) mNil)) mNil) mNil))) (mSlice (mVar 1) (oSome (mBin opAdd (mVar 2) (mC (.int 1)))) oNone)))
    sNil)))))))
def b__law_bent (F : FE) : S := G__law_bent (F 16) (F 10) (F 15)
def f__law_bent : Fn := ⟨4, 2, b__law_bent⟩
def G__law_is_number : S :=
    (sSeq (sRet (mAnd (mUn (opIsi .int) (mVar 0)) (mNot (mUn (opIsi .bool) (mVar 0)))))
    sNil)
def b__law_is_number (F : FE) : S := G__law_is_number
def f__law_is_number : Fn := ⟨1, 1, b__law_is_number⟩
def G__law_is_word : S :=
    (sSeq (sRet (mAnd (mUn (opIsi .str) (mVar 0)) (mAnd (mChain cmpLe cmpLe (mC (.int 1)) (mB bLen (mCons (mVar 0) mNil)) (mC (.int 8))) (mBin cmpEq (mLc (srcSeq (mVar 0)) (gVar 1) (mTest (mNot (mChain cmpLe cmpLe (mC (.str "a")) (mVar 1) (mC (.str "z"))))) (mVar 1) [1]) (mLst mNil)))))
    sNil)
def b__law_is_word (F : FE) : S := G__law_is_word
def f__law_is_word : Fn := ⟨2, 1, b__law_is_word⟩
def G__law_is_maybe (c__law_is_number : List D → Hpp → R D) : S :=
    (sSeq (sRet (mOr (mBin cmpIs (mVar 0) (mC .non)) (mCallV c__law_is_number 1 0 [.pos 0] (mCons (mVar 0) mNil) mNil)))
    sNil)
def b__law_is_maybe (F : FE) : S := G__law_is_maybe (F 17)
def f__law_is_maybe : Fn := ⟨1, 1, b__law_is_maybe⟩
def G__law_is_test (c__law_is_number : List D → Hpp → R D) : S :=
    (sSeq (sIf (mBin cmpIs (mVar 0) (mC .non)) (sSeq (sRet (mC (.bl true)))
    sNil) sNil)
    (sSeq (sIf (mOr (mNot (mUn (opIsi .tuple) (mVar 0))) (mOr (mBin cmpNe (mB bLen (mCons (mVar 0) mNil)) (mC (.int 3))) (mOr (mNot (mCallV c__law_is_number 1 0 [.pos 0] (mCons (mBin opIx (mVar 0) (mC (.int 0))) mNil) mNil)) (mBin cmpLt (mBin opIx (mVar 0) (mC (.int 0))) (mC (.int 0)))))) (sSeq (sRet (mC (.bl false)))
    sNil) sNil)
    (sSeq (sIf (mOr (mNot (mUn (opIsi .str) (mBin opIx (mVar 0) (mC (.int 1))))) (mBin cmpNotIn (mBin opIx (mVar 0) (mC (.int 1))) (mTup (mCons (mC (.str "is")) (mCons (mC (.str "under")) (mCons (mC (.str "over")) mNil)))))) (sSeq (sRet (mC (.bl false)))
    sNil) sNil)
    (sSeq (sIf (mNot (mUn (opIsi .str) (mBin opIx (mVar 0) (mC (.int 2))))) (sSeq (sRet (mCallV c__law_is_number 1 0 [.pos 0] (mCons (mBin opIx (mVar 0) (mC (.int 2))) mNil) mNil))
    sNil) sNil)
    (sSeq (sRet (mAnd (mBin cmpLe (mB bLen (mCons (mBin opIx (mVar 0) (mC (.int 2))) mNil)) (mC (.int 16))) (mBin cmpEq (mLc (srcSeq (mBin opIx (mVar 0) (mC (.int 2)))) (gVar 1) (mTest (mNot (mOr (mChain cmpLe cmpLe (mC (.str "a")) (mVar 1) (mC (.str "z"))) (mChain cmpLe cmpLe (mC (.str "0")) (mVar 1) (mC (.str "9")))))) (mVar 1) [1]) (mLst mNil))))
    sNil)))))
def b__law_is_test (F : FE) : S := G__law_is_test (F 17)
def f__law_is_test : Fn := ⟨2, 1, b__law_is_test⟩
def G__law_due (c__law_is_number c__law_is_test c__law_is_maybe c__law_is_word : List D → Hpp → R D) : S :=
    (sSeq (sIf (mOr (mNot (mUn (opIsi .tuple) (mVar 0))) (mOr (mBin cmpLt (mB bLen (mCons (mVar 0) mNil)) (mC (.int 3))) (mOr (mNot (mUn (opIsi .str) (mBin opIx (mVar 0) (mC (.int 0))))) (mNot (mCallV c__law_is_word 1 0 [.pos 0] (mCons (mBin opIx (mVar 0) (mC (.int 1))) mNil) mNil))))) (sSeq (sRet (mC (.bl false)))
    sNil) sNil)
    (sSeq (sPar 1 2 (mCons (mBin opIx (mVar 0) (mC (.int 0))) (mCons (mB bLen (mCons (mVar 0) mNil)) mNil)))
    (sSeq (sIf (mBin cmpEq (mVar 1) (mC (.str "row"))) (sSeq (sRet (mAnd (mBin cmpEq (mVar 2) (mC (.int 4))) (mAnd (mCallV c__law_is_number 1 0 [.pos 0] (mCons (mBin opIx (mVar 0) (mC (.int 2))) mNil) mNil) (mCallV c__law_is_maybe 1 0 [.pos 0] (mCons (mBin opIx (mVar 0) (mC (.int 3))) mNil) mNil))))
    sNil) sNil)
    (sSeq (sIf (mBin cmpEq (mVar 1) (mC (.str "past"))) (sSeq (sRet (mAnd (mBin cmpEq (mVar 2) (mC (.int 3))) (mCallV c__law_is_number 1 0 [.pos 0] (mCons (mBin opIx (mVar 0) (mC (.int 2))) mNil) mNil)))
    sNil) sNil)
    (sSeq (sIf (mBin cmpEq (mVar 1) (mC (.str "pair"))) (sSeq (sRet (mAnd (mBin cmpEq (mVar 2) (mC (.int 4))) (mAnd (mCallV c__law_is_word 1 0 [.pos 0] (mCons (mBin opIx (mVar 0) (mC (.int 2))) mNil) mNil) (mCallV c__law_is_maybe 1 0 [.pos 0] (mCons (mBin opIx (mVar 0) (mC (.int 3))) mNil) mNil))))
    sNil) sNil)
    (sSeq (sIf (mOr (mBin cmpNotIn (mVar 1) (mTup (mCons (mC (.str "all")) (mCons (mC (.str "count")) (mCons (mC (.str "total")) mNil))))) (mBin cmpNe (mVar 2) (mBin opIx (mDict [((mC (.str "all")), (mC (.int 6))), ((mC (.str "count")), (mC (.int 5))), ((mC (.str "total")), (mC (.int 6)))]) (mVar 1)))) (sSeq (sRet (mC (.bl false)))
    sNil) sNil)
    (sSeq (sIf (mOr (mNot (mCallV c__law_is_maybe 1 0 [.pos 0] (mCons (mBin opIx (mVar 0) (mC (.int 2))) mNil) mNil)) (mOr (mNot (mCallV c__law_is_maybe 1 0 [.pos 0] (mCons (mBin opIx (mVar 0) (mC (.int 3))) mNil) mNil)) (mNot (mCallV c__law_is_maybe 1 0 [.pos 0] (mCons (mBin opIx (mVar 0) (mUn opNeg (mC (.int 1)))) mNil) mNil)))) (sSeq (sRet (mC (.bl false)))
    sNil) sNil)
    (sSeq (sIf (mBin cmpEq (mVar 1) (mC (.str "all"))) (sSeq (sRet (mCallV c__law_is_test 1 0 [.pos 0] (mCons (mBin opIx (mVar 0) (mC (.int 4))) mNil) mNil))
    sNil) sNil)
    (sSeq (sRet (mOr (mBin cmpEq (mVar 1) (mC (.str "count"))) (mAnd (mCallV c__law_is_number 1 0 [.pos 0] (mCons (mBin opIx (mVar 0) (mC (.int 4))) mNil) mNil) (mBin cmpGe (mBin opIx (mVar 0) (mC (.int 4))) (mC (.int 0))))))
    sNil)))))))))
def b__law_due (F : FE) : S := G__law_due (F 17) (F 20) (F 19) (F 18)
def f__law_due : Fn := ⟨3, 1, b__law_due⟩
def G_law (c_stretches_of c_is_ask c__law_due c__law_draw c__law_bent c__law_ask c__law_source : List D → Hpp → R D) : S :=
    (sSeq (sAsg (mCallV c__law_source 1 0 [.pos 0] (mCons (mVar 0) mNil) mNil) (gVar 1))
    (sSeq (sAsg (mBin opAdd (mLc (srcRange1 (mC (.int 12))) (gVar 4) mYes (mCallV c__law_ask 2 0 [.pos 0, .pos 1] (mCons (mVar 1) (mCons (mC (.int 9)) mNil)) mNil) [4]) (mLst (mCons (mTup (mCons (mC (.str "row")) (mCons (mC (.str "t")) (mCons (mBin opPow (mC (.int 10)) (mC (.int 40))) (mCons (mUn opNeg (mC (.int 7))) mNil))))) mNil))) (gVar 2))
    (sSeq (sDrop (mMeth isLst mAppend (mVar 2) (mCons (mTup (mCons (mC (.str "all")) (mCons (mC (.str "zzzzzzzz")) (mCons (mC .non) (mCons (mUn opNeg (mC (.int 9))) (mCons (mC .non) (mCons (mC .non) mNil))))))) mNil)))
    (sSeq (sAsg (mBin opAdd (mVar 2) (mLst (mCons (mC .non) (mCons (mTup mNil) (mCons (mC (.str "row")) (mCons (mTup (mCons (mC (.str "row")) mNil)) (mCons (mLst (mCons (mC (.str "row")) (mCons (mC (.str "t")) (mCons (mC (.int 1)) (mCons (mC .non) mNil))))) (mCons (mTup (mCons (mC (.str "row")) (mCons (mC (.str "t")) (mCons (mC (.bl true)) (mCons (mC .non) mNil))))) (mCons (mTup (mCons (mC (.str "past")) (mCons (mC (.str "T")) (mCons (mC (.int 1)) mNil)))) mNil))))))))) (gVar 3))
    (sSeq (sAsg (mBin opAdd (mVar 3) (mLst (mCons (mTup (mCons (mC (.str "all")) (mCons (mC (.str "t")) (mCons (mC (.int 1)) (mCons (mC (.int 2)) (mCons (mTup (mCons (mC (.int 0)) (mCons (mC (.str "is")) (mCons (mBin opMul (mC (.str "a")) (mC (.int 16))) mNil)))) (mCons (mC .non) mNil))))))) (mCons (mTup (mCons (mC (.str "all")) (mCons (mC (.str "t")) (mCons (mC (.int 1)) (mCons (mC (.int 2)) (mCons (mTup (mCons (mC (.int 0)) (mCons (mC (.str "is")) (mCons (mBin opMul (mC (.str "a")) (mC (.int 17))) mNil)))) (mCons (mC .non) mNil))))))) mNil)))) (gVar 3))
    (sSeq (sFor (srcRange1 (mC (.int 24))) (gVar 4) (sSeq (sAsg (mCallV c__law_bent 2 0 [.pos 0, .pos 1] (mCons (mVar 1) (mCons (mBin opIx (mVar 2) (mCallV c__law_draw 2 0 [.pos 0, .pos 1] (mCons (mVar 1) (mCons (mB bLen (mCons (mVar 2) mNil)) mNil)) mNil)) mNil)) mNil) (gVar 5))
    (sSeq (sDrop (mMeth isLst mAppend (mVar 3) (mCons (mIf (mBin cmpEq (mCallV c__law_draw 2 0 [.pos 0, .pos 1] (mCons (mVar 1) (mCons (mC (.int 4)) mNil)) mNil) (mC (.int 0))) (mCallV c__law_bent 2 0 [.pos 0, .pos 1] (mCons (mVar 1) (mCons (mVar 5) mNil)) mNil) (mVar 5)) mNil)))
    sNil)))
    (sSeq (sFor (srcSeq (mVar 3)) (gVar 6) (sSeq (sAsg (mB bRepr (mCons (mVar 6) mNil)) (gVar 7))
    (sSeq (sIf (mOr (mBin cmpNe (mB bRepr (mCons (mCallV c_is_ask 1 0 [.pos 0] (mCons (mVar 6) mNil) mNil) mNil)) (mB bRepr (mCons (mCallV c__law_due 1 0 [.pos 0] (mCons (mVar 6) mNil) mNil) mNil))) (mBin cmpNe (mB bRepr (mCons (mVar 6) mNil)) (mVar 7))) (sSeq (sRet (mC (.bl false)))
    sNil) sNil)
    sNil)))
    (sSeq (sFor (srcSeq (mVar 2)) (gVar 8) (sSeq (sAsg (mIf (mBin cmpIn (mBin opIx (mVar 8) (mC (.int 0))) (mTup (mCons (mC (.str "row")) (mCons (mC (.str "past")) mNil)))) (mTup (mCons (mTup (mCons (mBin opIx (mVar 8) (mC (.int 1))) (mCons (mBin opIx (mVar 8) (mC (.int 2))) (mCons (mBin opIx (mVar 8) (mC (.int 2))) mNil)))) mNil)) (mTup (mCons (mSlice (mVar 8) (oSome (mC (.int 1))) (oSome (mC (.int 4)))) mNil))) (gVar 9))
    (sSeq (sIf (mBin cmpEq (mBin opIx (mVar 8) (mC (.int 0))) (mC (.str "pair"))) (sSeq (sAsg (mTup (mCons (mTup (mCons (mBin opIx (mVar 8) (mC (.int 1))) (mCons (mC .non) (mCons (mC .non) mNil)))) (mCons (mTup (mCons (mBin opIx (mVar 8) (mC (.int 2))) (mCons (mC .non) (mCons (mC .non) mNil)))) mNil))) (gVar 9))
    sNil) sNil)
    (sSeq (sIf (mBin cmpNe (mB bRepr (mCons (mCallV c_stretches_of 1 0 [.pos 0] (mCons (mVar 8) mNil) mNil) mNil)) (mB bRepr (mCons (mVar 9) mNil))) (sSeq (sRet (mC (.bl false)))
    sNil) sNil)
    sNil))))
    (sSeq (sRet (mC (.bl true)))
    sNil)))))))))
def b_law (F : FE) : S := G_law (F 8) (F 7) (F 21) (F 10) (F 16) (F 14) (F 9)
def f_law : Fn := ⟨10, 1, b_law⟩
def pr : Nat → Option Fn
  | 0 => some f_is_word_text
  | 1 => some f_is_short_text
  | 2 => some f_is_number
  | 3 => some f_is_bound
  | 4 => some f_is_worth
  | 5 => some f_is_column
  | 6 => some f_is_test
  | 7 => some f_is_ask
  | 8 => some f_stretches_of
  | 9 => some f__law_source
  | 10 => some f__law_draw
  | 11 => some f__law_limit
  | 12 => some f__law_as
  | 13 => some f__law_test
  | 14 => some f__law_ask
  | 15 => some f__law_odd
  | 16 => some f__law_bent
  | 17 => some f__law_is_number
  | 18 => some f__law_is_word
  | 19 => some f__law_is_maybe
  | 20 => some f__law_is_test
  | 21 => some f__law_due
  | 22 => some f_law
  | _ => none
/-! ### each body is what the text turns into -/
theorem t_is_word_text (F : FE) : trSs tb F 60 ⟨i_is_word_text.N, i_is_word_text.scope, none⟩ i_is_word_text.body = some (b_is_word_text F) := by kernel_rfl
theorem s_is_word_text : FnScope i_is_word_text.N i_is_word_text.ps i_is_word_text.scope := ⟨rfl, rfl, rfl, by decide +kernel, rfl, by decide +kernel, by decide +kernel⟩
theorem t_is_short_text (F : FE) : trSs tb F 60 ⟨i_is_short_text.N, i_is_short_text.scope, none⟩ i_is_short_text.body = some (b_is_short_text F) := by kernel_rfl
theorem s_is_short_text : FnScope i_is_short_text.N i_is_short_text.ps i_is_short_text.scope := ⟨rfl, rfl, rfl, by decide +kernel, rfl, by decide +kernel, by decide +kernel⟩
theorem t_is_number (F : FE) : trSs tb F 60 ⟨i_is_number.N, i_is_number.scope, none⟩ i_is_number.body = some (b_is_number F) := by kernel_rfl
theorem s_is_number : FnScope i_is_number.N i_is_number.ps i_is_number.scope := ⟨rfl, rfl, rfl, by decide +kernel, rfl, by decide +kernel, by decide +kernel⟩
theorem t_is_bound (F : FE) : trSs tb F 60 ⟨i_is_bound.N, i_is_bound.scope, none⟩ i_is_bound.body = some (b_is_bound F) := by kernel_rfl
theorem s_is_bound : FnScope i_is_bound.N i_is_bound.ps i_is_bound.scope := ⟨rfl, rfl, rfl, by decide +kernel, rfl, by decide +kernel, by decide +kernel⟩
theorem t_is_worth (F : FE) : trSs tb F 60 ⟨i_is_worth.N, i_is_worth.scope, none⟩ i_is_worth.body = some (b_is_worth F) := by kernel_rfl
theorem s_is_worth : FnScope i_is_worth.N i_is_worth.ps i_is_worth.scope := ⟨rfl, rfl, rfl, by decide +kernel, rfl, by decide +kernel, by decide +kernel⟩
theorem t_is_column (F : FE) : trSs tb F 60 ⟨i_is_column.N, i_is_column.scope, none⟩ i_is_column.body = some (b_is_column F) := by kernel_rfl
theorem s_is_column : FnScope i_is_column.N i_is_column.ps i_is_column.scope := ⟨rfl, rfl, rfl, by decide +kernel, rfl, by decide +kernel, by decide +kernel⟩
theorem t_is_test (F : FE) : trSs tb F 60 ⟨i_is_test.N, i_is_test.scope, none⟩ i_is_test.body = some (b_is_test F) := by kernel_rfl
theorem s_is_test : FnScope i_is_test.N i_is_test.ps i_is_test.scope := ⟨rfl, rfl, rfl, by decide +kernel, rfl, by decide +kernel, by decide +kernel⟩
theorem t_is_ask (F : FE) : trSs tb F 60 ⟨i_is_ask.N, i_is_ask.scope, none⟩ i_is_ask.body = some (b_is_ask F) := by kernel_rfl
theorem s_is_ask : FnScope i_is_ask.N i_is_ask.ps i_is_ask.scope := ⟨rfl, rfl, rfl, by decide +kernel, rfl, by decide +kernel, by decide +kernel⟩
theorem t_stretches_of (F : FE) : trSs tb F 60 ⟨i_stretches_of.N, i_stretches_of.scope, none⟩ i_stretches_of.body = some (b_stretches_of F) := by kernel_rfl
theorem s_stretches_of : FnScope i_stretches_of.N i_stretches_of.ps i_stretches_of.scope := ⟨rfl, rfl, rfl, by decide +kernel, rfl, by decide +kernel, by decide +kernel⟩
theorem t__law_source (F : FE) : trSs tb F 60 ⟨i__law_source.N, i__law_source.scope, none⟩ i__law_source.body = some (b__law_source F) := by kernel_rfl
theorem s__law_source : FnScope i__law_source.N i__law_source.ps i__law_source.scope := ⟨rfl, rfl, rfl, by decide +kernel, rfl, by decide +kernel, by decide +kernel⟩
theorem t__law_draw (F : FE) : trSs tb F 60 ⟨i__law_draw.N, i__law_draw.scope, none⟩ i__law_draw.body = some (b__law_draw F) := by kernel_rfl
theorem s__law_draw : FnScope i__law_draw.N i__law_draw.ps i__law_draw.scope := ⟨rfl, rfl, rfl, by decide +kernel, rfl, by decide +kernel, by decide +kernel⟩
theorem t__law_limit (F : FE) : trSs tb F 60 ⟨i__law_limit.N, i__law_limit.scope, none⟩ i__law_limit.body = some (b__law_limit F) := by kernel_rfl
theorem s__law_limit : FnScope i__law_limit.N i__law_limit.ps i__law_limit.scope := ⟨rfl, rfl, rfl, by decide +kernel, rfl, by decide +kernel, by decide +kernel⟩
theorem t__law_as (F : FE) : trSs tb F 60 ⟨i__law_as.N, i__law_as.scope, none⟩ i__law_as.body = some (b__law_as F) := by kernel_rfl
theorem s__law_as : FnScope i__law_as.N i__law_as.ps i__law_as.scope := ⟨rfl, rfl, rfl, by decide +kernel, rfl, by decide +kernel, by decide +kernel⟩
theorem t__law_test (F : FE) : trSs tb F 60 ⟨i__law_test.N, i__law_test.scope, none⟩ i__law_test.body = some (b__law_test F) := by kernel_rfl
theorem s__law_test : FnScope i__law_test.N i__law_test.ps i__law_test.scope := ⟨rfl, rfl, rfl, by decide +kernel, rfl, by decide +kernel, by decide +kernel⟩
theorem t__law_ask (F : FE) : trSs tb F 60 ⟨i__law_ask.N, i__law_ask.scope, none⟩ i__law_ask.body = some (b__law_ask F) := by kernel_rfl
theorem s__law_ask : FnScope i__law_ask.N i__law_ask.ps i__law_ask.scope := ⟨rfl, rfl, rfl, by decide +kernel, rfl, by decide +kernel, by decide +kernel⟩
theorem t__law_odd (F : FE) : trSs tb F 60 ⟨i__law_odd.N, i__law_odd.scope, none⟩ i__law_odd.body = some (b__law_odd F) := by kernel_rfl
theorem s__law_odd : FnScope i__law_odd.N i__law_odd.ps i__law_odd.scope := ⟨rfl, rfl, rfl, by decide +kernel, rfl, by decide +kernel, by decide +kernel⟩
theorem t__law_bent (F : FE) : trSs tb F 60 ⟨i__law_bent.N, i__law_bent.scope, none⟩ i__law_bent.body = some (b__law_bent F) := by kernel_rfl
theorem s__law_bent : FnScope i__law_bent.N i__law_bent.ps i__law_bent.scope := ⟨rfl, rfl, rfl, by decide +kernel, rfl, by decide +kernel, by decide +kernel⟩
theorem t__law_is_number (F : FE) : trSs tb F 60 ⟨i__law_is_number.N, i__law_is_number.scope, none⟩ i__law_is_number.body = some (b__law_is_number F) := by kernel_rfl
theorem s__law_is_number : FnScope i__law_is_number.N i__law_is_number.ps i__law_is_number.scope := ⟨rfl, rfl, rfl, by decide +kernel, rfl, by decide +kernel, by decide +kernel⟩
theorem t__law_is_word (F : FE) : trSs tb F 60 ⟨i__law_is_word.N, i__law_is_word.scope, none⟩ i__law_is_word.body = some (b__law_is_word F) := by kernel_rfl
theorem s__law_is_word : FnScope i__law_is_word.N i__law_is_word.ps i__law_is_word.scope := ⟨rfl, rfl, rfl, by decide +kernel, rfl, by decide +kernel, by decide +kernel⟩
theorem t__law_is_maybe (F : FE) : trSs tb F 60 ⟨i__law_is_maybe.N, i__law_is_maybe.scope, none⟩ i__law_is_maybe.body = some (b__law_is_maybe F) := by kernel_rfl
theorem s__law_is_maybe : FnScope i__law_is_maybe.N i__law_is_maybe.ps i__law_is_maybe.scope := ⟨rfl, rfl, rfl, by decide +kernel, rfl, by decide +kernel, by decide +kernel⟩
theorem t__law_is_test (F : FE) : trSs tb F 60 ⟨i__law_is_test.N, i__law_is_test.scope, none⟩ i__law_is_test.body = some (b__law_is_test F) := by kernel_rfl
theorem s__law_is_test : FnScope i__law_is_test.N i__law_is_test.ps i__law_is_test.scope := ⟨rfl, rfl, rfl, by decide +kernel, rfl, by decide +kernel, by decide +kernel⟩
theorem t__law_due (F : FE) : trSs tb F 60 ⟨i__law_due.N, i__law_due.scope, none⟩ i__law_due.body = some (b__law_due F) := by kernel_rfl
theorem s__law_due : FnScope i__law_due.N i__law_due.ps i__law_due.scope := ⟨rfl, rfl, rfl, by decide +kernel, rfl, by decide +kernel, by decide +kernel⟩
theorem t_law (F : FE) : trSs tb F 60 ⟨i_law.N, i_law.scope, none⟩ i_law.body = some (b_law F) := by kernel_rfl
theorem s_law : FnScope i_law.N i_law.ps i_law.scope := ⟨rfl, rfl, rfl, by decide +kernel, rfl, by decide +kernel, by decide +kernel⟩
theorem turned : Turned tb pr := by
  intro i I h
  match i with
  | 0 => cases h; exact ⟨f_is_word_text, rfl, rfl, rfl, by decide, s_is_word_text, 60, t_is_word_text⟩
  | 1 => cases h; exact ⟨f_is_short_text, rfl, rfl, rfl, by decide, s_is_short_text, 60, t_is_short_text⟩
  | 2 => cases h; exact ⟨f_is_number, rfl, rfl, rfl, by decide, s_is_number, 60, t_is_number⟩
  | 3 => cases h; exact ⟨f_is_bound, rfl, rfl, rfl, by decide, s_is_bound, 60, t_is_bound⟩
  | 4 => cases h; exact ⟨f_is_worth, rfl, rfl, rfl, by decide, s_is_worth, 60, t_is_worth⟩
  | 5 => cases h; exact ⟨f_is_column, rfl, rfl, rfl, by decide, s_is_column, 60, t_is_column⟩
  | 6 => cases h; exact ⟨f_is_test, rfl, rfl, rfl, by decide, s_is_test, 60, t_is_test⟩
  | 7 => cases h; exact ⟨f_is_ask, rfl, rfl, rfl, by decide, s_is_ask, 60, t_is_ask⟩
  | 8 => cases h; exact ⟨f_stretches_of, rfl, rfl, rfl, by decide, s_stretches_of, 60, t_stretches_of⟩
  | 9 => cases h; exact ⟨f__law_source, rfl, rfl, rfl, by decide, s__law_source, 60, t__law_source⟩
  | 10 => cases h; exact ⟨f__law_draw, rfl, rfl, rfl, by decide, s__law_draw, 60, t__law_draw⟩
  | 11 => cases h; exact ⟨f__law_limit, rfl, rfl, rfl, by decide, s__law_limit, 60, t__law_limit⟩
  | 12 => cases h; exact ⟨f__law_as, rfl, rfl, rfl, by decide, s__law_as, 60, t__law_as⟩
  | 13 => cases h; exact ⟨f__law_test, rfl, rfl, rfl, by decide, s__law_test, 60, t__law_test⟩
  | 14 => cases h; exact ⟨f__law_ask, rfl, rfl, rfl, by decide, s__law_ask, 60, t__law_ask⟩
  | 15 => cases h; exact ⟨f__law_odd, rfl, rfl, rfl, by decide, s__law_odd, 60, t__law_odd⟩
  | 16 => cases h; exact ⟨f__law_bent, rfl, rfl, rfl, by decide, s__law_bent, 60, t__law_bent⟩
  | 17 => cases h; exact ⟨f__law_is_number, rfl, rfl, rfl, by decide, s__law_is_number, 60, t__law_is_number⟩
  | 18 => cases h; exact ⟨f__law_is_word, rfl, rfl, rfl, by decide, s__law_is_word, 60, t__law_is_word⟩
  | 19 => cases h; exact ⟨f__law_is_maybe, rfl, rfl, rfl, by decide, s__law_is_maybe, 60, t__law_is_maybe⟩
  | 20 => cases h; exact ⟨f__law_is_test, rfl, rfl, rfl, by decide, s__law_is_test, 60, t__law_is_test⟩
  | 21 => cases h; exact ⟨f__law_due, rfl, rfl, rfl, by decide, s__law_due, 60, t__law_due⟩
  | 22 => cases h; exact ⟨f_law, rfl, rfl, rfl, by decide, s_law, 60, t_law⟩
  | _ + 23 => simp [tb] at h
abbrev n_is_word_text : Nat := 0
abbrev n_is_short_text : Nat := 1
abbrev n_is_number : Nat := 2
abbrev n_is_bound : Nat := 3
abbrev n_is_worth : Nat := 4
abbrev n_is_column : Nat := 5
abbrev n_is_test : Nat := 6
abbrev n_is_ask : Nat := 7
abbrev n_stretches_of : Nat := 8
abbrev n__law_source : Nat := 9
abbrev n__law_draw : Nat := 10
abbrev n__law_limit : Nat := 11
abbrev n__law_as : Nat := 12
abbrev n__law_test : Nat := 13
abbrev n__law_ask : Nat := 14
abbrev n__law_odd : Nat := 15
abbrev n__law_bent : Nat := 16
abbrev n__law_is_number : Nat := 17
abbrev n__law_is_word : Nat := 18
abbrev n__law_is_maybe : Nat := 19
abbrev n__law_is_test : Nat := 20
abbrev n__law_due : Nat := 21
abbrev n_law : Nat := 22
end Rf.K37
namespace Rf.K37
open PySem PySem.Spec L2
def P_is_word_text : ZS :=
    (tSeq (tRet (pAnd (pUn (pIsi .str) (pRd 0)) (pAnd (pChain pLe pLe (pC (.int 1)) (pB pLen (pCons (pRd 0) pNil)) (pC (.int 8))) (pB pAll (pCons (pLc (qSeq (pVar 0)) (qVar 1) pYes (pBin pIn (pRd 1) (pC (.str "abcdefghijklmnopqrstuvwxyz"))) [1]) pNil)))))
    tNil)
def z_is_word_text (F : ZFE) : ZS := P_is_word_text
theorem sim_is_word_text : SimS (G_is_word_text) (P_is_word_text) :=
    (SimS.seq (SimS.ret (SimE.and (SimE.un (so_isi _) SimR.rd) (SimE.and (SimE.chain so_le so_le (SimE.r (SimE.cst rfl rfl)) (SimE.r (SimE.bi bi_len (SimLR.cons SimR.rd SimLR.nil))) (SimE.r (SimE.cst rfl rfl))) (SimE.bi bi_all (SimLR.cons (SimE.r (SimE.lc (SimSrc.seq SimE.var) SimT.var SimB.yes (SimE.bin so_in SimR.rd (SimE.r (SimE.cst rfl rfl))))) SimLR.nil)))))
    SimS.nil)
def P_is_short_text : ZS :=
    (tSeq (tRet (pAnd (pUn (pIsi .str) (pRd 0)) (pAnd (pBin pLe (pB pLen (pCons (pRd 0) pNil)) (pC (.int 16))) (pB pAll (pCons (pLc (qSeq (pVar 0)) (qVar 1) pYes (pBin pIn (pRd 1) (pBin pAdd (pC (.str "abcdefghijklmnopqrstuvwxyz")) (pC (.str "0123456789")))) [1]) pNil)))))
    tNil)
def z_is_short_text (F : ZFE) : ZS := P_is_short_text
theorem sim_is_short_text : SimS (G_is_short_text) (P_is_short_text) :=
    (SimS.seq (SimS.ret (SimE.and (SimE.un (so_isi _) SimR.rd) (SimE.and (SimE.bin so_le (SimE.r (SimE.bi bi_len (SimLR.cons SimR.rd SimLR.nil))) (SimE.r (SimE.cst rfl rfl))) (SimE.bi bi_all (SimLR.cons (SimE.r (SimE.lc (SimSrc.seq SimE.var) SimT.var SimB.yes (SimE.bin so_in SimR.rd (SimE.r (SimE.bin so_add (SimE.r (SimE.cst rfl rfl)) (SimE.r (SimE.cst rfl rfl))))))) SimLR.nil)))))
    SimS.nil)
def P_is_number : ZS :=
    (tSeq (tRet (pAnd (pUn (pIsi .int) (pRd 0)) (pNot (pUn (pIsi .bool) (pRd 0)))))
    tNil)
def z_is_number (F : ZFE) : ZS := P_is_number
theorem sim_is_number : SimS (G_is_number) (P_is_number) :=
    (SimS.seq (SimS.ret (SimE.and (SimE.un (so_isi _) SimR.rd) (SimE.not (SimE.r (SimE.un (so_isi _) SimR.rd)))))
    SimS.nil)
def P_is_bound (p_is_number : ZF) : ZS :=
    (tSeq (tRet (pOr (pBin pIs (pRd 0) (pC .non)) (pCallV p_is_number 1 0 [.pos 0] (pCons (pVar 0) pNil) pNil)))
    tNil)
def z_is_bound (F : ZFE) : ZS := P_is_bound (F 2)
theorem sim_is_bound {c_is_number : List D → Hpp → R D} {p_is_number : ZF} (h_is_number : SimF c_is_number p_is_number) : SimS (G_is_bound c_is_number) (P_is_bound p_is_number) :=
    (SimS.seq (SimS.ret (SimE.or (SimE.bin so_is SimR.rd (SimE.r (SimE.cst rfl rfl))) (SimE.call h_is_number rfl rfl (SimL.cons SimE.var SimL.nil) SimL.nil)))
    SimS.nil)
def P_is_worth (p_is_number p_is_short_text : ZF) : ZS :=
    (tSeq (tRet (pOr (pCallV p_is_number 1 0 [.pos 0] (pCons (pVar 0) pNil) pNil) (pCallV p_is_short_text 1 0 [.pos 0] (pCons (pVar 0) pNil) pNil)))
    tNil)
def z_is_worth (F : ZFE) : ZS := P_is_worth (F 2) (F 1)
theorem sim_is_worth {c_is_number : List D → Hpp → R D} {p_is_number : ZF} (h_is_number : SimF c_is_number p_is_number) {c_is_short_text : List D → Hpp → R D} {p_is_short_text : ZF} (h_is_short_text : SimF c_is_short_text p_is_short_text) : SimS (G_is_worth c_is_number c_is_short_text) (P_is_worth p_is_number p_is_short_text) :=
    (SimS.seq (SimS.ret (SimE.or (SimE.call h_is_number rfl rfl (SimL.cons SimE.var SimL.nil) SimL.nil) (SimE.call h_is_short_text rfl rfl (SimL.cons SimE.var SimL.nil) SimL.nil)))
    SimS.nil)
def P_is_column (p_is_number : ZF) : ZS :=
    (tSeq (tRet (pAnd (pCallV p_is_number 1 0 [.pos 0] (pCons (pVar 0) pNil) pNil) (pBin pGe (pRd 0) (pC (.int 0)))))
    tNil)
def z_is_column (F : ZFE) : ZS := P_is_column (F 2)
theorem sim_is_column {c_is_number : List D → Hpp → R D} {p_is_number : ZF} (h_is_number : SimF c_is_number p_is_number) : SimS (G_is_column c_is_number) (P_is_column p_is_number) :=
    (SimS.seq (SimS.ret (SimE.and (SimE.call h_is_number rfl rfl (SimL.cons SimE.var SimL.nil) SimL.nil) (SimE.bin so_ge SimR.rd (SimE.r (SimE.cst rfl rfl)))))
    SimS.nil)
def P_is_test (p_is_column p_is_worth : ZF) : ZS :=
    (tSeq (tIf (pBin pIs (pRd 0) (pC .non)) (tSeq (tRet (pC (.bl true)))
    tNil) tNil)
    (tSeq (tIf (pOr (pNot (pUn (pIsi .tuple) (pRd 0))) (pOr (pBin pNe (pB pLen (pCons (pRd 0) pNil)) (pC (.int 3))) (pOr (pNot (pCallV p_is_column 1 0 [.pos 0] (pCons (pBin pIx (pRd 0) (pC (.int 0))) pNil) pNil)) (pNot (pCallV p_is_worth 1 0 [.pos 0] (pCons (pBin pIx (pRd 0) (pC (.int 2))) pNil) pNil))))) (tSeq (tRet (pC (.bl false)))
    tNil) tNil)
    (tSeq (tRet (pAnd (pUn (pIsi .str) (pBin pIx (pRd 0) (pC (.int 1)))) (pBin pIn (pBin pIx (pRd 0) (pC (.int 1))) (pC (.tup [(.str "is"), (.str "under"), (.str "over")])))))
    tNil)))
def z_is_test (F : ZFE) : ZS := P_is_test (F 5) (F 4)
theorem sim_is_test {c_is_column : List D → Hpp → R D} {p_is_column : ZF} (h_is_column : SimF c_is_column p_is_column) {c_is_worth : List D → Hpp → R D} {p_is_worth : ZF} (h_is_worth : SimF c_is_worth p_is_worth) : SimS (G_is_test c_is_column c_is_worth) (P_is_test p_is_column p_is_worth) :=
    (SimS.seq (SimS.ifS (SimE.r (SimE.bin so_is SimR.rd (SimE.r (SimE.cst rfl rfl)))) (SimS.seq (SimS.ret (SimE.cst rfl rfl))
    SimS.nil) SimS.nil)
    (SimS.seq (SimS.ifS (SimE.r (SimE.or (SimE.not (SimE.r (SimE.un (so_isi _) SimR.rd))) (SimE.or (SimE.bin so_ne (SimE.r (SimE.bi bi_len (SimLR.cons SimR.rd SimLR.nil))) (SimE.r (SimE.cst rfl rfl))) (SimE.or (SimE.not (SimE.r (SimE.call h_is_column rfl rfl (SimL.cons (SimE.bin so_ix SimR.rd (SimE.r (SimE.cst rfl rfl))) SimL.nil) SimL.nil))) (SimE.not (SimE.r (SimE.call h_is_worth rfl rfl (SimL.cons (SimE.bin so_ix SimR.rd (SimE.r (SimE.cst rfl rfl))) SimL.nil) SimL.nil))))))) (SimS.seq (SimS.ret (SimE.cst rfl rfl))
    SimS.nil) SimS.nil)
    (SimS.seq (SimS.ret (SimE.and (SimE.un (so_isi _) (SimE.r (SimE.bin so_ix SimR.rd (SimE.r (SimE.cst rfl rfl))))) (SimE.bin so_in (SimE.r (SimE.bin so_ix SimR.rd (SimE.r (SimE.cst rfl rfl)))) (SimE.r (SimE.cst rfl rfl)))))
    SimS.nil)))
def P_is_ask (p_is_number p_is_column p_is_word_text p_is_bound p_is_test : ZF) : ZS :=
    (tSeq (tIf (pOr (pNot (pUn (pIsi .tuple) (pRd 0))) (pOr (pBin pEq (pB pLen (pCons (pRd 0) pNil)) (pC (.int 0))) (pOr (pNot (pUn (pIsi .str) (pBin pIx (pRd 0) (pC (.int 0))))) (pGIn true ["row", "past", "all", "count", "total", "pair"] (pBin pIx (pRd 0) (pC (.int 0))))))) (tSeq (tRet (pC (.bl false)))
    tNil) tNil)
    (tSeq (tAsg (pVar 0) (qStar 1 0 (ptlOf [1, 2])))
    (tSeq (tAsg (pGIx [("row", (.tup [(.fn "is_word_text"), (.fn "is_number"), (.fn "is_bound")])), ("past", (.tup [(.fn "is_word_text"), (.fn "is_number")])), ("all", (.tup [(.fn "is_word_text"), (.fn "is_bound"), (.fn "is_bound"), (.fn "is_test"), (.fn "is_bound")])), ("count", (.tup [(.fn "is_word_text"), (.fn "is_bound"), (.fn "is_bound"), (.fn "is_bound")])), ("total", (.tup [(.fn "is_word_text"), (.fn "is_bound"), (.fn "is_bound"), (.fn "is_column"), (.fn "is_bound")])), ("pair", (.tup [(.fn "is_word_text"), (.fn "is_word_text"), (.fn "is_bound")]))] (pRd 1)) (qVar 3))
    (tSeq (tRet (pAnd (pBin pEq (pB pLen (pCons (pRd 2) pNil)) (pB pLen (pCons (pRd 3) pNil))) (pB pAll (pCons (pLc (qZipS (pVar 3) (pVar 2)) (qTupT (ptlOf [4, 5])) pYes (pCallX [("is_number", [.pos 0], p_is_number), ("is_column", [.pos 0], p_is_column), ("is_word_text", [.pos 0], p_is_word_text), ("is_bound", [.pos 0], p_is_bound), ("is_test", [.pos 0], p_is_test)] 1 (pVar 4) (pCons (pVar 5) pNil)) [4, 5]) pNil))))
    tNil))))
def z_is_ask (F : ZFE) : ZS := P_is_ask (F 2) (F 5) (F 0) (F 3) (F 6)
theorem sim_is_ask {c_is_number : List D → Hpp → R D} {p_is_number : ZF} (h_is_number : SimF c_is_number p_is_number) {c_is_column : List D → Hpp → R D} {p_is_column : ZF} (h_is_column : SimF c_is_column p_is_column) {c_is_word_text : List D → Hpp → R D} {p_is_word_text : ZF} (h_is_word_text : SimF c_is_word_text p_is_word_text) {c_is_bound : List D → Hpp → R D} {p_is_bound : ZF} (h_is_bound : SimF c_is_bound p_is_bound) {c_is_test : List D → Hpp → R D} {p_is_test : ZF} (h_is_test : SimF c_is_test p_is_test) : SimS (G_is_ask c_is_number c_is_column c_is_word_text c_is_bound c_is_test) (P_is_ask p_is_number p_is_column p_is_word_text p_is_bound p_is_test) :=
    (SimS.seq (SimS.ifS (SimE.r (SimE.or (SimE.not (SimE.r (SimE.un (so_isi _) SimR.rd))) (SimE.or (SimE.bin so_eq (SimE.r (SimE.bi bi_len (SimLR.cons SimR.rd SimLR.nil))) (SimE.r (SimE.cst rfl rfl))) (SimE.or (SimE.not (SimE.r (SimE.un (so_isi _) (SimE.r (SimE.bin so_ix SimR.rd (SimE.r (SimE.cst rfl rfl))))))) (SimE.gin (SimE.r (SimE.bin so_ix SimR.rd (SimE.r (SimE.cst rfl rfl))))))))) (SimS.seq (SimS.ret (SimE.cst rfl rfl))
    SimS.nil) SimS.nil)
    (SimS.seq (SimS.asg SimE.var (SimT.star (SimTL.of _)))
    (SimS.seq (SimS.asg (SimE.gix rfl rfl SimR.rd) SimT.var)
    (SimS.seq (SimS.ret (SimE.and (SimE.bin so_eq (SimE.r (SimE.bi bi_len (SimLR.cons SimR.rd SimLR.nil))) (SimE.r (SimE.bi bi_len (SimLR.cons SimR.rd SimLR.nil)))) (SimE.bi bi_all (SimLR.cons (SimE.r (SimE.lc (SimSrc.zipS SimE.var SimE.var) (SimT.tupT (SimTL.of _)) SimB.yes (SimE.callX (TabR.cons rfl rfl h_is_number (TabR.cons rfl rfl h_is_column (TabR.cons rfl rfl h_is_word_text (TabR.cons rfl rfl h_is_bound (TabR.cons rfl rfl h_is_test TabR.nil))))) SimE.var (SimL.cons SimE.var SimL.nil)))) SimLR.nil))))
    SimS.nil))))
def P_stretches_of : ZS :=
    (tSeq (tAsg (pVar 0) (qStar 2 0 (ptlOf [1, 2, 3])))
    (tSeq (tIf (pBin pIn (pRd 1) (pTup (pCons (pC (.str "row")) (pCons (pC (.str "past")) pNil)))) (tSeq (tRet (pTup (pCons (pTup (pCons (pVar 2) (pCons (pBin pIx (pRd 3) (pC (.int 0))) (pCons (pBin pIx (pRd 3) (pC (.int 0))) pNil)))) pNil)))
    tNil) tNil)
    (tSeq (tIf (pBin pEq (pRd 1) (pC (.str "pair"))) (tSeq (tRet (pTup (pCons (pTup (pCons (pVar 2) (pCons (pC .non) (pCons (pC .non) pNil)))) (pCons (pTup (pCons (pBin pIx (pRd 3) (pC (.int 0))) (pCons (pC .non) (pCons (pC .non) pNil)))) pNil))))
    tNil) tNil)
    (tSeq (tRet (pTup (pCons (pTup (pCons (pVar 2) (pCons (pBin pIx (pRd 3) (pC (.int 0))) (pCons (pBin pIx (pRd 3) (pC (.int 1))) pNil)))) pNil)))
    tNil))))
def z_stretches_of (F : ZFE) : ZS := P_stretches_of
theorem sim_stretches_of : SimS (G_stretches_of) (P_stretches_of) :=
    (SimS.seq (SimS.asg SimE.var (SimT.star (SimTL.of _)))
    (SimS.seq (SimS.ifS (SimE.r (SimE.bin so_in SimR.rd (SimE.r (SimE.tup (SimL.cons (SimE.cst rfl rfl) (SimL.cons (SimE.cst rfl rfl) SimL.nil)))))) (SimS.seq (SimS.ret (SimE.tup (SimL.cons (SimE.tup (SimL.cons SimE.var (SimL.cons (SimE.bin so_ix SimR.rd (SimE.r (SimE.cst rfl rfl))) (SimL.cons (SimE.bin so_ix SimR.rd (SimE.r (SimE.cst rfl rfl))) SimL.nil)))) SimL.nil)))
    SimS.nil) SimS.nil)
    (SimS.seq (SimS.ifS (SimE.r (SimE.bin so_eq SimR.rd (SimE.r (SimE.cst rfl rfl)))) (SimS.seq (SimS.ret (SimE.tup (SimL.cons (SimE.tup (SimL.cons SimE.var (SimL.cons (SimE.cst rfl rfl) (SimL.cons (SimE.cst rfl rfl) SimL.nil)))) (SimL.cons (SimE.tup (SimL.cons (SimE.bin so_ix SimR.rd (SimE.r (SimE.cst rfl rfl))) (SimL.cons (SimE.cst rfl rfl) (SimL.cons (SimE.cst rfl rfl) SimL.nil)))) SimL.nil))))
    SimS.nil) SimS.nil)
    (SimS.seq (SimS.ret (SimE.tup (SimL.cons (SimE.tup (SimL.cons SimE.var (SimL.cons (SimE.bin so_ix SimR.rd (SimE.r (SimE.cst rfl rfl))) (SimL.cons (SimE.bin so_ix SimR.rd (SimE.r (SimE.cst rfl rfl))) SimL.nil)))) SimL.nil)))
    SimS.nil))))
def P__law_source : ZS :=
    (tSeq (tRet (pObj (pCons (pSlice (pRd 0) qNone (qSome (pC (.int 63)))) (pCons (pC (.int 0)) (pCons (pC (.int 0)) (pCons (pC (.int 0)) pNil))))))
    tNil)
def z__law_source (F : ZFE) : ZS := P__law_source
theorem sim__law_source : SimS (G__law_source) (P__law_source) :=
    (SimS.seq (SimS.ret (SimE.obj (SimL.cons (SimE.slice SimR.rd SimO.none (SimO.some (SimE.r (SimE.cst rfl rfl)))) (SimL.cons (SimE.cst rfl rfl) (SimL.cons (SimE.cst rfl rfl) (SimL.cons (SimE.cst rfl rfl) SimL.nil))))))
    SimS.nil)
def P__law_draw : ZS :=
    (tSeq (tSetObj (pBin pAdd (pBin pIx (pRd 0) (pC (.int 3))) (pC (.int 1))) (pRd 0) (pC (.int 3)))
    (tSeq (tIf (pBin pGt (pBin pIx (pRd 0) (pC (.int 2))) (pC (.int 0))) (tSeq (tAsg (pBin pMod (pBin pIx (pRd 0) (pC (.int 2))) (pRd 1)) (qVar 2))
    (tSeq (tSetObj (pBin pFdiv (pBin pIx (pRd 0) (pC (.int 2))) (pRd 1)) (pRd 0) (pC (.int 2)))
    (tSeq (tRet (pVar 2))
    tNil))) tNil)
    (tSeq (tAsg (pIf (pBin pNe (pBin pIx (pRd 0) (pC (.int 0))) (pLst pNil)) (pBin pIx (pBin pIx (pRd 0) (pC (.int 0))) (pBin pMod (pBin pIx (pRd 0) (pC (.int 1))) (pB pLen (pCons (pBin pIx (pRd 0) (pC (.int 0))) pNil)))) (pC (.int 0))) (qVar 3))
    (tSeq (tSetObj (pBin pAdd (pBin pIx (pRd 0) (pC (.int 1))) (pC (.int 1))) (pRd 0) (pC (.int 1)))
    (tSeq (tIf (pAnd (pBin pGe (pRd 3) (pBin pPow (pC (.int 10)) (pC (.int 18)))) (pBin pLe (pBin pIx (pRd 0) (pC (.int 1))) (pB pLen (pCons (pBin pIx (pRd 0) (pC (.int 0))) pNil)))) (tSeq (tSetObj (pBin pFdiv (pRd 3) (pRd 1)) (pRd 0) (pC (.int 2)))
    (tSeq (tRet (pBin pMod (pRd 3) (pRd 1)))
    tNil)) tNil)
    (tSeq (tAsg (pBin pMod (pBin pPow (pBin pAdd (pBin pAdd (pBin pMod (pRd 3) (pC (.int 2147483629))) (pBin pMul (pC (.int 6007)) (pBin pIx (pRd 0) (pC (.int 3))))) (pC (.int 19))) (pC (.int 5))) (pC (.int 2147483587))) (qVar 4))
    (tSeq (tRet (pBin pMod (pBin pFdiv (pBin pMod (pBin pPow (pBin pAdd (pRd 4) (pBin pMul (pC (.int 7927)) (pBin pIx (pRd 0) (pC (.int 3))))) (pC (.int 5))) (pC (.int 2147483549))) (pC (.int 8))) (pRd 1)))
    tNil)))))))
def z__law_draw (F : ZFE) : ZS := P__law_draw
theorem sim__law_draw : SimS (G__law_draw) (P__law_draw) :=
    (SimS.seq (SimS.setObj (SimE.bin so_add (SimE.r (SimE.bin so_ix SimR.rd (SimE.r (SimE.cst rfl rfl)))) (SimE.r (SimE.cst rfl rfl))) SimR.rd (SimE.r (SimE.cst rfl rfl)))
    (SimS.seq (SimS.ifS (SimE.r (SimE.bin so_gt (SimE.r (SimE.bin so_ix SimR.rd (SimE.r (SimE.cst rfl rfl)))) (SimE.r (SimE.cst rfl rfl)))) (SimS.seq (SimS.asg (SimE.bin so_mod (SimE.r (SimE.bin so_ix SimR.rd (SimE.r (SimE.cst rfl rfl)))) SimR.rd) SimT.var)
    (SimS.seq (SimS.setObj (SimE.bin so_fdiv (SimE.r (SimE.bin so_ix SimR.rd (SimE.r (SimE.cst rfl rfl)))) SimR.rd) SimR.rd (SimE.r (SimE.cst rfl rfl)))
    (SimS.seq (SimS.ret SimE.var)
    SimS.nil))) SimS.nil)
    (SimS.seq (SimS.asg (SimE.ifE (SimE.r (SimE.bin so_ne (SimE.r (SimE.bin so_ix SimR.rd (SimE.r (SimE.cst rfl rfl)))) (SimE.r (SimE.lst SimL.nil)))) (SimE.bin so_ix (SimE.r (SimE.bin so_ix SimR.rd (SimE.r (SimE.cst rfl rfl)))) (SimE.r (SimE.bin so_mod (SimE.r (SimE.bin so_ix SimR.rd (SimE.r (SimE.cst rfl rfl)))) (SimE.r (SimE.bi bi_len (SimLR.cons (SimE.r (SimE.bin so_ix SimR.rd (SimE.r (SimE.cst rfl rfl)))) SimLR.nil)))))) (SimE.cst rfl rfl)) SimT.var)
    (SimS.seq (SimS.setObj (SimE.bin so_add (SimE.r (SimE.bin so_ix SimR.rd (SimE.r (SimE.cst rfl rfl)))) (SimE.r (SimE.cst rfl rfl))) SimR.rd (SimE.r (SimE.cst rfl rfl)))
    (SimS.seq (SimS.ifS (SimE.r (SimE.and (SimE.bin so_ge SimR.rd (SimE.r (SimE.bin so_pow (SimE.r (SimE.cst rfl rfl)) (SimE.r (SimE.cst rfl rfl))))) (SimE.bin so_le (SimE.r (SimE.bin so_ix SimR.rd (SimE.r (SimE.cst rfl rfl)))) (SimE.r (SimE.bi bi_len (SimLR.cons (SimE.r (SimE.bin so_ix SimR.rd (SimE.r (SimE.cst rfl rfl)))) SimLR.nil)))))) (SimS.seq (SimS.setObj (SimE.bin so_fdiv SimR.rd SimR.rd) SimR.rd (SimE.r (SimE.cst rfl rfl)))
    (SimS.seq (SimS.ret (SimE.bin so_mod SimR.rd SimR.rd))
    SimS.nil)) SimS.nil)
    (SimS.seq (SimS.asg (SimE.bin so_mod (SimE.r (SimE.bin so_pow (SimE.r (SimE.bin so_add (SimE.r (SimE.bin so_add (SimE.r (SimE.bin so_mod SimR.rd (SimE.r (SimE.cst rfl rfl)))) (SimE.r (SimE.bin so_mul (SimE.r (SimE.cst rfl rfl)) (SimE.r (SimE.bin so_ix SimR.rd (SimE.r (SimE.cst rfl rfl)))))))) (SimE.r (SimE.cst rfl rfl)))) (SimE.r (SimE.cst rfl rfl)))) (SimE.r (SimE.cst rfl rfl))) SimT.var)
    (SimS.seq (SimS.ret (SimE.bin so_mod (SimE.r (SimE.bin so_fdiv (SimE.r (SimE.bin so_mod (SimE.r (SimE.bin so_pow (SimE.r (SimE.bin so_add SimR.rd (SimE.r (SimE.bin so_mul (SimE.r (SimE.cst rfl rfl)) (SimE.r (SimE.bin so_ix SimR.rd (SimE.r (SimE.cst rfl rfl)))))))) (SimE.r (SimE.cst rfl rfl)))) (SimE.r (SimE.cst rfl rfl)))) (SimE.r (SimE.cst rfl rfl)))) SimR.rd))
    SimS.nil)))))))
def P__law_limit (p__law_draw : ZF) : ZS :=
    (tSeq (tRet (pBin pIx (pLst (pCons (pC .non) (pCons (pUn pNeg (pC (.int 3))) (pCons (pC (.int 1)) (pCons (pC (.int 2)) (pCons (pC (.int 12)) (pCons (pC .non) pNil))))))) (pCallV p__law_draw 2 0 [.pos 0, .pos 1] (pCons (pVar 0) (pCons (pC (.int 6)) pNil)) pNil)))
    tNil)
def z__law_limit (F : ZFE) : ZS := P__law_limit (F 10)
theorem sim__law_limit {c__law_draw : List D → Hpp → R D} {p__law_draw : ZF} (h__law_draw : SimF c__law_draw p__law_draw) : SimS (G__law_limit c__law_draw) (P__law_limit p__law_draw) :=
    (SimS.seq (SimS.ret (SimE.bin so_ix (SimE.r (SimE.lst (SimL.cons (SimE.cst rfl rfl) (SimL.cons (SimE.un so_neg (SimE.r (SimE.cst rfl rfl))) (SimL.cons (SimE.cst rfl rfl) (SimL.cons (SimE.cst rfl rfl) (SimL.cons (SimE.cst rfl rfl) (SimL.cons (SimE.cst rfl rfl) SimL.nil)))))))) (SimE.r (SimE.call h__law_draw rfl rfl (SimL.cons SimE.var (SimL.cons (SimE.cst rfl rfl) SimL.nil)) SimL.nil))))
    SimS.nil)
def P__law_as (p__law_draw : ZF) : ZS :=
    (tSeq (tRet (pBin pIx (pLst (pCons (pC .non) (pCons (pCallV p__law_draw 2 0 [.pos 0, .pos 1] (pCons (pVar 0) (pCons (pBin pAdd (pRd 1) (pC (.int 2))) pNil)) pNil) (pCons (pVar 1) (pCons (pC .non) (pCons (pUn pNeg (pC (.int 1))) (pCons (pUn pNeg (pC (.int 7))) pNil))))))) (pCallV p__law_draw 2 0 [.pos 0, .pos 1] (pCons (pVar 0) (pCons (pC (.int 6)) pNil)) pNil)))
    tNil)
def z__law_as (F : ZFE) : ZS := P__law_as (F 10)
theorem sim__law_as {c__law_draw : List D → Hpp → R D} {p__law_draw : ZF} (h__law_draw : SimF c__law_draw p__law_draw) : SimS (G__law_as c__law_draw) (P__law_as p__law_draw) :=
    (SimS.seq (SimS.ret (SimE.bin so_ix (SimE.r (SimE.lst (SimL.cons (SimE.cst rfl rfl) (SimL.cons (SimE.call h__law_draw rfl rfl (SimL.cons SimE.var (SimL.cons (SimE.bin so_add SimR.rd (SimE.r (SimE.cst rfl rfl))) SimL.nil)) SimL.nil) (SimL.cons SimE.var (SimL.cons (SimE.cst rfl rfl) (SimL.cons (SimE.un so_neg (SimE.r (SimE.cst rfl rfl))) (SimL.cons (SimE.un so_neg (SimE.r (SimE.cst rfl rfl))) SimL.nil)))))))) (SimE.r (SimE.call h__law_draw rfl rfl (SimL.cons SimE.var (SimL.cons (SimE.cst rfl rfl) SimL.nil)) SimL.nil))))
    SimS.nil)
def P__law_test (p__law_draw : ZF) : ZS :=
    (tSeq (tIf (pBin pEq (pCallV p__law_draw 2 0 [.pos 0, .pos 1] (pCons (pVar 0) (pCons (pC (.int 2)) pNil)) pNil) (pC (.int 0))) (tSeq (tRet (pC .non))
    tNil) tNil)
    (tSeq (tAsg (pBin pIx (pLst (pCons (pBin pSub (pCallV p__law_draw 2 0 [.pos 0, .pos 1] (pCons (pVar 0) (pCons (pC (.int 9)) pNil)) pNil) (pC (.int 3))) (pCons (pC (.str "b7")) (pCons (pC (.str "a")) (pCons (pC (.str "")) pNil))))) (pCallV p__law_draw 2 0 [.pos 0, .pos 1] (pCons (pVar 0) (pCons (pC (.int 4)) pNil)) pNil)) (qVar 1))
    (tSeq (tRet (pTup (pCons (pCallV p__law_draw 2 0 [.pos 0, .pos 1] (pCons (pVar 0) (pCons (pC (.int 4)) pNil)) pNil) (pCons (pBin pIx (pLst (pCons (pC (.str "is")) (pCons (pC (.str "under")) (pCons (pC (.str "over")) pNil)))) (pCallV p__law_draw 2 0 [.pos 0, .pos 1] (pCons (pVar 0) (pCons (pC (.int 3)) pNil)) pNil)) (pCons (pVar 1) pNil)))))
    tNil)))
def z__law_test (F : ZFE) : ZS := P__law_test (F 10)
theorem sim__law_test {c__law_draw : List D → Hpp → R D} {p__law_draw : ZF} (h__law_draw : SimF c__law_draw p__law_draw) : SimS (G__law_test c__law_draw) (P__law_test p__law_draw) :=
    (SimS.seq (SimS.ifS (SimE.r (SimE.bin so_eq (SimE.r (SimE.call h__law_draw rfl rfl (SimL.cons SimE.var (SimL.cons (SimE.cst rfl rfl) SimL.nil)) SimL.nil)) (SimE.r (SimE.cst rfl rfl)))) (SimS.seq (SimS.ret (SimE.cst rfl rfl))
    SimS.nil) SimS.nil)
    (SimS.seq (SimS.asg (SimE.bin so_ix (SimE.r (SimE.lst (SimL.cons (SimE.bin so_sub (SimE.r (SimE.call h__law_draw rfl rfl (SimL.cons SimE.var (SimL.cons (SimE.cst rfl rfl) SimL.nil)) SimL.nil)) (SimE.r (SimE.cst rfl rfl))) (SimL.cons (SimE.cst rfl rfl) (SimL.cons (SimE.cst rfl rfl) (SimL.cons (SimE.cst rfl rfl) SimL.nil)))))) (SimE.r (SimE.call h__law_draw rfl rfl (SimL.cons SimE.var (SimL.cons (SimE.cst rfl rfl) SimL.nil)) SimL.nil))) SimT.var)
    (SimS.seq (SimS.ret (SimE.tup (SimL.cons (SimE.call h__law_draw rfl rfl (SimL.cons SimE.var (SimL.cons (SimE.cst rfl rfl) SimL.nil)) SimL.nil) (SimL.cons (SimE.bin so_ix (SimE.r (SimE.lst (SimL.cons (SimE.cst rfl rfl) (SimL.cons (SimE.cst rfl rfl) (SimL.cons (SimE.cst rfl rfl) SimL.nil))))) (SimE.r (SimE.call h__law_draw rfl rfl (SimL.cons SimE.var (SimL.cons (SimE.cst rfl rfl) SimL.nil)) SimL.nil))) (SimL.cons SimE.var SimL.nil)))))
    SimS.nil)))
def P__law_ask (p__law_draw p__law_limit p__law_test p__law_as : ZF) : ZS :=
    (tSeq (tPar 2 3 (pCons (pBin pIx (pLst (pCons (pC (.str "t")) (pCons (pC (.str "t")) (pCons (pC (.str "u")) (pCons (pC (.str "none")) pNil))))) (pCallV p__law_draw 2 0 [.pos 0, .pos 1] (pCons (pVar 0) (pCons (pC (.int 4)) pNil)) pNil)) (pCons (pBin pIx (pLst (pCons (pC (.int 1)) (pCons (pC (.int 2)) (pCons (pC (.int 12)) (pCons (pUn pNeg (pC (.int 3))) (pCons (pC (.int 9)) pNil)))))) (pCallV p__law_draw 2 0 [.pos 0, .pos 1] (pCons (pVar 0) (pCons (pC (.int 5)) pNil)) pNil)) pNil)))
    (tSeq (tPar 4 5 (pCons (pCallV p__law_draw 2 0 [.pos 0, .pos 1] (pCons (pVar 0) (pCons (pC (.int 6)) pNil)) pNil) (pCons (pCallV p__law_as 2 0 [.pos 0, .pos 1] (pCons (pVar 0) (pCons (pVar 1) pNil)) pNil) pNil)))
    (tSeq (tIf (pBin pEq (pRd 4) (pC (.int 0))) (tSeq (tRet (pTup (pCons (pC (.str "row")) (pCons (pVar 2) (pCons (pVar 3) (pCons (pVar 5) pNil))))))
    tNil) tNil)
    (tSeq (tIf (pBin pEq (pRd 4) (pC (.int 1))) (tSeq (tRet (pTup (pCons (pC (.str "past")) (pCons (pVar 2) (pCons (pVar 3) pNil)))))
    tNil) tNil)
    (tSeq (tIf (pBin pEq (pRd 4) (pC (.int 2))) (tSeq (tRet (pTup (pCons (pC (.str "all")) (pCons (pVar 2) (pCons (pCallV p__law_limit 1 0 [.pos 0] (pCons (pVar 0) pNil) pNil) (pCons (pCallV p__law_limit 1 0 [.pos 0] (pCons (pVar 0) pNil) pNil) (pCons (pCallV p__law_test 1 0 [.pos 0] (pCons (pVar 0) pNil) pNil) (pCons (pVar 5) pNil))))))))
    tNil) tNil)
    (tSeq (tIf (pBin pEq (pRd 4) (pC (.int 3))) (tSeq (tRet (pTup (pCons (pC (.str "count")) (pCons (pVar 2) (pCons (pCallV p__law_limit 1 0 [.pos 0] (pCons (pVar 0) pNil) pNil) (pCons (pCallV p__law_limit 1 0 [.pos 0] (pCons (pVar 0) pNil) pNil) (pCons (pVar 5) pNil)))))))
    tNil) tNil)
    (tSeq (tIf (pBin pEq (pRd 4) (pC (.int 4))) (tSeq (tRet (pTup (pCons (pC (.str "total")) (pCons (pVar 2) (pCons (pCallV p__law_limit 1 0 [.pos 0] (pCons (pVar 0) pNil) pNil) (pCons (pCallV p__law_limit 1 0 [.pos 0] (pCons (pVar 0) pNil) pNil) (pCons (pCallV p__law_draw 2 0 [.pos 0, .pos 1] (pCons (pVar 0) (pCons (pC (.int 3)) pNil)) pNil) (pCons (pVar 5) pNil))))))))
    tNil) tNil)
    (tSeq (tRet (pTup (pCons (pC (.str "pair")) (pCons (pVar 2) (pCons (pBin pIx (pLst (pCons (pC (.str "t")) (pCons (pC (.str "u")) (pCons (pC (.str "none")) pNil)))) (pCallV p__law_draw 2 0 [.pos 0, .pos 1] (pCons (pVar 0) (pCons (pC (.int 3)) pNil)) pNil)) (pCons (pVar 5) pNil))))))
    tNil))))))))
def z__law_ask (F : ZFE) : ZS := P__law_ask (F 10) (F 11) (F 13) (F 12)
theorem sim__law_ask {c__law_draw : List D → Hpp → R D} {p__law_draw : ZF} (h__law_draw : SimF c__law_draw p__law_draw) {c__law_limit : List D → Hpp → R D} {p__law_limit : ZF} (h__law_limit : SimF c__law_limit p__law_limit) {c__law_test : List D → Hpp → R D} {p__law_test : ZF} (h__law_test : SimF c__law_test p__law_test) {c__law_as : List D → Hpp → R D} {p__law_as : ZF} (h__law_as : SimF c__law_as p__law_as) : SimS (G__law_ask c__law_draw c__law_limit c__law_test c__law_as) (P__law_ask p__law_draw p__law_limit p__law_test p__law_as) :=
    (SimS.seq (SimS.par (SimL.cons (SimE.bin so_ix (SimE.r (SimE.lst (SimL.cons (SimE.cst rfl rfl) (SimL.cons (SimE.cst rfl rfl) (SimL.cons (SimE.cst rfl rfl) (SimL.cons (SimE.cst rfl rfl) SimL.nil)))))) (SimE.r (SimE.call h__law_draw rfl rfl (SimL.cons SimE.var (SimL.cons (SimE.cst rfl rfl) SimL.nil)) SimL.nil))) (SimL.cons (SimE.bin so_ix (SimE.r (SimE.lst (SimL.cons (SimE.cst rfl rfl) (SimL.cons (SimE.cst rfl rfl) (SimL.cons (SimE.cst rfl rfl) (SimL.cons (SimE.un so_neg (SimE.r (SimE.cst rfl rfl))) (SimL.cons (SimE.cst rfl rfl) SimL.nil))))))) (SimE.r (SimE.call h__law_draw rfl rfl (SimL.cons SimE.var (SimL.cons (SimE.cst rfl rfl) SimL.nil)) SimL.nil))) SimL.nil)))
    (SimS.seq (SimS.par (SimL.cons (SimE.call h__law_draw rfl rfl (SimL.cons SimE.var (SimL.cons (SimE.cst rfl rfl) SimL.nil)) SimL.nil) (SimL.cons (SimE.call h__law_as rfl rfl (SimL.cons SimE.var (SimL.cons SimE.var SimL.nil)) SimL.nil) SimL.nil)))
    (SimS.seq (SimS.ifS (SimE.r (SimE.bin so_eq SimR.rd (SimE.r (SimE.cst rfl rfl)))) (SimS.seq (SimS.ret (SimE.tup (SimL.cons (SimE.cst rfl rfl) (SimL.cons SimE.var (SimL.cons SimE.var (SimL.cons SimE.var SimL.nil))))))
    SimS.nil) SimS.nil)
    (SimS.seq (SimS.ifS (SimE.r (SimE.bin so_eq SimR.rd (SimE.r (SimE.cst rfl rfl)))) (SimS.seq (SimS.ret (SimE.tup (SimL.cons (SimE.cst rfl rfl) (SimL.cons SimE.var (SimL.cons SimE.var SimL.nil)))))
    SimS.nil) SimS.nil)
    (SimS.seq (SimS.ifS (SimE.r (SimE.bin so_eq SimR.rd (SimE.r (SimE.cst rfl rfl)))) (SimS.seq (SimS.ret (SimE.tup (SimL.cons (SimE.cst rfl rfl) (SimL.cons SimE.var (SimL.cons (SimE.call h__law_limit rfl rfl (SimL.cons SimE.var SimL.nil) SimL.nil) (SimL.cons (SimE.call h__law_limit rfl rfl (SimL.cons SimE.var SimL.nil) SimL.nil) (SimL.cons (SimE.call h__law_test rfl rfl (SimL.cons SimE.var SimL.nil) SimL.nil) (SimL.cons SimE.var SimL.nil))))))))
    SimS.nil) SimS.nil)
    (SimS.seq (SimS.ifS (SimE.r (SimE.bin so_eq SimR.rd (SimE.r (SimE.cst rfl rfl)))) (SimS.seq (SimS.ret (SimE.tup (SimL.cons (SimE.cst rfl rfl) (SimL.cons SimE.var (SimL.cons (SimE.call h__law_limit rfl rfl (SimL.cons SimE.var SimL.nil) SimL.nil) (SimL.cons (SimE.call h__law_limit rfl rfl (SimL.cons SimE.var SimL.nil) SimL.nil) (SimL.cons SimE.var SimL.nil)))))))
    SimS.nil) SimS.nil)
    (SimS.seq (SimS.ifS (SimE.r (SimE.bin so_eq SimR.rd (SimE.r (SimE.cst rfl rfl)))) (SimS.seq (SimS.ret (SimE.tup (SimL.cons (SimE.cst rfl rfl) (SimL.cons SimE.var (SimL.cons (SimE.call h__law_limit rfl rfl (SimL.cons SimE.var SimL.nil) SimL.nil) (SimL.cons (SimE.call h__law_limit rfl rfl (SimL.cons SimE.var SimL.nil) SimL.nil) (SimL.cons (SimE.call h__law_draw rfl rfl (SimL.cons SimE.var (SimL.cons (SimE.cst rfl rfl) SimL.nil)) SimL.nil) (SimL.cons SimE.var SimL.nil))))))))
    SimS.nil) SimS.nil)
    (SimS.seq (SimS.ret (SimE.tup (SimL.cons (SimE.cst rfl rfl) (SimL.cons SimE.var (SimL.cons (SimE.bin so_ix (SimE.r (SimE.lst (SimL.cons (SimE.cst rfl rfl) (SimL.cons (SimE.cst rfl rfl) (SimL.cons (SimE.cst rfl rfl) SimL.nil))))) (SimE.r (SimE.call h__law_draw rfl rfl (SimL.cons SimE.var (SimL.cons (SimE.cst rfl rfl) SimL.nil)) SimL.nil))) (SimL.cons SimE.var SimL.nil))))))
    SimS.nil))))))))
def P__law_odd (p__law_draw : ZF) : ZS :=
    (tSeq (tAsg (pLst (pCons (pC .non) (pCons (pC (.bl true)) (pCons (pC (.bl false)) (pCons (pC (.str "")) (pCons (pLst pNil) (pCons (pTup pNil) (pCons (pC (.int 0)) (pCons (pC (.int 1)) (pCons (pUn pNeg (pC (.int 1))) (pCons (pC (.int 2)) (pCons (pC (.str "t")) (pCons (pC (.str "where")) (pCons (pBin pPow (pC (.int 10)) (pC (.int 40))) (pCons (pTup (pCons (pC (.str "leaf")) (pCons (pC (.int 1)) pNil))) (pCons (pTup (pCons (pC (.str "cut")) (pCons (pTup (pCons (pC (.int 0)) (pCons (pC (.int 1)) pNil))) pNil))) (pCons (pTup (pCons (pC (.int 0)) (pCons (pC (.int 0)) pNil))) pNil))))))))))))))))) (qVar 2))
    (tSeq (tIf (pUn (pIsi .int) (pRd 1)) (tSeq (tAsg (pBin pAdd (pRd 2) (pBin pMul (pLst (pCons (pBin pAdd (pRd 1) (pC (.int 1))) (pCons (pBin pSub (pRd 1) (pC (.int 1))) (pCons (pB pStr (pCons (pRd 1) pNil)) pNil)))) (pC (.int 6)))) (qVar 2))
    tNil) tNil)
    (tSeq (tIf (pUn (pIsi .str) (pRd 1)) (tSeq (tAsg (pBin pAdd (pRd 2) (pBin pMul (pLst (pCons (pC (.str "is")) (pCons (pC (.str "u")) (pCons (pC (.str "fork")) (pCons (pBin pAdd (pRd 1) (pC (.str "a"))) (pCons (pUn pUpper (pRd 1)) pNil)))))) (pC (.int 3)))) (qVar 2))
    tNil) tNil)
    (tSeq (tIf (pUn (pIsi .tuple) (pRd 1)) (tSeq (tAsg (pBin pAdd (pRd 2) (pBin pMul (pLst (pCons (pB pList (pCons (pRd 1) pNil)) (pCons (pBin pAdd (pRd 1) (pTup (pCons (pC .non) pNil))) (pCons (pBin pAdd (pRd 1) (pSlice (pRd 1) (qSome (pUn pNeg (pC (.int 1)))) qNone)) (pCons (pSlice (pRd 1) qNone (qSome (pUn pNeg (pC (.int 1))))) (pCons (pUn pRev (pRd 1)) pNil)))))) (pC (.int 3)))) (qVar 2))
    tNil) tNil)
    (tSeq (tRet (pBin pIx (pRd 2) (pCallV p__law_draw 2 0 [.pos 0, .pos 1] (pCons (pVar 0) (pCons (pB pLen (pCons (pRd 2) pNil)) pNil)) pNil)))
    tNil)))))
def z__law_odd (F : ZFE) : ZS := P__law_odd (F 10)
theorem sim__law_odd {c__law_draw : List D → Hpp → R D} {p__law_draw : ZF} (h__law_draw : SimF c__law_draw p__law_draw) : SimS (G__law_odd c__law_draw) (P__law_odd p__law_draw) :=
    (SimS.seq (SimS.asg (SimE.lst (SimL.cons (SimE.cst rfl rfl) (SimL.cons (SimE.cst rfl rfl) (SimL.cons (SimE.cst rfl rfl) (SimL.cons (SimE.cst rfl rfl) (SimL.cons (SimE.lst SimL.nil) (SimL.cons (SimE.tup SimL.nil) (SimL.cons (SimE.cst rfl rfl) (SimL.cons (SimE.cst rfl rfl) (SimL.cons (SimE.un so_neg (SimE.r (SimE.cst rfl rfl))) (SimL.cons (SimE.cst rfl rfl) (SimL.cons (SimE.cst rfl rfl) (SimL.cons (SimE.cst rfl rfl) (SimL.cons (SimE.bin so_pow (SimE.r (SimE.cst rfl rfl)) (SimE.r (SimE.cst rfl rfl))) (SimL.cons (SimE.tup (SimL.cons (SimE.cst rfl rfl) (SimL.cons (SimE.cst rfl rfl) SimL.nil))) (SimL.cons (SimE.tup (SimL.cons (SimE.cst rfl rfl) (SimL.cons (SimE.tup (SimL.cons (SimE.cst rfl rfl) (SimL.cons (SimE.cst rfl rfl) SimL.nil))) SimL.nil))) (SimL.cons (SimE.tup (SimL.cons (SimE.cst rfl rfl) (SimL.cons (SimE.cst rfl rfl) SimL.nil))) SimL.nil))))))))))))))))) SimT.var)
    (SimS.seq (SimS.ifS (SimE.r (SimE.un (so_isi _) SimR.rd)) (SimS.seq (SimS.asg (SimE.bin so_add SimR.rd (SimE.r (SimE.bin so_mul (SimE.r (SimE.lst (SimL.cons (SimE.bin so_add SimR.rd (SimE.r (SimE.cst rfl rfl))) (SimL.cons (SimE.bin so_sub SimR.rd (SimE.r (SimE.cst rfl rfl))) (SimL.cons (SimE.bi bi_str (SimLR.cons SimR.rd SimLR.nil)) SimL.nil))))) (SimE.r (SimE.cst rfl rfl))))) SimT.var)
    SimS.nil) SimS.nil)
    (SimS.seq (SimS.ifS (SimE.r (SimE.un (so_isi _) SimR.rd)) (SimS.seq (SimS.asg (SimE.bin so_add SimR.rd (SimE.r (SimE.bin so_mul (SimE.r (SimE.lst (SimL.cons (SimE.cst rfl rfl) (SimL.cons (SimE.cst rfl rfl) (SimL.cons (SimE.cst rfl rfl) (SimL.cons (SimE.bin so_add SimR.rd (SimE.r (SimE.cst rfl rfl))) (SimL.cons (SimE.un so_upper SimR.rd) SimL.nil))))))) (SimE.r (SimE.cst rfl rfl))))) SimT.var)
    SimS.nil) SimS.nil)
    (SimS.seq (SimS.ifS (SimE.r (SimE.un (so_isi _) SimR.rd)) (SimS.seq (SimS.asg (SimE.bin so_add SimR.rd (SimE.r (SimE.bin so_mul (SimE.r (SimE.lst (SimL.cons (SimE.bi bi_list (SimLR.cons SimR.rd SimLR.nil)) (SimL.cons (SimE.bin so_add SimR.rd (SimE.r (SimE.tup (SimL.cons (SimE.cst rfl rfl) SimL.nil)))) (SimL.cons (SimE.bin so_add SimR.rd (SimE.r (SimE.slice SimR.rd (SimO.some (SimE.r (SimE.un so_neg (SimE.r (SimE.cst rfl rfl))))) SimO.none))) (SimL.cons (SimE.slice SimR.rd SimO.none (SimO.some (SimE.r (SimE.un so_neg (SimE.r (SimE.cst rfl rfl)))))) (SimL.cons (SimE.un so_rev SimR.rd) SimL.nil))))))) (SimE.r (SimE.cst rfl rfl))))) SimT.var)
    SimS.nil) SimS.nil)
    (SimS.seq (SimS.ret (SimE.bin so_ix SimR.rd (SimE.r (SimE.call h__law_draw rfl rfl (SimL.cons SimE.var (SimL.cons (SimE.bi bi_len (SimLR.cons SimR.rd SimLR.nil)) SimL.nil)) SimL.nil))))
    SimS.nil)))))
def P__law_bent (p__law_bent p__law_draw p__law_odd : ZF) : ZS :=
    (tSeq (tIf (pOr (pNot (pUn (pIsi .tuple) (pRd 1))) (pOr (pBin pEq (pB pLen (pCons (pRd 1) pNil)) (pC (.int 0))) (pBin pEq (pCallV p__law_draw 2 0 [.pos 0, .pos 1] (pCons (pVar 0) (pCons (pC (.int 6)) pNil)) pNil) (pC (.int 0))))) (tSeq (tRet (pCallV p__law_odd 2 0 [.pos 0, .pos 1] (pCons (pVar 0) (pCons (pVar 1) pNil)) pNil))
    tNil) tNil)
    (tSeq (tAsg (pCallV p__law_draw 2 0 [.pos 0, .pos 1] (pCons (pVar 0) (pCons (pB pLen (pCons (pRd 1) pNil)) pNil)) pNil) (qVar 2))
    (tSeq (tAsg (pCallV p__law_draw 2 0 [.pos 0, .pos 1] (pCons (pVar 0) (pCons (pC (.int 9)) pNil)) pNil) (qVar 3))
    (tSeq (tIf (pBin pEq (pRd 3) (pC (.int 0))) (tSeq (tRet (pBin pAdd (pSlice (pRd 1) qNone (qSome (pRd 2))) (pSlice (pRd 1) (qSome (pBin pAdd (pRd 2) (pC (.int 1)))) qNone)))
    tNil) tNil)
    (tSeq (tIf (pBin pEq (pRd 3) (pC (.int 1))) (tSeq (tRet (pBin pAdd (pSlice (pRd 1) qNone (qSome (pBin pAdd (pRd 2) (pC (.int 1))))) (pSlice (pRd 1) (qSome (pRd 2)) qNone)))
    tNil) tNil)
    (tSeq (tIf (pBin pEq (pRd 3) (pC (.int 2))) (tSeq (tRet (pBin pAdd (pBin pAdd (pSlice (pRd 1) qNone (qSome (pRd 2))) (pUn pRev (pSlice (pRd 1) (qSome (pRd 2)) (qSome (pBin pAdd (pRd 2) (pC (.int 2))))))) (pSlice (pRd 1) (qSome (pBin pAdd (pRd 2) (pC (.int 2)))) qNone)))
    tNil) tNil)
    (tSeq (tRet (pBin pAdd (pBin pAdd (pSlice (pRd 1) qNone (qSome (pRd 2))) (pTup (pCons (pCallV p__law_bent 2 0 [.pos 0, .pos 1] (pCons (pVar 0) (pCons (pBin pIx (pRd 1) (pRd 2)) pNil)) pNil) pNil))) (pSlice (pRd 1) (qSome (pBin pAdd (pRd 2) (pC (.int 1)))) qNone)))
    tNil)))))))
def z__law_bent (F : ZFE) : ZS := P__law_bent (F 16) (F 10) (F 15)
theorem sim__law_bent {c__law_bent : List D → Hpp → R D} {p__law_bent : ZF} (h__law_bent : SimF c__law_bent p__law_bent) {c__law_draw : List D → Hpp → R D} {p__law_draw : ZF} (h__law_draw : SimF c__law_draw p__law_draw) {c__law_odd : List D → Hpp → R D} {p__law_odd : ZF} (h__law_odd : SimF c__law_odd p__law_odd) : SimS (G__law_bent c__law_bent c__law_draw c__law_odd) (P__law_bent p__law_bent p__law_draw p__law_odd) :=
    (SimS.seq (SimS.ifS (SimE.r (SimE.or (SimE.not (SimE.r (SimE.un (so_isi _) SimR.rd))) (SimE.or (SimE.bin so_eq (SimE.r (SimE.bi bi_len (SimLR.cons SimR.rd SimLR.nil))) (SimE.r (SimE.cst rfl rfl))) (SimE.bin so_eq (SimE.r (SimE.call h__law_draw rfl rfl (SimL.cons SimE.var (SimL.cons (SimE.cst rfl rfl) SimL.nil)) SimL.nil)) (SimE.r (SimE.cst rfl rfl)))))) (SimS.seq (SimS.ret (SimE.call h__law_odd rfl rfl (SimL.cons SimE.var (SimL.cons SimE.var SimL.nil)) SimL.nil))
    SimS.nil) SimS.nil)
    (SimS.seq (SimS.asg (SimE.call h__law_draw rfl rfl (SimL.cons SimE.var (SimL.cons (SimE.bi bi_len (SimLR.cons SimR.rd SimLR.nil)) SimL.nil)) SimL.nil) SimT.var)
    (SimS.seq (SimS.asg (SimE.call h__law_draw rfl rfl (SimL.cons SimE.var (SimL.cons (SimE.cst rfl rfl) SimL.nil)) SimL.nil) SimT.var)
    (SimS.seq (SimS.ifS (SimE.r (SimE.bin so_eq SimR.rd (SimE.r (SimE.cst rfl rfl)))) (SimS.seq (SimS.ret (SimE.bin so_add (SimE.r (SimE.slice SimR.rd SimO.none (SimO.some SimR.rd))) (SimE.r (SimE.slice SimR.rd (SimO.some (SimE.r (SimE.bin so_add SimR.rd (SimE.r (SimE.cst rfl rfl))))) SimO.none))))
    SimS.nil) SimS.nil)
    (SimS.seq (SimS.ifS (SimE.r (SimE.bin so_eq SimR.rd (SimE.r (SimE.cst rfl rfl)))) (SimS.seq (SimS.ret (SimE.bin so_add (SimE.r (SimE.slice SimR.rd SimO.none (SimO.some (SimE.r (SimE.bin so_add SimR.rd (SimE.r (SimE.cst rfl rfl))))))) (SimE.r (SimE.slice SimR.rd (SimO.some SimR.rd) SimO.none))))
    SimS.nil) SimS.nil)
    (SimS.seq (SimS.ifS (SimE.r (SimE.bin so_eq SimR.rd (SimE.r (SimE.cst rfl rfl)))) (SimS.seq (SimS.ret (SimE.bin so_add (SimE.r (SimE.bin so_add (SimE.r (SimE.slice SimR.rd SimO.none (SimO.some SimR.rd))) (SimE.r (SimE.un so_rev (SimE.r (SimE.slice SimR.rd (SimO.some SimR.rd) (SimO.some (SimE.r (SimE.bin so_add SimR.rd (SimE.r (SimE.cst rfl rfl))))))))))) (SimE.r (SimE.slice SimR.rd (SimO.some (SimE.r (SimE.bin so_add SimR.rd (SimE.r (SimE.cst rfl rfl))))) SimO.none))))
    SimS.nil) SimS.nil)
    (SimS.seq (SimS.ret (SimE.bin so_add (SimE.r (SimE.bin so_add (SimE.r (SimE.slice SimR.rd SimO.none (SimO.some SimR.rd))) (SimE.r (SimE.tup (SimL.cons (SimE.call h__law_bent rfl rfl (SimL.cons SimE.var (SimL.cons (SimE.bin so_ix SimR.rd SimR.rd) SimL.nil)) SimL.nil) SimL.nil))))) (SimE.r (SimE.slice SimR.rd (SimO.some (SimE.r (SimE.bin so_add SimR.rd (SimE.r (SimE.cst rfl rfl))))) SimO.none))))
    SimS.nil)))))))
def P__law_is_number : ZS :=
    (tSeq (tRet (pAnd (pUn (pIsi .int) (pRd 0)) (pNot (pUn (pIsi .bool) (pRd 0)))))
    tNil)
def z__law_is_number (F : ZFE) : ZS := P__law_is_number
theorem sim__law_is_number : SimS (G__law_is_number) (P__law_is_number) :=
    (SimS.seq (SimS.ret (SimE.and (SimE.un (so_isi _) SimR.rd) (SimE.not (SimE.r (SimE.un (so_isi _) SimR.rd)))))
    SimS.nil)
def P__law_is_word : ZS :=
    (tSeq (tRet (pAnd (pUn (pIsi .str) (pRd 0)) (pAnd (pChain pLe pLe (pC (.int 1)) (pB pLen (pCons (pRd 0) pNil)) (pC (.int 8))) (pBin pEq (pLc (qSeq (pVar 0)) (qVar 1) (pTest (pNot (pChain pLe pLe (pC (.str "a")) (pRd 1) (pC (.str "z"))))) (pVar 1) [1]) (pLst pNil)))))
    tNil)
def z__law_is_word (F : ZFE) : ZS := P__law_is_word
theorem sim__law_is_word : SimS (G__law_is_word) (P__law_is_word) :=
    (SimS.seq (SimS.ret (SimE.and (SimE.un (so_isi _) SimR.rd) (SimE.and (SimE.chain so_le so_le (SimE.r (SimE.cst rfl rfl)) (SimE.r (SimE.bi bi_len (SimLR.cons SimR.rd SimLR.nil))) (SimE.r (SimE.cst rfl rfl))) (SimE.bin so_eq (SimE.r (SimE.lc (SimSrc.seq SimE.var) SimT.var (SimB.test (SimE.r (SimE.not (SimE.r (SimE.chain so_le so_le (SimE.r (SimE.cst rfl rfl)) SimR.rd (SimE.r (SimE.cst rfl rfl))))))) SimE.var)) (SimE.r (SimE.lst SimL.nil))))))
    SimS.nil)
def P__law_is_maybe (p__law_is_number : ZF) : ZS :=
    (tSeq (tRet (pOr (pBin pIs (pRd 0) (pC .non)) (pCallV p__law_is_number 1 0 [.pos 0] (pCons (pVar 0) pNil) pNil)))
    tNil)
def z__law_is_maybe (F : ZFE) : ZS := P__law_is_maybe (F 17)
theorem sim__law_is_maybe {c__law_is_number : List D → Hpp → R D} {p__law_is_number : ZF} (h__law_is_number : SimF c__law_is_number p__law_is_number) : SimS (G__law_is_maybe c__law_is_number) (P__law_is_maybe p__law_is_number) :=
    (SimS.seq (SimS.ret (SimE.or (SimE.bin so_is SimR.rd (SimE.r (SimE.cst rfl rfl))) (SimE.call h__law_is_number rfl rfl (SimL.cons SimE.var SimL.nil) SimL.nil)))
    SimS.nil)
def P__law_is_test (p__law_is_number : ZF) : ZS :=
    (tSeq (tIf (pBin pIs (pRd 0) (pC .non)) (tSeq (tRet (pC (.bl true)))
    tNil) tNil)
    (tSeq (tIf (pOr (pNot (pUn (pIsi .tuple) (pRd 0))) (pOr (pBin pNe (pB pLen (pCons (pRd 0) pNil)) (pC (.int 3))) (pOr (pNot (pCallV p__law_is_number 1 0 [.pos 0] (pCons (pBin pIx (pRd 0) (pC (.int 0))) pNil) pNil)) (pBin pLt (pBin pIx (pRd 0) (pC (.int 0))) (pC (.int 0)))))) (tSeq (tRet (pC (.bl false)))
    tNil) tNil)
    (tSeq (tIf (pOr (pNot (pUn (pIsi .str) (pBin pIx (pRd 0) (pC (.int 1))))) (pBin pNotIn (pBin pIx (pRd 0) (pC (.int 1))) (pTup (pCons (pC (.str "is")) (pCons (pC (.str "under")) (pCons (pC (.str "over")) pNil)))))) (tSeq (tRet (pC (.bl false)))
    tNil) tNil)
    (tSeq (tIf (pNot (pUn (pIsi .str) (pBin pIx (pRd 0) (pC (.int 2))))) (tSeq (tRet (pCallV p__law_is_number 1 0 [.pos 0] (pCons (pBin pIx (pRd 0) (pC (.int 2))) pNil) pNil))
    tNil) tNil)
    (tSeq (tRet (pAnd (pBin pLe (pB pLen (pCons (pBin pIx (pRd 0) (pC (.int 2))) pNil)) (pC (.int 16))) (pBin pEq (pLc (qSeq (pBin pIx (pRd 0) (pC (.int 2)))) (qVar 1) (pTest (pNot (pOr (pChain pLe pLe (pC (.str "a")) (pRd 1) (pC (.str "z"))) (pChain pLe pLe (pC (.str "0")) (pRd 1) (pC (.str "9")))))) (pVar 1) [1]) (pLst pNil))))
    tNil)))))
def z__law_is_test (F : ZFE) : ZS := P__law_is_test (F 17)
theorem sim__law_is_test {c__law_is_number : List D → Hpp → R D} {p__law_is_number : ZF} (h__law_is_number : SimF c__law_is_number p__law_is_number) : SimS (G__law_is_test c__law_is_number) (P__law_is_test p__law_is_number) :=
    (SimS.seq (SimS.ifS (SimE.r (SimE.bin so_is SimR.rd (SimE.r (SimE.cst rfl rfl)))) (SimS.seq (SimS.ret (SimE.cst rfl rfl))
    SimS.nil) SimS.nil)
    (SimS.seq (SimS.ifS (SimE.r (SimE.or (SimE.not (SimE.r (SimE.un (so_isi _) SimR.rd))) (SimE.or (SimE.bin so_ne (SimE.r (SimE.bi bi_len (SimLR.cons SimR.rd SimLR.nil))) (SimE.r (SimE.cst rfl rfl))) (SimE.or (SimE.not (SimE.r (SimE.call h__law_is_number rfl rfl (SimL.cons (SimE.bin so_ix SimR.rd (SimE.r (SimE.cst rfl rfl))) SimL.nil) SimL.nil))) (SimE.bin so_lt (SimE.r (SimE.bin so_ix SimR.rd (SimE.r (SimE.cst rfl rfl)))) (SimE.r (SimE.cst rfl rfl))))))) (SimS.seq (SimS.ret (SimE.cst rfl rfl))
    SimS.nil) SimS.nil)
    (SimS.seq (SimS.ifS (SimE.r (SimE.or (SimE.not (SimE.r (SimE.un (so_isi _) (SimE.r (SimE.bin so_ix SimR.rd (SimE.r (SimE.cst rfl rfl))))))) (SimE.bin so_notIn (SimE.r (SimE.bin so_ix SimR.rd (SimE.r (SimE.cst rfl rfl)))) (SimE.r (SimE.tup (SimL.cons (SimE.cst rfl rfl) (SimL.cons (SimE.cst rfl rfl) (SimL.cons (SimE.cst rfl rfl) SimL.nil)))))))) (SimS.seq (SimS.ret (SimE.cst rfl rfl))
    SimS.nil) SimS.nil)
    (SimS.seq (SimS.ifS (SimE.r (SimE.not (SimE.r (SimE.un (so_isi _) (SimE.r (SimE.bin so_ix SimR.rd (SimE.r (SimE.cst rfl rfl)))))))) (SimS.seq (SimS.ret (SimE.call h__law_is_number rfl rfl (SimL.cons (SimE.bin so_ix SimR.rd (SimE.r (SimE.cst rfl rfl))) SimL.nil) SimL.nil))
    SimS.nil) SimS.nil)
    (SimS.seq (SimS.ret (SimE.and (SimE.bin so_le (SimE.r (SimE.bi bi_len (SimLR.cons (SimE.r (SimE.bin so_ix SimR.rd (SimE.r (SimE.cst rfl rfl)))) SimLR.nil))) (SimE.r (SimE.cst rfl rfl))) (SimE.bin so_eq (SimE.r (SimE.lc (SimSrc.seq (SimE.bin so_ix SimR.rd (SimE.r (SimE.cst rfl rfl)))) SimT.var (SimB.test (SimE.r (SimE.not (SimE.r (SimE.or (SimE.chain so_le so_le (SimE.r (SimE.cst rfl rfl)) SimR.rd (SimE.r (SimE.cst rfl rfl))) (SimE.chain so_le so_le (SimE.r (SimE.cst rfl rfl)) SimR.rd (SimE.r (SimE.cst rfl rfl)))))))) SimE.var)) (SimE.r (SimE.lst SimL.nil)))))
    SimS.nil)))))
def P__law_due (p__law_is_number p__law_is_test p__law_is_maybe p__law_is_word : ZF) : ZS :=
    (tSeq (tIf (pOr (pNot (pUn (pIsi .tuple) (pRd 0))) (pOr (pBin pLt (pB pLen (pCons (pRd 0) pNil)) (pC (.int 3))) (pOr (pNot (pUn (pIsi .str) (pBin pIx (pRd 0) (pC (.int 0))))) (pNot (pCallV p__law_is_word 1 0 [.pos 0] (pCons (pBin pIx (pRd 0) (pC (.int 1))) pNil) pNil))))) (tSeq (tRet (pC (.bl false)))
    tNil) tNil)
    (tSeq (tPar 1 2 (pCons (pBin pIx (pRd 0) (pC (.int 0))) (pCons (pB pLen (pCons (pRd 0) pNil)) pNil)))
    (tSeq (tIf (pBin pEq (pRd 1) (pC (.str "row"))) (tSeq (tRet (pAnd (pBin pEq (pRd 2) (pC (.int 4))) (pAnd (pCallV p__law_is_number 1 0 [.pos 0] (pCons (pBin pIx (pRd 0) (pC (.int 2))) pNil) pNil) (pCallV p__law_is_maybe 1 0 [.pos 0] (pCons (pBin pIx (pRd 0) (pC (.int 3))) pNil) pNil))))
    tNil) tNil)
    (tSeq (tIf (pBin pEq (pRd 1) (pC (.str "past"))) (tSeq (tRet (pAnd (pBin pEq (pRd 2) (pC (.int 3))) (pCallV p__law_is_number 1 0 [.pos 0] (pCons (pBin pIx (pRd 0) (pC (.int 2))) pNil) pNil)))
    tNil) tNil)
    (tSeq (tIf (pBin pEq (pRd 1) (pC (.str "pair"))) (tSeq (tRet (pAnd (pBin pEq (pRd 2) (pC (.int 4))) (pAnd (pCallV p__law_is_word 1 0 [.pos 0] (pCons (pBin pIx (pRd 0) (pC (.int 2))) pNil) pNil) (pCallV p__law_is_maybe 1 0 [.pos 0] (pCons (pBin pIx (pRd 0) (pC (.int 3))) pNil) pNil))))
    tNil) tNil)
    (tSeq (tIf (pOr (pBin pNotIn (pRd 1) (pTup (pCons (pC (.str "all")) (pCons (pC (.str "count")) (pCons (pC (.str "total")) pNil))))) (pBin pNe (pRd 2) (pBin pIx (pDict [((pC (.str "all")), (pC (.int 6))), ((pC (.str "count")), (pC (.int 5))), ((pC (.str "total")), (pC (.int 6)))]) (pRd 1)))) (tSeq (tRet (pC (.bl false)))
    tNil) tNil)
    (tSeq (tIf (pOr (pNot (pCallV p__law_is_maybe 1 0 [.pos 0] (pCons (pBin pIx (pRd 0) (pC (.int 2))) pNil) pNil)) (pOr (pNot (pCallV p__law_is_maybe 1 0 [.pos 0] (pCons (pBin pIx (pRd 0) (pC (.int 3))) pNil) pNil)) (pNot (pCallV p__law_is_maybe 1 0 [.pos 0] (pCons (pBin pIx (pRd 0) (pUn pNeg (pC (.int 1)))) pNil) pNil)))) (tSeq (tRet (pC (.bl false)))
    tNil) tNil)
    (tSeq (tIf (pBin pEq (pRd 1) (pC (.str "all"))) (tSeq (tRet (pCallV p__law_is_test 1 0 [.pos 0] (pCons (pBin pIx (pRd 0) (pC (.int 4))) pNil) pNil))
    tNil) tNil)
    (tSeq (tRet (pOr (pBin pEq (pRd 1) (pC (.str "count"))) (pAnd (pCallV p__law_is_number 1 0 [.pos 0] (pCons (pBin pIx (pRd 0) (pC (.int 4))) pNil) pNil) (pBin pGe (pBin pIx (pRd 0) (pC (.int 4))) (pC (.int 0))))))
    tNil)))))))))
def z__law_due (F : ZFE) : ZS := P__law_due (F 17) (F 20) (F 19) (F 18)
theorem sim__law_due {c__law_is_number : List D → Hpp → R D} {p__law_is_number : ZF} (h__law_is_number : SimF c__law_is_number p__law_is_number) {c__law_is_test : List D → Hpp → R D} {p__law_is_test : ZF} (h__law_is_test : SimF c__law_is_test p__law_is_test) {c__law_is_maybe : List D → Hpp → R D} {p__law_is_maybe : ZF} (h__law_is_maybe : SimF c__law_is_maybe p__law_is_maybe) {c__law_is_word : List D → Hpp → R D} {p__law_is_word : ZF} (h__law_is_word : SimF c__law_is_word p__law_is_word) : SimS (G__law_due c__law_is_number c__law_is_test c__law_is_maybe c__law_is_word) (P__law_due p__law_is_number p__law_is_test p__law_is_maybe p__law_is_word) :=
    (SimS.seq (SimS.ifS (SimE.r (SimE.or (SimE.not (SimE.r (SimE.un (so_isi _) SimR.rd))) (SimE.or (SimE.bin so_lt (SimE.r (SimE.bi bi_len (SimLR.cons SimR.rd SimLR.nil))) (SimE.r (SimE.cst rfl rfl))) (SimE.or (SimE.not (SimE.r (SimE.un (so_isi _) (SimE.r (SimE.bin so_ix SimR.rd (SimE.r (SimE.cst rfl rfl))))))) (SimE.not (SimE.r (SimE.call h__law_is_word rfl rfl (SimL.cons (SimE.bin so_ix SimR.rd (SimE.r (SimE.cst rfl rfl))) SimL.nil) SimL.nil))))))) (SimS.seq (SimS.ret (SimE.cst rfl rfl))
    SimS.nil) SimS.nil)
    (SimS.seq (SimS.par (SimL.cons (SimE.bin so_ix SimR.rd (SimE.r (SimE.cst rfl rfl))) (SimL.cons (SimE.bi bi_len (SimLR.cons SimR.rd SimLR.nil)) SimL.nil)))
    (SimS.seq (SimS.ifS (SimE.r (SimE.bin so_eq SimR.rd (SimE.r (SimE.cst rfl rfl)))) (SimS.seq (SimS.ret (SimE.and (SimE.bin so_eq SimR.rd (SimE.r (SimE.cst rfl rfl))) (SimE.and (SimE.call h__law_is_number rfl rfl (SimL.cons (SimE.bin so_ix SimR.rd (SimE.r (SimE.cst rfl rfl))) SimL.nil) SimL.nil) (SimE.call h__law_is_maybe rfl rfl (SimL.cons (SimE.bin so_ix SimR.rd (SimE.r (SimE.cst rfl rfl))) SimL.nil) SimL.nil))))
    SimS.nil) SimS.nil)
    (SimS.seq (SimS.ifS (SimE.r (SimE.bin so_eq SimR.rd (SimE.r (SimE.cst rfl rfl)))) (SimS.seq (SimS.ret (SimE.and (SimE.bin so_eq SimR.rd (SimE.r (SimE.cst rfl rfl))) (SimE.call h__law_is_number rfl rfl (SimL.cons (SimE.bin so_ix SimR.rd (SimE.r (SimE.cst rfl rfl))) SimL.nil) SimL.nil)))
    SimS.nil) SimS.nil)
    (SimS.seq (SimS.ifS (SimE.r (SimE.bin so_eq SimR.rd (SimE.r (SimE.cst rfl rfl)))) (SimS.seq (SimS.ret (SimE.and (SimE.bin so_eq SimR.rd (SimE.r (SimE.cst rfl rfl))) (SimE.and (SimE.call h__law_is_word rfl rfl (SimL.cons (SimE.bin so_ix SimR.rd (SimE.r (SimE.cst rfl rfl))) SimL.nil) SimL.nil) (SimE.call h__law_is_maybe rfl rfl (SimL.cons (SimE.bin so_ix SimR.rd (SimE.r (SimE.cst rfl rfl))) SimL.nil) SimL.nil))))
    SimS.nil) SimS.nil)
    (SimS.seq (SimS.ifS (SimE.r (SimE.or (SimE.bin so_notIn SimR.rd (SimE.r (SimE.tup (SimL.cons (SimE.cst rfl rfl) (SimL.cons (SimE.cst rfl rfl) (SimL.cons (SimE.cst rfl rfl) SimL.nil)))))) (SimE.bin so_ne SimR.rd (SimE.r (SimE.bin so_ix (SimE.r (SimE.dict (PairsR.cons (SimE.cst rfl rfl) (SimE.cst rfl rfl) (PairsR.cons (SimE.cst rfl rfl) (SimE.cst rfl rfl) (PairsR.cons (SimE.cst rfl rfl) (SimE.cst rfl rfl) PairsR.nil))))) SimR.rd))))) (SimS.seq (SimS.ret (SimE.cst rfl rfl))
    SimS.nil) SimS.nil)
    (SimS.seq (SimS.ifS (SimE.r (SimE.or (SimE.not (SimE.r (SimE.call h__law_is_maybe rfl rfl (SimL.cons (SimE.bin so_ix SimR.rd (SimE.r (SimE.cst rfl rfl))) SimL.nil) SimL.nil))) (SimE.or (SimE.not (SimE.r (SimE.call h__law_is_maybe rfl rfl (SimL.cons (SimE.bin so_ix SimR.rd (SimE.r (SimE.cst rfl rfl))) SimL.nil) SimL.nil))) (SimE.not (SimE.r (SimE.call h__law_is_maybe rfl rfl (SimL.cons (SimE.bin so_ix SimR.rd (SimE.r (SimE.un so_neg (SimE.r (SimE.cst rfl rfl))))) SimL.nil) SimL.nil)))))) (SimS.seq (SimS.ret (SimE.cst rfl rfl))
    SimS.nil) SimS.nil)
    (SimS.seq (SimS.ifS (SimE.r (SimE.bin so_eq SimR.rd (SimE.r (SimE.cst rfl rfl)))) (SimS.seq (SimS.ret (SimE.call h__law_is_test rfl rfl (SimL.cons (SimE.bin so_ix SimR.rd (SimE.r (SimE.cst rfl rfl))) SimL.nil) SimL.nil))
    SimS.nil) SimS.nil)
    (SimS.seq (SimS.ret (SimE.or (SimE.bin so_eq SimR.rd (SimE.r (SimE.cst rfl rfl))) (SimE.and (SimE.call h__law_is_number rfl rfl (SimL.cons (SimE.bin so_ix SimR.rd (SimE.r (SimE.cst rfl rfl))) SimL.nil) SimL.nil) (SimE.bin so_ge (SimE.r (SimE.bin so_ix SimR.rd (SimE.r (SimE.cst rfl rfl)))) (SimE.r (SimE.cst rfl rfl))))))
    SimS.nil)))))))))
def P_law (p_stretches_of p_is_ask p__law_due p__law_draw p__law_bent p__law_ask p__law_source : ZF) : ZS :=
    (tSeq (tAsg (pCallV p__law_source 1 0 [.pos 0] (pCons (pVar 0) pNil) pNil) (qVar 1))
    (tSeq (tOwn (pBin pAdd (pLc (qRange1 (pC (.int 12))) (qVar 4) pYes (pCallV p__law_ask 2 0 [.pos 0, .pos 1] (pCons (pVar 1) (pCons (pC (.int 9)) pNil)) pNil) [4]) (pLst (pCons (pTup (pCons (pC (.str "row")) (pCons (pC (.str "t")) (pCons (pBin pPow (pC (.int 10)) (pC (.int 40))) (pCons (pUn pNeg (pC (.int 7))) pNil))))) pNil))) 2)
    (tSeq (tApp 2 (pTup (pCons (pC (.str "all")) (pCons (pC (.str "zzzzzzzz")) (pCons (pC .non) (pCons (pUn pNeg (pC (.int 9))) (pCons (pC .non) (pCons (pC .non) pNil))))))))
    (tSeq (tOwn (pBin pAdd (pRd 2) (pLst (pCons (pC .non) (pCons (pTup pNil) (pCons (pC (.str "row")) (pCons (pTup (pCons (pC (.str "row")) pNil)) (pCons (pLst (pCons (pC (.str "row")) (pCons (pC (.str "t")) (pCons (pC (.int 1)) (pCons (pC .non) pNil))))) (pCons (pTup (pCons (pC (.str "row")) (pCons (pC (.str "t")) (pCons (pC (.bl true)) (pCons (pC .non) pNil))))) (pCons (pTup (pCons (pC (.str "past")) (pCons (pC (.str "T")) (pCons (pC (.int 1)) pNil)))) pNil))))))))) 3)
    (tSeq (tOwn (pBin pAdd (pRd 3) (pLst (pCons (pTup (pCons (pC (.str "all")) (pCons (pC (.str "t")) (pCons (pC (.int 1)) (pCons (pC (.int 2)) (pCons (pTup (pCons (pC (.int 0)) (pCons (pC (.str "is")) (pCons (pBin pMul (pC (.str "a")) (pC (.int 16))) pNil)))) (pCons (pC .non) pNil))))))) (pCons (pTup (pCons (pC (.str "all")) (pCons (pC (.str "t")) (pCons (pC (.int 1)) (pCons (pC (.int 2)) (pCons (pTup (pCons (pC (.int 0)) (pCons (pC (.str "is")) (pCons (pBin pMul (pC (.str "a")) (pC (.int 17))) pNil)))) (pCons (pC .non) pNil))))))) pNil)))) 3)
    (tSeq (tFor (qRange1 (pC (.int 24))) (qVar 4) (tSeq (tAsg (pCallV p__law_bent 2 0 [.pos 0, .pos 1] (pCons (pVar 1) (pCons (pBin pIx (pRd 2) (pCallV p__law_draw 2 0 [.pos 0, .pos 1] (pCons (pVar 1) (pCons (pB pLen (pCons (pRd 2) pNil)) pNil)) pNil)) pNil)) pNil) (qVar 5))
    (tSeq (tApp 3 (pIf (pBin pEq (pCallV p__law_draw 2 0 [.pos 0, .pos 1] (pCons (pVar 1) (pCons (pC (.int 4)) pNil)) pNil) (pC (.int 0))) (pCallV p__law_bent 2 0 [.pos 0, .pos 1] (pCons (pVar 1) (pCons (pVar 5) pNil)) pNil) (pVar 5)))
    tNil)))
    (tSeq (tFrz [3] (tFor (qSeq (pVar 3)) (qVar 6) (tSeq (tAsg (pB pRepr (pCons (pRd 6) pNil)) (qVar 7))
    (tSeq (tIf (pOr (pBin pNe (pB pRepr (pCons (pCallV p_is_ask 1 0 [.pos 0] (pCons (pVar 6) pNil) pNil) pNil)) (pB pRepr (pCons (pCallV p__law_due 1 0 [.pos 0] (pCons (pVar 6) pNil) pNil) pNil))) (pBin pNe (pB pRepr (pCons (pRd 6) pNil)) (pRd 7))) (tSeq (tRet (pC (.bl false)))
    tNil) tNil)
    tNil))))
    (tSeq (tFrz [2] (tFor (qSeq (pVar 2)) (qVar 8) (tSeq (tAsg (pIf (pBin pIn (pBin pIx (pRd 8) (pC (.int 0))) (pTup (pCons (pC (.str "row")) (pCons (pC (.str "past")) pNil)))) (pTup (pCons (pTup (pCons (pBin pIx (pRd 8) (pC (.int 1))) (pCons (pBin pIx (pRd 8) (pC (.int 2))) (pCons (pBin pIx (pRd 8) (pC (.int 2))) pNil)))) pNil)) (pTup (pCons (pSlice (pRd 8) (qSome (pC (.int 1))) (qSome (pC (.int 4)))) pNil))) (qVar 9))
    (tSeq (tIf (pBin pEq (pBin pIx (pRd 8) (pC (.int 0))) (pC (.str "pair"))) (tSeq (tAsg (pTup (pCons (pTup (pCons (pBin pIx (pRd 8) (pC (.int 1))) (pCons (pC .non) (pCons (pC .non) pNil)))) (pCons (pTup (pCons (pBin pIx (pRd 8) (pC (.int 2))) (pCons (pC .non) (pCons (pC .non) pNil)))) pNil))) (qVar 9))
    tNil) tNil)
    (tSeq (tIf (pBin pNe (pB pRepr (pCons (pCallV p_stretches_of 1 0 [.pos 0] (pCons (pVar 8) pNil) pNil) pNil)) (pB pRepr (pCons (pRd 9) pNil))) (tSeq (tRet (pC (.bl false)))
    tNil) tNil)
    tNil)))))
    (tSeq (tRet (pC (.bl true)))
    tNil)))))))))
def z_law (F : ZFE) : ZS := P_law (F 8) (F 7) (F 21) (F 10) (F 16) (F 14) (F 9)
theorem sim_law {c_stretches_of : List D → Hpp → R D} {p_stretches_of : ZF} (h_stretches_of : SimF c_stretches_of p_stretches_of) {c_is_ask : List D → Hpp → R D} {p_is_ask : ZF} (h_is_ask : SimF c_is_ask p_is_ask) {c__law_due : List D → Hpp → R D} {p__law_due : ZF} (h__law_due : SimF c__law_due p__law_due) {c__law_draw : List D → Hpp → R D} {p__law_draw : ZF} (h__law_draw : SimF c__law_draw p__law_draw) {c__law_bent : List D → Hpp → R D} {p__law_bent : ZF} (h__law_bent : SimF c__law_bent p__law_bent) {c__law_ask : List D → Hpp → R D} {p__law_ask : ZF} (h__law_ask : SimF c__law_ask p__law_ask) {c__law_source : List D → Hpp → R D} {p__law_source : ZF} (h__law_source : SimF c__law_source p__law_source) : SimS (G_law c_stretches_of c_is_ask c__law_due c__law_draw c__law_bent c__law_ask c__law_source) (P_law p_stretches_of p_is_ask p__law_due p__law_draw p__law_bent p__law_ask p__law_source) :=
    (SimS.seq (SimS.asg (SimE.call h__law_source rfl rfl (SimL.cons SimE.var SimL.nil) SimL.nil) SimT.var)
    (SimS.seq (SimS.own (SimN.add (SimE.r (SimE.lc (SimSrc.range1 (SimE.r (SimE.cst rfl rfl))) SimT.var SimB.yes (SimE.call h__law_ask rfl rfl (SimL.cons SimE.var (SimL.cons (SimE.cst rfl rfl) SimL.nil)) SimL.nil))) (SimE.r (SimE.lst (SimL.cons (SimE.tup (SimL.cons (SimE.cst rfl rfl) (SimL.cons (SimE.cst rfl rfl) (SimL.cons (SimE.bin so_pow (SimE.r (SimE.cst rfl rfl)) (SimE.r (SimE.cst rfl rfl))) (SimL.cons (SimE.un so_neg (SimE.r (SimE.cst rfl rfl))) SimL.nil))))) SimL.nil)))))
    (SimS.seq (SimS.app (SimE.tup (SimL.cons (SimE.cst rfl rfl) (SimL.cons (SimE.cst rfl rfl) (SimL.cons (SimE.cst rfl rfl) (SimL.cons (SimE.un so_neg (SimE.r (SimE.cst rfl rfl))) (SimL.cons (SimE.cst rfl rfl) (SimL.cons (SimE.cst rfl rfl) SimL.nil))))))))
    (SimS.seq (SimS.own (SimN.add SimR.rd (SimE.r (SimE.lst (SimL.cons (SimE.cst rfl rfl) (SimL.cons (SimE.tup SimL.nil) (SimL.cons (SimE.cst rfl rfl) (SimL.cons (SimE.tup (SimL.cons (SimE.cst rfl rfl) SimL.nil)) (SimL.cons (SimE.lst (SimL.cons (SimE.cst rfl rfl) (SimL.cons (SimE.cst rfl rfl) (SimL.cons (SimE.cst rfl rfl) (SimL.cons (SimE.cst rfl rfl) SimL.nil))))) (SimL.cons (SimE.tup (SimL.cons (SimE.cst rfl rfl) (SimL.cons (SimE.cst rfl rfl) (SimL.cons (SimE.cst rfl rfl) (SimL.cons (SimE.cst rfl rfl) SimL.nil))))) (SimL.cons (SimE.tup (SimL.cons (SimE.cst rfl rfl) (SimL.cons (SimE.cst rfl rfl) (SimL.cons (SimE.cst rfl rfl) SimL.nil)))) SimL.nil)))))))))))
    (SimS.seq (SimS.own (SimN.add SimR.rd (SimE.r (SimE.lst (SimL.cons (SimE.tup (SimL.cons (SimE.cst rfl rfl) (SimL.cons (SimE.cst rfl rfl) (SimL.cons (SimE.cst rfl rfl) (SimL.cons (SimE.cst rfl rfl) (SimL.cons (SimE.tup (SimL.cons (SimE.cst rfl rfl) (SimL.cons (SimE.cst rfl rfl) (SimL.cons (SimE.bin so_mul (SimE.r (SimE.cst rfl rfl)) (SimE.r (SimE.cst rfl rfl))) SimL.nil)))) (SimL.cons (SimE.cst rfl rfl) SimL.nil))))))) (SimL.cons (SimE.tup (SimL.cons (SimE.cst rfl rfl) (SimL.cons (SimE.cst rfl rfl) (SimL.cons (SimE.cst rfl rfl) (SimL.cons (SimE.cst rfl rfl) (SimL.cons (SimE.tup (SimL.cons (SimE.cst rfl rfl) (SimL.cons (SimE.cst rfl rfl) (SimL.cons (SimE.bin so_mul (SimE.r (SimE.cst rfl rfl)) (SimE.r (SimE.cst rfl rfl))) SimL.nil)))) (SimL.cons (SimE.cst rfl rfl) SimL.nil))))))) SimL.nil))))))
    (SimS.seq (SimS.for (SimSrc.range1 (SimE.r (SimE.cst rfl rfl))) SimT.var (SimS.seq (SimS.asg (SimE.call h__law_bent rfl rfl (SimL.cons SimE.var (SimL.cons (SimE.bin so_ix SimR.rd (SimE.r (SimE.call h__law_draw rfl rfl (SimL.cons SimE.var (SimL.cons (SimE.bi bi_len (SimLR.cons SimR.rd SimLR.nil)) SimL.nil)) SimL.nil))) SimL.nil)) SimL.nil) SimT.var)
    (SimS.seq (SimS.app (SimE.ifE (SimE.r (SimE.bin so_eq (SimE.r (SimE.call h__law_draw rfl rfl (SimL.cons SimE.var (SimL.cons (SimE.cst rfl rfl) SimL.nil)) SimL.nil)) (SimE.r (SimE.cst rfl rfl)))) (SimE.call h__law_bent rfl rfl (SimL.cons SimE.var (SimL.cons SimE.var SimL.nil)) SimL.nil) SimE.var))
    SimS.nil)))
    (SimS.seq (SimS.frz (SimS.for (SimSrc.seq SimE.var) SimT.var (SimS.seq (SimS.asg (SimE.bi bi_repr (SimLR.cons SimR.rd SimLR.nil)) SimT.var)
    (SimS.seq (SimS.ifS (SimE.r (SimE.or (SimE.bin so_ne (SimE.r (SimE.bi bi_repr (SimLR.cons (SimE.r (SimE.call h_is_ask rfl rfl (SimL.cons SimE.var SimL.nil) SimL.nil)) SimLR.nil))) (SimE.r (SimE.bi bi_repr (SimLR.cons (SimE.r (SimE.call h__law_due rfl rfl (SimL.cons SimE.var SimL.nil) SimL.nil)) SimLR.nil)))) (SimE.bin so_ne (SimE.r (SimE.bi bi_repr (SimLR.cons SimR.rd SimLR.nil))) SimR.rd))) (SimS.seq (SimS.ret (SimE.cst rfl rfl))
    SimS.nil) SimS.nil)
    SimS.nil))))
    (SimS.seq (SimS.frz (SimS.for (SimSrc.seq SimE.var) SimT.var (SimS.seq (SimS.asg (SimE.ifE (SimE.r (SimE.bin so_in (SimE.r (SimE.bin so_ix SimR.rd (SimE.r (SimE.cst rfl rfl)))) (SimE.r (SimE.tup (SimL.cons (SimE.cst rfl rfl) (SimL.cons (SimE.cst rfl rfl) SimL.nil)))))) (SimE.tup (SimL.cons (SimE.tup (SimL.cons (SimE.bin so_ix SimR.rd (SimE.r (SimE.cst rfl rfl))) (SimL.cons (SimE.bin so_ix SimR.rd (SimE.r (SimE.cst rfl rfl))) (SimL.cons (SimE.bin so_ix SimR.rd (SimE.r (SimE.cst rfl rfl))) SimL.nil)))) SimL.nil)) (SimE.tup (SimL.cons (SimE.slice SimR.rd (SimO.some (SimE.r (SimE.cst rfl rfl))) (SimO.some (SimE.r (SimE.cst rfl rfl)))) SimL.nil))) SimT.var)
    (SimS.seq (SimS.ifS (SimE.r (SimE.bin so_eq (SimE.r (SimE.bin so_ix SimR.rd (SimE.r (SimE.cst rfl rfl)))) (SimE.r (SimE.cst rfl rfl)))) (SimS.seq (SimS.asg (SimE.tup (SimL.cons (SimE.tup (SimL.cons (SimE.bin so_ix SimR.rd (SimE.r (SimE.cst rfl rfl))) (SimL.cons (SimE.cst rfl rfl) (SimL.cons (SimE.cst rfl rfl) SimL.nil)))) (SimL.cons (SimE.tup (SimL.cons (SimE.bin so_ix SimR.rd (SimE.r (SimE.cst rfl rfl))) (SimL.cons (SimE.cst rfl rfl) (SimL.cons (SimE.cst rfl rfl) SimL.nil)))) SimL.nil))) SimT.var)
    SimS.nil) SimS.nil)
    (SimS.seq (SimS.ifS (SimE.r (SimE.bin so_ne (SimE.r (SimE.bi bi_repr (SimLR.cons (SimE.r (SimE.call h_stretches_of rfl rfl (SimL.cons SimE.var SimL.nil) SimL.nil)) SimLR.nil))) (SimE.r (SimE.bi bi_repr (SimLR.cons SimR.rd SimLR.nil))))) (SimS.seq (SimS.ret (SimE.cst rfl rfl))
    SimS.nil) SimS.nil)
    SimS.nil)))))
    (SimS.seq (SimS.ret (SimE.cst rfl rfl))
    SimS.nil)))))))))
def zpr : Nat → Option ZFn
  | 0 => some ⟨2, 1, z_is_word_text⟩
  | 1 => some ⟨2, 1, z_is_short_text⟩
  | 2 => some ⟨1, 1, z_is_number⟩
  | 3 => some ⟨1, 1, z_is_bound⟩
  | 4 => some ⟨1, 1, z_is_worth⟩
  | 5 => some ⟨1, 1, z_is_column⟩
  | 6 => some ⟨1, 1, z_is_test⟩
  | 7 => some ⟨6, 1, z_is_ask⟩
  | 8 => some ⟨4, 1, z_stretches_of⟩
  | 9 => some ⟨1, 1, z__law_source⟩
  | 10 => some ⟨5, 2, z__law_draw⟩
  | 11 => some ⟨1, 1, z__law_limit⟩
  | 12 => some ⟨2, 2, z__law_as⟩
  | 13 => some ⟨2, 1, z__law_test⟩
  | 14 => some ⟨6, 2, z__law_ask⟩
  | 15 => some ⟨3, 2, z__law_odd⟩
  | 16 => some ⟨4, 2, z__law_bent⟩
  | 17 => some ⟨1, 1, z__law_is_number⟩
  | 18 => some ⟨2, 1, z__law_is_word⟩
  | 19 => some ⟨1, 1, z__law_is_maybe⟩
  | 20 => some ⟨2, 1, z__law_is_test⟩
  | 21 => some ⟨3, 1, z__law_due⟩
  | 22 => some ⟨10, 1, z_law⟩
  | _ => none
theorem zsim (n i : Nat) : SimF (FF pr n i) (ZFF zpr n i) := by
  refine sim_all (fun i zf h => ?_) n i
  match i with
  | 0 => cases h; exact ⟨f_is_word_text, rfl, rfl, rfl, fun F ZF hF => sim_is_word_text⟩
  | 1 => cases h; exact ⟨f_is_short_text, rfl, rfl, rfl, fun F ZF hF => sim_is_short_text⟩
  | 2 => cases h; exact ⟨f_is_number, rfl, rfl, rfl, fun F ZF hF => sim_is_number⟩
  | 3 => cases h; exact ⟨f_is_bound, rfl, rfl, rfl, fun F ZF hF => sim_is_bound (hF 2)⟩
  | 4 => cases h; exact ⟨f_is_worth, rfl, rfl, rfl, fun F ZF hF => sim_is_worth (hF 2) (hF 1)⟩
  | 5 => cases h; exact ⟨f_is_column, rfl, rfl, rfl, fun F ZF hF => sim_is_column (hF 2)⟩
  | 6 => cases h; exact ⟨f_is_test, rfl, rfl, rfl, fun F ZF hF => sim_is_test (hF 5) (hF 4)⟩
  | 7 => cases h; exact ⟨f_is_ask, rfl, rfl, rfl, fun F ZF hF => sim_is_ask (hF 2) (hF 5) (hF 0) (hF 3) (hF 6)⟩
  | 8 => cases h; exact ⟨f_stretches_of, rfl, rfl, rfl, fun F ZF hF => sim_stretches_of⟩
  | 9 => cases h; exact ⟨f__law_source, rfl, rfl, rfl, fun F ZF hF => sim__law_source⟩
  | 10 => cases h; exact ⟨f__law_draw, rfl, rfl, rfl, fun F ZF hF => sim__law_draw⟩
  | 11 => cases h; exact ⟨f__law_limit, rfl, rfl, rfl, fun F ZF hF => sim__law_limit (hF 10)⟩
  | 12 => cases h; exact ⟨f__law_as, rfl, rfl, rfl, fun F ZF hF => sim__law_as (hF 10)⟩
  | 13 => cases h; exact ⟨f__law_test, rfl, rfl, rfl, fun F ZF hF => sim__law_test (hF 10)⟩
  | 14 => cases h; exact ⟨f__law_ask, rfl, rfl, rfl, fun F ZF hF => sim__law_ask (hF 10) (hF 11) (hF 13) (hF 12)⟩
  | 15 => cases h; exact ⟨f__law_odd, rfl, rfl, rfl, fun F ZF hF => sim__law_odd (hF 10)⟩
  | 16 => cases h; exact ⟨f__law_bent, rfl, rfl, rfl, fun F ZF hF => sim__law_bent (hF 16) (hF 10) (hF 15)⟩
  | 17 => cases h; exact ⟨f__law_is_number, rfl, rfl, rfl, fun F ZF hF => sim__law_is_number⟩
  | 18 => cases h; exact ⟨f__law_is_word, rfl, rfl, rfl, fun F ZF hF => sim__law_is_word⟩
  | 19 => cases h; exact ⟨f__law_is_maybe, rfl, rfl, rfl, fun F ZF hF => sim__law_is_maybe (hF 17)⟩
  | 20 => cases h; exact ⟨f__law_is_test, rfl, rfl, rfl, fun F ZF hF => sim__law_is_test (hF 17)⟩
  | 21 => cases h; exact ⟨f__law_due, rfl, rfl, rfl, fun F ZF hF => sim__law_due (hF 17) (hF 20) (hF 19) (hF 18)⟩
  | 22 => cases h; exact ⟨f_law, rfl, rfl, rfl, fun F ZF hF => sim_law (hF 8) (hF 7) (hF 21) (hF 10) (hF 16) (hF 14) (hF 9)⟩
  | _ + 23 => simp [zpr] at h
end Rf.K37
namespace Rf.K37
open PySem PySem.Spec L2
local macro_rules | `(tactic| walk_at "ex") => `(tactic| try simp (decide := true) only [y_ret, y_retN, y_asg, y_own, y_if, y_drop, y_nilS, y_cont, y_brk, y_frz, y_for, y_var, y_rd, y_c, y_un, y_bin, y_test, y_and, y_or, y_not, y_ifE, y_chain, y_nil, y_cons, y_tup, y_lst, y_obj, y_b, y_bk, y_meth, y_qNone, y_qSome, y_slice, y_call, y_callX, y_gin, y_gix, y_qVar, y_tlNil, y_tlCons, y_qTup, y_qTupT, y_seqV, y_range1, y_lc, y_yes, y_par, y_par3, y_app, y_setObj, y_rg1, pWipe, frz, frz1,
  ZR.bind_ok, pok_bind, pok_ok, pGather, pPick, optAll, List.map_cons, List.map_nil, List.getElem?_cons_zero, List.getElem?_cons_succ, List.set_cons_zero, List.set_cons_succ, Option.map_some, List.length_cons, List.length_nil,
  List.nil_append, List.cons_append, List.replicate, Nat.reduceAdd, Nat.reduceSub, and_self, if_true, if_false, true_and, and_true, Nat.reduceEqDiff, y_truth, y_ofO, reduceCtorEq, decide_true, decide_false, Bool.false_eq_true, Bool.not_true, Bool.not_false, or_self, or_true, true_or, or_false, false_or,
  add_int, sub_int, neg_int, lt_int, le_int, gt_int, ge_int, eq_int, ne_int, eq_str, ne_str, is_non, isNot_non, isi_nonP, isi_blP, isi_intP, isi_strP, isi_tupP, isi_lstP, len_tupP, len_lstP, ix0, ix1, ix2, sizeLine_eq, Nat.reduceLeDiff, Pv.isNon, pSetO, Option.map_some, Pv.isLst])
local macro_rules | `(tactic| walk_at "st") => `(tactic| (refine y_seq.mpr ?_; walk_at "ex"))
/-! ### the feed -/
def Fd (zs : List Int) (k : Nat) (s : PSt) : Prop := ∃ (o : Ob) (sp re ca : Int), 0 ≤ sp ∧ 0 ≤ re ∧ 0 ≤ ca ∧ ca ≤ k ∧ s = [o, .lst [.lst (zs.map .int), .int sp, .int re, .int ca]]
theorem Fd.mono {zs : List Int} {k k' : Nat} {s : PSt} (h : Fd zs k s) (hk : k ≤ k') : Fd zs k' s := by
  obtain ⟨o, sp, re, ca, a, b, c, d, e⟩ := h
  exact ⟨o, sp, re, ca, a, b, c, by omega, e⟩
def DrawS (f : ZF) : Prop := ∀ (zs : List Int) (k : Nat) (s : PSt) (m : Int), Fd zs k s → k < 1000000 → 0 < m → m ≤ 2 ^ 63 → POk (f [.obj 1, .int m] s) fun v s' => ∃ i : Int, v = .int i ∧ 0 ≤ i ∧ i < m ∧ Fd zs (k + 1) s'
theorem ints_snap (n : Nat) : ∀ zs : List Int, optAll ((zs.map Pv.int).map (Pv.snap n)) = some (zs.map PyData.int)
  | [] => rfl
  | z :: zs => by
    rw [List.map_cons, List.map_cons]
    have : Pv.snap n (.int z) = some (.int z) := by cases n <;> rfl
    rw [this]
    simp only [optAll, ints_snap n zs]
    rfl
theorem ints_lay : ∀ zs : List Int, PyData.canLayAll0 (zs.map PyData.int) = true ∧ PyData.depthAll (zs.map PyData.int) = 0
  | [] => ⟨rfl, rfl⟩
  | z :: zs => by
    obtain ⟨a, b⟩ := ints_lay zs
    exact ⟨by simp only [List.map_cons, PyData.canLayAll0, a]; rfl, by simp only [List.map_cons, PyData.depthAll, b]; rfl⟩
theorem cells_ne (zs : List Int) (s : PSt) : pNe (.lst (zs.map Pv.int)) (.lst []) s = .ok (.bl (!zs.isEmpty)) s := by
  have e1 : Pv.snap deepest (.lst (zs.map Pv.int)) = some (.list (zs.map PyData.int)) := by
    show Pv.snap (63 + 1) _ = _
    simp only [Pv.snap, ints_snap]; rfl
  have e2 : Pv.snap deepest (.lst []) = some (.list []) := rfl
  obtain ⟨a, b⟩ := ints_lay zs
  have s1 : SeqAt.shaped (.list (zs.map PyData.int)) = true := by
    unfold SeqAt.shaped
    simp only [PyData.canLay0, PyData.depth, a, b]; decide
  have e3 : pEqO (.lst (zs.map Pv.int)) (.lst []) = some (PyData.eqv (.list (zs.map PyData.int)) (.list [])) := by
    unfold pEqO
    simp only [e1, e2, s1]; rfl
  unfold pNe
  rw [e3]
  cases zs <;> rfl
theorem divW {i m : Int} (h : 0 < m) (h2 : m ≤ 2 ^ 63) : CDivW i m := by
  refine ⟨h, ?_⟩
  have h3 : m.natAbs < 2 ^ 64 := by omega
  have := (Nat.log2_lt (by omega)).mpr h3
  omega
theorem draw_ok : DrawS (pRun 5 2 P__law_draw) := by
  intro zs n s m h hn hm hm2
  obtain ⟨o, sp, r, k, h1, h2, h3, h4, rfl⟩ := h
  refine prun_ok rfl ?_
  unfold P__law_draw
  have x0 : ∀ (o : Ob) (a b c d : Pv) (s : PSt), s[1]? = some (.lst [a, b, c, d]) → pIx (.obj 1) (.int 0) s = .ok a s := fun o a b c d s e => by simp only [pIx, e]; rfl
  have x1 : ∀ (o : Ob) (a b c d : Pv) (s : PSt), s[1]? = some (.lst [a, b, c, d]) → pIx (.obj 1) (.int 1) s = .ok b s := fun o a b c d s e => by simp only [pIx, e]; rfl
  have x2 : ∀ (o : Ob) (a b c d : Pv) (s : PSt), s[1]? = some (.lst [a, b, c, d]) → pIx (.obj 1) (.int 2) s = .ok c s := fun o a b c d s e => by simp only [pIx, e]; rfl
  have x3 : ∀ (o : Ob) (a b c d : Pv) (s : PSt), s[1]? = some (.lst [a, b, c, d]) → pIx (.obj 1) (.int 3) s = .ok d s := fun o a b c d s e => by simp only [pIx, e]; rfl
  have q0 : ∀ (a b c d : Pv), pIx (.obj 1) (.int 0) [o, .lst [a, b, c, d]] = .ok a [o, .lst [a, b, c, d]] := fun a b c d => x0 o a b c d _ rfl
  have q1 : ∀ (a b c d : Pv), pIx (.obj 1) (.int 1) [o, .lst [a, b, c, d]] = .ok b [o, .lst [a, b, c, d]] := fun a b c d => x1 o a b c d _ rfl
  have q2 : ∀ (a b c d : Pv), pIx (.obj 1) (.int 2) [o, .lst [a, b, c, d]] = .ok c [o, .lst [a, b, c, d]] := fun a b c d => x2 o a b c d _ rfl
  have q3 : ∀ (a b c d : Pv), pIx (.obj 1) (.int 3) [o, .lst [a, b, c, d]] = .ok d [o, .lst [a, b, c, d]] := fun a b c d => x3 o a b c d _ rfl
  have i1 : ixN 4 1 = some 1 := by decide
  have i2 : ixN 4 2 = some 2 := by decide
  have i3 : ixN 4 3 = some 3 := by decide
  walk_at "st"
  rw [q3]
  walk_at "ex"
  simp only [i3]
  walk_at "ex"
  walk_at "st"
  rw [q2]
  walk_at "ex"
  by_cases hr : 0 < r
  · rw [if_pos (by simpa using hr)]
    walk_at "st"
    rw [q2]
    walk_at "ex"
    rw [pmod_int hm]
    walk_at "ex"
    walk_at "st"
    rw [q2]
    walk_at "ex"
    rw [pfdiv_int (divW hm hm2)]
    walk_at "ex"
    simp only [i2]
    walk_at "ex"
    walk_at "st"
    exact ⟨_, rfl, Int.emod_nonneg _ (by omega), Int.emod_lt_of_pos _ hm, o, sp, r / m, k + 1, h1, Int.ediv_nonneg h2 (by omega), by omega, by omega, rfl⟩
  · rw [if_neg (by simpa using hr)]
    walk_at "ex"
    walk_at "st"
    rw [q0]
    walk_at "ex"
    rw [cells_ne]
    walk_at "ex"
    have cell : ∃ z : Int, POk (if (!zs.isEmpty) = true then
        (pIx (.obj 1) (.int 0) [o, .lst [.lst (zs.map .int), .int sp, .int r, .int (k + 1)]]).bind fun x s1 => (((pIx (.obj 1) (.int 1) s1).bind fun x s2 => (((pIx (.obj 1) (.int 0) s2).bind fun x s3 => ZR.ok [x] s3).bind pLen).bind fun y s4 => pMod x y s4)).bind fun y s5 => pIx x y s5
        else ZR.ok (.int 0) [o, .lst [.lst (zs.map .int), .int sp, .int r, .int (k + 1)]]) fun d s' => d = .int z ∧ s' = [o, .lst [.lst (zs.map .int), .int sp, .int r, .int (k + 1)]] := by
      cases zs with
      | nil => exact ⟨0, pok_ok.mpr ⟨rfl, rfl⟩⟩
      | cons z0 zs =>
        have hp : 0 < (((z0 :: zs).map Pv.int).length : Int) := by simp
        obtain ⟨v, e1, e2, _⟩ := atI_in (l := (z0 :: zs).map Pv.int) (i := sp % (((z0 :: zs).map Pv.int).length : Int)) (Int.emod_nonneg _ (by omega)) (Int.emod_lt_of_pos _ hp)
        obtain ⟨z, _, rfl⟩ := List.mem_map.mp e2
        refine ⟨z, ?_⟩
        rw [if_pos (show (!(z0 :: zs).isEmpty) = true from rfl), q0, ZR.bind_ok, q1, ZR.bind_ok, q0, ZR.bind_ok, ZR.bind_ok, len_lstP, ZR.bind_ok, pmod_int hp, ZR.bind_ok, ixLst e1]
        exact pok_ok.mpr ⟨rfl, rfl⟩
    obtain ⟨z, hcell⟩ := cell
    refine POk.mono hcell ?_
    rintro _ _ ⟨rfl, rfl⟩
    walk_at "ex"
    walk_at "st"
    rw [q1]
    walk_at "ex"
    simp only [i1]
    walk_at "ex"
    walk_at "st"
    rw [ppow_int (by decide : CPow 10 18)]
    walk_at "ex"
    have lz : (List.map Pv.int zs).length = zs.length := by simp
    have tst : ∃ b : Bool, (b = true → 10 ^ 18 ≤ z) ∧ POk (if decide ((10 : Int) ^ Int.toNat 18 ≤ z) = true then (pIx (.obj 1) (.int 1) [o, .lst [.lst (zs.map .int), .int (sp + 1), .int r, .int (k + 1)]]).bind fun x s1 => (((pIx (.obj 1) (.int 0) s1).bind fun x s2 => ZR.ok [x] s2).bind pLen).bind fun y s2 => pLe x y s2
        else ZR.ok (.bl (decide ((10 : Int) ^ Int.toNat 18 ≤ z))) [o, .lst [.lst (zs.map .int), .int (sp + 1), .int r, .int (k + 1)]]) fun d s' => d = .bl b ∧ s' = [o, .lst [.lst (zs.map .int), .int (sp + 1), .int r, .int (k + 1)]] := by
      by_cases hp : (10 : Int) ^ Int.toNat 18 ≤ z
      · rw [if_pos (by simpa using hp), q1, ZR.bind_ok, q0, ZR.bind_ok, ZR.bind_ok, len_lstP, ZR.bind_ok]
        exact ⟨_, fun e => hp, pok_ok.mpr ⟨rfl, rfl⟩⟩
      · rw [if_neg (by simpa using hp)]
        exact ⟨_, fun e => absurd (of_decide_eq_true e) hp, pok_ok.mpr ⟨rfl, rfl⟩⟩
    obtain ⟨b, hb, htst⟩ := tst
    refine POk.mono htst ?_
    rintro _ _ ⟨rfl, rfl⟩
    walk_at "ex"
    cases b with
    | true =>
      have hz3 := hb rfl
      rw [if_pos rfl]
      walk_at "st"
      rw [pfdiv_int (divW hm hm2)]
      walk_at "ex"
      simp only [i2]
      walk_at "ex"
      walk_at "st"
      rw [pmod_int hm]
      walk_at "ex"
      exact ⟨_, rfl, Int.emod_nonneg _ (by omega), Int.emod_lt_of_pos _ hm, o, sp + 1, z / m, k + 1, by omega, Int.ediv_nonneg (by omega) (by omega), by omega, by omega, rfl⟩
    | false =>
      rw [if_neg (by decide)]
      walk_at "ex"
      walk_at "st"
      rw [pmod_int (by decide)]
      walk_at "ex"
      rw [q3]
      walk_at "ex"
      have m1 := Int.emod_nonneg z (show (2147483629 : Int) ≠ 0 by decide)
      have m2 := Int.emod_lt_of_pos z (show (0 : Int) < 2147483629 by decide)
      rw [pmul_int (.inl ⟨by decide, by decide⟩)]
      walk_at "ex"
      rw [ppow_int ⟨by decide, by decide, by omega⟩]
      walk_at "ex"
      rw [pmod_int (by decide)]
      walk_at "ex"
      generalize hy : (z % 2147483629 + 6007 * (k + 1) + 19) ^ Int.toNat 5 % 2147483587 = y
      have y1 : 0 ≤ y := by rw [← hy]; exact Int.emod_nonneg _ (by decide)
      have y2 : y < 2147483587 := by rw [← hy]; exact Int.emod_lt_of_pos _ (by decide)
      walk_at "st"
      rw [q3]
      walk_at "ex"
      rw [pmul_int (.inl ⟨by decide, by decide⟩)]
      walk_at "ex"
      rw [ppow_int ⟨by decide, by decide, by omega⟩]
      walk_at "ex"
      rw [pmod_int (by decide)]
      walk_at "ex"
      rw [pfdiv_int (divW (by decide) (by decide))]
      walk_at "ex"
      rw [pmod_int hm]
      walk_at "ex"
      exact ⟨_, rfl, Int.emod_nonneg _ (by omega), Int.emod_lt_of_pos _ hm, o, sp + 1, r, k + 1, by omega, h2, by omega, by omega, rfl⟩
end Rf.K37
namespace Rf.K37
open PySem PySem.Spec L2
local macro_rules | `(tactic| walk_at "ex") => `(tactic| try simp (decide := true) only [y_ret, y_retN, y_asg, y_own, y_if, y_drop, y_nilS, y_cont, y_brk, y_frz, y_for, y_var, y_rd, y_c, y_un, y_bin, y_test, y_and, y_or, y_not, y_ifE, y_chain, y_nil, y_cons, y_tup, y_lst, y_obj, y_b, y_bk, y_meth, y_qNone, y_qSome, y_slice, y_call, y_callX, y_gin, y_gix, y_qVar, y_tlNil, y_tlCons, y_qTup, y_qTupT, y_seqV, y_range1, y_lc, y_yes, y_par, y_par3, y_app, y_setObj, y_rg1, pWipe, frz, frz1,
  ZR.bind_ok, pok_bind, pok_ok, pGather, pPick, optAll, List.map_cons, List.map_nil, List.getElem?_cons_zero, List.getElem?_cons_succ, List.set_cons_zero, List.set_cons_succ, Option.map_some, List.length_cons, List.length_nil,
  List.nil_append, List.cons_append, List.replicate, Nat.reduceAdd, Nat.reduceSub, and_self, if_true, if_false, true_and, and_true, Nat.reduceEqDiff, y_truth, y_ofO, reduceCtorEq, decide_true, decide_false, Bool.false_eq_true, Bool.not_true, Bool.not_false, or_self, or_true, true_or, or_false, false_or,
  add_int, sub_int, neg_int, lt_int, le_int, gt_int, ge_int, eq_int, ne_int, eq_str, ne_str, is_non, isNot_non, isi_nonP, isi_blP, isi_intP, isi_strP, isi_tupP, isi_lstP, len_tupP, len_lstP, ix0, ix1, ix2, sizeLine_eq, Nat.reduceLeDiff, Pv.isNon, pSetO, Option.map_some, Pv.isLst])
local macro_rules | `(tactic| walk_at "st") => `(tactic| (refine y_seq.mpr ?_; walk_at "ex"))
/-! ### the looks -/
def numB : Pv → Bool | .int _ => true | _ => false
def lowB (c : Nat) : Bool := decide (97 ≤ c ∧ c ≤ 122)
def figB (c : Nat) : Bool := decide (48 ≤ c ∧ c ≤ 57)
def wordB : Pv → Bool | .str z => decide (1 ≤ z.length ∧ z.length ≤ 8) && z.cps.toList.all lowB | _ => false
def shortB : Pv → Bool | .str z => decide (z.length ≤ 16) && z.cps.toList.all fun c => lowB c || figB c | _ => false
def boundB (v : Pv) : Bool := v.isNon || numB v
def worthB (v : Pv) : Bool := numB v || shortB v
def columnB : Pv → Bool | .int i => decide (0 ≤ i) | _ => false
def tests : List Str := ["is", "under", "over"]
def inTests : Pv → Bool | .str z => decide (z ∈ tests) | _ => false
def testB : Pv → Bool
  | .non => true
  | .tup [a, b, c] => columnB a && (worthB c && inTests b)
  | _ => false
/-- a thing as it is looked at -/
abbrev Lk (v : Pv) : Prop := Th (10 ^ 50) 40 1000000 v
def LookS (f : ZF) (p : Pv → Bool) : Prop := ∀ v s, Lk v → f [v] s = .ok (.bl (p v)) s
theorem pok_eq {α : Type} {r : ZR α} {a : α} {s : PSt} (h : POk r fun x t => x = a ∧ t = s) : r = .ok a s := by
  obtain ⟨x, t, e, rfl, rfl⟩ := h
  exact e
theorem strLn {z : Str} (h : Lk (.str z)) : z.length ≤ sizeLine := by have := h.wstr.2; have := sizeLine_eq; omega
theorem num_ok : LookS (pRun 1 1 P_is_number) numB := by
  intro v s h
  refine pok_eq (prun_ok rfl ?_)
  unfold P_is_number
  cases v with
  | fn x => exact h.no_fn.elim
  | obj x => exact h.no_obj.elim
  | dct x l => exact h.no_dct.elim
  | _ => walk_at "st"; rfl
theorem lnum_ok : LookS (pRun 1 1 P__law_is_number) numB := num_ok
theorem word_ok : LookS (pRun 2 1 P_is_word_text) wordB := by
  intro v s h
  refine pok_eq (prun_ok rfl ?_)
  unfold P_is_word_text
  cases v with
  | fn x => exact h.no_fn.elim
  | obj x => exact h.no_obj.elim
  | dct x l => exact h.no_dct.elim
  | str z =>
    walk_at "st"
    rw [len_strP (strLn h)]
    walk_at "ex"
    by_cases h1 : (1 : Int) ≤ (z.length : Int)
    · by_cases h2 : (z.length : Int) ≤ 8
      · simp only [decide_eq_true h1, decide_eq_true h2]
        walk_at "ex"
        rw [lc_in (t := "abcdefghijklmnopqrstuvwxyz") (by simp) (strLn h) (fun c => by simp only [y_bin, y_rd, y_c]; rfl)]
        walk_at "ex"
        rw [all_signs]
        walk_at "ex"
        have h3 : (1 ≤ z.length ∧ z.length ≤ 8) := by omega
        simp only [wordB, h3, decide_true, Bool.true_and, and_self]
        congr 2
        funext c
        simp only [lowB, decide_eq_decide]
        exact small_mem c
      · simp only [decide_eq_true h1, decide_eq_false h2]
        walk_at "ex"
        have h3 : ¬ (1 ≤ z.length ∧ z.length ≤ 8) := by omega
        simp only [wordB, h3, decide_false, Bool.false_and]
    · simp only [decide_eq_false h1]
      walk_at "ex"
      have h3 : ¬ (1 ≤ z.length ∧ z.length ≤ 8) := by omega
      simp only [wordB, h3, decide_false, Bool.false_and]
  | _ => walk_at "st"; rfl
theorem lword_ok : LookS (pRun 2 1 P__law_is_word) wordB := by
  intro v s h
  refine pok_eq (prun_ok rfl ?_)
  unfold P__law_is_word
  cases v with
  | fn x => exact h.no_fn.elim
  | obj x => exact h.no_obj.elim
  | dct x l => exact h.no_dct.elim
  | str z =>
    walk_at "st"
    rw [len_strP (strLn h)]
    walk_at "ex"
    by_cases h1 : (1 : Int) ≤ (z.length : Int)
    · by_cases h2 : (z.length : Int) ≤ 8
      · simp only [decide_eq_true h1, decide_eq_true h2]
        walk_at "ex"
        rw [lc_filter (p := fun c => !lowB c) (strLn h) (fun c => ?_) (fun c => rfl)]
        · walk_at "ex"
          rw [eq_nilL (filt_good h.wstr.1) (by decide) (by decide)]
          walk_at "ex"
          have h3 : (1 ≤ z.length ∧ z.length ≤ 8) := by omega
          rw [filt_nil]
          simp only [wordB, h3, decide_true, Bool.true_and, and_self, Bool.not_not]
        · show (pNot _ _ _).bind _ = _
          simp only [y_not, y_test, y_chain, y_c, y_rd, ZR.bind_ok, List.getElem?_cons_zero, List.getElem?_cons_succ, List.set_cons_zero, List.set_cons_succ]
          have l1 := le_sign (a := 97) (c := c) (s := s)
          have l2 := le_sign (a := c) (c := 122) (s := s)
          have e1 : (Str.ofString "a") = ⟨#[97]⟩ := by decide +kernel
          have e2 : (Str.ofString "z") = ⟨#[122]⟩ := by decide +kernel
          rw [e1, e2, l1, ZR.bind_ok]
          by_cases q1 : 97 ≤ c
          · rw [decide_eq_true q1]
            simp only [ZR.bind_ok, l2]
            by_cases q2 : c ≤ 122 <;> simp [y_truth, y_ofO, lowB, q1, q2]
          · rw [decide_eq_false q1]
            simp [y_truth, y_ofO, lowB, q1]
      · simp only [decide_eq_true h1, decide_eq_false h2]
        walk_at "ex"
        have h3 : ¬ (1 ≤ z.length ∧ z.length ≤ 8) := by omega
        simp only [wordB, h3, decide_false, Bool.false_and]
    · simp only [decide_eq_false h1]
      walk_at "ex"
      have h3 : ¬ (1 ≤ z.length ∧ z.length ≤ 8) := by omega
      simp only [wordB, h3, decide_false, Bool.false_and]
  | _ => walk_at "st"; rfl
theorem short_ok : LookS (pRun 2 1 P_is_short_text) shortB := by
  intro v s h
  refine pok_eq (prun_ok rfl ?_)
  unfold P_is_short_text
  cases v with
  | fn x => exact h.no_fn.elim
  | obj x => exact h.no_obj.elim
  | dct x l => exact h.no_dct.elim
  | str z =>
    walk_at "st"
    rw [len_strP (strLn h)]
    walk_at "ex"
    by_cases h2 : (z.length : Int) ≤ 16
    · simp only [decide_eq_true h2]
      walk_at "ex"
      rw [lc_in (t := Str.ofString "abcdefghijklmnopqrstuvwxyz" ++ Str.ofString "0123456789") (by simp) (strLn h) (fun c => by
        simp only [y_bin, y_rd, y_c, ZR.bind_ok, List.getElem?_cons_zero, List.getElem?_cons_succ, List.set_cons_zero, List.set_cons_succ]
        rw [padd_str (by rw [sizeLine_eq]; decide +kernel)]; rfl)]
      walk_at "ex"
      rw [all_signs]
      walk_at "ex"
      have h3 : z.length ≤ 16 := by omega
      simp only [shortB, h3, decide_true, Bool.true_and]
      congr 2
      funext c
      have e : (Str.ofString "abcdefghijklmnopqrstuvwxyz" ++ Str.ofString "0123456789").cps.toList = (Str.ofString "abcdefghijklmnopqrstuvwxyz").cps.toList ++ (Str.ofString "0123456789").cps.toList := by decide +kernel
      rw [e]
      simp only [List.mem_append, small_mem, fig_mem, lowB, figB]
      by_cases q1 : 97 ≤ c ∧ c ≤ 122 <;> by_cases q2 : 48 ≤ c ∧ c ≤ 57 <;> simp [q1, q2]
    · simp only [decide_eq_false h2]
      walk_at "ex"
      have h3 : ¬ z.length ≤ 16 := by omega
      simp only [shortB, h3, decide_false, Bool.false_and]
  | _ => walk_at "st"; rfl
theorem bound_ok {c : ZF} (hn : LookS c numB) : LookS (pRun 1 1 (P_is_bound c)) boundB := by
  intro v s h
  refine pok_eq (prun_ok rfl ?_)
  unfold P_is_bound
  walk_at "st"
  rw [hn v s h]
  cases v <;> exact ⟨_, _, rfl, rfl, rfl⟩
theorem lmaybe_ok {c : ZF} (hn : LookS c numB) : LookS (pRun 1 1 (P__law_is_maybe c)) boundB := bound_ok hn
theorem worth_ok {c d : ZF} (hn : LookS c numB) (hs : LookS d shortB) : LookS (pRun 1 1 (P_is_worth c d)) worthB := by
  intro v s h
  refine pok_eq (prun_ok rfl ?_)
  unfold P_is_worth
  walk_at "st"
  rw [hn v s h]
  walk_at "ex"
  rw [hs v s h]
  cases hv : numB v <;> (walk_at "ex"; simp [worthB, hv])
theorem column_ok {c : ZF} (hn : LookS c numB) : LookS (pRun 1 1 (P_is_column c)) columnB := by
  intro v s h
  refine pok_eq (prun_ok rfl ?_)
  unfold P_is_column
  walk_at "st"
  rw [hn v s h]
  walk_at "ex"
  cases v <;> exact ⟨_, _, rfl, rfl, rfl⟩
theorem in_tests {z : Str} {s : PSt} (h : Lk (.str z)) : pIn (.str z) (.tup [.str "is", .str "under", .str "over"]) s = .ok (.bl (decide (z ∈ tests))) s :=
  in_strs (l := tests) h.wstr.1 (by decide +kernel)
theorem lkT {l : List Pv} (h : Lk (.tup l)) : ∀ v ∈ l, Lk v := fun v hv => ((Th.unT (n := 39) h).mem hv).mono (Nat.le_refl _) (by decide) (Nat.le_refl _)
theorem test_ok {c d : ZF} (hc : LookS c columnB) (hw : LookS d worthB) : LookS (pRun 1 1 (P_is_test c d)) testB := by
  intro v s h
  refine pok_eq (prun_ok rfl ?_)
  unfold P_is_test
  cases v with
  | fn x => exact h.no_fn.elim
  | obj x => exact h.no_obj.elim
  | dct x l => exact h.no_dct.elim
  | non => exact ⟨.rt _, s, rfl, rfl, rfl⟩
  | tup l =>
    match l with
    | [x, y, z] =>
      have hm := lkT h
      have hx := hm x (by simp)
      have hy := hm y (by simp)
      have hz := hm z (by simp)
      walk_at "st"
      walk_at "st"
      rw [hc x s hx]
      walk_at "ex"
      rw [hw z s hz]
      cases e1 : columnB x
      · walk_at "ex"
        walk_at "st"
        simp [testB, e1]
      · cases e2 : worthB z
        · walk_at "ex"
          walk_at "st"
          simp [testB, e1, e2]
        · walk_at "ex"
          cases y with
          | fn x => exact hy.no_fn.elim
          | obj x => exact hy.no_obj.elim
          | dct x l => exact hy.no_dct.elim
          | str t =>
            walk_at "st"
            rw [in_tests hy]
            walk_at "ex"
            simp [testB, e1, e2, inTests]
          | _ => walk_at "st"; simp [testB, e1, e2, inTests]
    | [] => exact ⟨.rt _, s, rfl, rfl, rfl⟩
    | [_] => exact ⟨.rt _, s, rfl, rfl, rfl⟩
    | [_, _] => exact ⟨.rt _, s, rfl, rfl, rfl⟩
    | a :: b :: c :: d :: l =>
      walk_at "st"
      walk_at "st"
      have e : (((l.length + 1 + 1 + 1 + 1 : Nat) : Int) = 3) = False := by simp; omega
      simp only [e, decide_false, Bool.not_false]
      walk_at "ex"
      exact ⟨.rt _, s, rfl, rfl, rfl⟩
  | _ => exact ⟨.rt _, s, rfl, rfl, rfl⟩
end Rf.K37
namespace Rf.K37
open PySem PySem.Spec L2
local macro_rules | `(tactic| walk_at "ex") => `(tactic| try simp (decide := true) only [y_ret, y_retN, y_asg, y_own, y_if, y_drop, y_nilS, y_cont, y_brk, y_frz, y_for, y_var, y_rd, y_c, y_un, y_bin, y_test, y_and, y_or, y_not, y_ifE, y_chain, y_nil, y_cons, y_tup, y_lst, y_obj, y_b, y_bk, y_meth, y_qNone, y_qSome, y_slice, y_call, y_callX, y_gin, y_gix, y_qVar, y_tlNil, y_tlCons, y_qTup, y_qTupT, y_seqV, y_range1, y_lc, y_yes, y_par, y_par3, y_app, y_setObj, y_rg1, pWipe, frz, frz1,
  ZR.bind_ok, pok_bind, pok_ok, pGather, pPick, optAll, List.map_cons, List.map_nil, List.getElem?_cons_zero, List.getElem?_cons_succ, List.set_cons_zero, List.set_cons_succ, Option.map_some, List.length_cons, List.length_nil,
  List.nil_append, List.cons_append, List.replicate, Nat.reduceAdd, Nat.reduceSub, and_self, if_true, if_false, true_and, and_true, Nat.reduceEqDiff, y_truth, y_ofO, reduceCtorEq, decide_true, decide_false, Bool.false_eq_true, Bool.not_true, Bool.not_false, or_self, or_true, true_or, or_false, false_or,
  add_int, sub_int, neg_int, lt_int, le_int, gt_int, ge_int, eq_int, ne_int, eq_str, ne_str, is_non, isNot_non, isi_nonP, isi_blP, isi_intP, isi_strP, isi_tupP, isi_lstP, len_tupP, len_lstP, ix0, ix1, ix2, sizeLine_eq, Nat.reduceLeDiff, Pv.isNon, pSetO, Option.map_some, Pv.isLst])
local macro_rules | `(tactic| walk_at "st") => `(tactic| (refine y_seq.mpr ?_; walk_at "ex"))
def askB : Pv → Bool
  | .tup (.str w :: ps) =>
    if w = "row" then (match ps with | [a, b, c] => wordB a && (numB b && boundB c) | _ => false)
    else if w = "past" then (match ps with | [a, b] => wordB a && numB b | _ => false)
    else if w = "all" then (match ps with | [a, b, c, d, e] => wordB a && (boundB b && (boundB c && (testB d && boundB e))) | _ => false)
    else if w = "count" then (match ps with | [a, b, c, d] => wordB a && (boundB b && (boundB c && boundB d)) | _ => false)
    else if w = "total" then (match ps with | [a, b, c, d, e] => wordB a && (boundB b && (boundB c && (columnB d && boundB e))) | _ => false)
    else if w = "pair" then (match ps with | [a, b, c] => wordB a && (wordB b && boundB c) | _ => false)
    else false
  | _ => false
def askWords : List Str := ["row", "past", "all", "count", "total", "pair"]
theorem all_bl (l : List Bool) (s : PSt) : pAll [.lst (l.map .bl)] s = .ok (.bl (l.all id)) s := by
  have : boolsP (l.map Pv.bl) = some l := by
    induction l with
    | nil => rfl
    | cons b l ih => simp only [List.map_cons, boolsP, ih]; rfl
  simp only [pAll, this]
section
variable {cn cc cw cb ct : ZF}
/-- the parts of an ask, look by look -/
def looks (cn cc cw cb ct : ZF) : List (Str × List ZG × ZF) := [("is_number", [.pos 0], cn), ("is_column", [.pos 0], cc), ("is_word_text", [.pos 0], cw), ("is_bound", [.pos 0], cb), ("is_test", [.pos 0], ct)]
def lookB (x : Str) (v : Pv) : Option Bool := if x = "is_number" then some (numB v) else if x = "is_column" then some (columnB v) else if x = "is_word_text" then some (wordB v) else if x = "is_bound" then some (boundB v) else if x = "is_test" then some (testB v) else none
theorem look_at (hn : LookS cn numB) (hc : LookS cc columnB) (hw : LookS cw wordB) (hb : LookS cb boundB) (ht : LookS ct testB) {x : Str} {v : Pv} {s : PSt} {b : Bool} (h : Lk v) (e : lookB x v = some b) {L : PLoc} (hL : L = [L.getD 0 none, L.getD 1 none, L.getD 2 none, L.getD 3 none, some (.val (.fn x)), some (.val v)]) :
    pCallX (looks cn cc cw cb ct) 1 (pVar 4) (pCons (pVar 5) pNil) L s = .ok (.bl b) s := by
  rw [hL]
  unfold lookB at e
  split at e
  · rename_i q; subst q; cases e
    exact hn v s h
  · split at e
    · rename_i q; subst q; cases e
      exact hc v s h
    · split at e
      · rename_i q; subst q; cases e
        exact hw v s h
      · split at e
        · rename_i q; subst q; cases e
          exact hb v s h
        · split at e
          · rename_i q; subst q; cases e
            exact ht v s h
          · cases e
/-- all of them -/
theorem looks_all (hn : LookS cn numB) (hc : LookS cc columnB) (hw : LookS cw wordB) (hb : LookS cb boundB) (ht : LookS ct testB) {s : PSt} {x0 x1 x2 x3 x4 x5 : Option Sl} : ∀ (fs : List Str) (ps : List Pv) (bs : List Bool) (acc : List Pv), fs.length = ps.length → (∀ v ∈ ps, Lk v) → acc.length + ps.length ≤ 1000 → optAll ((fs.zip ps).map fun q => lookB q.1 q.2) = some bs →
    plcLoop (qTupT (ptlOf [4, 5])) pYes (pCallX (looks cn cc cw cb ct) 1 (pVar 4) (pCons (pVar 5) pNil)) [x0, x1, x2, x3, x4, x5] (zipP (fs.map .fn) ps) acc s = .ok (acc ++ bs.map .bl) s
  | [], [], bs, acc, _, _, _, e => by cases e; simp [zipP, plcLoop]
  | [], _ :: _, _, _, h, _, _, _ => by simp at h
  | _ :: _, [], _, _, h, _, _, _ => by simp at h
  | f :: fs, p :: ps, bs, acc, h, hp, hl, e => by
    simp only [List.zip_cons_cons, List.map_cons] at e
    cases q : lookB f p with
    | none => rw [q] at e; cases e
    | some b =>
      rw [q] at e
      simp only [optAll] at e
      cases q2 : optAll ((fs.zip ps).map fun q => lookB q.1 q.2) with
      | none => rw [q2] at e; cases e
      | some bs' =>
        rw [q2] at e
        cases e
        rw [List.length_cons] at hl
        have e1 : zipP ((f :: fs).map .fn) (p :: ps) = .tup [.fn f, p] :: zipP (fs.map .fn) ps := rfl
        rw [e1]
        simp only [plcLoop, y_qTupT, y_tlCons, y_tlNil, ZR.bind_ok, y_yes, if_true, List.set_cons_zero, List.set_cons_succ]
        rw [look_at hn hc hw hb ht (hp p (List.mem_cons_self ..)) q rfl]
        simp only [ZR.bind_ok]
        have s1 := sizeLine_eq
        rw [if_pos (by omega)]
        refine (looks_all hn hc hw hb ht (x0 := x0) (x1 := x1) (x2 := x2) (x3 := x3) (x4 := x4) (x5 := x5) fs ps bs' (acc ++ [Pv.bl b]) (by simpa using h) (fun v hv => hp v (List.mem_cons_of_mem _ hv)) (by rw [List.length_append, List.length_singleton]; omega) q2).trans ?_
        simp
def partsL : List (Str × Pv) := [("row", .tup [.fn "is_word_text", .fn "is_number", .fn "is_bound"]), ("past", .tup [.fn "is_word_text", .fn "is_number"]), ("all", .tup [.fn "is_word_text", .fn "is_bound", .fn "is_bound", .fn "is_test", .fn "is_bound"]), ("count", .tup [.fn "is_word_text", .fn "is_bound", .fn "is_bound", .fn "is_bound"]), ("total", .tup [.fn "is_word_text", .fn "is_bound", .fn "is_bound", .fn "is_column", .fn "is_bound"]), ("pair", .tup [.fn "is_word_text", .fn "is_word_text", .fn "is_bound"])]
theorem p_row : partsL.find? (fun p => decide (p.1 = Str.ofString "row")) = some (Str.ofString "row", Pv.tup [Pv.fn (Str.ofString "is_word_text"), Pv.fn (Str.ofString "is_number"), Pv.fn (Str.ofString "is_bound")]) := by kernel_rfl
theorem q_row (ps : List Pv) : askB (.tup (.str (Str.ofString "row") :: ps)) = (match ps with | [a, b, c] => wordB a && (numB b && (boundB c)) | _ => false) := by kernel_rfl
theorem p_past : partsL.find? (fun p => decide (p.1 = Str.ofString "past")) = some (Str.ofString "past", Pv.tup [Pv.fn (Str.ofString "is_word_text"), Pv.fn (Str.ofString "is_number")]) := by kernel_rfl
theorem q_past (ps : List Pv) : askB (.tup (.str (Str.ofString "past") :: ps)) = (match ps with | [a, b] => wordB a && (numB b) | _ => false) := by kernel_rfl
theorem p_all : partsL.find? (fun p => decide (p.1 = Str.ofString "all")) = some (Str.ofString "all", Pv.tup [Pv.fn (Str.ofString "is_word_text"), Pv.fn (Str.ofString "is_bound"), Pv.fn (Str.ofString "is_bound"), Pv.fn (Str.ofString "is_test"), Pv.fn (Str.ofString "is_bound")]) := by kernel_rfl
theorem q_all (ps : List Pv) : askB (.tup (.str (Str.ofString "all") :: ps)) = (match ps with | [a, b, c, d, e] => wordB a && (boundB b && (boundB c && (testB d && (boundB e)))) | _ => false) := by kernel_rfl
theorem p_count : partsL.find? (fun p => decide (p.1 = Str.ofString "count")) = some (Str.ofString "count", Pv.tup [Pv.fn (Str.ofString "is_word_text"), Pv.fn (Str.ofString "is_bound"), Pv.fn (Str.ofString "is_bound"), Pv.fn (Str.ofString "is_bound")]) := by kernel_rfl
theorem q_count (ps : List Pv) : askB (.tup (.str (Str.ofString "count") :: ps)) = (match ps with | [a, b, c, d] => wordB a && (boundB b && (boundB c && (boundB d))) | _ => false) := by kernel_rfl
theorem p_total : partsL.find? (fun p => decide (p.1 = Str.ofString "total")) = some (Str.ofString "total", Pv.tup [Pv.fn (Str.ofString "is_word_text"), Pv.fn (Str.ofString "is_bound"), Pv.fn (Str.ofString "is_bound"), Pv.fn (Str.ofString "is_column"), Pv.fn (Str.ofString "is_bound")]) := by kernel_rfl
theorem q_total (ps : List Pv) : askB (.tup (.str (Str.ofString "total") :: ps)) = (match ps with | [a, b, c, d, e] => wordB a && (boundB b && (boundB c && (columnB d && (boundB e)))) | _ => false) := by kernel_rfl
theorem p_pair : partsL.find? (fun p => decide (p.1 = Str.ofString "pair")) = some (Str.ofString "pair", Pv.tup [Pv.fn (Str.ofString "is_word_text"), Pv.fn (Str.ofString "is_word_text"), Pv.fn (Str.ofString "is_bound")]) := by kernel_rfl
theorem q_pair (ps : List Pv) : askB (.tup (.str (Str.ofString "pair") :: ps)) = (match ps with | [a, b, c] => wordB a && (wordB b && (boundB c)) | _ => false) := by kernel_rfl
theorem ask_tail (hn : LookS cn numB) (hc : LookS cc columnB) (hw : LookS cw wordB) (hb : LookS cb boundB) (ht : LookS ct testB) {s : PSt} {x0 x1 x4 x5 : Option Sl} {fs : List Str} {ps : List Pv} (hps : ∀ v ∈ ps, Lk v) {r : Bool}
    (hr : fs.length = ps.length → ∃ bs, optAll ((fs.zip ps).map fun q => lookB q.1 q.2) = some bs ∧ bs.all id = r) (hr2 : fs.length ≠ ps.length → r = false) (hf : fs.length ≤ 10) :
    POk (tSeq (tRet (pAnd (pBin pEq (pB pLen (pCons (pRd 2) pNil)) (pB pLen (pCons (pRd 3) pNil))) (pB pAll (pCons (pLc (qZipS (pVar 3) (pVar 2)) (qTupT (ptlOf [4, 5])) pYes (pCallX (looks cn cc cw cb ct) 1 (pVar 4) (pCons (pVar 5) pNil)) [4, 5]) pNil)))) tNil
      [x0, x1, some (.val (.lst ps)), some (.val (.tup (fs.map .fn))), x4, x5] s) fun o s1 => o = .rt (.bl r) ∧ s1 = s := by
  walk_at "st"
  by_cases hl : fs.length = ps.length
  · obtain ⟨bs, e1, e2⟩ := hr hl
    have e3 : ((ps.length : Int) = ((fs.map Pv.fn).length : Int)) := by rw [List.length_map, hl]
    simp only [decide_eq_true e3]
    walk_at "ex"
    have e4 : pZipOp (.tup (fs.map .fn)) = some (fs.map .fn) := rfl
    have e5 : pZipOp (.lst ps) = some ps := rfl
    simp only [y_zipS, y_var, List.getElem?_cons_zero, List.getElem?_cons_succ, ZR.bind_ok, e4, e5]
    rw [if_pos (by rw [List.length_map, hl])]
    walk_at "ex"
    rw [looks_all hn hc hw hb ht fs ps bs [] hl hps (by simp only [List.length_nil]; omega) e1]
    walk_at "ex"
    rw [all_bl, e2]
    walk_at "ex"
  · have e3 : ¬ ((ps.length : Int) = ((fs.map Pv.fn).length : Int)) := by rw [List.length_map]; omega
    simp only [decide_eq_false e3]
    walk_at "ex"
    rw [hr2 hl]
theorem ask_ok (hn : LookS cn numB) (hc : LookS cc columnB) (hw : LookS cw wordB) (hb : LookS cb boundB) (ht : LookS ct testB) : LookS (pRun 6 1 (P_is_ask cn cc cw cb ct)) askB := by
  intro v s h
  refine pok_eq (prun_ok rfl ?_)
  unfold P_is_ask
  cases v with
  | fn x => exact h.no_fn.elim
  | obj x => exact h.no_obj.elim
  | dct x l => exact h.no_dct.elim
  | tup l =>
    cases l with
    | nil => exact ⟨.rt _, s, rfl, rfl, rfl⟩
    | cons x ps =>
      have hm := lkT h
      have hx := hm x (by simp)
      have hps : ∀ v ∈ ps, Lk v := fun v hv => hm v (List.mem_cons_of_mem _ hv)
      have hl : ps.length ≤ 1000000 := by have := (Th.unT (n := 39) h).len; rw [List.length_cons] at this; omega
      walk_at "st"
      have e0 : (((ps.length + 1 : Nat) : Int) = 0) = False := by simp; omega
      simp only [e0, decide_false]
      walk_at "ex"
      cases x with
      | fn x => exact hx.no_fn.elim
      | obj x => exact hx.no_obj.elim
      | dct x l => exact hx.no_dct.elim
      | str w =>
        walk_at "ex"
        by_cases hw' : w ∈ askWords
        · rw [show decide (w ∈ [Str.ofString "row", Str.ofString "past", Str.ofString "all", Str.ofString "count", Str.ofString "total", Str.ofString "pair"]) = true from decide_eq_true hw']
          walk_at "ex"
          walk_at "st"
          rw [y_star1]
          walk_at "ex"
          have key : ∀ (fs : List Str) (r : Bool), (fs.length = ps.length → ∃ bs, optAll ((fs.zip ps).map fun q => lookB q.1 q.2) = some bs ∧ bs.all id = r) → (fs.length ≠ ps.length → r = false) → fs.length ≤ 10 → _ := fun fs r a b c => ask_tail hn hc hw hb ht (x0 := some (.val (.tup (.str w :: ps)))) (x1 := some (.val (.str w))) (x4 := none) (x5 := none) hps a b c (s := s)
          simp only [askWords, List.mem_cons, List.not_mem_nil, or_false] at hw'
          rcases hw' with rfl | rfl | rfl | rfl | rfl | rfl
          · walk_at "st"
            have pf := p_row
            unfold partsL at pf
            rw [pf]
            walk_at "ex"
            refine POk.mono (key [Str.ofString "is_word_text", Str.ofString "is_number", Str.ofString "is_bound"] (askB (.tup (.str (Str.ofString "row") :: ps))) (fun hl => ?_) (fun hl => ?_) (by decide)) ?_
            · match ps, hl with
              | [a, b, c], _ => exact ⟨[wordB a, numB b, boundB c], by kernel_rfl, by rw [q_row]; simp only [List.all_cons, List.all_nil, id, Bool.and_true]⟩
            · rw [q_row]
              split
              · simp at hl
              · rfl
            · rintro _ _ ⟨rfl, rfl⟩
              exact ⟨rfl, rfl⟩
          · walk_at "st"
            have pf := p_past
            unfold partsL at pf
            rw [pf]
            walk_at "ex"
            refine POk.mono (key [Str.ofString "is_word_text", Str.ofString "is_number"] (askB (.tup (.str (Str.ofString "past") :: ps))) (fun hl => ?_) (fun hl => ?_) (by decide)) ?_
            · match ps, hl with
              | [a, b], _ => exact ⟨[wordB a, numB b], by kernel_rfl, by rw [q_past]; simp only [List.all_cons, List.all_nil, id, Bool.and_true]⟩
            · rw [q_past]
              split
              · simp at hl
              · rfl
            · rintro _ _ ⟨rfl, rfl⟩
              exact ⟨rfl, rfl⟩
          · walk_at "st"
            have pf := p_all
            unfold partsL at pf
            rw [pf]
            walk_at "ex"
            refine POk.mono (key [Str.ofString "is_word_text", Str.ofString "is_bound", Str.ofString "is_bound", Str.ofString "is_test", Str.ofString "is_bound"] (askB (.tup (.str (Str.ofString "all") :: ps))) (fun hl => ?_) (fun hl => ?_) (by decide)) ?_
            · match ps, hl with
              | [a, b, c, d, e], _ => exact ⟨[wordB a, boundB b, boundB c, testB d, boundB e], by kernel_rfl, by rw [q_all]; simp only [List.all_cons, List.all_nil, id, Bool.and_true]⟩
            · rw [q_all]
              split
              · simp at hl
              · rfl
            · rintro _ _ ⟨rfl, rfl⟩
              exact ⟨rfl, rfl⟩
          · walk_at "st"
            have pf := p_count
            unfold partsL at pf
            rw [pf]
            walk_at "ex"
            refine POk.mono (key [Str.ofString "is_word_text", Str.ofString "is_bound", Str.ofString "is_bound", Str.ofString "is_bound"] (askB (.tup (.str (Str.ofString "count") :: ps))) (fun hl => ?_) (fun hl => ?_) (by decide)) ?_
            · match ps, hl with
              | [a, b, c, d], _ => exact ⟨[wordB a, boundB b, boundB c, boundB d], by kernel_rfl, by rw [q_count]; simp only [List.all_cons, List.all_nil, id, Bool.and_true]⟩
            · rw [q_count]
              split
              · simp at hl
              · rfl
            · rintro _ _ ⟨rfl, rfl⟩
              exact ⟨rfl, rfl⟩
          · walk_at "st"
            have pf := p_total
            unfold partsL at pf
            rw [pf]
            walk_at "ex"
            refine POk.mono (key [Str.ofString "is_word_text", Str.ofString "is_bound", Str.ofString "is_bound", Str.ofString "is_column", Str.ofString "is_bound"] (askB (.tup (.str (Str.ofString "total") :: ps))) (fun hl => ?_) (fun hl => ?_) (by decide)) ?_
            · match ps, hl with
              | [a, b, c, d, e], _ => exact ⟨[wordB a, boundB b, boundB c, columnB d, boundB e], by kernel_rfl, by rw [q_total]; simp only [List.all_cons, List.all_nil, id, Bool.and_true]⟩
            · rw [q_total]
              split
              · simp at hl
              · rfl
            · rintro _ _ ⟨rfl, rfl⟩
              exact ⟨rfl, rfl⟩
          · walk_at "st"
            have pf := p_pair
            unfold partsL at pf
            rw [pf]
            walk_at "ex"
            refine POk.mono (key [Str.ofString "is_word_text", Str.ofString "is_word_text", Str.ofString "is_bound"] (askB (.tup (.str (Str.ofString "pair") :: ps))) (fun hl => ?_) (fun hl => ?_) (by decide)) ?_
            · match ps, hl with
              | [a, b, c], _ => exact ⟨[wordB a, wordB b, boundB c], by kernel_rfl, by rw [q_pair]; simp only [List.all_cons, List.all_nil, id, Bool.and_true]⟩
            · rw [q_pair]
              split
              · simp at hl
              · rfl
            · rintro _ _ ⟨rfl, rfl⟩
              exact ⟨rfl, rfl⟩
        · rw [show decide (w ∈ [Str.ofString "row", Str.ofString "past", Str.ofString "all", Str.ofString "count", Str.ofString "total", Str.ofString "pair"]) = false from decide_eq_false hw']
          walk_at "ex"
          walk_at "st"
          simp only [askWords, List.mem_cons, List.not_mem_nil, or_false, not_or] at hw'
          simp only [askB, hw'.1, hw'.2.1, hw'.2.2.1, hw'.2.2.2.1, hw'.2.2.2.2.1, hw'.2.2.2.2.2, if_false]
      | _ => walk_at "ex"; exact ⟨.rt _, s, rfl, rfl, rfl⟩
  | _ => exact ⟨.rt _, s, rfl, rfl, rfl⟩
end
end Rf.K37
namespace Rf.K37
open PySem PySem.Spec L2
local macro_rules | `(tactic| walk_at "ex") => `(tactic| try simp (decide := true) only [y_ret, y_retN, y_asg, y_own, y_if, y_drop, y_nilS, y_cont, y_brk, y_frz, y_for, y_var, y_rd, y_c, y_un, y_bin, y_test, y_and, y_or, y_not, y_ifE, y_chain, y_nil, y_cons, y_tup, y_lst, y_obj, y_b, y_bk, y_meth, y_qNone, y_qSome, y_slice, y_call, y_callX, y_gin, y_gix, y_qVar, y_tlNil, y_tlCons, y_qTup, y_qTupT, y_seqV, y_range1, y_lc, y_yes, y_par, y_par3, y_app, y_setObj, y_rg1, pWipe, frz, frz1,
  ZR.bind_ok, pok_bind, pok_ok, pGather, pPick, optAll, List.map_cons, List.map_nil, List.getElem?_cons_zero, List.getElem?_cons_succ, List.set_cons_zero, List.set_cons_succ, Option.map_some, List.length_cons, List.length_nil,
  List.nil_append, List.cons_append, List.replicate, Nat.reduceAdd, Nat.reduceSub, and_self, if_true, if_false, true_and, and_true, Nat.reduceEqDiff, y_truth, y_ofO, reduceCtorEq, decide_true, decide_false, Bool.false_eq_true, Bool.not_true, Bool.not_false, or_self, or_true, true_or, or_false, false_or,
  add_int, sub_int, neg_int, lt_int, le_int, gt_int, ge_int, eq_int, ne_int, eq_str, ne_str, is_non, isNot_non, isi_nonP, isi_blP, isi_intP, isi_strP, isi_tupP, isi_lstP, len_tupP, len_lstP, ix0, ix1, ix2, sizeLine_eq, Nat.reduceLeDiff, Pv.isNon, pSetO, Option.map_some, Pv.isLst])
local macro_rules | `(tactic| walk_at "st") => `(tactic| (refine y_seq.mpr ?_; walk_at "ex"))
theorem le_lit {c : Nat} {s : PSt} : pLe (.str (Str.ofString "a")) (.str ⟨#[c]⟩) s = .ok (.bl (decide (97 ≤ c))) s ∧ pLe (.str ⟨#[c]⟩) (.str (Str.ofString "z")) s = .ok (.bl (decide (c ≤ 122))) s ∧
    pLe (.str (Str.ofString "0")) (.str ⟨#[c]⟩) s = .ok (.bl (decide (48 ≤ c))) s ∧ pLe (.str ⟨#[c]⟩) (.str (Str.ofString "9")) s = .ok (.bl (decide (c ≤ 57))) s := by
  have e1 : (Str.ofString "a") = ⟨#[97]⟩ := by decide +kernel
  have e2 : (Str.ofString "z") = ⟨#[122]⟩ := by decide +kernel
  have e3 : (Str.ofString "0") = ⟨#[48]⟩ := by decide +kernel
  have e4 : (Str.ofString "9") = ⟨#[57]⟩ := by decide +kernel
  rw [e1, e2, e3, e4]
  exact ⟨le_sign, le_sign, le_sign, le_sign⟩
theorem notin_tests {z : Str} {s : PSt} (h : Lk (.str z)) : pNotIn (.str z) (.tup [.str "is", .str "under", .str "over"]) s = .ok (.bl (!decide (z ∈ tests))) s :=
  notIn_strs (l := tests) h.wstr.1 (by decide +kernel)
theorem lshort {z : Str} {s : PSt} (h : Lk (.str z)) {L : PLoc} {x0 x1 : Option Sl} (hL : L = [x0, x1]) :
    plcLoop (qVar 1) (pTest (pNot (pOr (pChain pLe pLe (pC (.str "a")) (pRd 1) (pC (.str "z"))) (pChain pLe pLe (pC (.str "0")) (pRd 1) (pC (.str "9")))))) (pVar 1) L (z.cps.toList.map fun c => .str ⟨#[c]⟩) [] s = .ok ((z.cps.toList.filter fun c => !(lowB c || figB c)).map fun c => .str ⟨#[c]⟩) s := by
  subst hL
  refine lc_filter (strLn h) (fun c => ?_) fun c => rfl
  obtain ⟨l1, l2, l3, l4⟩ := le_lit (c := c) (s := s)
  simp only [y_test, y_not, y_or, y_chain, y_c, y_rd, ZR.bind_ok, List.getElem?_cons_zero, List.getElem?_cons_succ, List.set_cons_zero, List.set_cons_succ, l1, l2, l3, l4]
  by_cases q1 : 97 ≤ c <;> by_cases q2 : c ≤ 122 <;> by_cases q3 : 48 ≤ c <;> by_cases q4 : c ≤ 57 <;> simp [q1, q2, q3, q4, l1, l2, l3, l4, y_truth, y_ofO, lowB, figB]
theorem ltest_ok {c : ZF} (hn : LookS c numB) : LookS (pRun 2 1 (P__law_is_test c)) testB := by
  intro v s h
  refine pok_eq (prun_ok rfl ?_)
  unfold P__law_is_test
  cases v with
  | fn x => exact h.no_fn.elim
  | obj x => exact h.no_obj.elim
  | dct x l => exact h.no_dct.elim
  | non => exact ⟨.rt _, s, rfl, rfl, rfl⟩
  | tup l =>
    match l with
    | [x, y, z] =>
      have hm := lkT h
      have hx := hm x (by simp)
      have hy := hm y (by simp)
      have hz := hm z (by simp)
      walk_at "st"
      walk_at "st"
      rw [hn x s hx]
      cases x with
      | int i =>
        walk_at "ex"
        by_cases hi : i < 0
        · simp only [numB, Bool.not_true, decide_eq_true hi]
          walk_at "ex"
          walk_at "st"
          simp only [testB, columnB]
          have : ¬ 0 ≤ i := by omega
          simp [this]
        · simp only [numB, Bool.not_true, decide_eq_false hi]
          walk_at "ex"
          have hi' : 0 ≤ i := by omega
          cases y with
          | fn x => exact hy.no_fn.elim
          | obj x => exact hy.no_obj.elim
          | dct x l => exact hy.no_dct.elim
          | str t =>
            walk_at "st"
            rw [notin_tests hy]
            walk_at "ex"
            by_cases ht : t ∈ tests
            · simp only [decide_eq_true ht]
              walk_at "ex"
              cases z with
              | fn x => exact hz.no_fn.elim
              | obj x => exact hz.no_obj.elim
              | dct x l => exact hz.no_dct.elim
              | str u =>
                walk_at "st"
                walk_at "st"
                rw [len_strP (strLn hz)]
                walk_at "ex"
                by_cases h2 : (u.length : Int) ≤ 16
                · simp only [decide_eq_true h2]
                  walk_at "ex"
                  rw [lshort hz rfl]
                  walk_at "ex"
                  rw [eq_nilL (filt_good hz.wstr.1) (by decide) (by decide)]
                  walk_at "ex"
                  rw [filt_nil]
                  have h3 : u.length ≤ 16 := by omega
                  simp [testB, columnB, hi', worthB, numB, shortB, h3, inTests, ht]
                · simp only [decide_eq_false h2]
                  walk_at "ex"
                  have h3 : ¬ u.length ≤ 16 := by omega
                  simp [testB, columnB, hi', worthB, numB, shortB, h3]
              | _ =>
                walk_at "st"
                walk_at "st"
                rw [hn _ s hz]
                walk_at "ex"
                simp [testB, columnB, hi', worthB, numB, shortB, inTests, ht]
            · simp only [decide_eq_false ht]
              walk_at "ex"
              walk_at "st"
              simp [testB, inTests, ht]
          | _ =>
            walk_at "st"
            walk_at "st"
            simp [testB, inTests]
      | _ =>
        simp only [numB]
        walk_at "ex"
        walk_at "st"
        simp [testB, columnB]
    | [] => exact ⟨.rt _, s, rfl, rfl, rfl⟩
    | [_] => exact ⟨.rt _, s, rfl, rfl, rfl⟩
    | [_, _] => exact ⟨.rt _, s, rfl, rfl, rfl⟩
    | a :: b :: c :: d :: l =>
      walk_at "st"
      walk_at "st"
      have e : (((l.length + 1 + 1 + 1 + 1 : Nat) : Int) = 3) = False := by simp; omega
      simp only [e, decide_false, Bool.not_false]
      walk_at "ex"
      exact ⟨.rt _, s, rfl, rfl, rfl⟩
  | _ => exact ⟨.rt _, s, rfl, rfl, rfl⟩
theorem ask_word {w : Str} {y : Pv} {r : List Pv} (h : wordB y = false) : askB (.tup (.str w :: y :: r)) = false := by
  unfold askB
  simp only
  repeat' split
  all_goals first | rfl | (simp_all)
theorem dct_all {s : PSt} {w : Str} : w = "all" ∨ w = "count" ∨ w = "total" → ∃ n : Int, (n = if w = "count" then 5 else 6) ∧ ∀ L : PLoc, L[1]? = some (some (.val (.str w))) → pBin pIx (pDict [((pC (.str "all")), (pC (.int 6))), ((pC (.str "count")), (pC (.int 5))), ((pC (.str "total")), (pC (.int 6)))]) (pRd 1) L s = .ok (.int n) s := by
  intro h
  have ev : ∀ L : PLoc, pDict [((pC (.str "all")), (pC (.int 6))), ((pC (.str "count")), (pC (.int 5))), ((pC (.str "total")), (pC (.int 6)))] L s = .ok (.dct [.inr "all", .inr "count", .inr "total"] [.int 6, .int 5, .int 6]) s := fun L => by kernel_rfl
  rcases h with rfl | rfl | rfl
  · exact ⟨6, by rw [if_neg (by decide +kernel)], fun L hL => by simp only [y_bin, ev, ZR.bind_ok, y_rd, hL]; kernel_rfl⟩
  · exact ⟨5, by rw [if_pos rfl], fun L hL => by simp only [y_bin, ev, ZR.bind_ok, y_rd, hL]; kernel_rfl⟩
  · exact ⟨6, by rw [if_neg (by decide +kernel)], fun L hL => by simp only [y_bin, ev, ZR.bind_ok, y_rd, hL]; kernel_rfl⟩
end Rf.K37
namespace Rf.K37
open PySem PySem.Spec L2
local macro_rules | `(tactic| walk_at "ex") => `(tactic| try simp (decide := true) only [y_ret, y_retN, y_asg, y_own, y_if, y_drop, y_nilS, y_cont, y_brk, y_frz, y_for, y_var, y_rd, y_c, y_un, y_bin, y_test, y_and, y_or, y_not, y_ifE, y_chain, y_nil, y_cons, y_tup, y_lst, y_obj, y_b, y_bk, y_meth, y_qNone, y_qSome, y_slice, y_call, y_callX, y_gin, y_gix, y_qVar, y_tlNil, y_tlCons, y_qTup, y_qTupT, y_seqV, y_range1, y_lc, y_yes, y_par, y_par3, y_app, y_setObj, y_rg1, pWipe, frz, frz1,
  ZR.bind_ok, pok_bind, pok_ok, pGather, pPick, optAll, List.map_cons, List.map_nil, List.getElem?_cons_zero, List.getElem?_cons_succ, List.set_cons_zero, List.set_cons_succ, Option.map_some, List.length_cons, List.length_nil,
  List.nil_append, List.cons_append, List.replicate, Nat.reduceAdd, Nat.reduceSub, and_self, if_true, if_false, true_and, and_true, Nat.reduceEqDiff, y_truth, y_ofO, reduceCtorEq, decide_true, decide_false, Bool.false_eq_true, Bool.not_true, Bool.not_false, or_self, or_true, true_or, or_false, false_or,
  add_int, sub_int, neg_int, lt_int, le_int, gt_int, ge_int, eq_int, ne_int, eq_str, ne_str, is_non, isNot_non, isi_nonP, isi_blP, isi_intP, isi_strP, isi_tupP, isi_lstP, len_tupP, len_lstP, ix0, ix1, ix2, sizeLine_eq, Nat.reduceLeDiff, Pv.isNon, pSetO, Option.map_some, Pv.isLst])
local macro_rules | `(tactic| walk_at "st") => `(tactic| (refine y_seq.mpr ?_; walk_at "ex"))
theorem due_ok {cn ct cm cw : ZF} (hn : LookS cn numB) (ht : LookS ct testB) (hb : LookS cm boundB) (hw : LookS cw wordB) : LookS (pRun 3 1 (P__law_due cn ct cm cw)) askB := by
  intro v s h
  refine pok_eq (prun_ok rfl ?_)
  unfold P__law_due
  cases v with
  | fn x => exact h.no_fn.elim
  | obj x => exact h.no_obj.elim
  | dct x l => exact h.no_dct.elim
  | tup l =>
    match l with
    | [] => exact ⟨.rt _, s, rfl, rfl, rfl⟩
    | [x] => exact ⟨.rt _, s, rfl, by cases x <;> simp [askB], rfl⟩
    | [x, y] => 
      refine ⟨.rt _, s, rfl, ?_, rfl⟩
      cases x with
      | str w => 
        congr 1
        unfold askB
        simp only
        repeat' split
        all_goals first | rfl | (rename_i h1; cases h1) | simp_all
      | _ => rfl
    | x :: y :: z :: r =>
      have hm := lkT h
      have hx := hm x (by simp)
      have hy := hm y (by simp)
      have hz := hm z (by simp)
      have hr : ∀ v ∈ r, Lk v := fun v hv => hm v (by simp [hv])
      walk_at "st"
      have e0 : (((r.length + 1 + 1 + 1 : Nat) : Int) < 3) = False := by simp; omega
      simp only [e0, decide_false]
      walk_at "ex"
      cases x with
      | fn x => exact hx.no_fn.elim
      | obj x => exact hx.no_obj.elim
      | dct x l => exact hx.no_dct.elim
      | str w =>
        walk_at "ex"
        rw [hw y s hy]
        cases ew : wordB y
        · walk_at "ex"
          walk_at "st"
          rw [ask_word ew]
        · walk_at "ex"
          walk_at "st"
          walk_at "st"
          by_cases w1 : w = "row"
          · subst w1
            simp only [decide_true]
            walk_at "ex"
            walk_at "st"
            rw [q_row]
            match r with
            | [d] =>
              have hd := hr d (by simp)
              walk_at "ex"
              rw [hn z s hz]
              walk_at "ex"
              simp only [ix3, ZR.bind_ok, pok_ok]
              walk_at "ex"
              rw [hb d s hd]
              cases e1 : numB z <;> (walk_at "ex"; simp [ew, e1])
            | [] => walk_at "ex"
            | a :: b :: r' =>
              have e1 : (((r'.length + 1 + 1 + 1 + 1 + 1 : Nat) : Int) = 4) = False := by simp; omega
              simp only [List.length_cons, e1, decide_false]
              walk_at "ex"
          · simp only [decide_eq_false w1]
            walk_at "ex"
            walk_at "st"
            by_cases w2 : w = "past"
            · subst w2
              simp only [decide_true]
              walk_at "ex"
              walk_at "st"
              rw [q_past]
              match r with
              | [] =>
                walk_at "ex"
                rw [hn z s hz]
                walk_at "ex"
                simp [ew]
              | a :: r' =>
                have e1 : (((r'.length + 1 + 1 + 1 + 1 : Nat) : Int) = 3) = False := by simp; omega
                simp only [List.length_cons, e1, decide_false]
                walk_at "ex"
            · simp only [decide_eq_false w2]
              walk_at "ex"
              walk_at "st"
              by_cases w3 : w = "pair"
              · subst w3
                simp only [decide_true]
                walk_at "ex"
                walk_at "st"
                rw [q_pair]
                match r with
                | [d] =>
                  have hd := hr d (by simp)
                  walk_at "ex"
                  rw [hw z s hz]
                  walk_at "ex"
                  simp only [ix3, ZR.bind_ok, pok_ok]
                  walk_at "ex"
                  rw [hb d s hd]
                  cases e1 : wordB z <;> (walk_at "ex"; simp [ew, e1])
                | [] => walk_at "ex"
                | a :: b :: r' =>
                  have e1 : (((r'.length + 1 + 1 + 1 + 1 + 1 : Nat) : Int) = 4) = False := by simp; omega
                  simp only [List.length_cons, e1, decide_false]
                  walk_at "ex"
              · simp only [decide_eq_false w3]
                walk_at "ex"
                walk_at "st"
                have ni : pNotIn (.str w) (.tup [.str (Str.ofString "all"), .str (Str.ofString "count"), .str (Str.ofString "total")]) s = .ok (.bl (!decide (w ∈ [Str.ofString "all", Str.ofString "count", Str.ofString "total"]))) s := notIn_strs (l := [Str.ofString "all", Str.ofString "count", Str.ofString "total"]) hx.wstr.1 (by decide +kernel)
                rw [ni]
                walk_at "ex"
                by_cases w4 : w ∈ [Str.ofString "all", Str.ofString "count", Str.ofString "total"]
                · simp only [decide_eq_true w4]
                  walk_at "ex"
                  simp only [List.mem_cons, List.not_mem_nil, or_false] at w4
                  have ev : ∀ L : PLoc, pDict [((pC (.str (Str.ofString "all"))), (pC (.int 6))), ((pC (.str (Str.ofString "count"))), (pC (.int 5))), ((pC (.str (Str.ofString "total"))), (pC (.int 6)))] L s = .ok (.dct [.inr (Str.ofString "all"), .inr (Str.ofString "count"), .inr (Str.ofString "total")] [.int 6, .int 5, .int 6]) s := fun L => by kernel_rfl
                  have i_all : pIx (.dct [.inr (Str.ofString "all"), .inr (Str.ofString "count"), .inr (Str.ofString "total")] [.int 6, .int 5, .int 6]) (.str (Str.ofString "all")) s = .ok (.int 6) s := by kernel_rfl
                  have i_count : pIx (.dct [.inr (Str.ofString "all"), .inr (Str.ofString "count"), .inr (Str.ofString "total")] [.int 6, .int 5, .int 6]) (.str (Str.ofString "count")) s = .ok (.int 5) s := by kernel_rfl
                  have i_total : pIx (.dct [.inr (Str.ofString "all"), .inr (Str.ofString "count"), .inr (Str.ofString "total")] [.int 6, .int 5, .int 6]) (.str (Str.ofString "total")) s = .ok (.int 6) s := by kernel_rfl
                  rcases w4 with rfl | rfl | rfl
                  · rw [ev, pok_ok, i_all, pok_ok]
                    walk_at "ex"
                    by_cases hl : r.length = 3
                    · match r, hl with
                      | [d, e, f], _ =>
                        have hd := hr d (by simp)
                        have he := hr f (by simp)
                        simp only [List.length_cons, List.length_nil]
                        walk_at "ex"
                        walk_at "st"
                        rw [hb z s hz]
                        walk_at "ex"
                        simp only [ix3, ZR.bind_ok, pok_ok]
                        walk_at "ex"
                        rw [hb d s hd]
                        walk_at "ex"
                        simp only [ixm6, ZR.bind_ok, pok_ok]
                        walk_at "ex"
                        rw [hb f s he]
                        cases b1 : boundB z
                        · walk_at "ex"
                          walk_at "st"
                          rw [q_all]; simp [b1]
                        · cases b2 : boundB d
                          · walk_at "ex"
                            walk_at "st"
                            rw [q_all]; simp [b2]
                          · cases b3 : boundB f
                            · walk_at "ex"
                              walk_at "st"
                              rw [q_all]; simp [b3]
                            · walk_at "ex"
                              have hg := hr e (by simp)
                              walk_at "st"
                              walk_at "st"
                              simp only [ix4, ZR.bind_ok, pok_ok]
                              walk_at "ex"
                              rw [ht e s hg]
                              walk_at "ex"
                              rw [q_all]; simp [ew, b1, b2, b3]
                    · have e1 : (((r.length + 1 + 1 + 1 : Nat) : Int) = 6) = False := by simp; omega
                      simp only [e1, decide_false]
                      walk_at "ex"
                      walk_at "st"
                      rw [q_all]
                      split
                      · rename_i q; simp only [List.cons.injEq] at q; rw [q.2.2] at hl; simp at hl
                      · rfl
                  · rw [ev, pok_ok, i_count, pok_ok]
                    walk_at "ex"
                    by_cases hl : r.length = 2
                    · match r, hl with
                      | [d, e], _ =>
                        have hd := hr d (by simp)
                        have he := hr e (by simp)
                        simp only [List.length_cons, List.length_nil]
                        walk_at "ex"
                        walk_at "st"
                        rw [hb z s hz]
                        walk_at "ex"
                        simp only [ix3, ZR.bind_ok, pok_ok]
                        walk_at "ex"
                        rw [hb d s hd]
                        walk_at "ex"
                        simp only [ixm5, ZR.bind_ok, pok_ok]
                        walk_at "ex"
                        rw [hb e s he]
                        cases b1 : boundB z
                        · walk_at "ex"
                          walk_at "st"
                          rw [q_count]; simp [b1]
                        · cases b2 : boundB d
                          · walk_at "ex"
                            walk_at "st"
                            rw [q_count]; simp [b2]
                          · cases b3 : boundB e
                            · walk_at "ex"
                              walk_at "st"
                              rw [q_count]; simp [b3]
                            · walk_at "ex"
                              walk_at "st"
                              try simp only [show decide (Str.ofString "count" = Str.ofString "all") = false from by decide +kernel]
                              walk_at "ex"
                              walk_at "st"
                              rw [q_count]; simp [ew, b1, b2, b3]
                    · have e1 : (((r.length + 1 + 1 + 1 : Nat) : Int) = 5) = False := by simp; omega
                      simp only [e1, decide_false]
                      walk_at "ex"
                      walk_at "st"
                      rw [q_count]
                      split
                      · rename_i q; simp only [List.cons.injEq] at q; rw [q.2.2] at hl; simp at hl
                      · rfl
                  · rw [ev, pok_ok, i_total, pok_ok]
                    walk_at "ex"
                    by_cases hl : r.length = 3
                    · match r, hl with
                      | [d, e, f], _ =>
                        have hd := hr d (by simp)
                        have he := hr f (by simp)
                        simp only [List.length_cons, List.length_nil]
                        walk_at "ex"
                        walk_at "st"
                        rw [hb z s hz]
                        walk_at "ex"
                        simp only [ix3, ZR.bind_ok, pok_ok]
                        walk_at "ex"
                        rw [hb d s hd]
                        walk_at "ex"
                        simp only [ixm6, ZR.bind_ok, pok_ok]
                        walk_at "ex"
                        rw [hb f s he]
                        cases b1 : boundB z
                        · walk_at "ex"
                          walk_at "st"
                          rw [q_total]; simp [b1]
                        · cases b2 : boundB d
                          · walk_at "ex"
                            walk_at "st"
                            rw [q_total]; simp [b2]
                          · cases b3 : boundB f
                            · walk_at "ex"
                              walk_at "st"
                              rw [q_total]; simp [b3]
                            · walk_at "ex"
                              have hg := hr e (by simp)
                              walk_at "st"
                              try simp only [show decide (Str.ofString "total" = Str.ofString "all") = false from by decide +kernel]
                              walk_at "ex"
                              walk_at "st"
                              try simp only [show decide (Str.ofString "total" = Str.ofString "count") = false from by decide +kernel]
                              walk_at "ex"
                              simp only [ix4, ZR.bind_ok, pok_ok]
                              walk_at "ex"
                              rw [hn e s hg]
                              rw [q_total]
                              cases e <;> (simp only [numB]; walk_at "ex"; simp [ew, b1, b2, b3, columnB])
                    · have e1 : (((r.length + 1 + 1 + 1 : Nat) : Int) = 6) = False := by simp; omega
                      simp only [e1, decide_false]
                      walk_at "ex"
                      walk_at "st"
                      rw [q_total]
                      split
                      · rename_i q; simp only [List.cons.injEq] at q; rw [q.2.2] at hl; simp at hl
                      · rfl
                · simp only [decide_eq_false w4]
                  walk_at "ex"
                  walk_at "st"
                  simp only [List.mem_cons, List.not_mem_nil, or_false, not_or] at w4
                  unfold askB
                  simp only
                  rw [if_neg w1, if_neg w2, if_neg w4.1, if_neg w4.2.1, if_neg w4.2.2, if_neg w3]
      | _ => walk_at "ex"; exact ⟨.rt _, s, rfl, rfl, rfl⟩
  | _ => exact ⟨.rt _, s, rfl, rfl, rfl⟩
end Rf.K37
namespace Rf.K37
open PySem PySem.Spec L2
local macro_rules | `(tactic| walk_at "ex") => `(tactic| try simp (decide := true) only [y_ret, y_retN, y_asg, y_own, y_if, y_drop, y_nilS, y_cont, y_brk, y_frz, y_for, y_var, y_rd, y_c, y_un, y_bin, y_test, y_and, y_or, y_not, y_ifE, y_chain, y_nil, y_cons, y_tup, y_lst, y_obj, y_b, y_bk, y_meth, y_qNone, y_qSome, y_slice, y_call, y_callX, y_gin, y_gix, y_qVar, y_tlNil, y_tlCons, y_qTup, y_qTupT, y_seqV, y_range1, y_lc, y_yes, y_par, y_par3, y_app, y_setObj, y_rg1, pWipe, frz, frz1,
  ZR.bind_ok, pok_bind, pok_ok, pGather, pPick, optAll, List.map_cons, List.map_nil, List.getElem?_cons_zero, List.getElem?_cons_succ, List.set_cons_zero, List.set_cons_succ, Option.map_some, List.length_cons, List.length_nil,
  List.nil_append, List.cons_append, List.replicate, Nat.reduceAdd, Nat.reduceSub, and_self, if_true, if_false, true_and, and_true, Nat.reduceEqDiff, y_truth, y_ofO, reduceCtorEq, decide_true, decide_false, Bool.false_eq_true, Bool.not_true, Bool.not_false, or_self, or_true, true_or, or_false, false_or,
  add_int, sub_int, neg_int, lt_int, le_int, gt_int, ge_int, eq_int, ne_int, eq_str, ne_str, is_non, isNot_non, isi_nonP, isi_blP, isi_intP, isi_strP, isi_tupP, isi_lstP, len_tupP, len_lstP, ix0, ix1, ix2, sizeLine_eq, Nat.reduceLeDiff, Pv.isNon, pSetO, Option.map_some, Pv.isLst])
local macro_rules | `(tactic| walk_at "st") => `(tactic| (refine y_seq.mpr ?_; walk_at "ex"))
/-! ### what is drawn -/
def limits : List Pv := [.non, .int (-3), .int 1, .int 2, .int 12, .non]
def LimS (f : ZF) : Prop := ∀ (zs : List Int) (k : Nat) (s : PSt), Fd zs k s → k < 900000 → POk (f [.obj 1] s) fun v s' => v ∈ limits ∧ Fd zs (k + 1) s'
theorem limit_ok {c : ZF} (hd : DrawS c) : LimS (pRun 1 1 (P__law_limit c)) := by
  intro zs k s h hk
  refine prun_ok rfl ?_
  unfold P__law_limit
  walk_at "st"
  refine POk.mono (hd zs k s 6 h (by omega) (by decide) (by decide)) ?_
  rintro _ s1 ⟨i, rfl, i0, i1, h1⟩
  obtain ⟨v, e, hv, _⟩ := atI_in (l := limits) i0 i1
  walk_at "ex"
  rw [show pIx (.lst [Pv.non, Pv.int (-3), Pv.int 1, Pv.int 2, Pv.int 12, Pv.non]) (.int i) s1 = .ok v s1 from ixLst e]
  walk_at "ex"
  exact ⟨hv, h1⟩
/-- a small bound -/
def SmB (v : Pv) : Prop := v = .non ∨ ∃ i : Int, v = .int i ∧ i.natAbs ≤ 12
def AsS (f : ZF) : Prop := ∀ (zs : List Int) (k : Nat) (s : PSt), Fd zs k s → k < 900000 → POk (f [.obj 1, .int 9] s) fun v s' => SmB v ∧ Fd zs (k + 2) s'
theorem as_ok {c : ZF} (hd : DrawS c) : AsS (pRun 2 2 (P__law_as c)) := by
  intro zs k s h hk
  refine prun_ok rfl ?_
  unfold P__law_as
  walk_at "st"
  refine POk.mono (hd zs k s 11 h (by omega) (by decide) (by decide)) ?_
  rintro _ s1 ⟨j, rfl, j0, j1, h1⟩
  walk_at "ex"
  refine POk.mono (hd zs (k + 1) s1 6 h1 (by omega) (by decide) (by decide)) ?_
  rintro _ s2 ⟨i, rfl, i0, i1, h2⟩
  obtain ⟨v, e, hv, _⟩ := atI_in (l := [Pv.non, .int j, .int 9, .non, .int (-1), .int (-7)]) i0 i1
  walk_at "ex"
  rw [ixLst e]
  walk_at "ex"
  refine ⟨?_, h2⟩
  simp only [List.mem_cons, List.not_mem_nil, or_false] at hv
  rcases hv with rfl | rfl | rfl | rfl | rfl | rfl
  · exact .inl rfl
  · exact .inr ⟨j, rfl, by omega⟩
  · exact .inr ⟨9, rfl, by decide⟩
  · exact .inl rfl
  · exact .inr ⟨-1, rfl, by decide⟩
  · exact .inr ⟨-7, rfl, by decide⟩
theorem lim_smb {v : Pv} (h : v ∈ limits) : SmB v := by
  simp only [limits, List.mem_cons, List.not_mem_nil, or_false] at h
  rcases h with rfl | rfl | rfl | rfl | rfl | rfl
  · exact .inl rfl
  · exact .inr ⟨_, rfl, by decide⟩
  · exact .inr ⟨_, rfl, by decide⟩
  · exact .inr ⟨_, rfl, by decide⟩
  · exact .inr ⟨_, rfl, by decide⟩
  · exact .inl rfl
theorem SmB.th {v : Pv} {m n : Nat} (h : SmB v) (hm : 12 ≤ m := by decide) : Th m n 4 v := by
  rcases h with rfl | ⟨i, rfl, hi⟩
  · exact Th.non
  · exact Th.int (by omega) (by omega)
def TestS (f : ZF) : Prop := ∀ (zs : List Int) (k : Nat) (s : PSt), Fd zs k s → k < 900000 → POk (f [.obj 1] s) fun v s' => Th 12 1 30 v ∧ Fd zs (k + 5) s'
theorem ltst_ok {c : ZF} (hd : DrawS c) : TestS (pRun 2 1 (P__law_test c)) := by
  intro zs k s h hk
  refine prun_ok rfl ?_
  unfold P__law_test
  walk_at "st"
  refine POk.mono (hd zs k s 2 h (by omega) (by decide) (by decide)) ?_
  rintro _ s1 ⟨j, rfl, j0, j1, h1⟩
  walk_at "ex"
  by_cases hj : j = 0
  · simp only [decide_eq_true hj]
    walk_at "ex"
    walk_at "st"
    exact ⟨Th.non, h1.mono (by omega)⟩
  · simp only [decide_eq_false hj]
    walk_at "ex"
    walk_at "st"
    refine POk.mono (hd zs (k + 1) s1 9 h1 (by omega) (by decide) (by decide)) ?_
    rintro _ s2 ⟨a, rfl, a0, a1, h2⟩
    walk_at "ex"
    refine POk.mono (hd zs (k + 2) s2 4 h2 (by omega) (by decide) (by decide)) ?_
    rintro _ s3 ⟨i, rfl, i0, i1, h3⟩
    obtain ⟨v, e, hv, _⟩ := atI_in (l := [Pv.int (a - 3), .str (Str.ofString "b7"), .str (Str.ofString "a"), .str (Str.ofString "")]) i0 i1
    walk_at "ex"
    rw [ixLst e]
    walk_at "ex"
    have tv : Th 12 0 5 v := by
      simp only [List.mem_cons, List.not_mem_nil, or_false] at hv
      rcases hv with rfl | rfl | rfl | rfl
      · exact Th.int (by omega) (by omega)
      · exact Th.cst (by decide +kernel)
      · exact Th.cst (by decide +kernel)
      · exact Th.cst (by decide +kernel)
    walk_at "st"
    refine POk.mono (hd zs (k + 3) s3 4 h3 (by omega) (by decide) (by decide)) ?_
    rintro _ s4 ⟨b, rfl, b0, b1, h4⟩
    walk_at "ex"
    refine POk.mono (hd zs (k + 4) s4 3 h4 (by omega) (by decide) (by decide)) ?_
    rintro _ s5 ⟨q, rfl, q0, q1, h5⟩
    obtain ⟨u, e2, hu, _⟩ := atI_in (l := [Pv.str (Str.ofString "is"), .str (Str.ofString "under"), .str (Str.ofString "over")]) q0 q1
    walk_at "ex"
    rw [ixLst e2]
    walk_at "ex"
    have tu : Th 12 0 5 u := by
      simp only [List.mem_cons, List.not_mem_nil, or_false] at hu
      rcases hu with rfl | rfl | rfl
      · exact Th.cst (by decide +kernel)
      · exact Th.cst (by decide +kernel)
      · exact Th.cst (by decide +kernel)
    have tb : Th 12 0 5 (.int b) := Th.int (by omega) (by omega)
    exact ⟨(Th.tup (ThL.cons tb (ThL.cons tu (ThL.cons tv ThL.nil)))).mono (Nat.le_refl _) (Nat.le_refl _) (by decide), h5⟩
end Rf.K37
namespace Rf.K37
open PySem PySem.Spec L2
local macro_rules | `(tactic| walk_at "ex") => `(tactic| try simp (decide := true) only [y_ret, y_retN, y_asg, y_own, y_if, y_drop, y_nilS, y_cont, y_brk, y_frz, y_for, y_var, y_rd, y_c, y_un, y_bin, y_test, y_and, y_or, y_not, y_ifE, y_chain, y_nil, y_cons, y_tup, y_lst, y_obj, y_b, y_bk, y_meth, y_qNone, y_qSome, y_slice, y_call, y_callX, y_gin, y_gix, y_qVar, y_tlNil, y_tlCons, y_qTup, y_qTupT, y_seqV, y_range1, y_lc, y_yes, y_par, y_par3, y_app, y_setObj, y_rg1, pWipe, frz, frz1,
  ZR.bind_ok, pok_bind, pok_ok, pGather, pPick, optAll, List.map_cons, List.map_nil, List.getElem?_cons_zero, List.getElem?_cons_succ, List.set_cons_zero, List.set_cons_succ, Option.map_some, List.length_cons, List.length_nil,
  List.nil_append, List.cons_append, List.replicate, Nat.reduceAdd, Nat.reduceSub, and_self, if_true, if_false, true_and, and_true, Nat.reduceEqDiff, y_truth, y_ofO, reduceCtorEq, decide_true, decide_false, Bool.false_eq_true, Bool.not_true, Bool.not_false, or_self, or_true, true_or, or_false, false_or,
  add_int, sub_int, neg_int, lt_int, le_int, gt_int, ge_int, eq_int, ne_int, eq_str, ne_str, is_non, isNot_non, isi_nonP, isi_blP, isi_intP, isi_strP, isi_tupP, isi_lstP, len_tupP, len_lstP, ix0, ix1, ix2, sizeLine_eq, Nat.reduceLeDiff, Pv.isNon, pSetO, Option.map_some, Pv.isLst])
local macro_rules | `(tactic| walk_at "st") => `(tactic| (refine y_seq.mpr ?_; walk_at "ex"))
/-- asks as they are drawn -/
inductive AskT : Pv → Prop
  | row (a b c : Pv) : AskT (.tup [.str (Str.ofString "row"), a, b, c])
  | past (a b : Pv) : AskT (.tup [.str (Str.ofString "past"), a, b])
  | all (a b c d e : Pv) : AskT (.tup [.str (Str.ofString "all"), a, b, c, d, e])
  | count (a b c d : Pv) : AskT (.tup [.str (Str.ofString "count"), a, b, c, d])
  | total (a b c d e : Pv) : AskT (.tup [.str (Str.ofString "total"), a, b, c, d, e])
  | pair (a b c : Pv) : AskT (.tup [.str (Str.ofString "pair"), a, b, c])
abbrev BB : Nat := 10 ^ 45
def AskS (f : ZF) : Prop := ∀ (zs : List Int) (k : Nat) (s : PSt), Fd zs k s → k < 800000 → POk (f [.obj 1, .int 9] s) fun v s' => AskT v ∧ Th BB 2 100 v ∧ Fd zs (k + 20) s'
theorem pick_str {zs : List Int} {k : Nat} {s : PSt} {l : List Pv} {i : Int} (i0 : 0 ≤ i) (i1 : i < l.length) (hl : (l.all fun v => thB 12 0 10 v) = true) : ∃ v, pIx (.lst l) (.int i) s = .ok v s ∧ Th 12 0 10 v := by
  obtain ⟨v, e, hv, _⟩ := atI_in (l := l) i0 i1
  exact ⟨v, ixLst e, Th.cst (List.all_eq_true.mp hl v hv)⟩
theorem laskS {cd cl ct ca : ZF} (hd : DrawS cd) (hl : LimS cl) (ht : TestS ct) (ha : AsS ca) : AskS (pRun 6 2 (P__law_ask cd cl ct ca)) := by
  intro zs k s h hk
  refine prun_ok rfl ?_
  unfold P__law_ask
  walk_at "st"
  refine POk.mono (hd zs k s 4 h (by omega) (by decide) (by decide)) ?_
  rintro _ s1 ⟨i, rfl, i0, i1, h1⟩
  obtain ⟨nm, e1, tn⟩ := pick_str (zs := zs) (k := k) (s := s1) (l := [Pv.str (Str.ofString "t"), .str (Str.ofString "t"), .str (Str.ofString "u"), .str (Str.ofString "none")]) i0 i1 (by decide +kernel)
  walk_at "ex"
  rw [e1]
  walk_at "ex"
  refine POk.mono (hd zs (k + 1) s1 5 h1 (by omega) (by decide) (by decide)) ?_
  rintro _ s2 ⟨j, rfl, j0, j1, h2⟩
  obtain ⟨ky, e2, tk⟩ := pick_str (zs := zs) (k := k) (s := s2) (l := [Pv.int 1, .int 2, .int 12, .int (-3), .int 9]) j0 j1 (by decide +kernel)
  walk_at "ex"
  rw [e2]
  walk_at "ex"
  walk_at "st"
  refine POk.mono (hd zs (k + 2) s2 6 h2 (by omega) (by decide) (by decide)) ?_
  rintro _ s3 ⟨w, rfl, w0, w1, h3⟩
  walk_at "ex"
  refine POk.mono (ha zs (k + 3) s3 h3 (by omega)) ?_
  rintro ea s4 ⟨te, h4⟩
  have tea : Th 12 1 10 ea := te.th.mono (Nat.le_refl _) (Nat.le_refl _) (by decide)
  have tn1 : Th 12 1 10 nm := tn.mono (Nat.le_refl _) (by decide) (Nat.le_refl _)
  have tk1 : Th 12 1 10 ky := tk.mono (Nat.le_refl _) (by decide) (Nat.le_refl _)
  have ts : ∀ z : Str, thB 12 1 10 (.str z) = true → Th 12 1 10 (.str z) := fun z q => Th.cst q
  have up : ∀ {l : List Pv} {w : Nat}, ThL 12 1 w l → w ≤ 100 → Th BB 2 100 (.tup l) := fun q hw => (Th.tup q).mono (by decide) (Nat.le_refl _) hw
  walk_at "ex"
  walk_at "st"
  by_cases c0 : w = 0
  · simp only [decide_eq_true c0]
    walk_at "ex"
    walk_at "st"
    exact ⟨.row _ _ _, up (ThL.cons (ts _ (by decide +kernel)) (ThL.cons tn1 (ThL.cons tk1 (ThL.cons tea ThL.nil)))) (by decide), h4.mono (by omega)⟩
  · simp only [decide_eq_false c0]
    walk_at "ex"
    walk_at "st"
    by_cases c1 : w = 1
    · simp only [decide_eq_true c1]
      walk_at "ex"
      walk_at "st"
      exact ⟨.past _ _, up (ThL.cons (ts _ (by decide +kernel)) (ThL.cons tn1 (ThL.cons tk1 ThL.nil))) (by decide), h4.mono (by omega)⟩
    · simp only [decide_eq_false c1]
      walk_at "ex"
      walk_at "st"
      by_cases c2 : w = 2
      · simp only [decide_eq_true c2]
        walk_at "ex"
        walk_at "st"
        refine POk.mono (hl zs _ s4 h4 (by omega)) ?_
        rintro l1 s5 ⟨m1, h5⟩
        walk_at "ex"
        refine POk.mono (hl zs _ s5 h5 (by omega)) ?_
        rintro l2 s6 ⟨m2, h6⟩
        walk_at "ex"
        refine POk.mono (ht zs _ s6 h6 (by omega)) ?_
        rintro tt s7 ⟨m3, h7⟩
        walk_at "ex"
        exact ⟨.all _ _ _ _ _, up (ThL.cons (ts _ (by decide +kernel)) (ThL.cons tn1 (ThL.cons (lim_smb m1).th (ThL.cons (lim_smb m2).th (ThL.cons m3 (ThL.cons tea ThL.nil)))))) (by decide), h7.mono (by omega)⟩
      · simp only [decide_eq_false c2]
        walk_at "ex"
        walk_at "st"
        by_cases c3 : w = 3
        · simp only [decide_eq_true c3]
          walk_at "ex"
          walk_at "st"
          refine POk.mono (hl zs _ s4 h4 (by omega)) ?_
          rintro l1 s5 ⟨m1, h5⟩
          walk_at "ex"
          refine POk.mono (hl zs _ s5 h5 (by omega)) ?_
          rintro l2 s6 ⟨m2, h6⟩
          walk_at "ex"
          exact ⟨.count _ _ _ _, up (ThL.cons (ts _ (by decide +kernel)) (ThL.cons tn1 (ThL.cons (lim_smb m1).th (ThL.cons (lim_smb m2).th (ThL.cons tea ThL.nil))))) (by decide), h6.mono (by omega)⟩
        · simp only [decide_eq_false c3]
          walk_at "ex"
          walk_at "st"
          by_cases c4 : w = 4
          · simp only [decide_eq_true c4]
            walk_at "ex"
            walk_at "st"
            refine POk.mono (hl zs _ s4 h4 (by omega)) ?_
            rintro l1 s5 ⟨m1, h5⟩
            walk_at "ex"
            refine POk.mono (hl zs _ s5 h5 (by omega)) ?_
            rintro l2 s6 ⟨m2, h6⟩
            walk_at "ex"
            refine POk.mono (hd zs _ s6 3 h6 (by omega) (by decide) (by decide)) ?_
            rintro _ s7 ⟨q, rfl, q0, q1, h7⟩
            walk_at "ex"
            have tq : Th 12 1 10 (.int q) := Th.int (by omega) (by omega)
            exact ⟨.total _ _ _ _ _, up (ThL.cons (ts _ (by decide +kernel)) (ThL.cons tn1 (ThL.cons (lim_smb m1).th (ThL.cons (lim_smb m2).th (ThL.cons tq (ThL.cons tea ThL.nil)))))) (by decide), h7.mono (by omega)⟩
          · simp only [decide_eq_false c4]
            walk_at "ex"
            walk_at "st"
            refine POk.mono (hd zs _ s4 3 h4 (by omega) (by decide) (by decide)) ?_
            rintro _ s5 ⟨q, rfl, q0, q1, h5⟩
            obtain ⟨n2, e3, t2⟩ := pick_str (zs := zs) (k := k) (s := s5) (l := [Pv.str (Str.ofString "t"), .str (Str.ofString "u"), .str (Str.ofString "none")]) q0 q1 (by decide +kernel)
            walk_at "ex"
            rw [e3]
            walk_at "ex"
            exact ⟨.pair _ _ _, up (ThL.cons (ts _ (by decide +kernel)) (ThL.cons tn1 (ThL.cons (t2.mono (Nat.le_refl _) (by decide) (Nat.le_refl _)) (ThL.cons tea ThL.nil)))) (by decide), h5.mono (by omega)⟩
end Rf.K37
namespace Rf.K37
open PySem PySem.Spec L2
local macro_rules | `(tactic| walk_at "ex") => `(tactic| try simp (decide := true) only [y_ret, y_retN, y_asg, y_own, y_if, y_drop, y_nilS, y_cont, y_brk, y_frz, y_for, y_var, y_rd, y_c, y_un, y_bin, y_test, y_and, y_or, y_not, y_ifE, y_chain, y_nil, y_cons, y_tup, y_lst, y_obj, y_b, y_bk, y_meth, y_qNone, y_qSome, y_slice, y_call, y_callX, y_gin, y_gix, y_qVar, y_tlNil, y_tlCons, y_qTup, y_qTupT, y_seqV, y_range1, y_lc, y_yes, y_par, y_par3, y_app, y_setObj, y_rg1, pWipe, frz, frz1,
  ZR.bind_ok, pok_bind, pok_ok, pGather, pPick, optAll, List.map_cons, List.map_nil, List.getElem?_cons_zero, List.getElem?_cons_succ, List.set_cons_zero, List.set_cons_succ, Option.map_some, List.length_cons, List.length_nil,
  List.nil_append, List.cons_append, List.replicate, Nat.reduceAdd, Nat.reduceSub, and_self, if_true, if_false, true_and, and_true, Nat.reduceEqDiff, y_truth, y_ofO, reduceCtorEq, decide_true, decide_false, Bool.false_eq_true, Bool.not_true, Bool.not_false, or_self, or_true, true_or, or_false, false_or,
  add_int, sub_int, neg_int, lt_int, le_int, gt_int, ge_int, eq_int, ne_int, eq_str, ne_str, is_non, isNot_non, isi_nonP, isi_blP, isi_intP, isi_strP, isi_tupP, isi_lstP, len_tupP, len_lstP, ix0, ix1, ix2, sizeLine_eq, Nat.reduceLeDiff, Pv.isNon, pSetO, Option.map_some, Pv.isLst])
local macro_rules | `(tactic| walk_at "st") => `(tactic| (refine y_seq.mpr ?_; walk_at "ex"))
def OddS (f : ZF) : Prop := ∀ (zs : List Int) (k : Nat) (s : PSt) (v : Pv) (m n w : Nat), Fd zs k s → k < 900000 → Th m n w v → 10 ^ 40 ≤ m → m ≤ 10 ^ 47 → w ≤ 100000 → POk (f [.obj 1, v] s) fun d s' => Th (m + 1) (n + 2) (5 * w + 140) d ∧ Fd zs (k + 1) s'
def base0 : List Pv := [.non, .bl true, .bl false, .str (Str.ofString ""), .lst [], .tup [], .int 0, .int 1, .int (-1), .int 2, .str (Str.ofString "t"), .str (Str.ofString "where"), .int (10 ^ Int.toNat 40), .tup [.str (Str.ofString "leaf"), .int 1], .tup [.str (Str.ofString "cut"), .tup [.int 0, .int 1]], .tup [.int 0, .int 0]]
theorem base_th {m n w : Nat} (hm : 10 ^ 40 ≤ m) : ∀ d ∈ base0, Th (m + 1) (n + 2) (5 * w + 140) d := by
  intro d hd
  have key : (base0.all fun d => thB (10 ^ 40) 2 140 d) = true := by decide +kernel
  exact (Th.cst (List.all_eq_true.mp key d hd)).mono (by omega) (by omega) (by omega)
/-- one of a list is drawn -/
theorem odd_end {c : ZF} (hd : DrawS c) {zs : List Int} {k : Nat} {s : PSt} {v : Pv} {l : List Pv} {P : Pv → Prop} (h : Fd zs k s) (hk : k < 900000) (hl : 0 < l.length) (hl2 : l.length ≤ 1000) (hp : ∀ d ∈ l, P d) :
    POk (tSeq (tRet (pBin pIx (pRd 2) (pCallV c 2 0 [.pos 0, .pos 1] (pCons (pVar 0) (pCons (pB pLen (pCons (pRd 2) pNil)) pNil)) pNil))) tNil [some (.val (.obj 1)), some (.val v), some (.val (.lst l))] s) fun o s' => ∃ d, o = .rt d ∧ P d ∧ Fd zs (k + 1) s' := by
  walk_at "st"
  refine POk.mono (hd zs k s l.length h (by omega) (by omega) (by omega)) ?_
  rintro _ s1 ⟨i, rfl, i0, i1, h1⟩
  obtain ⟨d, e, he, _⟩ := atI_in (l := l) i0 i1
  walk_at "ex"
  rw [ixLst e]
  walk_at "ex"
  exact ⟨d, rfl, hp d he, h1⟩
theorem flat_mem {l : List Pv} {d : Pv} : ∀ {n : Nat}, d ∈ (List.replicate n l).flatten → d ∈ l
  | 0, h => by simp at h
  | n + 1, h => by
    rw [List.replicate_succ, List.flatten_cons] at h
    exact (List.mem_append.mp h).elim id flat_mem
theorem odd_ok {c : ZF} (hd : DrawS c) : OddS (pRun 3 2 (P__law_odd c)) := by
  intro zs k s v m n w h hk hv hm hm2 hw
  have fin : ∀ (l : List Pv) (v : Pv), 0 < l.length → l.length ≤ 1000 → (∀ d ∈ l, Th (m + 1) (n + 2) (5 * w + 140) d) → POk (tSeq (tRet (pBin pIx (pRd 2) (pCallV c 2 0 [.pos 0, .pos 1] (pCons (pVar 0) (pCons (pB pLen (pCons (pRd 2) pNil)) pNil)) pNil))) tNil [some (.val (.obj 1)), some (.val v), some (.val (.lst l))] s) (fun o s' => match o with | .nx _ => Th (m + 1) (n + 2) (5 * w + 140) .non ∧ Fd zs (k + 1) s' | .rt d => Th (m + 1) (n + 2) (5 * w + 140) d ∧ Fd zs (k + 1) s' | _ => False) := fun l v a b q =>
    POk.mono (odd_end hd h hk a b q) fun o s' ⟨d, e, x, y⟩ => by subst e; exact ⟨x, y⟩
  refine prun_ok rfl ?_
  unfold P__law_odd
  walk_at "st"
  rw [ppow_int (by decide : CPow 10 40)]
  walk_at "ex"
  have bt := base_th (n := n) (w := w) hm
  have join : ∀ (g : List Pv) (q : Int), (∀ d ∈ g, Th (m + 1) (n + 2) (5 * w + 140) d) → g.length ≤ 5 → 0 ≤ q → q ≤ 6 → pMul (.lst g) (.int q) s = .ok (.lst (List.replicate q.toNat g).flatten) s ∧ (base0 ++ (List.replicate q.toNat g).flatten).length ≤ 1000 ∧ pAdd (.lst base0) (.lst (List.replicate q.toNat g).flatten) s = .ok (.lst (base0 ++ (List.replicate q.toNat g).flatten)) s ∧ ∀ d ∈ base0 ++ (List.replicate q.toNat g).flatten, Th (m + 1) (n + 2) (5 * w + 140) d := fun g q hg hl q0 q1 => by
    have lf : (List.replicate q.toNat g).flatten.length ≤ 30 := by
      have e : (List.replicate q.toNat g).flatten.length = q.toNat * g.length := by
        induction q.toNat with
        | zero => simp
        | succ i ih => rw [List.replicate_succ, List.flatten_cons, List.length_append, ih, Nat.succ_mul]; omega
      rw [e]
      exact Nat.le_trans (Nat.mul_le_mul (show q.toNat ≤ 6 by omega) hl) (by decide)
    have b16 : base0.length = 16 := rfl
    have ss := sizeLine_eq
    refine ⟨pmul_lst ⟨q0, by omega, ?_⟩, by rw [List.length_append]; omega, padd_lst (by omega), fun d hd => (List.mem_append.mp hd).elim (bt d) fun z => hg d (flat_mem z)⟩
    exact Nat.le_trans (Nat.mul_le_mul hl (show q.toNat ≤ 6 by omega)) (by omega)
  have b0 : [Pv.non, Pv.bl true, Pv.bl false, Pv.str (Str.ofString ""), Pv.lst [], Pv.tup [], Pv.int 0, Pv.int 1, Pv.int (-1), Pv.int 2, Pv.str (Str.ofString "t"), Pv.str (Str.ofString "where"), Pv.int (10 ^ Int.toNat 40), Pv.tup [Pv.str (Str.ofString "leaf"), Pv.int 1], Pv.tup [Pv.str (Str.ofString "cut"), Pv.tup [Pv.int 0, Pv.int 1]], Pv.tup [Pv.int 0, Pv.int 0]] = base0 := rfl
  rw [b0]
  have nn : 0 < base0.length := by decide
  cases v with
  | fn x => exact hv.no_fn.elim
  | obj x => exact hv.no_obj.elim
  | dct x l => exact hv.no_dct.elim
  | non =>
    walk_at "st"
    walk_at "st"
    walk_at "st"
    exact fin base0 _ nn (by decide) bt
  | lst l =>
    walk_at "st"
    walk_at "st"
    walk_at "st"
    exact fin base0 _ nn (by decide) bt
  | int i =>
    have hi := hv.wint
    have hg : ∀ d ∈ [Pv.int (i + 1), Pv.int (i - 1), Pv.str (Str.ofString (toString i))], Th (m + 1) (n + 2) (5 * w + 140) d := by
      intro d hd
      have wi : i.natAbs < 2 ^ w := by
        have := hv.w
        simp only [Pv.wg] at this
        split at this
        · rename_i q; subst q; exact Nat.pos_of_ne_zero (by simp)
        · exact (Nat.log2_lt (by omega)).mp (by omega)
      have w2 : 2 ^ (5 * w + 140) = 2 ^ w * 2 ^ (4 * w + 140) := by rw [← Nat.pow_add]; congr 1; omega
      have w3 : 2 ≤ 2 ^ (4 * w + 140) := Nat.le_trans (by decide : 2 ≤ 2 ^ 1) (Nat.pow_le_pow_right (by decide) (by omega))
      have w4 : 2 ^ w * 2 ≤ 2 ^ (5 * w + 140) := by rw [w2]; exact Nat.mul_le_mul_left _ w3
      have w5 : 1 ≤ 2 ^ w := Nat.one_le_pow _ _ (by decide)
      simp only [List.mem_cons, List.not_mem_nil, or_false] at hd
      rcases hd with rfl | rfl | rfl
      · exact Th.int (by omega) (by omega)
      · exact Th.int (by omega) (by omega)
      · exact (ztoStr hv).mono (by omega) (by omega) (by omega)
    obtain ⟨j1, j2, j3, j4⟩ := join _ 6 hg (by simp) (by decide) (by decide)
    have st : pStr [.int i] s = .ok (.str (Str.ofString (toString i))) s := by
      refine if_pos ?_
      by_cases hz : i.natAbs = 0
      · rw [hz]; decide
      · have : i.natAbs < 2 ^ 200 := Nat.lt_of_le_of_lt (Nat.le_trans hi hm2) (by decide)
        have := (Nat.log2_lt hz).mpr this
        omega
    walk_at "st"
    walk_at "st"
    rw [st]
    walk_at "ex"
    rw [j1]
    walk_at "ex"
    rw [j3]
    walk_at "ex"
    walk_at "st"
    walk_at "st"
    exact fin _ _ (by rw [List.length_append]; omega) j2 j4
  | bl b =>
    have hg : ∀ d ∈ [Pv.int ((if b = true then 1 else 0) + 1), Pv.int ((if b = true then 1 else 0) - 1), Pv.str (if b = true then Str.ofString "True" else Str.ofString "False")], Th (m + 1) (n + 2) (5 * w + 140) d := by
      intro d hd
      refine Th.mono (m := 10) (n := 0) (w := 10) ?_ (by omega) (by omega) (by omega)
      simp only [List.mem_cons, List.not_mem_nil, or_false] at hd
      cases b <;> rcases hd with rfl | rfl | rfl <;> exact Th.cst (by decide +kernel)
    obtain ⟨j1, j2, j3, j4⟩ := join _ 6 hg (by simp) (by decide) (by decide)
    walk_at "st"
    walk_at "st"
    have a1 : pAdd (.bl b) (.int 1) s = .ok (.int ((if b = true then 1 else 0) + 1)) s := rfl
    have a2 : pSub (.bl b) (.int 1) s = .ok (.int ((if b = true then 1 else 0) - 1)) s := rfl
    have a3 : pStr [.bl b] s = .ok (.str (if b = true then Str.ofString "True" else Str.ofString "False")) s := by cases b <;> rfl
    rw [a1]
    walk_at "ex"
    rw [a2]
    walk_at "ex"
    rw [a3]
    walk_at "ex"
    rw [j1]
    walk_at "ex"
    rw [j3]
    walk_at "ex"
    walk_at "st"
    walk_at "st"
    exact fin _ _ (by rw [List.length_append]; omega) j2 j4
  | str z =>
    have ha : Th m n 1 (.str (Str.ofString "a")) := Th.mono (m := 0) (n := 0) (w := 1) (Th.cst (by decide +kernel)) (by omega) (by omega) (Nat.le_refl _)
    have zl := hv.wstr.2
    have ss := sizeLine_eq
    have hg : ∀ d ∈ [Pv.str (Str.ofString "is"), Pv.str (Str.ofString "u"), Pv.str (Str.ofString "fork"), Pv.str (z ++ Str.ofString "a"), Pv.str (Txt.upper z)], Th (m + 1) (n + 2) (5 * w + 140) d := by
      intro d hd
      simp only [List.mem_cons, List.not_mem_nil, or_false] at hd
      rcases hd with rfl | rfl | rfl | rfl | rfl
      · exact Th.mono (m := 0) (n := 0) (w := 5) (Th.cst (by decide +kernel)) (by omega) (by omega) (by omega)
      · exact Th.mono (m := 0) (n := 0) (w := 5) (Th.cst (by decide +kernel)) (by omega) (by omega) (by omega)
      · exact Th.mono (m := 0) (n := 0) (w := 5) (Th.cst (by decide +kernel)) (by omega) (by omega) (by omega)
      · exact (zapp hv ha).mono (by omega) (by omega) (by omega)
      · exact (zupper (n' := n) hv).mono (by omega) (by omega) (by omega)
    obtain ⟨j1, j2, j3, j4⟩ := join _ 3 hg (by simp) (by decide) (by decide)
    have l1 : (Str.ofString "a").length = 1 := by decide +kernel
    walk_at "st"
    walk_at "st"
    walk_at "st"
    rw [padd_str (by omega)]
    walk_at "ex"
    rw [show pUpper (.str z) s = .ok (.str (Txt.upper z)) s from if_pos (by omega)]
    walk_at "ex"
    rw [j1]
    walk_at "ex"
    rw [j3]
    walk_at "ex"
    walk_at "st"
    exact fin _ _ (by rw [List.length_append]; omega) j2 j4
  | tup l =>
    cases n with
    | zero => exact hv.no_tup0.elim
    | succ n =>
    have hl := hv.unT
    have ss := sizeLine_eq
    have len := hl.len
    have cl : (cutD l (some (-1)) none).length ≤ w := (hl.cut _ _).len
    have hg : ∀ d ∈ [Pv.lst l, Pv.tup (l ++ [.non]), Pv.tup (l ++ cutD l (some (-1)) none), Pv.tup (cutD l none (some (-1))), Pv.tup l.reverse], Th (m + 1) (n + 1 + 2) (5 * w + 140) d := by
      intro d hd
      simp only [List.mem_cons, List.not_mem_nil, or_false] at hd
      rcases hd with rfl | rfl | rfl | rfl | rfl
      · exact (Th.lst hl).mono (by omega) (by omega) (by omega)
      · exact (Th.tup (hl.app (ThL.cons (Th.non (w := 1) (by decide)) ThL.nil))).mono (by omega) (by omega) (by omega)
      · exact (Th.tup (hl.app (hl.cut (some (-1)) none))).mono (by omega) (by omega) (by omega)
      · exact (Th.tup (hl.cut none (some (-1)))).mono (by omega) (by omega) (by omega)
      · exact (Th.tup hl.rev).mono (by omega) (by omega) (by omega)
    obtain ⟨j1, j2, j3, j4⟩ := join _ 3 hg (by simp) (by decide) (by decide)
    walk_at "st"
    walk_at "st"
    walk_at "st"
    walk_at "st"
    rw [show pList [.tup l] s = .ok (.lst l) s from rfl]
    walk_at "ex"
    rw [padd_tup (by simp only [List.length_cons, List.length_nil]; omega)]
    walk_at "ex"
    rw [show pSl (.tup l) (some (-1)) none s = .ok (.tup (cutD l (some (-1)) none)) s from rfl]
    walk_at "ex"
    rw [padd_tup (by omega)]
    walk_at "ex"
    rw [show pSl (.tup l) none (some (-1)) s = .ok (.tup (cutD l none (some (-1)))) s from rfl]
    walk_at "ex"
    rw [show pRev (.tup l) s = .ok (.tup l.reverse) s from rfl]
    walk_at "ex"
    rw [j1]
    walk_at "ex"
    rw [j3]
    walk_at "ex"
    exact fin _ _ (by rw [List.length_append]; omega) j2 j4
end Rf.K37
namespace Rf.K37
open PySem PySem.Spec L2
local macro_rules | `(tactic| walk_at "ex") => `(tactic| try simp (decide := true) only [y_ret, y_retN, y_asg, y_own, y_if, y_drop, y_nilS, y_cont, y_brk, y_frz, y_for, y_var, y_rd, y_c, y_un, y_bin, y_test, y_and, y_or, y_not, y_ifE, y_chain, y_nil, y_cons, y_tup, y_lst, y_obj, y_b, y_bk, y_meth, y_qNone, y_qSome, y_slice, y_call, y_callX, y_gin, y_gix, y_qVar, y_tlNil, y_tlCons, y_qTup, y_qTupT, y_seqV, y_range1, y_lc, y_yes, y_par, y_par3, y_app, y_setObj, y_rg1, pWipe, frz, frz1,
  ZR.bind_ok, pok_bind, pok_ok, pGather, pPick, optAll, List.map_cons, List.map_nil, List.getElem?_cons_zero, List.getElem?_cons_succ, List.set_cons_zero, List.set_cons_succ, Option.map_some, List.length_cons, List.length_nil,
  List.nil_append, List.cons_append, List.replicate, Nat.reduceAdd, Nat.reduceSub, and_self, if_true, if_false, true_and, and_true, Nat.reduceEqDiff, y_truth, y_ofO, reduceCtorEq, decide_true, decide_false, Bool.false_eq_true, Bool.not_true, Bool.not_false, or_self, or_true, true_or, or_false, false_or,
  add_int, sub_int, neg_int, lt_int, le_int, gt_int, ge_int, eq_int, ne_int, eq_str, ne_str, is_non, isNot_non, isi_nonP, isi_blP, isi_intP, isi_strP, isi_tupP, isi_lstP, len_tupP, len_lstP, ix0, ix1, ix2, sizeLine_eq, Nat.reduceLeDiff, Pv.isNon, pSetO, Option.map_some, Pv.isLst])
local macro_rules | `(tactic| walk_at "st") => `(tactic| (refine y_seq.mpr ?_; walk_at "ex"))
theorem cut_lo {α : Type} (l : List α) {i : Int} (h1 : 0 ≤ i) : cutD l none (some i) = l.take i.toNat := by
  have e : HT.sIx l.length l.length (some i) = min i.toNat l.length := by
    show (if i < 0 then (i + (l.length : Int)).toNat else min i.toNat l.length) = _
    rw [if_neg (by omega)]
  have e2 : HT.sIx l.length 0 none = 0 := rfl
  unfold cutD
  rw [e, e2, List.drop_zero, Nat.sub_zero]
  rcases Nat.le_total i.toNat l.length with q | q
  · rw [Nat.min_eq_left q]
  · rw [Nat.min_eq_right q, List.take_of_length_le (Nat.le_refl _), List.take_of_length_le q]
theorem cut_hi {α : Type} (l : List α) {i : Int} (h1 : 0 ≤ i) : cutD l (some i) none = l.drop i.toNat := by
  have e : HT.sIx l.length 0 (some i) = min i.toNat l.length := by
    show (if i < 0 then (i + (l.length : Int)).toNat else min i.toNat l.length) = _
    rw [if_neg (by omega)]
  have e2 : HT.sIx l.length l.length none = l.length := rfl
  unfold cutD
  rw [e, e2]
  rcases Nat.le_total i.toNat l.length with q | q
  · rw [Nat.min_eq_left q, List.take_of_length_le (by rw [List.length_drop]; omega)]
  · rw [Nat.min_eq_right q, List.drop_of_length_le (Nat.le_refl _), List.drop_of_length_le q]; simp
theorem psl_tup {l : List Pv} {lo hi : Option Int} {s : PSt} : pSl (.tup l) lo hi s = .ok (.tup (cutD l lo hi)) s := rfl
theorem prev_tup {l : List Pv} {s : PSt} : pRev (.tup l) s = .ok (.tup l.reverse) s := rfl
/-- one of a list in the midst: weights -/
theorem _root_.Rf.ThL.mid {m n w : Nat} {l : List Pv} {d : Pv} {i : Nat} (h : ThL m n w l) (e : l[i]? = some d) : ∃ w1 w2 w3, ThL m n w1 (l.take i) ∧ Th m n w2 d ∧ ThL m n w3 (l.drop (i + 1)) ∧ w1 + (w2 + 1) + w3 ≤ w := by
  have hi : i < l.length := (List.getElem?_eq_some_iff.mp e).1
  have e2 : l[i] = d := (List.getElem?_eq_some_iff.mp e).2
  have sp : l = l.take i ++ d :: l.drop (i + 1) := by
    rw [← e2, List.getElem_cons_drop, List.take_append_drop]
  have hw := h.w
  rw [sp, wgL_app] at hw
  simp only [Pv.wgL] at hw
  exact ⟨_, _, _, ⟨(h.take i).g, Nat.le_refl _⟩, ⟨(h.mem (e2 ▸ List.getElem_mem hi)).g, Nat.le_refl _⟩, ⟨(h.drop (i + 1)).g, Nat.le_refl _⟩, by omega⟩
def BentS (n : Nat) (f : ZF) : Prop := ∀ (zs : List Int) (k : Nat) (s : PSt) (v : Pv) (m w : Nat), Fd zs k s → k + 4 * (n + 1) < 900000 → Th m n w v → 10 ^ 40 ≤ m → m ≤ 10 ^ 47 → w ≤ 100000 → POk (f [.obj 1, v] s) fun d s' => Th (m + 1) (n + 2) (5 * w + 140) d ∧ Fd zs (k + 4 * (n + 1)) s'
theorem bent_ok {n : Nat} {cb cd co : ZF} (hd : DrawS cd) (ho : OddS co) (hb : ∀ n', n = n' + 1 → BentS n' cb) (hn : n ≤ 100) : BentS n (pRun 4 2 (P__law_bent cb cd co)) := by
  intro zs k s v m w h hk hv hm hm2 hw
  have ss := sizeLine_eq
  have odd : ∀ (k' : Nat) (s : PSt), Fd zs k' s → k' ≤ k + 1 → POk (co [.obj 1, v] s) fun d s' => Th (m + 1) (n + 2) (5 * w + 140) d ∧ Fd zs (k + 4 * (n + 1)) s' := fun k' s h hk' =>
    (ho zs k' s v m n w h (by omega) hv hm hm2 hw).mono fun d s' ⟨a, b⟩ => ⟨a, b.mono (by omega)⟩
  refine prun_ok rfl ?_
  unfold P__law_bent
  have go : ∀ v', v' = v → (∀ l, v' ≠ .tup l) → v'.good m n = true → POk (pIsi .tuple v' s) fun d s' => d = .bl false ∧ s' = s := by
    intro v' _ nt g
    have hh : Th m n v'.wg v' := ⟨g, Nat.le_refl _⟩
    cases v' with
    | tup l => exact absurd rfl (nt l)
    | fn x => exact hh.no_fn.elim
    | obj x => exact hh.no_obj.elim
    | dct x l => exact hh.no_dct.elim
    | _ => exact ⟨_, _, rfl, rfl, rfl⟩
  by_cases ht : ∃ l, v = .tup l
  case neg =>
    obtain ⟨_, _, e, rfl, rfl⟩ := go v rfl (fun l q => ht ⟨l, q⟩) hv.g
    walk_at "st"
    rw [e]
    walk_at "ex"
    walk_at "st"
    exact odd k _ h (by omega)
  obtain ⟨l, rfl⟩ := ht
  cases n with
  | zero => exact hv.no_tup0.elim
  | succ n =>
  have hl := hv.unT
  have len := hl.len
  by_cases l0 : l.length = 0
  · walk_at "st"
    rw [decide_eq_true (show (l.length : Int) = 0 by omega)]
    walk_at "ex"
    walk_at "st"
    exact odd k _ h (by omega)
  walk_at "st"
  rw [decide_eq_false (show ¬ (l.length : Int) = 0 by omega)]
  walk_at "ex"
  refine POk.mono (hd zs k s 6 h (by omega) (by decide) (by decide)) ?_
  rintro _ s1 ⟨i, rfl, i0, i1, h1⟩
  walk_at "ex"
  by_cases q : i = 0
  · rw [decide_eq_true q]
    walk_at "ex"
    walk_at "st"
    exact odd (k + 1) _ h1 (by omega)
  rw [decide_eq_false q]
  walk_at "ex"
  walk_at "st"
  refine POk.mono (hd zs (k + 1) s1 l.length h1 (by omega) (by omega) (by omega)) ?_
  rintro _ s2 ⟨at', rfl, a0, a1, h2⟩
  walk_at "ex"
  walk_at "st"
  refine POk.mono (hd zs (k + 1 + 1) s2 9 h2 (by omega) (by decide) (by decide)) ?_
  rintro _ s3 ⟨way, rfl, w0, w1, h3⟩
  walk_at "ex"
  have h3' : Fd zs (k + 4 * (n + 1 + 1)) s3 := h3.mono (by omega)
  have c1 := fun lo hi => (hl.cut lo hi).len
  walk_at "st"
  by_cases q0 : way = 0
  · rw [decide_eq_true q0]
    walk_at "ex"
    walk_at "st"
    rw [psl_tup]
    walk_at "ex"
    rw [psl_tup]
    walk_at "ex"
    rw [padd_tup (by have := c1 none (some at'); have := c1 (some (at' + 1)) none; omega)]
    walk_at "ex"
    exact ⟨(Th.tup ((hl.cut none (some at')).app (hl.cut (some (at' + 1)) none))).mono (by omega) (by omega) (by omega), h3'⟩
  rw [decide_eq_false q0]
  walk_at "ex"
  walk_at "st"
  by_cases q1 : way = 1
  · rw [decide_eq_true q1]
    walk_at "ex"
    walk_at "st"
    rw [psl_tup]
    walk_at "ex"
    rw [psl_tup]
    walk_at "ex"
    rw [padd_tup (by have := c1 none (some (at' + 1)); have := c1 (some at') none; omega)]
    walk_at "ex"
    exact ⟨(Th.tup ((hl.cut none (some (at' + 1))).app (hl.cut (some at') none))).mono (by omega) (by omega) (by omega), h3'⟩
  rw [decide_eq_false q1]
  walk_at "ex"
  walk_at "st"
  by_cases q2 : way = 2
  · rw [decide_eq_true q2]
    walk_at "ex"
    walk_at "st"
    rw [psl_tup]
    walk_at "ex"
    rw [psl_tup]
    walk_at "ex"
    rw [prev_tup]
    walk_at "ex"
    have b1 := c1 none (some at')
    have b2 := c1 (some at') (some (at' + 2))
    have b3 := c1 (some (at' + 2)) none
    rw [padd_tup (by rw [List.length_reverse]; omega)]
    walk_at "ex"
    rw [psl_tup]
    walk_at "ex"
    rw [padd_tup (by rw [List.length_append, List.length_reverse]; omega)]
    walk_at "ex"
    exact ⟨(Th.tup (((hl.cut none (some at')).app (hl.cut (some at') (some (at' + 2))).rev).app (hl.cut (some (at' + 2)) none))).mono (by omega) (by omega) (by omega), h3'⟩
  rw [decide_eq_false q2]
  walk_at "ex"
  walk_at "st"
  rw [psl_tup]
  walk_at "ex"
  obtain ⟨d, e1, dm, e2⟩ := atI_in (l := l) a0 a1
  rw [ixTup e1]
  walk_at "ex"
  obtain ⟨w1, w2, w3, t1, t2, t3, hws⟩ := hl.mid e2
  refine POk.mono (hb n rfl zs (k + 1 + 1 + 1) s3 d m w2 h3 (by omega) t2 hm hm2 (by omega)) ?_
  rintro d' s4 ⟨td, h4⟩
  walk_at "ex"
  rw [cut_lo l a0]
  rw [padd_tup (by have := t1.len; simp only [List.length_cons, List.length_nil]; omega)]
  walk_at "ex"
  rw [psl_tup, cut_hi l (show 0 ≤ at' + 1 by omega), show (at' + 1).toNat = at'.toNat + 1 by omega]
  walk_at "ex"
  rw [padd_tup (by have := t1.len; have := t3.len; rw [List.length_append]; simp only [List.length_cons, List.length_nil]; omega)]
  walk_at "ex"
  have g := ((t1.mono (m' := m + 1) (n' := n + 2) (by omega) (by omega) (Nat.le_refl _)).app (ThL.cons td ThL.nil)).app (t3.mono (m' := m + 1) (n' := n + 2) (by omega) (by omega) (Nat.le_refl _))
  exact ⟨(Th.tup g).mono (by omega) (by omega) (by omega), h4.mono (by omega)⟩
end Rf.K37
namespace Rf.K37
open PySem PySem.Spec L2
local macro_rules | `(tactic| walk_at "ex") => `(tactic| try simp (decide := true) only [y_ret, y_retN, y_asg, y_own, y_if, y_drop, y_nilS, y_cont, y_brk, y_frz, y_for, y_var, y_rd, y_c, y_un, y_bin, y_test, y_and, y_or, y_not, y_ifE, y_chain, y_nil, y_cons, y_tup, y_lst, y_obj, y_b, y_bk, y_meth, y_qNone, y_qSome, y_slice, y_call, y_callX, y_gin, y_gix, y_qVar, y_tlNil, y_tlCons, y_qTup, y_qTupT, y_seqV, y_range1, y_lc, y_yes, y_par, y_par3, y_app, y_setObj, y_rg1, pWipe, frz, frz1,
  ZR.bind_ok, pok_bind, pok_ok, pGather, pPick, optAll, List.map_cons, List.map_nil, List.getElem?_cons_zero, List.getElem?_cons_succ, List.set_cons_zero, List.set_cons_succ, Option.map_some, List.length_cons, List.length_nil,
  List.nil_append, List.cons_append, List.replicate, Nat.reduceAdd, Nat.reduceSub, and_self, if_true, if_false, true_and, and_true, Nat.reduceEqDiff, y_truth, y_ofO, reduceCtorEq, decide_true, decide_false, Bool.false_eq_true, Bool.not_true, Bool.not_false, or_self, or_true, true_or, or_false, false_or,
  add_int, sub_int, neg_int, lt_int, le_int, gt_int, ge_int, eq_int, ne_int, eq_str, ne_str, is_non, isNot_non, isi_nonP, isi_blP, isi_intP, isi_strP, isi_tupP, isi_lstP, len_tupP, len_lstP, ix0, ix1, ix2, sizeLine_eq, Nat.reduceLeDiff, Pv.isNon, pSetO, Option.map_some, Pv.isLst])
local macro_rules | `(tactic| walk_at "st") => `(tactic| (refine y_seq.mpr ?_; walk_at "ex"))
/-! ### an ask's stretches -/
inductive AskD : Pv → Pv → Prop
  | row (a b c : Pv) : AskD (.tup [.str (Str.ofString "row"), a, b, c]) (.tup [.tup [a, b, b]])
  | past (a b : Pv) : AskD (.tup [.str (Str.ofString "past"), a, b]) (.tup [.tup [a, b, b]])
  | all (a b c d e : Pv) : AskD (.tup [.str (Str.ofString "all"), a, b, c, d, e]) (.tup [.tup [a, b, c]])
  | count (a b c d : Pv) : AskD (.tup [.str (Str.ofString "count"), a, b, c, d]) (.tup [.tup [a, b, c]])
  | total (a b c d e : Pv) : AskD (.tup [.str (Str.ofString "total"), a, b, c, d, e]) (.tup [.tup [a, b, c]])
  | pair (a b c : Pv) : AskD (.tup [.str (Str.ofString "pair"), a, b, c]) (.tup [.tup [a, .non, .non], .tup [b, .non, .non]])
theorem askD {v : Pv} (h : AskT v) : ∃ d, AskD v d := by
  cases h with
  | row a b c => exact ⟨_, .row a b c⟩
  | past a b => exact ⟨_, .past a b⟩
  | all a b c d e => exact ⟨_, .all a b c d e⟩
  | count a b c d => exact ⟨_, .count a b c d⟩
  | total a b c d e => exact ⟨_, .total a b c d e⟩
  | pair a b c => exact ⟨_, .pair a b c⟩
theorem in_row (s : PSt) : pIn (.str (Str.ofString "row")) (.tup [.str (Str.ofString "row"), .str (Str.ofString "past")]) s = .ok (.bl true) s := by kernel_rfl
theorem in_past (s : PSt) : pIn (.str (Str.ofString "past")) (.tup [.str (Str.ofString "row"), .str (Str.ofString "past")]) s = .ok (.bl true) s := by kernel_rfl
theorem in_all (s : PSt) : pIn (.str (Str.ofString "all")) (.tup [.str (Str.ofString "row"), .str (Str.ofString "past")]) s = .ok (.bl false) s := by kernel_rfl
theorem in_count (s : PSt) : pIn (.str (Str.ofString "count")) (.tup [.str (Str.ofString "row"), .str (Str.ofString "past")]) s = .ok (.bl false) s := by kernel_rfl
theorem in_total (s : PSt) : pIn (.str (Str.ofString "total")) (.tup [.str (Str.ofString "row"), .str (Str.ofString "past")]) s = .ok (.bl false) s := by kernel_rfl
theorem in_pair (s : PSt) : pIn (.str (Str.ofString "pair")) (.tup [.str (Str.ofString "row"), .str (Str.ofString "past")]) s = .ok (.bl false) s := by kernel_rfl
theorem ne_all : decide ((Str.ofString "all") = Str.ofString "pair") = false := by decide +kernel
theorem ne_count : decide ((Str.ofString "count") = Str.ofString "pair") = false := by decide +kernel
theorem ne_total : decide ((Str.ofString "total") = Str.ofString "pair") = false := by decide +kernel
theorem ne_row : decide ((Str.ofString "row") = Str.ofString "pair") = false := by decide +kernel
theorem ne_past : decide ((Str.ofString "past") = Str.ofString "pair") = false := by decide +kernel
theorem ixl0 {v : Pv} {l : List Pv} {s : PSt} : pIx (.lst (v :: l)) (.int 0) s = .ok v s := ix0 (v := v) (l := l) (s := s)
theorem ixl1 {v u : Pv} {l : List Pv} {s : PSt} : pIx (.lst (v :: u :: l)) (.int 1) s = .ok u s := ix1 (v := v) (u := u) (l := l) (s := s)
def StrS (f : ZF) : Prop := ∀ v d s, AskD v d → f [v] s = .ok d s
theorem stretches_ok : StrS (pRun 4 1 P_stretches_of) := by
  intro v d s h
  refine pok_eq (prun_ok rfl ?_)
  unfold P_stretches_of
  cases h with
  | row a b c =>
    walk_at "st"
    rw [y_star2]
    walk_at "ex"
    walk_at "st"
    rw [in_row]
    walk_at "ex"
    walk_at "st"
    simp only [ixl0]
    walk_at "ex"
  | past a b =>
    walk_at "st"
    rw [y_star2]
    walk_at "ex"
    walk_at "st"
    rw [in_past]
    walk_at "ex"
    walk_at "st"
    simp only [ixl0]
    walk_at "ex"
  | all a b c d e =>
    walk_at "st"
    rw [y_star2]
    walk_at "ex"
    walk_at "st"
    rw [in_all]
    walk_at "ex"
    walk_at "st"
    walk_at "st"
    simp only [ixl0, ixl1]
    walk_at "ex"
  | count a b c d =>
    walk_at "st"
    rw [y_star2]
    walk_at "ex"
    walk_at "st"
    rw [in_count]
    walk_at "ex"
    walk_at "st"
    walk_at "st"
    simp only [ixl0, ixl1]
    walk_at "ex"
  | total a b c d e =>
    walk_at "st"
    rw [y_star2]
    walk_at "ex"
    walk_at "st"
    rw [in_total]
    walk_at "ex"
    walk_at "st"
    walk_at "st"
    simp only [ixl0, ixl1]
    walk_at "ex"
  | pair a b c =>
    walk_at "st"
    rw [y_star2]
    walk_at "ex"
    walk_at "st"
    rw [in_pair]
    walk_at "ex"
    walk_at "st"
    walk_at "st"
    simp only [ixl0]
    walk_at "ex"
/-! ### the feed is laid -/
def SrcS (f : ZF) : Prop := ∀ (ns : List Int), POk (f [.obj 0] [.rd (ns.map .int)]) fun d s' => d = .obj 1 ∧ ∃ zs, Fd zs 0 s'
theorem source_ok : SrcS (pRun 1 1 P__law_source) := by
  intro ns
  refine prun_ok rfl ?_
  unfold P__law_source
  walk_at "st"
  have e : pSl (.obj 0) none (some 63) [.rd (ns.map .int)] = .ok (.lst ((cutD ns none (some 63)).map .int)) [.rd (ns.map .int)] := by
    unfold pSl
    simp only [List.getElem?_cons_zero]
    unfold cutD
    rw [List.map_take, List.map_drop, List.length_map]
  rw [e]
  walk_at "ex"
  exact ⟨_, _, 0, 0, 0, by decide, by decide, by decide, by decide, rfl⟩
end Rf.K37
namespace Rf.K37
open PySem PySem.Spec L2
local macro_rules | `(tactic| walk_at "ex") => `(tactic| try simp (decide := true) only [y_ret, y_retN, y_asg, y_own, y_if, y_drop, y_nilS, y_cont, y_brk, y_frz, y_for, y_var, y_rd, y_c, y_un, y_bin, y_test, y_and, y_or, y_not, y_ifE, y_chain, y_nil, y_cons, y_tup, y_lst, y_obj, y_b, y_bk, y_meth, y_qNone, y_qSome, y_slice, y_call, y_callX, y_gin, y_gix, y_qVar, y_tlNil, y_tlCons, y_qTup, y_qTupT, y_seqV, y_range1, y_lc, y_yes, y_par, y_par3, y_app, y_setObj, y_rg1, pWipe, frz, frz1,
  ZR.bind_ok, pok_bind, pok_ok, pGather, pPick, optAll, List.map_cons, List.map_nil, List.getElem?_cons_zero, List.getElem?_cons_succ, List.set_cons_zero, List.set_cons_succ, Option.map_some, List.length_cons, List.length_nil,
  List.nil_append, List.cons_append, List.replicate, Nat.reduceAdd, Nat.reduceSub, and_self, if_true, if_false, true_and, and_true, Nat.reduceEqDiff, y_truth, y_ofO, reduceCtorEq, decide_true, decide_false, Bool.false_eq_true, Bool.not_true, Bool.not_false, or_self, or_true, true_or, or_false, false_or,
  add_int, sub_int, neg_int, lt_int, le_int, gt_int, ge_int, eq_int, ne_int, eq_str, ne_str, is_non, isNot_non, isi_nonP, isi_blP, isi_intP, isi_strP, isi_tupP, isi_lstP, len_tupP, len_lstP, ix0, ix1, ix2, sizeLine_eq, Nat.reduceLeDiff, Pv.isNon, pSetO, Option.map_some, Pv.isLst])
local macro_rules | `(tactic| walk_at "st") => `(tactic| (refine y_seq.mpr ?_; walk_at "ex"))
def AskG (v : Pv) : Prop := AskT v ∧ Th BB 2 200 v
def TGd (v : Pv) : Prop := Th (BB + 2) 6 6000 v
theorem AskG.t {v : Pv} (h : AskG v) : TGd v := h.2.mono (by decide) (by decide) (by decide)
theorem TGd.lk {v : Pv} (h : TGd v) : Lk v := Th.mono h (by decide) (by decide) (by decide)
theorem rng_len (n : Nat) : (rangeP 0 n).length = n := by simp [rangeP]
theorem askRow : AskG (.tup [.str (Str.ofString "row"), .str (Str.ofString "t"), .int (10 ^ Int.toNat 40), .int (-7)]) := ⟨.row _ _ _, Th.cst (by decide +kernel)⟩
theorem askAll : AskG (.tup [.str (Str.ofString "all"), .str (Str.ofString "zzzzzzzz"), .non, .int (-9), .non, .non]) := ⟨.all _ _ _ _ _, Th.cst (by decide +kernel)⟩
theorem askD_th {v d : Pv} (h : AskD v d) (t : Th BB 2 200 v) : Th BB 3 1500 d := by
  have m := fun (x : Pv) (l : List Pv) (e : v = .tup l) (hx : x ∈ l) => (Th.unT (n := 1) (e ▸ t)).mem hx
  have up : ∀ {x y z : Pv}, Th BB 1 200 x → Th BB 1 200 y → Th BB 1 200 z → Th BB 2 640 (.tup [x, y, z]) := fun a b c => (Th.tup (ThL.cons a (ThL.cons b (ThL.cons c ThL.nil)))).mono (Nat.le_refl _) (Nat.le_refl _) (by decide)
  have one : ∀ {x : Pv}, Th BB 2 640 x → Th BB 3 1500 (.tup [x]) := fun a => (Th.tup (ThL.cons a ThL.nil)).mono (Nat.le_refl _) (Nat.le_refl _) (by decide)
  cases h with
  | row a b c => exact one (up (m a _ rfl (by simp)) (m b _ rfl (by simp)) (m b _ rfl (by simp)))
  | past a b => exact one (up (m a _ rfl (by simp)) (m b _ rfl (by simp)) (m b _ rfl (by simp)))
  | all a b c d e => exact one (up (m a _ rfl (by simp)) (m b _ rfl (by simp)) (m c _ rfl (by simp)))
  | count a b c d => exact one (up (m a _ rfl (by simp)) (m b _ rfl (by simp)) (m c _ rfl (by simp)))
  | total a b c d e => exact one (up (m a _ rfl (by simp)) (m b _ rfl (by simp)) (m c _ rfl (by simp)))
  | pair a b c =>
    have z : ∀ {x : Pv}, Th BB 1 200 x → Th BB 2 240 (.tup [x, .non, .non]) := fun a => (Th.tup (ThL.cons a (ThL.cons (Th.non (w := 1)) (ThL.cons (Th.non (w := 1)) ThL.nil)))).mono (Nat.le_refl _) (Nat.le_refl _) (by decide)
    exact (Th.tup (ThL.cons (z (m a _ rfl (by simp))) (ThL.cons (z (m b _ rfl (by simp))) ThL.nil))).mono (Nat.le_refl _) (Nat.le_refl _) (by decide)
def consts1 : List Pv := [.non, .tup [], .str (Str.ofString "row"), .tup [.str (Str.ofString "row")], .lst [.str (Str.ofString "row"), .str (Str.ofString "t"), .int 1, .non], .tup [.str (Str.ofString "row"), .str (Str.ofString "t"), .bl true, .non], .tup [.str (Str.ofString "past"), .str (Str.ofString "T"), .int 1]]
theorem consts1_th : ∀ d ∈ consts1, TGd d := by
  intro d hd
  have key : (consts1.all fun d => thB BB 2 100 d) = true := by decide +kernel
  exact (Th.cst (List.all_eq_true.mp key d hd)).mono (by decide) (by decide) (by decide)
theorem law_ok {cs ci cu cw cb ca cr : ZF} (hs : StrS cs) (hi : LookS ci askB) (hu : LookS cu askB) (hw : DrawS cw) (hb : ∀ n, n ≤ 50 → BentS n cb) (ha : AskS ca) (hr : SrcS cr) (ns : List Int) : POk (pRun 10 1 (P_law cs ci cu cw cb ca cr) [.obj 0] [.rd (ns.map .int)]) fun d _ => d = .bl true := by
  have ss := sizeLine_eq
  refine prun_ok rfl ?_
  unfold P_law
  walk_at "st"
  refine POk.mono (hr ns) ?_
  rintro _ s1 ⟨rfl, zs, h1⟩
  walk_at "ex"
  walk_at "st"
  refine POk.mono (plc_ok (P := fun r acc s => (∀ d ∈ acc, AskG d) ∧ acc.length + r.length = 12 ∧ Fd zs (20 * acc.length) s) (Q := fun l s => (∀ d ∈ l, AskG d) ∧ l.length = 12 ∧ Fd zs 240 s) (fun acc s ⟨p1, p2, p3⟩ => ⟨p1, by simpa using p2, p3.mono (by simp at p2; omega)⟩) (fun d r acc s ⟨p1, p2, p3⟩ => ?_) _ _ _ ⟨by simp, by rw [rng_len]; rfl, h1⟩) ?_
  · walk_at "ex"
    rw [List.length_cons] at p2
    refine POk.mono (ha zs _ s p3 (by omega)) fun v s' ⟨q1, q2, q3⟩ => ?_
    refine ⟨by omega, fun e he => ?_, by rw [List.length_append, List.length_singleton]; omega, q3.mono (by rw [List.length_append, List.length_singleton]; omega)⟩
    rcases List.mem_append.mp he with z | z
    · exact p1 e z
    · rw [List.mem_singleton.mp z]; exact ⟨q1, q2.mono (Nat.le_refl _) (Nat.le_refl _) (by decide)⟩
  rintro as s2 ⟨g1, g2, h2⟩
  rw [ppow_int (by decide : CPow 10 40)]
  walk_at "ex"
  rw [padd_lst (by simp only [List.length_cons, List.length_nil]; omega)]
  walk_at "ex"
  walk_at "st"
  rw [if_pos (by rw [List.length_append]; simp only [List.length_cons, List.length_nil]; omega)]
  walk_at "ex"
  generalize hasks : (as ++ [Pv.tup [.str (Str.ofString "row"), .str (Str.ofString "t"), .int (10 ^ Int.toNat 40), .int (-7)]] ++ [Pv.tup [.str (Str.ofString "all"), .str (Str.ofString "zzzzzzzz"), .non, .int (-9), .non, .non]]) = asks
  have ga : ∀ d ∈ asks, AskG d := by
    intro d hd
    rw [← hasks] at hd
    simp only [List.mem_append, List.mem_singleton] at hd
    rcases hd with (z | rfl) | rfl
    · exact g1 d z
    · exact askRow
    · exact askAll
  have la : asks.length = 14 := by rw [← hasks]; simp [g2]
  walk_at "st"
  rw [padd_lst (by simp only [List.length_cons, List.length_nil]; omega)]
  walk_at "ex"
  have gc1 : ∀ d ∈ asks ++ consts1, TGd d := fun d hd => (List.mem_append.mp hd).elim (fun z => (ga d z).t) (consts1_th d)
  have lc1 : (asks ++ consts1).length = 21 := by rw [List.length_append, la]; rfl
  rw [show asks ++ [Pv.non, Pv.tup [], Pv.str (Str.ofString "row"), Pv.tup [Pv.str (Str.ofString "row")],
          Pv.lst [Pv.str (Str.ofString "row"), Pv.str (Str.ofString "t"), Pv.int 1, Pv.non],
          Pv.tup [Pv.str (Str.ofString "row"), Pv.str (Str.ofString "t"), Pv.bl true, Pv.non],
          Pv.tup [Pv.str (Str.ofString "past"), Pv.str (Str.ofString "T"), Pv.int 1]] = asks ++ consts1 from rfl]
  generalize asks ++ consts1 = t1 at gc1 lc1
  walk_at "st"
  rw [show pMul (.str (Str.ofString "a")) (.int 16) s2 = .ok (.str (Str.ofString "aaaaaaaaaaaaaaaa")) s2 from by kernel_rfl]
  walk_at "ex"
  rw [show pMul (.str (Str.ofString "a")) (.int 17) s2 = .ok (.str (Str.ofString "aaaaaaaaaaaaaaaaa")) s2 from by kernel_rfl]
  walk_at "ex"
  rw [padd_lst (by simp only [List.length_cons, List.length_nil]; omega)]
  walk_at "ex"
  generalize ht2 : t1 ++ [Pv.tup [Pv.str (Str.ofString "all"), Pv.str (Str.ofString "t"), Pv.int 1, Pv.int 2, Pv.tup [Pv.int 0, Pv.str (Str.ofString "is"), .str (Str.ofString "aaaaaaaaaaaaaaaa")], Pv.non],
      Pv.tup [Pv.str (Str.ofString "all"), Pv.str (Str.ofString "t"), Pv.int 1, Pv.int 2, Pv.tup [Pv.int 0, Pv.str (Str.ofString "is"), .str (Str.ofString "aaaaaaaaaaaaaaaaa")], Pv.non]] = t2
  have gt2 : ∀ d ∈ t2, TGd d := by
    intro d hd
    rw [← ht2] at hd
    simp only [List.mem_append, List.mem_cons, List.not_mem_nil, or_false] at hd
    rcases hd with z | rfl | rfl
    · exact gc1 d z
    · exact Th.mono (m := 10) (n := 3) (w := 100) (Th.cst (by decide +kernel)) (by decide) (by decide) (by decide)
    · exact Th.mono (m := 10) (n := 3) (w := 100) (Th.cst (by decide +kernel)) (by decide) (by decide) (by decide)
  have lt2 : t2.length = 23 := by rw [← ht2, List.length_append, lc1]; rfl
  walk_at "st"
  -- things bent
  refine POk.mono (pfor_ok (P := fun r L s => ∃ (l : List Pv) (x4 x5 : Option Sl), L = [some (.val (.obj 0)), some (.val (.obj 1)), some (.own (.lst asks)), some (.own (.lst l)), x4, x5, none, none, none, none] ∧ (∀ d ∈ l, TGd d) ∧ l.length + r.length = 47 ∧ Fd zs (240 + 60 * l.length) s)
    (Q := fun o s => ∃ (l : List Pv) (x4 x5 : Option Sl), o = .nx [some (.val (.obj 0)), some (.val (.obj 1)), some (.own (.lst asks)), some (.own (.lst l)), x4, x5, none, none, none, none] ∧ (∀ d ∈ l, TGd d) ∧ l.length = 47) (fun L s ⟨l, x4, x5, p1, p2, p3, p4⟩ => ⟨l, x4, x5, by rw [p1], p2, by simpa using p3⟩) (fun d r L s ⟨l, x4, x5, p1, p2, p3, p4⟩ => ?_) _ _ _ ⟨t2, none, none, rfl, gt2, by rw [rng_len, lt2]; rfl, h2.mono (by omega)⟩) ?_
  · subst p1
    rw [List.length_cons] at p3
    walk_at "ex"
    walk_at "st"
    refine POk.mono (hw zs _ s asks.length p4 (by omega) (by omega) (by omega)) ?_
    rintro _ s3 ⟨i, rfl, i0, i1, h3⟩
    walk_at "ex"
    obtain ⟨v, e1, hv, _⟩ := atI_in (l := asks) i0 i1
    rw [ixLst e1]
    walk_at "ex"
    refine POk.mono (hb 2 (by decide) zs _ s3 v BB 200 h3 (by omega) (ga v hv).2 (by decide) (by decide) (by decide)) ?_
    rintro b s4 ⟨tb, h4⟩
    walk_at "ex"
    walk_at "st"
    refine POk.mono (hw zs _ s4 4 h4 (by omega) (by decide) (by decide)) ?_
    rintro _ s5 ⟨j, rfl, j0, j1, h5⟩
    walk_at "ex"
    have fin : ∀ (a : Pv) (s' : PSt), TGd a → Fd zs (240 + 60 * (l.length + 1)) s' → POk (if l.length < 16777216 then ZR.ok (ZO.nx [some (Sl.val (Pv.obj 0)), some (Sl.val (Pv.obj 1)), some (Sl.own (Pv.lst asks)), some (Sl.own (Pv.lst (l ++ [a]))), some (Sl.val d), some (Sl.val b), none, none, none, none]) s' else ZR.bad) fun o s1 => match o with
        | ZO.nx L1 => ∃ l x4 x5, L1 = [some (Sl.val (Pv.obj 0)), some (Sl.val (Pv.obj 1)), some (Sl.own (Pv.lst asks)), some (Sl.own (Pv.lst l)), x4, x5, none, none, none, none] ∧ (∀ (d : Pv), d ∈ l → TGd d) ∧ l.length + r.length = 47 ∧ Fd zs (240 + 60 * l.length) s1
        | _ => False := fun a s' ta hf => by
      rw [if_pos (by omega), pok_ok]
      refine ⟨_, _, _, rfl, fun e he => ?_, by rw [List.length_append, List.length_singleton]; omega, by rw [List.length_append, List.length_singleton]; exact hf⟩
      rcases List.mem_append.mp he with z | z
      · exact p2 e z
      · rw [List.mem_singleton.mp z]; exact ta
    by_cases hj : j = 0
    · rw [if_pos (by simpa using hj)]
      refine POk.mono (hb 4 (by decide) zs _ s5 b (BB + 1) 1140 h5 (by omega) tb (by decide) (by decide) (by decide)) ?_
      rintro b2 s6 ⟨tb2, h6⟩
      have z := fin b2 s6 (Th.mono tb2 (by decide) (by decide) (by decide)) (h6.mono (by omega))
      refine z.mono fun o s1 q => ?_
      cases o with
      | nx L1 => exact q
      | _ => exact q.elim
    · rw [if_neg (by simpa using hj), pok_ok]
      have z := fin b s5 (Th.mono tb (by decide) (by decide) (by decide)) (h5.mono (by omega))
      refine z.mono fun o s1 q => ?_
      cases o with
      | nx L1 => exact q
      | _ => exact q.elim
  rintro o s3 ⟨l, x4, x5, rfl, gl, ll⟩
  walk_at "ex"
  walk_at "st"
  -- each thing is asked
  refine POk.mono (pfor_ok (P := fun r L s => ∃ (y6 y7 : Option Sl), L = [some (.val (.obj 0)), some (.val (.obj 1)), some (.own (.lst asks)), some (.val (.lst l)), x4, x5, y6, y7, none, none] ∧ (∀ d ∈ r, TGd d))
    (Q := fun o s => ∃ (y6 y7 : Option Sl), o = .nx [some (.val (.obj 0)), some (.val (.obj 1)), some (.own (.lst asks)), some (.val (.lst l)), x4, x5, y6, y7, none, none]) (fun L s ⟨y6, y7, p1, p2⟩ => ⟨y6, y7, by rw [p1]⟩) (fun d r L s ⟨y6, y7, p1, p2⟩ => ?_) _ _ _ ⟨none, none, rfl, gl⟩) ?_
  · subst p1
    have td : TGd d := p2 d (List.mem_cons_self ..)
    have pr := p2
    walk_at "ex"
    walk_at "st"
    rw [th_repr td]
    walk_at "ex"
    walk_at "st"
    rw [hi d s td.lk]
    walk_at "ex"
    rw [th_repr (Th.bl (m := 0) (n := 0) (w := 1))]
    walk_at "ex"
    rw [hu d s td.lk]
    walk_at "ex"
    rw [th_repr (Th.bl (m := 0) (n := 0) (w := 1))]
    walk_at "ex"
    rw [th_repr td]
    walk_at "ex"
    exact ⟨_, _, rfl, fun e he => pr e (List.mem_cons_of_mem _ he)⟩
  rintro o s4 ⟨y6, y7, rfl⟩
  walk_at "ex"
  walk_at "st"
  refine POk.mono (pfor_ok (P := fun r L s => ∃ (y8 y9 : Option Sl), L = [some (.val (.obj 0)), some (.val (.obj 1)), some (.val (.lst asks)), some (.val (.lst l)), x4, x5, y6, y7, y8, y9] ∧ (∀ d ∈ r, AskG d))
    (Q := fun o s => ∃ (y8 y9 : Option Sl), o = .nx [some (.val (.obj 0)), some (.val (.obj 1)), some (.val (.lst asks)), some (.val (.lst l)), x4, x5, y6, y7, y8, y9]) (fun L s ⟨y8, y9, p1, p2⟩ => ⟨y8, y9, by rw [p1]⟩) (fun v r L s ⟨y8, y9, p1, p2⟩ => ?_) _ _ _ ⟨none, none, rfl, ga⟩) ?_
  · subst p1
    obtain ⟨tv, hv⟩ := p2 v (List.mem_cons_self ..)
    have pr := p2
    have more : ∀ d ∈ r, AskG d := fun e he => pr e (List.mem_cons_of_mem _ he)
    obtain ⟨w, hd⟩ := askD tv
    have tw := th_repr (askD_th hd hv) (by decide) (by decide) (by decide) s
    have hc := hs v w s hd
    walk_at "ex"
    cases hd with
    | row a b c =>
      walk_at "st"
      rw [in_row]
      walk_at "ex"
      walk_at "st"
      walk_at "st"
      rw [hc]
      walk_at "ex"
      rw [tw]
      walk_at "ex"
      first | (rw [tw]; walk_at "ex") | skip
      exact ⟨_, _, rfl, more⟩
    | past a b =>
      walk_at "st"
      rw [in_past]
      walk_at "ex"
      walk_at "st"
      walk_at "st"
      rw [hc]
      walk_at "ex"
      rw [tw]
      walk_at "ex"
      first | (rw [tw]; walk_at "ex") | skip
      exact ⟨_, _, rfl, more⟩
    | all a b c d e =>
      walk_at "st"
      rw [in_all]
      walk_at "ex"
      rw [psl_tup]
      walk_at "ex"
      walk_at "st"
      walk_at "st"
      rw [hc]
      walk_at "ex"
      rw [show cutD [Pv.str (Str.ofString "all"), a, b, c, d, e] (some 1) (some 4) = [a, b, c] from rfl]
      rw [tw]
      walk_at "ex"
      first | (rw [tw]; walk_at "ex") | skip
      exact ⟨_, _, rfl, more⟩
    | count a b c d =>
      walk_at "st"
      rw [in_count]
      walk_at "ex"
      rw [psl_tup]
      walk_at "ex"
      walk_at "st"
      walk_at "st"
      rw [hc]
      walk_at "ex"
      rw [show cutD [Pv.str (Str.ofString "count"), a, b, c, d] (some 1) (some 4) = [a, b, c] from rfl]
      rw [tw]
      walk_at "ex"
      first | (rw [tw]; walk_at "ex") | skip
      exact ⟨_, _, rfl, more⟩
    | total a b c d e =>
      walk_at "st"
      rw [in_total]
      walk_at "ex"
      rw [psl_tup]
      walk_at "ex"
      walk_at "st"
      walk_at "st"
      rw [hc]
      walk_at "ex"
      rw [show cutD [Pv.str (Str.ofString "total"), a, b, c, d, e] (some 1) (some 4) = [a, b, c] from rfl]
      rw [tw]
      walk_at "ex"
      first | (rw [tw]; walk_at "ex") | skip
      exact ⟨_, _, rfl, more⟩
    | pair a b c =>
      walk_at "st"
      rw [in_pair]
      walk_at "ex"
      rw [psl_tup]
      walk_at "ex"
      walk_at "st"
      walk_at "st"
      walk_at "st"
      rw [hc]
      walk_at "ex"
      rw [tw]
      walk_at "ex"
      first | (rw [tw]; walk_at "ex") | skip
      exact ⟨_, _, rfl, more⟩
  rintro o s5 ⟨y8, y9, rfl⟩
  walk_at "ex"
  walk_at "st"
end Rf.K37
namespace Rf.K37
open PySem PySem.Spec L2
local macro_rules | `(tactic| walk_at "ex") => `(tactic| try simp (decide := true) only [y_ret, y_retN, y_asg, y_own, y_if, y_drop, y_nilS, y_cont, y_brk, y_frz, y_for, y_var, y_rd, y_c, y_un, y_bin, y_test, y_and, y_or, y_not, y_ifE, y_chain, y_nil, y_cons, y_tup, y_lst, y_obj, y_b, y_bk, y_meth, y_qNone, y_qSome, y_slice, y_call, y_callX, y_gin, y_gix, y_qVar, y_tlNil, y_tlCons, y_qTup, y_qTupT, y_seqV, y_range1, y_lc, y_yes, y_par, y_par3, y_app, y_setObj, y_rg1, pWipe, frz, frz1,
  ZR.bind_ok, pok_bind, pok_ok, pGather, pPick, optAll, List.map_cons, List.map_nil, List.getElem?_cons_zero, List.getElem?_cons_succ, List.set_cons_zero, List.set_cons_succ, Option.map_some, List.length_cons, List.length_nil,
  List.nil_append, List.cons_append, List.replicate, Nat.reduceAdd, Nat.reduceSub, and_self, if_true, if_false, true_and, and_true, Nat.reduceEqDiff, y_truth, y_ofO, reduceCtorEq, decide_true, decide_false, Bool.false_eq_true, Bool.not_true, Bool.not_false, or_self, or_true, true_or, or_false, false_or,
  add_int, sub_int, neg_int, lt_int, le_int, gt_int, ge_int, eq_int, ne_int, eq_str, ne_str, is_non, isNot_non, isi_nonP, isi_blP, isi_intP, isi_strP, isi_tupP, isi_lstP, len_tupP, len_lstP, ix0, ix1, ix2, sizeLine_eq, Nat.reduceLeDiff, Pv.isNon, pSetO, Option.map_some, Pv.isLst])
local macro_rules | `(tactic| walk_at "st") => `(tactic| (refine y_seq.mpr ?_; walk_at "ex"))
theorem lv_num (n : Nat) : LookS (ZFF zpr (n + 1) n_is_number) numB := num_ok
theorem lv_word (n : Nat) : LookS (ZFF zpr (n + 1) n_is_word_text) wordB := word_ok
theorem lv_short (n : Nat) : LookS (ZFF zpr (n + 1) n_is_short_text) shortB := short_ok
theorem lv_bound (n : Nat) : LookS (ZFF zpr (n + 2) n_is_bound) boundB := bound_ok (lv_num n)
theorem lv_worth (n : Nat) : LookS (ZFF zpr (n + 2) n_is_worth) worthB := worth_ok (lv_num n) (lv_short n)
theorem lv_column (n : Nat) : LookS (ZFF zpr (n + 2) n_is_column) columnB := column_ok (lv_num n)
theorem lv_test (n : Nat) : LookS (ZFF zpr (n + 3) n_is_test) testB := test_ok (lv_column n) (lv_worth n)
theorem lv_isask (n : Nat) : LookS (ZFF zpr (n + 4) n_is_ask) askB := ask_ok (lv_num (n + 2)) (lv_column (n + 1)) (lv_word (n + 2)) (lv_bound (n + 1)) (lv_test n)
theorem lv_lnum (n : Nat) : LookS (ZFF zpr (n + 1) n__law_is_number) numB := lnum_ok
theorem lv_lword (n : Nat) : LookS (ZFF zpr (n + 1) n__law_is_word) wordB := lword_ok
theorem lv_lmaybe (n : Nat) : LookS (ZFF zpr (n + 2) n__law_is_maybe) boundB := lmaybe_ok (lv_lnum n)
theorem lv_ltest (n : Nat) : LookS (ZFF zpr (n + 2) n__law_is_test) testB := ltest_ok (lv_lnum n)
theorem lv_due (n : Nat) : LookS (ZFF zpr (n + 3) n__law_due) askB := due_ok (lv_lnum (n + 1)) (lv_ltest n) (lv_lmaybe n) (lv_lword (n + 1))
theorem lv_draw (n : Nat) : DrawS (ZFF zpr (n + 1) n__law_draw) := draw_ok
theorem lv_limit (n : Nat) : LimS (ZFF zpr (n + 2) n__law_limit) := limit_ok (lv_draw n)
theorem lv_as (n : Nat) : AsS (ZFF zpr (n + 2) n__law_as) := as_ok (lv_draw n)
theorem lv_tst (n : Nat) : TestS (ZFF zpr (n + 2) n__law_test) := ltst_ok (lv_draw n)
theorem lv_ask (n : Nat) : AskS (ZFF zpr (n + 3) n__law_ask) := laskS (lv_draw (n + 1)) (lv_limit n) (lv_tst n) (lv_as n)
theorem lv_odd (n : Nat) : OddS (ZFF zpr (n + 2) n__law_odd) := odd_ok (lv_draw n)
theorem lv_bent : ∀ n j : Nat, j ≤ n → j ≤ 100 → BentS j (ZFF zpr (n + 3) n__law_bent)
  | 0, j, h, h2 => bent_ok (lv_draw 1) (lv_odd 0) (fun n' e => absurd e (by omega)) h2
  | n + 1, j, h, h2 => bent_ok (lv_draw (n + 2)) (lv_odd (n + 1)) (fun n' e => lv_bent n n' (by omega) (by omega)) h2
theorem lv_str (n : Nat) : StrS (ZFF zpr (n + 1) n_stretches_of) := stretches_ok
theorem lv_src (n : Nat) : SrcS (ZFF zpr (n + 1) n__law_source) := source_ok
theorem lv_law (ns : List Int) (h : ns.length ≤ sizeLine) : ∃ A', FF pr 60 n_law [.ref 0] [.rd (ns.map D.int)] = .ok (.bl true) A' := by
  obtain ⟨d, s', e, rfl⟩ := law_ok (lv_str 58) (lv_isask 55) (lv_due 56) (lv_draw 58) (fun n hn => lv_bent 56 n (by omega) (by omega)) (lv_ask 56) (lv_src 58) ns
  exact law_sim (zsim 60 n_law) e
end Rf.K37
namespace Rf.K37
open PySem PySem.Spec L2
theorem dicW_of {K : PySem.W.Frag} {P : Params} {a : Addr} {es : Array DictEntry} {n : Nat} {ks : List Str} (l : K.lookup a = some ⟨.type "dict", none, .dict es n, #[]⟩) (s : (a == sysModules) = false) (k : es.toList.map He.keyOf = He.keysIn P ks) : He.dicW K a = some (He.keysIn P ks) := by
  unfold He.dicW
  rw [l]
  simp [s, k]
section
variable {K : PySem.W.Frag}
theorem p2_1 {kV2 : Value} {dc2 pm2 cd2 ct2 : Value} {an2 : Option Addr} : BindOk K (PySem.W.fnOf i_is_number.name i_is_number.qual i_is_number.params i_is_number.body i_is_number.scope .none kV2 dc2 pm2 an2 cd2 ct2) i_is_number.ps 1 [] g2_1 := by
  intro s us ws X hu hw
  match us, hu, ws, hw with
  | [u0], _, [], _ => exact ⟨[u0], rfl, .of_eq rfl, ⟨_, _, rfl, rfl, rfl⟩⟩
theorem p1_1 {kV1 : Value} {dc1 pm1 cd1 ct1 : Value} {an1 : Option Addr} : BindOk K (PySem.W.fnOf i_is_short_text.name i_is_short_text.qual i_is_short_text.params i_is_short_text.body i_is_short_text.scope .none kV1 dc1 pm1 an1 cd1 ct1) i_is_short_text.ps 1 [] g1_1 := by
  intro s us ws X hu hw
  match us, hu, ws, hw with
  | [u0], _, [], _ => exact ⟨[u0], rfl, .of_eq rfl, ⟨_, _, rfl, rfl, rfl⟩⟩
theorem p5_1 {kV5 : Value} {dc5 pm5 cd5 ct5 : Value} {an5 : Option Addr} : BindOk K (PySem.W.fnOf i_is_column.name i_is_column.qual i_is_column.params i_is_column.body i_is_column.scope .none kV5 dc5 pm5 an5 cd5 ct5) i_is_column.ps 1 [] g5_1 := by
  intro s us ws X hu hw
  match us, hu, ws, hw with
  | [u0], _, [], _ => exact ⟨[u0], rfl, .of_eq rfl, ⟨_, _, rfl, rfl, rfl⟩⟩
theorem p4_1 {kV4 : Value} {dc4 pm4 cd4 ct4 : Value} {an4 : Option Addr} : BindOk K (PySem.W.fnOf i_is_worth.name i_is_worth.qual i_is_worth.params i_is_worth.body i_is_worth.scope .none kV4 dc4 pm4 an4 cd4 ct4) i_is_worth.ps 1 [] g4_1 := by
  intro s us ws X hu hw
  match us, hu, ws, hw with
  | [u0], _, [], _ => exact ⟨[u0], rfl, .of_eq rfl, ⟨_, _, rfl, rfl, rfl⟩⟩
theorem p0_1 {kV0 : Value} {dc0 pm0 cd0 ct0 : Value} {an0 : Option Addr} : BindOk K (PySem.W.fnOf i_is_word_text.name i_is_word_text.qual i_is_word_text.params i_is_word_text.body i_is_word_text.scope .none kV0 dc0 pm0 an0 cd0 ct0) i_is_word_text.ps 1 [] g0_1 := by
  intro s us ws X hu hw
  match us, hu, ws, hw with
  | [u0], _, [], _ => exact ⟨[u0], rfl, .of_eq rfl, ⟨_, _, rfl, rfl, rfl⟩⟩
theorem p3_1 {kV3 : Value} {dc3 pm3 cd3 ct3 : Value} {an3 : Option Addr} : BindOk K (PySem.W.fnOf i_is_bound.name i_is_bound.qual i_is_bound.params i_is_bound.body i_is_bound.scope .none kV3 dc3 pm3 an3 cd3 ct3) i_is_bound.ps 1 [] g3_1 := by
  intro s us ws X hu hw
  match us, hu, ws, hw with
  | [u0], _, [], _ => exact ⟨[u0], rfl, .of_eq rfl, ⟨_, _, rfl, rfl, rfl⟩⟩
theorem p6_1 {kV6 : Value} {dc6 pm6 cd6 ct6 : Value} {an6 : Option Addr} : BindOk K (PySem.W.fnOf i_is_test.name i_is_test.qual i_is_test.params i_is_test.body i_is_test.scope .none kV6 dc6 pm6 an6 cd6 ct6) i_is_test.ps 1 [] g6_1 := by
  intro s us ws X hu hw
  match us, hu, ws, hw with
  | [u0], _, [], _ => exact ⟨[u0], rfl, .of_eq rfl, ⟨_, _, rfl, rfl, rfl⟩⟩
theorem p10_2 {kV10 : Value} {dc10 pm10 cd10 ct10 : Value} {an10 : Option Addr} : BindOk K (PySem.W.fnOf i__law_draw.name i__law_draw.qual i__law_draw.params i__law_draw.body i__law_draw.scope .none kV10 dc10 pm10 an10 cd10 ct10) i__law_draw.ps 2 [] g10_2 := by
  intro s us ws X hu hw
  match us, hu, ws, hw with
  | [u0, u1], _, [], _ => exact ⟨[u0, u1], rfl, .of_eq rfl, ⟨_, _, rfl, rfl, ⟨_, _, rfl, rfl, rfl⟩⟩⟩
theorem p11_1 {kV11 : Value} {dc11 pm11 cd11 ct11 : Value} {an11 : Option Addr} : BindOk K (PySem.W.fnOf i__law_limit.name i__law_limit.qual i__law_limit.params i__law_limit.body i__law_limit.scope .none kV11 dc11 pm11 an11 cd11 ct11) i__law_limit.ps 1 [] g11_1 := by
  intro s us ws X hu hw
  match us, hu, ws, hw with
  | [u0], _, [], _ => exact ⟨[u0], rfl, .of_eq rfl, ⟨_, _, rfl, rfl, rfl⟩⟩
theorem p13_1 {kV13 : Value} {dc13 pm13 cd13 ct13 : Value} {an13 : Option Addr} : BindOk K (PySem.W.fnOf i__law_test.name i__law_test.qual i__law_test.params i__law_test.body i__law_test.scope .none kV13 dc13 pm13 an13 cd13 ct13) i__law_test.ps 1 [] g13_1 := by
  intro s us ws X hu hw
  match us, hu, ws, hw with
  | [u0], _, [], _ => exact ⟨[u0], rfl, .of_eq rfl, ⟨_, _, rfl, rfl, rfl⟩⟩
theorem p12_2 {kV12 : Value} {dc12 pm12 cd12 ct12 : Value} {an12 : Option Addr} : BindOk K (PySem.W.fnOf i__law_as.name i__law_as.qual i__law_as.params i__law_as.body i__law_as.scope .none kV12 dc12 pm12 an12 cd12 ct12) i__law_as.ps 2 [] g12_2 := by
  intro s us ws X hu hw
  match us, hu, ws, hw with
  | [u0, u1], _, [], _ => exact ⟨[u0, u1], rfl, .of_eq rfl, ⟨_, _, rfl, rfl, ⟨_, _, rfl, rfl, rfl⟩⟩⟩
theorem p16_2 {kV16 : Value} {dc16 pm16 cd16 ct16 : Value} {an16 : Option Addr} : BindOk K (PySem.W.fnOf i__law_bent.name i__law_bent.qual i__law_bent.params i__law_bent.body i__law_bent.scope .none kV16 dc16 pm16 an16 cd16 ct16) i__law_bent.ps 2 [] g16_2 := by
  intro s us ws X hu hw
  match us, hu, ws, hw with
  | [u0, u1], _, [], _ => exact ⟨[u0, u1], rfl, .of_eq rfl, ⟨_, _, rfl, rfl, ⟨_, _, rfl, rfl, rfl⟩⟩⟩
theorem p15_2 {kV15 : Value} {dc15 pm15 cd15 ct15 : Value} {an15 : Option Addr} : BindOk K (PySem.W.fnOf i__law_odd.name i__law_odd.qual i__law_odd.params i__law_odd.body i__law_odd.scope .none kV15 dc15 pm15 an15 cd15 ct15) i__law_odd.ps 2 [] g15_2 := by
  intro s us ws X hu hw
  match us, hu, ws, hw with
  | [u0, u1], _, [], _ => exact ⟨[u0, u1], rfl, .of_eq rfl, ⟨_, _, rfl, rfl, ⟨_, _, rfl, rfl, rfl⟩⟩⟩
theorem p17_1 {kV17 : Value} {dc17 pm17 cd17 ct17 : Value} {an17 : Option Addr} : BindOk K (PySem.W.fnOf i__law_is_number.name i__law_is_number.qual i__law_is_number.params i__law_is_number.body i__law_is_number.scope .none kV17 dc17 pm17 an17 cd17 ct17) i__law_is_number.ps 1 [] g17_1 := by
  intro s us ws X hu hw
  match us, hu, ws, hw with
  | [u0], _, [], _ => exact ⟨[u0], rfl, .of_eq rfl, ⟨_, _, rfl, rfl, rfl⟩⟩
theorem p20_1 {kV20 : Value} {dc20 pm20 cd20 ct20 : Value} {an20 : Option Addr} : BindOk K (PySem.W.fnOf i__law_is_test.name i__law_is_test.qual i__law_is_test.params i__law_is_test.body i__law_is_test.scope .none kV20 dc20 pm20 an20 cd20 ct20) i__law_is_test.ps 1 [] g20_1 := by
  intro s us ws X hu hw
  match us, hu, ws, hw with
  | [u0], _, [], _ => exact ⟨[u0], rfl, .of_eq rfl, ⟨_, _, rfl, rfl, rfl⟩⟩
theorem p19_1 {kV19 : Value} {dc19 pm19 cd19 ct19 : Value} {an19 : Option Addr} : BindOk K (PySem.W.fnOf i__law_is_maybe.name i__law_is_maybe.qual i__law_is_maybe.params i__law_is_maybe.body i__law_is_maybe.scope .none kV19 dc19 pm19 an19 cd19 ct19) i__law_is_maybe.ps 1 [] g19_1 := by
  intro s us ws X hu hw
  match us, hu, ws, hw with
  | [u0], _, [], _ => exact ⟨[u0], rfl, .of_eq rfl, ⟨_, _, rfl, rfl, rfl⟩⟩
theorem p18_1 {kV18 : Value} {dc18 pm18 cd18 ct18 : Value} {an18 : Option Addr} : BindOk K (PySem.W.fnOf i__law_is_word.name i__law_is_word.qual i__law_is_word.params i__law_is_word.body i__law_is_word.scope .none kV18 dc18 pm18 an18 cd18 ct18) i__law_is_word.ps 1 [] g18_1 := by
  intro s us ws X hu hw
  match us, hu, ws, hw with
  | [u0], _, [], _ => exact ⟨[u0], rfl, .of_eq rfl, ⟨_, _, rfl, rfl, rfl⟩⟩
theorem p8_1 {kV8 : Value} {dc8 pm8 cd8 ct8 : Value} {an8 : Option Addr} : BindOk K (PySem.W.fnOf i_stretches_of.name i_stretches_of.qual i_stretches_of.params i_stretches_of.body i_stretches_of.scope .none kV8 dc8 pm8 an8 cd8 ct8) i_stretches_of.ps 1 [] g8_1 := by
  intro s us ws X hu hw
  match us, hu, ws, hw with
  | [u0], _, [], _ => exact ⟨[u0], rfl, .of_eq rfl, ⟨_, _, rfl, rfl, rfl⟩⟩
theorem p7_1 {kV7 : Value} {dc7 pm7 cd7 ct7 : Value} {an7 : Option Addr} : BindOk K (PySem.W.fnOf i_is_ask.name i_is_ask.qual i_is_ask.params i_is_ask.body i_is_ask.scope .none kV7 dc7 pm7 an7 cd7 ct7) i_is_ask.ps 1 [] g7_1 := by
  intro s us ws X hu hw
  match us, hu, ws, hw with
  | [u0], _, [], _ => exact ⟨[u0], rfl, .of_eq rfl, ⟨_, _, rfl, rfl, rfl⟩⟩
theorem p21_1 {kV21 : Value} {dc21 pm21 cd21 ct21 : Value} {an21 : Option Addr} : BindOk K (PySem.W.fnOf i__law_due.name i__law_due.qual i__law_due.params i__law_due.body i__law_due.scope .none kV21 dc21 pm21 an21 cd21 ct21) i__law_due.ps 1 [] g21_1 := by
  intro s us ws X hu hw
  match us, hu, ws, hw with
  | [u0], _, [], _ => exact ⟨[u0], rfl, .of_eq rfl, ⟨_, _, rfl, rfl, rfl⟩⟩
theorem p14_2 {kV14 : Value} {dc14 pm14 cd14 ct14 : Value} {an14 : Option Addr} : BindOk K (PySem.W.fnOf i__law_ask.name i__law_ask.qual i__law_ask.params i__law_ask.body i__law_ask.scope .none kV14 dc14 pm14 an14 cd14 ct14) i__law_ask.ps 2 [] g14_2 := by
  intro s us ws X hu hw
  match us, hu, ws, hw with
  | [u0, u1], _, [], _ => exact ⟨[u0, u1], rfl, .of_eq rfl, ⟨_, _, rfl, rfl, ⟨_, _, rfl, rfl, rfl⟩⟩⟩
theorem p9_1 {kV9 : Value} {dc9 pm9 cd9 ct9 : Value} {an9 : Option Addr} : BindOk K (PySem.W.fnOf i__law_source.name i__law_source.qual i__law_source.params i__law_source.body i__law_source.scope .none kV9 dc9 pm9 an9 cd9 ct9) i__law_source.ps 1 [] g9_1 := by
  intro s us ws X hu hw
  match us, hu, ws, hw with
  | [u0], _, [], _ => exact ⟨[u0], rfl, .of_eq rfl, ⟨_, _, rfl, rfl, rfl⟩⟩
end
theorem all_mk {l : PySem.W.OpenLaw} {w : World} {K : PySem.W.Frag} {h : Heap} {mg : Str → Option Value} {fa : Addr} (X : K.In h) (G : h.Ns mainGlobals mg) (hfa : mg "law" = some (.ref fa))
    {f0 : Addr} {od0 an0 : Option Addr} {sl0 : Array (Option Value)} {oc0 dc0 pm0 cd0 ct0 : Value}
    {kV0 : Value}
    {f1 : Addr} {od1 an1 : Option Addr} {sl1 : Array (Option Value)} {oc1 dc1 pm1 cd1 ct1 : Value}
    {kV1 : Value}
    {f2 : Addr} {od2 an2 : Option Addr} {sl2 : Array (Option Value)} {oc2 dc2 pm2 cd2 ct2 : Value}
    {kV2 : Value}
    {f3 : Addr} {od3 an3 : Option Addr} {sl3 : Array (Option Value)} {oc3 dc3 pm3 cd3 ct3 : Value}
    {kV3 : Value}
    {f4 : Addr} {od4 an4 : Option Addr} {sl4 : Array (Option Value)} {oc4 dc4 pm4 cd4 ct4 : Value}
    {kV4 : Value}
    {f5 : Addr} {od5 an5 : Option Addr} {sl5 : Array (Option Value)} {oc5 dc5 pm5 cd5 ct5 : Value}
    {kV5 : Value}
    {f6 : Addr} {od6 an6 : Option Addr} {sl6 : Array (Option Value)} {oc6 dc6 pm6 cd6 ct6 : Value}
    {kV6 : Value}
    {f7 : Addr} {od7 an7 : Option Addr} {sl7 : Array (Option Value)} {oc7 dc7 pm7 cd7 ct7 : Value}
    {kV7 : Value}
    {f8 : Addr} {od8 an8 : Option Addr} {sl8 : Array (Option Value)} {oc8 dc8 pm8 cd8 ct8 : Value}
    {kV8 : Value}
    {f9 : Addr} {od9 an9 : Option Addr} {sl9 : Array (Option Value)} {oc9 dc9 pm9 cd9 ct9 : Value}
    {kV9 : Value}
    {f10 : Addr} {od10 an10 : Option Addr} {sl10 : Array (Option Value)} {oc10 dc10 pm10 cd10 ct10 : Value}
    {kV10 : Value}
    {f11 : Addr} {od11 an11 : Option Addr} {sl11 : Array (Option Value)} {oc11 dc11 pm11 cd11 ct11 : Value}
    {kV11 : Value}
    {f12 : Addr} {od12 an12 : Option Addr} {sl12 : Array (Option Value)} {oc12 dc12 pm12 cd12 ct12 : Value}
    {kV12 : Value}
    {f13 : Addr} {od13 an13 : Option Addr} {sl13 : Array (Option Value)} {oc13 dc13 pm13 cd13 ct13 : Value}
    {kV13 : Value}
    {f14 : Addr} {od14 an14 : Option Addr} {sl14 : Array (Option Value)} {oc14 dc14 pm14 cd14 ct14 : Value}
    {kV14 : Value}
    {f15 : Addr} {od15 an15 : Option Addr} {sl15 : Array (Option Value)} {oc15 dc15 pm15 cd15 ct15 : Value}
    {kV15 : Value}
    {f16 : Addr} {od16 an16 : Option Addr} {sl16 : Array (Option Value)} {oc16 dc16 pm16 cd16 ct16 : Value}
    {kV16 : Value}
    {f17 : Addr} {od17 an17 : Option Addr} {sl17 : Array (Option Value)} {oc17 dc17 pm17 cd17 ct17 : Value}
    {kV17 : Value}
    {f18 : Addr} {od18 an18 : Option Addr} {sl18 : Array (Option Value)} {oc18 dc18 pm18 cd18 ct18 : Value}
    {kV18 : Value}
    {f19 : Addr} {od19 an19 : Option Addr} {sl19 : Array (Option Value)} {oc19 dc19 pm19 cd19 ct19 : Value}
    {kV19 : Value}
    {f20 : Addr} {od20 an20 : Option Addr} {sl20 : Array (Option Value)} {oc20 dc20 pm20 cd20 ct20 : Value}
    {kV20 : Value}
    {f21 : Addr} {od21 an21 : Option Addr} {sl21 : Array (Option Value)} {oc21 dc21 pm21 cd21 ct21 : Value}
    {kV21 : Value}
    {f22 : Addr} {od22 an22 : Option Addr} {sl22 : Array (Option Value)} {oc22 dc22 pm22 cd22 ct22 : Value}
    {kV22 : Value}
    {tk1 : Tok}
    {tk2 : Tok}
    {tk3 : Tok}
    {T3 : Addr} {odT3 : Option Addr} {nT3 : Nat} {slT3 : Array (Option Value)}
    {tk4 : Tok}
    {tk5 : Tok}
    {tk6 : Tok}
    {P0 : Addr}
    {es0 : Array DictEntry} {nd0 : Nat}
    {U1 : Addr} {odU1 : Option Addr} {nU1 : Nat} {slU1 : Array (Option Value)}
    {U2 : Addr} {odU2 : Option Addr} {nU2 : Nat} {slU2 : Array (Option Value)}
    {U3 : Addr} {odU3 : Option Addr} {nU3 : Nat} {slU3 : Array (Option Value)}
    {U4 : Addr} {odU4 : Option Addr} {nU4 : Nat} {slU4 : Array (Option Value)}
    {U5 : Addr} {odU5 : Option Addr} {nU5 : Nat} {slU5 : Array (Option Value)}
    {U6 : Addr} {odU6 : Option Addr} {nU6 : Nat} {slU6 : Array (Option Value)}
    (a0 : PySem.W.nsIn K mainGlobals i_is_word_text.name = some (some (.ref f0)))
    (l0 : K.lookup f0 = some ⟨oc0, od0, .func (PySem.W.fnOf i_is_word_text.name i_is_word_text.qual i_is_word_text.params i_is_word_text.body i_is_word_text.scope .none kV0 dc0 pm0 an0 cd0 ct0), sl0⟩)
    (c0 : PySem.W.codeIn K cd0 i_is_word_text.qual = true)
    (k0 : PySem.W.keepIn K (.ref f0) = true)
    (a1 : PySem.W.nsIn K mainGlobals i_is_short_text.name = some (some (.ref f1)))
    (l1 : K.lookup f1 = some ⟨oc1, od1, .func (PySem.W.fnOf i_is_short_text.name i_is_short_text.qual i_is_short_text.params i_is_short_text.body i_is_short_text.scope .none kV1 dc1 pm1 an1 cd1 ct1), sl1⟩)
    (c1 : PySem.W.codeIn K cd1 i_is_short_text.qual = true)
    (k1 : PySem.W.keepIn K (.ref f1) = true)
    (a2 : PySem.W.nsIn K mainGlobals i_is_number.name = some (some (.ref f2)))
    (l2 : K.lookup f2 = some ⟨oc2, od2, .func (PySem.W.fnOf i_is_number.name i_is_number.qual i_is_number.params i_is_number.body i_is_number.scope .none kV2 dc2 pm2 an2 cd2 ct2), sl2⟩)
    (c2 : PySem.W.codeIn K cd2 i_is_number.qual = true)
    (k2 : PySem.W.keepIn K (.ref f2) = true)
    (a3 : PySem.W.nsIn K mainGlobals i_is_bound.name = some (some (.ref f3)))
    (l3 : K.lookup f3 = some ⟨oc3, od3, .func (PySem.W.fnOf i_is_bound.name i_is_bound.qual i_is_bound.params i_is_bound.body i_is_bound.scope .none kV3 dc3 pm3 an3 cd3 ct3), sl3⟩)
    (c3 : PySem.W.codeIn K cd3 i_is_bound.qual = true)
    (k3 : PySem.W.keepIn K (.ref f3) = true)
    (a4 : PySem.W.nsIn K mainGlobals i_is_worth.name = some (some (.ref f4)))
    (l4 : K.lookup f4 = some ⟨oc4, od4, .func (PySem.W.fnOf i_is_worth.name i_is_worth.qual i_is_worth.params i_is_worth.body i_is_worth.scope .none kV4 dc4 pm4 an4 cd4 ct4), sl4⟩)
    (c4 : PySem.W.codeIn K cd4 i_is_worth.qual = true)
    (k4 : PySem.W.keepIn K (.ref f4) = true)
    (a5 : PySem.W.nsIn K mainGlobals i_is_column.name = some (some (.ref f5)))
    (l5 : K.lookup f5 = some ⟨oc5, od5, .func (PySem.W.fnOf i_is_column.name i_is_column.qual i_is_column.params i_is_column.body i_is_column.scope .none kV5 dc5 pm5 an5 cd5 ct5), sl5⟩)
    (c5 : PySem.W.codeIn K cd5 i_is_column.qual = true)
    (k5 : PySem.W.keepIn K (.ref f5) = true)
    (a6 : PySem.W.nsIn K mainGlobals i_is_test.name = some (some (.ref f6)))
    (l6 : K.lookup f6 = some ⟨oc6, od6, .func (PySem.W.fnOf i_is_test.name i_is_test.qual i_is_test.params i_is_test.body i_is_test.scope .none kV6 dc6 pm6 an6 cd6 ct6), sl6⟩)
    (c6 : PySem.W.codeIn K cd6 i_is_test.qual = true)
    (k6 : PySem.W.keepIn K (.ref f6) = true)
    (a7 : PySem.W.nsIn K mainGlobals i_is_ask.name = some (some (.ref f7)))
    (l7 : K.lookup f7 = some ⟨oc7, od7, .func (PySem.W.fnOf i_is_ask.name i_is_ask.qual i_is_ask.params i_is_ask.body i_is_ask.scope .none kV7 dc7 pm7 an7 cd7 ct7), sl7⟩)
    (c7 : PySem.W.codeIn K cd7 i_is_ask.qual = true)
    (k7 : PySem.W.keepIn K (.ref f7) = true)
    (a8 : PySem.W.nsIn K mainGlobals i_stretches_of.name = some (some (.ref f8)))
    (l8 : K.lookup f8 = some ⟨oc8, od8, .func (PySem.W.fnOf i_stretches_of.name i_stretches_of.qual i_stretches_of.params i_stretches_of.body i_stretches_of.scope .none kV8 dc8 pm8 an8 cd8 ct8), sl8⟩)
    (c8 : PySem.W.codeIn K cd8 i_stretches_of.qual = true)
    (k8 : PySem.W.keepIn K (.ref f8) = true)
    (a9 : PySem.W.nsIn K mainGlobals i__law_source.name = some (some (.ref f9)))
    (l9 : K.lookup f9 = some ⟨oc9, od9, .func (PySem.W.fnOf i__law_source.name i__law_source.qual i__law_source.params i__law_source.body i__law_source.scope .none kV9 dc9 pm9 an9 cd9 ct9), sl9⟩)
    (c9 : PySem.W.codeIn K cd9 i__law_source.qual = true)
    (k9 : PySem.W.keepIn K (.ref f9) = true)
    (a10 : PySem.W.nsIn K mainGlobals i__law_draw.name = some (some (.ref f10)))
    (l10 : K.lookup f10 = some ⟨oc10, od10, .func (PySem.W.fnOf i__law_draw.name i__law_draw.qual i__law_draw.params i__law_draw.body i__law_draw.scope .none kV10 dc10 pm10 an10 cd10 ct10), sl10⟩)
    (c10 : PySem.W.codeIn K cd10 i__law_draw.qual = true)
    (k10 : PySem.W.keepIn K (.ref f10) = true)
    (a11 : PySem.W.nsIn K mainGlobals i__law_limit.name = some (some (.ref f11)))
    (l11 : K.lookup f11 = some ⟨oc11, od11, .func (PySem.W.fnOf i__law_limit.name i__law_limit.qual i__law_limit.params i__law_limit.body i__law_limit.scope .none kV11 dc11 pm11 an11 cd11 ct11), sl11⟩)
    (c11 : PySem.W.codeIn K cd11 i__law_limit.qual = true)
    (k11 : PySem.W.keepIn K (.ref f11) = true)
    (a12 : PySem.W.nsIn K mainGlobals i__law_as.name = some (some (.ref f12)))
    (l12 : K.lookup f12 = some ⟨oc12, od12, .func (PySem.W.fnOf i__law_as.name i__law_as.qual i__law_as.params i__law_as.body i__law_as.scope .none kV12 dc12 pm12 an12 cd12 ct12), sl12⟩)
    (c12 : PySem.W.codeIn K cd12 i__law_as.qual = true)
    (k12 : PySem.W.keepIn K (.ref f12) = true)
    (a13 : PySem.W.nsIn K mainGlobals i__law_test.name = some (some (.ref f13)))
    (l13 : K.lookup f13 = some ⟨oc13, od13, .func (PySem.W.fnOf i__law_test.name i__law_test.qual i__law_test.params i__law_test.body i__law_test.scope .none kV13 dc13 pm13 an13 cd13 ct13), sl13⟩)
    (c13 : PySem.W.codeIn K cd13 i__law_test.qual = true)
    (k13 : PySem.W.keepIn K (.ref f13) = true)
    (a14 : PySem.W.nsIn K mainGlobals i__law_ask.name = some (some (.ref f14)))
    (l14 : K.lookup f14 = some ⟨oc14, od14, .func (PySem.W.fnOf i__law_ask.name i__law_ask.qual i__law_ask.params i__law_ask.body i__law_ask.scope .none kV14 dc14 pm14 an14 cd14 ct14), sl14⟩)
    (c14 : PySem.W.codeIn K cd14 i__law_ask.qual = true)
    (k14 : PySem.W.keepIn K (.ref f14) = true)
    (a15 : PySem.W.nsIn K mainGlobals i__law_odd.name = some (some (.ref f15)))
    (l15 : K.lookup f15 = some ⟨oc15, od15, .func (PySem.W.fnOf i__law_odd.name i__law_odd.qual i__law_odd.params i__law_odd.body i__law_odd.scope .none kV15 dc15 pm15 an15 cd15 ct15), sl15⟩)
    (c15 : PySem.W.codeIn K cd15 i__law_odd.qual = true)
    (k15 : PySem.W.keepIn K (.ref f15) = true)
    (a16 : PySem.W.nsIn K mainGlobals i__law_bent.name = some (some (.ref f16)))
    (l16 : K.lookup f16 = some ⟨oc16, od16, .func (PySem.W.fnOf i__law_bent.name i__law_bent.qual i__law_bent.params i__law_bent.body i__law_bent.scope .none kV16 dc16 pm16 an16 cd16 ct16), sl16⟩)
    (c16 : PySem.W.codeIn K cd16 i__law_bent.qual = true)
    (k16 : PySem.W.keepIn K (.ref f16) = true)
    (a17 : PySem.W.nsIn K mainGlobals i__law_is_number.name = some (some (.ref f17)))
    (l17 : K.lookup f17 = some ⟨oc17, od17, .func (PySem.W.fnOf i__law_is_number.name i__law_is_number.qual i__law_is_number.params i__law_is_number.body i__law_is_number.scope .none kV17 dc17 pm17 an17 cd17 ct17), sl17⟩)
    (c17 : PySem.W.codeIn K cd17 i__law_is_number.qual = true)
    (k17 : PySem.W.keepIn K (.ref f17) = true)
    (a18 : PySem.W.nsIn K mainGlobals i__law_is_word.name = some (some (.ref f18)))
    (l18 : K.lookup f18 = some ⟨oc18, od18, .func (PySem.W.fnOf i__law_is_word.name i__law_is_word.qual i__law_is_word.params i__law_is_word.body i__law_is_word.scope .none kV18 dc18 pm18 an18 cd18 ct18), sl18⟩)
    (c18 : PySem.W.codeIn K cd18 i__law_is_word.qual = true)
    (k18 : PySem.W.keepIn K (.ref f18) = true)
    (a19 : PySem.W.nsIn K mainGlobals i__law_is_maybe.name = some (some (.ref f19)))
    (l19 : K.lookup f19 = some ⟨oc19, od19, .func (PySem.W.fnOf i__law_is_maybe.name i__law_is_maybe.qual i__law_is_maybe.params i__law_is_maybe.body i__law_is_maybe.scope .none kV19 dc19 pm19 an19 cd19 ct19), sl19⟩)
    (c19 : PySem.W.codeIn K cd19 i__law_is_maybe.qual = true)
    (k19 : PySem.W.keepIn K (.ref f19) = true)
    (a20 : PySem.W.nsIn K mainGlobals i__law_is_test.name = some (some (.ref f20)))
    (l20 : K.lookup f20 = some ⟨oc20, od20, .func (PySem.W.fnOf i__law_is_test.name i__law_is_test.qual i__law_is_test.params i__law_is_test.body i__law_is_test.scope .none kV20 dc20 pm20 an20 cd20 ct20), sl20⟩)
    (c20 : PySem.W.codeIn K cd20 i__law_is_test.qual = true)
    (k20 : PySem.W.keepIn K (.ref f20) = true)
    (a21 : PySem.W.nsIn K mainGlobals i__law_due.name = some (some (.ref f21)))
    (l21 : K.lookup f21 = some ⟨oc21, od21, .func (PySem.W.fnOf i__law_due.name i__law_due.qual i__law_due.params i__law_due.body i__law_due.scope .none kV21 dc21 pm21 an21 cd21 ct21), sl21⟩)
    (c21 : PySem.W.codeIn K cd21 i__law_due.qual = true)
    (k21 : PySem.W.keepIn K (.ref f21) = true)
    (a22 : PySem.W.nsIn K mainGlobals i_law.name = some (some (.ref f22)))
    (l22 : K.lookup f22 = some ⟨oc22, od22, .func (PySem.W.fnOf i_law.name i_law.qual i_law.params i_law.body i_law.scope .none kV22 dc22 pm22 an22 cd22 ct22), sl22⟩)
    (c22 : PySem.W.codeIn K cd22 i_law.qual = true)
    (k22 : PySem.W.keepIn K (.ref f22) = true)
    (q0 : PySem.W.nsIn K mainGlobals "SMALL" = some (some (.str "abcdefghijklmnopqrstuvwxyz" tk1)))
    (q1 : PySem.W.nsIn K mainGlobals "MOST_SIGNS" = some (some (.int 16 tk2)))
    (q2 : PySem.W.nsIn K mainGlobals "FIGURES" = some (some (.str "0123456789" tk3)))
    (q3 : PySem.W.nsIn K mainGlobals "TESTS" = some (some (.ref T3)))
    (qt3 : K.lookup T3 = some ⟨.type "tuple", odT3, .seq #[(.str "is" tk4), (.str "under" tk5), (.str "over" tk6)] nT3, slT3⟩)
    (e0 : PySem.W.nsIn K mainGlobals "PARTS" = some (some (.ref P0)))
    (el0 : K.lookup P0 = some ⟨.type "dict", none, .dict es0 nd0, #[]⟩)
    (es_0 : (P0 == sysModules) = false)
    (ek0 : es0.toList.map He.keyOf = He.keysIn w.params ["row", "past", "all", "count", "total", "pair"])
    (ev0_0 : PySem.W.nsIn K P0 "row" = some (some (.ref U1)))
    (qU1 : K.lookup U1 = some ⟨.type "tuple", odU1, .seq #[(.ref f0), (.ref f2), (.ref f3)] nU1, slU1⟩)
    (ev0_1 : PySem.W.nsIn K P0 "past" = some (some (.ref U2)))
    (qU2 : K.lookup U2 = some ⟨.type "tuple", odU2, .seq #[(.ref f0), (.ref f2)] nU2, slU2⟩)
    (ev0_2 : PySem.W.nsIn K P0 "all" = some (some (.ref U3)))
    (qU3 : K.lookup U3 = some ⟨.type "tuple", odU3, .seq #[(.ref f0), (.ref f3), (.ref f3), (.ref f6), (.ref f3)] nU3, slU3⟩)
    (ev0_3 : PySem.W.nsIn K P0 "count" = some (some (.ref U4)))
    (qU4 : K.lookup U4 = some ⟨.type "tuple", odU4, .seq #[(.ref f0), (.ref f3), (.ref f3), (.ref f3)] nU4, slU4⟩)
    (ev0_4 : PySem.W.nsIn K P0 "total" = some (some (.ref U5)))
    (qU5 : K.lookup U5 = some ⟨.type "tuple", odU5, .seq #[(.ref f0), (.ref f3), (.ref f3), (.ref f5), (.ref f3)] nU5, slU5⟩)
    (ev0_5 : PySem.W.nsIn K P0 "pair" = some (some (.ref U6)))
    (qU6 : K.lookup U6 = some ⟨.type "tuple", odU6, .seq #[(.ref f0), (.ref f0), (.ref f3)] nU6, slU6⟩)
    (z0 : PySem.W.nsIn K mainGlobals "isinstance" = some none)
    (z1 : PySem.W.nsIn K mainGlobals "str" = some none)
    (z2 : PySem.W.nsIn K mainGlobals "len" = some none)
    (z3 : PySem.W.nsIn K mainGlobals "all" = some none)
    (z4 : PySem.W.nsIn K mainGlobals "int" = some none)
    (z5 : PySem.W.nsIn K mainGlobals "bool" = some none)
    (z6 : PySem.W.nsIn K mainGlobals "tuple" = some none)
    (z7 : PySem.W.nsIn K mainGlobals "zip" = some none)
    (z8 : PySem.W.nsIn K mainGlobals "list" = some none)
    (z9 : PySem.W.nsIn K mainGlobals "repr" = some none)
    (z10 : PySem.W.nsIn K mainGlobals "range" = some none)
    : ∃ (fd : FuncData) (Fi : List D → Hpp → R D), (∀ (s : Shared) (u : Value), BindsTo s fd ⟨[u], []⟩ [("_law_script", u)]) ∧
        (∀ base : Heap, K.In base → base.Ns mainGlobals mg → FnG l.prog w K mg base 60 fa fd ["_law_script"] (spG K Fi)) ∧
        ∀ ns : List Int, ns.length ≤ 63 → ∃ A', Fi [.ref 0] [.rd (ns.map D.int)] = .ok (.bl true) A' := by
  have e := hfa.symm.trans (PySem.W.mg_of X G a22)
  obtain rfl : f22 = fa := by cases e; rfl
  let ad : Nat → Addr := fun i => match i with
    | 0 => f0
    | 1 => f1
    | 2 => f2
    | 3 => f3
    | 4 => f4
    | 5 => f5
    | 6 => f6
    | 7 => f7
    | 8 => f8
    | 9 => f9
    | 10 => f10
    | 11 => f11
    | 12 => f12
    | 13 => f13
    | 14 => f14
    | 15 => f15
    | 16 => f16
    | 17 => f17
    | 18 => f18
    | 19 => f19
    | 20 => f20
    | 21 => f21
    | 22 => f22
    | _ => 0
  let fd : Nat → FuncData := fun i => match i with
    | 0 => PySem.W.fnOf i_is_word_text.name i_is_word_text.qual i_is_word_text.params i_is_word_text.body i_is_word_text.scope .none kV0 dc0 pm0 an0 cd0 ct0
    | 1 => PySem.W.fnOf i_is_short_text.name i_is_short_text.qual i_is_short_text.params i_is_short_text.body i_is_short_text.scope .none kV1 dc1 pm1 an1 cd1 ct1
    | 2 => PySem.W.fnOf i_is_number.name i_is_number.qual i_is_number.params i_is_number.body i_is_number.scope .none kV2 dc2 pm2 an2 cd2 ct2
    | 3 => PySem.W.fnOf i_is_bound.name i_is_bound.qual i_is_bound.params i_is_bound.body i_is_bound.scope .none kV3 dc3 pm3 an3 cd3 ct3
    | 4 => PySem.W.fnOf i_is_worth.name i_is_worth.qual i_is_worth.params i_is_worth.body i_is_worth.scope .none kV4 dc4 pm4 an4 cd4 ct4
    | 5 => PySem.W.fnOf i_is_column.name i_is_column.qual i_is_column.params i_is_column.body i_is_column.scope .none kV5 dc5 pm5 an5 cd5 ct5
    | 6 => PySem.W.fnOf i_is_test.name i_is_test.qual i_is_test.params i_is_test.body i_is_test.scope .none kV6 dc6 pm6 an6 cd6 ct6
    | 7 => PySem.W.fnOf i_is_ask.name i_is_ask.qual i_is_ask.params i_is_ask.body i_is_ask.scope .none kV7 dc7 pm7 an7 cd7 ct7
    | 8 => PySem.W.fnOf i_stretches_of.name i_stretches_of.qual i_stretches_of.params i_stretches_of.body i_stretches_of.scope .none kV8 dc8 pm8 an8 cd8 ct8
    | 9 => PySem.W.fnOf i__law_source.name i__law_source.qual i__law_source.params i__law_source.body i__law_source.scope .none kV9 dc9 pm9 an9 cd9 ct9
    | 10 => PySem.W.fnOf i__law_draw.name i__law_draw.qual i__law_draw.params i__law_draw.body i__law_draw.scope .none kV10 dc10 pm10 an10 cd10 ct10
    | 11 => PySem.W.fnOf i__law_limit.name i__law_limit.qual i__law_limit.params i__law_limit.body i__law_limit.scope .none kV11 dc11 pm11 an11 cd11 ct11
    | 12 => PySem.W.fnOf i__law_as.name i__law_as.qual i__law_as.params i__law_as.body i__law_as.scope .none kV12 dc12 pm12 an12 cd12 ct12
    | 13 => PySem.W.fnOf i__law_test.name i__law_test.qual i__law_test.params i__law_test.body i__law_test.scope .none kV13 dc13 pm13 an13 cd13 ct13
    | 14 => PySem.W.fnOf i__law_ask.name i__law_ask.qual i__law_ask.params i__law_ask.body i__law_ask.scope .none kV14 dc14 pm14 an14 cd14 ct14
    | 15 => PySem.W.fnOf i__law_odd.name i__law_odd.qual i__law_odd.params i__law_odd.body i__law_odd.scope .none kV15 dc15 pm15 an15 cd15 ct15
    | 16 => PySem.W.fnOf i__law_bent.name i__law_bent.qual i__law_bent.params i__law_bent.body i__law_bent.scope .none kV16 dc16 pm16 an16 cd16 ct16
    | 17 => PySem.W.fnOf i__law_is_number.name i__law_is_number.qual i__law_is_number.params i__law_is_number.body i__law_is_number.scope .none kV17 dc17 pm17 an17 cd17 ct17
    | 18 => PySem.W.fnOf i__law_is_word.name i__law_is_word.qual i__law_is_word.params i__law_is_word.body i__law_is_word.scope .none kV18 dc18 pm18 an18 cd18 ct18
    | 19 => PySem.W.fnOf i__law_is_maybe.name i__law_is_maybe.qual i__law_is_maybe.params i__law_is_maybe.body i__law_is_maybe.scope .none kV19 dc19 pm19 an19 cd19 ct19
    | 20 => PySem.W.fnOf i__law_is_test.name i__law_is_test.qual i__law_is_test.params i__law_is_test.body i__law_is_test.scope .none kV20 dc20 pm20 an20 cd20 ct20
    | 21 => PySem.W.fnOf i__law_due.name i__law_due.qual i__law_due.params i__law_due.body i__law_due.scope .none kV21 dc21 pm21 an21 cd21 ct21
    | 22 => PySem.W.fnOf i_law.name i_law.qual i_law.params i_law.body i_law.scope .none kV22 dc22 pm22 an22 cd22 ct22
    | _ => PySem.W.fnOf i_is_word_text.name i_is_word_text.qual i_is_word_text.params i_is_word_text.body i_is_word_text.scope .none kV0 dc0 pm0 an0 cd0 ct0
  have W : World' tb w K mg ad fd := by
    refine ⟨?_, ?_, ?_, ?_, ?_, ?_⟩
    · intro x hx
      simp only [tb, List.mem_cons, List.not_mem_nil, or_false] at hx
      rcases hx with rfl | rfl | rfl | rfl | rfl | rfl | rfl | rfl | rfl | rfl | rfl
      · exact PySem.W.mg_none_of X G z0
      · exact PySem.W.mg_none_of X G z1
      · exact PySem.W.mg_none_of X G z2
      · exact PySem.W.mg_none_of X G z3
      · exact PySem.W.mg_none_of X G z4
      · exact PySem.W.mg_none_of X G z5
      · exact PySem.W.mg_none_of X G z6
      · exact PySem.W.mg_none_of X G z7
      · exact PySem.W.mg_none_of X G z8
      · exact PySem.W.mg_none_of X G z9
      · exact PySem.W.mg_none_of X G z10
    · intro p hp
      simp only [tb, List.mem_cons, List.not_mem_nil, or_false] at hp
      rcases hp with rfl | rfl | rfl | rfl
      · exact ⟨(V.str "abcdefghijklmnopqrstuvwxyz"), _, PySem.W.mg_of X G q0, ⟨_, rfl⟩, fun _ _ => rfl⟩
      · exact ⟨(V.int 16), _, PySem.W.mg_of X G q1, ⟨_, rfl⟩, fun _ _ => rfl⟩
      · exact ⟨(V.str "0123456789"), _, PySem.W.mg_of X G q2, ⟨_, rfl⟩, fun _ _ => rfl⟩
      · refine ⟨V.ref T3, _, PySem.W.mg_of X G q3, rfl, fun H m => ?_⟩
        simp only [Rep, RepL]
        exact ⟨T3, [(V.str "is"), (V.str "under"), (V.str "over")], rfl, .inr ⟨_, _, _, qt3, rfl, rfl, by rw [sizeLine_eq]; simp, (.cons ⟨_, rfl⟩ (.cons ⟨_, rfl⟩ (.cons ⟨_, rfl⟩ .nil)))⟩, _, _, rfl, rfl, _, _, rfl, rfl, _, _, rfl, rfl, rfl⟩
    · intro i I h
      match i with
      | 0 => cases h; exact ⟨PySem.W.mg_of X G a0, k0, oc0, od0, _, _, dc0, pm0, an0, cd0, ct0, sl0, rfl, l0, c0⟩
      | 1 => cases h; exact ⟨PySem.W.mg_of X G a1, k1, oc1, od1, _, _, dc1, pm1, an1, cd1, ct1, sl1, rfl, l1, c1⟩
      | 2 => cases h; exact ⟨PySem.W.mg_of X G a2, k2, oc2, od2, _, _, dc2, pm2, an2, cd2, ct2, sl2, rfl, l2, c2⟩
      | 3 => cases h; exact ⟨PySem.W.mg_of X G a3, k3, oc3, od3, _, _, dc3, pm3, an3, cd3, ct3, sl3, rfl, l3, c3⟩
      | 4 => cases h; exact ⟨PySem.W.mg_of X G a4, k4, oc4, od4, _, _, dc4, pm4, an4, cd4, ct4, sl4, rfl, l4, c4⟩
      | 5 => cases h; exact ⟨PySem.W.mg_of X G a5, k5, oc5, od5, _, _, dc5, pm5, an5, cd5, ct5, sl5, rfl, l5, c5⟩
      | 6 => cases h; exact ⟨PySem.W.mg_of X G a6, k6, oc6, od6, _, _, dc6, pm6, an6, cd6, ct6, sl6, rfl, l6, c6⟩
      | 7 => cases h; exact ⟨PySem.W.mg_of X G a7, k7, oc7, od7, _, _, dc7, pm7, an7, cd7, ct7, sl7, rfl, l7, c7⟩
      | 8 => cases h; exact ⟨PySem.W.mg_of X G a8, k8, oc8, od8, _, _, dc8, pm8, an8, cd8, ct8, sl8, rfl, l8, c8⟩
      | 9 => cases h; exact ⟨PySem.W.mg_of X G a9, k9, oc9, od9, _, _, dc9, pm9, an9, cd9, ct9, sl9, rfl, l9, c9⟩
      | 10 => cases h; exact ⟨PySem.W.mg_of X G a10, k10, oc10, od10, _, _, dc10, pm10, an10, cd10, ct10, sl10, rfl, l10, c10⟩
      | 11 => cases h; exact ⟨PySem.W.mg_of X G a11, k11, oc11, od11, _, _, dc11, pm11, an11, cd11, ct11, sl11, rfl, l11, c11⟩
      | 12 => cases h; exact ⟨PySem.W.mg_of X G a12, k12, oc12, od12, _, _, dc12, pm12, an12, cd12, ct12, sl12, rfl, l12, c12⟩
      | 13 => cases h; exact ⟨PySem.W.mg_of X G a13, k13, oc13, od13, _, _, dc13, pm13, an13, cd13, ct13, sl13, rfl, l13, c13⟩
      | 14 => cases h; exact ⟨PySem.W.mg_of X G a14, k14, oc14, od14, _, _, dc14, pm14, an14, cd14, ct14, sl14, rfl, l14, c14⟩
      | 15 => cases h; exact ⟨PySem.W.mg_of X G a15, k15, oc15, od15, _, _, dc15, pm15, an15, cd15, ct15, sl15, rfl, l15, c15⟩
      | 16 => cases h; exact ⟨PySem.W.mg_of X G a16, k16, oc16, od16, _, _, dc16, pm16, an16, cd16, ct16, sl16, rfl, l16, c16⟩
      | 17 => cases h; exact ⟨PySem.W.mg_of X G a17, k17, oc17, od17, _, _, dc17, pm17, an17, cd17, ct17, sl17, rfl, l17, c17⟩
      | 18 => cases h; exact ⟨PySem.W.mg_of X G a18, k18, oc18, od18, _, _, dc18, pm18, an18, cd18, ct18, sl18, rfl, l18, c18⟩
      | 19 => cases h; exact ⟨PySem.W.mg_of X G a19, k19, oc19, od19, _, _, dc19, pm19, an19, cd19, ct19, sl19, rfl, l19, c19⟩
      | 20 => cases h; exact ⟨PySem.W.mg_of X G a20, k20, oc20, od20, _, _, dc20, pm20, an20, cd20, ct20, sl20, rfl, l20, c20⟩
      | 21 => cases h; exact ⟨PySem.W.mg_of X G a21, k21, oc21, od21, _, _, dc21, pm21, an21, cd21, ct21, sl21, rfl, l21, c21⟩
      | 22 => cases h; exact ⟨PySem.W.mg_of X G a22, k22, oc22, od22, _, _, dc22, pm22, an22, cd22, ct22, sl22, rfl, l22, c22⟩
      | _ + 23 => simp [tb] at h
    · intro p hp
      simp only [tb, List.mem_cons, List.not_mem_nil, or_false] at hp
      rcases hp with rfl | rfl | rfl | rfl | rfl | rfl | rfl | rfl | rfl | rfl | rfl | rfl | rfl | rfl | rfl | rfl | rfl | rfl | rfl | rfl | rfl | rfl
      · intro I hI; cases hI; exact p2_1 
      · intro I hI; cases hI; exact p1_1 
      · intro I hI; cases hI; exact p5_1 
      · intro I hI; cases hI; exact p4_1 
      · intro I hI; cases hI; exact p0_1 
      · intro I hI; cases hI; exact p3_1 
      · intro I hI; cases hI; exact p6_1 
      · intro I hI; cases hI; exact p10_2 
      · intro I hI; cases hI; exact p11_1 
      · intro I hI; cases hI; exact p13_1 
      · intro I hI; cases hI; exact p12_2 
      · intro I hI; cases hI; exact p16_2 
      · intro I hI; cases hI; exact p15_2 
      · intro I hI; cases hI; exact p17_1 
      · intro I hI; cases hI; exact p20_1 
      · intro I hI; cases hI; exact p19_1 
      · intro I hI; cases hI; exact p18_1 
      · intro I hI; cases hI; exact p8_1 
      · intro I hI; cases hI; exact p7_1 
      · intro I hI; cases hI; exact p21_1 
      · intro I hI; cases hI; exact p14_2 
      · intro I hI; cases hI; exact p9_1 
    · intro p hp
      simp only [tb, List.mem_cons, List.not_mem_nil, or_false] at hp
      rcases hp with rfl
      · refine ⟨P0, PySem.W.mg_of X G e0, He.dicW_ok (dicW_of el0 es_0 ek0), fun z => dicW_get (dicW_of el0 es_0 ek0) z, fun p hp => ?_⟩
        simp only [List.mem_cons, List.not_mem_nil, or_false] at hp
        rcases hp with rfl | rfl | rfl | rfl | rfl | rfl
        · exact ⟨_, (V.ref U1), ev0_0, rfl, fun H m => ⟨U1, [(V.ref f0), (V.ref f2), (V.ref f3)], rfl, .inr ⟨_, _, _, qU1, rfl, rfl, by rw [sizeLine_eq]; simp, (.cons rfl (.cons rfl (.cons rfl .nil)))⟩, ⟨_, _, rfl, ⟨f0, a0, rfl⟩, ⟨_, _, rfl, ⟨f2, a2, rfl⟩, ⟨_, _, rfl, ⟨f3, a3, rfl⟩, rfl⟩⟩⟩⟩⟩
        · exact ⟨_, (V.ref U2), ev0_1, rfl, fun H m => ⟨U2, [(V.ref f0), (V.ref f2)], rfl, .inr ⟨_, _, _, qU2, rfl, rfl, by rw [sizeLine_eq]; simp, (.cons rfl (.cons rfl .nil))⟩, ⟨_, _, rfl, ⟨f0, a0, rfl⟩, ⟨_, _, rfl, ⟨f2, a2, rfl⟩, rfl⟩⟩⟩⟩
        · exact ⟨_, (V.ref U3), ev0_2, rfl, fun H m => ⟨U3, [(V.ref f0), (V.ref f3), (V.ref f3), (V.ref f6), (V.ref f3)], rfl, .inr ⟨_, _, _, qU3, rfl, rfl, by rw [sizeLine_eq]; simp, (.cons rfl (.cons rfl (.cons rfl (.cons rfl (.cons rfl .nil)))))⟩, ⟨_, _, rfl, ⟨f0, a0, rfl⟩, ⟨_, _, rfl, ⟨f3, a3, rfl⟩, ⟨_, _, rfl, ⟨f3, a3, rfl⟩, ⟨_, _, rfl, ⟨f6, a6, rfl⟩, ⟨_, _, rfl, ⟨f3, a3, rfl⟩, rfl⟩⟩⟩⟩⟩⟩⟩
        · exact ⟨_, (V.ref U4), ev0_3, rfl, fun H m => ⟨U4, [(V.ref f0), (V.ref f3), (V.ref f3), (V.ref f3)], rfl, .inr ⟨_, _, _, qU4, rfl, rfl, by rw [sizeLine_eq]; simp, (.cons rfl (.cons rfl (.cons rfl (.cons rfl .nil))))⟩, ⟨_, _, rfl, ⟨f0, a0, rfl⟩, ⟨_, _, rfl, ⟨f3, a3, rfl⟩, ⟨_, _, rfl, ⟨f3, a3, rfl⟩, ⟨_, _, rfl, ⟨f3, a3, rfl⟩, rfl⟩⟩⟩⟩⟩⟩
        · exact ⟨_, (V.ref U5), ev0_4, rfl, fun H m => ⟨U5, [(V.ref f0), (V.ref f3), (V.ref f3), (V.ref f5), (V.ref f3)], rfl, .inr ⟨_, _, _, qU5, rfl, rfl, by rw [sizeLine_eq]; simp, (.cons rfl (.cons rfl (.cons rfl (.cons rfl (.cons rfl .nil)))))⟩, ⟨_, _, rfl, ⟨f0, a0, rfl⟩, ⟨_, _, rfl, ⟨f3, a3, rfl⟩, ⟨_, _, rfl, ⟨f3, a3, rfl⟩, ⟨_, _, rfl, ⟨f5, a5, rfl⟩, ⟨_, _, rfl, ⟨f3, a3, rfl⟩, rfl⟩⟩⟩⟩⟩⟩⟩
        · exact ⟨_, (V.ref U6), ev0_5, rfl, fun H m => ⟨U6, [(V.ref f0), (V.ref f0), (V.ref f3)], rfl, .inr ⟨_, _, _, qU6, rfl, rfl, by rw [sizeLine_eq]; simp, (.cons rfl (.cons rfl (.cons rfl .nil)))⟩, ⟨_, _, rfl, ⟨f0, a0, rfl⟩, ⟨_, _, rfl, ⟨f0, a0, rfl⟩, ⟨_, _, rfl, ⟨f3, a3, rfl⟩, rfl⟩⟩⟩⟩⟩
    · intro i hi I h
      simp only [tb, List.mem_cons, List.not_mem_nil, or_false] at hi
      rcases hi with rfl | rfl | rfl | rfl | rfl
      · cases h; exact a0
      · cases h; exact a2
      · cases h; exact a3
      · cases h; exact a5
      · cases h; exact a6
  refine ⟨fd 22, FF pr 60 22, fun s u => .of_eq rfl, fun base _ _ => fnG_all (P := l.prog) (w := w) (base := base) W turned 60 22 i_law rfl, fun ns hn => lv_law ns (Nat.le_trans hn (by decide))⟩
end Rf.K37
open PySem PySem.W PyProof.Rows
set_option maxRecDepth 100000 in
set_option maxHeartbeats 0 in
theorem PySem.Challenge.cw_sealedrows_k37_asks_by_kind_holds : PySem.Challenge.rw_sealedrows_k37_asks_by_kind.Holds := by
  w_on; o_law; k_head; (case hw => w_witness2)
  k_fill
  refine Rf.walkG (l := PySem.Challenge.rw_sealedrows_k37_asks_by_kind) (n := 63) (k := 60) (x := "_law_script") rfl (by decide) rfl ⟨rfl, by decide, by decide⟩ (fun w h Y => PySem.W.kIn_of Y) ?F
  case F =>
    intro w mg fa h KX G hmg
    refine' Rf.K37.all_mk KX G hmg ?a0 ?l0 ?c0 ?k0 ?a1 ?l1 ?c1 ?k1 ?a2 ?l2 ?c2 ?k2 ?a3 ?l3 ?c3 ?k3 ?a4 ?l4 ?c4 ?k4 ?a5 ?l5 ?c5 ?k5 ?a6 ?l6 ?c6 ?k6 ?a7 ?l7 ?c7 ?k7 ?a8 ?l8 ?c8 ?k8 ?a9 ?l9 ?c9 ?k9 ?a10 ?l10 ?c10 ?k10 ?a11 ?l11 ?c11 ?k11 ?a12 ?l12 ?c12 ?k12 ?a13 ?l13 ?c13 ?k13 ?a14 ?l14 ?c14 ?k14 ?a15 ?l15 ?c15 ?k15 ?a16 ?l16 ?c16 ?k16 ?a17 ?l17 ?c17 ?k17 ?a18 ?l18 ?c18 ?k18 ?a19 ?l19 ?c19 ?k19 ?a20 ?l20 ?c20 ?k20 ?a21 ?l21 ?c21 ?k21 ?a22 ?l22 ?c22 ?k22 ?q0 ?q1 ?q2 ?q3 ?qt3 ?e0 ?el0 ?es_0 ?ek0 ?ev0_0 ?qU1 ?ev0_1 ?qU2 ?ev0_2 ?qU3 ?ev0_3 ?qU4 ?ev0_4 ?qU5 ?ev0_5 ?qU6 ?z0 ?z1 ?z2 ?z3 ?z4 ?z5 ?z6 ?z7 ?z8 ?z9 ?z10
    (case a0 => k_is)
    (case l0 => k_is)
    (case c0 => k_is)
    (case k0 => k_is)
    (case a1 => k_is)
    (case l1 => k_is)
    (case c1 => k_is)
    (case k1 => k_is)
    (case a2 => k_is)
    (case l2 => k_is)
    (case c2 => k_is)
    (case k2 => k_is)
    (case a3 => k_is)
    (case l3 => k_is)
    (case c3 => k_is)
    (case k3 => k_is)
    (case a4 => k_is)
    (case l4 => k_is)
    (case c4 => k_is)
    (case k4 => k_is)
    (case a5 => k_is)
    (case l5 => k_is)
    (case c5 => k_is)
    (case k5 => k_is)
    (case a6 => k_is)
    (case l6 => k_is)
    (case c6 => k_is)
    (case k6 => k_is)
    (case a7 => k_is)
    (case l7 => k_is)
    (case c7 => k_is)
    (case k7 => k_is)
    (case a8 => k_is)
    (case l8 => k_is)
    (case c8 => k_is)
    (case k8 => k_is)
    (case a9 => k_is)
    (case l9 => k_is)
    (case c9 => k_is)
    (case k9 => k_is)
    (case a10 => k_is)
    (case l10 => k_is)
    (case c10 => k_is)
    (case k10 => k_is)
    (case a11 => k_is)
    (case l11 => k_is)
    (case c11 => k_is)
    (case k11 => k_is)
    (case a12 => k_is)
    (case l12 => k_is)
    (case c12 => k_is)
    (case k12 => k_is)
    (case a13 => k_is)
    (case l13 => k_is)
    (case c13 => k_is)
    (case k13 => k_is)
    (case a14 => k_is)
    (case l14 => k_is)
    (case c14 => k_is)
    (case k14 => k_is)
    (case a15 => k_is)
    (case l15 => k_is)
    (case c15 => k_is)
    (case k15 => k_is)
    (case a16 => k_is)
    (case l16 => k_is)
    (case c16 => k_is)
    (case k16 => k_is)
    (case a17 => k_is)
    (case l17 => k_is)
    (case c17 => k_is)
    (case k17 => k_is)
    (case a18 => k_is)
    (case l18 => k_is)
    (case c18 => k_is)
    (case k18 => k_is)
    (case a19 => k_is)
    (case l19 => k_is)
    (case c19 => k_is)
    (case k19 => k_is)
    (case a20 => k_is)
    (case l20 => k_is)
    (case c20 => k_is)
    (case k20 => k_is)
    (case a21 => k_is)
    (case l21 => k_is)
    (case c21 => k_is)
    (case k21 => k_is)
    (case a22 => k_is)
    (case l22 => k_is)
    (case c22 => k_is)
    (case k22 => k_is)
    (case q0 => k_is)
    (case q1 => k_is)
    (case q2 => k_is)
    (case q3 => k_is)
    (case qt3 => k_is)
    (case e0 => k_is)
    (case el0 => k_is)
    (case es_0 => decide)
    (case ek0 => first | rfl | kernel_rfl)
    (case ev0_0 => k_is)
    (case qU1 => k_is)
    (case ev0_1 => k_is)
    (case qU2 => k_is)
    (case ev0_2 => k_is)
    (case qU3 => k_is)
    (case ev0_3 => k_is)
    (case qU4 => k_is)
    (case ev0_4 => k_is)
    (case qU5 => k_is)
    (case ev0_5 => k_is)
    (case qU6 => k_is)
    (case z0 => k_is)
    (case z1 => k_is)
    (case z2 => k_is)
    (case z3 => k_is)
    (case z4 => k_is)
    (case z5 => k_is)
    (case z6 => k_is)
    (case z7 => k_is)
    (case z8 => k_is)
    (case z9 => k_is)
    (case z10 => k_is)
