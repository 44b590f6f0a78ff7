import PyProof.Rows.All
import Wide.All
import OpenK.AllK
import Wide.FinOn
import HandS.ForMost
import HandS.Flow
import HandS.IsInst
import HandS.TupAny
import HandS.TupMul
import HandS.Wide
import HandS.Conv
import HandS.Defaults
import HandS.NoneIn
import HandS.SortKw
import HandS.Deep
import HandS.Style
import PyProof.CollectIter
import PyProof.WalksMore
import HandS.Codes
import HandS.Iter
import HandS.Zip
import PySem.Challenge.RW_sealedrows_k03_collisions_judged
set_option Elab.async false
set_option linter.all false
set_option maxRecDepth 100000
set_option autoImplicit false
set_option maxHeartbeats 4000000
namespace Rf
open PySem L2
/-- what a name may hold: tuples are structural, lists and dicts are places of the small heap -/
inductive D where
  | non | bl (b : Bool) | int (i : Int) | str (s : Str) | tup (l : List D) | ref (n : Nat)
  deriving Inhabited
mutual
def D.beq : D → D → Bool
  | .non, .non => true
  | .bl a, .bl b => a == b
  | .int a, .int b => a == b
  | .str a, .str b => a == b
  | .tup a, .tup b => D.beqL a b
  | .ref a, .ref b => a == b
  | _, _ => false
def D.beqL : List D → List D → Bool
  | [], [] => true
  | a :: r, b :: t => D.beq a b && D.beqL r t
  | _, _ => false
end
mutual
theorem D.beq_iff : ∀ a b : D, D.beq a b = true ↔ a = b
  | .non, b => by cases b <;> simp [D.beq]
  | .bl a, b => by cases b <;> simp [D.beq]
  | .int a, b => by cases b <;> simp [D.beq]
  | .str a, b => by cases b <;> simp [D.beq]
  | .tup a, b => by
    cases b with
    | tup c => simp [D.beq, D.beqL_iff a c]
    | _ => simp [D.beq]
  | .ref a, b => by cases b <;> simp [D.beq]
theorem D.beqL_iff : ∀ a b : List D, D.beqL a b = true ↔ a = b
  | [], b => by cases b <;> simp [D.beqL]
  | x :: r, b => by
    cases b with
    | nil => simp [D.beqL]
    | cons y t => simp [D.beqL, D.beq_iff x y, D.beqL_iff r t]
end
instance : DecidableEq D := fun a b => decidable_of_iff _ (D.beq_iff a b)
mutual
/-- all places in it lie below n -/
def D.low (n : Nat) : D → Bool
  | .ref k => decide (k < n)
  | .tup l => D.lowL n l
  | _ => true
def D.lowL (n : Nat) : List D → Bool
  | [] => true
  | d :: r => D.low n d && D.lowL n r
end
/-- what stands at a place -/
inductive HOb where
  | lst (l : List D) | rd (l : List D) | dct (kvs : List (Key × D))
  deriving DecidableEq, Inhabited
def HOb.low (n : Nat) : HOb → Bool
  | .lst l => D.lowL n l
  | .rd l => D.lowL n l
  | .dct kvs => D.lowL n (kvs.map (·.2))
abbrev Hpp := List HOb
abbrev Loc := List (Option D)
/-- what a piece of code comes to -/
inductive R (α : Type) where
  | ok (a : α) (A : Hpp) | ex (c : Nat) (fs : List D) (A : Hpp) | bad
  deriving Inhabited
def R.bind {α β : Type} : R α → (α → Hpp → R β) → R β
  | .ok a A, f => f a A
  | .ex c fs A, _ => .ex c fs A
  | .bad, _ => .bad
@[simp] theorem R.bind_ok {α β : Type} (a : α) (A : Hpp) (f : α → Hpp → R β) : (R.ok a A).bind f = f a A := rfl
@[simp] theorem R.bind_bad {α β : Type} (f : α → Hpp → R β) : (R.bad).bind f = .bad := rfl
theorem R.bind_eq_ok {α β : Type} {r : R α} {f : α → Hpp → R β} {b : β} {A' : Hpp} (h : r.bind f = .ok b A') : ∃ a A, r = .ok a A ∧ f a A = .ok b A' := by
  cases r with
  | ok a A => exact ⟨a, A, rfl, h⟩
  | ex c fs A => cases h
  | bad => cases h
def R.ofO {α : Type} (o : Option α) (A : Hpp) : R α := match o with | some a => .ok a A | none => .bad
theorem R.ofO_ok {α : Type} {o : Option α} {A : Hpp} {a : α} {A' : Hpp} (h : R.ofO o A = .ok a A') : o = some a ∧ A' = A := by
  cases o with
  | none => cases h
  | some x => cases h; exact ⟨rfl, rfl⟩
abbrev M := Loc → Hpp → R D
abbrev MB := Loc → Hpp → R Bool
abbrev ML := Loc → Hpp → R (List D)
inductive O where
  | nx (L : Loc) | rt (d : D) | bk (L : Loc) | ct (L : Loc)
abbrev S := Loc → Hpp → R O
abbrev FE := Nat → List D → Hpp → R D
/-! ### data -/
def optAll {α : Type} : List (Option α) → Option (List α)
  | [] => some []
  | some x :: r => (optAll r).map (x :: ·)
  | none :: _ => none
/-- a thing with its lists read, so deep at most -/
def D.snap (A : Hpp) : Nat → D → Option PyData
  | _, .non => some .none
  | _, .bl b => some (.bool b)
  | _, .int i => some (.int i)
  | _, .str s => some (.str s)
  | n + 1, .tup l => (optAll (l.map (D.snap A n))).map .tuple
  | n + 1, .ref k => match A[k]? with
    | some (.lst l) => (optAll (l.map (D.snap A n))).map .list
    | some (.rd l) => (optAll (l.map (D.snap A n))).map .list
    | _ => none
  | 0, .tup _ => none
  | 0, .ref _ => none
/-- how deep is looked -/
def deepest : Nat := 64
def D.scalar : D → Bool
  | .non => true | .bl _ => true | .int _ => true | .str _ => true | _ => false
/-- == of two things -/
def eqD (x y : D) (A : Hpp) : Option Bool :=
  match x, y with
  | .str a, .str b => some (decide (a = b))
  | .int a, .int b => some (decide (a = b))
  | .str _, .int _ => some false
  | .int _, .str _ => some false
  | .non, .str _ => some false
  | .str _, .non => some false
  | x, y => match x.snap A deepest, y.snap A deepest with
    | some d, some e => if SeqAt.shaped d && SeqAt.shaped e then some (PyData.eqv d e) else none
    | _, _ => none
/-- truth -/
def truth (d : D) (A : Hpp) : Option Bool :=
  match d with
  | .non => some false
  | .bl b => some b
  | .int i => some (i != 0)
  | .str s => if s.length ≤ sizeLine then some ((s.length : Int) != 0) else none
  | .tup l => some (!l.isEmpty)
  | .ref n => match A[n]? with
    | some (.lst l) => some (!l.isEmpty)
    | some (.rd l) => some (!l.isEmpty)
    | some (.dct l) => some (!l.isEmpty)
    | none => none
/-! ### operators -/
def opAdd (x y : D) (A : Hpp) : R D :=
  match x, y with
  | .int i, .int j => .ok (.int (i + j)) A
  | .bl k, .int j => .ok (.int ((if k = true then 1 else 0) + j)) A
  | .str a, .str b => if a.length + b.length ≤ sizeLine then .ok (.str (a ++ b)) A else .bad
  | .tup a, .tup b => if a.length + b.length ≤ sizeLine then .ok (.tup (a ++ b)) A else .bad
  | .ref m, .ref n => match A[m]?, A[n]? with
    | some (.lst a), some (.lst b) => if a.length + b.length ≤ sizeLine then .ok (.ref A.length) (A ++ [.lst (a ++ b)]) else .bad
    | _, _ => .bad
  | _, _ => .bad
def opSub (x y : D) (A : Hpp) : R D :=
  match x, y with
  | .int i, .int j => .ok (.int (i - j)) A
  | _, _ => .bad
instance (i j : Int) : Decidable (CMul i j) := by unfold CMul; infer_instance
instance (i j : Int) : Decidable (CMulW i j) := by unfold CMulW; infer_instance
instance (i j : Int) : Decidable (CPow i j) := by unfold CPow; infer_instance
instance (i j : Int) : Decidable (CDivW i j) := by unfold CDivW; infer_instance
instance (i j : Int) : Decidable (CDiv i j) := by unfold CDiv; infer_instance
def strRep (a : Str) (k : Nat) : Str := ⟨(List.replicate k a.cps.toList).flatten.toArray⟩
def opMul (x y : D) (A : Hpp) : R D :=
  match x, y with
  | .int i, .int j => if CMul i j ∨ CMulW i j then .ok (.int (i * j)) A else .bad
  | .tup a, .int k => if a ≠ [] ∧ 2 ≤ k ∧ k ≤ 1000 ∧ a.length ≤ 1000 then .ok (.tup (List.replicate k.toNat a).flatten) A else .bad
  | .str a, .int k => if 2 ≤ k ∧ k ≤ 10000 ∧ a.length ≤ 100 ∧ 0 < a.length then .ok (.str (strRep a k.toNat)) A else .bad
  | _, _ => .bad
def opMod (x y : D) (A : Hpp) : R D :=
  match x, y with
  | .int i, .int j => if 0 < j then .ok (.int (i % j)) A else .bad
  | _, _ => .bad
def opFdiv (x y : D) (A : Hpp) : R D :=
  match x, y with
  | .int i, .int j => if CDivW i j then .ok (.int (i / j)) A else .bad
  | _, _ => .bad
def opPow (x y : D) (A : Hpp) : R D :=
  match x, y with
  | .int i, .int j => if CPow i j then .ok (.int (i ^ j.toNat)) A else .bad
  | _, _ => .bad
def binOf : Operator → Option (D → D → Hpp → R D)
  | .Add => some opAdd
  | .Sub => some opSub
  | .Mult => some opMul
  | .Mod => some opMod
  | .FloorDiv => some opFdiv
  | .Pow => some opPow
  | _ => none
/-- op= on whole numbers -/
def augAdd (x y : D) (A : Hpp) : R D := match x, y with | .int i, .int j => .ok (.int (i + j)) A | _, _ => .bad
def augMul (x y : D) (A : Hpp) : R D := match x, y with | .int i, .int j => if CMul i j then .ok (.int (i * j)) A else .bad | _, _ => .bad
def augOf : Operator → Option (D → D → Hpp → R D)
  | .Add => some augAdd
  | .Mult => some augMul
  | _ => none
def opNeg (x : D) (A : Hpp) : R D := match x with | .int i => .ok (.int (-i)) A | _ => .bad
/-! ### comparisons -/
def cmpEq (x y : D) (A : Hpp) : R D := (R.ofO (eqD x y A) A).bind fun b A => .ok (.bl b) A
def cmpNe (x y : D) (A : Hpp) : R D := (R.ofO (eqD x y A) A).bind fun b A => .ok (.bl (!b)) A
def cmpLt (x y : D) (A : Hpp) : R D := match x, y with | .int i, .int j => .ok (.bl (decide (i < j))) A | _, _ => .bad
def cmpLe (x y : D) (A : Hpp) : R D := match x, y with | .int i, .int j => .ok (.bl (decide (i ≤ j))) A | _, _ => .bad
def cmpGt (x y : D) (A : Hpp) : R D := match x, y with | .int i, .int j => .ok (.bl (decide (j < i))) A | _, _ => .bad
def cmpGe (x y : D) (A : Hpp) : R D := match x, y with | .int i, .int j => .ok (.bl (decide (j ≤ i))) A | _, _ => .bad
def cmpIs (x y : D) (A : Hpp) : R D := match y with | .non => .ok (.bl (decide (x = .non))) A | .bl b => (match x with | .bl a => .ok (.bl (decide (a = b))) A | _ => .bad) | _ => .bad
def cmpIsNot (x y : D) (A : Hpp) : R D := match y with | .non => .ok (.bl (!decide (x = .non))) A | .bl b => (match x with | .bl a => .ok (.bl (!decide (a = b))) A | _ => .bad) | _ => .bad
/-- x in y -/
def inS (x y : D) (A : Hpp) : Option Bool :=
  match x.snap A deepest, y.snap A deepest with
  | some d, some (.list ds) => if SeqAt.shaped d && SeqAt.shaped (.list ds) then some (ds.any fun z => PyData.eqv z d) else none
  | some d, some (.tuple ds) => if SeqAt.shaped d && SeqAt.shaped (.tuple ds) then some (ds.any fun z => PyData.eqv z d) else none
  | _, _ => none
def inT (s z : Str) : Option Bool := match s.cps.toList with | [c] => some (decide (c ∈ z.cps.toList)) | _ => none
def inD (x y : D) (A : Hpp) : Option Bool :=
  match x, y with
  | .str s, .str z => inT s z
  | x, y => inS x y A
def cmpIn (x y : D) (A : Hpp) : R D := (R.ofO (inD x y A) A).bind fun b A => .ok (.bl b) A
def cmpNotIn (x y : D) (A : Hpp) : R D := (R.ofO (inD x y A) A).bind fun b A => .ok (.bl (!b)) A
def cmpOf : CmpOp → Option (D → D → Hpp → R D)
  | .Eq => some cmpEq
  | .NotEq => some cmpNe
  | .Lt => some cmpLt
  | .LtE => some cmpLe
  | .Gt => some cmpGt
  | .GtE => some cmpGe
  | .Is => some cmpIs
  | .IsNot => some cmpIsNot
  | .In => some cmpIn
  | .NotIn => some cmpNotIn
/-! ### subscripts -/
def keyD : D → Option Key
  | .int i => some (.inl i)
  | .str s => some (.inr s)
  | _ => none
def lookD (kvs : List (Key × D)) (k : Key) : Option D := (kvs.find? fun kv => decide (kv.1 = k)).map (·.2)
def putD (kvs : List (Key × D)) (k : Key) (v : D) : List (Key × D) :=
  if (kvs.any fun kv => decide (kv.1 = k)) = true then kvs.map (fun kv => if kv.1 = k then (kv.1, v) else kv) else kvs ++ [(k, v)]
def opIx (x y : D) (A : Hpp) : R D :=
  match x, y with
  | .tup l, .int i => R.ofO (atI l i) A
  | .str s, .int i => if s.length ≤ sizeLine then R.ofO ((atI s.cps.toList i).map fun c => .str ⟨#[c]⟩) A else .bad
  | .ref n, k => match A[n]?, k with
    | some (.lst l), .int i => R.ofO (atI l i) A
    | some (.rd l), .int i => R.ofO (atI l i) A
    | some (.dct kvs), k => match keyD k with
      | some k => R.ofO (lookD kvs k) A
      | none => .bad
    | _, _ => .bad
  | _, _ => .bad
def cutD {α : Type} (xs : List α) (lo hi : Option Int) : List α := (xs.drop (HT.sIx xs.length 0 lo)).take (HT.sIx xs.length xs.length hi - HT.sIx xs.length 0 lo)
def opSl (x : D) (lo hi : Option Int) (A : Hpp) : R D :=
  match x with
  | .tup l => .ok (.tup (cutD l lo hi)) A
  | .ref n => match A[n]? with
    | some (.lst l) => .ok (.ref A.length) (A ++ [.lst (cutD l lo hi)])
    | some (.rd l) => .ok (.ref A.length) (A ++ [.lst (cutD l lo hi)])
    | _ => .bad
  | .str s => if s.length ≤ sizeLine then .ok (.str (Txt.slice s lo hi)) A else .bad
  | _ => .bad
def opUpper (x : D) (A : Hpp) : R D := match x with | .str s => if s.length ≤ 5592405 then .ok (.str (Txt.upper s)) A else .bad | _ => .bad
/-- x[::-1] -/
def opRev (x : D) (A : Hpp) : R D :=
  match x with
  | .tup l => .ok (.tup l.reverse) A
  | .ref n => match A[n]? with
    | some (.lst l) => .ok (.ref A.length) (A ++ [.lst l.reverse])
    | _ => .bad
  | _ => .bad
/-- o[i] = v -/
def setIx (o i v : D) (A : Hpp) : R Unit :=
  match o with
  | .ref n => match A[n]? with
    | some (.dct kvs) => match keyD i with
      | some k => if kvs.length < sizeLine then .ok () (A.set n (.dct (putD kvs k v))) else .bad
      | none => .bad
    | some (.lst l) => match i with
      | .int k => match ixN l.length k with
        | some j => .ok () (A.set n (.lst (l.set j v)))
        | none => .bad
      | _ => .bad
    | _ => .bad
  | _ => .bad
/-! ### built-ins, by their values -/
def bLen : List D → Hpp → R D
  | [.tup l], A => .ok (.int l.length) A
  | [.str s], A => if s.length ≤ sizeLine then .ok (.int s.length) A else .bad
  | [.ref n], A => match A[n]? with
    | some (.lst l) => .ok (.int l.length) A
    | some (.rd l) => .ok (.int l.length) A
    | _ => .bad
  | _, _ => .bad
def bOrd : List D → Hpp → R D
  | [.str s], A => if s.length = 1 then .ok (.int (s.cps.getD 0 0 : Nat)) A else .bad
  | _, _ => .bad
def bRepr : List D → Hpp → R D
  | [d], A => match d.snap A deepest with
    | some p => if p.showable = true ∧ p.shown.length ≤ sizeLine ∧ p.depth ≤ deepest then .ok (.str p.shown) A else .bad
    | none => .bad
  | _, _ => .bad
def bTuple : List D → Hpp → R D
  | [.tup l], A => .ok (.tup l) A
  | [.ref n], A => match A[n]? with
    | some (.lst l) => .ok (.tup l) A
    | some (.rd l) => .ok (.tup l) A
    | _ => .bad
  | _, _ => .bad
def bList : List D → Hpp → R D
  | [.tup l], A => .ok (.ref A.length) (A ++ [.lst l])
  | [.ref n], A => match A[n]? with
    | some (.lst l) => .ok (.ref A.length) (A ++ [.lst l])
    | some (.rd l) => .ok (.ref A.length) (A ++ [.lst l])
    | _ => .bad
  | _, _ => .bad
def boolsD : List D → Option (List Bool)
  | [] => some []
  | .bl b :: r => (boolsD r).map (b :: ·)
  | _ => none
def bAll : List D → Hpp → R D
  | [.ref n], A => match A[n]? with
    | some (.lst l) => match boolsD l with
      | some bs => .ok (.bl (bs.all id)) A
      | none => .bad
    | _ => .bad
  | _, _ => .bad
def bAny : List D → Hpp → R D
  | [.ref n], A => match A[n]? with
    | some (.lst l) => match boolsD l with
      | some bs => .ok (.bl (bs.any id)) A
      | none => .bad
    | _ => .bad
  | _, _ => .bad
def intsD : List D → Option (List Int)
  | [] => some []
  | .int i :: r => (intsD r).map (i :: ·)
  | _ => none
/-- sum(x, start=0) -/
def bSumK : List D → List D → Hpp → R D
  | [.ref n], [.int 0], A => match A[n]? with
    | some (.lst l) => match intsD l with
      | some is => .ok (.int is.sum) A
      | none => .bad
    | _ => .bad
  | _, _, _ => .bad
def bMin2 : List D → Hpp → R D
  | [.int i, .int j], A => .ok (.int (if j < i then j else i)) A
  | _, _ => .bad
def bMax2 : List D → Hpp → R D
  | [.int i, .int j], A => .ok (.int (if j > i then j else i)) A
  | _, _ => .bad
def bInt : List D → Hpp → R D
  | [.int i], A => .ok (.int i) A
  | [.bl k], A => .ok (.int (if k then 1 else 0)) A
  | _, _ => .bad
def bStr : List D → Hpp → R D
  | [.int i], A => if i.natAbs.log2 < 1920 then .ok (.str (toString i)) A else .bad
  | [.bl k], A => .ok (.str (if k = true then "True" else "False")) A
  | _, _ => .bad
/-- isinstance against a built-in class -/
inductive Ty where
  | int | bool | str | tuple | list
  deriving DecidableEq
def Ty.name : Ty → String
  | .int => "int" | .bool => "bool" | .str => "str" | .tuple => "tuple" | .list => "list"
def opIsi (T : Ty) (d : D) (A : Hpp) : R D :=
  match d with
  | .non => .ok (.bl false) A
  | .bl _ => .ok (.bl (decide (T = .int ∨ T = .bool))) A
  | .int _ => .ok (.bl (decide (T = .int))) A
  | .str _ => .ok (.bl (decide (T = .str))) A
  | .tup _ => .ok (.bl (decide (T = .tuple))) A
  | .ref n => match A[n]? with
    | some (.lst _) => .ok (.bl (decide (T = .list))) A
    | some (.dct _) => .ok (.bl false) A
    | _ => .bad
/-- methods of built-in types, by the receiver and the arguments -/
def mAppend : D → List D → Hpp → R D
  | .ref n, [v], A => match A[n]? with
    | some (.lst l) => if l.length < sizeLine then .ok .non (A.set n (.lst (l ++ [v]))) else .bad
    | _ => .bad
  | _, _, _ => .bad
/-- x.extend(y) of two lists -/
def mExtend : D → List D → Hpp → R D
  | .ref n, [.ref k], A => match A[n]?, A[k]? with
    | some (.lst l), some (.lst r) => if l.length + r.length ≤ sizeLine then .ok .non (A.set n (.lst (l ++ r))) else .bad
    | _, _ => .bad
  | _, _, _ => .bad
def strsD : List D → Option (List Str)
  | [] => some []
  | .str s :: r => (strsD r).map (s :: ·)
  | _ => none
def joinOk (a : Str) (ys : List Str) : Prop := (ys.map Str.length).sum + ys.length * a.length ≤ 16777216
instance (a : Str) (ys : List Str) : Decidable (joinOk a ys) := by unfold joinOk; infer_instance
def mJoin : D → List D → Hpp → R D
  | .str a, [.ref n], A => match A[n]? with
    | some (.lst l) => match strsD l with
      | some ys => if joinOk a ys then .ok (.str (Txt.join a ys)) A else .bad
      | none => .bad
    | _ => .bad
  | .str a, [.tup l], A => match strsD l with
    | some ys => if joinOk a ys then .ok (.str (Txt.join a ys)) A else .bad
    | none => .bad
  | _, _, _ => .bad
/-! ### combinators: expressions -/
def mVar (i : Nat) : M := fun L A => match L[i]? with | some (some d) => .ok d A | _ => .bad
def mC (d : D) : M := fun _ A => .ok d A
def mUn (op : D → Hpp → R D) (a : M) : M := fun L A => (a L A).bind op
def mBin (op : D → D → Hpp → R D) (a b : M) : M := fun L A => (a L A).bind fun x A1 => (b L A1).bind fun y A2 => op x y A2
def mTest (a : M) : MB := fun L A => (a L A).bind fun x A1 => R.ofO (truth x A1) A1
def mAnd (a b : M) : M := fun L A => (a L A).bind fun x A1 => (R.ofO (truth x A1) A1).bind fun k A2 => if k = true then b L A2 else .ok x A2
def mOr (a b : M) : M := fun L A => (a L A).bind fun x A1 => (R.ofO (truth x A1) A1).bind fun k A2 => if k = true then .ok x A2 else b L A2
def mNot (a : M) : M := fun L A => (mTest a L A).bind fun k A1 => .ok (.bl (!k)) A1
def mIf (c a b : M) : M := fun L A => (mTest c L A).bind fun k A1 => if k = true then a L A1 else b L A1
/-- a op1 b op2 c -/
def mChain (op op' : D → D → Hpp → R D) (a b c : M) : M := fun L A => (a L A).bind fun x A1 => (b L A1).bind fun y A2 => (op x y A2).bind fun z A3 =>
  match z with
  | .bl true => (c L A3).bind fun w A4 => op' y w A4
  | .bl false => .ok (.bl false) A3
  | _ => .bad
def mNil : ML := fun _ A => .ok [] A
def mCons (a : M) (r : ML) : ML := fun L A => (a L A).bind fun x A1 => (r L A1).bind fun xs A2 => .ok (x :: xs) A2
def mTup (r : ML) : M := fun L A => (r L A).bind fun xs A1 => if xs.length ≤ sizeLine then .ok (.tup xs) A1 else .bad
def mLst (r : ML) : M := fun L A => (r L A).bind fun xs A1 => if xs.length ≤ sizeLine then .ok (.ref A1.length) (A1 ++ [.lst xs]) else .bad
def mB (op : List D → Hpp → R D) (r : ML) : M := fun L A => (r L A).bind op
def mBK (op : List D → List D → Hpp → R D) (r k : ML) : M := fun L A => (r L A).bind fun xs A1 => (k L A1).bind fun ys A2 => op xs ys A2
def isLst (d : D) (A : Hpp) : Bool := match d with | .ref n => (match A[n]? with | some (.lst _) => true | _ => false) | _ => false
def isStrD (d : D) (_ : Hpp) : Bool := match d with | .str _ => true | _ => false
def isDct (d : D) (A : Hpp) : Bool := match d with | .ref n => (match A[n]? with | some (.dct _) => true | _ => false) | _ => false
/-- a method of a built-in type: what the receiver must be is asked ahead of the arguments -/
def mMeth (pre : D → Hpp → Bool) (op : D → List D → Hpp → R D) (o : M) (r : ML) : M := fun L A => (o L A).bind fun x A1 => if pre x A1 = true then (r L A1).bind fun xs A2 => op x xs A2 else .bad
abbrev MO := Loc → Hpp → R (Option Int)
def oNone : MO := fun _ A => .ok none A
def oSome (a : M) : MO := fun L A => (a L A).bind fun x A1 => match x with | .int i => .ok (some i) A1 | _ => .bad
def mSlice (a : M) (lo hi : MO) : M := fun L A => (a L A).bind fun x A1 => (lo L A1).bind fun l A2 => (hi L A2).bind fun h A3 => opSl x l h A3
/-- {k: v, ..} -/
def mPairs : List (M × M) → Loc → Hpp → R (List (D × D))
  | [], _, A => .ok [] A
  | kv :: r, L, A => (kv.1 L A).bind fun x A1 => (kv.2 L A1).bind fun y A2 => (mPairs r L A2).bind fun t A3 => .ok ((x, y) :: t) A3
def keysD : List (D × D) → Option (List (Key × D))
  | [] => some []
  | kv :: r => match keyD kv.1, keysD r with
    | some k, some t => some ((k, kv.2) :: t)
    | _, _ => none
def mergeD (more : List (Key × D)) : List (Key × D) := more.foldl (fun acc kv => putD acc kv.1 kv.2) []
def pairD : D → Option (D × D)
  | .tup [a, b] => some (a, b)
  | _ => none
/-- dict(xs) of a list of pairs -/
def bDict : List D → Hpp → R D
  | [.ref n], A => match A[n]? with
    | some (.lst l) => match (optAll (l.map pairD)).bind keysD with
      | some kvs => .ok (.ref A.length) (A ++ [.dct (mergeD kvs)])
      | none => .bad
    | _ => .bad
  | _, _ => .bad
def mDict (ps : List (M × M)) : M := fun L A => (mPairs ps L (A ++ [.dct []])).bind fun kvs A1 => match keysD kvs with
  | some l => if l.length ≤ 15 ∧ A1[A.length]? = some (.dct []) then .ok (.ref A.length) (A1.set A.length (.dct (mergeD l))) else .bad
  | none => .bad
/-- how the parameters are filled: a positional value, a keyword's, a default -/
inductive G where
  | pos (j : Nat) | kw (j : Nat) | df (d : D)
def gather (gs : List G) (us ws : List D) : Option (List D) := optAll (gs.map fun
  | .pos j => us[j]?
  | .kw j => ws[j]?
  | .df d => some d)
def mCallV (c : List D → Hpp → R D) (n m : Nat) (gs : List G) (r k : ML) : M := fun L A => (r L A).bind fun us A1 => (k L A1).bind fun ws A2 =>
  if us.length = n ∧ ws.length = m then match gather gs us ws with
    | some vs => c vs A2
    | none => .bad
  else .bad
def mCall (F : FE) (i n m : Nat) (gs : List G) (r k : ML) : M := mCallV (F i) n m gs r k
/-! ### targets, sources, comprehensions -/
abbrev T := D → Loc → Hpp → R Loc
def gVar (i : Nat) : T := fun d L A => .ok (L.set i (some d)) A
abbrev TL := List D → Loc → Hpp → R Loc
def gNil' : TL := fun ds L A => match ds with | [] => .ok L A | _ => .bad
def gCons' (t : T) (u : TL) : TL := fun ds L A => match ds with | d :: r => (t d L A).bind fun L1 A1 => u r L1 A1 | [] => .bad
/-- the items of a tuple or a list -/
def seqOf (d : D) (A : Hpp) : Option (List D) := match d with
  | .tup l => some l
  | .ref n => match A[n]? with
    | some (.lst l) => some l
    | some (.rd l) => some l
    | _ => none
  | _ => none
def gTup' (u : TL) : T := fun d L A => match seqOf d A with | some ds => u ds L A | none => .bad
def gTupT' (u : TL) : T := fun d L A => match d with | .tup ds => u ds L A | _ => .bad
/-- a, .., *b, .., c = .. : so many ahead of the star, so many behind -/
def gStar' (a b : Nat) (u : TL) : T := fun d L A => match seqOf d A with
  | some ds => if a + b ≤ ds.length then u (ds.take a ++ [.ref A.length] ++ ds.drop (ds.length - b)) L (A ++ [.lst ((ds.drop a).take (ds.length - a - b))]) else .bad
  | none => .bad
def gSub' (o i : M) : T := fun d L A => (o L A).bind fun ov A1 => (i L A1).bind fun iv A2 => (setIx ov iv d A2).bind fun _ A3 => .ok L A3
/-- what is walked -/
inductive Src where
  | lst (n : Nat) (l : List D) | its (l : List D)
abbrev MS := Loc → Hpp → R Src
def Src.items : Src → List D
  | .lst _ l => l
  | .its l => l
def Src.still (A : Hpp) : Src → Bool
  | .lst n l => decide (A[n]? = some (.lst l) ∨ A[n]? = some (.rd l))
  | .its _ => true
def srcSeq (a : M) : MS := fun L A => (a L A).bind fun x A1 => match x with
  | .tup l => .ok (.its l) A1
  | .ref n => match A1[n]? with
    | some (.lst l) => .ok (.lst n l) A1
    | some (.rd l) => .ok (.lst n l) A1
    | _ => .bad
  | .str s => .ok (.its (s.cps.toList.map fun c => .str ⟨#[c]⟩)) A1
  | _ => .bad
def rangeD (lo : Int) (n : Nat) : List D := (List.range n).map fun (i : Nat) => D.int (lo + (i : Int))
def okEnd (j : Int) : Prop := -(2 ^ 62) ≤ j ∧ j < 2 ^ 62
instance (j : Int) : Decidable (okEnd j) := by unfold okEnd; infer_instance
def srcRange1 (a : M) : MS := fun L A => (a L A).bind fun x A1 => match x with
  | .int j => if okEnd j then .ok (.its (rangeD 0 j.toNat)) A1 else .bad
  | _ => .bad
def srcRange2 (a b : M) : MS := fun L A => (a L A).bind fun x A1 => (b L A1).bind fun y A2 => match x, y with
  | .int i, .int j => if okEnd i ∧ okEnd j then .ok (.its (rangeD i (j - i).toNat)) A2 else .bad
  | _, _ => .bad
/-- lo, lo + c, .. -/
def rangeC (lo c : Int) (n : Nat) : List D := (List.range n).map fun (i : Nat) => D.int (lo + (i : Int) * c)
instance (i j c : Int) (n : Nat) : Decidable (RgC i j c n) := by unfold RgC; infer_instance
def srcRange3 (a b c : M) : MS := fun L A => (a L A).bind fun x A1 => (b L A1).bind fun y A2 => (c L A2).bind fun z A3 => match x, y, z with
  | .int i, .int j, .int k => if RgC i j k (Builtin.Range.rangeSize i j k).toNat then .ok (.its (rangeC i k (Builtin.Range.rangeSize i j k).toNat)) A3 else .bad
  | _, _, _ => .bad
def zipD (xs ys : List D) : List D := (xs.zip ys).map fun p => .tup [p.1, p.2]
/-- zip(a, b, strict=True) of two tuples of one length -/
def srcZipS (a b : M) : MS := fun L A => (a L A).bind fun x A1 => (b L A1).bind fun y A2 => match x, y with
  | .tup xs, .tup ys => if xs.length = ys.length then .ok (.its (zipD xs ys)) A2 else .bad
  | _, _ => .bad
instance (a b : Int) : Decidable (RgOk a b) := by unfold RgOk; infer_instance
/-- tuple(range(..)), list(range(..)) -/
def rgD (tup : Bool) (i j : Int) (A : Hpp) : R D := if RgOk i j then (if tup = true then .ok (.tup (rangeD i (j - i).toNat)) A else .ok (.ref A.length) (A ++ [.lst (rangeD i (j - i).toNat)])) else .bad
def mRg1 (tup : Bool) (a : M) : M := fun L A => (a L A).bind fun x A1 => match x with | .int j => rgD tup 0 j A1 | _ => .bad
def mRg2 (tup : Bool) (a b : M) : M := fun L A => (a L A).bind fun x A1 => (b L A1).bind fun y A2 => match x, y with | .int i, .int j => rgD tup i j A2 | _, _ => .bad
def wipeL (L : Loc) : List Nat → Loc
  | [] => L
  | v :: vs => (wipeL L vs).set v none
/-- a comprehension's turns: the new list stands at n -/
def lcLoop (src : Src) (n : Nat) (t : T) (c : MB) (e : M) (L : Loc) : List D → Hpp → R Unit
  | [], A => if src.still A then .ok () A else .bad
  | d :: r, A => if src.still A then (t d L A).bind fun L1 A1 => (c L1 A1).bind fun k A2 =>
      if k = true then (e L1 A2).bind fun x A3 => match A3[n]? with
        | some (.lst acc) => if acc.length < sizeLine then lcLoop src n t c e L r (A3.set n (.lst (acc ++ [x]))) else .bad
        | _ => .bad
      else lcLoop src n t c e L r A2
    else .bad
def mLc (s : MS) (t : T) (c : MB) (e : M) (own : List Nat) : M := fun L A => (s L A).bind fun src A1 =>
  (lcLoop src A1.length t c e (wipeL L own) src.items (A1 ++ [.lst []])).bind fun _ A2 => .ok (.ref A1.length) A2
def mYes : MB := fun _ A => .ok true A
def mBoth (a b : MB) : MB := fun L A => (a L A).bind fun k A1 => if k = true then b L A1 else .ok false A1
/-! ### statements -/
def sNil : S := fun L A => .ok (.nx L) A
def sSeq (a b : S) : S := fun L A => (a L A).bind fun o A1 => match o with
  | .nx L1 => b L1 A1
  | o => .ok o A1
def sRet (a : M) : S := fun L A => (a L A).bind fun d A1 => .ok (.rt d) A1
def sRetN : S := fun _ A => .ok (.rt .non) A
def sDrop (a : M) : S := fun L A => (a L A).bind fun _ A1 => .ok (.nx L) A1
def sAsg (a : M) (t : T) : S := fun L A => (a L A).bind fun d A1 => (t d L A1).bind fun L1 A2 => .ok (.nx L1) A2
/-- a, b = x, y: no pair is made -/
def sPar (i j : Nat) (r : ML) : S := fun L A => (r L A).bind fun vs A1 => match vs with
  | [v, w] => .ok (.nx ((L.set i (some v)).set j (some w))) A1
  | _ => .bad
def sPar3 (i j l : Nat) (r : ML) : S := fun L A => (r L A).bind fun vs A1 => match vs with
  | [v, w, u] => .ok (.nx (((L.set i (some v)).set j (some w)).set l (some u))) A1
  | _ => .bad
def sIf (c : M) (a b : S) : S := fun L A => (mTest c L A).bind fun k A1 => if k = true then a L A1 else b L A1
def sBad : S := fun _ _ => .bad
def sBreak : S := fun L A => .ok (.bk L) A
def sCont : S := fun L A => .ok (.ct L) A
def forLoop (src : Src) (t : T) (b : S) : List D → S
  | [], L, A => if src.still A then .ok (.nx L) A else .bad
  | d :: r, L, A => if src.still A then (t d L A).bind fun L1 A1 => (b L1 A1).bind fun o A2 => match o with
      | .nx L2 => forLoop src t b r L2 A2
      | .ct L2 => forLoop src t b r L2 A2
      | .bk L2 => .ok (.nx L2) A2
      | .rt v => .ok (.rt v) A2
    else .bad
def sFor (s : MS) (t : T) (b : S) : S := fun L A => (s L A).bind fun src A1 => forLoop src t b src.items L A1
def whileLoop (c : M) (b : S) : Nat → S
  | 0, _, _ => .bad
  | n + 1, L, A => (mTest c L A).bind fun k A1 => if k = true then (b L A1).bind fun o A2 => match o with
      | .nx L2 => whileLoop c b n L2 A2
      | .ct L2 => whileLoop c b n L2 A2
      | .bk L2 => .ok (.nx L2) A2
      | .rt v => .ok (.rt v) A2
    else .ok (.nx L) A1
def turnsMost : Nat := 1000000
def sWhile (c : M) (b : S) : S := whileLoop c b turnsMost
def sAug (op : D → D → Hpp → R D) (i : Nat) (a : M) : S := fun L A => (mVar i L A).bind fun x A1 => (a L A1).bind fun y A2 => (op x y A2).bind fun z A3 => .ok (.nx (L.set i (some z))) A3
/-! ### calls -/
/-- what a call leaves: new places that nothing needs are dropped -/
def gcR (A : Hpp) (d : D) (A' : Hpp) : R D :=
  if A'.length ≤ A.length then .ok d A'
  else if D.low 0 d = true ∧ A'.take A.length = A then .ok d A
  else if D.low A.length d = true ∧ (A'.take A.length).all (HOb.low A.length) = true then .ok d (A'.take A.length)
  else match d with
    | .ref k => match A'[k]? with
      | some o => if A.length ≤ k ∧ o.low A.length = true ∧ (A'.take A.length).all (HOb.low A.length) = true then .ok (.ref A.length) (A'.take A.length ++ [o]) else .ok d A'
      | none => .ok d A'
    | _ => .ok d A'
def enter (k : Nat) (b : S) (args : List D) (A : Hpp) : R D :=
  match b (args.map some ++ List.replicate (k - args.length) none) A with
  | .ok (.nx _) A' => gcR A .non A'
  | .ok (.rt d) A' => gcR A d A'
  | .ok _ _ => .bad
  | .ex c fs A' => .ex c fs A'
  | .bad => .bad
/-- a def's call: so many names, so many parameters -/
def run (k p : Nat) (b : S) : List D → Hpp → R D := fun args A => if args.length = p then enter k b args A else .bad
/-- a program: for each def how many names it has, its parameters' number, its body -/
structure Fn where
  names : Nat
  pars : Nat
  body : FE → S
def FF (P : Nat → Option Fn) : Nat → FE
  | 0, _, _, _ => .bad
  | n + 1, i, args, A => match P i with
    | some f => run f.names f.pars (f.body (FF P n)) args A
    | none => .bad
end Rf
namespace Rf
open PySem L2
section
variable (K : PySem.W.Frag)
/-- a tuple stands at p -/
def TupAt (H : Hp) (p : Addr) (vs : List V) : Prop := H p = some (.tup vs) ∨
  ∃ (o : Obj) (its : Array Value) (n : Nat), K.lookup p = some o ∧ o.cls = .type "tuple" ∧ o.data = .seq its n ∧ its.size ≤ sizeLine ∧ Vals vs its.toList
/-- a list that is only read -/
def RdAt (H : Hp) (p : Addr) (vs : List V) : Prop := (∃ o, H p = some (.frz o (.lst vs))) ∨
  ∃ (o : Obj) (its : Array Value) (n : Nat), K.lookup p = some o ∧ o.cls = .type "list" ∧ o.dict = none ∧ o.data = .seq its n ∧ its.size ≤ sizeLine ∧ Vals vs its.toList
end
theorem TupAt.sq {K : PySem.W.Frag} {H : Hp} {p : Addr} {vs : List V} (h : TupAt K H p vs) : SqT K H p vs := by
  rcases h with h | h
  · exact .inl (.inl h)
  · exact .inr h
theorem RdAt.sq {K : PySem.W.Frag} {H : Hp} {p : Addr} {vs : List V} (h : RdAt K H p vs) : SqL K H p vs := by
  rcases h with h | h
  · exact .inl (.inr h)
  · exact .inr h
mutual
def Rep (K : PySem.W.Frag) (H : Hp) (m : List Addr) : D → V → Prop
  | .non, v => v = .non
  | .bl b, v => v = .bl b
  | .int i, v => v = .int i
  | .str s, v => v = .str s
  | .tup ds, v => ∃ p vs, v = .ref p ∧ TupAt K H p vs ∧ RepL K H m ds vs
  | .ref n, v => ∃ a, m[n]? = some a ∧ v = .ref a
def RepL (K : PySem.W.Frag) (H : Hp) (m : List Addr) : List D → List V → Prop
  | [], vs => vs = []
  | d :: ds, vs => ∃ v r, vs = v :: r ∧ Rep K H m d v ∧ RepL K H m ds r
end
/-- tuples stay -/
def Keep (H H' : Hp) : Prop := ∀ p vs, H p = some (.tup vs) → H' p = some (.tup vs)
theorem Keep.refl (H : Hp) : Keep H H := fun _ _ h => h
theorem Keep.trans {H H1 H2 : Hp} (a : Keep H H1) (b : Keep H1 H2) : Keep H H2 := fun p vs h => b p vs (a p vs h)
theorem Keep.new {H : Hp} {p : Addr} {o : HO} (h : H p = none) : Keep H (upd H p o) := fun q vs e => by rw [upd_ne (ne_of_none e h)]; exact e
theorem Keep.write {H : Hp} {p : Addr} {o u : HO} (h : H p = some u) (hu : ∀ vs, u ≠ .tup vs) : Keep H (upd H p o) := fun q vs e => by
  have : q ≠ p := fun z => by subst z; rw [h] at e; cases e; exact hu vs rfl
  rw [upd_ne this]; exact e
theorem TupAt.mono {K : PySem.W.Frag} {H H' : Hp} {p : Addr} {vs : List V} (k : Keep H H') (h : TupAt K H p vs) : TupAt K H' p vs := by
  rcases h with h | h
  · exact .inl (k _ _ h)
  · exact .inr h
abbrev Pre (m m' : List Addr) : Prop := m <+: m'
theorem Pre.get {m m' : List Addr} (h : m <+: m') {n : Nat} {a : Addr} (e : m[n]? = some a) : m'[n]? = some a := by
  obtain ⟨t, rfl⟩ := h
  rw [List.getElem?_append_left (by exact (List.getElem?_eq_some_iff.mp e).1)]; exact e
section
variable {K : PySem.W.Frag} {H H' : Hp} {m m' : List Addr}
mutual
theorem Rep.mono (k : Keep H H') (p : m <+: m') : ∀ (d : D) (v : V), Rep K H m d v → Rep K H' m' d v
  | .non, v, h => by simpa [Rep] using h
  | .bl _, v, h => by simpa [Rep] using h
  | .int _, v, h => by simpa [Rep] using h
  | .str _, v, h => by simpa [Rep] using h
  | .tup ds, v, h => by
    simp only [Rep] at h ⊢
    obtain ⟨q, vs, e, t, r⟩ := h
    exact ⟨q, vs, e, t.mono k, RepL.mono k p ds vs r⟩
  | .ref n, v, h => by
    simp only [Rep] at h ⊢
    obtain ⟨a, e, r⟩ := h
    exact ⟨a, Pre.get p e, r⟩
theorem RepL.mono (k : Keep H H') (p : m <+: m') : ∀ (ds : List D) (vs : List V), RepL K H m ds vs → RepL K H' m' ds vs
  | [], vs, h => by simpa [RepL] using h
  | d :: ds, vs, h => by
    simp only [RepL] at h ⊢
    obtain ⟨v, r, e, a, b⟩ := h
    exact ⟨v, r, e, Rep.mono k p d v a, RepL.mono k p ds r b⟩
end
mutual
/-- places below n need only the first n -/
theorem Rep.cut {n : Nat} : ∀ (d : D) (v : V), d.low n = true → Rep K H m d v → Rep K H (m.take n) d v
  | .non, v, _, h => by simpa [Rep] using h
  | .bl _, v, _, h => by simpa [Rep] using h
  | .int _, v, _, h => by simpa [Rep] using h
  | .str _, v, _, h => by simpa [Rep] using h
  | .tup ds, v, l, h => by
    simp only [Rep] at h ⊢
    simp only [D.low] at l
    obtain ⟨q, vs, e, t, r⟩ := h
    exact ⟨q, vs, e, t, RepL.cut ds vs l r⟩
  | .ref k, v, l, h => by
    simp only [Rep] at h ⊢
    simp only [D.low, decide_eq_true_eq] at l
    obtain ⟨a, e, r⟩ := h
    exact ⟨a, by rw [List.getElem?_take_of_lt l]; exact e, r⟩
theorem RepL.cut {n : Nat} : ∀ (ds : List D) (vs : List V), D.lowL n ds = true → RepL K H m ds vs → RepL K H (m.take n) ds vs
  | [], vs, _, h => by simpa [RepL] using h
  | d :: ds, vs, l, h => by
    simp only [RepL] at h ⊢
    simp only [D.lowL, Bool.and_eq_true] at l
    obtain ⟨v, r, e, a, b⟩ := h
    exact ⟨v, r, e, Rep.cut d v l.1 a, RepL.cut ds r l.2 b⟩
end
mutual
theorem Rep.low : ∀ (d : D) (v : V), Rep K H m d v → d.low m.length = true
  | .non, v, _ => rfl
  | .bl _, v, _ => rfl
  | .int _, v, _ => rfl
  | .str _, v, _ => rfl
  | .tup ds, v, h => by
    simp only [Rep] at h
    simp only [D.low]
    obtain ⟨q, vs, e, t, r⟩ := h
    exact RepL.low ds vs r
  | .ref k, v, h => by
    simp only [Rep] at h
    simp only [D.low, decide_eq_true_eq]
    obtain ⟨a, e, r⟩ := h
    exact (List.getElem?_eq_some_iff.mp e).1
theorem RepL.low : ∀ (ds : List D) (vs : List V), RepL K H m ds vs → D.lowL m.length ds = true
  | [], vs, _ => rfl
  | d :: ds, vs, h => by
    simp only [RepL] at h
    simp only [D.lowL, Bool.and_eq_true]
    obtain ⟨v, r, e, a, b⟩ := h
    exact ⟨Rep.low d v a, RepL.low ds r b⟩
end
theorem RepL.length : ∀ {ds : List D} {vs : List V}, RepL K H m ds vs → vs.length = ds.length
  | [], vs, h => by simp only [RepL] at h; subst h; rfl
  | d :: ds, vs, h => by
    simp only [RepL] at h
    obtain ⟨v, r, rfl, a, b⟩ := h
    simp [RepL.length b]
theorem RepL.get : ∀ {ds : List D} {vs : List V}, RepL K H m ds vs → ∀ {i : Nat} {d : D}, ds[i]? = some d → ∃ v, vs[i]? = some v ∧ Rep K H m d v
  | [], vs, h, i, d, e => by simp at e
  | c :: ds, vs, h, i, d, e => by
    simp only [RepL] at h
    obtain ⟨v, r, rfl, a, b⟩ := h
    cases i with
    | zero => simp at e; subst e; exact ⟨v, rfl, a⟩
    | succ j => simpa using RepL.get b (by simpa using e)
theorem RepL.of_get : ∀ {ds : List D} {vs : List V}, ds.length = vs.length → (∀ (i : Nat) (d : D) (v : V), ds[i]? = some d → vs[i]? = some v → Rep K H m d v) → RepL K H m ds vs
  | [], [], _, _ => rfl
  | [], _ :: _, h, _ => by simp at h
  | _ :: _, [], h, _ => by simp at h
  | d :: ds, v :: vs, h, g => ⟨v, vs, rfl, g 0 d v rfl rfl, RepL.of_get (by simpa using h) fun i d v a b => g (i + 1) d v (by simpa using a) (by simpa using b)⟩
theorem RepL.append : ∀ {ds es : List D} {vs us : List V}, RepL K H m ds vs → RepL K H m es us → RepL K H m (ds ++ es) (vs ++ us)
  | [], es, vs, us, h, g => by simp only [RepL] at h; subst h; exact g
  | d :: ds, es, vs, us, h, g => by
    simp only [RepL] at h
    obtain ⟨v, r, rfl, a, b⟩ := h
    exact ⟨v, r ++ us, rfl, a, RepL.append b g⟩
theorem RepL.take : ∀ {ds : List D} {vs : List V} (n : Nat), RepL K H m ds vs → RepL K H m (ds.take n) (vs.take n)
  | _, _, 0, _ => by simp [RepL]
  | [], vs, n + 1, h => by simp only [RepL] at h; subst h; simp [RepL]
  | d :: ds, vs, n + 1, h => by
    simp only [RepL] at h
    obtain ⟨v, r, rfl, a, b⟩ := h
    exact ⟨v, r.take n, rfl, a, RepL.take n b⟩
theorem RepL.drop : ∀ {ds : List D} {vs : List V} (n : Nat), RepL K H m ds vs → RepL K H m (ds.drop n) (vs.drop n)
  | _, _, 0, h => h
  | [], vs, n + 1, h => by simp only [RepL] at h; subst h; simp [RepL]
  | d :: ds, vs, n + 1, h => by
    simp only [RepL] at h
    obtain ⟨v, r, rfl, a, b⟩ := h
    exact RepL.drop n b
theorem RepL.one {d : D} {vs : List V} (h : RepL K H m [d] vs) : ∃ v, vs = [v] ∧ Rep K H m d v := by
  simp only [RepL] at h
  obtain ⟨v, r, rfl, a, rfl⟩ := h
  exact ⟨v, rfl, a⟩
theorem RepL.two {d e : D} {vs : List V} (h : RepL K H m [d, e] vs) : ∃ v u, vs = [v, u] ∧ Rep K H m d v ∧ Rep K H m e u := by
  simp only [RepL] at h
  obtain ⟨v, r, rfl, a, u, q, rfl, b, rfl⟩ := h
  exact ⟨v, u, rfl, a, b⟩
theorem RepL.single {d : D} {v : V} (h : Rep K H m d v) : RepL K H m [d] [v] := ⟨v, [], rfl, h, rfl⟩
theorem RepL.flat : ∀ {ds : List D} {vs : List V} (k : Nat), RepL K H m ds vs → RepL K H m (List.replicate k ds).flatten (List.replicate k vs).flatten
  | _, _, 0, _ => by simp [RepL]
  | ds, vs, k + 1, h => by
    rw [List.replicate_succ, List.replicate_succ, List.flatten_cons, List.flatten_cons]
    exact RepL.append h (RepL.flat k h)
end
/-- pairs of a dict -/
def RepK (K : PySem.W.Frag) (H : Hp) (m : List Addr) : List (Key × D) → List (Key × V) → Prop
  | [], l => l = []
  | kd :: r, l => ∃ v t, l = (kd.1, v) :: t ∧ Rep K H m kd.2 v ∧ RepK K H m r t
section
variable {K : PySem.W.Frag} {H H' : Hp} {m m' : List Addr}
theorem RepK.mono (k : Keep H H') (p : m <+: m') : ∀ (ds : List (Key × D)) (vs : List (Key × V)), RepK K H m ds vs → RepK K H' m' ds vs
  | [], vs, h => h
  | d :: ds, vs, h => by
    obtain ⟨v, r, e, a, b⟩ := h
    exact ⟨v, r, e, Rep.mono k p _ v a, RepK.mono k p ds r b⟩
theorem RepK.vals : ∀ (ds : List (Key × D)) (vs : List (Key × V)), RepK K H m ds vs → RepL K H m (ds.map (·.2)) (vs.map (·.2))
  | [], vs, h => by cases h; exact rfl
  | d :: ds, vs, h => by
    obtain ⟨v, r, rfl, a, b⟩ := h
    exact ⟨v, _, rfl, a, RepK.vals ds r b⟩
theorem RepK.keys : ∀ (ds : List (Key × D)) (vs : List (Key × V)), RepK K H m ds vs → vs.map (·.1) = ds.map (·.1)
  | [], vs, h => by cases h; exact rfl
  | d :: ds, vs, h => by
    obtain ⟨v, r, rfl, a, b⟩ := h
    simp [RepK.keys ds r b]
theorem RepK.length {ds : List (Key × D)} {vs : List (Key × V)} (h : RepK K H m ds vs) : vs.length = ds.length := by
  have := congrArg List.length (RepK.keys ds vs h)
  simpa using this
theorem RepK.of : ∀ {ds : List (Key × D)} {vs : List V}, RepL K H m (ds.map (·.2)) vs → RepK K H m ds ((ds.map (·.1)).zip vs)
  | [], vs, h => by cases h; exact rfl
  | d :: ds, vs, h => by
    obtain ⟨v, r, rfl, a, b⟩ := h
    exact ⟨v, _, rfl, a, RepK.of b⟩
theorem RepK.cut {n : Nat} : ∀ (ds : List (Key × D)) (vs : List (Key × V)), D.lowL n (ds.map (·.2)) = true → RepK K H m ds vs → RepK K H (m.take n) ds vs
  | [], vs, _, h => h
  | d :: ds, vs, l, h => by
    obtain ⟨v, r, e, a, b⟩ := h
    simp only [List.map_cons, D.lowL, Bool.and_eq_true] at l
    exact ⟨v, r, e, Rep.cut _ v l.1 a, RepK.cut ds r l.2 b⟩
theorem RepK.look (k : Key) : ∀ {ds : List (Key × D)} {vs : List (Key × V)}, RepK K H m ds vs → match lookD ds k with
    | some d => ∃ v, valV vs k = some v ∧ Rep K H m d v
    | none => valV vs k = none
  | [], vs, h => by cases h; rfl
  | (j, d) :: ds, vs, h => by
    obtain ⟨v, r, rfl, a, b⟩ := h
    by_cases e : j = k
    · subst e
      have : lookD ((j, d) :: ds) j = some d := by simp [lookD]
      rw [this]
      exact ⟨v, valV_pos rfl, a⟩
    · have e1 : lookD ((j, d) :: ds) k = lookD ds k := by simp [lookD, e]
      have e2 : valV ((j, v) :: r) k = valV r k := valV_neg e
      rw [e1, e2]
      exact RepK.look k b
theorem RepK.map (k : Key) {d : D} {v : V} (r : Rep K H m d v) : ∀ {ds : List (Key × D)} {vs : List (Key × V)}, RepK K H m ds vs →
    RepK K H m (ds.map fun kv => if kv.1 = k then (kv.1, d) else kv) (vs.map fun kv => if kv.1 = k then (kv.1, v) else kv)
  | [], vs, h => by cases h; exact rfl
  | (j, c) :: ds, vs, h => by
    obtain ⟨u, t, rfl, a, b⟩ := h
    by_cases e : j = k
    · subst e
      simp only [List.map_cons, if_pos]
      exact ⟨v, _, rfl, r, RepK.map j r b⟩
    · simp only [List.map_cons, if_neg e]
      exact ⟨u, _, rfl, a, RepK.map k r b⟩
theorem RepK.app {k : Key} {d : D} {v : V} (r : Rep K H m d v) : ∀ {ds : List (Key × D)} {vs : List (Key × V)}, RepK K H m ds vs → RepK K H m (ds ++ [(k, d)]) (vs ++ [(k, v)])
  | [], vs, h => by cases h; exact ⟨v, [], rfl, r, rfl⟩
  | _ :: ds, vs, h => by
    obtain ⟨u, t, rfl, a, b⟩ := h
    exact ⟨u, _, rfl, a, RepK.app r b⟩
theorem RepK.any (k : Key) : ∀ {ds : List (Key × D)} {vs : List (Key × V)}, RepK K H m ds vs → (vs.any fun kv => decide (kv.1 = k)) = (ds.any fun kv => decide (kv.1 = k))
  | [], vs, h => by cases h; rfl
  | _ :: ds, vs, h => by
    obtain ⟨u, t, rfl, a, b⟩ := h
    simp [RepK.any k b]
theorem RepK.put (k : Key) {d : D} {v : V} (r : Rep K H m d v) {ds : List (Key × D)} {vs : List (Key × V)} (h : RepK K H m ds vs) : RepK K H m (putD ds k d) (putK vs k v) := by
  unfold putD putK
  rw [h.any k]
  split
  · exact h.map k r
  · exact h.app r
end
/-- what stands at a place of the small heap -/
def ObR (K : PySem.W.Frag) (H : Hp) (m : List Addr) (a : Addr) : HOb → Prop
  | .lst ds => ∃ vs, H a = some (.lst vs) ∧ RepL K H m ds vs
  | .rd ds => ∃ vs, RdAt K H a vs ∧ RepL K H m ds vs
  | .dct kvs => ∃ vs, H a = some (.dK vs) ∧ RepK K H m kvs vs
def HOb.mut : HOb → Bool
  | .rd _ => false
  | _ => true
structure HR (K : PySem.W.Frag) (H : Hp) (m : List Addr) (A : Hpp) : Prop where
  len : m.length = A.length
  inj : ∀ (i j : Nat) (a : Addr) (o u : HOb), m[i]? = some a → m[j]? = some a → A[i]? = some o → A[j]? = some u → o.mut = true → u.mut = true → i = j
  at_ : ∀ (i : Nat) (a : Addr) (o : HOb), m[i]? = some a → A[i]? = some o → ObR K H m a o
theorem HR.addr {K : PySem.W.Frag} {H : Hp} {m : List Addr} {A : Hpp} (h : HR K H m A) {n : Nat} {o : HOb} (e : A[n]? = some o) : ∃ a, m[n]? = some a := by
  have hl : n < m.length := by rw [h.len]; exact (List.getElem?_eq_some_iff.mp e).1
  exact ⟨m[n], List.getElem?_eq_getElem hl⟩
theorem ObR.mono {K : PySem.W.Frag} {H H' : Hp} {m m' : List Addr} {a : Addr} {o : HOb} (k : Keep H H') (p : m <+: m') (hs : o.mut = true → H' a = H a) (hr : ∀ u xs, H a = some (.frz u xs) → H' a = some (.frz u xs)) (h : ObR K H m a o) : ObR K H' m' a o := by
  cases o with
  | lst ds =>
    obtain ⟨vs, e, r⟩ := h
    exact ⟨vs, (hs rfl).trans e, RepL.mono k p _ _ r⟩
  | rd ds =>
    obtain ⟨vs, e, r⟩ := h
    refine ⟨vs, ?_, RepL.mono k p _ _ r⟩
    rcases e with ⟨u, e⟩ | e
    · exact .inl ⟨u, hr _ _ e⟩
    · exact .inr e
  | dct kvs =>
    obtain ⟨vs, e, r⟩ := h
    exact ⟨vs, (hs rfl).trans e, RepK.mono k p _ _ r⟩
theorem ObR.mutSome {K : PySem.W.Frag} {H : Hp} {m : List Addr} {a : Addr} {o : HOb} (h : ObR K H m a o) (e : o.mut = true) : ∃ u, H a = some u ∧ (∀ vs, u ≠ .tup vs) ∧ ∀ w xs, u ≠ .frz w xs := by
  cases o with
  | lst ds => obtain ⟨vs, e, _⟩ := h; exact ⟨_, e, (fun _ z => by cases z), (fun _ _ z => by cases z)⟩
  | rd ds => cases e
  | dct kvs => obtain ⟨vs, e, _⟩ := h; exact ⟨_, e, (fun _ z => by cases z), (fun _ _ z => by cases z)⟩
section
variable {K : PySem.W.Frag} {H H' : Hp} {m : List Addr} {A : Hpp}
/-- a tuple is laid -/
theorem HR.tup (h : HR K H m A) {p : Addr} {o : HO} (hp : H p = none) : HR K (upd H p o) m A where
  len := h.len
  inj := h.inj
  at_ := fun i a u e1 e2 => by
    have x := h.at_ i a u e1 e2
    refine x.mono (Keep.new hp) (List.prefix_refl _) (fun q => ?_) fun w xs q => ?_
    · obtain ⟨z, hz, _⟩ := x.mutSome q
      exact upd_ne (ne_of_none hz hp)
    · rw [upd_ne (ne_of_none q hp)]; exact q
/-- a new object is laid -/
theorem HR.new (h : HR K H m A) {p : Addr} {o : HO} {u : HOb} (hp : H p = none) (hu : u.mut = true) (x : ObR K (upd H p o) (m ++ [p]) p u) : HR K (upd H p o) (m ++ [p]) (A ++ [u]) where
  len := by simp [h.len]
  inj := fun i j a o1 o2 e1 e2 f1 f2 m1 m2 => by
    have old : ∀ (i : Nat) (a : Addr) (o : HOb), m[i]? = some a → A[i]? = some o → o.mut = true → a ≠ p := fun i a o e1 e2 e3 => by
      obtain ⟨z, hz, _⟩ := (h.at_ i a o e1 e2).mutSome e3
      exact ne_of_none hz hp
    have hl := h.len
    by_cases hi : i < m.length
    · rw [List.getElem?_append_left hi] at e1
      rw [List.getElem?_append_left (by omega)] at f1
      by_cases hj : j < m.length
      · rw [List.getElem?_append_left hj] at e2
        rw [List.getElem?_append_left (by omega)] at f2
        exact h.inj i j a o1 o2 e1 e2 f1 f2 m1 m2
      · have hj' := (List.getElem?_eq_some_iff.mp e2).1
        simp at hj'
        have : j = m.length := by omega
        subst this
        simp at e2
        exact absurd e2.symm (old i a o1 e1 f1 m1)
    · have hi' := (List.getElem?_eq_some_iff.mp e1).1
      simp at hi'
      have : i = m.length := by omega
      subst this
      simp at e1
      by_cases hj : j < m.length
      · rw [List.getElem?_append_left hj] at e2
        rw [List.getElem?_append_left (by omega)] at f2
        exact absurd e1.symm (old j a o2 e2 f2 m2)
      · have hj' := (List.getElem?_eq_some_iff.mp e2).1
        simp at hj'
        omega
  at_ := fun i a o1 e1 f1 => by
    have hl := h.len
    by_cases hi : i < m.length
    · rw [List.getElem?_append_left hi] at e1
      rw [List.getElem?_append_left (by omega)] at f1
      have x := h.at_ i a o1 e1 f1
      refine x.mono (Keep.new hp) (List.prefix_append _ _) (fun q => ?_) fun w xs q => ?_
      · obtain ⟨z, hz, _⟩ := x.mutSome q
        exact upd_ne (ne_of_none hz hp)
      · rw [upd_ne (ne_of_none q hp)]; exact q
    · have hi' := (List.getElem?_eq_some_iff.mp e1).1
      simp at hi'
      have : i = m.length := by omega
      subst this
      simp at e1
      subst e1
      rw [hl] at f1
      simp at f1
      subst f1
      exact x
/-- an object is written -/
theorem HR.set (h : HR K H m A) {n : Nat} {p : Addr} {o : HO} {u u' : HOb} (e : A[n]? = some u) (em : m[n]? = some p) (hu : u.mut = true) (hu' : u'.mut = true) (x : ObR K (upd H p o) m p u') : HR K (upd H p o) m (A.set n u') ∧ Keep H (upd H p o) := by
  obtain ⟨z, hz, nt, nf⟩ := (h.at_ n p u em e).mutSome hu
  have kp : Keep H (upd H p o) := Keep.write hz nt
  have hn := (List.getElem?_eq_some_iff.mp e).1
  refine ⟨⟨by simp [h.len], fun i j a o1 o2 e1 e2 f1 f2 m1 m2 => ?_, fun i a o1 e1 f1 => ?_⟩, kp⟩
  · have g : ∀ (i : Nat) (o1 : HOb), (A.set n u')[i]? = some o1 → o1.mut = true → ∃ o2 : HOb, A[i]? = some o2 ∧ o2.mut = true := fun i o1 f q => by
      by_cases hi : i = n
      · subst hi; exact ⟨u, e, hu⟩
      · rw [List.getElem?_set_ne (Ne.symm hi)] at f; exact ⟨o1, f, q⟩
    obtain ⟨a1, b1, c1⟩ := g i o1 f1 m1
    obtain ⟨a2, b2, c2⟩ := g j o2 f2 m2
    exact h.inj i j a a1 a2 e1 e2 b1 b2 c1 c2
  · by_cases hi : i = n
    · subst hi
      rw [em] at e1; cases e1
      rw [List.getElem?_set_self hn] at f1
      cases f1
      exact x
    · rw [List.getElem?_set_ne (Ne.symm hi)] at f1
      have y := h.at_ i a o1 e1 f1
      refine y.mono kp (List.prefix_refl _) (fun q => ?_) fun w xs q => ?_
      · refine upd_ne fun z => hi ?_
        subst z
        exact h.inj i n a o1 u e1 em f1 e q hu
      · have : a ≠ p := fun z => by subst z; rw [hz] at q; cases q; exact nf _ _ rfl
        rw [upd_ne this]; exact q
end
/-- the names -/
structure LR (K : PySem.W.Frag) (H : Hp) (m : List Addr) (L : Loc) (s : St) : Prop where
  len : L.length = s.length
  at_ : ∀ (i : Nat) (d : D), L[i]? = some (some d) → ∃ v, s[i]? = some (some v) ∧ Rep K H m d v
theorem LR.mono {K : PySem.W.Frag} {H H' : Hp} {m m' : List Addr} {L : Loc} {s : St} (h : LR K H m L s) (k : Keep H H') (p : m <+: m') : LR K H' m' L s :=
  ⟨h.len, fun i d e => let ⟨v, a, b⟩ := h.at_ i d e; ⟨v, a, Rep.mono k p d v b⟩⟩
theorem LR.set {K : PySem.W.Frag} {H : Hp} {m : List Addr} {L : Loc} {s : St} (h : LR K H m L s) {i : Nat} {d : D} {v : V} (r : Rep K H m d v) : LR K H m (L.set i (some d)) (s.set i (some v)) where
  len := by simp [h.len]
  at_ := fun j e q => by
    by_cases hj : j = i
    · subst hj
      have hl : j < L.length := by have := (List.getElem?_eq_some_iff.mp q).1; simpa using this
      rw [List.getElem?_set_self hl] at q
      cases q
      exact ⟨v, List.getElem?_set_self (by rw [← h.len]; exact hl), r⟩
    · rw [List.getElem?_set_ne (Ne.symm hj)] at q ⊢
      exact h.at_ j e q
theorem LR.wipe1 {K : PySem.W.Frag} {H : Hp} {m : List Addr} {L : Loc} {s : St} (h : LR K H m L s) (i : Nat) : LR K H m (L.set i none) (s.set i none) where
  len := by simp [h.len]
  at_ := fun j e q => by
    by_cases hj : j = i
    · subst hj
      have hl : j < L.length := by have := (List.getElem?_eq_some_iff.mp q).1; simpa using this
      rw [List.getElem?_set_self hl] at q
      cases q
    · rw [List.getElem?_set_ne (Ne.symm hj)] at q ⊢
      exact h.at_ j e q
theorem LR.wipe {K : PySem.W.Frag} {H : Hp} {m : List Addr} {L : Loc} {s : St} (h : LR K H m L s) : ∀ vs : List Nat, LR K H m (wipeL L vs) (L2.wipe s vs)
  | [] => h
  | v :: vs => (LR.wipe h vs).wipe1 v
theorem LR.start {K : PySem.W.Frag} {H : Hp} {m : List Addr} {ds : List D} {vs : List V} {N : List Str} (h : RepL K H m ds vs) (hl : vs.length ≤ N.length) : LR K H m (ds.map some ++ List.replicate (N.length - ds.length) none) (start N vs) where
  len := by simp [L2.start, h.length]
  at_ := fun i d e => by
    by_cases hi : i < ds.length
    · rw [List.getElem?_append_left (by simpa using hi)] at e
      rw [List.getElem?_map] at e
      cases q : ds[i]? with
      | none => rw [q] at e; simp at e
      | some x =>
        rw [q] at e; simp at e; subst e
        obtain ⟨v, hv, r⟩ := h.get q
        refine ⟨v, ?_, r⟩
        unfold L2.start
        rw [List.getElem?_append_left (by rw [List.length_map, h.length]; exact hi), List.getElem?_map, hv] <;> rfl
    · rw [List.getElem?_append_right (by simpa using Nat.le_of_not_lt hi)] at e
      rw [List.getElem?_replicate] at e
      split at e <;> cases e
end Rf
namespace Rf
open PySem L2
def PostD (K : PySem.W.Frag) (H : Hp) (m : List Addr) (d : D) (A : Hpp) (Q : VK) : Prop :=
  ∀ (m' : List Addr) (v : V) (H' : Hp), m <+: m' → Keep H H' → HR K H' m' A → Rep K H' m' d v → Q v H'
theorem PostD.later {K : PySem.W.Frag} {H H1 : Hp} {m m1 : List Addr} {d : D} {A : Hpp} {Q : VK} (h : PostD K H m d A Q) (p : m <+: m1) (k : Keep H H1) : PostD K H1 m1 d A Q :=
  fun m' v H' p' k' r q => h m' v H' (p.trans p') (k.trans k') r q
/-- the answer is at hand and nothing was laid -/
theorem PostD.now {K : PySem.W.Frag} {H : Hp} {m : List Addr} {d : D} {A : Hpp} {Q : VK} (h : PostD K H m d A Q) {v : V} (hr : HR K H m A) (r : Rep K H m d v) : Q v H :=
  h m v H (List.prefix_refl _) (Keep.refl _) hr r
def tE (K : PySem.W.Frag) (f : M) : TE := fun s H Q => ∃ (m : List Addr) (A : Hpp) (L : Loc) (d : D) (A' : Hpp), HR K H m A ∧ LR K H m L s ∧ f L A = .ok d A' ∧ PostD K H m d A' Q
def PostB (K : PySem.W.Frag) (H : Hp) (m : List Addr) (A : Hpp) (Q : Hp → Prop) : Prop :=
  ∀ (m' : List Addr) (H' : Hp), m <+: m' → Keep H H' → HR K H' m' A → Q H'
def tT (K : PySem.W.Frag) (f : MB) : TT := fun s H Q => ∃ (m : List Addr) (A : Hpp) (L : Loc) (b : Bool) (A' : Hpp), HR K H m A ∧ LR K H m L s ∧ f L A = .ok b A' ∧ PostB K H m A' (Q b)
def PostL (K : PySem.W.Frag) (H : Hp) (m : List Addr) (ds : List D) (A : Hpp) (Q : List V → Hp → Prop) : Prop :=
  ∀ (m' : List Addr) (vs : List V) (H' : Hp), m <+: m' → Keep H H' → HR K H' m' A → RepL K H' m' ds vs → Q vs H'
def tL (K : PySem.W.Frag) (f : ML) : TA := fun s H Q => ∃ (m : List Addr) (A : Hpp) (L : Loc) (ds : List D) (A' : Hpp), HR K H m A ∧ LR K H m L s ∧ f L A = .ok ds A' ∧ PostL K H m ds A' Q
/-- two-place operations by values -/
def rB (K : PySem.W.Frag) (f : D → D → Hpp → R D) : R2 := fun x y H Q => ∃ (m : List Addr) (A : Hpp) (dx dy d : D) (A' : Hpp), HR K H m A ∧ Rep K H m dx x ∧ Rep K H m dy y ∧ f dx dy A = .ok d A' ∧ PostD K H m d A' Q
def rU (K : PySem.W.Frag) (f : D → Hpp → R D) : V → Hp → VK → Prop := fun x H Q => ∃ (m : List Addr) (A : Hpp) (dx d : D) (A' : Hpp), HR K H m A ∧ Rep K H m dx x ∧ f dx A = .ok d A' ∧ PostD K H m d A' Q
def rF (K : PySem.W.Frag) (f : List D → Hpp → R D) : List V → Hp → VK → Prop := fun xs H Q => ∃ (m : List Addr) (A : Hpp) (ds : List D) (d : D) (A' : Hpp), HR K H m A ∧ RepL K H m ds xs ∧ f ds A = .ok d A' ∧ PostD K H m d A' Q
def rM (K : PySem.W.Frag) (f : D → List D → Hpp → R D) : V → List V → Hp → VK → Prop := fun x xs H Q => ∃ (m : List Addr) (A : Hpp) (dx : D) (ds : List D) (d : D) (A' : Hpp), HR K H m A ∧ Rep K H m dx x ∧ RepL K H m ds xs ∧ f dx ds A = .ok d A' ∧ PostD K H m d A' Q
theorem PE.weak {X : Cx} {e : Expr} {t t' : TE} (h : PE X e t) (w : ∀ s H Q, t' s H Q → t s H Q) : PE X e t' := ⟨fun pins s q H Q I x => h.run pins s q H Q I (w q H Q x)⟩
theorem PT.weak {X : Cx} {e : Expr} {t t' : TT} (h : PT X e t) (w : ∀ s H Q, t' s H Q → t s H Q) : PT X e t' := ⟨fun pins s q H Q I x => h.run pins s q H Q I (w q H Q x)⟩
theorem PW.weak {X : Cx} {e : Expr} {t t' : TT} (h : PW X e t) (w : ∀ s H Q, t' s H Q → t s H Q) : PW X e t' := ⟨fun wh pins s q H Q I x => h.run wh pins s q H Q I (w q H Q x)⟩
theorem PA.weak {X : Cx} {es : List Expr} {t t' : TA} (h : PA X es t) (w : ∀ s H Q, t' s H Q → t s H Q) : PA X es t' := ⟨fun pos pins s q H Q I x => h.run pos pins s q H Q I (w q H Q x)⟩
theorem PK.weak {X : Cx} {es : List Keyword} {t t' : TA} (h : PK X es t) (w : ∀ s H Q, t' s H Q → t s H Q) : PK X es t' := ⟨fun pos pins s q H Q I x => h.run pos pins s q H Q I (w q H Q x)⟩
theorem PS.weak {X : Cx} {e : Stmt} {t t' : TS} (h : PS X e t) (w : ∀ D s H, t' D s H → t D s H) : PS X e t' := ⟨fun pins s q H D I x => h.run pins s q H D I (w D q H x)⟩
theorem PSs.weak {X : Cx} {e : List Stmt} {t t' : TS} (h : PSs X e t) (w : ∀ D s H, t' D s H → t D s H) : PSs X e t' := ⟨fun pins s q H D I x => h.run pins s q H D I (w D q H x)⟩
theorem PG.weak {X : Cx} {e : Expr} {t t' : TG} (h : PG X e t) (w : ∀ v s H Q, t' v s H Q → t v s H Q) : PG X e t' := ⟨fun pins s q H v u Q I r x => h.run pins s q H v u Q I r (w v q H Q x)⟩
theorem PGs.weak {X : Cx} {e : List Expr} {t t' : TGs} (h : PGs X e t) (w : ∀ v s H Q, t' v s H Q → t v s H Q) : PGs X e t' := ⟨fun pins s q H v u Q I r x => h.run pins s q H v u Q I r (w v q H Q x)⟩
theorem PI.weak {X : Cx} {tg e : Expr} {t t' : TI} (h : PI X tg e t) (w : ∀ s H R, t' s H R → t s H R) : PI X tg e t' := ⟨fun pins s q H R I x => h.run pins s q H R I (w q H R x)⟩
theorem OpR.weak {X : Cx} {f : Value → Value → Sem Value} {r r' : R2} (h : OpR X f r) (w : ∀ x y H Q, r' x y H Q → r x y H Q) : OpR X f r' := fun pins s q H x y v u Q I rx ry z => h pins s q H x y v u Q I rx ry (w x y H Q z)
theorem CallR.weak {X : Cx} {f : Value} {r r' : List V → Hp → VK → Prop} (h : CallR X f r) (w : ∀ xs H Q, r' xs H Q → r xs H Q) : CallR X f r' := fun pins s q H xs us Q I rx z => h pins s q H xs us Q I rx (w xs H Q z)
theorem MtR.weak {X : Cx} {id : String} {r r' : V → List V → Hp → VK → Prop} (h : MtR X id r) (w : ∀ x xs H Q, r' x xs H Q → r x xs H Q) : MtR X id r' := fun pins s q H x xs v us Q I rx ry z => h pins s q H x xs v us Q I rx ry (w x xs H Q z)
theorem UnR.weak {X : Cx} {f : Value → Sem Value} {r r' : V → Hp → VK → Prop} (h : UnR X f r) (w : ∀ x H Q, r' x H Q → r x H Q) : UnR X f r' := fun pins s q H x v Q I rx z => h pins s q H x v Q I rx (w x H Q z)
theorem IxR.weak {X : Cx} {r r' : R2} (h : IxR X r) (w : ∀ x y H Q, r' x y H Q → r x y H Q) : IxR X r' := fun e e2 pins s q H x y v u Q I rx ry z => h e e2 pins s q H x y v u Q I rx ry (w x y H Q z)
theorem SlR.weak {X : Cx} {r r' : V → Option Int → Option Int → Hp → VK → Prop} (h : SlR X r) (w : ∀ x l u H Q, r' x l u H Q → r x l u H Q) : SlR X r' := fun pins s q H x v vl vu lo hi sl Q I rx hs a b z => h pins s q H x v vl vu lo hi sl Q I rx hs a b (w x lo hi H Q z)
section
variable {K : PySem.W.Frag} {H : Hp} {m : List Addr} {A : Hpp}
theorem HR.lst {n : Nat} {l : List D} (h : HR K H m A) (e : A[n]? = some (.lst l)) {x : V} (r : Rep K H m (.ref n) x) : ∃ a vs, x = .ref a ∧ m[n]? = some a ∧ H a = some (.lst vs) ∧ RepL K H m l vs := by
  simp only [Rep] at r
  obtain ⟨a, e1, rfl⟩ := r
  obtain ⟨vs, e2, e3⟩ := h.at_ n a _ e1 e
  exact ⟨a, vs, rfl, e1, e2, e3⟩
theorem HR.rd {n : Nat} {l : List D} (h : HR K H m A) (e : A[n]? = some (.rd l)) {x : V} (r : Rep K H m (.ref n) x) : ∃ a vs, x = .ref a ∧ m[n]? = some a ∧ RdAt K H a vs ∧ RepL K H m l vs := by
  simp only [Rep] at r
  obtain ⟨a, e1, rfl⟩ := r
  obtain ⟨vs, e2, e3⟩ := h.at_ n a _ e1 e
  exact ⟨a, vs, rfl, e1, e2, e3⟩
theorem HR.dct {n : Nat} {l : List (Key × D)} (h : HR K H m A) (e : A[n]? = some (.dct l)) {x : V} (r : Rep K H m (.ref n) x) : ∃ a vs, x = .ref a ∧ m[n]? = some a ∧ H a = some (.dK vs) ∧ RepK K H m l vs := by
  simp only [Rep] at r
  obtain ⟨a, e1, rfl⟩ := r
  obtain ⟨vs, e2, e3⟩ := h.at_ n a _ e1 e
  exact ⟨a, vs, rfl, e1, e2, e3⟩
/-- a new list -/
theorem PostD.newL {l : List D} {vs : List V} {Q : VK} (h : PostD K H m (.ref A.length) (A ++ [.lst l]) Q) (hr : HR K H m A) (r : RepL K H m l vs) : ∀ p, H p = none → Q (.ref p) (upd H p (.lst vs)) := fun p hp => by
  have x : HR K (upd H p (.lst vs)) (m ++ [p]) (A ++ [.lst l]) := hr.new hp rfl ⟨vs, upd_same, RepL.mono (Keep.new hp) (List.prefix_append _ _) _ _ r⟩
  refine h (m ++ [p]) (.ref p) _ (List.prefix_append _ _) (Keep.new hp) x ?_
  simp only [Rep]
  exact ⟨p, by rw [← hr.len]; simp, rfl⟩
/-- a new tuple -/
theorem PostD.newT {l : List D} {vs : List V} {Q : VK} (h : PostD K H m (.tup l) A Q) (hr : HR K H m A) (r : RepL K H m l vs) : ∀ p, H p = none → Q (.ref p) (upd H p (.tup vs)) := fun p hp => by
  refine h m (.ref p) _ (List.prefix_refl _) (Keep.new hp) (hr.tup hp) ?_
  simp only [Rep]
  exact ⟨p, vs, rfl, .inl upd_same, RepL.mono (Keep.new hp) (List.prefix_refl _) _ _ r⟩
end
section
variable {X : Cx}
theorem rep_tup {K : PySem.W.Frag} {H : Hp} {m : List Addr} {l : List D} {x : V} (h : Rep K H m (.tup l) x) : ∃ p vs, x = .ref p ∧ TupAt K H p vs ∧ RepL K H m l vs := by simpa only [Rep] using h
theorem op_add_bi : OpR X (binaryOp .Add) (fun x y H Q => ∃ k i, x = .bl k ∧ y = .int i ∧ Q (.int ((if k = true then 1 else 0) + i)) H) := by
  intro pins s q H x y v u Q I rx ry ⟨k, i, ex, ey, h⟩
  subst ex; subst ey
  cases rx
  obtain ⟨t, rfl⟩ := ry
  exact PySem.IntBool.add_bool_int ⟨.int _, H, I.tok _, ⟨_, rfl⟩, h⟩
theorem o_add : OpR X (binaryOp .Add) (rB X.K opAdd) := by
  refine OpR.weak (OpR.or op_add_bi (OpR.or op_add (OpR.or op_add_str (OpR.or op_catA op_cat)))) ?_
  rintro x y H Q ⟨m, A, dx, dy, d, A', hr, rx, ry, e, post⟩
  unfold opAdd at e
  split at e
  · cases e
    simp only [Rep] at rx ry
    subst rx; subst ry
    exact .inr (.inl ⟨_, _, rfl, rfl, post.now hr rfl⟩)
  · cases e
    simp only [Rep] at rx ry
    subst rx; subst ry
    exact .inl ⟨_, _, rfl, rfl, post.now hr rfl⟩
  · split at e
    · cases e
      simp only [Rep] at rx ry
      subst rx; subst ry
      rename_i hl
      exact .inr (.inr (.inl ⟨_, _, rfl, rfl, hl, post.now hr rfl⟩))
    · cases e
  · split at e
    · cases e
      rename_i a b hl
      obtain ⟨p, vs, rfl, tp, rp⟩ := rep_tup rx
      obtain ⟨q, us, rfl, tq, rq⟩ := rep_tup ry
      have l1 := rp.length
      have l2 := rq.length
      refine .inr (.inr (.inr (.inl ⟨p, q, vs, us, rfl, rfl, tp.sq, tq.sq, by omega, fun z => ?_, fun _ z => ?_, fun _ _ => PostD.newT post hr (rp.append rq)⟩)))
      · subst z
        have : a = [] := List.eq_nil_of_length_eq_zero (by simpa using l1.symm)
        subst this
        exact post.now hr ry
      · subst z
        have : b = [] := List.eq_nil_of_length_eq_zero (by simpa using l2.symm)
        subst this
        exact post.now hr (by simpa using rx)
    · cases e
  · split at e
    · rename_i e1 e2
      split at e
      · cases e
        rename_i hl
        obtain ⟨p, vs, rfl, _, hp, rp⟩ := hr.lst e1 rx
        obtain ⟨q, us, rfl, _, hq, rq⟩ := hr.lst e2 ry
        have l1 := rp.length
        have l2 := rq.length
        exact .inr (.inr (.inr (.inr ⟨p, q, vs, us, rfl, rfl, hp, hq, by omega, PostD.newL post hr (rp.append rq)⟩)))
      · cases e
    · cases e
  · cases e
theorem o_sub : OpR X (binaryOp .Sub) (rB X.K opSub) := by
  refine OpR.weak op_sub ?_
  rintro x y H Q ⟨m, A, dx, dy, d, A', hr, rx, ry, e, post⟩
  unfold opSub at e
  split at e
  · cases e
    simp only [Rep] at rx ry
    subst rx; subst ry
    exact ⟨_, _, rfl, rfl, post.now hr rfl⟩
  · cases e
theorem o_mod : OpR X (binaryOp .Mod) (rB X.K opMod) := by
  refine OpR.weak op_mod ?_
  rintro x y H Q ⟨m, A, dx, dy, d, A', hr, rx, ry, e, post⟩
  unfold opMod at e
  split at e
  · split at e
    · cases e
      rename_i hj
      simp only [Rep] at rx ry
      subst rx; subst ry
      exact ⟨_, _, rfl, rfl, hj, post.now hr rfl⟩
    · cases e
  · cases e
theorem o_fdiv : OpR X (binaryOp .FloorDiv) (rB X.K opFdiv) := by
  refine OpR.weak op_fdivW ?_
  rintro x y H Q ⟨m, A, dx, dy, d, A', hr, rx, ry, e, post⟩
  unfold opFdiv at e
  split at e
  · split at e
    · cases e
      rename_i hj
      simp only [Rep] at rx ry
      subst rx; subst ry
      exact ⟨_, _, rfl, rfl, hj, post.now hr rfl⟩
    · cases e
  · cases e
theorem o_pow : OpR X (binaryOp .Pow) (rB X.K opPow) := by
  refine OpR.weak op_pow ?_
  rintro x y H Q ⟨m, A, dx, dy, d, A', hr, rx, ry, e, post⟩
  unfold opPow at e
  split at e
  · split at e
    · cases e
      rename_i hj
      simp only [Rep] at rx ry
      subst rx; subst ry
      exact ⟨_, _, rfl, rfl, hj, post.now hr rfl⟩
    · cases e
  · cases e
theorem u_neg : UnR X (unaryOp .USub) (rU X.K opNeg) := by
  refine UnR.weak un_neg ?_
  rintro x H Q ⟨m, A, dx, d, A', hr, rx, e, post⟩
  unfold opNeg at e
  split at e
  · cases e
    simp only [Rep] at rx
    subst rx
    exact ⟨_, rfl, post.now hr rfl⟩
  · cases e
end
end Rf
namespace Rf
open PySem L2
theorem foldl_cps (c : Array Nat) : ∀ (k : Nat) (acc : Array Nat), List.foldl (· ++ ·) acc (List.replicate k c) = acc ++ (List.replicate k c.toList).flatten.toArray
  | 0, acc => by simp
  | k + 1, acc => by
    rw [List.replicate_succ, List.foldl_cons, foldl_cps c k, List.replicate_succ, List.flatten_cons]
    apply Array.toList_inj.mp
    simp
theorem mul_eq {a : Str} {k : Int} (h1 : 2 ≤ k) (h2 : 0 < a.length) : Txt.mul a k = strRep a k.toNat := by
  unfold Txt.mul strRep
  have e1 : ¬ k < 1 := by omega
  have e2 : (k == 1) = false := by simp; omega
  have e3 : (a.length == 0) = false := by simp; omega
  rw [if_neg e1, e2, e3]
  simp only [Bool.or_self, Bool.false_eq_true, if_false]
  rw [foldl_cps]
  simp
section
variable {X : Cx}
theorem o_mulS : OpR X (binaryOp .Mult) (fun x y H Q => ∃ a k, x = .str a ∧ y = .int k ∧ 2 ≤ k ∧ k ≤ 10000 ∧ a.length ≤ 100 ∧ 0 < a.length ∧ Q (.str (strRep a k.toNat)) H) := by
  rintro pins s q H x y v u Q I rx ry ⟨a, k, rfl, rfl, h1, h2, h3, h4, z⟩
  obtain ⟨t, rfl⟩ := rx
  obtain ⟨t', rfl⟩ := ry
  rw [← mul_eq h1 h4] at z
  refine SB.mul ⟨by simp; omega, fun _ _ => ?_, fun _ _ => ?_⟩ fun t'' k' => ⟨.str _, H, I.tok _, ⟨_, rfl⟩, z⟩
  · have : (100 : Int) ≤ (2 ^ 63 - 1) / k := by
      rw [Int.le_ediv_iff_mul_le (by omega)]
      omega
    omega
  · have : a.length * k.toNat ≤ 100 * 10000 := Nat.mul_le_mul h3 (by omega)
    unfold Builtin.Str.tooLong
    simp
    first | omega | (have := sizeLine_eq; omega)
theorem o_mul : OpR X (binaryOp .Mult) (rB X.K opMul) := by
  refine OpR.weak (OpR.or (OpR.or op_mul op_mulW) (OpR.or op_repT o_mulS)) ?_
  rintro x y H Q ⟨m, A, dx, dy, d, A', hr, rx, ry, e, post⟩
  unfold opMul at e
  split at e
  · split at e
    · cases e
      rename_i hj
      simp only [Rep] at rx ry
      subst rx; subst ry
      rcases hj with hj | hj
      · exact .inl (.inl ⟨_, _, rfl, rfl, hj, post.now hr rfl⟩)
      · exact .inl (.inr ⟨_, _, rfl, rfl, hj, post.now hr rfl⟩)
    · cases e
  · split at e
    · cases e
      rename_i hj
      simp only [Rep] at ry
      subst ry
      obtain ⟨p, vs, rfl, tp, rp⟩ := rep_tup rx
      have l1 := rp.length
      refine .inr (.inl ⟨p, _, vs, rfl, rfl, tp.sq, fun z => ?_, hj.2.1, hj.2.2.1, by omega, PostD.newT post hr (rp.flat _)⟩)
      subst z
      exact hj.1 (List.eq_nil_of_length_eq_zero (by simpa using l1.symm))
    · cases e
  · split at e
    · cases e
      rename_i hj
      simp only [Rep] at rx ry
      subst rx; subst ry
      exact .inr (.inr ⟨_, _, rfl, rfl, hj.1, hj.2.1, hj.2.2.1, hj.2.2.2, post.now hr rfl⟩)
    · cases e
  · cases e
/-! ### comparisons -/
theorem dpAll_of {K : PySem.W.Frag} {H : Hp} {m : List Addr} {f : D → Option PyData} (ih : ∀ d v p, Rep K H m d v → f d = some p → Dp K H v p) : ∀ (l : List D) (vs : List V) (ps : List PyData), RepL K H m l vs → optAll (l.map f) = some ps → DpAll K H vs ps
  | [], vs, ps, r, e => by
    simp only [RepL] at r
    subst r
    simp only [List.map_nil, optAll, Option.some.injEq] at e
    subst e
    exact .nil
  | d :: l, vs, ps, r, e => by
    simp only [RepL] at r
    obtain ⟨v, t, rfl, a, b⟩ := r
    rw [List.map_cons] at e
    cases q : f d with
    | none => rw [q] at e; simp [optAll] at e
    | some p =>
      rw [q] at e
      simp only [optAll] at e
      cases q2 : optAll (l.map f) with
      | none => rw [q2] at e; simp at e
      | some qs =>
        rw [q2] at e
        simp only [Option.map_some, Option.some.injEq] at e
        subst e
        exact .cons (ih d v p a q) (dpAll_of ih l t qs b q2)
theorem dp_of {K : PySem.W.Frag} {H : Hp} {m : List Addr} {A : Hpp} (hr : HR K H m A) : ∀ (n : Nat) (d : D) (v : V) (p : PyData), Rep K H m d v → d.snap A n = some p → Dp K H v p := by
  intro n
  induction n with
  | zero =>
    intro d v p r e
    cases d with
    | non => simp only [Rep] at r; subst r; simp only [D.snap, Option.some.injEq] at e; subst e; exact .non
    | bl b => simp only [Rep] at r; subst r; simp only [D.snap, Option.some.injEq] at e; subst e; exact .bl b
    | int b => simp only [Rep] at r; subst r; simp only [D.snap, Option.some.injEq] at e; subst e; exact .int b
    | str b => simp only [Rep] at r; subst r; simp only [D.snap, Option.some.injEq] at e; subst e; exact .str b
    | tup l => simp [D.snap] at e
    | ref k => simp [D.snap] at e
  | succ n ih =>
    intro d v p r e
    cases d with
    | non => simp only [Rep] at r; subst r; simp only [D.snap, Option.some.injEq] at e; subst e; exact .non
    | bl b => simp only [Rep] at r; subst r; simp only [D.snap, Option.some.injEq] at e; subst e; exact .bl b
    | int b => simp only [Rep] at r; subst r; simp only [D.snap, Option.some.injEq] at e; subst e; exact .int b
    | str b => simp only [Rep] at r; subst r; simp only [D.snap, Option.some.injEq] at e; subst e; exact .str b
    | tup l =>
      obtain ⟨q, vs, rfl, t, r'⟩ := rep_tup r
      simp only [D.snap] at e
      cases q2 : optAll (l.map (D.snap A n)) with
      | none => rw [q2] at e; simp at e
      | some qs =>
        rw [q2] at e
        simp only [Option.map_some, Option.some.injEq] at e
        subst e
        exact .tup t.sq (dpAll_of ih l vs qs r' q2)
    | ref k =>
      simp only [D.snap] at e
      split at e
      · rename_i l hl
        obtain ⟨a, vs, rfl, _, ha, r'⟩ := hr.lst hl r
        cases q2 : optAll (l.map (D.snap A n)) with
        | none => rw [q2] at e; simp at e
        | some qs =>
          rw [q2] at e
          simp only [Option.map_some, Option.some.injEq] at e
          subst e
          exact .lst (SqL.of ha) (dpAll_of ih l vs qs r' q2)
      · rename_i l hl
        obtain ⟨a, vs, rfl, _, ha, r'⟩ := hr.rd hl r
        cases q2 : optAll (l.map (D.snap A n)) with
        | none => rw [q2] at e; simp at e
        | some qs =>
          rw [q2] at e
          simp only [Option.map_some, Option.some.injEq] at e
          subst e
          exact .lst ha.sq (dpAll_of ih l vs qs r' q2)
      · cases e
theorem eqD_ok {K : PySem.W.Frag} {H : Hp} {m : List Addr} {A : Hpp} {dx dy : D} {x y : V} {b : Bool} (hr : HR K H m A) (rx : Rep K H m dx x) (ry : Rep K H m dy y) (e : eqD dx dy A = some b) :
    (scal x y = true ∧ b = decide (x = y)) ∨ ∃ d e, Dp K H x d ∧ Dp K H y e ∧ SeqAt.shaped d = true ∧ SeqAt.shaped e = true ∧ b = PyData.eqv d e := by
  unfold eqD at e
  split at e
  · simp only [Rep] at rx ry; subst rx; subst ry; cases e; exact .inl ⟨rfl, by simp⟩
  · simp only [Rep] at rx ry; subst rx; subst ry; cases e; exact .inl ⟨rfl, by simp⟩
  · simp only [Rep] at rx ry; subst rx; subst ry; cases e; exact .inl ⟨rfl, by simp⟩
  · simp only [Rep] at rx ry; subst rx; subst ry; cases e; exact .inl ⟨rfl, by simp⟩
  · simp only [Rep] at rx ry; subst rx; subst ry; cases e; exact .inl ⟨rfl, by simp⟩
  · simp only [Rep] at rx ry; subst rx; subst ry; cases e; exact .inl ⟨rfl, by simp⟩
  · split at e
    · rename_i d e' h1 h2
      split at e
      · rename_i hs
        rw [Bool.and_eq_true] at hs
        cases e
        exact .inr ⟨d, e', dp_of hr _ _ _ _ rx h1, dp_of hr _ _ _ _ ry h2, hs.1, hs.2, rfl⟩
      · cases e
    · cases e
theorem c_eq (hu : X.A.units + 64 < cLine) : OpR X (compareOp .Eq) (rB X.K cmpEq) := by
  refine OpR.weak (OpR.or op_eq (op_eqD hu)) ?_
  rintro x y H Q ⟨m, A, dx, dy, d, A', hr, rx, ry, e, post⟩
  unfold cmpEq at e
  obtain ⟨b, A1, e1, e2⟩ := R.bind_eq_ok e
  obtain ⟨e1, rfl⟩ := R.ofO_ok e1
  cases e2
  rcases eqD_ok hr rx ry e1 with ⟨h1, rfl⟩ | ⟨d, e9, h1, h2, h3, h4, rfl⟩
  · exact .inl ⟨h1, post.now hr rfl⟩
  · exact .inr ⟨d, e9, h1, h2, h3, h4, post.now hr rfl⟩
theorem c_ne (hu : X.A.units + 64 < cLine) : OpR X (compareOp .NotEq) (rB X.K cmpNe) := by
  refine OpR.weak (OpR.or op_ne (op_neD hu)) ?_
  rintro x y H Q ⟨m, A, dx, dy, d, A', hr, rx, ry, e, post⟩
  unfold cmpNe at e
  obtain ⟨b, A1, e1, e2⟩ := R.bind_eq_ok e
  obtain ⟨e1, rfl⟩ := R.ofO_ok e1
  cases e2
  rcases eqD_ok hr rx ry e1 with ⟨h1, rfl⟩ | ⟨d, e9, h1, h2, h3, h4, rfl⟩
  · exact .inl ⟨h1, post.now hr rfl⟩
  · exact .inr ⟨d, e9, h1, h2, h3, h4, post.now hr rfl⟩
theorem c_lt : OpR X (compareOp .Lt) (rB X.K cmpLt) := by
  refine OpR.weak op_lt ?_
  rintro x y H Q ⟨m, A, dx, dy, d, A', hr, rx, ry, e, post⟩
  unfold cmpLt at e
  split at e
  · simp only [Rep] at rx ry; subst rx; subst ry; cases e
    exact ⟨_, _, rfl, rfl, post.now hr rfl⟩
  · cases e
theorem c_le : OpR X (compareOp .LtE) (rB X.K cmpLe) := by
  refine OpR.weak op_le ?_
  rintro x y H Q ⟨m, A, dx, dy, d, A', hr, rx, ry, e, post⟩
  unfold cmpLe at e
  split at e
  · simp only [Rep] at rx ry; subst rx; subst ry; cases e
    exact ⟨_, _, rfl, rfl, post.now hr rfl⟩
  · cases e
theorem c_gt : OpR X (compareOp .Gt) (rB X.K cmpGt) := by
  refine OpR.weak op_gt ?_
  rintro x y H Q ⟨m, A, dx, dy, d, A', hr, rx, ry, e, post⟩
  unfold cmpGt at e
  split at e
  · simp only [Rep] at rx ry; subst rx; subst ry; cases e
    exact ⟨_, _, rfl, rfl, post.now hr rfl⟩
  · cases e
theorem c_ge : OpR X (compareOp .GtE) (rB X.K cmpGe) := by
  refine OpR.weak op_ge ?_
  rintro x y H Q ⟨m, A, dx, dy, d, A', hr, rx, ry, e, post⟩
  unfold cmpGe at e
  split at e
  · simp only [Rep] at rx ry; subst rx; subst ry; cases e
    exact ⟨_, _, rfl, rfl, post.now hr rfl⟩
  · cases e
theorem non_iff {K : PySem.W.Frag} {H : Hp} {m : List Addr} {d : D} {x : V} (r : Rep K H m d x) : decide (x = .non) = decide (d = .non) := by
  cases d with
  | non => simp only [Rep] at r; subst r; simp
  | bl b => simp only [Rep] at r; subst r; simp
  | int b => simp only [Rep] at r; subst r; simp
  | str b => simp only [Rep] at r; subst r; simp
  | tup l => obtain ⟨p, vs, rfl, _⟩ := rep_tup r; simp
  | ref k => simp only [Rep] at r; obtain ⟨a, _, rfl⟩ := r; simp
theorem c_is : OpR X (compareOp .Is) (rB X.K cmpIs) := by
  refine OpR.weak (OpR.or op_isN op_isBl) ?_
  rintro x y H Q ⟨m, A, dx, dy, d, A', hr, rx, ry, e, post⟩
  unfold cmpIs at e
  split at e
  · simp only [Rep] at ry; subst ry; cases e
    refine .inl ⟨rfl, ?_⟩
    rw [non_iff rx]
    exact post.now hr rfl
  · simp only [Rep] at ry; subst ry
    split at e
    · simp only [Rep] at rx; subst rx; cases e
      exact .inr ⟨_, _, rfl, rfl, post.now hr rfl⟩
    · cases e
  · cases e
theorem c_isnot : OpR X (compareOp .IsNot) (rB X.K cmpIsNot) := by
  refine OpR.weak (OpR.or op_notN op_notBl) ?_
  rintro x y H Q ⟨m, A, dx, dy, d, A', hr, rx, ry, e, post⟩
  unfold cmpIsNot at e
  split at e
  · simp only [Rep] at ry; subst ry; cases e
    refine .inl ⟨rfl, ?_⟩
    rw [non_iff rx]
    exact post.now hr rfl
  · simp only [Rep] at ry; subst ry
    split at e
    · simp only [Rep] at rx; subst rx; cases e
      exact .inr ⟨_, _, rfl, rfl, post.now hr rfl⟩
    · cases e
  · cases e
theorem inS_ok {K : PySem.W.Frag} {H : Hp} {m : List Addr} {A : Hpp} {dx dy : D} {x y : V} {b : Bool} (hr : HR K H m A) (rx : Rep K H m dx x) (ry : Rep K H m dy y) (e : inS dx dy A = some b) :
    ∃ d ds, Dp K H x d ∧ SeqAt.shaped d = true ∧ b = (ds.any fun z => PyData.eqv z d) ∧ ((Dp K H y (.list ds) ∧ SeqAt.shaped (.list ds) = true) ∨ (Dp K H y (.tuple ds) ∧ SeqAt.shaped (.tuple ds) = true)) := by
  unfold inS at e
  split at e
  · rename_i d ds h1 h2
    split at e
    · rename_i hs
      rw [Bool.and_eq_true] at hs
      cases e
      exact ⟨d, ds, dp_of hr _ _ _ _ rx h1, hs.1, rfl, .inl ⟨dp_of hr _ _ _ _ ry h2, hs.2⟩⟩
    · cases e
  · rename_i d ds h1 h2
    split at e
    · rename_i hs
      rw [Bool.and_eq_true] at hs
      cases e
      exact ⟨d, ds, dp_of hr _ _ _ _ rx h1, hs.1, rfl, .inr ⟨dp_of hr _ _ _ _ ry h2, hs.2⟩⟩
    · cases e
  · cases e
theorem op_inT (hu : X.A.units + 65 < cLine) : OpR X (compareOp .In) (fun x y H Q => ∃ d ds, Dp X.K H x d ∧ Dp X.K H y (.tuple ds) ∧ SeqAt.shaped d = true ∧ SeqAt.shaped (.tuple ds) = true ∧ Q (.bl (ds.any fun z => PyData.eqv z d)) H) := by
  intro pins s σ H x y v u Q I rx ry h
  obtain ⟨d, ds, hd, he, sd, se, q⟩ := h
  obtain ⟨as, r1⟩ := Dp.reads I d x v hd rx
  obtain ⟨bs, r2⟩ := Dp.reads I (.tuple ds) y u he ry
  exact SeqAt.in_tuple_reads r2 r1 (SeqAt.canLay_of_shaped se) (SeqAt.canLay_of_shaped sd) (PyProof.Rows.room_in_shaped sd hu) ⟨.bl _, H, I, rfl, q⟩
theorem op_notInT (hu : X.A.units + 65 < cLine) : OpR X (compareOp .NotIn) (fun x y H Q => ∃ d ds, Dp X.K H x d ∧ Dp X.K H y (.tuple ds) ∧ SeqAt.shaped d = true ∧ SeqAt.shaped (.tuple ds) = true ∧ Q (.bl (!ds.any fun z => PyData.eqv z d)) H) := by
  intro pins s σ H x y v u Q I rx ry h
  obtain ⟨d, ds, hd, he, sd, se, q⟩ := h
  obtain ⟨as, r1⟩ := Dp.reads I d x v hd rx
  obtain ⟨bs, r2⟩ := Dp.reads I (.tuple ds) y u he ry
  exact SeqAt.notIn_tuple_reads r2 r1 (SeqAt.canLay_of_shaped se) (SeqAt.canLay_of_shaped sd) (PyProof.Rows.room_in_shaped sd hu) ⟨.bl _, H, I, rfl, q⟩
theorem inT_ok {s z : Str} {b : Bool} (h : inT s z = some b) : ∃ c : Nat, s = ⟨#[c]⟩ ∧ b = decide (c ∈ z.cps.toList) := by
  unfold inT at h
  split at h
  · rename_i c hc
    cases h
    refine ⟨c, ?_, rfl⟩
    obtain ⟨a⟩ := s
    congr 1
    apply Array.toList_inj.mp
    exact hc
  · cases h
theorem c_in (hu : X.A.units + 65 < cLine) : OpR X (compareOp .In) (rB X.K cmpIn) := by
  refine OpR.weak (OpR.or op_in_sign (OpR.or (op_inD hu) (op_inT hu))) ?_
  rintro x y H Q ⟨m, A, dx, dy, d, A', hr, rx, ry, e, post⟩
  unfold cmpIn at e
  obtain ⟨b, A1, e1, e2⟩ := R.bind_eq_ok e
  obtain ⟨e1, rfl⟩ := R.ofO_ok e1
  cases e2
  unfold inD at e1
  split at e1
  · obtain ⟨c, rfl, rfl⟩ := inT_ok e1
    simp only [Rep] at rx ry
    subst rx; subst ry
    exact .inl ⟨c, _, rfl, rfl, post.now hr rfl⟩
  · obtain ⟨d, ds, h1, h2, rfl, ⟨h3, h4⟩ | ⟨h3, h4⟩⟩ := inS_ok hr rx ry e1
    · exact .inr (.inl ⟨d, ds, h1, h3, h2, h4, post.now hr rfl⟩)
    · exact .inr (.inr ⟨d, ds, h1, h3, h2, h4, post.now hr rfl⟩)
theorem c_notin (hu : X.A.units + 65 < cLine) : OpR X (compareOp .NotIn) (rB X.K cmpNotIn) := by
  refine OpR.weak (OpR.or op_notIn_sign (OpR.or (op_notInD hu) (op_notInT hu))) ?_
  rintro x y H Q ⟨m, A, dx, dy, d, A', hr, rx, ry, e, post⟩
  unfold cmpNotIn at e
  obtain ⟨b, A1, e1, e2⟩ := R.bind_eq_ok e
  obtain ⟨e1, rfl⟩ := R.ofO_ok e1
  cases e2
  unfold inD at e1
  split at e1
  · obtain ⟨c, rfl, rfl⟩ := inT_ok e1
    simp only [Rep] at rx ry
    subst rx; subst ry
    exact .inl ⟨c, _, rfl, rfl, post.now hr rfl⟩
  · obtain ⟨d, ds, h1, h2, rfl, ⟨h3, h4⟩ | ⟨h3, h4⟩⟩ := inS_ok hr rx ry e1
    · exact .inr (.inl ⟨d, ds, h1, h3, h2, h4, post.now hr rfl⟩)
    · exact .inr (.inr ⟨d, ds, h1, h3, h2, h4, post.now hr rfl⟩)
theorem c_of (hu : X.A.units + 65 < cLine) {op : CmpOp} {f : D → D → Hpp → R D} (h : cmpOf op = some f) : OpR X (compareOp op) (rB X.K f) := by
  cases op <;> simp only [cmpOf, Option.some.injEq, reduceCtorEq] at h <;> subst h
  · exact c_eq (by omega)
  · exact c_ne (by omega)
  · exact c_lt
  · exact c_le
  · exact c_gt
  · exact c_ge
  · exact c_is
  · exact c_isnot
  · exact c_in hu
  · exact c_notin hu
theorem o_of {op : Operator} {f : D → D → Hpp → R D} (h : binOf op = some f) : OpR X (binaryOp op) (rB X.K f) := by
  cases op <;> simp only [binOf, Option.some.injEq, reduceCtorEq] at h <;> subst h
  · exact o_add
  · exact o_sub
  · exact o_mul
  · exact o_mod
  · exact o_pow
  · exact o_fdiv
end
end Rf
namespace Rf
open PySem PySem.Spec PyProof.Rows L2
section
variable {X : Cx}
theorem atI_rep {K : PySem.W.Frag} {H : Hp} {m : List Addr} {l : List D} {vs : List V} {i : Int} {d : D} (r : RepL K H m l vs) (e : atI l i = some d) : ∃ v, atI vs i = some v ∧ Rep K H m d v := by
  unfold atI at e ⊢
  rw [r.length]
  cases q : ixN l.length i with
  | none => rw [q] at e; simp at e
  | some j =>
    rw [q] at e
    simp only [Option.bind_some] at e
    obtain ⟨v, h1, h2⟩ := r.get e
    exact ⟨v, by simpa using h1, h2⟩
theorem sub_tail {prog : Program} {w : World} {A : Around} {E : Value → Shared → Prop} {s : Shared} {value slice : Expr} {o i : Value} {T id : String} {Q : Value → Shared → Prop}
    (tyo : s.TypeIs o T) (look : typeLookup (.type T) "__getitem__" = pure (some (.builtin id))) (plain : subscripted slice false o i = operate [o, i] (getItem o i))
    (h : wpAny (model prog w) A (getItem o i) Q E s) : wpAny (model prog w) A (subscriptTail value slice o i) Q E s := by
  have last : wpAny (model prog w) A (subscripted slice false o i)
      (fun r s3 => wpAny (model prog w) A (letTemporaryGo value o r >>= fun _ => pure r) Q E s3) E s := by
    rw [plain]
    refine wpAny_operating (wpAny_mono h (fun r s3 h3 => ?_) fun _ _ x => x)
    exact wpAny_bind (wpAny_letTemporaryGo (wpAny_pure h3))
  unfold subscriptTail
  refine wpAny_bind ?_
  rw [getitemInPython_of_ne tyo.not_modules]
  exact wpAny_bind (wpAny_specialOf tyo look (wpAny_pure (wpAny_bind last)))
/-- a dict's item, as a subscript -/
theorem ix_dct (hu : X.A.units + 1 < cLine) : IxR X (fun x y H Q => ∃ a v, x = .ref a ∧ DGet H a y (some v) ∧ Q v H) := by
  rintro value slice pins s q H x y v u Q I rx ry ⟨a, w, rfl, g, z⟩ hs
  cases rx
  exact sub_tail (dict_typeIs I g) PySem.F.slot_dict_getitem.lookup hs (d_getItem hu I g ry fun w' s' I' r' => ⟨w, H, I', r', z⟩)
theorem keyD_rep {K : PySem.W.Frag} {H : Hp} {m : List Addr} {d : D} {k : Key} {y : V} (r : Rep K H m d y) (e : keyD d = some k) : y = kV k := by
  cases d with
  | int i => simp only [keyD, Option.some.injEq] at e; subst e; simp only [Rep] at r; exact r
  | str i => simp only [keyD, Option.some.injEq] at e; subst e; simp only [Rep] at r; exact r
  | _ => simp [keyD] at e
theorem i_ix (hu : X.A.units + 1 < cLine) : IxR X (rB X.K opIx) := by
  refine IxR.weak (IxR.or ix_seq (ix_dct hu)) ?_
  rintro x y H Q ⟨m, A, dx, dy, d, A', hr, rx, ry, e, post⟩
  unfold opIx at e
  split at e
  · obtain ⟨e2, rfl⟩ := R.ofO_ok e
    obtain ⟨p, vs, rfl, tp, rp⟩ := rep_tup rx
    simp only [Rep] at ry; subst ry
    obtain ⟨v, h1, h2⟩ := atI_rep rp e2
    exact .inl (.inr (.inl ⟨p, vs, _, v, rfl, rfl, tp.sq, h1, post.now hr h2⟩))
  · split at e
    · rename_i hl
      obtain ⟨e2, rfl⟩ := R.ofO_ok e
      simp only [Rep] at rx ry; subst rx; subst ry
      obtain ⟨c, h1, h2⟩ := Option.map_eq_some_iff.mp e2
      subst h2
      exact .inl (.inr (.inr ⟨_, _, c, rfl, rfl, hl, h1, post.now hr rfl⟩))
    · cases e
  · split at e
    · rename_i hl
      obtain ⟨e2, rfl⟩ := R.ofO_ok e
      obtain ⟨a, vs, rfl, _, ha, rp⟩ := hr.lst hl rx
      simp only [Rep] at ry; subst ry
      obtain ⟨v, h1, h2⟩ := atI_rep rp e2
      exact .inl (.inl ⟨a, vs, _, v, rfl, rfl, SqL.of ha, h1, post.now hr h2⟩)
    · rename_i hl
      obtain ⟨e2, rfl⟩ := R.ofO_ok e
      obtain ⟨a, vs, rfl, _, ha, rp⟩ := hr.rd hl rx
      simp only [Rep] at ry; subst ry
      obtain ⟨v, h1, h2⟩ := atI_rep rp e2
      exact .inl (.inl ⟨a, vs, _, v, rfl, rfl, ha.sq, h1, post.now hr h2⟩)
    · rename_i hl
      split at e
      · rename_i k hk
        obtain ⟨e2, rfl⟩ := R.ofO_ok e
        obtain ⟨a, vs, rfl, _, ha, rp⟩ := hr.dct hl rx
        have hy := keyD_rep ry hk
        subst hy
        have q := rp.look k
        rw [e2] at q
        obtain ⟨v, h1, h2⟩ := q
        refine .inr ⟨a, v, rfl, ?_, post.now hr h2⟩
        rw [← h1]
        exact DGet.k ha
      · cases e
    · cases e
  · cases e
theorem cut_rep {K : PySem.W.Frag} {H : Hp} {m : List Addr} {l : List D} {vs : List V} (r : RepL K H m l vs) (lo hi : Option Int) : RepL K H m (cutD l lo hi) (cutV vs lo hi) := by
  unfold cutD cutV
  rw [r.length]
  exact (r.drop _).take _
theorem cut_whole {α : Type} (l : List α) (lo hi : Option Int) (h : HT.sIx l.length 0 lo = 0 ∧ HT.sIx l.length l.length hi = l.length) : cutD l lo hi = l := by
  unfold cutD
  rw [h.1, h.2]
  simp
def rS (K : PySem.W.Frag) : V → Option Int → Option Int → Hp → VK → Prop := fun x lo hi H Q => ∃ (m : List Addr) (A : Hpp) (dx d : D) (A' : Hpp), HR K H m A ∧ Rep K H m dx x ∧ opSl dx lo hi A = .ok d A' ∧ PostD K H m d A' Q
theorem i_sl : SlR X (rS X.K) := by
  refine SlR.weak (SlR.or C8.sl_txt (SlR.or sl_list sl_tupA)) ?_
  rintro x lo hi H Q ⟨m, A, dx, d, A', hr, rx, e, post⟩
  unfold opSl at e
  split at e
  · cases e
    rename_i l
    obtain ⟨p, vs, rfl, tp, rp⟩ := rep_tup rx
    refine .inr (.inr ⟨p, vs, rfl, tp.sq, fun z => ?_, fun z => ?_⟩)
    · rw [rp.length] at z
      rw [cut_whole l lo hi z] at post
      exact post.now hr rx
    · exact PostD.newT post hr (cut_rep rp lo hi)
  · split at e
    · cases e
      rename_i hl
      obtain ⟨a, vs, rfl, _, ha, rp⟩ := hr.lst hl rx
      exact .inr (.inl ⟨a, vs, rfl, SqL.of ha, PostD.newL post hr (cut_rep rp lo hi)⟩)
    · cases e
      rename_i hl
      obtain ⟨a, vs, rfl, _, ha, rp⟩ := hr.rd hl rx
      exact .inr (.inl ⟨a, vs, rfl, ha.sq, PostD.newL post hr (cut_rep rp lo hi)⟩)
    · cases e
  · split at e
    · cases e
      rename_i hz
      simp only [Rep] at rx; subst rx
      exact .inl ⟨_, rfl, hz, post.now hr rfl⟩
    · cases e
  · cases e
theorem RepL.put {K : PySem.W.Frag} {H : Hp} {m : List Addr} {d : D} {v : V} (hv : Rep K H m d v) : ∀ {l : List D} {vs : List V} (j : Nat), RepL K H m l vs → RepL K H m (l.set j d) (vs.set j v)
  | [], vs, j, r => by simp only [RepL] at r; subst r; rfl
  | x :: l, vs, j, r => by
    simp only [RepL] at r
    obtain ⟨w, t, rfl, a, b⟩ := r
    cases j with
    | zero => exact ⟨v, t, rfl, hv, b⟩
    | succ j => exact ⟨w, _, rfl, a, RepL.put hv j b⟩
/-- o[i] = v -/
def rSet (K : PySem.W.Frag) : TSet := fun o i v H Q => ∃ (m : List Addr) (A : Hpp) (dO dI dV : D) (A' : Hpp), HR K H m A ∧ Rep K H m dO o ∧ Rep K H m dI i ∧ Rep K H m dV v ∧ setIx dO dI dV A = .ok () A' ∧ PostB K H m A' Q
theorem i_set (hu : X.A.units + 1 < cLine) : PSet X (rSet X.K) := by
  rintro pins s q H o i v ov iv u Q I ro ri rv ⟨m, A, dO, dI, dV, A', hr, rO, rI, rV, e, post⟩
  unfold setIx at e
  split at e
  · split at e
    · rename_i hl
      split at e
      · rename_i k hk
        split at e
        · rename_i hz
          cases e
          obtain ⟨a, vs, rfl, em, ha, rp⟩ := hr.dct hl rO
          have hy := keyD_rep rI hk
          subst hy
          cases ro
          obtain ⟨h1, h2⟩ := hr.set (o := .dK (putK vs k v)) (u' := .dct (putD _ k dV)) hl em rfl rfl ⟨_, upd_same, (RepK.mono (Keep.write ha (fun _ z => by cases z)) (List.prefix_refl _) _ _ (rp.put k rV))⟩
          refine d_setItem hu I (DPut.k ha (by rw [rp.length]; exact hz)) ri rv fun s' I' => ⟨_, I', ?_⟩
          exact post m _ (List.prefix_refl _) h2 h1
        · cases e
      · cases e
    · rename_i hl
      split at e
      · split at e
        · rename_i j hj
          cases e
          obtain ⟨a, vs, rfl, em, ha, rp⟩ := hr.lst hl rO
          simp only [Rep] at rI
          subst rI
          have kp : Keep H (upd H a (.lst (vs.set j v))) := Keep.write ha (fun _ z => by cases z)
          obtain ⟨h1, h2⟩ := hr.set (o := .lst (vs.set j v)) (u' := .lst _) hl em rfl rfl ⟨_, upd_same, RepL.mono kp (List.prefix_refl _) _ _ (RepL.put rV j rp)⟩
          exact set_list pins s q H _ _ _ _ _ _ _ I ro ri rv ⟨a, vs, _, j, rfl, rfl, ha, by rw [rp.length]; exact hj, post m _ (List.prefix_refl _) h2 h1⟩
        · cases e
      · cases e
    · cases e
  · cases e
end
end Rf
namespace Rf
open PySem PySem.Spec PyProof.Rows L2
section
variable {X : Cx}
theorem b_len : CallR X (.builtin "len") (rF X.K bLen) := by
  refine CallR.weak call_len ?_
  rintro xs H Q ⟨m, A, ds, d, A', hr, rs, e, post⟩
  unfold bLen at e
  split at e
  · cases e
    obtain ⟨v, rfl, r⟩ := rs.one
    obtain ⟨p, vs, rfl, tp, rp⟩ := rep_tup r
    refine ⟨_, vs.length, rfl, .inr ⟨vs, tp.sq, rfl⟩, ?_⟩
    rw [rp.length]
    exact post.now hr rfl
  · split at e
    · cases e
      obtain ⟨v, rfl, r⟩ := rs.one
      simp only [Rep] at r; subst r
      rename_i hz
      exact ⟨_, _, rfl, ⟨hz, rfl⟩, post.now hr rfl⟩
    · cases e
  · obtain ⟨v, rfl, r⟩ := rs.one
    split at e
    · cases e
      rename_i hl
      obtain ⟨a, vs, rfl, _, ha, rp⟩ := hr.lst hl r
      refine ⟨_, vs.length, rfl, .inl ⟨vs, SqL.of ha, rfl⟩, ?_⟩
      rw [rp.length]
      exact post.now hr rfl
    · cases e
      rename_i hl
      obtain ⟨a, vs, rfl, _, ha, rp⟩ := hr.rd hl r
      refine ⟨_, vs.length, rfl, .inl ⟨vs, ha.sq, rfl⟩, ?_⟩
      rw [rp.length]
      exact post.now hr rfl
    · cases e
  · cases e
theorem b_ord : CallR X (.builtin "ord") (rF X.K bOrd) := by
  refine CallR.weak call_ord ?_
  rintro xs H Q ⟨m, A, ds, d, A', hr, rs, e, post⟩
  unfold bOrd at e
  split at e
  · split at e
    · cases e
      rename_i hl
      obtain ⟨v, rfl, r⟩ := rs.one
      simp only [Rep] at r; subst r
      exact ⟨_, rfl, hl, post.now hr rfl⟩
    · cases e
  · cases e
theorem noDict_of {K : PySem.W.Frag} {H : Hp} : (∀ (v : V) (d : PyData), Dp K H v d → d.hasDict = false) := by
  intro v d h
  induction h using Dp.rec (motive_2 := fun vs ds _ => PyData.hasDictAll ds = false) with
  | non => rfl
  | bl b => rfl
  | int b => rfl
  | str b => rfl
  | lst _ _ ih => simpa [PyData.hasDict] using ih
  | tup _ _ ih => simpa [PyData.hasDict] using ih
  | nil => rfl
  | cons _ _ i1 i2 => simp [PyData.hasDictAll, i1, i2]
theorem b_repr (hg : X.A.guards = some []) (hu : X.A.units + (deepest + 1) < cLine) : CallR X (.builtin "repr") (rF X.K bRepr) := by
  rintro pins s q H xs us Q I rv ⟨m, A, ds, d, A', hr, rs, e, post⟩
  unfold bRepr at e
  split at e
  · rename_i dd A
    obtain ⟨v, rfl, r⟩ := rs.one
    obtain ⟨u, rfl, ru⟩ := vals1 rv
    split at e
    · rename_i p hp
      split at e
      · rename_i hs
        cases e
        obtain ⟨h1, h2, h3⟩ := hs
        have dp := dp_of hr _ _ _ _ r hp
        have fin : ∀ (s' : Shared) (t : Tok), Inv X pins q H s' → EP X pins q Q (.str p.shown t) s' := fun s' t I' => ⟨.str p.shown, H, I', ⟨t, rfl⟩, post.now hr rfl⟩
        have big : ∀ a, u = .ref a → wpAny (model X.prog X.w) X.A (call (.builtin "repr") [u]) (EP X pins q Q) X.xe s := fun a ea => by
          obtain ⟨as, rd⟩ := Dp.reads I p v u dp ru
          subst ea
          refine repr_of_reads' rd h1 (fun z => ?_) hg (by omega) (fun b o z => z) (fun h' u' tk hk => ?_) h2
          · rw [noDict_of _ _ dp] at z; cases z
          · exact fin _ _ (I.kept hk)
        cases dp with
        | non => cases ru; exact PySem.P.repr_of_none (fin _ _ (I.tok _))
        | bl b => cases ru; exact PySem.P.repr_of_bool (fin _ _ (I.tok _))
        | int i => obtain ⟨t, rfl⟩ := ru; exact PySem.P.repr_of_int (by simpa [PyData.showable] using h1) (fin _ _ (I.tok _))
        | str i => obtain ⟨t, rfl⟩ := ru; exact PySem.P.repr_of_str (fin _ _ (I.tok _)) h2
        | lst _ _ => exact big _ ru
        | tup _ _ => exact big _ ru
      · cases e
    · cases e
  · cases e
theorem b_tuple : CallR X (.type "tuple") (rF X.K bTuple) := by
  refine CallR.weak call_tuple_of ?_
  rintro xs H Q ⟨m, A, ds, d, A', hr, rs, e, post⟩
  unfold bTuple at e
  split at e
  · cases e
    obtain ⟨v, rfl, r⟩ := rs.one
    obtain ⟨p, vs, rfl, tp, rp⟩ := rep_tup r
    exact ⟨p, vs, rfl, .inr ⟨tp.sq, post.now hr r⟩⟩
  · obtain ⟨v, rfl, r⟩ := rs.one
    split at e
    · cases e
      rename_i hl
      obtain ⟨a, vs, rfl, _, ha, rp⟩ := hr.lst hl r
      exact ⟨a, vs, rfl, .inl ⟨SqL.of ha, PostD.newT post hr rp⟩⟩
    · cases e
      rename_i hl
      obtain ⟨a, vs, rfl, _, ha, rp⟩ := hr.rd hl r
      exact ⟨a, vs, rfl, .inl ⟨ha.sq, PostD.newT post hr rp⟩⟩
    · cases e
  · cases e
theorem b_list : CallR X (.type "list") (rF X.K bList) := by
  refine CallR.weak call_list_of ?_
  rintro xs H Q ⟨m, A, ds, d, A', hr, rs, e, post⟩
  unfold bList at e
  split at e
  · cases e
    obtain ⟨v, rfl, r⟩ := rs.one
    obtain ⟨p, vs, rfl, tp, rp⟩ := rep_tup r
    exact ⟨p, vs, rfl, .inr tp.sq, PostD.newL post hr rp⟩
  · obtain ⟨v, rfl, r⟩ := rs.one
    split at e
    · cases e
      rename_i hl
      obtain ⟨a, vs, rfl, _, ha, rp⟩ := hr.lst hl r
      exact ⟨a, vs, rfl, .inl (SqL.of ha), PostD.newL post hr rp⟩
    · cases e
      rename_i hl
      obtain ⟨a, vs, rfl, _, ha, rp⟩ := hr.rd hl r
      exact ⟨a, vs, rfl, .inl ha.sq, PostD.newL post hr rp⟩
    · cases e
  · cases e
theorem PostD.newK {K : PySem.W.Frag} {H : Hp} {m : List Addr} {A : Hpp} {l : List (Key × D)} {vs : List (Key × V)} {Q : VK} (h : PostD K H m (.ref A.length) (A ++ [.dct l]) Q) (hr : HR K H m A) (r : RepK K H m l vs) : ∀ p, H p = none → Q (.ref p) (upd H p (.dK vs)) := fun p hp => by
  have x : HR K (upd H p (.dK vs)) (m ++ [p]) (A ++ [.dct l]) := hr.new hp rfl ⟨vs, upd_same, RepK.mono (Keep.new hp) (List.prefix_append _ _) _ _ r⟩
  refine h (m ++ [p]) (.ref p) _ (List.prefix_append _ _) (Keep.new hp) x ?_
  simp only [Rep]
  exact ⟨p, by rw [← hr.len]; simp, rfl⟩
theorem merge_rep0 {K : PySem.W.Frag} {H : Hp} {m : List Addr} : ∀ {l : List (Key × D)} {kvs : List (Key × V)} {acc : List (Key × D)} {acv : List (Key × V)}, RepK K H m l kvs → RepK K H m acc acv →
    RepK K H m (l.foldl (fun acc kv => putD acc kv.1 kv.2) acc) (mergeK acv kvs)
  | [], kvs, acc, acv, r, ra => by cases r; exact ra
  | d :: l, kvs, acc, acv, r, ra => by
    obtain ⟨v, t, rfl, a, b⟩ := r
    have := merge_rep0 b (ra.put d.1 a)
    unfold mergeK at this ⊢
    simpa only [List.foldl_cons] using this
theorem pairD_rep {K : PySem.W.Frag} {H : Hp} {m : List Addr} : ∀ {l : List D} {vs : List V} {kvs : List (Key × D)}, RepL K H m l vs → (optAll (l.map pairD)).bind keysD = some kvs →
    ∃ (ps : List Addr) (us : List (Key × V)), vs = ps.map V.ref ∧ Paired (fun p kv => SqT K H p [kV kv.1, kv.2]) ps us ∧ RepK K H m kvs us
  | [], vs, kvs, r, e => by
    simp only [RepL] at r; subst r
    simp only [List.map_nil, optAll, Option.bind_some, keysD, Option.some.injEq] at e
    subst e
    exact ⟨[], [], rfl, .nil, rfl⟩
  | d :: l, vs, kvs, r, e => by
    simp only [RepL] at r
    obtain ⟨v, t, rfl, a, b⟩ := r
    rw [List.map_cons] at e
    cases hp : pairD d with
    | none => rw [hp] at e; simp [optAll] at e
    | some q =>
      rw [hp] at e
      simp only [optAll] at e
      cases ho : optAll (l.map pairD) with
      | none => rw [ho] at e; simp at e
      | some qs =>
        rw [ho] at e
        simp only [Option.map_some, Option.bind_some] at e
        unfold keysD at e
        split at e
        · rename_i k t' hk ht
          cases e
          obtain ⟨ps, us, rfl, pr, rk⟩ := pairD_rep b (by rw [ho]; exact ht)
          unfold pairD at hp
          split at hp
          · cases hp
            obtain ⟨p, ws, rfl, tp, rp⟩ := rep_tup a
            simp only [RepL] at rp
            obtain ⟨w1, t1, rfl, a1, w2, t2, rfl, a2, rfl⟩ := rp
            have hy := keyD_rep a1 hk
            subst hy
            exact ⟨p :: ps, (k, w2) :: us, rfl, .cons tp.sq pr, ⟨_, _, rfl, a2, rk⟩⟩
          · cases hp
        · cases e
theorem b_dict (hc : X.calm = true) : CallR X (.type "dict") (rF X.K bDict) := by
  refine CallR.weak (call_dictP hc) ?_
  rintro xs H Q ⟨m, A, ds, d, A', hr, rs, e, post⟩
  unfold bDict at e
  split at e
  · obtain ⟨v, rfl, r⟩ := rs.one
    split at e
    · rename_i hl
      split at e
      · rename_i kvs hk
        cases e
        obtain ⟨a, vs, rfl, _, ha, rp⟩ := hr.lst hl r
        obtain ⟨ps, us, rfl, pr, rk⟩ := pairD_rep rp hk
        exact ⟨a, ps, us, rfl, SqL.of ha, pr, PostD.newK post hr (merge_rep0 (acc := []) (acv := []) rk rfl)⟩
      · cases e
    · cases e
  · cases e
theorem bools_rep {K : PySem.W.Frag} {H : Hp} {m : List Addr} : ∀ {l : List D} {vs : List V} {bs : List Bool}, RepL K H m l vs → boolsD l = some bs → vs = bs.map V.bl
  | [], vs, bs, r, e => by simp only [RepL] at r; subst r; simp only [boolsD, Option.some.injEq] at e; subst e; rfl
  | d :: l, vs, bs, r, e => by
    simp only [RepL] at r
    obtain ⟨v, t, rfl, a, b⟩ := r
    cases d with
    | bl k =>
      simp only [boolsD] at e
      obtain ⟨cs, h1, h2⟩ := Option.map_eq_some_iff.mp e
      subst h2
      simp only [Rep] at a
      subst a
      rw [bools_rep b h1]
      rfl
    | _ => simp [boolsD] at e
theorem b_all (hc : X.calm = true) : CallR X (.builtin "all") (rF X.K bAll) := by
  refine CallR.weak (cr_all hc) ?_
  rintro xs H Q ⟨m, A, ds, d, A', hr, rs, e, post⟩
  unfold bAll at e
  split at e
  · obtain ⟨v, rfl, r⟩ := rs.one
    split at e
    · rename_i hl
      split at e
      · cases e
        rename_i bs hb
        obtain ⟨a, vs, rfl, _, ha, rp⟩ := hr.lst hl r
        have := bools_rep rp hb
        subst this
        exact ⟨a, bs, rfl, SqL.of ha, post.now hr rfl⟩
      · cases e
    · cases e
  · cases e
theorem b_any (hc : X.calm = true) : CallR X (.builtin "any") (rF X.K bAny) := by
  refine CallR.weak (cr_any hc) ?_
  rintro xs H Q ⟨m, A, ds, d, A', hr, rs, e, post⟩
  unfold bAny at e
  split at e
  · obtain ⟨v, rfl, r⟩ := rs.one
    split at e
    · rename_i hl
      split at e
      · cases e
        rename_i bs hb
        obtain ⟨a, vs, rfl, _, ha, rp⟩ := hr.lst hl r
        have := bools_rep rp hb
        subst this
        exact ⟨a, bs, rfl, SqL.of ha, post.now hr rfl⟩
      · cases e
    · cases e
  · cases e
theorem b_min (hc : X.calm = true) : CallR X (.builtin "min") (rF X.K bMin2) := by
  refine CallR.weak (call_min2 hc) ?_
  rintro xs H Q ⟨m, A, ds, d, A', hr, rs, e, post⟩
  unfold bMin2 at e
  split at e
  · cases e
    obtain ⟨v, u, rfl, r1, r2⟩ := rs.two
    simp only [Rep] at r1 r2; subst r1; subst r2
    exact ⟨_, _, rfl, post.now hr rfl⟩
  · cases e
theorem b_max (hc : X.calm = true) : CallR X (.builtin "max") (rF X.K bMax2) := by
  refine CallR.weak (call_max2 hc) ?_
  rintro xs H Q ⟨m, A, ds, d, A', hr, rs, e, post⟩
  unfold bMax2 at e
  split at e
  · cases e
    obtain ⟨v, u, rfl, r1, r2⟩ := rs.two
    simp only [Rep] at r1 r2; subst r1; subst r2
    exact ⟨_, _, rfl, post.now hr rfl⟩
  · cases e
theorem b_int : CallR X (.type "int") (rF X.K bInt) := by
  refine CallR.weak call_int1 ?_
  rintro xs H Q ⟨m, A, ds, d, A', hr, rs, e, post⟩
  unfold bInt at e
  split at e
  · cases e
    obtain ⟨v, rfl, r⟩ := rs.one
    simp only [Rep] at r; subst r
    exact .inl ⟨_, rfl, post.now hr rfl⟩
  · cases e
    obtain ⟨v, rfl, r⟩ := rs.one
    simp only [Rep] at r; subst r
    exact .inr ⟨_, rfl, post.now hr rfl⟩
  · cases e
theorem call_str_bl : CallR X (.type "str") (fun xs H Q => ∃ k : Bool, xs = [.bl k] ∧ Q (.str (if k = true then "True" else "False")) H) := by
  intro pins s q H xs us Q I r ⟨k, ex, h⟩
  subst ex
  obtain ⟨u, rfl, e⟩ := vals1 r
  cases e
  refine PySem.P.str_of_bool ⟨.str _, H, I.tok _, ⟨_, rfl⟩, ?_⟩
  cases k <;> exact h
theorem b_str : CallR X (.type "str") (rF X.K bStr) := by
  refine CallR.weak (CallR.or call_str_int call_str_bl) ?_
  rintro xs H Q ⟨m, A, ds, d, A', hr, rs, e, post⟩
  unfold bStr at e
  split at e
  · split at e
    · cases e
      rename_i hz
      obtain ⟨v, rfl, r⟩ := rs.one
      simp only [Rep] at r; subst r
      exact .inl ⟨_, rfl, hz, post.now hr rfl⟩
    · cases e
  · cases e
    obtain ⟨v, rfl, r⟩ := rs.one
    simp only [Rep] at r; subst r
    exact .inr ⟨_, rfl, post.now hr rfl⟩
  · cases e
/-! sum(x, start=0) -/
section
variable {prog : Program} {w : World} {A : Around} {E : Value → Shared → Prop} {s : Shared}
theorem args_sumK (a b : Value) : argsOk "sum" ⟨[a], [("start", b)]⟩ := by unfold argsOk; kernel_rfl
theorem call_tree_kw {id : String} {b : Builtin} {args : List Value} {kw : List (Str × Value)} {Q : Value → Shared → Prop} (hk : builtinKind id = none) (hp : plainId id = true)
    (hb : entryFor table id = some b) (ha : argsOk id ⟨args, kw⟩)
    (hc : wpAny (model prog w) A.in1 (b ⟨args, kw⟩) (fun fin s' => match fin with
      | .done f => (match (Except.ok f : Result) with | .ok (.ret v) => Q v s' | .ok _ => False | .error e => E e s')
      | .again c' => c'.quiet = true ∧ codeAny (model prog w) A c' (fun r s' => match r with | .ok (.ret v) => Q v s' | .ok _ => False | .error e => E e s') s') E s) :
    wpAny (model prog w) A (call (.builtin id) args kw) Q E s := by
  refine wpAny_call (codeAny_call_builtin hp hb ?_)
  simp only [checkBuiltinCall, hk]
  cases hsig : Manifest.signature? id with
  | none => exact wpAny_pure hc
  | some sig =>
    simp only [argsOk, hsig] at ha
    have h2 : Bind.checkArgs id sig ⟨args, kw⟩ = pure () := ha
    show wpAny _ A.in1 (Bind.checkArgs id sig ⟨args, kw⟩) _ _ s
    rw [h2]; exact wpAny_pure hc
theorem sum_start {l : Addr} {its : List Value} {ns : List Int} {t : Tok} {Q : Value → Shared → Prop} (hh : A.handled = none) (hl : s.heap.IsList l its.toArray) (hi : IntsAre its ns)
    (h : ∀ h' tk t', (∀ b o, s.heap.get? b = some o → h'.get? b = some o) → Q (.int ns.sum t') { s with heap := h', toks := tk }) : wpAny (model prog w) A (call (.builtin "sum") [.ref l] [("start", .int 0 t)]) Q E s := by
  obtain ⟨xs, e⟩ := hi.allInts.items
  have hn : numsOf (intItems xs).toList = ns := by rw [← e]; exact hi.numsOf
  rw [nums_intItems] at hn
  rw [e] at hl
  have fin : ∀ h' tk t', (∀ b o, s.heap.get? b = some o → h'.get? b = some o) → Q (.int (preSum (numAt xs) xs.size) t') { s with heap := h', toks := tk } := fun h' tk t' hk => by
    have := h h' tk t' hk
    rw [preSum_eq, List.take_of_length_le (by simp), hn]; exact this
  refine call_tree_kw F.kind_sum F.plain_sum F.entry_sum (args_sumK _ _) ?_
  unfold Builtin.«sum»
  simp only [List.length_cons, List.length_nil]
  rw [if_neg (by decide)]
  refine wpAny_bind (wpAny_of_eq (show Builtin.Builtins.bindParams "sum" ["start"] 0 ⟨[], [("start", .int 0 t)]⟩ = pure [some (.int 0 t)] from by first | rfl | kernel_rfl) ?_)
  refine wpAny_bind (iter_intList hl fun s₂ es st hfp hlI => ?_)
  subst es
  have W := Walks.list (prog := prog) (w := w) (A := A.in1) hh _ l hlI (intItems xs)
  refine wpAny_bind (wpAny_rule (wpAny_bind (wpAny_mkInt (wpAny_bind (wpAny_pure ?_)))))
  simp only [List.forIn_cons, List.forIn_nil]
  refine wpAny_bind (wpAny_bind (wpAny_bind (wpAny_isInstance (T := "int") (b := false) (typeIs_int _ _ _) PySem.sub_int_str ?_)))
  simp only [Bool.false_eq_true, if_false]
  refine wpAny_pure (wpAny_bind (wpAny_bind (wpAny_isInstance (T := "int") (b := false) (typeIs_int _ _ _) PySem.sub_int_bytes ?_)))
  simp only [Bool.false_eq_true, if_false]
  refine wpAny_pure (wpAny_bind (wpAny_bind (wpAny_isInstance (T := "int") (b := false) (typeIs_int _ _ _) PySem.sub_int_bytearray ?_)))
  simp only [Bool.false_eq_true, if_false]
  refine wpAny_pure (wpAny_pure ?_)
  refine wpAny_bind (wpAny_newObj_type ?_)
  refine wpAny_pure ⟨plainId_quiet F.plain_sum_loop _, codeAny_sum_loopG W (numAt xs) (fun _ _ => intItems_at) _ (fun hm => Nat.lt_irrefl _ (hfp _ hm)) _ 0 _ _ 0 0 (Or.inl rfl) rfl (Nat.zero_le _)
    (W.frame _ _ _ st fun b _ o e => Heap.get?_push_of_some _ e) (Heap.get?_push_size _ rfl) fun h' tk t' hk => ?_⟩
  have := fin h' tk t' fun b o e => hk b o (by simp; exact Nat.ne_of_lt (Heap.lt_size e)) (Nat.ne_of_lt (Nat.lt_of_lt_of_le (Heap.lt_size e) (by show s.heap.objs.size ≤ (s.heap.push _).objs.size; rw [Heap.size_push]; exact Nat.le_succ _))) (Heap.get?_push_of_some _ (Heap.get?_push_of_some _ e))
  simpa [intItems] using this
end
def CallRK' (X : Cx) (id : String) (ks : List Str) (op : List D → List D → Hpp → R D) : Prop := CallRK X (.builtin id) ks fun xs zs H Q => ∃ (m : List Addr) (A : Hpp) (ds es : List D) (d : D) (A' : Hpp), HR X.K H m A ∧ RepL X.K H m ds xs ∧ RepL X.K H m es zs ∧ op ds es A = .ok d A' ∧ PostD X.K H m d A' Q
theorem ints_rep {K : PySem.W.Frag} {H : Hp} {m : List Addr} : ∀ {l : List D} {vs : List V} {is : List Int}, RepL K H m l vs → intsD l = some is → vs = is.map V.int
  | [], vs, is, r, e => by cases e; simpa [RepL] using r
  | d :: l, vs, is, r, e => by
    obtain ⟨v, t, rfl, rd, rt⟩ := r
    cases d <;> simp only [intsD, reduceCtorEq] at e
    obtain ⟨js, hj, rfl⟩ := Option.map_eq_some_iff.mp e
    simp only [Rep] at rd
    subst rd
    rw [ints_rep rt hj]; rfl
theorem b_sumK (hc : X.calm = true) : CallRK' X "sum" ["start"] bSumK := by
  rintro pins s q H xs zs us ws Q I rx rz ⟨m, A, ds, es, d, A', hr, r1, r2, e, post⟩
  unfold bSumK at e
  split at e
  · split at e
    · rename_i l hl
      split at e
      · rename_i is hi
        cases e
        obtain ⟨v, rfl, rv⟩ := r1.one
        obtain ⟨z, rfl, rz'⟩ := r2.one
        simp only [Rep] at rz'; subst rz'
        obtain ⟨a, vs, rfl, _, ha, rp⟩ := hr.lst hl rv
        have ev := ints_rep rp hi
        subst ev
        obtain ⟨its, rvs, hll, _⟩ := I.list (SqL.of ha)
        obtain ⟨u, rfl, ru⟩ := vals1 rx
        obtain ⟨w, rfl, rw'⟩ := vals1 rz
        cases ru
        obtain ⟨t, rfl⟩ := rw'
        exact sum_start (I.ok.hd hc) hll.isList rvs.ints fun h' tk t' hk => ⟨.int _, H, I.kept hk, ⟨_, rfl⟩, post.now hr rfl⟩
      · cases e
    · cases e
  · cases e
/-! isinstance -/
def kindOf : D → String
  | .non => "NoneType" | .bl _ => "bool" | .int _ => "int" | .str _ => "str" | .tup _ => "tuple" | .ref _ => "list"
def isiB : String → Ty → Bool
  | "bool", T => decide (T = .int ∨ T = .bool)
  | "int", T => decide (T = .int)
  | "str", T => decide (T = .str)
  | "tuple", T => decide (T = .tuple)
  | "list", T => decide (T = .list)
  | _, _ => false
theorem kit_all (T : Ty) : kitB "NoneType" T.name = some (isiB "NoneType" T) ∧ kitB "bool" T.name = some (isiB "bool" T) ∧ kitB "int" T.name = some (isiB "int" T) ∧ kitB "str" T.name = some (isiB "str" T) ∧
    kitB "tuple" T.name = some (isiB "tuple" T) ∧ kitB "list" T.name = some (isiB "list" T) ∧ kitB "dict" T.name = some (isiB "dict" T) := by
  cases T <;> decide +kernel
def rIsiD (K : PySem.W.Frag) (T : Ty) : List V → Hp → VK → Prop := fun xs H Q => ∃ (x : V) (m : List Addr) (A : Hpp) (dx d : D) (A' : Hpp), xs = [x, .ty T.name] ∧ HR K H m A ∧ Rep K H m dx x ∧ opIsi T dx A = .ok d A' ∧ PostD K H m d A' Q
theorem tup_ty {K : PySem.W.Frag} {H : Hp} {p : Addr} {vs : List V} (h : TupAt K H p vs) : TyX K H (.ref p) (.type "tuple") := by
  rcases h with h | ⟨o, its, n, h1, h2, _⟩
  · exact .base (.tup h)
  · exact .kTuple h1 h2
theorem b_isi (T : Ty) : CallR X (.builtin "isinstance") (rIsiD X.K T) := by
  refine CallR.weak call_isi ?_
  rintro xs H Q ⟨x, m, A, dx, d, A', rfl, hr, rx, e, post⟩
  obtain ⟨k1, k2, k3, k4, k5, k6, k7⟩ := kit_all T
  unfold opIsi at e
  split at e
  · cases e
    simp only [Rep] at rx; subst rx
    exact ⟨_, _, _, _, _, rfl, .ty _, .base .non, kit_ty k1, post.now hr rfl⟩
  · cases e
    simp only [Rep] at rx; subst rx
    exact ⟨_, _, _, _, _, rfl, .ty _, .base (.bl _), kit_ty k2, post.now hr rfl⟩
  · cases e
    simp only [Rep] at rx; subst rx
    exact ⟨_, _, _, _, _, rfl, .ty _, .base (.int _), kit_ty k3, post.now hr rfl⟩
  · cases e
    simp only [Rep] at rx; subst rx
    exact ⟨_, _, _, _, _, rfl, .ty _, .base (.str _), kit_ty k4, post.now hr rfl⟩
  · cases e
    obtain ⟨p, vs, rfl, tp, rp⟩ := rep_tup rx
    exact ⟨_, _, _, _, _, rfl, .ty _, tup_ty tp, kit_ty k5, post.now hr rfl⟩
  · split at e
    · cases e
      rename_i hl
      obtain ⟨a, vs, rfl, _, ha, rp⟩ := hr.lst hl rx
      exact ⟨_, _, _, _, _, rfl, .ty _, .base (.lst ha), kit_ty k6, post.now hr rfl⟩
    · cases e
      rename_i hl
      obtain ⟨a, vs, rfl, _, ha, rp⟩ := hr.dct hl rx
      exact ⟨_, _, _, _, _, rfl, .ty _, .base (.dK ha), kit_ty k7, post.now hr rfl⟩
    · cases e
/-! methods -/
theorem m_append : MtR X "list.append" (rM X.K mAppend) := by
  refine MtR.weak (fun pins s q H x xs v us Q I rx ry z => mt_append pins s q H x xs v us Q I rx ry z) ?_
  rintro x xs H Q ⟨m, A, dx, ds, d, A', hr, rx, rs, e, post⟩
  unfold mAppend at e
  split at e
  · obtain ⟨v, rfl, r⟩ := rs.one
    split at e
    · rename_i hl
      split at e
      · rename_i hz
        cases e
        obtain ⟨a, vs, rfl, em, ha, rp⟩ := hr.lst hl rx
        have kp : Keep H (upd H a (.lst (vs ++ [v]))) := Keep.write ha (fun _ z => by cases z)
        obtain ⟨h1, h2⟩ := hr.set (o := .lst (vs ++ [v])) (u' := .lst _) hl em rfl rfl ⟨_, upd_same, RepL.mono kp (List.prefix_refl _) _ _ (rp.append (RepL.single r))⟩
        exact ⟨a, vs, v, rfl, rfl, ha, by rw [rp.length]; exact hz, post m .non _ (List.prefix_refl _) h2 h1 rfl⟩
      · cases e
    · cases e
  · cases e
theorem m_extend : MtR X "list.extend" (rM X.K mExtend) := by
  refine MtR.weak (fun pins s q H x xs v us Q I rx ry z => mt_extend pins s q H x xs v us Q I rx ry z) ?_
  rintro x xs H Q ⟨m, A, dx, ds, d, A', hr, rx, rs, e, post⟩
  unfold mExtend at e
  split at e
  · obtain ⟨v, rfl, r⟩ := rs.one
    split at e
    · rename_i hl hl2
      split at e
      · rename_i hz
        cases e
        obtain ⟨a, vs, rfl, em, ha, rp⟩ := hr.lst hl rx
        obtain ⟨b, ws, rfl, em2, hb, rq⟩ := hr.lst hl2 r
        have kp : Keep H (upd H a (.lst (vs ++ ws))) := Keep.write ha (fun _ z => by cases z)
        obtain ⟨h1, h2⟩ := hr.set (o := .lst (vs ++ ws)) (u' := .lst _) hl em rfl rfl ⟨_, upd_same, RepL.mono kp (List.prefix_refl _) _ _ (rp.append rq)⟩
        exact ⟨a, b, vs, ws, rfl, rfl, ha, hb, by rw [rp.length, rq.length]; exact hz, post m .non _ (List.prefix_refl _) h2 h1 rfl⟩
      · cases e
    · cases e
  · cases e
theorem strs_rep {K : PySem.W.Frag} {H : Hp} {m : List Addr} : ∀ {l : List D} {vs : List V} {bs : List Str}, RepL K H m l vs → strsD l = some bs → vs = bs.map V.str
  | [], vs, bs, r, e => by simp only [RepL] at r; subst r; simp only [strsD, Option.some.injEq] at e; subst e; rfl
  | d :: l, vs, bs, r, e => by
    simp only [RepL] at r
    obtain ⟨v, t, rfl, a, b⟩ := r
    cases d with
    | str k =>
      simp only [strsD] at e
      obtain ⟨cs, h1, h2⟩ := Option.map_eq_some_iff.mp e
      subst h2
      simp only [Rep] at a
      subst a
      rw [strs_rep b h1]
      rfl
    | _ => simp [strsD] at e
theorem m_join : MtR X "str.join" (rM X.K mJoin) := by
  refine MtR.weak mt_join ?_
  rintro x xs H Q ⟨m, A, dx, ds, d, A', hr, rx, rs, e, post⟩
  unfold mJoin at e
  split at e
  · obtain ⟨v, rfl, r⟩ := rs.one
    split at e
    · rename_i hl
      split at e
      · rename_i ys hy
        split at e
        · rename_i hz
          cases e
          obtain ⟨a, vs, rfl, em, ha, rp⟩ := hr.lst hl r
          have := strs_rep rp hy
          subst this
          simp only [Rep] at rx; subst rx
          exact ⟨_, a, ys, rfl, rfl, .inl (SqL.of ha), hz, post.now hr rfl⟩
        · cases e
      · cases e
    · cases e
  · obtain ⟨v, rfl, r⟩ := rs.one
    split at e
    · rename_i ys hy
      split at e
      · rename_i hz
        cases e
        obtain ⟨a, vs, rfl, ha, rp⟩ := rep_tup r
        have := strs_rep rp hy
        subst this
        simp only [Rep] at rx; subst rx
        exact ⟨_, a, ys, rfl, rfl, .inr ha.sq, hz, post.now hr rfl⟩
      · cases e
    · cases e
  · cases e
end
end Rf
namespace Rf
open PySem PySem.Spec PyProof.Rows L2
section
variable {X : Cx} {a b c e : Expr} {fa fb fc f : M} {pos p : Pos}
abbrev EO (X : Cx) (e : Expr) (f : M) : Prop := PE X e (tE X.K f)
abbrev TO' (X : Cx) (e : Expr) (f : M) : Prop := PT X e (tT X.K (mTest f))
theorem e_var {i : Nat} {x : Str} (hN : X.N[i]? = some x) (hv : Vis X.env.scope x) (hd : (x == ("__debug__" : Str)) = false) (hcd : (x == ("__classdict__" : Str)) = false) : EO X (.Name x pos) (mVar i) := by
  refine PE.weak (pe_var hN hv hd hcd) ?_
  rintro s H Q ⟨m, A, L, d, A', hr, lr, e, post⟩
  unfold mVar at e
  split at e
  · cases e
    rename_i h
    obtain ⟨v, h1, h2⟩ := lr.at_ _ _ h
    exact ⟨v, h1, post.now hr h2⟩
  · cases e
theorem e_c {d : D} {v : V} (h : PE X e (tC v)) (r : ∀ H m, Rep X.K H m d v) : EO X e (mC d) := by
  refine PE.weak h ?_
  rintro s H Q ⟨m, A, L, d', A', hr, lr, e, post⟩
  cases e
  exact post.now hr (r _ _)
theorem e_int {i : Int} {j : Nat} : EO X (.Constant (.int i) j pos) (mC (.int i)) := e_c pe_int fun _ _ => rfl
theorem e_bl {i : Bool} {j : Nat} : EO X (.Constant (.bool i) j pos) (mC (.bl i)) := e_c pe_bl fun _ _ => rfl
theorem e_str {i : Str} {j : Nat} : EO X (.Constant (.str i) j pos) (mC (.str i)) := e_c pe_str fun _ _ => rfl
theorem e_non {j : Nat} : EO X (.Constant .none j pos) (mC .non) := e_c pe_non fun _ _ => rfl
/-- two readings one behind the other -/
theorem two_of {K : PySem.W.Frag} {s : L2.St} {H : Hp} {Q : VK} {g : D → D → Hpp → R D} (h : tE K (mBin g fa fb) s H Q) : tOp (rB K g) (tE K fa) (tE K fb) s H Q := by
  obtain ⟨m, A, L, d, A', hr, lr, e, post⟩ := h
  obtain ⟨x, A1, e1, e⟩ := R.bind_eq_ok e
  obtain ⟨y, A2, e2, e3⟩ := R.bind_eq_ok e
  refine ⟨m, A, L, x, A1, hr, lr, e1, fun m1 v H1 p1 k1 hr1 r1 => ?_⟩
  refine ⟨m1, A1, L, y, A2, hr1, lr.mono k1 p1, e2, fun m2 u H2 p2 k2 hr2 r2 => ?_⟩
  exact ⟨m2, A2, x, y, d, A', hr2, Rep.mono k2 p2 _ _ r1, r2, e3, (post.later p1 k1).later p2 k2⟩
theorem e_bin {op : Operator} {g : D → D → Hpp → R D} (hg : binOf op = some g) (ha : EO X a fa) (hb : EO X b fb) : EO X (.BinOp a op b pos) (mBin g fa fb) :=
  PE.weak (pe_op (o_of hg) ha hb) fun _ _ _ h => two_of h
theorem e_neg (ha : EO X a fa) : EO X (.UnaryOp .USub a pos) (mUn opNeg fa) := by
  refine PE.weak (pe_un u_neg ha) ?_
  rintro s H Q ⟨m, A, L, d, A', hr, lr, e, post⟩
  obtain ⟨x, A1, e1, e⟩ := R.bind_eq_ok e
  refine ⟨m, A, L, x, A1, hr, lr, e1, fun m1 v H1 p1 k1 hr1 r1 => ?_⟩
  exact ⟨m1, A1, x, d, A', hr1, r1, e, post.later p1 k1⟩
theorem e_cmp (hu : X.A.units + 65 < cLine) {op : CmpOp} {g : D → D → Hpp → R D} (hg : cmpOf op = some g) (ha : EO X a fa) (hb : EO X b fb) (hm : behindInMarks op b = false) : EO X (.Compare a [op] [b] pos) (mBin g fa fb) :=
  PE.weak (pe_cmpR (c_of hu hg) ha hb hm) fun _ _ _ h => two_of h
theorem cmp_bool {op : CmpOp} {g : D → D → Hpp → R D} (hg : cmpOf op = some g) {x y d : D} {A A' : Hpp} (e : g x y A = .ok d A') : ∃ k, d = .bl k ∧ A' = A := by
  cases op <;> simp only [cmpOf, Option.some.injEq, reduceCtorEq] at hg <;> subst hg
  · unfold cmpEq at e
    obtain ⟨k, A1, e1, e2⟩ := R.bind_eq_ok e
    obtain ⟨_, rfl⟩ := R.ofO_ok e1
    cases e2
    exact ⟨_, rfl, rfl⟩
  · unfold cmpNe at e
    obtain ⟨k, A1, e1, e2⟩ := R.bind_eq_ok e
    obtain ⟨_, rfl⟩ := R.ofO_ok e1
    cases e2
    exact ⟨_, rfl, rfl⟩
  all_goals
    first
      | (unfold cmpLt at e; split at e <;> cases e; exact ⟨_, rfl, rfl⟩)
      | (unfold cmpLe at e; split at e <;> cases e; exact ⟨_, rfl, rfl⟩)
      | (unfold cmpGt at e; split at e <;> cases e; exact ⟨_, rfl, rfl⟩)
      | (unfold cmpGe at e; split at e <;> cases e; exact ⟨_, rfl, rfl⟩)
      | (unfold cmpIs at e
         split at e
         · cases e; exact ⟨_, rfl, rfl⟩
         · split at e
           · cases e; exact ⟨_, rfl, rfl⟩
           · cases e
         · cases e)
      | (unfold cmpIsNot at e
         split at e
         · cases e; exact ⟨_, rfl, rfl⟩
         · split at e
           · cases e; exact ⟨_, rfl, rfl⟩
           · cases e
         · cases e)
      | (unfold cmpIn at e
         obtain ⟨k, A1, e1, e2⟩ := R.bind_eq_ok e
         obtain ⟨_, rfl⟩ := R.ofO_ok e1
         cases e2
         exact ⟨_, rfl, rfl⟩)
      | (unfold cmpNotIn at e
         obtain ⟨k, A1, e1, e2⟩ := R.bind_eq_ok e
         obtain ⟨_, rfl⟩ := R.ofO_ok e1
         cases e2
         exact ⟨_, rfl, rfl⟩)
theorem test_of {K : PySem.W.Frag} {s : L2.St} {H : Hp} {Q : Bool → Hp → Prop} (h : tT K (mTest f) s H Q) :
    ∃ (m : List Addr) (A : Hpp) (L : Loc) (d : D) (A' : Hpp) (k : Bool), HR K H m A ∧ LR K H m L s ∧ f L A = .ok d A' ∧ truth d A' = some k ∧ PostB K H m A' (Q k) := by
  obtain ⟨m, A, L, k, A', hr, lr, e, post⟩ := h
  obtain ⟨x, A1, e1, e⟩ := R.bind_eq_ok e
  obtain ⟨e2, rfl⟩ := R.ofO_ok e
  exact ⟨m, A, L, x, _, k, hr, lr, e1, e2, post⟩
theorem t_cmp (hu : X.A.units + 65 < cLine) {op : CmpOp} {g : D → D → Hpp → R D} (hg : cmpOf op = some g) (ha : EO X a fa) (hb : EO X b fb) (hm : behindInMarks op b = false) : TO' X (.Compare a [op] [b] pos) (mBin g fa fb) := by
  refine PT.weak (pt_cmpR (c_of hu hg) ha hb hm) fun s H Q h => ?_
  obtain ⟨m, A, L, d, A', k, hr, lr, e, et, post⟩ := test_of h
  refine two_of ⟨m, A, L, d, A', hr, lr, e, fun m' v H' p' k' hr' r' => ?_⟩
  obtain ⟨x, A1, e1, e⟩ := R.bind_eq_ok e
  obtain ⟨y, A2, e2, e3⟩ := R.bind_eq_ok e
  obtain ⟨j, rfl, rfl⟩ := cmp_bool hg e3
  simp only [Rep] at r'
  simp only [truth, Option.some.injEq] at et
  subst et
  exact ⟨j, r', post m' H' p' k' hr'⟩
theorem truth_tru {K : PySem.W.Frag} {H : Hp} {m : List Addr} {A : Hpp} {d : D} {x : V} {k : Bool} (hr : HR K H m A) (r : Rep K H m d x) (e : truth d A = some k) : TruV K x H k := by
  cases d with
  | non => simp only [Rep] at r; subst r; simp only [truth, Option.some.injEq] at e; exact e.symm
  | bl b => simp only [Rep] at r; subst r; simp only [truth, Option.some.injEq] at e; exact e.symm
  | int b => simp only [Rep] at r; subst r; simp only [truth, Option.some.injEq] at e; exact e.symm
  | str b =>
    simp only [Rep] at r; subst r
    simp only [truth] at e
    split at e
    · cases e; rename_i h; exact ⟨h, rfl⟩
    · cases e
  | tup l =>
    obtain ⟨p, vs, rfl, tp, rp⟩ := rep_tup r
    simp only [truth, Option.some.injEq] at e
    refine .inr (.inl ⟨vs, tp.sq, ?_⟩)
    rw [← e]
    have := rp.length
    cases l <;> cases vs <;> simp_all
  | ref n =>
    simp only [truth] at e
    split at e
    · rename_i l hl
      obtain ⟨a, vs, rfl, _, ha, rp⟩ := hr.lst hl r
      cases e
      refine .inl ⟨vs, SqL.of ha, ?_⟩
      have := rp.length
      cases l <;> cases vs <;> simp_all
    · rename_i l hl
      obtain ⟨a, vs, rfl, _, ha, rp⟩ := hr.rd hl r
      cases e
      refine .inl ⟨vs, ha.sq, ?_⟩
      have := rp.length
      cases l <;> cases vs <;> simp_all
    · rename_i l hl
      obtain ⟨a, vs, rfl, _, ha, rp⟩ := hr.dct hl r
      cases e
      refine .inr (.inr ⟨vs, ha, ?_⟩)
      have := rp.length
      cases l <;> cases vs <;> simp_all
    · cases e
theorem t_val (ha : EO X e f) (he : ∀ whole, isTrue e X.env whole = (do let v ← whole; standAt e.pos; holding [v] (truthy v))) : TO' X e f := by
  refine PT.weak (pt_truth ha he) fun s H Q h => ?_
  obtain ⟨m, A, L, d, A', k, hr, lr, e, et, post⟩ := test_of h
  exact ⟨m, A, L, d, A', hr, lr, e, fun m' v H' p' k' hr' r' => ⟨k, truth_tru hr' r' et, post m' H' p' k' hr'⟩⟩
/-! and, or, not, if -/
theorem and_of {K : PySem.W.Frag} {s : L2.St} {H : Hp} {Q : VK} (h : tE K (mAnd fa fb) s H Q) : tAndT K (tE K fa) (tE K fb) s H Q := by
  obtain ⟨m, A, L, d, A', hr, lr, e, post⟩ := h
  obtain ⟨x, A1, e1, e⟩ := R.bind_eq_ok e
  obtain ⟨k, A2, e2, e3⟩ := R.bind_eq_ok e
  obtain ⟨e2, rfl⟩ := R.ofO_ok e2
  refine ⟨m, A, L, x, _, hr, lr, e1, fun m1 v H1 p1 k1 hr1 r1 => ⟨k, truth_tru hr1 r1 e2, ?_⟩⟩
  cases k with
  | true => exact ⟨m1, _, L, d, A', hr1, lr.mono k1 p1, e3, post.later p1 k1⟩
  | false => cases e3; exact post m1 v H1 p1 k1 hr1 r1
theorem or_of {K : PySem.W.Frag} {s : L2.St} {H : Hp} {Q : VK} (h : tE K (mOr fa fb) s H Q) : tOrT K (tE K fa) (tE K fb) s H Q := by
  obtain ⟨m, A, L, d, A', hr, lr, e, post⟩ := h
  obtain ⟨x, A1, e1, e⟩ := R.bind_eq_ok e
  obtain ⟨k, A2, e2, e3⟩ := R.bind_eq_ok e
  obtain ⟨e2, rfl⟩ := R.ofO_ok e2
  refine ⟨m, A, L, x, _, hr, lr, e1, fun m1 v H1 p1 k1 hr1 r1 => ⟨k, truth_tru hr1 r1 e2, ?_⟩⟩
  cases k with
  | false => exact ⟨m1, _, L, d, A', hr1, lr.mono k1 p1, e3, post.later p1 k1⟩
  | true => cases e3; exact post m1 v H1 p1 k1 hr1 r1
theorem e_and {rest : List Expr} (ha : EO X a fa) (hb : EO X (.BoolOp .And (b :: rest) pos) fb) : EO X (.BoolOp .And (a :: b :: rest) pos) (mAnd fa fb) := PE.weak (pe_andT ha hb) fun _ _ _ h => and_of h
theorem e_or {rest : List Expr} (ha : EO X a fa) (hb : EO X (.BoolOp .Or (b :: rest) pos) fb) : EO X (.BoolOp .Or (a :: b :: rest) pos) (mOr fa fb) := PE.weak (pe_orT ha hb) fun _ _ _ h => or_of h
abbrev WO (X : Cx) (e : Expr) (f : M) : Prop := PW X e (tT X.K (mTest f))
theorem w_and1 (ha : TO' X a fa) : WO X (.BoolOp .And [a] pos) fa := pw_and1 ha
theorem w_or1 (ha : TO' X a fa) : WO X (.BoolOp .Or [a] pos) fa := pw_or1 ha
theorem w_and {rest : List Expr} (ha : TO' X a fa) (hb : WO X (.BoolOp .And (b :: rest) pos) fb) : WO X (.BoolOp .And (a :: b :: rest) pos) (mAnd fa fb) := by
  refine PW.weak (pw_and ha hb) fun s H Q h => ?_
  obtain ⟨m, A, L, d, A', k, hr, lr, e, et, post⟩ := test_of h
  obtain ⟨x, A1, e1, e⟩ := R.bind_eq_ok e
  obtain ⟨j, A2, e2, e3⟩ := R.bind_eq_ok e
  obtain ⟨e2', rfl⟩ := R.ofO_ok e2
  refine ⟨m, A, L, j, _, hr, lr, by unfold mTest; rw [e1]; exact e2, fun m1 H1 p1 k1 hr1 => ?_⟩
  cases j with
  | true =>
    refine ⟨m1, _, L, k, A', hr1, lr.mono k1 p1, ?_, fun m2 H2 p2 k2 hr2 => post m2 H2 (p1.trans p2) (k1.trans k2) hr2⟩
    unfold mTest
    rw [show fb L _ = _ from e3]
    simp [et, R.ofO]
  | false =>
    cases e3
    rw [et] at e2'
    cases e2'
    exact post m1 H1 p1 k1 hr1
theorem w_or {rest : List Expr} (ha : TO' X a fa) (hb : WO X (.BoolOp .Or (b :: rest) pos) fb) : WO X (.BoolOp .Or (a :: b :: rest) pos) (mOr fa fb) := by
  refine PW.weak (pw_or ha hb) fun s H Q h => ?_
  obtain ⟨m, A, L, d, A', k, hr, lr, e, et, post⟩ := test_of h
  obtain ⟨x, A1, e1, e⟩ := R.bind_eq_ok e
  obtain ⟨j, A2, e2, e3⟩ := R.bind_eq_ok e
  obtain ⟨e2', rfl⟩ := R.ofO_ok e2
  refine ⟨m, A, L, j, _, hr, lr, by unfold mTest; rw [e1]; exact e2, fun m1 H1 p1 k1 hr1 => ?_⟩
  cases j with
  | false =>
    refine ⟨m1, _, L, k, A', hr1, lr.mono k1 p1, ?_, fun m2 H2 p2 k2 hr2 => post m2 H2 (p1.trans p2) (k1.trans k2) hr2⟩
    unfold mTest
    rw [show fb L _ = _ from e3]
    simp [et, R.ofO]
  | true =>
    cases e3
    rw [et] at e2'
    cases e2'
    exact post m1 H1 p1 k1 hr1
theorem e_not (ha : EO X a fa) : EO X (.UnaryOp .Not a pos) (mNot fa) := by
  refine PE.weak (pe_notT ha) ?_
  rintro s H Q ⟨m, A, L, d, A', hr, lr, e, post⟩
  obtain ⟨k, A1, e1, e⟩ := R.bind_eq_ok e
  obtain ⟨x, A2, e2, e3⟩ := R.bind_eq_ok e1
  obtain ⟨e3, rfl⟩ := R.ofO_ok e3
  cases e
  exact ⟨m, A, L, x, _, hr, lr, e2, fun m1 v H1 p1 k1 hr1 r1 => ⟨k, truth_tru hr1 r1 e3, post m1 _ H1 p1 k1 hr1 rfl⟩⟩
theorem t_not (ha : TO' X a fa) : TO' X (.UnaryOp .Not a pos) (mNot fa) := by
  refine PT.weak (pt_not ha) fun s H Q h => ?_
  obtain ⟨m, A, L, d, A', k, hr, lr, e, et, post⟩ := test_of h
  obtain ⟨j, A1, e1, e⟩ := R.bind_eq_ok e
  cases e
  simp only [truth, Option.some.injEq] at et
  subst et
  exact ⟨m, A, L, j, _, hr, lr, e1, post⟩
theorem if_of {K : PySem.W.Frag} {s : L2.St} {H : Hp} {Q : VK} (h : tE K (mIf fc fa fb) s H Q) : tIf (tT K (mTest fc)) (tE K fa) (tE K fb) s H Q := by
  obtain ⟨m, A, L, d, A', hr, lr, e, post⟩ := h
  obtain ⟨k, A1, e1, e2⟩ := R.bind_eq_ok e
  refine ⟨m, A, L, k, A1, hr, lr, e1, fun m1 H1 p1 k1 hr1 => ?_⟩
  cases k with
  | true => exact ⟨m1, A1, L, d, A', hr1, lr.mono k1 p1, e2, post.later p1 k1⟩
  | false => exact ⟨m1, A1, L, d, A', hr1, lr.mono k1 p1, e2, post.later p1 k1⟩
theorem e_if (hc : TO' X c fc) (ha : EO X a fa) (hb : EO X b fb) : EO X (.IfExp c a b pos) (mIf fc fa fb) := PE.weak (pe_ifExp hc ha hb) fun _ _ _ h => if_of h
theorem e_chain (hu : X.A.units + 65 < cLine) {op op' : CmpOp} {g g' : D → D → Hpp → R D} (hg : cmpOf op = some g) (hg' : cmpOf op' = some g') (ha : EO X a fa) (hb : EO X b fb) (hc : EO X c fc) (hm : lastMarks [op, op'] [b, c] = false) :
    EO X (.Compare a [op, op'] [b, c] pos) (mChain g g' fa fb fc) := by
  refine PE.weak (pe_chain (c_of hu hg) (c_of hu hg') ha hb hc hm) ?_
  rintro s H Q ⟨m, A, L, d, A', hr, lr, e, post⟩
  obtain ⟨x, A1, e1, e⟩ := R.bind_eq_ok e
  obtain ⟨y, A2, e2, e⟩ := R.bind_eq_ok e
  obtain ⟨z, A3, e3, e4⟩ := R.bind_eq_ok e
  obtain ⟨j, rfl, rfl⟩ := cmp_bool hg e3
  refine ⟨m, A, L, x, A1, hr, lr, e1, fun m1 v H1 p1 k1 hr1 r1 => ?_⟩
  refine ⟨m1, A1, L, y, _, hr1, lr.mono k1 p1, e2, fun m2 u H2 p2 k2 hr2 r2 => ?_⟩
  refine ⟨m2, _, x, y, .bl j, _, hr2, Rep.mono k2 p2 _ _ r1, r2, e3, fun m3 w H3 p3 k3 hr3 r3 => ?_⟩
  simp only [Rep] at r3
  refine ⟨j, r3, ?_⟩
  cases j with
  | false => cases e4; exact post m3 _ H3 (p1.trans (p2.trans p3)) (k1.trans (k2.trans k3)) hr3 rfl
  | true =>
    obtain ⟨w', A4, e5, e6⟩ := R.bind_eq_ok e4
    refine ⟨m3, _, L, w', A4, hr3, lr.mono (k1.trans (k2.trans k3)) (p1.trans (p2.trans p3)), e5, fun m4 u4 H4 p4 k4 hr4 r4 => ?_⟩
    exact ⟨m4, A4, y, w', d, A', hr4, Rep.mono (k3.trans k4) (p3.trans p4) _ _ r2, r4, e6, post.later (p1.trans (p2.trans (p3.trans p4))) (k1.trans (k2.trans (k3.trans k4)))⟩
theorem t_chain (hu : X.A.units + 65 < cLine) {op op' : CmpOp} {g g' : D → D → Hpp → R D} (hg : cmpOf op = some g) (hg' : cmpOf op' = some g') (ha : EO X a fa) (hb : EO X b fb) (hc : EO X c fc) (hm : lastMarks [op, op'] [b, c] = false) :
    TO' X (.Compare a [op, op'] [b, c] pos) (mChain g g' fa fb fc) := by
  refine PT.weak (pt_chain (c_of hu hg) (c_of hu hg') ha hb hc hm) fun s H Q h => ?_
  obtain ⟨m, A, L, d, A', k, hr, lr, e, et, post⟩ := test_of h
  obtain ⟨x, A1, e1, e⟩ := R.bind_eq_ok e
  obtain ⟨y, A2, e2, e⟩ := R.bind_eq_ok e
  obtain ⟨z, A3, e3, e4⟩ := R.bind_eq_ok e
  obtain ⟨j, rfl, rfl⟩ := cmp_bool hg e3
  refine ⟨m, A, L, x, A1, hr, lr, e1, fun m1 v H1 p1 k1 hr1 r1 => ?_⟩
  refine ⟨m1, A1, L, y, _, hr1, lr.mono k1 p1, e2, fun m2 u H2 p2 k2 hr2 r2 => ?_⟩
  refine ⟨m2, _, x, y, .bl j, _, hr2, Rep.mono k2 p2 _ _ r1, r2, e3, fun m3 w H3 p3 k3 hr3 r3 => ?_⟩
  simp only [Rep] at r3
  refine ⟨j, r3, ?_⟩
  cases j with
  | false =>
    cases e4
    simp only [truth, Option.some.injEq] at et
    subst et
    exact ⟨false, rfl, post m3 H3 (p1.trans (p2.trans p3)) (k1.trans (k2.trans k3)) hr3⟩
  | true =>
    obtain ⟨w', A4, e5, e6⟩ := R.bind_eq_ok e4
    obtain ⟨j2, rfl, rfl⟩ := cmp_bool hg' e6
    simp only [truth, Option.some.injEq] at et
    subst et
    refine ⟨m3, _, L, w', _, hr3, lr.mono (k1.trans (k2.trans k3)) (p1.trans (p2.trans p3)), e5, fun m4 u4 H4 p4 k4 hr4 r4 => ?_⟩
    refine ⟨m4, _, y, w', .bl j2, _, hr4, Rep.mono (k3.trans k4) (p3.trans p4) _ _ r2, r4, e6, fun m5 v5 H5 p5 k5 hr5 r5 => ?_⟩
    simp only [Rep] at r5
    exact ⟨j2, r5, post m5 H5 (p1.trans (p2.trans (p3.trans (p4.trans p5)))) (k1.trans (k2.trans (k3.trans (k4.trans k5)))) hr5⟩
end
/-! arguments -/
def noStar : Expr → Bool
  | .Starred _ _ => false
  | _ => true
theorem star_cons {e : Expr} {es : List Expr} {env : Env} (h : noStar e = true) : starEach (e :: es) env = (false, eval e env) :: starEach es env := by
  cases e <;> first | rfl | cases h
theorem star_none {pos : Pos} {env : Env} : ∀ {es : List Expr}, es.all noStar = true → (backTo pos (starEach es env)).any (·.1) = false
  | [], _ => rfl
  | e :: es, h => by
    rw [List.all_cons, Bool.and_eq_true] at h
    rw [star_cons h.1]
    show (false || (backTo pos (starEach es env)).any (·.1)) = false
    rw [star_none h.2]
    rfl
section
variable {X : Cx} {a b c e : Expr} {fa fb fc f : M} {pos p p2 : Pos} {es : List Expr} {r : ML}
abbrev AO (X : Cx) (es : List Expr) (r : ML) : Prop := PA X es (tL X.K r)
theorem a_nil : AO X [] mNil := by
  refine PA.weak pa_nil ?_
  rintro s H Q ⟨m, A, L, ds, A', hr, lr, e, post⟩
  cases e
  exact post m [] H (List.prefix_refl _) (Keep.refl _) hr rfl
theorem cons_of {K : PySem.W.Frag} {s : L2.St} {H : Hp} {Q : List V → Hp → Prop} (h : tL K (mCons f r) s H Q) : tCons (tE K f) (tL K r) s H Q := by
  obtain ⟨m, A, L, ds, A', hr, lr, e, post⟩ := h
  obtain ⟨x, A1, e1, e⟩ := R.bind_eq_ok e
  obtain ⟨xs, A2, e2, e⟩ := R.bind_eq_ok e
  cases e
  refine ⟨m, A, L, x, A1, hr, lr, e1, fun m1 v H1 p1 k1 hr1 r1 => ?_⟩
  refine ⟨m1, A1, L, xs, _, hr1, lr.mono k1 p1, e2, fun m2 vs H2 p2 k2 hr2 r2 => ?_⟩
  exact post m2 (v :: vs) H2 (p1.trans p2) (k1.trans k2) hr2 ⟨v, vs, rfl, Rep.mono k2 p2 _ _ r1, r2⟩
theorem a_cons (hs : noStar e = true) (ha : EO X e f) (hr : AO X es r) : AO X (e :: es) (mCons f r) := PA.weak (pa_cons ha hr (star_cons hs)) fun _ _ _ h => cons_of h
theorem e_tup {k : Nat} (h : AO X es r) : EO X (.Tuple es k pos) (mTup r) := by
  refine PE.weak (pe_tup h) ?_
  rintro s H Q ⟨m, A, L, d, A', hr, lr, e, post⟩
  obtain ⟨xs, A1, e1, e⟩ := R.bind_eq_ok e
  split at e
  · rename_i hz
    cases e
    refine ⟨m, A, L, xs, _, hr, lr, e1, fun m1 vs H1 p1 k1 hr1 r1 => ⟨by rw [r1.length]; exact hz, ?_⟩⟩
    exact PostD.newT (post.later p1 k1) hr1 r1
  · cases e
theorem e_lst (h : AO X es r) : EO X (.List es pos) (mLst r) := by
  refine PE.weak (pe_lst h) ?_
  rintro s H Q ⟨m, A, L, d, A', hr, lr, e, post⟩
  obtain ⟨xs, A1, e1, e⟩ := R.bind_eq_ok e
  split at e
  · rename_i hz
    cases e
    refine ⟨m, A, L, xs, _, hr, lr, e1, fun m1 vs H1 p1 k1 hr1 r1 => ⟨by rw [r1.length]; exact hz, ?_⟩⟩
    exact PostD.newL (post.later p1 k1) hr1 r1
  · cases e
theorem cb_of {K : PySem.W.Frag} {g : List D → Hpp → R D} {s : L2.St} {H : Hp} {Q : VK} (h : tE K (mB g r) s H Q) : tCB (rF K g) (tL K r) s H Q := by
  obtain ⟨m, A, L, d, A', hr, lr, e, post⟩ := h
  obtain ⟨xs, A1, e1, e⟩ := R.bind_eq_ok e
  exact ⟨m, A, L, xs, A1, hr, lr, e1, fun m1 vs H1 p1 k1 hr1 r1 => ⟨m1, A1, xs, d, A', hr1, r1, e, post.later p1 k1⟩⟩
theorem e_callB {x : Str} {id : String} {g : List D → Hpp → R D} (hc : CallR X (.builtin id) (rF X.K g)) (hg : Gl X x) (hm : X.mg x = none) (hv : bootBuiltins x = some (.builtin id)) (hs : noStar e = true) (hs2 : es.all noStar = true) (ha : AO X (e :: es) r)
    (hn : x ≠ "__name__") (hdb : (x == ("__debug__" : Str)) = false) : EO X (.Call (.Name x p) (e :: es) [] pos) (mB g r) :=
  PE.weak (pe_callB hc hg hm hv ha hn hdb (star_cons hs) (star_none hs2)) fun _ _ _ h => cb_of h
theorem e_callT {x : Str} {id : String} {g : List D → Hpp → R D} (hc : CallR X (.type id) (rF X.K g)) (hg : Gl X x) (hm : X.mg x = none) (hv : bootBuiltins x = some (.type id)) (hs : noStar e = true) (hs2 : es.all noStar = true) (ha : AO X (e :: es) r)
    (hn : x ≠ "__name__") (hdb : (x == ("__debug__" : Str)) = false) : EO X (.Call (.Name x p) (e :: es) [] pos) (mB g r) :=
  PE.weak (pe_callTy hc hg hm hv ha hn hdb (star_cons hs) (star_none hs2)) fun _ _ _ h => cb_of h
/-- isinstance(e, T) -/
theorem e_isi {T : Ty} {x y : Str} (hg : Gl X x) (hm : X.mg x = none) (hv : bootBuiltins x = some (.builtin "isinstance")) (hgy : Gl X y) (hmy : X.mg y = none) (hvy : bootBuiltins y = some (.type T.name)) (hs : noStar e = true) (ha : EO X e f)
    (hn : x ≠ "__name__") (hdb : (x == ("__debug__" : Str)) = false) (hn2 : y ≠ "__name__") (hdb2 : (y == ("__debug__" : Str)) = false) : EO X (.Call (.Name x p) [e, .Name y p2] [] pos) (mUn (opIsi T) f) := by
  refine PE.weak (pe_callB (b_isi T) hg hm hv (pa_cons ha (pa_cons (pe_bltn (v := .ty T.name) hgy hmy hvy rfl hn2 hdb2) pa_nil (star_cons rfl)) (star_cons hs)) hn hdb (star_cons hs) (star_none rfl)) ?_
  rintro s H Q ⟨m, A, L, d, A', hr, lr, e, post⟩
  obtain ⟨x, A1, e1, e⟩ := R.bind_eq_ok e
  refine ⟨m, A, L, x, A1, hr, lr, e1, fun m1 v H1 p1 k1 hr1 r1 => ?_⟩
  exact ⟨v, m1, A1, x, d, A', rfl, hr1, r1, e, post.later p1 k1⟩
def plainIx : Expr → Bool
  | .Slice _ _ _ _ => false
  | _ => true
theorem plain_ix {b : Expr} (h : plainIx b = true) : PlainIx b := by
  intro o i
  cases b <;> first | rfl | cases h
theorem e_ix (hu : X.A.units + 1 < cLine) (hs : plainIx b = true) (ha : EO X a fa) (hb : EO X b fb) : EO X (.Subscript a b pos) (mBin opIx fa fb) :=
  PE.weak (pe_ix (i_ix hu) ha hb (plain_ix hs)) fun _ _ _ h => two_of h
def PostO (K : PySem.W.Frag) (H : Hp) (m : List Addr) (A : Hpp) (Q : Hp → Prop) : Prop := PostB K H m A Q
def tO (K : PySem.W.Frag) (f : MO) : TO := fun s H Q => ∃ (m : List Addr) (A : Hpp) (L : Loc) (o : Option Int) (A' : Hpp), HR K H m A ∧ LR K H m L s ∧ f L A = .ok o A' ∧ PostB K H m A' (Q o)
theorem PO.weak {e : Option Expr} {t t' : TO} (h : PO X e t) (w : ∀ s H Q, t' s H Q → t s H Q) : PO X e t' := ⟨fun pins s q H Q I x => h.run pins s q H Q I (w q H Q x)⟩
theorem p_none : PO X none (tO X.K oNone) := by
  refine PO.weak po_none ?_
  rintro s H Q ⟨m, A, L, o, A', hr, lr, e, post⟩
  cases e
  exact post m H (List.prefix_refl _) (Keep.refl _) hr
theorem p_some (h : EO X e f) : PO X (some e) (tO X.K (oSome f)) := by
  refine PO.weak (po_some h) ?_
  rintro s H Q ⟨m, A, L, o, A', hr, lr, e, post⟩
  obtain ⟨x, A1, e1, e⟩ := R.bind_eq_ok e
  split at e
  · cases e
    refine ⟨m, A, L, _, _, hr, lr, e1, fun m1 v H1 p1 k1 hr1 r1 => ?_⟩
    simp only [Rep] at r1
    exact ⟨_, r1, post m1 H1 p1 k1 hr1⟩
  · cases e
theorem e_slice {lo hi : Option Expr} {fl fh : MO} (ha : EO X e f) (hl : PO X lo (tO X.K fl)) (hh : PO X hi (tO X.K fh)) : EO X (.Subscript e (.Slice lo hi none p2) pos) (mSlice f fl fh) := by
  refine PE.weak (pe_slice i_sl ha hl hh) ?_
  rintro s H Q ⟨m, A, L, d, A', hr, lr, e, post⟩
  obtain ⟨x, A1, e1, e⟩ := R.bind_eq_ok e
  obtain ⟨l, A2, e2, e⟩ := R.bind_eq_ok e
  obtain ⟨h, A3, e3, e4⟩ := R.bind_eq_ok e
  refine ⟨m, A, L, x, A1, hr, lr, e1, fun m1 v H1 p1 k1 hr1 r1 => ?_⟩
  refine ⟨m1, A1, L, l, A2, hr1, lr.mono k1 p1, e2, fun m2 H2 p2 k2 hr2 => ?_⟩
  refine ⟨m2, A2, L, h, A3, hr2, lr.mono (k1.trans k2) (p1.trans p2), e3, fun m3 H3 p3 k3 hr3 => ?_⟩
  exact ⟨m3, A3, x, d, A', hr3, Rep.mono (k2.trans k3) (p2.trans p3) _ _ r1, e4, post.later (p1.trans (p2.trans p3)) (k1.trans (k2.trans k3))⟩
end
end Rf
namespace Rf
open PySem PySem.Spec PyProof.Rows L2
/-! dict displays -/
def trsOf (K : PySem.W.Frag) (ps : List (M × M)) : List (TE × TE) := ps.map fun p => (tE K p.1, tE K p.2)
theorem pairs_of {K : PySem.W.Frag} {s : L2.St} {L : Loc} : ∀ {ps : List (M × M)} {H : Hp} {m : List Addr} {A A' : Hpp} {ds : List (D × D)} {Q : List (V × V) → Hp → Prop}, HR K H m A → LR K H m L s → mPairs ps L A = .ok ds A' →
    (∀ (m' : List Addr) (vs : List (V × V)) (H' : Hp), m <+: m' → Keep H H' → HR K H' m' A' → RepL K H' m' (ds.map (·.1)) (vs.map (·.1)) → RepL K H' m' (ds.map (·.2)) (vs.map (·.2)) → Q vs H') → tPairs (trsOf K ps) s H Q
  | [], H, m, A, A', ds, Q, hr, lr, e, post => by
    cases e
    exact post m [] H (List.prefix_refl _) (Keep.refl _) hr rfl rfl
  | kv :: ps, H, m, A, A', ds, Q, hr, lr, e, post => by
    unfold mPairs at e
    obtain ⟨x, A1, e1, e⟩ := R.bind_eq_ok e
    obtain ⟨y, A2, e2, e⟩ := R.bind_eq_ok e
    obtain ⟨t, A3, e3, e⟩ := R.bind_eq_ok e
    cases e
    refine ⟨m, A, L, x, A1, hr, lr, e1, fun m1 v H1 p1 k1 hr1 r1 => ?_⟩
    refine ⟨m1, A1, L, y, A2, hr1, lr.mono k1 p1, e2, fun m2 u H2 p2 k2 hr2 r2 => ?_⟩
    refine pairs_of hr2 (lr.mono (k1.trans k2) (p1.trans p2)) e3 fun m3 vs H3 p3 k3 hr3 ra rb => ?_
    exact post m3 ((v, u) :: vs) H3 (p1.trans (p2.trans p3)) (k1.trans (k2.trans k3)) hr3 ⟨v, _, rfl, Rep.mono (k2.trans k3) (p2.trans p3) _ _ r1, ra⟩ ⟨u, _, rfl, Rep.mono k3 p3 _ _ r2, rb⟩
theorem keys_of {K : PySem.W.Frag} {H : Hp} {m : List Addr} : ∀ {ds : List (D × D)} {vs : List (V × V)} {l : List (Key × D)}, RepL K H m (ds.map (·.1)) (vs.map (·.1)) → RepL K H m (ds.map (·.2)) (vs.map (·.2)) → keysD ds = some l →
    ∃ kvs : List (Key × V), vs = kvs.map (fun kv => (kV kv.1, kv.2)) ∧ RepK K H m l kvs
  | [], vs, l, ra, rb, e => by
    cases vs with
    | nil => cases e; exact ⟨[], rfl, rfl⟩
    | cons v vs => simp [RepL] at ra
  | d :: ds, vs, l, ra, rb, e => by
    cases vs with
    | nil => simp [RepL] at ra
    | cons v vs =>
      simp only [List.map_cons, RepL, List.cons.injEq] at ra rb
      obtain ⟨a1, a2, ⟨rfl, rfl⟩, a3, a4⟩ := ra
      obtain ⟨b1, b2, ⟨rfl, rfl⟩, b3, b4⟩ := rb
      unfold keysD at e
      split at e
      · rename_i k t hk ht
        cases e
        obtain ⟨kvs, rfl, rk⟩ := keys_of a4 b4 ht
        have := keyD_rep a3 hk
        exact ⟨(k, v.2) :: kvs, by rw [List.map_cons, ← this], ⟨_, _, rfl, b3, rk⟩⟩
      · cases e
theorem merge_rep {K : PySem.W.Frag} {H : Hp} {m : List Addr} : ∀ {l : List (Key × D)} {kvs : List (Key × V)} {acc : List (Key × D)} {acv : List (Key × V)}, RepK K H m l kvs → RepK K H m acc acv →
    RepK K H m (l.foldl (fun acc kv => putD acc kv.1 kv.2) acc) (mergeK acv kvs)
  | [], kvs, acc, acv, r, ra => by cases r; exact ra
  | d :: l, kvs, acc, acv, r, ra => by
    obtain ⟨v, t, rfl, a, b⟩ := r
    have := merge_rep b (ra.put d.1 a)
    unfold mergeK at this ⊢
    simpa only [List.foldl_cons] using this
section
variable {X : Cx} {pos : Pos}
abbrev DO (X : Cx) (pos : Pos) (keys : List (Option Expr)) (values : List Expr) (ps : List (M × M)) : Prop := PPs X pos keys values (trsOf X.K ps)
theorem d_nil : DO X pos [] [] [] := pps_nil
theorem d_cons {k v : Expr} {fk fv : M} {ks : List (Option Expr)} {vs : List Expr} {ps : List (M × M)} (hk : EO X k fk) (hv : EO X v fv) (hr : DO X pos ks vs ps) : DO X pos (some k :: ks) (v :: vs) ((fk, fv) :: ps) := pps_cons hk hv hr
theorem e_dict {keys : List (Option Expr)} {values : List Expr} {ps : List (M × M)} (h : DO X pos keys values ps) (hall : keys.all (·.isSome) = true) (hl : keys.length = values.length) (h0 : keys ≠ []) (h15 : keys.length ≤ 15) : EO X (.Dict keys values pos) (mDict ps) := by
  refine PE.weak (pe_disp h hall hl h0 h15) ?_
  rintro s H Q ⟨m, A, L, d, A', hr, lr, e, post⟩ p hp
  unfold mDict at e
  obtain ⟨kvs, A1, e1, e⟩ := R.bind_eq_ok e
  split at e
  · rename_i l hk
    split at e
    · rename_i hc
      cases e
      have hr0 : HR X.K (upd H p (.dK [])) (m ++ [p]) (A ++ [.dct []]) := hr.new hp rfl ⟨[], upd_same, rfl⟩
      have em : (m ++ [p])[A.length]? = some p := by rw [← hr.len]; simp
      refine pairs_of hr0 (lr.mono (Keep.new hp) (List.prefix_append _ _)) e1 fun m' vs H' p' k' hr' ra rb => ?_
      obtain ⟨kv2, rfl, rk⟩ := keys_of ra rb hk
      have em' : m'[A.length]? = some p := Pre.get p' em
      obtain ⟨ws, hw, rw'⟩ := hr'.at_ _ _ _ em' hc.2
      have : ws = [] := rw'
      subst this
      refine ⟨hw, kv2, rfl, by rw [rk.length]; exact hc.1, ?_⟩
      have kp : Keep H' (upd H' p (.dK (mergeK [] kv2))) := Keep.write hw (fun _ z => by cases z)
      obtain ⟨h1, h2⟩ := hr'.set (o := .dK (mergeK [] kv2)) (u' := .dct (mergeD l)) hc.2 em' rfl rfl ⟨_, upd_same, RepK.mono kp (List.prefix_refl _) _ _ (merge_rep (acc := []) (acv := []) rk rfl)⟩
      refine post m' (.ref p) _ ((List.prefix_append _ _).trans p') ((Keep.new hp).trans (k'.trans h2)) h1 ?_
      simp only [Rep]
      exact ⟨p, em', rfl⟩
    · cases e
  · cases e
/-! methods of built-in types -/
def plainBase : Expr → Bool
  | .Call (.Name _ _) [] [] _ => false
  | _ => true
theorem base_of {o : Expr} {name : Str} {env : Env} (h : plainBase o = true) : attributeBase o name env (eval o env) = eval o env := by
  unfold attributeBase
  split
  · cases h
  · rfl
theorem few_of {cpos : Pos} {env : Env} {es : List Expr} (h : es.all noStar = true) (hl : es.length < 25) : ((backTo cpos (starEach es env)).all (fun x => !x.1) && (backToKw cpos (keywordEach [] env)).all (fun x => x.1.isSome)
      && decide (es.length + ([] : List Keyword).length + (if ([] : List Keyword).isEmpty then 0 else 1) < 30)) = true := by
  have h1 : (backTo cpos (starEach es env)).all (fun x => !x.1) = true := by
    have := star_none (pos := cpos) (env := env) h
    rw [List.all_eq_true]
    intro x hx
    rw [List.any_eq_false] at this
    simpa using this x hx
  rw [h1]
  have h2 : decide (es.length + ([] : List Keyword).length + (if ([] : List Keyword).isEmpty then 0 else 1) < 30) = true := by
    simp
    omega
  rw [h2]
  rfl
theorem e_meth {o e : Expr} {es : List Expr} {name : Str} {apos cpos : Pos} {T id : String} {g : D → List D → Hpp → R D} {fo : M} {r : ML} (pa : PlainAttrs T) (slot : Slot T name id) (hty : typeOf (.builtin id) = pure (.type "method_descriptor"))
    (hm : MtR X id (rM X.K g)) {pre : D → Hpp → Bool} (hk : ∀ {H : Hp} {m : List Addr} {A : Hpp} {x : D} {v : V}, HR X.K H m A → pre x A = true → Rep X.K H m x v → tyV X.K T v H)
    (hb : plainBase o = true) (hl : (apos.endLine == cpos.line) = true) (hs : noStar e = true) (hs2 : es.all noStar = true) (hn : (e :: es).length < 25) (ho : EO X o fo) (ha : AO X (e :: es) r) : EO X (.Call (.Attribute o name apos) (e :: es) [] cpos) (mMeth pre g fo r) := by
  refine PE.weak (pe_bm pa slot hty hm ho ha (base_of hb) (few_of (by rw [List.all_cons, hs, hs2]; rfl) hn) hl (star_cons hs) (star_none hs2)) ?_
  rintro s H Q ⟨m, A, L, d, A', hr, lr, e, post⟩
  obtain ⟨x, A1, e1, e⟩ := R.bind_eq_ok e
  split at e
  · rename_i hp
    obtain ⟨xs, A2, e2, e3⟩ := R.bind_eq_ok e
    refine ⟨m, A, L, x, A1, hr, lr, e1, fun m1 v H1 p1 k1 hr1 r1 => ⟨hk hr1 hp r1, ?_⟩⟩
    refine ⟨m1, A1, L, xs, A2, hr1, lr.mono k1 p1, e2, fun m2 vs H2 p2 k2 hr2 r2 => ?_⟩
    exact ⟨m2, A2, x, xs, d, A', hr2, Rep.mono k2 p2 _ _ r1, r2, e3, (post.later p1 k1).later p2 k2⟩
  · cases e
theorem pre_lst {H : Hp} {m : List Addr} {A : Hpp} {x : D} {v : V} (hr : HR X.K H m A) (hp : isLst x A = true) (r : Rep X.K H m x v) : tyV X.K "list" v H := by
  cases x with
  | ref n =>
    unfold isLst at hp
    simp only at hp
    split at hp
    · rename_i l hl
      obtain ⟨a, vs, rfl, _, ha, _⟩ := hr.lst hl r
      exact .inl ⟨rfl, vs, SqL.of ha⟩
    · cases hp
  | _ => cases hp
theorem pre_str {H : Hp} {m : List Addr} {A : Hpp} {x : D} {v : V} (hr : HR X.K H m A) (hp : isStrD x A = true) (r : Rep X.K H m x v) : tyV X.K "str" v H := by
  cases x with
  | str n => simp only [Rep] at r; subst r; rfl
  | _ => cases hp
theorem pre_dct {H : Hp} {m : List Addr} {A : Hpp} {x : D} {v : V} (hr : HR X.K H m A) (hp : isDct x A = true) (r : Rep X.K H m x v) : tyV X.K "dict" v H := by
  cases x with
  | ref n =>
    unfold isDct at hp
    simp only at hp
    split at hp
    · rename_i l hl
      obtain ⟨a, vs, rfl, _, ha, _⟩ := hr.dct hl r
      exact .inr (.inr (.inl ⟨rfl, .inl ⟨vs, ha⟩⟩))
    · cases hp
  | _ => cases hp
/-! targets -/
def PostN (K : PySem.W.Frag) (H : Hp) (m : List Addr) (L : Loc) (A : Hpp) (Q : L2.St → Hp → Prop) : Prop :=
  ∀ (m' : List Addr) (s' : L2.St) (H' : Hp), m <+: m' → Keep H H' → HR K H' m' A → LR K H' m' L s' → Q s' H'
theorem PostN.later {K : PySem.W.Frag} {H H1 : Hp} {m m1 : List Addr} {L : Loc} {A : Hpp} {Q : L2.St → Hp → Prop} (h : PostN K H m L A Q) (p : m <+: m1) (k : Keep H H1) : PostN K H1 m1 L A Q :=
  fun m' v H' p' k' r q => h m' v H' (p.trans p') (k.trans k') r q
theorem PostN.now {K : PySem.W.Frag} {H : Hp} {m : List Addr} {L : Loc} {A : Hpp} {Q : L2.St → Hp → Prop} {s : L2.St} (h : PostN K H m L A Q) (hr : HR K H m A) (lr : LR K H m L s) : Q s H :=
  h m s H (List.prefix_refl _) (Keep.refl _) hr lr
def tG (K : PySem.W.Frag) (t : T) : TG := fun v s H Q => ∃ (m : List Addr) (A : Hpp) (L : Loc) (d : D) (L' : Loc) (A' : Hpp), HR K H m A ∧ LR K H m L s ∧ Rep K H m d v ∧ t d L A = .ok L' A' ∧ PostN K H m L' A' Q
def tGL (K : PySem.W.Frag) (t : TL) : TGs := fun vs s H Q => ∃ (m : List Addr) (A : Hpp) (L : Loc) (ds : List D) (L' : Loc) (A' : Hpp), HR K H m A ∧ LR K H m L s ∧ RepL K H m ds vs ∧ t ds L A = .ok L' A' ∧ PostN K H m L' A' Q
abbrev GO (X : Cx) (e : Expr) (t : T) : Prop := PG X e (tG X.K t)
abbrev GLO (X : Cx) (es : List Expr) (t : TL) : Prop := PGs X es (tGL X.K t)
theorem g_var {i : Nat} {x : Str} (hN : X.N.Nodup) (hi : X.N[i]? = some x) (hx : L2.Loc X.env.scope x) (hf : X.fn x = true ∨ X.env.scope.names.lookup x = some .local) : GO X (.Name x pos) (gVar i) := by
  refine PG.weak (pg_name hN hi hx hf) ?_
  rintro v s H Q ⟨m, A, L, d, L', A', hr, lr, rv, e, post⟩
  cases e
  exact post.now hr (lr.set rv)
theorem g_nil : GLO X [] gNil' := by
  refine PGs.weak pgs_nil ?_
  rintro v s H Q ⟨m, A, L, ds, L', A', hr, lr, rv, e, post⟩
  unfold gNil' at e
  split at e
  · cases e
    exact ⟨rv, post.now hr lr⟩
  · cases e
theorem assign_cons {e : Expr} {es : List Expr} {env : Env} (h : noStar e = true) : assignEach (e :: es) env = (false, assign e env) :: assignEach es env := by
  cases e <;> first | rfl | cases h
theorem g_cons {e : Expr} {es : List Expr} {t : T} {u : TL} (hs : noStar e = true) (h1 : GO X e t) (h2 : GLO X es u) : GLO X (e :: es) (gCons' t u) := by
  refine PGs.weak (pgs_cons h1 h2 (by rw [assign_cons hs] <;> rfl)) ?_
  rintro v s H Q ⟨m, A, L, ds, L', A', hr, lr, rv, e, post⟩
  unfold gCons' at e
  split at e
  · obtain ⟨L1, A1, e1, e2⟩ := R.bind_eq_ok e
    obtain ⟨w, t', rfl, a, b⟩ := rv
    refine ⟨w, t', rfl, m, A, L, _, L1, A1, hr, lr, a, e1, fun m1 s1 H1 p1 k1 hr1 lr1 => ?_⟩
    exact ⟨m1, A1, L1, _, L', A', hr1, lr1, RepL.mono k1 p1 _ _ b, e2, post.later p1 k1⟩
  · cases e
theorem len_assign {env : Env} : ∀ {es : List Expr}, es.all noStar = true → (assignEach es env).length = es.length ∧ (assignEach es env).findIdx? (·.1) = none
  | [], _ => ⟨rfl, rfl⟩
  | e :: es, h => by
    rw [List.all_cons, Bool.and_eq_true] at h
    obtain ⟨a, b⟩ := len_assign (env := env) h.2
    rw [assign_cons h.1]
    refine ⟨by simp [a], ?_⟩
    rw [List.findIdx?_cons]
    simp [b]
/-- a target's length is told by its form -/
inductive TLen : TL → Nat → Prop
  | nil : TLen gNil' 0
  | cons {t : T} {u : TL} {n : Nat} : TLen u n → TLen (gCons' t u) (n + 1)
theorem TLen.ok {u : TL} {n : Nat} (h : TLen u n) : ∀ {ds : List D} {L L' : Loc} {A A' : Hpp}, u ds L A = .ok L' A' → ds.length = n := by
  induction h with
  | nil =>
    intro ds L L' A A' e
    unfold gNil' at e
    split at e
    · rfl
    · cases e
  | cons _ ih =>
    intro ds L L' A A' e
    unfold gCons' at e
    split at e
    · obtain ⟨L1, A1, e1, e2⟩ := R.bind_eq_ok e
      simp [ih e2]
    · cases e
theorem pg_or {tg : Expr} {t u : TG} (h1 : PG X tg t) (h2 : PG X tg u) : PG X tg (fun v s H Q => t v s H Q ∨ u v s H Q) :=
  ⟨fun pins s q H v w Q I r h => h.elim (h1.run pins s q H v w Q I r) (h2.run pins s q H v w Q I r)⟩
theorem seq_rep {K : PySem.W.Frag} {H : Hp} {m : List Addr} {A : Hpp} {d : D} {ds : List D} {v : V} (hr : HR K H m A) (h : seqOf d A = some ds) (r : Rep K H m d v) :
    (∃ p vs, v = .ref p ∧ SqT K H p vs ∧ RepL K H m ds vs) ∨ ∃ p vs, v = .ref p ∧ SqL K H p vs ∧ RepL K H m ds vs := by
  unfold seqOf at h
  split at h
  · cases h
    obtain ⟨p, vs, rfl, tp, rp⟩ := rep_tup r
    exact .inl ⟨p, vs, rfl, tp.sq, rp⟩
  · split at h
    · cases h
      rename_i hl
      obtain ⟨a, vs, rfl, _, ha, rp⟩ := hr.lst hl r
      exact .inr ⟨a, vs, rfl, SqL.of ha, rp⟩
    · cases h
      rename_i hl
      obtain ⟨a, vs, rfl, _, ha, rp⟩ := hr.rd hl r
      exact .inr ⟨a, vs, rfl, ha.sq, rp⟩
    · cases h
  · cases h
theorem g_tup {es : List Expr} {k : Nat} {u : TL} (hc : X.calm = true) (hs : es.all noStar = true) (hl : TLen u es.length) (h : GLO X es u) : GO X (.Tuple es k pos) (gTup' u) := by
  obtain ⟨a, b⟩ := len_assign (env := X.env) hs
  refine PG.weak (pg_or (pg_tup hc h a b) (pg_unl hc h a b)) ?_
  rintro v s H Q ⟨m, A, L, d, L', A', hr, lr, rv, e, post⟩
  unfold gTup' at e
  split at e
  · rename_i ds hd
    rcases seq_rep hr hd rv with ⟨p, vs, rfl, tp, rp⟩ | ⟨p, vs, rfl, tp, rp⟩
    · exact .inl ⟨p, vs, rfl, tp, by rw [rp.length]; exact hl.ok e, m, A, L, _, L', A', hr, lr, rp, e, post⟩
    · exact .inr ⟨p, vs, rfl, tp, by rw [rp.length]; exact hl.ok e, m, A, L, _, L', A', hr, lr, rp, e, post⟩
  · cases e
theorem g_sub (hu : X.A.units + 1 < cLine) {o i : Expr} {fo fi : M} (hs : plainIx i = true) (ho : EO X o fo) (hi : EO X i fi) : GO X (.Subscript o i pos) (gSub' fo fi) := by
  refine PG.weak (pg_sub ho hi (i_set hu) ?_) ?_
  · intro v
    cases i <;> first | rfl | cases hs
  rintro v s H Q ⟨m, A, L, d, L', A', hr, lr, rv, e, post⟩
  obtain ⟨x, A1, e1, e⟩ := R.bind_eq_ok e
  obtain ⟨y, A2, e2, e⟩ := R.bind_eq_ok e
  obtain ⟨_, A3, e3, e⟩ := R.bind_eq_ok e
  cases e
  refine ⟨m, A, L, x, A1, hr, lr, e1, fun m1 w H1 p1 k1 hr1 r1 => ?_⟩
  refine ⟨m1, A1, L, y, A2, hr1, lr.mono k1 p1, e2, fun m2 u H2 p2 k2 hr2 r2 => ?_⟩
  refine ⟨m2, A2, x, y, d, _, hr2, Rep.mono k2 p2 _ _ r1, r2, Rep.mono (k1.trans k2) (p1.trans p2) _ _ rv, e3, fun m3 H3 p3 k3 hr3 => ?_⟩
  exact post m3 s H3 (p1.trans (p2.trans p3)) (k1.trans (k2.trans k3)) hr3 (lr.mono (k1.trans (k2.trans k3)) (p1.trans (p2.trans p3)))
end
/-! statements -/
def endsIn (K : PySem.W.Frag) (H : Hp) (m : List Addr) (A : Hpp) (E : Ends) : O → Prop
  | .nx L => PostN K H m L A E.nx
  | .bk L => PostN K H m L A E.bk
  | .ct L => PostN K H m L A E.ct
  | .rt d => PostD K H m d A E.rt
theorem endsIn.later {K : PySem.W.Frag} {H H1 : Hp} {m m1 : List Addr} {A : Hpp} {E : Ends} {o : O} (h : endsIn K H m A E o) (p : m <+: m1) (k : Keep H H1) : endsIn K H1 m1 A E o := by
  cases o with
  | nx L => exact PostN.later h p k
  | bk L => exact PostN.later h p k
  | ct L => exact PostN.later h p k
  | rt d => exact PostD.later h p k
def tS (K : PySem.W.Frag) (f : S) : TS := fun E s H => ∃ (m : List Addr) (A : Hpp) (L : Loc) (o : O) (A' : Hpp), HR K H m A ∧ LR K H m L s ∧ f L A = .ok o A' ∧ endsIn K H m A' E o
section
variable {X : Cx} {pos : Pos} {e c : Expr} {f fc : M} {st : Stmt} {rest : List Stmt} {g h : S}
abbrev SO (X : Cx) (st : Stmt) (f : S) : Prop := PS X st (tS X.K f)
abbrev SLO (X : Cx) (st : List Stmt) (f : S) : Prop := PSs X st (tS X.K f)
theorem l_nil : SLO X [] sNil := by
  refine PSs.weak pss_nil ?_
  rintro E s H ⟨m, A, L, o, A', hr, lr, e, post⟩
  cases e
  exact PostN.now post hr lr
theorem l_cons (h1 : SO X st g) (h2 : SLO X rest h) : SLO X (st :: rest) (sSeq g h) := by
  refine PSs.weak (pss_cons h1 h2) ?_
  rintro E s H ⟨m, A, L, o, A', hr, lr, e, post⟩
  obtain ⟨o1, A1, e1, e2⟩ := R.bind_eq_ok e
  refine ⟨m, A, L, o1, A1, hr, lr, e1, ?_⟩
  cases o1 with
  | nx L1 => exact fun m1 s1 H1 p1 k1 hr1 lr1 => ⟨m1, A1, L1, o, A', hr1, lr1, e2, post.later p1 k1⟩
  | bk L1 => cases e2; exact post
  | ct L1 => cases e2; exact post
  | rt d => cases e2; exact post
theorem s_pass : SO X (.Pass pos) sNil := by
  refine PS.weak ps_pass ?_
  rintro E s H ⟨m, A, L, o, A', hr, lr, e, post⟩
  cases e
  exact PostN.now post hr lr
theorem s_break : SO X (.Break pos) sBreak := by
  refine PS.weak ps_break ?_
  rintro E s H ⟨m, A, L, o, A', hr, lr, e, post⟩
  cases e
  exact PostN.now post hr lr
theorem s_cont : SO X (.Continue pos) sCont := by
  refine PS.weak ps_continue ?_
  rintro E s H ⟨m, A, L, o, A', hr, lr, e, post⟩
  cases e
  exact PostN.now post hr lr
theorem s_bad : SO X st sBad := by
  refine PS.weak ps_never ?_
  rintro E s H ⟨m, A, L, o, A', hr, lr, e, post⟩
  cases e
theorem s_ret (he : EO X e f) : SO X (.Return (some e) pos) (sRet f) := by
  refine PS.weak (ps_ret he) ?_
  rintro E s H ⟨m, A, L, o, A', hr, lr, e, post⟩
  obtain ⟨d, A1, e1, e2⟩ := R.bind_eq_ok e
  cases e2
  exact ⟨m, A, L, d, _, hr, lr, e1, post⟩
theorem s_retN : SO X (.Return none pos) sRetN := by
  refine PS.weak ps_retN ?_
  rintro E s H ⟨m, A, L, o, A', hr, lr, e, post⟩
  cases e
  exact PostD.now post hr rfl
theorem s_drop (he : EO X e f) (hs : swapsWith e none pos.line X.env = pure false) : SO X (.Expr e pos) (sDrop f) := by
  refine PS.weak (ps_expr he hs) ?_
  rintro E s H ⟨m, A, L, o, A', hr, lr, e, post⟩
  obtain ⟨d, A1, e1, e2⟩ := R.bind_eq_ok e
  cases e2
  exact ⟨m, A, L, d, _, hr, lr, e1, fun m1 v H1 p1 k1 hr1 r1 => post m1 s H1 p1 k1 hr1 (lr.mono k1 p1)⟩
theorem s_if {p q : List Stmt} (hc : TO' X c fc) (ha : SLO X p g) (hb : SLO X q h) : SO X (.If c p q pos) (sIf fc g h) := by
  refine PS.weak (ps_if hc ha hb) ?_
  rintro E s H ⟨m, A, L, o, A', hr, lr, e, post⟩
  obtain ⟨k, A1, e1, e2⟩ := R.bind_eq_ok e
  refine ⟨m, A, L, k, A1, hr, lr, e1, fun m1 H1 p1 k1 hr1 => ?_⟩
  cases k with
  | true => exact ⟨m1, A1, L, o, A', hr1, lr.mono k1 p1, e2, post.later p1 k1⟩
  | false => exact ⟨m1, A1, L, o, A', hr1, lr.mono k1 p1, e2, post.later p1 k1⟩
theorem asg_of {K : PySem.W.Frag} {t : T} {E : Ends} {s : L2.St} {H : Hp} (h : tS K (sAsg f t) E s H) : tAsg (tE K f) (tG K t) E s H := by
  obtain ⟨m, A, L, o, A', hr, lr, e, post⟩ := h
  obtain ⟨d, A1, e1, e⟩ := R.bind_eq_ok e
  obtain ⟨L1, A2, e2, e⟩ := R.bind_eq_ok e
  cases e
  refine ⟨m, A, L, d, A1, hr, lr, e1, fun m1 v H1 p1 k1 hr1 r1 => ?_⟩
  exact ⟨m1, A1, L, d, L1, _, hr1, lr.mono k1 p1, r1, e2, PostN.later post p1 k1⟩
theorem s_asg {tg : Expr} {t : T} (hst : noStar tg = true) (he : EO X e f) (hg : GO X tg t) (hs : swapsWithSole [tg] e pos.line X.env = pure false) (hw : swappedStores [tg] e X.env = pure none) : SO X (.Assign [tg] e pos) (sAsg f t) := by
  refine PS.weak (ps_asg he hg hs hw (by rw [assign_cons hst] <;> rfl)) fun _ _ _ h => asg_of h
theorem s_par {i j : Nat} {x y : Str} {a b : Expr} {r : ML} {px py pt pt2 : Pos} {kt k2 : Nat} (hc : X.calm = true) (hN : X.N.Nodup) (hi : X.N[i]? = some x) (hj : X.N[j]? = some y) (hij : i ≠ j)
    (hx : X.env.scope.names.lookup x = some .local) (hy : X.env.scope.names.lookup y = some .local) (ha : AO X [a, b] r)
    (hw : swappedStores [.Tuple [.Name x px, .Name y py] kt pt] (.Tuple [a, b] k2 pt2) X.env = pure (some [x, y]))
    (hs : swapsWithSole [.Tuple [.Name x px, .Name y py] kt pt] (.Tuple [a, b] k2 pt2) pos.line X.env = pure false) :
    SO X (.Assign [.Tuple [.Name x px, .Name y py] kt pt] (.Tuple [a, b] k2 pt2) pos) (sPar i j r) := by
  refine PS.weak (ps_par hc hN hi hj hij hx hy ha hw hs) ?_
  rintro E s H ⟨m, A, L, o, A', hr, lr, e, post⟩
  obtain ⟨vs, A1, e1, e⟩ := R.bind_eq_ok e
  split at e
  · cases e
    refine ⟨m, A, L, _, _, hr, lr, e1, fun m1 us H1 p1 k1 hr1 r1 => ?_⟩
    obtain ⟨v, u, rfl, ra, rb⟩ := r1.two
    exact ⟨v, u, rfl, post m1 _ H1 p1 k1 hr1 (((lr.mono k1 p1).set ra).set rb)⟩
  · cases e
theorem s_par3 {i j l : Nat} {x y z : Str} {a b d : Expr} {r : ML} {px py pz pt pt2 : Pos} {kt k2 : Nat} (hc : X.calm = true) (hN : X.N.Nodup) (hi : X.N[i]? = some x) (hj : X.N[j]? = some y) (hl : X.N[l]? = some z) (hij : i ≠ j) (hil : i ≠ l) (hjl : j ≠ l)
    (hx : X.env.scope.names.lookup x = some .local) (hy : X.env.scope.names.lookup y = some .local) (hz : X.env.scope.names.lookup z = some .local) (ha : AO X [a, b, d] r)
    (hw : swappedStores [.Tuple [.Name x px, .Name y py, .Name z pz] kt pt] (.Tuple [a, b, d] k2 pt2) X.env = pure (some [x, y, z]))
    (hs : swapsWithSole [.Tuple [.Name x px, .Name y py, .Name z pz] kt pt] (.Tuple [a, b, d] k2 pt2) pos.line X.env = pure false) :
    SO X (.Assign [.Tuple [.Name x px, .Name y py, .Name z pz] kt pt] (.Tuple [a, b, d] k2 pt2) pos) (sPar3 i j l r) := by
  refine PS.weak (ps_par3 hc hN hi hj hl hij hil hjl hx hy hz ha hw hs) ?_
  rintro E s H ⟨m, A, L, o, A', hr, lr, e, post⟩
  obtain ⟨vs, A1, e1, e2⟩ := R.bind_eq_ok e
  refine ⟨m, A, L, vs, A1, hr, lr, e1, fun m1 us H1 p1 k1 hr1 r1 => ?_⟩
  split at e2
  · cases e2
    obtain ⟨u, t1, rfl, ra, r1⟩ := r1
    obtain ⟨v, t2, rfl, rb, r1⟩ := r1
    obtain ⟨w, t3, rfl, rc, r1⟩ := r1
    cases r1
    refine ⟨u, v, w, rfl, ?_⟩
    exact post m1 _ H1 p1 k1 hr1 ((((lr.mono k1 p1).set ra).set rb).set rc)
  · cases e2
theorem s_aug {i : Nat} {x : Str} {op : Operator} {k : D → D → Hpp → R D} {pos' : Pos} (hN : X.N.Nodup) (hi : X.N[i]? = some x) (hx : L2.Loc X.env.scope x) (he : EO X e f) (ho : PIp X op (rB X.K k)) (hf : X.fn x = true ∨ X.env.scope.names.lookup x = some .local) :
    SO X (.AugAssign (.Name x pos') op e pos) (sAug k i f) := by
  refine PS.weak (ps_aug hN hi hx he ho hf) ?_
  rintro E s H ⟨m, A, L, o, A', hr, lr, e, post⟩
  obtain ⟨x, A1, e1, e⟩ := R.bind_eq_ok e
  obtain ⟨y, A2, e2, e⟩ := R.bind_eq_ok e
  obtain ⟨z, A3, e3, e⟩ := R.bind_eq_ok e
  cases e
  unfold mVar at e1
  split at e1
  · cases e1
    rename_i hv
    obtain ⟨v, h1, h2⟩ := lr.at_ _ _ hv
    refine ⟨v, h1, m, _, L, y, A2, hr, lr, e2, fun m1 u H1 p1 k1 hr1 r1 => ?_⟩
    refine ⟨m1, A2, _, y, z, _, hr1, Rep.mono k1 p1 _ _ h2, r1, e3, fun m2 w H2 p2 k2 hr2 r2 => ?_⟩
    exact post m2 _ H2 (p1.trans p2) (k1.trans k2) hr2 ((lr.mono (k1.trans k2) (p1.trans p2)).set r2)
  · cases e1
end
end Rf
namespace Rf
open PySem PySem.Spec PyProof.Rows L2
section
variable {prog : Program} {w : World} {A : Around} {E : Value → Shared → Prop} {s : Shared} {I : Addr} {fp wr : List Addr} {n : Nat} {P : Nat → Value → Prop} {St : Nat → Heap → Prop}
/-- a walk from its i-th place on -/
theorem walks_from (W : Walks prog w A I fp wr n P St) (i : Nat) (hi : i ≤ n) : Walks prog w A I fp wr (n - i) (fun j => P (i + j)) (fun j => St (i + j)) where
  sub := W.sub
  frame := fun j h h' st hk => W.frame (i + j) h h' st hk
  item := fun j s Q E hj st hQ => W.item (i + j) s Q E (by omega) st fun v h' tk hP st' hk => hQ v h' tk hP (by rw [← Nat.add_assoc]; exact st') hk
  done := fun s Q E st hQ => W.done s Q E (by rw [show i + (n - i) = n by omega] at st; exact st) hQ
  self := fun j s Q E st hQ => W.self (i + j) s Q E st hQ
theorem draw_walk {items : Array Value} (W : Walks prog w A I fp wr items.size (fun i v => items[i]? = some v) St) : ∀ (k i : Nat) (s : Shared) (Q : List Value → Shared → Prop), i + k ≤ items.size → St i s.heap →
    (∀ h' tk, St (i + k) h' → (∀ b o, b ∉ wr → s.heap.get? b = some o → h'.get? b = some o) → Q ((items.toList.drop i).take k) { s with heap := h', toks := tk }) → wpAny (model prog w) A (draw (.ref I) k) Q E s
  | 0, i, s, Q, _, st, hQ => by
    show wpAny _ _ (pure []) Q E s
    exact wpAny_pure (by simpa using hQ s.heap s.toks st fun _ _ _ e => e)
  | k + 1, i, s, Q, hle, st, hQ => by
    have hlt : i < items.size := by omega
    show wpAny _ _ (pyNext (.ref I) >>= _) Q E s
    refine wpAny_bind (W.item i s _ _ hlt st fun v h1 tk hv st1 hk1 => ?_)
    refine wpAny_bind (wpAny_holding (draw_walk W k (i + 1) _ _ (by omega) st1 fun h2 tk2 st2 hk2 => wpAny_pure ?_))
    have hd : items.toList.drop i = items[i] :: items.toList.drop (i + 1) := by simp [List.drop_eq_getElem_cons, hlt]
    have hv' : v = items[i] := by
      have : items[i]? = some v := hv
      rw [Array.getElem?_eq_getElem hlt] at this
      exact (Option.some.inj this).symm
    have := hQ h2 tk2 (by rw [show i + (k + 1) = i + 1 + k by omega]; exact st2) fun b o hb e => hk2 b o hb (hk1 b o hb e)
    rw [hd, List.take_succ_cons] at this
    subst hv'
    exact this
theorem items_of {items acc : Array Value} {i : Nat} (hi : i ≤ items.size) (h : ItemsOf (fun j v => items[i + j]? = some v) acc (items.size - i)) : acc.toList = items.toList.drop i := by
  obtain ⟨h1, h2⟩ := h
  refine List.ext_getElem? fun j => ?_
  rw [List.getElem?_drop, Array.getElem?_toList, Array.getElem?_toList]
  cases e : acc[j]? with
  | some v => exact (h2 j v e).symm
  | none =>
    have := Array.getElem?_eq_none_iff.mp e
    exact (Array.getElem?_eq_none_iff.mpr (by omega)).symm
/-- a, .., *b, .., c = e: what is stored -/
theorem unpack_star {T : String} {items : Array Value} {v : Value} {a b : Nat} {Q : List Value → Shared → Prop}
    (hT : T = "str_ascii_iterator" ∨ T = "str_iterator" ∨ T = "list_iterator" ∨ T = "tuple_iterator")
    (W : ∀ A' : Around, A'.handled = none → Walks prog w A' I fp wr items.size (fun i v => items[i]? = some v) St) (hh : A.handled = none) (hTy : ∀ i h (s : Shared), St i h → s.heap = h → s.TypeIs (.ref I) T)
    (hni : ∀ Q' : Bool → Shared → Prop, Q' false s → wpAny (model prog w) A (notIterableAtAll v) Q' E s)
    (hit : ∀ Q' : Value → Shared → Prop, (∀ h', St 0 h' → (∀ b o, s.heap.get? b = some o → h'.get? b = some o) → Q' (.ref I) { s with heap := h' }) → wpAny (model prog w) A (pyIter v) Q' E s)
    (hI : I ∈ fp) (hfs : ∀ i h, St i h → ∀ b ∈ fp, b < h.objs.size) (hwr : ∀ b o, s.heap.get? b = some o → b ∉ wr) (hab : a + b ≤ items.size) (hz : items.size ≤ sizeLine)
    (hQ : ∀ (h' : Heap) (tk : Nat), (∀ b o, s.heap.get? b = some o → h'.get? b = some o) → s.toks ≤ tk ∨ True → Q (items.toList.take a ++ [.ref h'.objs.size] ++ items.toList.drop (items.size - b))
      { s with heap := h'.push { cls := .type "list", data := .seq ((items.toList.drop a).take (items.size - a - b)).toArray }, toks := tk }) :
    wpAny (model prog w) A (unpackItems v (a + b + 1) (some a)) Q E s := by
  unfold unpackItems
  refine wpAny_bind (hni _ ?_)
  simp only [Bool.false_eq_true, if_false]
  refine wpAny_bind (wpAny_holding (hit _ fun h1 st1 k1 => ?_))
  refine wpAny_bind (wpAny_holding (draw_walk (W A hh) a 0 _ _ (by omega) st1 fun h2 tk2 st2 k2 => ?_))
  rw [List.drop_zero, Nat.zero_add] at *
  have la : (items.toList.take a).length = a := by simp; omega
  rw [if_neg (by rw [la]; exact Nat.lt_irrefl _)]
  have W1 : Walks prog w A.in1 I fp wr (items.size - a) (fun j v => items[a + j]? = some v) (fun j => St (a + j)) := walks_from (W A.in1 hh) a (by omega)
  refine wpAny_bind (wpAny_holding (wpAny_collect_iter hT W1.toS (fun j s' st' => hTy (a + j) s'.heap s' st' rfl) st2 (hfs _ _ st2) hI (fun s3 acc mv it => ?_) (by omega)))
  have e := items_of (by omega) it
  rw [e]
  have lr : (items.toList.drop a).length = items.size - a := by simp
  have e1 : a + b + 1 - 1 - a = b := by omega
  simp only [lr, e1]
  rw [if_neg (by omega)]
  have hs3 : s3 = { s with heap := s3.heap, toks := s3.toks } := by
    obtain ⟨sh, sg, sd, st, so⟩ := s3
    have g1 : sg = s.gens := mv.gens
    have g2 : sd = s.drawn := mv.drawn
    have g3 : so = s.os := mv.os
    subst g1; subst g2; subst g3
    rfl
  have hq := hQ s3.heap s3.toks (fun b' o e' => mv.heap b' o (hwr b' o e') (k2 b' o (hwr b' o e') (k1 b' o e'))) (.inr trivial)
  refine wpAny_bind (wpAny_newObj_type (wpAny_pure ?_) ?_)
  · rw [List.drop_drop, show a + (items.size - a - b) = items.size - b by omega]
    generalize s3.heap = h3 at hs3 hq
    generalize s3.toks = t3 at hs3 hq
    subst hs3
    exact hq
  · show ((items.toList.drop a).take (items.size - a - b)).toArray.size ≤ sizeLine
    simp; omega
end
section
variable {X : Cx} {pos : Pos}
/-- a, *b, c = a tuple or a list -/
def gSt (K : PySem.W.Frag) (a b : Nat) (t : TGs) : TG := fun v σ H Q => ∃ p xs, v = .ref p ∧ (SqT K H p xs ∨ SqL K H p xs) ∧ a + b ≤ xs.length ∧
  ∀ r, H r = none → t (xs.take a ++ [.ref r] ++ xs.drop (xs.length - b)) σ (upd H r (.lst ((xs.drop a).take (xs.length - a - b)))) Q
theorem vals_drop {xs : List V} {us : List Value} (r : Vals xs us) (n : Nat) : Vals (xs.drop n) (us.drop n) := r.drop n
theorem pg_star {es : List Expr} {k a b : Nat} {t : TGs} (hc : X.calm = true) (h : PGs X es t) (hn : (assignEach es X.env).length = a + b + 1) (hst : (assignEach es X.env).findIdx? (·.1) = some a) : PG X (.Tuple es k pos) (gSt X.K a b t) := by
  refine ⟨fun pins s σ H v u Q I r hw => ?_⟩
  obtain ⟨p, xs, e1, hq, hl, hw⟩ := hw
  subst e1
  cases r
  rw [PyProof.Rows.assign_Tuple]
  refine wpAny_bind (wpAny_standAt ?_)
  unfold unpack
  rw [hn, hst]
  have fin : ∀ (its : List Value), Vals xs its → xs.length ≤ sizeLine → ∀ (h' : Heap) (tk : Nat), (∀ b o, s.heap.get? b = some o → h'.get? b = some o) →
      wpAny (model X.prog X.w) X.A (assignInOrder ((assignEach es X.env).map (·.2)) (its.take a ++ [.ref h'.objs.size] ++ its.drop (its.length - b))) (fun _ s' => ∃ σ' H', Inv X pins σ' H' s' ∧ Q σ' H') X.xe
        { s with heap := h'.push { cls := .type "list", data := .seq ((its.drop a).take (its.length - a - b)).toArray }, toks := tk } := by
    intro its rv hz h' tk hx
    have lx := rv.length
    have I1 : Inv X pins σ H { s with heap := h', toks := tk } := I.kept (t' := tk) fun b o e => hx b o e
    have hf : H h'.objs.size = none := I1.hok.fresh (Nat.le_refl _)
    have I2 : Inv X pins σ (upd H h'.objs.size (.lst ((xs.drop a).take (xs.length - a - b)))) { s with heap := h'.push { cls := .type "list", data := .seq ((its.drop a).take (its.length - a - b)).toArray }, toks := tk } := by
      refine I1.laid (t' := tk) (fun b u e => Heap.get?_push_of_some _ e) (Nat.le_refl _) ?_
      refine ⟨?_, _, 0, ?_, Heap.get?_push_size _ rfl⟩
      · rw [List.length_take, List.length_drop]; omega
      · rw [lx]; exact (rv.drop a).take _
    refine h.run pins _ σ _ _ _ Q I2 ?_ (hw _ hf)
    rw [lx]
    have one : Vals [V.ref h'.objs.size] [Value.ref h'.objs.size] := .cons (show RelV (.ref h'.objs.size) (.ref h'.objs.size) from rfl) .nil
    exact ((rv.take a).append one).append (rv.drop _)
  rcases hq with hq | hq
  · obtain ⟨its, rv, ht, hz⟩ := I.tuple hq
    have lx := rv.length
    have ht' : s.heap.IsTuple p its.toArray := ht
    have hlt : p < s.heap.objs.size := by obtain ⟨o, ho, _⟩ := ht; exact Heap.lt_size ho
    refine wpAny_bind (wpAny_holding (unpack_star (T := "tuple_iterator") (I := s.heap.objs.size) (fp := [s.heap.objs.size, p]) (wr := [s.heap.objs.size]) (items := its.toArray) (St := fun i h => h.IsTupleIter s.heap.objs.size p i ∧ h.IsTuple p its.toArray) (.inr (.inr (.inr rfl)))
      (fun A' hA => Walks.tuple hA _ _ (Nat.ne_of_lt hlt) _) (I.ok.hd hc) (fun i h s' st e => by subst e; exact st.1.typeIs) (fun Q' q' => ?_) (fun Q' q' => ?_) (by simp) (fun i h st b hb => ?_) (fun b o e hb => ?_) (by simp; omega) (by simp; omega) (fun h' tk hx _ => ?_)))
    · unfold notIterableAtAll
      exact wpAny_bind (wpAny_specialOf ht.typeIs slot_tuple_iter.lookup (wpAny_pure q'))
    · refine iter_tuple ht (q' _ ⟨⟨_, Heap.get?_push_size _ rfl, rfl, rfl⟩, ht'.push _⟩ (fun b o e => Heap.get?_push_of_some _ e))
    · simp at hb
      rcases hb with rfl | rfl
      · obtain ⟨⟨o, ho, _⟩, _⟩ := st; exact Heap.lt_size ho
      · obtain ⟨_, ⟨o, ho, _⟩⟩ := st; exact Heap.lt_size ho
    · simp at hb; subst hb; exact Nat.lt_irrefl _ (Heap.lt_size e)
    · simpa using fin its rv hz h' tk hx
  · obtain ⟨its, rv, pl, hz⟩ := I.list hq
    have lx := rv.length
    have hl' : s.heap.IsList p its.toArray := by
      obtain ⟨o, m, e, c, d, q⟩ := pl
      exact ⟨o, e, c, m, q⟩
    have hlt : p < s.heap.objs.size := by obtain ⟨o, ho, _⟩ := hl'; exact Heap.lt_size ho
    refine wpAny_bind (wpAny_holding (unpack_star (T := "list_iterator") (I := s.heap.objs.size) (fp := [s.heap.objs.size, p]) (wr := [s.heap.objs.size]) (items := its.toArray) (St := fun i h => h.IsListIter s.heap.objs.size p i ∧ h.IsList p its.toArray) (.inr (.inr (.inl rfl)))
      (fun A' hA => Walks.list hA _ _ (Nat.ne_of_lt hlt) _) (I.ok.hd hc) (fun i h s' st e => by subst e; exact st.1.typeIs) (fun Q' q' => ?_) (fun Q' q' => ?_) (by simp) (fun i h st b hb => ?_) (fun b o e hb => ?_) (by simp; omega) (by simp; omega) (fun h' tk hx _ => ?_)))
    · unfold notIterableAtAll
      exact wpAny_bind (wpAny_specialOf hl'.typeIs slot_list_iter.lookup (wpAny_pure q'))
    · refine wpAny_pyIter_list hl' (q' _ ⟨⟨_, Heap.get?_push_size _ rfl, rfl, rfl⟩, hl'.push _⟩ (fun b o e => Heap.get?_push_of_some _ e))
    · simp at hb
      rcases hb with rfl | rfl
      · obtain ⟨⟨o, ho, _⟩, _⟩ := st; exact Heap.lt_size ho
      · obtain ⟨_, ⟨o, ho, _⟩⟩ := st; exact Heap.lt_size ho
    · simp at hb; subst hb; exact Nat.lt_irrefl _ (Heap.lt_size e)
    · simpa using fin its rv hz h' tk hx
theorem g_consS {e : Expr} {p : Pos} {es : List Expr} {t : T} {u : TL} (hs : noStar e = true) (h1 : GO X e t) (h2 : GLO X es u) : GLO X (.Starred e p :: es) (gCons' t u) := by
  have h := g_cons hs h1 h2
  refine ⟨fun pins s q H vs us Q I r hq => ?_⟩
  have := h.run pins s q H vs us Q I r hq
  rw [assign_cons hs] at this
  exact this
theorem g_star {es : List Expr} {k a b : Nat} {u : TL} (hc : X.calm = true) (h : GLO X es u) (hn : (assignEach es X.env).length = a + b + 1) (hst : (assignEach es X.env).findIdx? (·.1) = some a) : GO X (.Tuple es k pos) (gStar' a b u) := by
  refine PG.weak (pg_star hc h hn hst) ?_
  rintro v s H Q ⟨m, A, L, d, L', A', hr, lr, rv, e, post⟩
  unfold gStar' at e
  split at e
  · rename_i ds hd
    split at e
    · rename_i hab
      have key : ∀ p vs, v = .ref p → (SqT X.K H p vs ∨ SqL X.K H p vs) → RepL X.K H m ds vs → gSt X.K a b (tGL X.K u) v s H Q := by
        rintro p vs rfl hq rp
        have lv := rp.length
        refine ⟨p, vs, rfl, hq, by omega, fun r hf => ?_⟩
        have m1 := RepL.mono (Keep.new (o := .lst ((vs.drop a).take (vs.length - a - b))) hf) (List.prefix_append m [r]) _ _ rp
        have hr' : HR X.K (upd H r (.lst ((vs.drop a).take (vs.length - a - b)))) (m ++ [r]) (A ++ [.lst ((ds.drop a).take (ds.length - a - b))]) := hr.new hf rfl ⟨_, upd_same, by rw [← lv]; exact (m1.drop a).take _⟩
        refine ⟨m ++ [r], _, L, _, L', A', hr', lr.mono (Keep.new hf) (List.prefix_append _ _), ?_, e, fun m' s' H' p' k' r' l' => post m' s' H' ((List.prefix_append _ _).trans p') ((Keep.new hf).trans k') r' l'⟩
        rw [← lv]
        refine ((m1.take a).append ?_).append (m1.drop _)
        refine ⟨_, _, rfl, ?_, rfl⟩
        simp only [Rep]
        exact ⟨r, by rw [← hr.len]; simp, rfl⟩
      rcases seq_rep hr hd rv with ⟨p, vs, e1, tp, rp⟩ | ⟨p, vs, e1, tp, rp⟩
      · exact key p vs e1 (.inl tp) rp
      · exact key p vs e1 (.inr tp) rp
    · cases e
  · cases e
end
end Rf
namespace Rf
open PySem PySem.Spec PyProof.Rows L2
section
variable {prog : Program} {w : World} {A : Around} {E : Value → Shared → Prop} {s : Shared}
theorem rev_places (n : Nat) : Builtin.Slice.slicePlaces ((n : Int) - 1) (-1) (-1) = n := by
  unfold Builtin.Slice.slicePlaces
  rw [if_neg (by decide)]
  have e : (- -1 : Int) = 1 := by decide
  rw [e, Int.ediv_one]
  by_cases h : (n : Int) - 1 > -1
  · rw [if_pos h]; omega
  · rw [if_neg h]; omega
theorem rev_picked (xs : Array Value) : ((List.range xs.size).filterMap fun (k : Nat) => xs[((xs.size : Int) - 1 + (k : Int) * -1).toNat]?).toArray = xs.toList.reverse.toArray := by
  congr 1
  apply List.ext_getElem?
  intro i
  have e : ((List.range xs.size).filterMap fun (k : Nat) => xs[((xs.size : Int) - 1 + (k : Int) * -1).toNat]?) = (List.range xs.size).map fun k => (xs[xs.size - 1 - k]?).getD .none := by
    have key : ∀ l : List Nat, (∀ k ∈ l, k < xs.size) → (l.filterMap fun (k : Nat) => xs[((xs.size : Int) - 1 + (k : Int) * -1).toNat]?) = l.map fun k => (xs[xs.size - 1 - k]?).getD .none := by
      intro l
      induction l with
      | nil => intro _; rfl
      | cons k l ih =>
        intro hl
        have hk := hl k (List.mem_cons_self ..)
        have e1 : ((xs.size : Int) - 1 + (k : Int) * -1).toNat = xs.size - 1 - k := by omega
        have e2 : xs[xs.size - 1 - k]? = some xs[xs.size - 1 - k] := Array.getElem?_eq_getElem (by omega)
        rw [List.filterMap_cons_some (b := xs[xs.size - 1 - k]) (by rw [e1]; exact e2), List.map_cons, ih fun z hz => hl z (List.mem_cons_of_mem _ hz), e2]
        rfl
    exact key _ fun k hk => List.mem_range.mp hk
  rw [e]
  by_cases hi : i < xs.size
  · rw [List.getElem?_map, List.getElem?_range hi, List.getElem?_reverse (by simpa using hi)]
    have : xs.size - 1 - i < xs.size := by omega
    simp [this]
  · rw [List.getElem?_eq_none (by simp; omega), List.getElem?_eq_none (by simp; omega)]
theorem rev_applied {sl : Addr} {vl vu vs : Value} {n : Nat} {Q : Int × Int × Nat → Shared → Prop} (hs : s.heap.IsSliceOf sl vl vu vs) (pl : IsPart vl none) (pu : IsPart vu none) (ps : IsPart vs (some (-1)))
    (h : Q ((n : Int) - 1, -1, n) s) : wpAny (model prog w) A (Builtin.Slice.sliceApplied (.ref sl) (pure (n : Int))) Q E s := by
  obtain ⟨os, hos, hcs, hds⟩ := id hs
  unfold Builtin.Slice.sliceApplied Builtin.Slice.sliceFields
  refine wpAny_bind (wpAny_bind (wpAny_field hos hds (x := vl) rfl ?_))
  refine wpAny_bind (wpAny_field hos hds (x := vu) rfl ?_)
  refine wpAny_bind (wpAny_field hos hds (x := vs) rfl (wpAny_pure ?_))
  refine wpAny_bind (HT.slicePart_ ps ?_)
  show wpAny _ _ (if ((-1 : Int) == 0) = true then _ else _) _ _ s
  rw [if_neg (by decide)]
  refine wpAny_bind (HT.slicePart_ pl ?_)
  refine wpAny_bind (HT.slicePart_ pu (wpAny_bind (wpAny_pure ?_)))
  show wpAny _ _ (pure ((n : Int) - 1, (-1 : Int), Builtin.Slice.slicePlaces ((n : Int) - 1) (-1) (-1))) _ _ s
  rw [rev_places]
  exact wpAny_pure h
theorem rev_tuple {t sl : Addr} {items : Array Value} {vl vu vs : Value} {Q : Value → Shared → Prop} (ht : IsTup s.heap t items) (hs : s.heap.IsSliceOf sl vl vu vs) (pl : IsPart vl none) (pu : IsPart vu none) (ps : IsPart vs (some (-1)))
    (h : Q (.ref s.heap.objs.size) { s with heap := s.heap.push { cls := .type "tuple", data := .seq items.toList.reverse.toArray } })
    (hsz : items.size ≤ sizeLine) : wpAny (model prog w) A (getItem (.ref t) (.ref sl)) Q E s := by
  have hrev : sizeOk (.seq items.toList.reverse.toArray) := by
    show items.toList.reverse.toArray.size ≤ sizeLine
    simpa using hsz
  obtain ⟨os, hos, hcs, hds⟩ := id hs
  have hT : s.TypeIs (.ref sl) "slice" := ⟨os, hos, hcs⟩
  unfold getItem
  try with_reducible refine wpAny_holding ?_
  first | refine wpAny_bind (wpAny_pure ?_) | skip
  refine wpAny_bind (wpAny_sequenceKey ht.typeIs (by decide) ?_)
  refine wpAny_bind (wpAny_callSpecial?_slot (name := Str.ofString "__getitem__") ht.typeIs PyProof.Rows.slot_tuple_getitem ?_)
  refine wpAny_call_entry PyProof.Rows.slot_tuple_getitem ht.typeIs entry_tuple_getitem ?_ (args_tuple_getitem _ _)
  show wpAny _ _ (Builtin.Tuple.tupleItemsOf (.ref t) >>= _) _ _ s
  refine wpAny_bind (tupleItemsOf_ ht ?_)
  refine wpAny_bind (wpAny_typeOf hT ?_)
  rw [if_pos (by decide)]
  refine wpAny_bind (rev_applied hs pl pu ps ?_)
  have hno : ¬ (((items.size : Int) - 1 == 0 && (-1 : Int) == 1 && items.size == items.size) = true) := by simp
  show wpAny _ _ (if ((items.size : Int) - 1 == 0 && (-1 : Int) == 1 && items.size == items.size) = true then _ else _) _ _ s
  rw [if_neg hno, rev_picked]
  first
    | exact wpAny_bind (m := Builtin.Tuple.tupleExact _) (wpAny_newObj_type (wpAny_pure ⟨_, rfl, wpAny_pure h⟩) hrev)
    | exact wpAny_bind (m := Builtin.Tuple.tupleExact _) (wpAny_newObj_type (wpAny_bind (wpAny_pure (wpAny_pure ⟨_, rfl, wpAny_pure h⟩))) hrev)
    | exact wpAny_bind (wpAny_bind (m := Builtin.Tuple.tupleExact _) (wpAny_newObj_type (wpAny_pure (wpAny_pure ⟨_, rfl, wpAny_pure h⟩)) hrev))
    | exact wpAny_bind (wpAny_bind (m := Builtin.Tuple.tupleExact _) (wpAny_newObj_type (wpAny_pure ⟨_, rfl, wpAny_pure h⟩) hrev))
end
section
variable {X : Cx}
def tRevT (K : PySem.W.Frag) (te : TE) : TE := fun σ H Q => te σ H fun x H1 => ∃ a xs, x = .ref a ∧ SqT K H1 a xs ∧ ∀ p, H1 p = none → Q (.ref p) (upd H1 p (.tup xs.reverse))
def tRevA (K : PySem.W.Frag) (te : TE) : TE := fun σ H Q => te σ H fun x H1 => (∃ a xs, x = .ref a ∧ SqL K H1 a xs ∧ ∀ p, H1 p = none → Q (.ref p) (upd H1 p (.lst xs.reverse))) ∨ ∃ a xs, x = .ref a ∧ SqT K H1 a xs ∧ ∀ p, H1 p = none → Q (.ref p) (upd H1 p (.tup xs.reverse))
theorem pe_revA {e : Expr} {te : TE} {k : Nat} {p1 p2 p3 pos : Pos} (he : PE X e te) : PE X (.Subscript e (.Slice none none (some (.UnaryOp .USub (.Constant (.int 1) k p1) p2)) p3) pos) (tRevA X.K te) := by
  refine ⟨fun pins s σ H Q I0 h0 => ?_⟩
  refine Subscript_ (thn (he.run pins s σ H _ I0 h0) fun v s1 ⟨x, H1, I1, r1, q1⟩ => ?_)
  have stp : PO X (some (.UnaryOp .USub (.Constant (.int 1) k p1) p2)) (tPart (tUn (L2.rU fun i => V.int (-i)) (tC (.int 1)))) := po_some (pe_un un_neg pe_int)
  have ex : ∃ a, x = .ref a := by
    rcases q1 with ⟨a, xs, e, _⟩ | ⟨a, xs, e, _⟩
    · exact ⟨a, e⟩
    · exact ⟨a, e⟩
  obtain ⟨a, rfl⟩ := ex
  cases r1
  refine wpAny_Slice (thn (po_none.run pins s1 σ H1 (fun o G => o = none ∧ G = H1) I1 ⟨rfl, rfl⟩) fun vl s2 ⟨l, H2, I2, pl, el, e2⟩ => ?_)
  subst el e2
  refine thn (po_none.run pins s2 σ H2 (fun o G => o = none ∧ G = H2) I2 ⟨rfl, rfl⟩) fun vu s3 ⟨u, H3, I3, pu, eu, e3⟩ => ?_
  subst eu e3
  refine thn (stp.run pins s3 σ H3 (fun o G => o = some (-1) ∧ G = H3) I3 ⟨1, rfl, -1, rfl, rfl, rfl⟩) fun vs s4 ⟨o, H4, I4, ps, eo, e4⟩ => ?_
  subst eo e4
  have I5 : Inv X pins σ H4 { s4 with heap := s4.heap.push { cls := .type "slice", data := .fields #[vl, vu, vs] } } := I4.kept (t' := s4.toks) fun b ob z => Heap.get?_push_of_some _ z
  show wpAny (model X.prog X.w) X.A (subscriptTail e (.Slice none none (some (.UnaryOp .USub (.Constant (.int 1) k p1) p2)) p3) (.ref a) (.ref s4.heap.objs.size)) (EP X pins σ Q) X.xe { s4 with heap := s4.heap.push { cls := .type "slice", data := .fields #[vl, vu, vs] } }
  rcases q1 with ⟨a', xs, e', hx, q⟩ | ⟨a', xs, e', hx, q⟩
  · cases e'
    obtain ⟨its, r, ht, hz⟩ := I5.list hx
    have hlen := r.length
    refine tail_any (ops := [.ref a, .ref s4.heap.objs.size]) ht.isList.typeIs (PySem.slot_list_getitem.lookup) ?_ (by with_unfolding_all rfl)
    refine wpAny_getItem_list_slice ht.isList (Heap.IsSliceOf.new _ vl vu vs) pl pu ps (by decide) ?_ (by rw [List.size_toArray]; omega)
    rw [PySem.W.krv_pick]
    refine ⟨.ref _, _, I5.laid (t' := s4.toks) (o := .lst xs.reverse) (fun b ob z => Heap.get?_push_of_some _ z) (Nat.le_refl _) ?_, rfl, q _ (I5.hok.fresh (Nat.le_refl _))⟩
    exact ⟨by rw [List.length_reverse]; exact hz, _, 0, r.reverse, Heap.get?_push_size _ rfl⟩
  · cases e'
    obtain ⟨its, r, ht, hz⟩ := I5.tuple hx
    have hlen := r.length
    refine tail_any (ops := [.ref a, .ref s4.heap.objs.size]) ht.typeIs (PyProof.Rows.slot_tuple_getitem.lookup) ?_ (by with_unfolding_all rfl)
    refine rev_tuple ht (Heap.IsSliceOf.new _ vl vu vs) pl pu ps ?_ (by rw [List.size_toArray]; omega)
    refine ⟨.ref _, _, I5.laid (t' := s4.toks) (o := .tup xs.reverse) (fun b ob z => Heap.get?_push_of_some _ z) (Nat.le_refl _) ?_, rfl, q _ (I5.hok.fresh (Nat.le_refl _))⟩
    exact ⟨by rw [List.length_reverse]; exact hz, _, r.reverse, ⟨_, Heap.get?_push_size _ rfl, rfl, 0, rfl⟩⟩
theorem RepL.rev {K : PySem.W.Frag} {H : Hp} {m : List Addr} : ∀ {l : List D} {vs : List V}, RepL K H m l vs → RepL K H m l.reverse vs.reverse
  | [], vs, r => by simp only [RepL] at r; subst r; rfl
  | d :: l, vs, r => by
    simp only [RepL] at r
    obtain ⟨v, t, rfl, a, b⟩ := r
    rw [List.reverse_cons, List.reverse_cons]
    exact RepL.append (RepL.rev b) (RepL.single a)
theorem e_rev {e : Expr} {f : M} {k : Nat} {p1 p2 p3 pos : Pos} (ha : EO X e f) : EO X (.Subscript e (.Slice none none (some (.UnaryOp .USub (.Constant (.int 1) k p1) p2)) p3) pos) (mUn opRev f) := by
  refine PE.weak (pe_revA ha) ?_
  rintro s H Q ⟨m, A, L, d, A', hr, lr, e, post⟩
  obtain ⟨x, A1, e1, e⟩ := R.bind_eq_ok e
  refine ⟨m, A, L, x, A1, hr, lr, e1, fun m1 v H1 p1 k1 hr1 r1 => ?_⟩
  unfold opRev at e
  split at e
  · cases e
    obtain ⟨p, vs, rfl, tp, rp⟩ := rep_tup r1
    exact .inr ⟨p, vs, rfl, tp.sq, PostD.newT (post.later p1 k1) hr1 (RepL.rev rp)⟩
  · split at e
    · cases e
      rename_i hl
      obtain ⟨a, vs, rfl, _, ha, rp⟩ := hr1.lst hl r1
      exact .inl ⟨a, vs, rfl, SqL.of ha, PostD.newL (post.later p1 k1) hr1 (RepL.rev rp)⟩
    · cases e
  · cases e
theorem e_upper {o : Expr} {fo : M} {apos cpos : Pos} (hb : plainBase o = true) (hl : (apos.endLine == cpos.line) = true) (ho : EO X o fo) : EO X (.Call (.Attribute o "upper" apos) [] [] cpos) (mUn opUpper fo) := by
  refine PE.weak (pe_upper ho (base_of hb) hl) ?_
  rintro s H Q ⟨m, A, L, d, A', hr, lr, e, post⟩
  obtain ⟨x, A1, e1, e⟩ := R.bind_eq_ok e
  refine ⟨m, A, L, x, A1, hr, lr, e1, fun m1 v H1 p1 k1 hr1 r1 => ?_⟩
  unfold opUpper at e
  split at e
  · split at e
    · rename_i hz
      cases e
      simp only [Rep] at r1; subst r1
      exact ⟨⟨_, rfl⟩, _, rfl, rfl, hz, (post.later p1 k1).now hr1 rfl⟩
    · cases e
  · cases e
end
end Rf
namespace Rf
open PySem PySem.Spec PyProof.Rows L2
/-- a zip that is strict -/
abbrev IsZipS (h : Heap) (z TI TO : Addr) (f0 : Value) : Prop :=
  h.get? z = some { cls := .type "zip", dict := none, data := .fields #[f0, .bool false, .bool true, .ref TI, .ref TO], slots := #[] }
section
variable {prog : Program} {w : World} {A : Around} {E : Value → Shared → Prop} {s : Shared}
theorem orEnd_item {it l : Addr} {i : Nat} {items} {x : Value} {Q : Option Value → Shared → Prop} (hit : s.heap.IsTupleIter it l i)
    (hl : s.heap.IsTuple l items) (hx : items[i]? = some x)
    (hQ : ∀ h', h'.IsTupleIter it l (i + 1) → Heap.SameBut it s.heap h' → Q (some x) { s with heap := h' }) :
    wpAny (model prog w) A (Builtin.SmallTypes.nextOrEnd (.ref it)) Q E s := by
  unfold Builtin.SmallTypes.nextOrEnd
  exact wpAny_bind (wpAny_attempt (RZ.nextOf_tuple_item hit hl hx fun h' a b => wpAny_pure (hQ h' a b)))
theorem orEnd_end {it l : Addr} {i : Nat} {items} {Q : Option Value → Shared → Prop} (hh : A.handled = none) (hit : s.heap.IsTupleIter it l i)
    (hl : s.heap.IsTuple l items) (hx : items[i]? = none)
    (hQ : ∀ h', Heap.ExtBut it s.heap h' → Q none { s with heap := h' }) :
    wpAny (model prog w) A (Builtin.SmallTypes.nextOrEnd (.ref it)) Q E s := by
  unfold Builtin.SmallTypes.nextOrEnd
  refine wpAny_bind (wpAny_attempt (RZ.nextOf_tuple_end hh hit hl hx fun h' e hb he => ?_))
  obtain ⟨o, ho, hc⟩ := he
  refine wpAny_bind (wpAny_isInstance (T := "StopIteration") (b := true) ⟨o, ho, hc⟩ isSubtype_stop ?_)
  exact wpAny_pure (hQ h' hb)
theorem zipS_item {z TI TO i1 i2 l1 l2 : Addr} {k1 k2 : Nat} {xs ys : Array Value} {x y a b : Value} {Q : Value → Shared → Prop} (D : ZipApart z TI TO i1 i2 l1 l2)
    (hz : IsZipS s.heap z TI TO .none) (hTI : PySem.IsPair s.heap TI (.ref i1) (.ref i2)) (hTO : PySem.IsPair s.heap TO a b)
    (h1 : s.heap.IsTupleIter i1 l1 k1) (h2 : s.heap.IsTupleIter i2 l2 k2) (hl1 : s.heap.IsTuple l1 xs) (hl2 : s.heap.IsTuple l2 ys) (hx : xs[k1]? = some x) (hy : ys[k2]? = some y)
    (hQ : ∀ h', IsZipS h' z TI TO (rawInt s.heap.objs.size) → PySem.IsPair h' TO x y → h'.IsTupleIter i1 l1 (k1 + 1) → h'.IsTupleIter i2 l2 (k2 + 1) → PySem.IsPair h' s.heap.objs.size x y → h'.objs.size = s.heap.objs.size + 1 →
      (∀ c o, c ≠ z → c ≠ TO → c ≠ i1 → c ≠ i2 → s.heap.get? c = some o → h'.get? c = some o) → Q (.ref s.heap.objs.size) { s with heap := h' }) :
    wpAny (model prog w) A (Builtin.«zip.__next__» ⟨[.ref z], []⟩) (fun fin s' => ∃ v, fin = .done (.ret v) ∧ Q v s') E s := by
  show wpAny _ _ (field (.ref z) 2 >>= _) _ _ _
  refine wpAny_bind (wpAny_field hz rfl (x := .bool true) rfl ?_)
  show wpAny _ _ (field (.ref z) 3 >>= _) _ _ _
  refine wpAny_bind (wpAny_field hz rfl (x := .ref TI) rfl ?_)
  refine wpAny_bind (wpAny_seqItems hTI rfl ?_)
  show wpAny _ _ (Builtin.SmallTypes.ownedTupleIsFree (.ref z) >>= _) _ _ _
  refine wpAny_bind ?_
  unfold Builtin.SmallTypes.ownedTupleIsFree
  refine wpAny_bind (wpAny_field hz rfl (x := .none) rfl (wpAny_pure ?_))
  simp only [if_true]
  refine wpAny_bind (wpAny_rule ?_)
  refine wpAny_bind (wpAny_field hz rfl (x := .ref TO) rfl ?_)
  refine wpAny_bind (wpAny_setField_rec hz (by simp) fun g1 hz1 hs1 => ?_)
  replace hz1 : IsZipS g1 z TI TO .ellipsis := hz1
  refine wpAny_bind ?_
  simp only [List.zipIdx_cons, List.zipIdx_nil, List.forIn_cons, List.forIn_nil]
  refine wpAny_bind (wpAny_bind (wpAny_onRaise ?_))
  show wpAny _ _ (Builtin.SmallTypes.nextOrEnd (.ref i1)) _ _ _
  refine orEnd_item (h1.extBut hs1.extBut D.i1z) (hl1.extBut hs1.extBut D.l1z) hx fun g2 h12 hs2 => ?_
  have hTO2 : PySem.IsPair g2 TO a b := hs2.extBut _ _ D.TOi1 (hs1.extBut _ _ D.TOz hTO)
  refine wpAny_bind (wpAny_seqItems hTO2 rfl ?_)
  refine wpAny_bind (wpAny_updateSeq_pair hTO2 fun g3 hTO3 hs3 => ?_)
  replace hTO3 : PySem.IsPair g3 TO x b := hTO3
  refine wpAny_bind (wpAny_letGo (wpAny_pure ?_))
  refine wpAny_bind (wpAny_bind (wpAny_onRaise ?_))
  show wpAny _ _ (Builtin.SmallTypes.nextOrEnd (.ref i2)) _ _ _
  refine orEnd_item (((h2.extBut hs1.extBut D.i2z).extBut hs2.extBut D.i12.symm).extBut hs3.extBut D.TOi2.symm)
    (((hl2.extBut hs1.extBut D.l2z).extBut hs2.extBut D.l2i1).extBut hs3.extBut D.l2TO) hy fun g4 h24 hs4 => ?_
  have hTO4 : PySem.IsPair g4 TO x b := hs4.extBut _ _ D.TOi2 hTO3
  refine wpAny_bind (wpAny_seqItems hTO4 rfl ?_)
  refine wpAny_bind (wpAny_updateSeq_pair hTO4 fun g5 hTO5 hs5 => ?_)
  replace hTO5 : PySem.IsPair g5 TO x y := hTO5
  refine wpAny_bind (wpAny_letGo (wpAny_pure (wpAny_pure ?_)))
  refine wpAny_bind (wpAny_seqItems hTO5 rfl ?_)
  refine wpAny_bind (wpAny_newTuple ?_)
  have hsz : g5.objs.size = s.heap.objs.size := by rw [hs5.1, hs4.1, hs3.1, hs2.1, hs1.1]
  have hz5 : IsZipS g5 z TI TO .ellipsis := hs5.extBut _ _ D.TOz.symm (hs4.extBut _ _ D.i2z.symm (hs3.extBut _ _ D.TOz.symm (hs2.extBut _ _ D.i1z.symm hz1)))
  have hk5 : ∀ c o, c ≠ z → c ≠ TO → c ≠ i1 → c ≠ i2 → s.heap.get? c = some o → g5.get? c = some o := fun c o c1 c2 c3 c4 e =>
    hs5.extBut _ _ c2 (hs4.extBut _ _ c4 (hs3.extBut _ _ c2 (hs2.extBut _ _ c3 (hs1.extBut _ _ c1 e))))
  have h15 : g5.IsTupleIter i1 l1 (k1 + 1) := ((h12.extBut hs3.extBut D.TOi1.symm).extBut hs4.extBut D.i12).extBut hs5.extBut D.TOi1.symm
  have h25 : g5.IsTupleIter i2 l2 (k2 + 1) := h24.extBut hs5.extBut D.TOi2.symm
  have hzlt : z < g5.objs.size := Heap.lt_size hz5
  show wpAny _ _ (Builtin.SmallTypes.ownedTupleHandOut (.ref z) (.ref g5.objs.size) >>= _) _ _ _
  refine wpAny_bind ?_
  unfold Builtin.SmallTypes.ownedTupleHandOut
  have hz6 : IsZipS (g5.push { cls := .type "tuple", data := .seq #[x, y] }) z TI TO .ellipsis := Heap.get?_push_of_some _ hz5
  refine wpAny_bind (wpAny_setField_rec hz6 (by simp) fun g7 hz7 hs7 => ?_)
  replace hz7 : IsZipS g7 z TI TO (rawInt g5.objs.size) := hz7
  refine wpAny_setField_rec hz7 (by simp) fun g8 hz8 hs8 => ?_
  replace hz8 : IsZipS g8 z TI TO (rawInt g5.objs.size) := hz8
  have up : ∀ c o, c ≠ z → g5.get? c = some o → g8.get? c = some o := fun c o c1 e => hs8.extBut _ _ c1 (hs7.extBut _ _ c1 (Heap.get?_push_of_some _ e))
  have hT8 : PySem.IsPair g8 g5.objs.size x y := hs8.extBut _ _ (Nat.ne_of_gt hzlt) (hs7.extBut _ _ (Nat.ne_of_gt hzlt) (Heap.get?_push_size _ rfl))
  have sz8 : g8.objs.size = g5.objs.size + 1 := by rw [hs8.1, hs7.1, Heap.size_push]
  rw [hsz] at hz8 hT8 sz8
  refine wpAny_pure ⟨_, rfl, ?_⟩
  show Q (.ref g5.objs.size) _
  rw [hsz]
  exact hQ g8 hz8 (up _ _ D.TOz hTO5) (h15.at fun o e => up _ o D.i1z e) (h25.at fun o e => up _ o D.i2z e) hT8 sz8 fun c o c1 c2 c3 c4 e => up c o c1 (hk5 c o c1 c2 c3 c4 e)
theorem stop_here {Q : Fin → Shared → Prop} (hh : A.handled = none) (hE : ∀ h' e, (∀ c o, s.heap.get? c = some o → h'.get? c = some o) → (∃ o, h'.get? e = some o ∧ o.cls = .type "StopIteration") → E (.ref e) { s with heap := h' }) :
    wpAny (model prog w) A (Builtin.SmallTypes.stopIteration) Q E s := by
  unfold Builtin.SmallTypes.stopIteration
  refine wpAny_bind ?_
  simp only [newExc, newTuple]
  refine wpAny_bind (wpAny_newObj_type ?_ (by size_fits))
  refine wpAny_bind (m := firstArgMember _ _) (wpAny_of_eq (a := Value.none) (by first | rfl | (simp only [firstArgMember]; rfl)) ?_)
  refine wpAny_newObj_type ?_ (by size_fits)
  simp only [raiseNew]
  refine wpAny_bind (wpAny_handled ?_)
  rw [hh]
  refine wpAny_bind (wpAny_pure (wpAny_throw ?_))
  exact hE _ _ (fun c o e => Heap.get?_push_of_some _ (Heap.get?_push_of_some _ e)) ⟨_, Heap.get?_push_size _ rfl, rfl⟩
theorem zipS_end {z TI TO i1 i2 l1 l2 : Addr} {k1 k2 : Nat} {xs ys : Array Value} {a b : Value} {Q : Fin → Shared → Prop} (hh : A.handled = none) (D : ZipApart z TI TO i1 i2 l1 l2)
    (hz : IsZipS s.heap z TI TO .none) (hTI : PySem.IsPair s.heap TI (.ref i1) (.ref i2)) (hTO : PySem.IsPair s.heap TO a b)
    (h1 : s.heap.IsTupleIter i1 l1 k1) (h2 : s.heap.IsTupleIter i2 l2 k2) (hl1 : s.heap.IsTuple l1 xs) (hl2 : s.heap.IsTuple l2 ys) (hx : xs[k1]? = none) (hy : ys[k2]? = none)
    (hE : ∀ h' e, (∀ c o, c ≠ z → c ≠ TO → c ≠ i1 → c ≠ i2 → s.heap.get? c = some o → h'.get? c = some o) → (∃ o, h'.get? e = some o ∧ o.cls = .type "StopIteration") → E (.ref e) { s with heap := h' }) :
    wpAny (model prog w) A (Builtin.«zip.__next__» ⟨[.ref z], []⟩) Q E s := by
  show wpAny _ _ (field (.ref z) 2 >>= _) _ _ _
  refine wpAny_bind (wpAny_field hz rfl (x := .bool true) rfl ?_)
  show wpAny _ _ (field (.ref z) 3 >>= _) _ _ _
  refine wpAny_bind (wpAny_field hz rfl (x := .ref TI) rfl ?_)
  refine wpAny_bind (wpAny_seqItems hTI rfl ?_)
  show wpAny _ _ (Builtin.SmallTypes.ownedTupleIsFree (.ref z) >>= _) _ _ _
  refine wpAny_bind ?_
  unfold Builtin.SmallTypes.ownedTupleIsFree
  refine wpAny_bind (wpAny_field hz rfl (x := .none) rfl (wpAny_pure ?_))
  simp only [if_true]
  refine wpAny_bind (wpAny_rule ?_)
  refine wpAny_bind (wpAny_field hz rfl (x := .ref TO) rfl ?_)
  refine wpAny_bind (wpAny_setField_rec hz (by simp) fun g1 hz1 hs1 => ?_)
  replace hz1 : IsZipS g1 z TI TO .ellipsis := hz1
  refine wpAny_bind ?_
  simp only [List.zipIdx_cons, List.zipIdx_nil, List.forIn_cons, List.forIn_nil]
  refine wpAny_bind (wpAny_bind (wpAny_onRaise ?_))
  show wpAny _ _ (Builtin.SmallTypes.nextOrEnd (.ref i1)) _ _ _
  refine orEnd_end hh (h1.extBut hs1.extBut D.i1z) (hl1.extBut hs1.extBut D.l1z) hx fun g2 hs2 => ?_
  have hz2 : IsZipS g2 z TI TO .ellipsis := hs2 _ _ D.i1z.symm hz1
  refine wpAny_bind (wpAny_setField_rec hz2 (by simp) fun g3 hz3 hs3 => ?_)
  refine wpAny_bind ?_
  show wpAny _ _ (forIn ([(Value.ref i2, 1)] : List (Value × Nat)) PUnit.unit _ >>= _) _ _ _
  refine wpAny_bind ?_
  simp only [List.forIn_cons, List.forIn_nil]
  refine wpAny_bind (wpAny_bind ?_)
  have h2' : g3.IsTupleIter i2 l2 k2 := ((h2.extBut hs1.extBut D.i2z).extBut hs2 D.i12.symm).extBut hs3.extBut D.i2z
  have hl2' : g3.IsTuple l2 ys := ((hl2.extBut hs1.extBut D.l2z).extBut hs2 D.l2i1).extBut hs3.extBut D.l2z
  refine orEnd_end hh h2' hl2' hy fun g4 hs4 => ?_
  rw [if_neg (by simp)]
  refine wpAny_pure (wpAny_pure (wpAny_bind (wpAny_rule ?_)))
  refine stop_here hh fun h' e hk he => ?_
  exact hE h' e (fun c o c1 c2 c3 c4 hc => hk c o (hs4 _ _ c4 (hs3.extBut _ _ c1 (hs2 _ _ c3 (hs1.extBut _ _ c1 hc))))) he
theorem nextS_item {z TI TO i1 i2 l1 l2 : Addr} {k1 k2 : Nat} {xs ys : Array Value} {x y a b : Value} {Q : Option Value → Shared → Prop} (D : ZipApart z TI TO i1 i2 l1 l2)
    (hz : IsZipS s.heap z TI TO .none) (hTI : PySem.IsPair s.heap TI (.ref i1) (.ref i2)) (hTO : PySem.IsPair s.heap TO a b)
    (h1 : s.heap.IsTupleIter i1 l1 k1) (h2 : s.heap.IsTupleIter i2 l2 k2) (hl1 : s.heap.IsTuple l1 xs) (hl2 : s.heap.IsTuple l2 ys) (hx : xs[k1]? = some x) (hy : ys[k2]? = some y)
    (hQ : ∀ h', IsZipS h' z TI TO (rawInt s.heap.objs.size) → PySem.IsPair h' TO x y → h'.IsTupleIter i1 l1 (k1 + 1) → h'.IsTupleIter i2 l2 (k2 + 1) → PySem.IsPair h' s.heap.objs.size x y → h'.objs.size = s.heap.objs.size + 1 →
      (∀ c o, c ≠ z → c ≠ TO → c ≠ i1 → c ≠ i2 → s.heap.get? c = some o → h'.get? c = some o) → Q (some (.ref s.heap.objs.size)) { s with heap := h' }) :
    wpAny (model prog w) A (pyNext (.ref z)) Q E s := by
  have hT : s.TypeIs (.ref z) "zip" := ⟨_, hz, rfl⟩
  unfold pyNext
  exact wpAny_bind (wpAny_attempt (wpAny_callSpecial?_slot (name := Str.ofString "__next__") hT F.slot_zip_next
    (wpAny_call_entry F.slot_zip_next hT F.entry_zip_next
      (zipS_item D hz hTI hTO h1 h2 hl1 hl2 hx hy fun h' a1 a2 a3 a4 a5 a6 a7 => wpAny_pure (hQ h' a1 a2 a3 a4 a5 a6 a7)) (F.args_zip_next_1 _))))
theorem nextS_end {z TI TO i1 i2 l1 l2 : Addr} {k1 k2 : Nat} {xs ys : Array Value} {a b : Value} {Q : Option Value → Shared → Prop} (hh : A.handled = none) (D : ZipApart z TI TO i1 i2 l1 l2)
    (hz : IsZipS s.heap z TI TO .none) (hTI : PySem.IsPair s.heap TI (.ref i1) (.ref i2)) (hTO : PySem.IsPair s.heap TO a b)
    (h1 : s.heap.IsTupleIter i1 l1 k1) (h2 : s.heap.IsTupleIter i2 l2 k2) (hl1 : s.heap.IsTuple l1 xs) (hl2 : s.heap.IsTuple l2 ys) (hx : xs[k1]? = none) (hy : ys[k2]? = none)
    (hQ : ∀ h', (∀ c o, c ≠ z → c ≠ TO → c ≠ i1 → c ≠ i2 → s.heap.get? c = some o → h'.get? c = some o) → Q none { s with heap := h' }) : wpAny (model prog w) A (pyNext (.ref z)) Q E s := by
  have hT : s.TypeIs (.ref z) "zip" := ⟨_, hz, rfl⟩
  unfold pyNext
  refine wpAny_bind (wpAny_attempt (wpAny_callSpecial?_slot (name := Str.ofString "__next__") hT F.slot_zip_next
    (wpAny_call_entry F.slot_zip_next hT F.entry_zip_next (zipS_end hh D hz hTI hTO h1 h2 hl1 hl2 hx hy fun h' e hk he => ?_) (F.args_zip_next_1 _))))
  obtain ⟨o, ho, hc⟩ := he
  refine wpAny_bind (wpAny_isInstance (T := "StopIteration") (b := true) ⟨o, ho, hc⟩ isSubtype_stop ?_)
  exact wpAny_pure (hQ _ hk)
theorem goS {elts : List Expr} {x1} {pos : Pos} {z TI TO T : Addr} {Q : Unit → Shared → Prop} (hz : IsZipS s.heap z TI TO (rawInt T))
    (hQ : ∀ h', IsZipS h' z TI TO .none → Heap.SameBut z s.heap h' → Q () { s with heap := h' }) :
    wpAny (model prog w) A (letOwnedTupleGo (.Tuple elts x1 pos) (.ref z) (.ref T)) Q E s := by
  unfold letOwnedTupleGo
  refine wpAny_bind (wpAny_load hz ?_)
  show wpAny _ _ (if (["enumerate", "zip", "dict_itemiterator", "dict_reverseitemiterator", "odict_iterator", "itertools.zip_longest", "itertools.pairwise"].contains "zip" &&
      (#[rawInt T, .bool false, .bool true, .ref TI, .ref TO] : Array Value)[0]? == some (rawInt T)) = true then _ else _) Q E s
  rw [if_pos (by simp)]
  refine wpAny_bind (wpAny_rule ?_)
  show wpAny _ _ (setField (.ref z) 0 .none) Q E s
  exact wpAny_setField_rec hz (by simp) fun h' hz' hs' => hQ h' hz' hs'
theorem iterS {z TI TO : Addr} {f0 : Value} {Q : Value → Shared → Prop} (hz : IsZipS s.heap z TI TO f0) (h : Q (.ref z) s) : wpAny (model prog w) A (pyIter (.ref z)) Q E s := by
  have hT : s.TypeIs (.ref z) "zip" := ⟨_, hz, rfl⟩
  refine wpAny_pyIter_slot hT F.slot_zip_iter (wpAny_call_entry F.slot_zip_iter hT F.entry_zip_iter ?_ (F.args_zip_iter_1 _))
  show wpAny _ _ (ret (.ref z)) _ _ s
  exact wpAny_pure ⟨_, rfl, "zip", _, hT, F.slot_zip_next.lookup, h⟩
end
end Rf
namespace Rf
open PySem PySem.Spec PyProof.Rows L2
section
variable {prog : Program} {w : World} {A : Around} {E : Value → Shared → Prop} {s : Shared}
/-- the keyword strict=True -/
abbrev kwS : List (Str × Value) := [(Str.ofString "strict", .bool true)]
theorem typeCall_zipS (a b : Value) : checkTypeCall "zip" ⟨[a, b], kwS⟩ = pure () := by kernel_rfl
theorem newCall_zipS (a b : Value) : checkBuiltinCall "zip.__new__" ⟨[.type "zip", a, b], kwS⟩ = pure () := by kernel_rfl
theorem args_initS (a b c : Value) : argsOk "object.__init__" ⟨[a, b, c], kwS⟩ := by
  unfold argsOk; rw [signature?_of (id := "object.__init__") (n := ['_', '_', 't', 'i', 'n', 'i', '_', '_']) (o := ['t', 'c', 'e', 'j', 'b', 'o']) (by kernel_rfl) F.owner_object]; kernel_rfl
theorem callType_K {T newId initId : String} {Bn Bi : Builtin} {args : List Value} {kw : List (Str × Value)} {S : PySem.Spec} {Q Q₁ : Value → Shared → Prop} (ft : TypeCalled T newId initId)
    (hct : checkTypeCall T ⟨args, kw⟩ = pure ()) (hcn : checkBuiltinCall newId ⟨.type T :: args, kw⟩ = pure ())
    (entryN : entryFor table newId = some Bn) (entryI : entryFor table initId = some Bi) (g : Meets (Bn ⟨.type T :: args, kw⟩) S)
    (h : S A.in1 (wants Q₁ E) s)
    (hnext : ∀ obj s₁, Q₁ obj s₁ → s₁.TypeIs obj T ∧ argsOk initId ⟨obj :: args, kw⟩ ∧ ∃ Si, Meets (Bi ⟨obj :: args, kw⟩) Si ∧ Si A.in1 (wants (fun r s₂ => r = .none ∧ Q obj s₂) E) s₁) :
    wpAny (model prog w) A (call (.type T) args kw) Q E s := by
  obtain ⟨c, tl, hmro⟩ := ft.mro
  have hmade := ft.made
  have hsub := ft.sub
  refine wpAny_call (codeAny_of_tree ?_)
  show wpAny _ _ (callAny (.type T) _) _ _ _
  refine wpAny_pure ⟨Code.quiet_builtin _ (by decide +kernel), codeAny_builtin F.entry_type_call ?_⟩
  rw [Around.under_plain (weight_type_call_type T args kw) (units_type_call_type T args kw)]
  have h1 := ft.notType
  have h2 := ft.canCreate
  repeat (any_goals (first | assumption | wp_step))
  refine codeAny_mono (codeAny_call_builtin ft.plain entryN (wpAny_of_eq hcn (g prog w A.in1 _ s h))) fun r s₁ hr => ?_
  cases r with
  | error e => exact hr
  | ok fl =>
    cases fl with
    | ret obj =>
      obtain ⟨hT, hok, Si, gi, hsi⟩ := hnext _ _ hr
      have hli := ft.init.lookup
      have hbi := ft.init.bind obj
      repeat (any_goals (first | assumption | wp_step))
      refine codeAny_mono (codeAny_call_builtin ft.init.plain entryI (ft.init.check _ _ _ _ _ _ _ _ hT hok (gi prog w A.in1 _ s₁ hsi))) fun r₂ s₂ hr₂ => ?_
      cases r₂ with
      | error e => exact hr₂
      | ok fl₂ =>
        cases fl₂ with
        | ret r =>
          obtain ⟨rfl, hq⟩ := hr₂
          repeat (any_goals (first | assumption | wp_step))
        | _ => exact hr₂.elim
    | _ => exact hr.elim
theorem init_K {T newId : String} {self a : Value} {rest : List Value} {kw : List (Str × Value)} (hl : typeLookup (.type T) "__init__" = pure (some (.builtin "object.__init__")))
    (hm : Bind.madeBy (.type T) = pure (some newId)) (hne : (some newId != some "object.__new__") = true) :
    Meets (Builtin.«object.__init__» ⟨self :: a :: rest, kw⟩) (fun _ R s => s.TypeIs self T ∧ R (.ok (.ret .none)) s) := by
  refine Meets.of_wp fun prog w A R s hs => ?_
  obtain ⟨hT, hq⟩ := hs
  repeat (any_goals (first | assumption | wp_step))
  exact ⟨_, rfl, hq⟩
abbrev zipSH5 (h : Heap) (l1 l2 : Addr) : Heap := (RZ.zipTH4 h l1 l2).push { cls := .type "zip", data := .fields #[.none, .bool false, .bool true, .ref (RZ.zipTH2 h l1 l2).objs.size, .ref (RZ.zipTH3 h l1 l2).objs.size] }
theorem meets_zipS_new (l1 l2 : Addr) (xs ys : Array Value) :
    Meets (Builtin.«zip.__new__» ⟨[.type "zip", .ref l1, .ref l2], kwS⟩) (fun _ R s => s.heap.IsTuple l1 xs ∧ s.heap.IsTuple l2 ys ∧
      R (.ok (.ret (.ref (RZ.zipTH4 s.heap l1 l2).objs.size))) { s with heap := zipSH5 s.heap l1 l2 }) :=
  .of_wp fun prog w A R s h => by
    obtain ⟨hp, g, d, tk, os⟩ := s; obtain ⟨hl1, hl2, h⟩ := h
    have hsub := sub_zip
    have hL1 : Heap.IsTuple (Shared.heap ⟨hp, g, d, tk, os⟩) l1 xs := hl1
    have hL2 : Heap.IsTuple (Shared.heap ⟨hp.push { cls := .type "tuple_iterator", data := .fields #[.ref l1, .int 0 0] }, g, d, tk, os⟩) l2 ys := Heap.IsTuple.push hl2 _
    wp_walk using wpAny_pyIter_tuple hL1, wpAny_pyIter_tuple hL2
    exact ⟨_, rfl, h⟩
theorem call_zipS {l1 l2 : Addr} {xs ys : Array Value} {Q : Value → Shared → Prop} (hl1 : s.heap.IsTuple l1 xs) (hl2 : s.heap.IsTuple l2 ys)
    (h : ∀ h', IsZipS h' (s.heap.objs.size + 4) (s.heap.objs.size + 2) (s.heap.objs.size + 3) .none → PySem.IsPair h' (s.heap.objs.size + 2) (.ref s.heap.objs.size) (.ref (s.heap.objs.size + 1)) →
      PySem.IsPair h' (s.heap.objs.size + 3) .none .none → h'.IsTupleIter s.heap.objs.size l1 0 → h'.IsTupleIter (s.heap.objs.size + 1) l2 0 → h'.objs.size = s.heap.objs.size + 5 →
      (∀ c o, s.heap.get? c = some o → h'.get? c = some o) → Q (.ref (s.heap.objs.size + 4)) { s with heap := h' }) :
    wpAny (model prog w) A (call (.type "zip") [.ref l1, .ref l2] kwS) Q E s := by
  refine callType_K (Q₁ := fun obj s₁ => s₁.TypeIs obj "zip" ∧ Q obj s₁) F.called_zip (typeCall_zipS _ _) (newCall_zipS _ _) F.entry_zip_new F.entry_object_init
    (meets_zipS_new l1 l2 xs ys) ⟨hl1, hl2, ?_⟩ fun obj s1 hq => ⟨hq.1, args_initS obj _ _, _, init_K F.called_zip.init.lookup F.called_zip.made (by decide), hq.1, rfl, hq.2⟩
  have z1 : (RZ.zipTH1 s.heap l1).objs.size = s.heap.objs.size + 1 := Heap.size_push ..
  have z2 : (RZ.zipTH2 s.heap l1 l2).objs.size = s.heap.objs.size + 2 := by rw [Heap.size_push, z1]
  have z3 : (RZ.zipTH3 s.heap l1 l2).objs.size = s.heap.objs.size + 3 := by rw [Heap.size_push, z2]
  have z4 : (RZ.zipTH4 s.heap l1 l2).objs.size = s.heap.objs.size + 4 := by rw [Heap.size_push, z3]
  have z5 : (zipSH5 s.heap l1 l2).objs.size = s.heap.objs.size + 5 := by rw [Heap.size_push, z4]
  have g5 : (zipSH5 s.heap l1 l2).get? (RZ.zipTH4 s.heap l1 l2).objs.size = some _ := Heap.get?_push_size _ rfl
  have g4 : (zipSH5 s.heap l1 l2).get? (RZ.zipTH3 s.heap l1 l2).objs.size = some _ := Heap.get?_push_of_some _ (Heap.get?_push_size _ rfl)
  have g3 : (zipSH5 s.heap l1 l2).get? (RZ.zipTH2 s.heap l1 l2).objs.size = some _ := Heap.get?_push_of_some _ (Heap.get?_push_of_some _ (Heap.get?_push_size _ rfl))
  have g2 : (zipSH5 s.heap l1 l2).get? (RZ.zipTH1 s.heap l1).objs.size = some _ := Heap.get?_push_of_some _ (Heap.get?_push_of_some _ (Heap.get?_push_of_some _ (Heap.get?_push_size _ rfl)))
  have g1 : (zipSH5 s.heap l1 l2).get? s.heap.objs.size = some _ := Heap.get?_push_of_some _ (Heap.get?_push_of_some _ (Heap.get?_push_of_some _ (Heap.get?_push_of_some _ (Heap.get?_push_size _ rfl))))
  show _ ∧ _
  rw [z2, z3, z4] at g5
  rw [z1, z2] at g3
  rw [z3] at g4
  rw [z1] at g2
  rw [z4]
  exact ⟨⟨_, g5, rfl⟩, h _ g5 g3 g4 ⟨_, g1, rfl, rfl⟩ ⟨_, g2, rfl, rfl⟩ z5 fun c o x =>
    Heap.get?_push_of_some _ (Heap.get?_push_of_some _ (Heap.get?_push_of_some _ (Heap.get?_push_of_some _ (Heap.get?_push_of_some _ x))))⟩
end
end Rf
namespace Rf
open PySem PySem.Spec PyProof.Rows L2
/-- the walk J yields what the source has -/
structure Wk (K : PySem.W.Frag) (J : It) (src : Src) (H0 : Hp) (m0 : List Addr) : Prop where
  go : ∀ (i : Nat) (H : Hp) (m : List Addr) (A : Hpp), m0 <+: m → Keep H0 H → HR K H m A → src.still A = true → i < src.items.length → J.go i H
  stop : ∀ (H : Hp) (m : List Addr) (A : Hpp), m0 <+: m → Keep H0 H → HR K H m A → src.still A = true → J.stop src.items.length H
  yld : ∀ (i : Nat) (H : Hp) (m : List Addr) (A : Hpp) (x : V) (H' : Hp) (d : D), m0 <+: m → Keep H0 H → HR K H m A → src.still A = true → src.items[i]? = some d → J.yld i H x H' → HR K H' m A ∧ Keep H H' ∧ Rep K H' m d x
theorem Wk.later {K : PySem.W.Frag} {J : It} {src : Src} {H0 H1 : Hp} {m0 m1 : List Addr} (w : Wk K J src H0 m0) (p : m0 <+: m1) (k : Keep H0 H1) : Wk K J src H1 m1 where
  go := fun i H m A p' k' => w.go i H m A (p.trans p') (k.trans k')
  stop := fun H m A p' k' => w.stop H m A (p.trans p') (k.trans k')
  yld := fun i H m A x H' d p' k' => w.yld i H m A x H' d (p.trans p') (k.trans k')
def tI (K : PySem.W.Frag) (f : MS) : TI := fun s H R => ∃ (m : List Addr) (A : Hpp) (L : Loc) (src : Src) (A' : Hpp), HR K H m A ∧ LR K H m L s ∧ f L A = .ok src A' ∧
  ∀ (m' : List Addr) (H' : Hp) (J : It), m <+: m' → Keep H H' → HR K H' m' A' → Wk K J src H' m' → R J H'
abbrev IO' (X : Cx) (tg e : Expr) (f : MS) : Prop := PI X tg e (tI X.K f)
theorem wk_list {K : PySem.W.Frag} {H0 : Hp} {m0 : List Addr} {n : Nat} {l : List D} {a : Addr} (hm : m0[n]? = some a) : Wk K (Itl K a) (.lst n l) H0 m0 := by
  have get : ∀ (H : Hp) (m : List Addr) (A : Hpp), m0 <+: m → HR K H m A → Src.still A (.lst n l) = true → ∃ vs, SqL K H a vs ∧ RepL K H m l vs := fun H m A p hr st => by
    simp only [Src.still, decide_eq_true_eq] at st
    have hm' := Pre.get p hm
    rcases st with st | st
    · obtain ⟨vs, e, r⟩ := hr.at_ n a _ hm' st
      exact ⟨vs, SqL.of e, r⟩
    · obtain ⟨vs, e, r⟩ := hr.at_ n a _ hm' st
      exact ⟨vs, e.sq, r⟩
  refine ⟨fun i H m A p _ hr st hi => ?_, fun H m A p _ hr st => ?_, fun i H m A x H' d p _ hr st hd y => ?_⟩
  · obtain ⟨vs, sq, r⟩ := get H m A p hr st
    have hi' : i < vs.length := by rw [r.length]; exact hi
    exact ⟨vs, vs[i], sq, List.getElem?_eq_getElem hi'⟩
  · obtain ⟨vs, sq, r⟩ := get H m A p hr st
    exact ⟨vs, sq, by rw [r.length]; exact Nat.le_refl _⟩
  · obtain ⟨vs, sq, r⟩ := get H m A p hr st
    obtain ⟨rfl, y⟩ := y
    obtain ⟨v, h1, h2⟩ := r.get hd
    have := y vs sq
    rw [h1] at this
    cases this
    exact ⟨hr, Keep.refl _, h2⟩
theorem wk_tup {K : PySem.W.Frag} {H0 : Hp} {m0 : List Addr} {l : List D} {a : Addr} {vs : List V} (ht : TupAt K H0 a vs) (r0 : RepL K H0 m0 l vs) : Wk K (Itt K a) (.its l) H0 m0 := by
  refine ⟨fun i H m A p k hr st hi => ?_, fun H m A p k hr st => ?_, fun i H m A x H' d p k hr st hd y => ?_⟩
  · have hi' : i < vs.length := by rw [r0.length]; exact hi
    exact ⟨vs, vs[i], (ht.mono k).sq, List.getElem?_eq_getElem hi'⟩
  · exact ⟨vs, (ht.mono k).sq, by rw [r0.length]; exact Nat.le_refl _⟩
  · obtain ⟨rfl, y⟩ := y
    obtain ⟨v, h1, h2⟩ := (RepL.mono k p _ _ r0).get hd
    have := y vs (ht.mono k).sq
    rw [h1] at this
    cases this
    exact ⟨hr, Keep.refl _, h2⟩
theorem wk_str {K : PySem.W.Frag} {H0 : Hp} {m0 : List Addr} {z : Str} : Wk K (Its z) (.its (z.cps.toList.map fun c => .str ⟨#[c]⟩)) H0 m0 := by
  refine ⟨fun i H m A p k hr st hi => ?_, fun H m A p k hr st => ?_, fun i H m A x H' d p k hr st hd y => ?_⟩
  · simpa [Its, Src.items] using hi
  · simp [Its, Src.items]
  · obtain ⟨rfl, c, h1, rfl⟩ := y
    simp only [Src.items, List.getElem?_map, Array.getElem?_toList, h1, Option.map_some, Option.some.injEq] at hd
    subst hd
    exact ⟨hr, Keep.refl _, rfl⟩
theorem wk_range {K : PySem.W.Frag} {H0 : Hp} {m0 : List Addr} {lo : Int} {n : Nat} : Wk K (Itr lo n) (.its (rangeD lo n)) H0 m0 := by
  refine ⟨fun i H m A p k hr st hi => ?_, fun H m A p k hr st => ?_, fun i H m A x H' d p k hr st hd y => ?_⟩
  · simpa [Itr, Src.items, rangeD] using hi
  · simp [Itr, Src.items, rangeD]
  · obtain ⟨rfl, rfl⟩ := y
    simp only [Src.items, rangeD, List.getElem?_map] at hd
    obtain ⟨j, h1, h2⟩ := Option.map_eq_some_iff.mp hd
    have hj : i = j := by
      rw [List.getElem?_range] at h1
      · exact Option.some.inj h1
      · have := (List.getElem?_eq_some_iff.mp h1).1
        simpa using this
    subst hj
    subst h2
    exact ⟨hr, Keep.refl _, rfl⟩
section
variable {X : Cx} {tg e a b : Expr} {f fa fb : M} {pos p : Pos}
theorem PI.or {t t' : TI} (h : PI X tg e t) (h' : PI X tg e t') : PI X tg e (fun s H R => t s H R ∨ t' s H R) :=
  ⟨fun pins s q H R I z => z.elim (h.run pins s q H R I) (h'.run pins s q H R I)⟩
theorem i_seq (he : EO X e f) : IO' X tg e (srcSeq f) := by
  refine PI.weak (PI.or (pi_list he) (PI.or (pi_tup he) (pi_str he))) ?_
  rintro s H RR ⟨m, A, L, src, A', hr, lr, e, post⟩
  obtain ⟨x, A1, e1, e⟩ := R.bind_eq_ok e
  split at e
  · cases e
    refine .inr (.inl ⟨m, A, L, _, _, hr, lr, e1, fun m1 v H1 p1 k1 hr1 r1 => ?_⟩)
    obtain ⟨q, vs, rfl, tp, rp⟩ := rep_tup r1
    exact ⟨q, rfl, ⟨vs, tp.sq⟩, post m1 H1 _ p1 k1 hr1 (wk_tup tp rp)⟩
  · split at e
    · rename_i hl
      cases e
      refine .inl ⟨m, A, L, _, _, hr, lr, e1, fun m1 v H1 p1 k1 hr1 r1 => ?_⟩
      obtain ⟨q, vs, rfl, hm, ha, rp⟩ := hr1.lst hl r1
      exact ⟨q, rfl, ⟨vs, SqL.of ha⟩, post m1 H1 _ p1 k1 hr1 (wk_list hm)⟩
    · rename_i hl
      cases e
      refine .inl ⟨m, A, L, _, _, hr, lr, e1, fun m1 v H1 p1 k1 hr1 r1 => ?_⟩
      obtain ⟨q, vs, rfl, hm, ha, rp⟩ := hr1.rd hl r1
      exact ⟨q, rfl, ⟨vs, ha.sq⟩, post m1 H1 _ p1 k1 hr1 (wk_list hm)⟩
    · cases e
  · cases e
    refine .inr (.inr ⟨m, A, L, _, _, hr, lr, e1, fun m1 v H1 p1 k1 hr1 r1 => ?_⟩)
    simp only [Rep] at r1
    exact ⟨_, r1, post m1 H1 _ p1 k1 hr1 wk_str⟩
  · cases e
theorem i_range1 (hg : Gl X "range") (hm : X.mg "range" = none) (hs : noStar a = true) (ha : EO X a fa) : IO' X tg (.Call (.Name "range" p) [a] [] pos) (srcRange1 fa) := by
  refine PI.weak (pi_range1 hg hm (pa_cons ha pa_nil (star_cons hs)) (star_cons hs)) ?_
  rintro s H RR ⟨m, A, L, src, A', hr, lr, e, post⟩
  obtain ⟨x, A1, e1, e⟩ := R.bind_eq_ok e
  split at e
  · split at e
    · rename_i hz
      cases e
      refine ⟨m, A, L, _, _, hr, lr, e1, fun m1 v H1 p1 k1 hr1 r1 => ?_⟩
      simp only [Rep] at r1
      subst r1
      exact ⟨_, rfl, hz.1, hz.2, post m1 H1 _ p1 k1 hr1 wk_range⟩
    · cases e
  · cases e
theorem i_range2 (hg : Gl X "range") (hm : X.mg "range" = none) (hs : noStar a = true) (hs2 : noStar b = true) (ha : EO X a fa) (hb : EO X b fb) : IO' X tg (.Call (.Name "range" p) [a, b] [] pos) (srcRange2 fa fb) := by
  refine PI.weak (pi_range2 hg hm (pa_cons ha (pa_cons hb pa_nil (star_cons hs2)) (star_cons hs)) (by rw [star_cons hs, star_cons hs2] <;> rfl) (star_cons hs2)) ?_
  rintro s H RR ⟨m, A, L, src, A', hr, lr, e, post⟩
  obtain ⟨x, A1, e1, e⟩ := R.bind_eq_ok e
  obtain ⟨y, A2, e2, e⟩ := R.bind_eq_ok e
  split at e
  · split at e
    · rename_i hz
      cases e
      refine ⟨m, A, L, _, _, hr, lr, e1, fun m1 v H1 p1 k1 hr1 r1 => ?_⟩
      refine ⟨m1, _, L, _, _, hr1, lr.mono k1 p1, e2, fun m2 u H2 p2 k2 hr2 r2 => ?_⟩
      simp only [Rep] at r1 r2
      subst r1; subst r2
      exact ⟨_, _, rfl, ⟨hz.1.1, hz.1.2, hz.2.1, hz.2.2⟩, post m2 H2 _ (p1.trans p2) (k1.trans k2) hr2 wk_range⟩
    · cases e
  · cases e
theorem rg_rep {K : PySem.W.Frag} {H : Hp} {m : List Addr} (i j : Int) : RepL K H m (rangeD i (j - i).toNat) (rgV i j) := by
  unfold rangeD rgV
  generalize List.range (j - i).toNat = l
  induction l with
  | nil => exact rfl
  | cons x l ih => exact ⟨_, _, rfl, rfl, ih⟩
theorem rgD_of {K : PySem.W.Frag} {H : Hp} {m : List Addr} {A A' : Hpp} {i j : Int} {k : Bool} {d : D} {Q : VK} (hr : HR K H m A) (e : rgD k i j A = .ok d A') (post : PostD K H m d A' Q) :
    RgOk i j ∧ ∀ q, H q = none → Q (.ref q) (upd H q (if k = true then .tup (rgV i j) else .lst (rgV i j))) := by
  unfold rgD at e
  split at e
  · rename_i hk
    refine ⟨hk, ?_⟩
    cases k with
    | true => cases e; exact PostD.newT post hr (rg_rep i j)
    | false => cases e; exact PostD.newL post hr (rg_rep i j)
  · cases e
theorem e_rg1 {x y : Str} {q1 q2 : Pos} {k : Bool} (hc : X.calm = true) (hx : x = if k = true then "tuple" else "list") (gx : Gl X x) (mx : X.mg x = none) (gr : Gl X "range") (mr : X.mg "range" = none) (hs : noStar a = true) (ha : EO X a fa) :
    EO X (.Call (.Name x p) [.Call (.Name "range" q1) [a] [] q2] [] pos) (mRg1 k fa) := by
  have pr := prg_1 (p := q1) (pos := q2) gr mr ha (star_cons hs)
  cases k with
  | true =>
    subst hx
    refine PE.weak (pe_tupRg hc gx mx pr (star_cons rfl)) ?_
    rintro s H Q ⟨m, A, L, d, A', hr, lr, e, post⟩
    obtain ⟨z, A1, e1, e⟩ := R.bind_eq_ok e
    split at e
    · refine ⟨m, A, L, _, A1, hr, lr, e1, fun m1 v H1 p1 k1 hr1 r1 => ?_⟩
      simp only [Rep] at r1
      subst r1
      obtain ⟨h1, h2⟩ := rgD_of hr1 e (post.later p1 k1)
      exact ⟨_, rfl, h1, fun q hq => h2 q hq⟩
    · cases e
  | false =>
    subst hx
    refine PE.weak (pe_listRg hc gx mx pr (star_cons rfl)) ?_
    rintro s H Q ⟨m, A, L, d, A', hr, lr, e, post⟩
    obtain ⟨z, A1, e1, e⟩ := R.bind_eq_ok e
    split at e
    · refine ⟨m, A, L, _, A1, hr, lr, e1, fun m1 v H1 p1 k1 hr1 r1 => ?_⟩
      simp only [Rep] at r1
      subst r1
      obtain ⟨h1, h2⟩ := rgD_of hr1 e (post.later p1 k1)
      exact ⟨_, rfl, h1, fun q hq => h2 q hq⟩
    · cases e
theorem e_rg2 {x y : Str} {q1 q2 : Pos} {k : Bool} (hc : X.calm = true) (hx : x = if k = true then "tuple" else "list") (gx : Gl X x) (mx : X.mg x = none) (gr : Gl X "range") (mr : X.mg "range" = none) (hs : noStar a = true) (hs2 : noStar b = true) (ha : EO X a fa) (hb : EO X b fb) :
    EO X (.Call (.Name x p) [.Call (.Name "range" q1) [a, b] [] q2] [] pos) (mRg2 k fa fb) := by
  have pr := prg_2 (p := q1) (pos := q2) gr mr ha hb (star_cons hs) (star_cons hs2) (star_none (by rw [List.all_cons, hs2]; rfl))
  have go : ∀ {s : L2.St} {H : Hp} {Q : VK}, tE X.K (mRg2 k fa fb) s H Q → tRg2 (tE X.K fa) (tE X.K fb) s H fun i j H1 => RgOk i j ∧ ∀ q, H1 q = none → Q (.ref q) (upd H1 q (if k = true then .tup (rgV i j) else .lst (rgV i j))) := by
    rintro s H Q ⟨m, A, L, d, A', hr, lr, e, post⟩
    obtain ⟨z, A1, e1, e⟩ := R.bind_eq_ok e
    obtain ⟨z2, A2, e2, e⟩ := R.bind_eq_ok e
    split at e
    · refine ⟨m, A, L, _, A1, hr, lr, e1, fun m1 v H1 p1 k1 hr1 r1 => ?_⟩
      refine ⟨m1, A1, L, _, A2, hr1, lr.mono k1 p1, e2, fun m2 u H2 p2 k2 hr2 r2 => ?_⟩
      simp only [Rep] at r1 r2
      subst r1; subst r2
      exact ⟨_, _, rfl, rfl, rgD_of hr2 e ((post.later p1 k1).later p2 k2)⟩
    · cases e
  cases k with
  | true =>
    subst hx
    exact PE.weak (pe_tupRg hc gx mx pr (star_cons rfl)) fun _ _ _ h => go h
  | false =>
    subst hx
    exact PE.weak (pe_listRg hc gx mx pr (star_cons rfl)) fun _ _ _ h => go h
theorem drop_cons {α : Type} {l : List α} {i : Nat} {d : α} (h : l[i]? = some d) : l.drop i = d :: l.drop (i + 1) := by
  have hi := (List.getElem?_eq_some_iff.mp h).1
  rw [List.drop_eq_getElem_cons hi]
  rw [List.getElem?_eq_getElem hi] at h
  cases h
  rfl
theorem s_for {fs : MS} {t : T} {g : S} {body : List Stmt} (hp : PassesOwn (model X.prog X.w) X.A X.env X.xe) (hc : X.calm = true) (hi : IO' X tg e fs) (hg : GO X tg t) (hb : SLO X body g) (hs : ∀ x, foldedSetIterable e X.env x = pure x) :
    SO X (.For tg e body [] pos) (sFor fs t g) := by
  refine PS.weak (ps_for hp hc hi hg hb hs) ?_
  rintro E s H ⟨m, A, L, o, A', hr, lr, e, post⟩
  obtain ⟨src, A1, e1, e2⟩ := R.bind_eq_ok e
  refine ⟨m, A, L, src, A1, hr, lr, e1, fun m1 H1 J p1 k1 hr1 wk => ?_⟩
  refine ⟨fun i n s2 H2 => ∃ (m2 : List Addr) (A2 : Hpp) (L2 : Loc), i ≤ src.items.length ∧ n = src.items.length - i ∧ m1 <+: m2 ∧ Keep H1 H2 ∧ HR X.K H2 m2 A2 ∧ LR X.K H2 m2 L2 s2 ∧ forLoop src t g (src.items.drop i) L2 A2 = .ok o A',
    ⟨_, m1, A1, L, Nat.zero_le _, rfl, List.prefix_refl _, Keep.refl _, hr1, lr.mono k1 p1, e2⟩, ?_⟩
  rintro i n s2 H2 ⟨m2, A2, L2, hi, rfl, p2, k2, hr2, lr2, e3⟩
  by_cases hlt : i < src.items.length
  · have hd : src.items[i]? = some src.items[i] := List.getElem?_eq_getElem hlt
    rw [drop_cons hd] at e3
    unfold forLoop at e3
    split at e3
    · rename_i st
      refine .inr ⟨wk.go i H2 m2 A2 p2 k2 hr2 st hlt, ?_⟩
      obtain ⟨L3, A3, e4, e5⟩ := R.bind_eq_ok e3
      obtain ⟨o2, A4, e6, e7⟩ := R.bind_eq_ok e5
      refine ⟨fun s' H' => ∃ (m' : List Addr) (A5 : Hpp) (L' : Loc), m1 <+: m' ∧ Keep H1 H' ∧ HR X.K H' m' A5 ∧ LR X.K H' m' L' s' ∧ forLoop src t g (src.items.drop (i + 1)) L' A5 = .ok o A', ?_, ?_⟩
      · rintro s' H' ⟨m', A5, L', q1, q2, q3, q4, q5⟩
        exact ⟨src.items.length - (i + 1), by omega, m', A5, L', by omega, rfl, q1, q2, q3, q4, q5⟩
      · intro x H3 y
        obtain ⟨hr3, k3, r3⟩ := wk.yld i H2 m2 A2 x H3 _ p2 k2 hr2 st hd y
        refine ⟨m2, A2, L2, _, L3, A3, hr3, lr2.mono k3 (List.prefix_refl _), r3, e4, fun m4 s4 H4 p4 k4 hr4 lr4 => ?_⟩
        refine ⟨m4, A3, L3, o2, A4, hr4, lr4, e6, ?_⟩
        cases o2 with
        | nx L5 => exact fun m5 s5 H5 p5 k5 hr5 lr5 => ⟨m5, A4, L5, p2.trans (p4.trans p5), k2.trans (k3.trans (k4.trans k5)), hr5, lr5, e7⟩
        | ct L5 => exact fun m5 s5 H5 p5 k5 hr5 lr5 => ⟨m5, A4, L5, p2.trans (p4.trans p5), k2.trans (k3.trans (k4.trans k5)), hr5, lr5, e7⟩
        | bk L5 =>
          cases e7
          exact PostN.later post (p1.trans (p2.trans p4)) (k1.trans (k2.trans (k3.trans k4)))
        | rt d =>
          cases e7
          exact PostD.later post (p1.trans (p2.trans p4)) (k1.trans (k2.trans (k3.trans k4)))
    · cases e3
  · have hi' : i = src.items.length := by omega
    subst hi'
    rw [List.drop_length] at e3
    unfold forLoop at e3
    split at e3
    · rename_i st
      cases e3
      exact .inl ⟨wk.stop H2 m2 _ p2 k2 hr2 st, post m2 s2 H2 (p1.trans p2) (k1.trans k2) hr2 lr2⟩
    · cases e3
theorem s_while {c : Expr} {fc : M} {g : S} {body : List Stmt} (hp : PassesOwn (model X.prog X.w) X.A X.env X.xe) (hc : TO' X c fc) (hb : SLO X body g) : SO X (.While c body [] pos) (sWhile fc g) := by
  refine PS.weak (ps_while hp hc hb) ?_
  rintro E s H ⟨m, A, L, o, A', hr, lr, e, post⟩
  unfold sWhile at e
  refine ⟨fun n s2 H2 => ∃ (m2 : List Addr) (A2 : Hpp) (L2 : Loc), m <+: m2 ∧ Keep H H2 ∧ HR X.K H2 m2 A2 ∧ LR X.K H2 m2 L2 s2 ∧ whileLoop fc g n L2 A2 = .ok o A',
    ⟨_, m, A, L, List.prefix_refl _, Keep.refl _, hr, lr, e⟩, ?_⟩
  rintro n s2 H2 ⟨m2, A2, L2, p2, k2, hr2, lr2, e2⟩
  cases n with
  | zero => cases e2
  | succ n =>
    unfold whileLoop at e2
    obtain ⟨b, A3, e3, e4⟩ := R.bind_eq_ok e2
    refine ⟨m2, A2, L2, b, A3, hr2, lr2, e3, fun m3 H3 p3 k3 hr3 => ?_⟩
    cases b with
    | false =>
      cases e4
      exact post m3 s2 H3 (p2.trans p3) (k2.trans k3) hr3 (lr2.mono k3 p3)
    | true =>
      obtain ⟨o2, A4, e5, e6⟩ := R.bind_eq_ok e4
      refine ⟨fun s' H' => ∃ (m' : List Addr) (A5 : Hpp) (L' : Loc), m <+: m' ∧ Keep H H' ∧ HR X.K H' m' A5 ∧ LR X.K H' m' L' s' ∧ whileLoop fc g n L' A5 = .ok o A', fun s' H' q => ⟨n, by omega, q⟩, ?_⟩
      refine ⟨m3, A3, L2, o2, A4, hr3, lr2.mono k3 p3, e5, ?_⟩
      cases o2 with
      | nx L5 => exact fun m5 s5 H5 p5 k5 hr5 lr5 => ⟨m5, A4, L5, p2.trans (p3.trans p5), k2.trans (k3.trans k5), hr5, lr5, e6⟩
      | ct L5 => exact fun m5 s5 H5 p5 k5 hr5 lr5 => ⟨m5, A4, L5, p2.trans (p3.trans p5), k2.trans (k3.trans k5), hr5, lr5, e6⟩
      | bk L5 =>
        cases e6
        exact PostN.later post (p2.trans p3) (k2.trans k3)
      | rt d =>
        cases e6
        exact PostD.later post (p2.trans p3) (k2.trans k3)
end
/-! comprehensions -/
/-- a comprehension's target: its own names alone -/
structure TgOk (K : PySem.W.Frag) (own : List Nat) (g : TG) (t : T) : Prop where
  run : ∀ (v : V) (s : L2.St) (H : Hp) (m : List Addr) (A : Hpp) (L : Loc) (d : D) (L' : Loc) (A' : Hpp) (Q : L2.St → Hp → Prop), HR K H m A → LR K H m L s → Rep K H m d v → t d L A = .ok L' A' →
    (A' = A → ∀ s', LR K H m L' s' → wipe s' own = wipe s own → Q s' H) → g v s H Q
structure TgsOk (K : PySem.W.Frag) (own : List Nat) (g : TGs) (t : TL) (n : Nat) : Prop where
  run : ∀ (vs : List V) (s : L2.St) (H : Hp) (m : List Addr) (A : Hpp) (L : Loc) (ds : List D) (L' : Loc) (A' : Hpp) (Q : L2.St → Hp → Prop), HR K H m A → LR K H m L s → RepL K H m ds vs → t ds L A = .ok L' A' →
    (A' = A → ∀ s', LR K H m L' s' → wipe s' own = wipe s own → Q s' H) → vs.length = n ∧ g vs s H Q
theorem wipe_set_ne {s : L2.St} {i : Nat} {x : Option V} : ∀ {own : List Nat}, i ∉ own → wipe (s.set i x) own = (wipe s own).set i x
  | [], _ => rfl
  | j :: own, h => by
    simp only [List.mem_cons, not_or] at h
    show (wipe (s.set i x) own).set j none = ((wipe s own).set j none).set i x
    rw [wipe_set_ne h.2, List.set_comm _ _ h.1]
theorem wipe_set {s : L2.St} {i : Nat} {x : Option V} : ∀ {own : List Nat}, i ∈ own → wipe (s.set i x) own = wipe s own
  | j :: own, h => by
    show (wipe (s.set i x) own).set j none = (wipe s own).set j none
    by_cases hi : i ∈ own
    · rw [wipe_set hi]
    · have : i = j := by
        rcases List.mem_cons.mp h with z | z
        · exact z
        · exact absurd z hi
      subst this
      rw [wipe_set_ne hi, List.set_set]
theorem wipe_none (s : L2.St) : ∀ (own : List Nat) (i : Nat), i ∈ own → (wipe s own).set i none = wipe s own
  | j :: own, i, h => by
    show ((wipe s own).set j none).set i none = (wipe s own).set j none
    by_cases e : i = j
    · subst e; rw [List.set_set]
    · have hi : i ∈ own := by
        rcases List.mem_cons.mp h with z | z
        · exact absurd z e
        · exact z
      rw [List.set_comm _ _ (Ne.symm e), wipe_none s own i hi]
theorem wipe_some' (s : L2.St) : ∀ (own l : List Nat), (∀ i ∈ l, i ∈ own) → wipe (wipe s own) l = wipe s own
  | own, [], _ => rfl
  | own, i :: l, h => by
    show (wipe (wipe s own) l).set i none = wipe s own
    rw [wipe_some' s own l fun j hj => h j (List.mem_cons_of_mem _ hj)]
    exact wipe_none s own i (h i List.mem_cons_self)
theorem wipe_twice (s : L2.St) (own : List Nat) : wipe (wipe s own) own = wipe s own := wipe_some' s own own fun _ h => h
theorem tg_var {K : PySem.W.Frag} {own : List Nat} {i : Nat} (h : i ∈ own) : TgOk K own (gName i) (gVar i) := by
  refine ⟨fun v s H m A L d L' A' Q hr lr rv e q => ?_⟩
  cases e
  exact q rfl _ (lr.set rv) (wipe_set h)
theorem tgs_nil {K : PySem.W.Frag} {own : List Nat} : TgsOk K own gNil gNil' 0 := by
  refine ⟨fun vs s H m A L ds L' A' Q hr lr rv e q => ?_⟩
  unfold gNil' at e
  split at e
  · cases e
    cases rv
    exact ⟨rfl, rfl, q rfl _ lr rfl⟩
  · cases e
/-- a target of names leaves the heap -/
inductive TNames : TL → Nat → List Nat → Prop
  | nil : TNames gNil' 0 []
  | cons {i n : Nat} {u : TL} {l : List Nat} : TNames u n l → TNames (gCons' (gVar i) u) (n + 1) (i :: l)
def gsOf : List Nat → TGs
  | [] => gNil
  | i :: l => gCons (gName i) (gsOf l)
theorem tgs_names {K : PySem.W.Frag} {own : List Nat} {u : TL} {n : Nat} {l : List Nat} (h : TNames u n l) : (∀ i ∈ l, i ∈ own) → TgsOk K own (gsOf l) u n := by
  induction h with
  | nil => exact fun _ => tgs_nil
  | cons _ ih =>
    intro hm
    refine ⟨fun vs s H m A L ds L' A' Q hr lr rv e q => ?_⟩
    unfold gCons' at e
    split at e
    · obtain ⟨L1, A1, e1, e2⟩ := R.bind_eq_ok e
      obtain ⟨v, r, rfl, ra, rb⟩ := rv
      cases e1
      obtain ⟨hl, hg⟩ := (ih fun i hi => hm i (List.mem_cons_of_mem _ hi)).run r _ H m _ _ _ L' A' Q hr (lr.set ra) rb e2 fun q1 s' lr' w => q q1 s' lr' (w.trans (wipe_set (hm _ List.mem_cons_self)))
      exact ⟨by simp [hl], v, r, rfl, hg⟩
    · cases e
theorem tg_tup {K : PySem.W.Frag} {own : List Nat} {u : TL} {n : Nat} {l : List Nat} (h : TNames u n l) (hm : ∀ i ∈ l, i ∈ own) : TgOk K own (gTup K n (gsOf l)) (gTupT' u) := by
  refine ⟨fun v s H m A L d L' A' Q hr lr rv e q => ?_⟩
  unfold gTupT' at e
  split at e
  · obtain ⟨p, vs, rfl, tp, rp⟩ := rep_tup rv
    obtain ⟨hl, hg⟩ := (tgs_names h hm).run vs s H m A L _ L' A' Q hr lr rp e q
    exact ⟨p, vs, rfl, tp.sq, hl, hg⟩
  · cases e
theorem lc_of {K : PySem.W.Frag} {fs : MS} {g : TG} {t : T} {c : MB} {f : M} {own : List Nat} {s : L2.St} {H : Hp} {Q : VK} (ht : TgOk K own g t)
    (h : tE K (mLc fs t c f own) s H Q) : tLc (tI K fs) g (tT K c) (tE K f) own s H Q := by
  obtain ⟨m, A, L, d, A', hr, lr, e, post⟩ := h
  obtain ⟨src, A1, e1, e⟩ := R.bind_eq_ok e
  obtain ⟨_, A2, e2, e⟩ := R.bind_eq_ok e
  cases e
  refine ⟨m, A, L, src, A1, hr, lr, e1, fun m1 H1 J p1 k1 hr1 wk => ?_⟩
  intro D hD
  have hr2 : HR K (upd H1 D (.lst [])) (m1 ++ [D]) (A1 ++ [.lst []]) := hr1.new hD rfl ⟨[], upd_same, rfl⟩
  have em : (m1 ++ [D])[A1.length]? = some D := by rw [← hr1.len]; simp
  refine ⟨fun i n H2 => ∃ (m2 : List Addr) (A3 : Hpp), i ≤ src.items.length ∧ n = src.items.length - i ∧ (m1 ++ [D]) <+: m2 ∧ Keep H1 H2 ∧ HR K H2 m2 A3 ∧ lcLoop src A1.length t c f (wipeL L own) (src.items.drop i) A3 = .ok () A',
    ⟨_, m1 ++ [D], _, Nat.zero_le _, rfl, List.prefix_refl _, Keep.new hD, hr2, e2⟩, ?_⟩
  rintro i n H2 ⟨m2, A3, hi, rfl, p2, k2, hr3, e3⟩
  have pp : m1 <+: m2 := (List.prefix_append _ _).trans p2
  by_cases hlt : i < src.items.length
  · have hd : src.items[i]? = some src.items[i] := List.getElem?_eq_getElem hlt
    rw [drop_cons hd] at e3
    unfold lcLoop at e3
    split at e3
    · rename_i st
      refine .inr ⟨wk.go i H2 m2 A3 pp k2 hr3 st hlt, ?_⟩
      obtain ⟨L3, A4, e4, e5⟩ := R.bind_eq_ok e3
      obtain ⟨k, A5, e6, e7⟩ := R.bind_eq_ok e5
      refine ⟨fun H' => ∃ (m' : List Addr) (A6 : Hpp), (m1 ++ [D]) <+: m' ∧ Keep H1 H' ∧ HR K H' m' A6 ∧ lcLoop src A1.length t c f (wipeL L own) (src.items.drop (i + 1)) A6 = .ok () A', ?_, ?_⟩
      · rintro H' ⟨m', A6, q1, q2, q3, q4⟩
        exact ⟨src.items.length - (i + 1), by omega, m', A6, by omega, rfl, q1, q2, q3, q4⟩
      · intro x H3 y
        obtain ⟨hr4, k4, r4⟩ := wk.yld i H2 m2 A3 x H3 _ pp k2 hr3 st hd y
        have lrw : LR K H3 m2 (wipeL L own) (wipe s own) := (lr.mono (k1.trans (k2.trans k4)) (p1.trans pp)).wipe own
        refine ht.run x (wipe s own) H3 m2 A3 (wipeL L own) _ L3 A4 _ hr4 lrw r4 e4 fun eA s5 lr5 hws => ⟨hws.trans (wipe_twice s own), ?_⟩
        subst eA
        refine ⟨m2, A4, L3, k, A5, hr4, lr5, e6, fun m6 H6 p6 k6 hr6 => ?_⟩
        cases k with
        | false => exact ⟨m6, A5, p2.trans p6, k2.trans (k4.trans k6), hr6, e7⟩
        | true =>
          obtain ⟨z, A7, e8, e9⟩ := R.bind_eq_ok e7
          refine ⟨m6, A5, L3, z, A7, hr6, lr5.mono k6 p6, e8, fun m7 v H7 p7 k7 hr7 r7 => ?_⟩
          split at e9
          · rename_i acc hacc
            split at e9
            · rename_i hz
              have em7 : m7[A1.length]? = some D := Pre.get (p2.trans (p6.trans p7)) em
              obtain ⟨vs, hv, rv⟩ := hr7.at_ _ _ _ em7 hacc
              have kp : Keep H7 (upd H7 D (.lst (vs ++ [v]))) := Keep.write hv (fun _ z => by cases z)
              obtain ⟨q1, q2⟩ := hr7.set (o := .lst (vs ++ [v])) (u' := .lst (acc ++ [z])) hacc em7 rfl rfl ⟨_, upd_same, RepL.mono kp (List.prefix_refl _) _ _ (rv.append (RepL.single r7))⟩
              exact ⟨vs, hv, by rw [rv.length]; exact hz, m7, _, p2.trans (p6.trans p7), k2.trans (k4.trans (k6.trans (k7.trans q2))), q1, e9⟩
            · cases e9
          · cases e9
    · cases e3
  · have hi' : i = src.items.length := by omega
    subst hi'
    rw [List.drop_length] at e3
    unfold lcLoop at e3
    split at e3
    · rename_i st
      cases e3
      refine .inl ⟨wk.stop H2 m2 _ pp k2 hr3 st, post m2 (.ref D) H2 (p1.trans pp) (k1.trans k2) hr3 ?_⟩
      simp only [Rep]
      exact ⟨D, Pre.get p2 em, rfl⟩
    · cases e3
end Rf
namespace Rf
open PySem PySem.Spec PyProof.Rows L2
/-- two tuples of one length, the items in new pairs -/
def ItzS (K : PySem.W.Frag) (a b : Addr) : It :=
  ⟨fun i H => ∃ (xs ys : List V) (x y : V), SqT K H a xs ∧ SqT K H b ys ∧ xs[i]? = some x ∧ ys[i]? = some y,
    fun i H v H' => ∃ T x y, v = .ref T ∧ H T = none ∧ H' = upd H T (.tup [x, y]) ∧ (∀ xs, SqT K H a xs → xs[i]? = some x) ∧ ∀ ys, SqT K H b ys → ys[i]? = some y,
    fun i H => ∃ xs ys : List V, SqT K H a xs ∧ SqT K H b ys ∧ xs.length ≤ i ∧ ys.length ≤ i⟩
theorem turn_zipS {P : Program} {w : World} {K : PySem.W.Frag} {elts : List Expr} {kk : Nat} {tpos : Pos} {a b z TI TO i1 i2 : Addr} (D : ZipApart z TI TO i1 i2 a b) :
    Turn P w K (.Tuple elts kk tpos) (ItzS K a b) [z, TI, TO, i1, i2] z (fun i h => IsZipS h z TI TO .none ∧ PySem.IsPair h TI (.ref i1) (.ref i2) ∧ (∃ x y, PySem.IsPair h TO x y) ∧ h.IsTupleIter i1 a i ∧ h.IsTupleIter i2 b i) where
  mem := by simp
  obj := fun i h st c hc => by
    obtain ⟨hz, hTI, ⟨x, y, hTO⟩, ⟨o1, e1, _, d1⟩, ⟨o2, e2, _, d2⟩⟩ := st
    have e' : c = z ∨ c = TI ∨ c = TO ∨ c = i1 ∨ c = i2 := by simpa using hc
    rcases e' with q | q | q | q | q
    · rw [q]; exact ⟨_, hz, fun v q => nomatch q⟩
    · rw [q]; exact ⟨_, hTI, fun v q => nomatch q⟩
    · rw [q]; exact ⟨_, hTO, fun v q => nomatch q⟩
    · rw [q]; exact ⟨o1, e1, fun v q => by rw [d1] at q; cases q⟩
    · rw [q]; exact ⟨o2, e2, fun v q => by rw [d2] at q; cases q⟩
  keep := fun i h h' st k => by
    obtain ⟨hz, hTI, ⟨x, y, hTO⟩, h1, h2⟩ := st
    exact ⟨k z (by simp) _ hz, k TI (by simp) _ hTI, ⟨x, y, k TO (by simp) _ hTO⟩, h1.at fun o q => k i1 (by simp) o q, h2.at fun o q => k i2 (by simp) o q⟩
  item := by
    intro X hP hw hK hc i pins s σ H E I hf st hg
    subst hP hw hK
    obtain ⟨hz, hTI, ⟨x0, y0, hTO⟩, h1, h2⟩ := st
    obtain ⟨xs, ys, x, y, hqx, hqy, hx, hy⟩ := hg
    obtain ⟨its, rv, p, _⟩ := I.tuple hqx
    obtain ⟨its2, rv2, p2, _⟩ := I.tuple hqy
    obtain ⟨u, hu, ru⟩ := rv.get hx
    obtain ⟨u2, hu2, ru2⟩ := rv2.get hy
    have hzl : z < s.heap.objs.size := Heap.lt_size hz
    refine nextS_item D hz hTI hTO h1 h2 p p2 (x := u) (y := u2) (by simpa using hu) (by simpa using hu2) fun h' z' TO' h1' h2' hT hsz hk => ?_
    refine ⟨_, rfl, goS (s := { s with heap := h' }) z' fun h'' z'' sb => ?_⟩
    have hT2 : h''.get? s.heap.objs.size = some { cls := .type "tuple", data := .seq #[u, u2] } := (sb.2 _ (Nat.ne_of_gt hzl)).trans hT
    have new : ObjOk X.prog X.w (upd H s.heap.objs.size (.tup [x, y])) h'' s.heap.objs.size (.tup [x, y]) :=
      ⟨by show 2 ≤ sizeLine; decide, [u, u2], .cons ru (.cons ru2 .nil), ⟨_, hT2, rfl, _, rfl⟩⟩
    have I1 : Inv X pins σ (upd H s.heap.objs.size (.tup [x, y])) { s with heap := h'' } :=
      I.turnedNew (t' := s.toks) (ch := [z, TI, TO, i1, i2]) (fun c o hb q => (sb.2 c (fun q' => hb (by simp [q']))).trans (hk c o (fun q' => hb (by simp [q'])) (fun q' => hb (by simp [q'])) (fun q' => hb (by simp [q'])) (fun q' => hb (by simp [q'])) q)) hf (Nat.le_refl _) new
    refine ⟨.ref s.heap.objs.size, _, I1, rfl, ⟨_, x, y, rfl, I.hok.fresh (Nat.le_refl _), rfl, fun l hl => by rw [I.tuple_inj hl hqx]; exact hx, fun l hl => by rw [I.tuple_inj hl hqy]; exact hy⟩, ⟨z'', ?_, ⟨u, u2, ?_⟩, ?_, ?_⟩, fun c hcm => ?_⟩
    · exact (sb.2 _ D.TIz).trans (hk _ _ D.TIz D.TITO D.TIi1 D.TIi2 hTI)
    · exact (sb.2 _ D.TOz).trans TO'
    · exact h1'.at fun o q => (sb.2 _ D.i1z).trans q
    · exact h2'.at fun o q => (sb.2 _ D.i2z).trans q
    · have hlt : c < s.heap.objs.size := by
        have e' : c = z ∨ c = TI ∨ c = TO ∨ c = i1 ∨ c = i2 := by simpa using hcm
        rcases e' with q | q | q | q | q
        · rw [q]; exact hzl
        · rw [q]; exact Heap.lt_size hTI
        · rw [q]; exact Heap.lt_size hTO
        · rw [q]; obtain ⟨_, e1, _⟩ := h1; exact Heap.lt_size e1
        · rw [q]; obtain ⟨_, e2, _⟩ := h2; exact Heap.lt_size e2
      rw [upd_ne (Nat.ne_of_lt hlt)]
      exact (hf c hcm).1
  done := by
    intro X hP hw hK hc i pins s σ H E I hf st hg
    subst hP hw hK
    obtain ⟨hz, hTI, ⟨x0, y0, hTO⟩, h1, h2⟩ := st
    obtain ⟨xs, ys, hqx, hqy, e1, e2⟩ := hg
    obtain ⟨its, rv, p, _⟩ := I.tuple hqx
    obtain ⟨its2, rv2, p2, _⟩ := I.tuple hqy
    have l1 := rv.length
    have l2 := rv2.length
    exact nextS_end (I.ok.hd hc) D hz hTI hTO h1 h2 p p2 (by simp; omega) (by simp; omega) fun h' hk => ⟨rfl, I.turnedL (t' := s.toks) (ch := [z, TI, TO, i1, i2]) (fun c o hb q =>
      hk c o (fun q' => hb (by simp [q'])) (fun q' => hb (by simp [q'])) (fun q' => hb (by simp [q'])) (fun q' => hb (by simp [q'])) q) hf⟩
  self := fun A i s Q E st h => iterS st.1 h
/-! zip(e, e2, strict=True) -/
section
variable {M : Model} {A : Around} {E : Value → Shared → Prop} {s : Shared} {env : Env}
theorem callWith_typeK {pos : Pos} {T : String} {e : Expr} {rest : List Expr} {kws : List Keyword} {Q : Value → Shared → Prop}
    (h : wpAny M A (spliced (backTo pos (starEach (e :: rest) env))) (fun vs s₁ => wpAny M A (evalAll ((backToKw pos (keywordEach kws env)).map (·.2)))
      (fun kvs s₂ => wpAny M A (call (.type T) vs (((backToKw pos (keywordEach kws env)).filterMap (·.1)).zip kvs)) Q E s₂) E s₁) E s)
    (he : backTo pos (starEach (e :: rest) env) = (false, eval e env) :: backTo pos (starEach rest env))
    (hplain : (backTo pos (starEach (e :: rest) env)).any (·.1) = false)
    (hall : (backToKw pos (keywordEach kws env)).all (·.1.isSome) = true)
    (hkw : (backToKw pos (keywordEach kws env)).any (·.1.isNone) = false) :
    wpAny M A (callWith pos (.type T) [] (backTo pos (starEach (e :: rest) env)) (backToKw pos (keywordEach kws env))) Q E s := by
  unfold callWith
  have h2 : wpAny M A (evalArgs (.type T) true (backTo pos (starEach (e :: rest) env)) (backToKw pos (keywordEach kws env))) (fun a s₁ => wpAny M A (call (.type T) ([] ++ a.pos) a.kw) Q E s₁) E s := by
    rw [he] at h ⊢
    exact evalArgs_kwB hall h
  refine wpAny_bind (wpAny_holding (wpAny_mono h2 (fun a s₁ h₁ => wpAny_bind (wpAny_standAt ?_)) fun _ _ x => x))
  simp only [hplain, hkw, Bool.or_false]
  refine wpAny_bind (wpAny_pure ?_)
  exact wpAny_bind (wpAny_mono h₁ (fun r s₂ hr => wpAny_bind (wpAny_holding (wpAny_point (wpAny_pure hr)))) fun _ _ x => x)
end
def iZipS (K : PySem.W.Frag) (ta : TA) : TI := fun σ H R => ta σ H fun vs H1 => ∃ a b xs ys, vs = [.ref a, .ref b] ∧ SqT K H1 a xs ∧ SqT K H1 b ys ∧ R (ItzS K a b) H1
theorem pi_zipS {X : Cx} {e e2 : Expr} {ta : TA} {p pos tpos kp cp : Pos} {elts : List Expr} {kk j : Nat} (hg : Gl X "zip") (hm : X.mg "zip" = none) (ha : PA X [e, e2] ta)
    (hs : starEach [e, e2] X.env = (false, eval e X.env) :: starEach [e2] X.env) (hpl : (backTo pos (starEach [e, e2] X.env)).any (·.1) = false) :
    PI X (.Tuple elts kk tpos) (.Call (.Name "zip" p) [e, e2] [⟨some (Str.ofString "strict"), .Constant (.bool true) j cp, kp⟩] pos) (iZipS X.K ta) := by
  refine ⟨fun pins s σ H R I h => ?_⟩
  refine wpAny_Call_Name_kw (ld_blt I hg hm PyProof.Rows.boot_zip ?_)
  refine callWith_typeK (thn (ha.run pos pins s σ H _ I h) fun us s1 ⟨vs, H1, I1, r1, q1⟩ => ?_) (by rw [hs]; rfl) hpl rfl rfl
  refine kws_cons ?_
  show wpAny _ _ (pure (Value.bool true)) _ _ _
  refine wpAny_pure (kws_nil ?_)
  obtain ⟨a, b, xs, ys, ex, hqx, hqy, q⟩ := q1
  subst ex
  cases r1 with
  | cons r rr =>
    cases rr with
    | cons r' rr =>
      cases rr
      cases r
      cases r'
      have fresh5 : ∀ c, c ∈ [s1.heap.objs.size + 4, s1.heap.objs.size + 2, s1.heap.objs.size + 3, s1.heap.objs.size, s1.heap.objs.size + 1] → FpOk X pins H1 c := fun c hcm => by
        have e' : c = s1.heap.objs.size + 4 ∨ c = s1.heap.objs.size + 2 ∨ c = s1.heap.objs.size + 3 ∨ c = s1.heap.objs.size ∨ c = s1.heap.objs.size + 1 := by simpa using hcm
        have hle : s1.heap.objs.size ≤ c := by
          rcases e' with z | z | z | z | z
          · rw [z]; exact Nat.le_add_right _ _
          · rw [z]; exact Nat.le_add_right _ _
          · rw [z]; exact Nat.le_add_right _ _
          · rw [z]; exact Nat.le_refl _
          · rw [z]; exact Nat.le_add_right _ _
        exact I1.fpOk hle (I1.hok.fresh hle)
      obtain ⟨its, rv, p1, _⟩ := I1.tuple hqx
      obtain ⟨its2, rv2, p2, _⟩ := I1.tuple hqy
      obtain ⟨o1, ho1, _⟩ := id p1
      obtain ⟨o2, ho2, _⟩ := id p2
      refine call_zipS (show s1.heap.IsTuple a its.toArray from p1) (show s1.heap.IsTuple b its2.toArray from p2) fun h' hz hTI hTO h1 h2 hsz hk => iterS hz ?_
      have I2 : Inv X pins σ H1 { s1 with heap := h' } := I1.kept (t' := s1.toks) hk
      exact ⟨s1.heap.objs.size + 4, [s1.heap.objs.size + 4, s1.heap.objs.size + 2, s1.heap.objs.size + 3, s1.heap.objs.size, s1.heap.objs.size + 1], _, _, H1, rfl, I2, turn_zipS (PySem.W.ktu_apart s1.heap.objs.size a b (Heap.lt_size ho1) (Heap.lt_size ho2)), ⟨hz, hTI, ⟨_, _, hTO⟩, h1, h2⟩, fresh5, q⟩
theorem wk_zipS {K : PySem.W.Frag} {H0 : Hp} {m0 : List Addr} {xs ys : List D} {a b : Addr} {us vs : List V} (hl : xs.length = ys.length) (ha : TupAt K H0 a us) (hb : TupAt K H0 b vs) (ra : RepL K H0 m0 xs us) (rb : RepL K H0 m0 ys vs) : Wk K (ItzS K a b) (.its (zipD xs ys)) H0 m0 := by
  have lu := ra.length
  have lv := rb.length
  have lz : (zipD xs ys).length = xs.length := by simp [zipD, hl]
  refine ⟨fun i H m A p k hr st hi => ?_, fun H m A p k hr st => ?_, fun i H m A x H' d p k hr st hd y => ?_⟩
  · have hi1 : i < us.length := by rw [lu, ← lz]; exact hi
    have hi2 : i < vs.length := by rw [lv, ← hl, ← lz]; exact hi
    exact ⟨us, vs, us[i], vs[i], (ha.mono k).sq, (hb.mono k).sq, List.getElem?_eq_getElem hi1, List.getElem?_eq_getElem hi2⟩
  · refine ⟨us, vs, (ha.mono k).sq, (hb.mono k).sq, ?_, ?_⟩
    · show us.length ≤ (zipD xs ys).length; rw [lz, lu]; exact Nat.le_refl _
    · show vs.length ≤ (zipD xs ys).length; rw [lz, lv, hl]; exact Nat.le_refl _
  · obtain ⟨T, v1, v2, rfl, hT, rfl, f1, f2⟩ := y
    have g1 := f1 us (ha.mono k).sq
    have g2 := f2 vs (hb.mono k).sq
    simp only [Src.items, zipD, List.getElem?_map] at hd
    obtain ⟨q, h1, h2⟩ := Option.map_eq_some_iff.mp hd
    subst h2
    rw [List.getElem?_zip_eq_some] at h1
    obtain ⟨w1, e1, r1⟩ := (RepL.mono k p _ _ ra).get h1.1
    obtain ⟨w2, e2, r2⟩ := (RepL.mono k p _ _ rb).get h1.2
    rw [e1] at g1; cases g1
    rw [e2] at g2; cases g2
    refine ⟨hr.tup hT, Keep.new hT, ?_⟩
    simp only [Rep]
    refine ⟨T, _, rfl, .inl upd_same, ?_⟩
    refine RepL.mono (Keep.new hT) (List.prefix_refl _) _ _ ?_
    exact ⟨_, _, rfl, r1, _, _, rfl, r2, rfl⟩
theorem wk_rangeC {K : PySem.W.Frag} {H0 : Hp} {m0 : List Addr} {lo c : Int} {n : Nat} : Wk K (Itc lo c n) (.its (rangeC lo c n)) H0 m0 := by
  refine ⟨fun i H m A p k hr st hi => ?_, fun H m A p k hr st => ?_, fun i H m A x H' d p k hr st hd y => ?_⟩
  · simpa [Itc, Src.items, rangeC] using hi
  · simp [Itc, Src.items, rangeC]
  · obtain ⟨rfl, rfl⟩ := y
    simp only [Src.items, rangeC, List.getElem?_map] at hd
    obtain ⟨j, h1, h2⟩ := Option.map_eq_some_iff.mp hd
    have hj : i = j := by
      rw [List.getElem?_range] at h1
      · exact Option.some.inj h1
      · have := (List.getElem?_eq_some_iff.mp h1).1
        simpa using this
    subst hj
    subst h2
    exact ⟨hr, Keep.refl _, rfl⟩
section
variable {X : Cx} {tg e a b c : Expr} {f fa fb fc : M} {pos p : Pos}
theorem i_range3 (hg : Gl X "range") (hm : X.mg "range" = none) (hs : noStar a = true) (hs2 : noStar b = true) (hs3 : noStar c = true) (ha : EO X a fa) (hb : EO X b fb) (hc : EO X c fc) : IO' X tg (.Call (.Name "range" p) [a, b, c] [] pos) (srcRange3 fa fb fc) := by
  refine PI.weak (pi_range3 hg hm (pa_cons ha (pa_cons hb (pa_cons hc pa_nil (star_cons hs3)) (star_cons hs2)) (star_cons hs)) (star_cons hs) (star_none (by rw [List.all_cons, List.all_cons, hs2, hs3]; rfl))) ?_
  rintro s H RR ⟨m, A, L, src, A', hr, lr, e, post⟩
  obtain ⟨x, A1, e1, e⟩ := R.bind_eq_ok e
  obtain ⟨y, A2, e2, e⟩ := R.bind_eq_ok e
  obtain ⟨z, A3, e3, e⟩ := R.bind_eq_ok e
  split at e
  · split at e
    · rename_i hz
      cases e
      refine ⟨m, A, L, _, _, hr, lr, e1, fun m1 v H1 p1 k1 hr1 r1 => ?_⟩
      refine ⟨m1, _, L, _, _, hr1, lr.mono k1 p1, e2, fun m2 u H2 p2 k2 hr2 r2 => ?_⟩
      refine ⟨m2, _, L, _, _, hr2, (lr.mono k1 p1).mono k2 p2, e3, fun m3 u3 H3 p3 k3 hr3 r3 => ?_⟩
      simp only [Rep] at r1 r2 r3
      subst r1; subst r2; subst r3
      exact ⟨_, _, _, _, rfl, hz, post m3 H3 _ (p1.trans (p2.trans p3)) (k1.trans (k2.trans k3)) hr3 wk_rangeC⟩
    · cases e
  · cases e
theorem i_zipS {tpos kp cp : Pos} {elts : List Expr} {kk j : Nat} (hg : Gl X "zip") (hm : X.mg "zip" = none) (hs : noStar a = true) (hs2 : noStar b = true) (ha : EO X a fa) (hb : EO X b fb) : IO' X (.Tuple elts kk tpos) (.Call (.Name "zip" p) [a, b] [⟨some (Str.ofString "strict"), .Constant (.bool true) j cp, kp⟩] pos) (srcZipS fa fb) := by
  refine PI.weak (pi_zipS hg hm (pa_cons ha (pa_cons hb pa_nil (star_cons hs2)) (star_cons hs)) (star_cons hs) (star_none (by rw [List.all_cons, List.all_cons, hs, hs2]; rfl))) ?_
  rintro s H RR ⟨m, A, L, src, A', hr, lr, e, post⟩
  obtain ⟨x, A1, e1, e⟩ := R.bind_eq_ok e
  obtain ⟨y, A2, e2, e⟩ := R.bind_eq_ok e
  split at e
  · split at e
    · rename_i hz
      cases e
      refine ⟨m, A, L, _, _, hr, lr, e1, fun m1 v H1 p1 k1 hr1 r1 => ?_⟩
      refine ⟨m1, _, L, _, _, hr1, lr.mono k1 p1, e2, fun m2 u H2 p2 k2 hr2 r2 => ?_⟩
      obtain ⟨q1, us, rfl, t1, rp1⟩ := rep_tup r1
      obtain ⟨q2, vs, rfl, t2, rp2⟩ := rep_tup r2
      exact ⟨q1, q2, us, vs, rfl, (t1.mono k2).sq, t2.sq, post m2 H2 _ (p1.trans p2) (k1.trans k2) hr2 (wk_zipS hz (t1.mono k2) t2 (RepL.mono k2 p2 _ _ rp1) rp2)⟩
    · cases e
  · cases e
end
end Rf
namespace Rf
open PySem PySem.Spec PyProof.Rows L2
/-! comprehensions as expressions -/
section
variable {X : Cx}
theorem pts_yes : PTs X [] (tT X.K mYes) := by
  refine ⟨fun pins s q H Q I h => pts_nil.run pins s q H Q I ?_⟩
  obtain ⟨m, A, L, b, A', hr, lr, e, post⟩ := h
  cases e
  exact post m H (List.prefix_refl _) (Keep.refl _) hr
theorem pts_if {c : Expr} {f : M} (h : TO' X c f) : PTs X [c] (tT X.K (mTest f)) := pts_one h
theorem e_lc {elt tg iter : Expr} {ifs : List Expr} {scope : Scope} {own : List (Str × Nat)} {pos : Pos} {fs : MS} {g : TG} {t : T} {c : MB} {f : M} (hc : X.calm = true) (hN : X.N.Nodup) (hi : IO' X tg iter fs) (ok : BlkOk X.N X.env.scope scope own)
    (hg : ∀ (s : Shared) (H : Hp) (C : Addr) (cl : List (Str × Addr)) (fp : List Addr), PG (X.blk s H scope (compEnvC scope cl C X.env) fp) tg g) (tg' : TgOk X.K (own.map (·.2)) g t)
    (ht : ∀ (s : Shared) (H : Hp) (C : Addr) (cl : List (Str × Addr)) (fp : List Addr), PTs (X.blk s H scope (compEnvC scope cl C X.env) fp) ifs (tT X.K c))
    (he : ∀ (s : Shared) (H : Hp) (C : Addr) (cl : List (Str × Addr)) (fp : List Addr), EO (X.blk s H scope (compEnvC scope cl C X.env) fp) elt f) (hs : ∀ x, foldedSetIterable iter X.env x = pure x) :
    EO X (.ListComp elt [⟨tg, iter, ifs, 0⟩] scope pos) (mLc fs t c f (own.map (·.2))) :=
  PE.weak (pe_lc hc hN hi ok hg ht he hs) fun _ _ _ h => lc_of tg' h
theorem s_setLc {i : Nat} {y : Str} {py : Pos} {elt tg iter : Expr} {ifs : List Expr} {scope : Scope} {own : List (Str × Nat)} {pos spos : Pos} {fs : MS} {g : TG} {t : T} {c : MB} {f : M} (hc : X.calm = true) (hN : X.N.Nodup) (hy : X.N[i]? = some y) (hyl : X.env.scope.names.lookup y = some .local)
    (hsw : swapsWith (.ListComp elt [⟨tg, iter, ifs, 0⟩] scope pos) (some (.Name y py)) spos.line X.env = pure true) (hi : IO' X tg iter fs) (ok : BlkOk X.N X.env.scope scope own)
    (hg : ∀ (s : Shared) (H : Hp) (C : Addr) (cl : List (Str × Addr)) (fp : List Addr), PG (X.blk s H scope (compEnvC scope cl C X.env) fp) tg g) (tg' : TgOk X.K (own.map (·.2)) g t)
    (ht : ∀ (s : Shared) (H : Hp) (C : Addr) (cl : List (Str × Addr)) (fp : List Addr), PTs (X.blk s H scope (compEnvC scope cl C X.env) fp) ifs (tT X.K c))
    (he : ∀ (s : Shared) (H : Hp) (C : Addr) (cl : List (Str × Addr)) (fp : List Addr), EO (X.blk s H scope (compEnvC scope cl C X.env) fp) elt f) (hs : ∀ x, foldedSetIterable iter X.env x = pure x) :
    SO X (.Assign [.Name y py] (.ListComp elt [⟨tg, iter, ifs, 0⟩] scope pos) spos) (sAsg (mLc fs t c f (own.map (·.2))) (gVar i)) := by
  refine PS.weak (ps_setLc (te := tE X.K f) hc hN hy hyl hsw hi ok hg ht he hs) ?_
  rintro E s H ⟨m, A, L, o, A', hr, lr, e, post⟩
  obtain ⟨d, A1, e1, e⟩ := R.bind_eq_ok e
  obtain ⟨L1, A2, e2, e⟩ := R.bind_eq_ok e
  cases e2
  cases e
  refine lc_of tg' ⟨m, A, L, d, _, hr, lr, e1, fun m1 v H1 p1 k1 hr1 r1 => ?_⟩
  exact post m1 _ H1 p1 k1 hr1 ((lr.mono k1 p1).set r1)
end
/-! ### defs -/
/-- what a def promises, while no repr is under way -/
structure FnG (P : Program) (w : World) (K : PySem.W.Frag) (mg : Str → Option Value) (base : Heap) (k : Nat) (f : Addr) (fd : FuncData) (ps : List Str) (sp : List V → Hp → VK → Prop) : Prop where
  run : ∀ (A : Around) (outer : List Env) (s : Shared) (H : Hp) (args : Args) (us : List Value) (vs : List V) (Q : VK), Room k A → A.guards = some [] → Env0 P w K mg base A outer s H → BindsTo s fd args (ps.zip us) → Vals vs us →
    vs.length = ps.length → sp vs H Q →
    codeAny (model P w) A (.call (.ref f) args) (fun r s' => ∃ u, r = .ok (.ret u) ∧ CE outer P w H s Q u s') s
/-- the promise that the small semantics gives -/
def spG (K : PySem.W.Frag) (F : List D → Hpp → R D) : List V → Hp → VK → Prop := fun vs H Q => ∃ (m : List Addr) (A : Hpp) (ds : List D) (d : D) (A' : Hpp), HR K H m A ∧ RepL K H m ds vs ∧ F ds A = .ok d A' ∧ PostD K H m d A' Q
theorem HR.cutTo {K : PySem.W.Frag} {H : Hp} {m : List Addr} {A : Hpp} (hr : HR K H m A) {n : Nat} (hl : (A.take n).all (HOb.low n) = true) : HR K H (m.take n) (A.take n) where
  len := by simp [hr.len]
  inj := fun i j a o u e1 e2 f1 f2 m1 m2 => by
    have g : ∀ {α : Type} (l : List α) (i : Nat) (x : α), (l.take n)[i]? = some x → l[i]? = some x := fun l i x h => by
      have hi := (List.getElem?_eq_some_iff.mp h).1
      rw [List.length_take] at hi
      rwa [List.getElem?_take_of_lt (by omega)] at h
    exact hr.inj i j a o u (g _ _ _ e1) (g _ _ _ e2) (g _ _ _ f1) (g _ _ _ f2) m1 m2
  at_ := fun i a o e1 f1 => by
    have g : ∀ {α : Type} (l : List α) (i : Nat) (x : α), (l.take n)[i]? = some x → l[i]? = some x := fun l i x h => by
      have hi := (List.getElem?_eq_some_iff.mp h).1
      rw [List.length_take] at hi
      rwa [List.getElem?_take_of_lt (by omega)] at h
    have lo : HOb.low n o = true := List.all_eq_true.mp hl o (List.mem_of_getElem? f1)
    have x := hr.at_ i a o (g _ _ _ e1) (g _ _ _ f1)
    cases o with
    | lst ds => obtain ⟨vs, h1, h2⟩ := x; exact ⟨vs, h1, RepL.cut _ _ lo h2⟩
    | rd ds => obtain ⟨vs, h1, h2⟩ := x; exact ⟨vs, h1, RepL.cut _ _ lo h2⟩
    | dct ds => obtain ⟨vs, h1, h2⟩ := x; exact ⟨vs, h1, RepK.cut _ _ lo h2⟩
theorem HR.allLow {K : PySem.W.Frag} {H : Hp} {m : List Addr} {A : Hpp} (hr : HR K H m A) : A.all (HOb.low A.length) = true := by
  rw [List.all_eq_true]
  intro o ho
  obtain ⟨i, hi⟩ := List.getElem?_of_mem ho
  obtain ⟨a, ha⟩ := hr.addr hi
  have x := hr.at_ i a o ha hi
  rw [← hr.len]
  cases o with
  | lst ds => obtain ⟨vs, h1, h2⟩ := x; exact RepL.low _ _ h2
  | rd ds => obtain ⟨vs, h1, h2⟩ := x; exact RepL.low _ _ h2
  | dct ds => obtain ⟨vs, h1, h2⟩ := x; exact RepL.low _ _ (RepK.vals _ _ h2)
theorem take_pre {m m' : List Addr} {n : Nat} (h : m <+: m') (e : m.length = n) : m'.take n = m := by
  obtain ⟨t, rfl⟩ := h
  subst e
  simp
mutual
theorem low_zero : ∀ (d : D) (n : Nat), d.low 0 = true → d.low n = true
  | .non, _, _ => rfl
  | .bl _, _, _ => rfl
  | .int _, _, _ => rfl
  | .str _, _, _ => rfl
  | .tup l, n, h => by simp only [D.low] at h ⊢; exact lowL_zero l n h
  | .ref k, n, h => by simp [D.low] at h
theorem lowL_zero : ∀ (l : List D) (n : Nat), D.lowL 0 l = true → D.lowL n l = true
  | [], _, _ => rfl
  | d :: l, n, h => by
    simp only [D.lowL, Bool.and_eq_true] at h ⊢
    exact ⟨low_zero d n h.1, lowL_zero l n h.2⟩
end
theorem gc_ok {K : PySem.W.Frag} {H0 : Hp} {m0 : List Addr} {A0 : Hpp} {d d' : D} {A1 A' : Hpp} {Q : VK} (hr0 : HR K H0 m0 A0) (e : gcR A0 d A1 = .ok d' A') (post : PostD K H0 m0 d' A' Q) : PostD K H0 m0 d A1 Q := by
  intro m v H p k hr r
  have tk : m.take A0.length = m0 := take_pre p hr0.len
  unfold gcR at e
  split at e
  · cases e
    exact post m v H p k hr r
  split at e
  · rename_i h
    cases e
    have h2 : (A1.take A0.length).all (HOb.low A0.length) = true := by rw [h.2]; exact hr0.allLow
    have x := hr.cutTo h2
    rw [tk, h.2] at x
    have y := Rep.cut (n := A0.length) _ _ (low_zero _ _ h.1) r
    rw [tk] at y
    exact post m0 v H (List.prefix_refl _) k x y
  · split at e
    · rename_i h
      cases e
      have x := hr.cutTo h.2
      have y := Rep.cut (n := A0.length) _ _ h.1 r
      rw [tk] at x y
      exact post m0 v H (List.prefix_refl _) k x y
    · split at e
      · rename_i j _ _
        split at e
        · rename_i o ho
          split at e
          · rename_i h
            cases e
            simp only [Rep] at r
            obtain ⟨a, ha, rfl⟩ := r
            have x := hr.cutTo h.2.2
            rw [tk] at x
            have ln : (A1.take A0.length).length = A0.length := by rw [← x.len]; exact hr0.len
            have ob := hr.at_ j a o ha ho
            have obc : ObR K H (m0 ++ [a]) a o := by
              have cutl : ∀ (ds : List D) (vs : List V), D.lowL A0.length ds = true → RepL K H m ds vs → RepL K H (m0 ++ [a]) ds vs := fun ds vs lo rr => by
                have := RepL.cut (n := A0.length) ds vs lo rr
                rw [tk] at this
                exact RepL.mono (Keep.refl _) (List.prefix_append _ _) _ _ this
              cases o with
              | lst ds => obtain ⟨vs, h1, h2⟩ := ob; exact ⟨vs, h1, cutl ds vs h.2.1 h2⟩
              | rd ds => obtain ⟨vs, h1, h2⟩ := ob; exact ⟨vs, h1, cutl ds vs h.2.1 h2⟩
              | dct ds =>
                obtain ⟨vs, h1, h2⟩ := ob
                have := RepK.cut (n := A0.length) ds vs h.2.1 h2
                rw [tk] at this
                exact ⟨vs, h1, RepK.mono (Keep.refl _) (List.prefix_append _ _) _ _ this⟩
            have jl : A0.length ≤ j := h.1
            have y : HR K H (m0 ++ [a]) (A1.take A0.length ++ [o]) := by
              have gt : ∀ (i : Nat) (b : Addr), m0[i]? = some b → m[i]? = some b := fun i b q => Pre.get p q
              have gA : ∀ (i : Nat) (u : HOb), (A1.take A0.length)[i]? = some u → A1[i]? = some u := fun i u q => by
                have hi := (List.getElem?_eq_some_iff.mp q).1
                rw [List.length_take] at hi
                rwa [List.getElem?_take_of_lt (by omega)] at q
              have l0 : m0.length = A0.length := hr0.len
              have split : ∀ (i : Nat) (b : Addr) (u : HOb), (m0 ++ [a])[i]? = some b → (A1.take A0.length ++ [o])[i]? = some u → (i < A0.length ∧ m0[i]? = some b ∧ (A1.take A0.length)[i]? = some u) ∨ (i = A0.length ∧ b = a ∧ u = o) := fun i b u q1 q2 => by
                by_cases hi : i < A0.length
                · rw [List.getElem?_append_left (by omega)] at q1
                  rw [List.getElem?_append_left (by omega)] at q2
                  exact .inl ⟨hi, q1, q2⟩
                · have := (List.getElem?_eq_some_iff.mp q1).1
                  simp at this
                  have hi2 : i = A0.length := by omega
                  subst hi2
                  rw [List.getElem?_append_right (by omega)] at q1 q2
                  simp [l0] at q1
                  simp [ln] at q2
                  exact .inr ⟨rfl, q1.symm, q2.symm⟩
              refine ⟨by simp [ln, l0], fun i1 i2 b o1 o2 q1 q2 f1 f2 u1 u2 => ?_, fun i b u q1 f1 => ?_⟩
              · rcases split i1 b o1 q1 f1 with ⟨z1, z2, z3⟩ | ⟨z1, z2, z3⟩
                · rcases split i2 b o2 q2 f2 with ⟨w1, w2, w3⟩ | ⟨w1, w2, w3⟩
                  · exact hr.inj i1 i2 b o1 o2 (gt _ _ z2) (gt _ _ w2) (gA _ _ z3) (gA _ _ w3) u1 u2
                  · subst w2; subst w3
                    have := hr.inj i1 j _ o1 _ (gt _ _ z2) ha (gA _ _ z3) ho u1 u2
                    omega
                · rcases split i2 b o2 q2 f2 with ⟨w1, w2, w3⟩ | ⟨w1, w2, w3⟩
                  · subst z2; subst z3
                    have := hr.inj i2 j _ o2 _ (gt _ _ w2) ha (gA _ _ w3) ho u2 u1
                    omega
                  · rw [z1, w1]
              · rcases split i b u q1 f1 with ⟨z1, z2, z3⟩ | ⟨rfl, rfl, rfl⟩
                · have w := x.at_ i b u z2 z3
                  refine w.mono (Keep.refl _) (List.prefix_append _ _) (fun _ => rfl) fun _ _ q => q
                · exact obc
            refine post (m0 ++ [a]) (.ref a) H (List.prefix_append _ _) k y ?_
            simp only [Rep]
            exact ⟨a, by rw [← hr0.len]; simp, rfl⟩
          · cases e
            exact post m v H p k hr r
        · cases e
          exact post m v H p k hr r
      · cases e
        exact post m v H p k hr r
theorem enter_ok {n : Nat} {b : S} {ds : List D} {A A' : Hpp} {d : D} (e : enter n b ds A = .ok d A') : ∃ o A1 d1, b (ds.map some ++ List.replicate (n - ds.length) none) A = .ok o A1 ∧ gcR A d1 A1 = .ok d A' ∧ ((∃ L, o = .nx L ∧ d1 = .non) ∨ o = .rt d1) := by
  unfold enter at e
  split at e
  · rename_i L A1 h
    exact ⟨_, A1, .non, h, e, .inl ⟨L, rfl, rfl⟩⟩
  · rename_i d1 A1 h
    exact ⟨_, A1, d1, h, e, .inr rfl⟩
  · cases e
  · cases e
  · cases e
/-- a def of the text, by its body -/
theorem fnG_of {P : Program} {w : World} {K : PySem.W.Frag} {mg : Str → Option Value} {base : Heap} {k : Nat} {f : Addr} {name qual : Str} {params : Arguments} {body : List Stmt} {scope : Scope} {dV kV doc pm cdv ct oc : Value} {an od : Option Addr}
    {osl : Array (Option Value)} {N ps : List Str} {b : S} {nn : Nat} (lk : K.lookup f = some ⟨oc, od, .func (PySem.W.fnOf name qual params body scope dV kV doc pm an cdv ct), osl⟩) (hcd : PySem.W.codeIn K cdv qual = true) (sc : FnScope N ps scope) (hnn : nn = N.length) (hpn : ps.length ≤ N.length)
    (hbody : ∀ (A : Around) (outer : List Env) (s : Shared) (H : Hp), Room k (A.deeper (envOfC qual scope s.heap.objs.size f cdv)) → (A.deeper (envOfC qual scope s.heap.objs.size f cdv)).guards = some [] →
      SLO (cxOf (fun _ _ _ _ _ _ => False) P w K mg base N qual scope f cdv A outer s H (fun _ _ _ => False)).nox body b) :
    FnG P w K mg base (k + 1) f (PySem.W.fnOf name qual params body scope dV kV doc pm an cdv ct) ps (spG K fun ds A => if ds.length = ps.length then enter nn b ds A else .bad) := by
  refine ⟨fun A outer s H args us vs Q hr hg e0 hb r hl hsp => ?_⟩
  obtain ⟨m, Ah, ds, d, A', hR, rp, e, post⟩ := hsp
  have hin : K.In s.heap := e0.mod.kin.keeps fun b o q => (e0.bs b o q).1
  have nol : s.heap.NoLimit := e0.mod.nolimit.keeps fun b o q => (e0.bs b o q).1
  have kinds : ∀ y ∈ ps.zip us, scope.names.lookup y.1 = some .local ∨ (scope.names.lookup y.1 = some .cell ∧ ((cellsFrom (s.heap.objs.size + 1) scope.names []).lookup y.1).isSome = true) := by
    rintro ⟨n, v⟩ hy
    rcases sc.par n (List.of_mem_zip hy).1 with q | q
    · exact .inl q
    · exact .inr ⟨q, PySem.W.cellsFrom_some _ _ _ (.inl q)⟩
  simp only at e
  split at e
  · rename_i hdl
    obtain ⟨o, A1, d1, e1, e2, ho⟩ := enter_ok e
    have post1 : PostD K H m d1 A1 Q := gc_ok hR e2 post
    refine codeAny_call_function hr.depth (hin _ _ lk) rfl sc.co sc.gen rfl (PySem.W.codeRec_of hin hcd) (hb _ _ _ _ ?_)
    refine wpAny_newFunctionEnv_cells sc.kind kinds fun env he s1 x => ?_
    subst he
    refine ⟨nol.keeps x.toInCall.keep, codeAny_func ?_⟩
    have I := inv_start (CX := fun _ _ _ _ _ _ => False) (E := fun _ _ _ => False) (cd := cdv) sc hr.hd e0 hl r x
    have bd := hbody A outer s H (hr.deeper _) hg
    have st : tS K b { nx := fun _ H' => Q .non H', rt := Q } (start N vs) H := by
      refine ⟨m, Ah, _, o, A1, hR, LR.start rp (by rw [hl]; exact hpn), by rw [← hnn]; exact e1, ?_⟩
      rcases ho with ⟨L, rfl, rfl⟩ | rfl
      · exact fun m' s' H' p' k' hr' lr' => post1 m' .non H' p' k' hr' rfl
      · exact post1
    refine wpAny_mono (bd.run [] s1 (start N vs) H _ (I.wish _) st) (fun fl s' hs => ?_) fun e s' hs => False.elim hs
    have last : ∀ {q' : L2.St} {H' : Hp} {v : V} {u : Value}, Inv (cxOf (fun _ _ _ _ _ _ => False) P w K mg base N qual scope f cdv A outer s H (fun _ _ _ => False)) [] q' H' s' → RelV v u → Q v H' → CE outer P w H s Q u s' :=
      fun J rv q => ⟨_, _, J.os, J.bare, J.base, J.hok, rv, q⟩
    cases fl with
    | ret u =>
      obtain ⟨v, q', H', J, rv, q⟩ := hs
      exact ⟨u, rfl, last J.unwish rv q⟩
    | next =>
      obtain ⟨q', H', J, q⟩ := hs
      exact ⟨_, rfl, last (v := V.non) (u := Value.none) J.unwish rfl q⟩
    | brk =>
      obtain ⟨_, _, _, q⟩ := hs
      exact False.elim q
    | cont =>
      obtain ⟨_, _, _, q⟩ := hs
      exact False.elim q
  · cases e
end Rf
namespace Rf
open PySem PySem.Spec PyProof.Rows L2
section
variable {X : Cx} {e : Expr} {f : M} {kws : List Keyword} {r : ML}
abbrev KO (X : Cx) (kws : List Keyword) (r : ML) : Prop := PK X kws (tL X.K r)
theorem k_nil : KO X [] mNil := by
  refine PK.weak pk_nil ?_
  rintro s H Q ⟨m, A, L, ds, A', hr, lr, e, post⟩
  cases e
  exact post m [] H (List.prefix_refl _) (Keep.refl _) hr rfl
theorem k_cons {nm : Option Str} {kpos : Pos} (ha : EO X e f) (hr : KO X kws r) : KO X (⟨nm, e, kpos⟩ :: kws) (mCons f r) := PK.weak (pk_cons ha hr) fun _ _ _ h => cons_of h
end
/-- how values come to the parameters -/
def GatherR (K : PySem.W.Frag) : List G → List Value → List Value → List Value → Prop
  | [], _, _, zs => zs = []
  | g :: gs, us, ws, zs => ∃ z r, zs = z :: r ∧ (match g with
      | .pos j => us[j]? = some z
      | .kw j => ws[j]? = some z
      | .df d => ∃ v, RelV v z ∧ ∀ H m, Rep K H m d v) ∧ GatherR K gs us ws r
theorem gather_ok {K : PySem.W.Frag} {H : Hp} {m : List Addr} {ds es : List D} {vs ys : List V} {us ws : List Value} (r1 : RepL K H m ds vs) (r2 : RepL K H m es ys) (q1 : Vals vs us) (q2 : Vals ys ws) :
    ∀ {gs : List G} {zs : List Value} {as : List D}, GatherR K gs us ws zs → gather gs ds es = some as → ∃ xs, Vals xs zs ∧ RepL K H m as xs
  | [], zs, as, g, e => by
    cases g
    simp only [gather, List.map_nil, optAll, Option.some.injEq] at e
    subst e
    exact ⟨[], .nil, rfl⟩
  | g :: gs, zs, as, h, e => by
    obtain ⟨z, t, rfl, hz, ht⟩ := h
    unfold gather at e
    rw [List.map_cons] at e
    have step : ∀ (x : D) (v : V), Rep K H m x v → RelV v z → (optAll (some x :: gs.map fun
        | .pos j => ds[j]?
        | .kw j => es[j]?
        | .df d => some d)) = some as → ∃ xs, Vals xs (z :: t) ∧ RepL K H m as xs := fun x v rx rv q => by
      simp only [optAll] at q
      obtain ⟨as', h1, h2⟩ := Option.map_eq_some_iff.mp q
      subst h2
      obtain ⟨xs, a, b⟩ := gather_ok r1 r2 q1 q2 ht h1
      exact ⟨v :: xs, .cons rv a, v, xs, rfl, rx, b⟩
    cases g with
    | pos j =>
      simp only at e hz
      cases q : ds[j]? with
      | none => rw [q] at e; simp [optAll] at e
      | some x =>
        rw [q] at e
        obtain ⟨v, hv, rx⟩ := r1.get q
        obtain ⟨u, hu, rv⟩ := q1.get hv
        rw [hz] at hu
        cases hu
        exact step x v rx rv e
    | kw j =>
      simp only at e hz
      cases q : es[j]? with
      | none => rw [q] at e; simp [optAll] at e
      | some x =>
        rw [q] at e
        obtain ⟨v, hv, rx⟩ := r2.get q
        obtain ⟨u, hu, rv⟩ := q2.get hv
        rw [hz] at hu
        cases hu
        exact step x v rx rv e
    | df d =>
      obtain ⟨v, rv, rx⟩ := hz
      exact step d v (rx H m) rv e
/-- a call's pattern binds so -/
def BindOk (K : PySem.W.Frag) (fd : FuncData) (ps : List Str) (n : Nat) (ks : List Str) (gs : List G) : Prop :=
  ∀ (s : Shared) (us ws : List Value), K.In s.heap → us.length = n → ws.length = ks.length → ∃ zs, zs.length = ps.length ∧ BindsTo s fd ⟨us, ks.zip ws⟩ (ps.zip zs) ∧ GatherR K gs us ws zs
section
variable {X : Cx}
theorem run_G {k n : Nat} {f : Addr} {fd : FuncData} {ps ks : List Str} {gs : List G} {Fi : List D → Hpp → R D} {pins : List (Addr × Obj)} {q : L2.St} {H : Hp} {s : Shared} {Q : VK} {us ws : List Value} {vs ys : List V} {m : List Addr} {A A' : Hpp} {ds es as : List D} {d : D}
    (F : FnG X.prog X.w X.K X.mg X.base k f fd ps (spG X.K Fi)) (hr : Room k X.A) (hg : X.A.guards = some []) (hb : BindOk X.K fd ps n ks gs) (I : Inv X pins q H s) (r : Vals vs us) (rz : Vals ys ws) (h : HR X.K H m A) (r1 : RepL X.K H m ds vs) (r2 : RepL X.K H m es ys)
    (l1 : ds.length = n) (l2 : es.length = ks.length) (eg : gather gs ds es = some as) (e : Fi as A = .ok d A') (post : PostD X.K H m d A' Q) :
    wpAny (model X.prog X.w) X.A (call (.ref f) us (ks.zip ws)) (EP X pins q Q) X.xe s := by
  obtain ⟨zs, lz, bz, gz⟩ := hb s us ws I.kIn (by rw [← r.length, r1.length]; exact l1) (by rw [← rz.length, r2.length]; exact l2)
  obtain ⟨xs, vx, rx⟩ := gather_ok r1 r2 r rz gz eg
  refine wpAny_call (codeAny_mono (F.run X.A X.stack s H ⟨us, ks.zip ws⟩ zs xs Q hr hg I.env0 bz vx (by rw [vx.length]; exact lz) ⟨m, A, as, d, A', h, rx, e, post⟩) fun res s' hq => ?_)
  obtain ⟨u, rfl, hq⟩ := hq
  exact I.after hq
theorem kw_all {pos : Pos} {env : Env} : ∀ {kws : List Keyword}, kws.all (fun k => k.arg.isSome) = true → (backToKw pos (keywordEach kws env)).all (·.1.isSome) = true ∧ (backToKw pos (keywordEach kws env)).any (·.1.isNone) = false
  | [], _ => ⟨rfl, rfl⟩
  | ⟨nm, v, p⟩ :: kws, h => by
    rw [List.all_cons, Bool.and_eq_true] at h
    obtain ⟨a, b⟩ := kw_all (pos := pos) (env := env) h.2
    have hn : nm.isSome = true := h.1
    have e : backToKw pos (keywordEach (⟨nm, v, p⟩ :: kws) env) = (nm, do let x ← eval v env; standAt pos; pure x) :: backToKw pos (keywordEach kws env) := rfl
    rw [e, List.all_cons, List.any_cons, a, b]
    cases nm with
    | none => cases hn
    | some x => exact ⟨rfl, rfl⟩
theorem kw_names {pos : Pos} {env : Env} : ∀ {kws : List Keyword}, (backToKw pos (keywordEach kws env)).filterMap (·.1) = kws.filterMap (·.arg)
  | [] => rfl
  | ⟨nm, v, p⟩ :: kws => by
    have e : backToKw pos (keywordEach (⟨nm, v, p⟩ :: kws) env) = (nm, do let x ← eval v env; standAt pos; pure x) :: backToKw pos (keywordEach kws env) := rfl
    rw [e, List.filterMap_cons, List.filterMap_cons, kw_names]
theorem e_call {e0 : Expr} {k n i : Nat} {f : Addr} {fd : FuncData} {ps ks : List Str} {gs : List G} {F : FE} {x : Str} {p pos : Pos} {es : List Expr} {kws : List Keyword} {r kr : ML}
    (G' : FnG X.prog X.w X.K X.mg X.base k f fd ps (spG X.K (F i))) (hr : Room k X.A) (hg : X.A.guards = some []) (gl : Gl X x) (hm : X.mg x = some (.ref f)) (hk : PySem.W.keepIn X.K (.ref f) = true) (hb : BindOk X.K fd ps n ks gs)
    (hs : (e0 :: es).all noStar = true) (hkn : kws.all (fun k => k.arg.isSome) = true) (hks : kws.filterMap (·.arg) = ks) (hdb : (x == ("__debug__" : Str)) = false) (ha : AO X (e0 :: es) r) (hkw : KO X kws kr) :
    EO X (.Call (.Name x p) (e0 :: es) kws pos) (mCall F i n ks.length gs r kr) := by
  refine ⟨fun pins s q H Q I h => ?_⟩
  obtain ⟨m, A, L, d, A', hR, lr, e, post⟩ := h
  unfold mCall mCallV at e
  obtain ⟨us, A1, e1, e⟩ := R.bind_eq_ok e
  obtain ⟨ws, A2, e2, e⟩ := R.bind_eq_ok e
  split at e
  · rename_i hl
    split at e
    · rename_i as eg
      refine wpAny_Call_Name_kw (ld_glob I gl hm ?_ hdb)
      obtain ⟨kall, kno⟩ := kw_all (pos := pos) (env := X.env) hkn
      have fin : ∀ (us' ws' : List Value) (s2 : Shared) (vs ys : List V) (H1 H2 : Hp) (m1 m2 : List Addr), Vals vs us' → Vals ys ws' → Inv X pins q H2 s2 → m <+: m1 → Keep H H1 → m1 <+: m2 → Keep H1 H2 → HR X.K H2 m2 A2 → RepL X.K H1 m1 us vs → RepL X.K H2 m2 ws ys →
          wpAny (model X.prog X.w) X.A (call (.ref f) us' (((backToKw pos (keywordEach kws X.env)).filterMap (·.1)).zip ws')) (EP X pins q Q) X.xe s2 := fun us' ws' s2 vs ys H1 H2 m1 m2 r1 r2 I2 p1 k1 p2 k2 hr2 q1 q2 => by
        rw [kw_names, hks]
        exact run_G G' hr hg hb I2 r1 r2 hr2 (RepL.mono k2 p2 _ _ q1) q2 hl.1 hl.2 eg e ((post.later p1 k1).later p2 k2)
      rw [List.all_cons, Bool.and_eq_true] at hs
      refine PySem.W.callWith_KW (h₀ := X.base) I.ok.mod.kin hk kall ?_ (by rw [star_none (by rw [List.all_cons, hs.1, hs.2]; rfl), kno]; rfl) (star_cons hs.1)
      refine thn (ha.run pos pins s q H (fun vs H1 => ∃ m1, m <+: m1 ∧ Keep H H1 ∧ HR X.K H1 m1 A1 ∧ RepL X.K H1 m1 us vs) I ⟨m, A, L, us, A1, hR, lr, e1, fun m1 vs H1 p1 k1 hr1 q1 => ⟨m1, p1, k1, hr1, q1⟩⟩) fun us' s1 ⟨vs, H1, I1, rv, m1, p1, k1, hr1, q1⟩ => ?_
      refine thn (hkw.run pos pins s1 q H1 (fun ys H2 => ∃ m2, m1 <+: m2 ∧ Keep H1 H2 ∧ HR X.K H2 m2 A2 ∧ RepL X.K H2 m2 ws ys) I1 ⟨m1, A1, L, ws, A2, hr1, lr.mono k1 p1, e2, fun m2 ys H2 p2 k2 hr2 q2 => ⟨m2, p2, k2, hr2, q2⟩⟩) fun ws' s2 ⟨ys, H2, I2, ry, m2, p2, k2, hr2, q2⟩ => ⟨I2.kIn, ?_⟩
      exact fin us' ws' s2 vs ys H1 H2 m1 m2 rv ry I2 p1 k1 p2 k2 hr2 q1 q2
    · cases e
  · cases e
theorem e_call0 {k i : Nat} {f : Addr} {fd : FuncData} {ps ks : List Str} {gs : List G} {F : FE} {x : Str} {p pos : Pos} {kws : List Keyword} {kr : ML}
    (G' : FnG X.prog X.w X.K X.mg X.base k f fd ps (spG X.K (F i))) (hr : Room k X.A) (hg : X.A.guards = some []) (gl : Gl X x) (hm : X.mg x = some (.ref f)) (hk : PySem.W.keepIn X.K (.ref f) = true) (hb : BindOk X.K fd ps 0 ks gs)
    (hkn : kws.all (fun k => k.arg.isSome) = true) (hks : kws.filterMap (·.arg) = ks) (hdb : (x == ("__debug__" : Str)) = false) (hkw : KO X kws kr) :
    EO X (.Call (.Name x p) [] kws pos) (mCall F i 0 ks.length gs mNil kr) := by
  refine ⟨fun pins s q H Q I h => ?_⟩
  obtain ⟨m, A, L, d, A', hR, lr, e, post⟩ := h
  unfold mCall mCallV at e
  obtain ⟨us, A1, e1, e⟩ := R.bind_eq_ok e
  cases e1
  obtain ⟨ws, A2, e2, e⟩ := R.bind_eq_ok e
  split at e
  · rename_i hl
    split at e
    · rename_i as eg
      refine wpAny_Call_Name_kw (ld_glob I gl hm ?_ hdb)
      obtain ⟨kall, kno⟩ := kw_all (pos := pos) (env := X.env) hkn
      refine PySem.W.callWith_KW0 (h₀ := X.base) I.ok.mod.kin hk kall ?_ (by rw [kno]; rfl)
      refine thn (hkw.run pos pins s q H (fun ys H2 => ∃ m2, m <+: m2 ∧ Keep H H2 ∧ HR X.K H2 m2 A2 ∧ RepL X.K H2 m2 ws ys) I ⟨m, _, L, ws, A2, hR, lr, e2, fun m2 ys H2 p2 k2 hr2 q2 => ⟨m2, p2, k2, hr2, q2⟩⟩) fun ws' s2 ⟨ys, H2, I2, ry, m2, p2, k2, hr2, q2⟩ => ⟨I2.kIn, ?_⟩
      rw [kw_names, hks]
      exact run_G (us := []) (vs := []) (ds := []) G' hr hg hb I2 .nil ry hr2 rfl q2 rfl hl.2 eg e (post.later p2 k2)
    · cases e
  · cases e
end
section
variable {X : Cx}
/-- a built-in called with keywords -/
theorem e_callBK {x : Str} {id : String} {ks : List Str} {g : List D → List D → Hpp → R D} {e : Expr} {es : List Expr} {kws : List Keyword} {r k : ML} {p pos : Pos} (hc : CallRK' X id ks g) (hg : Gl X x) (hm : X.mg x = none) (hv : bootBuiltins x = some (.builtin id))
    (hs : (e :: es).all noStar = true) (hkn : kws.all (fun k => k.arg.isSome) = true) (hks : kws.filterMap (·.arg) = ks) (ha : AO X (e :: es) r) (hkw : KO X kws k)
    (hn : x ≠ "__name__") (hdb : (x == ("__debug__" : Str)) = false) : EO X (.Call (.Name x p) (e :: es) kws pos) (mBK g r k) := by
  have hs' := hs
  rw [List.all_cons, Bool.and_eq_true] at hs'
  refine PE.weak (pe_callBK hc hg hm hv ha hkw hn hdb ?_ ?_ (kw_all hkn).1 (kw_all hkn).2 (by rw [kw_names]; exact hks)) ?_
  · rw [star_cons hs'.1]; rfl
  · exact star_none hs
  · rintro s H Q ⟨m, A, L, d, A', hr, lr, e, post⟩
    obtain ⟨xs, A1, e1, e⟩ := R.bind_eq_ok e
    obtain ⟨ys, A2, e2, e⟩ := R.bind_eq_ok e
    refine ⟨m, A, L, xs, A1, hr, lr, e1, fun m1 vs H1 p1 k1 hr1 r1 => ?_⟩
    refine ⟨m1, A1, L, ys, A2, hr1, lr.mono k1 p1, e2, fun m2 ws H2 p2 k2 hr2 r2 => ?_⟩
    exact ⟨m2, A2, xs, ys, d, A', hr2, RepL.mono k2 p2 _ _ r1, r2, e, (post.later p1 k1).later p2 k2⟩
end
end Rf
namespace Rf
open PySem PySem.Spec PyProof.Rows L2
structure FnI where
  name : Str
  qual : Str
  params : Arguments
  body : List Stmt
  scope : Scope
  N : List Str
  ps : List Str
structure Pat where
  i : Nat
  n : Nat
  ks : List Str
  gs : List G
/-- what is known of the module: defs, patterns of calls, constants, names of built-ins that the module leaves alone -/
structure Tb where
  fns : List FnI
  pats : List Pat
  consts : List (Str × D)
  nos : List Str
/-- where one stands: the names by slot, the scope, the block's own scope within a comprehension -/
structure Cxt where
  N : List Str
  sc : Scope
  inner : Option Scope
def Cxt.fn (c : Cxt) (x : Str) : Bool := match c.inner with
  | none => true
  | some s => s.names.lookup x == some .cell
def visB (sc : Scope) (x : Str) : Bool := match sc.names.lookup x with
  | some .local => true
  | some .cell => true
  | some .free => true
  | _ => false
def locB (c : Cxt) (x : Str) : Bool := match c.sc.names.lookup x with
  | some .local => true
  | some .cell => c.fn x
  | _ => false
def glB (sc : Scope) (x : Str) : Bool := match sc.names.lookup x with
  | some .globalImplicit => true
  | _ => false
def okName (x : Str) : Bool := !(x == ("__debug__" : Str)) && !(x == ("__classdict__" : Str)) && !(x == ("__name__" : Str))
def slot (c : Cxt) (x : Str) : Option Nat := if c.N[c.N.idxOf x]? = some x then some (c.N.idxOf x) else none
def when {α : Type} (b : Bool) (x : Option α) : Option α := if b = true then x else none
theorem when_some {α : Type} {b : Bool} {x : Option α} {a : α} (h : when b x = some a) : b = true ∧ x = some a := by
  unfold when at h
  split at h
  · rename_i q; exact ⟨q, h⟩
  · cases h
def trName (B : Tb) (c : Cxt) (x : Str) : Option M := when (okName x) (if visB c.sc x = true then (slot c x).bind fun i => some (mVar i) else when (glB c.sc x) ((B.consts.find? fun p => decide (p.1 = x)).bind fun p => some (mC p.2)))
def trArgs (te : Expr → Option M) : List Expr → Option ML
  | [] => some mNil
  | e :: es => when (noStar e) ((te e).bind fun f => (trArgs te es).bind fun r => some (mCons f r))
def trKws (te : Expr → Option M) : List Keyword → Option ML
  | [] => some mNil
  | k :: ks => when k.arg.isSome ((te k.value).bind fun f => (trKws te ks).bind fun r => some (mCons f r))
def trBool (te : Expr → Option M) (op : BoolOp) : List Expr → Option M
  | [] => none
  | [e] => te e
  | e :: es => (te e).bind fun f => (trBool te op es).bind fun r => some (match op with | .And => mAnd f r | .Or => mOr f r)
def trPairs (te : Expr → Option M) : List (Option Expr) → List Expr → Option (List (M × M))
  | [], [] => some []
  | some k :: ks, v :: vs => (te k).bind fun fk => (te v).bind fun fv => (trPairs te ks vs).bind fun r => some ((fk, fv) :: r)
  | _, _ => none
def trPart (te : Expr → Option M) : Option Expr → Option MO
  | none => some oNone
  | some e => (te e).bind fun f => some (oSome f)
inductive BI where
  | f (id : String) (op : List D → Hpp → R D) | t (id : String) (op : List D → Hpp → R D)
def builtinOf (x : Str) (n : Nat) : Option BI :=
  if x = "len" then some (.f "len" bLen)
  else if x = "ord" then some (.f "ord" bOrd)
  else if x = "repr" then some (.f "repr" bRepr)
  else if x = "all" then some (.f "all" bAll)
  else if x = "any" then some (.f "any" bAny)
  else if x = "min" ∧ n = 2 then some (.f "min" bMin2)
  else if x = "max" ∧ n = 2 then some (.f "max" bMax2)
  else if x = "tuple" then some (.t "tuple" bTuple)
  else if x = "list" then some (.t "list" bList)
  else if x = "int" then some (.t "int" bInt)
  else if x = "str" then some (.t "str" bStr)
  else if x = "dict" then some (.t "dict" bDict)
  else none
def tyOf (x : Str) : Option Ty :=
  if x = "int" then some .int else if x = "bool" then some .bool else if x = "str" then some .str else if x = "tuple" then some .tuple else if x = "list" then some .list else none
def biM : BI → ML → M
  | .f _ op, r => mB op r
  | .t _ op, r => mB op r
def trIsi (B : Tb) (c : Cxt) (te : Expr → Option M) : List Expr → Option M
  | [e, .Name y _] => when (okName y && glB c.sc y && B.nos.contains y && noStar e) ((tyOf y).bind fun T => (te e).bind fun f => some (mUn (opIsi T) f))
  | _ => none
def trBi (te : Expr → Option M) (x : Str) : List Expr → Option M
  | [] => none
  | e :: es => (builtinOf x (es.length + 1)).bind fun b => (trArgs te (e :: es)).bind fun r => some (biM b r)
def tupOrList (x : Str) : Option Bool := if x = "tuple" then some true else if x = "list" then some false else none
/-- tuple(range(..)), list(range(..)) -/
def trRg (B : Tb) (c : Cxt) (te : Expr → Option M) (x : Str) (args : List Expr) : Option M :=
  match args with
  | [.Call (.Name y _) ra [] _] => when (decide (y = "range") && glB c.sc y && B.nos.contains y) ((tupOrList x).bind fun k => match ra with
    | [a] => when (noStar a) ((te a).bind fun f => some (mRg1 k f))
    | [a, b] => when (noStar a && noStar b) ((te a).bind fun f => (te b).bind fun g => some (mRg2 k f g))
    | _ => none)
  | _ => none
def orElse' {α : Type} (a b : Option α) : Option α := match a with | some x => some x | none => b
def trFn (B : Tb) (F : FE) (te : Expr → Option M) (x : Str) (args : List Expr) (kws : List Keyword) : Option M :=
  (B.pats.find? fun p => decide ((B.fns[p.i]?.map (·.name)) = some x ∧ p.n = args.length ∧ p.ks = kws.filterMap (·.arg))).bind fun p =>
    (trArgs te args).bind fun r => (trKws te kws).bind fun k => some (mCall F p.i p.n p.ks.length p.gs r k)
/-- sum(x, start=0) -/
def trSumK (te : Expr → Option M) (x : Str) (args : List Expr) (kws : List Keyword) : Option M :=
  when (decide (x = "sum") && decide (kws.filterMap (·.arg) = [("start" : Str)])) (match args with
    | e :: es => (trArgs te (e :: es)).bind fun r => (trKws te kws).bind fun k => some (mBK bSumK r k)
    | [] => none)
/-- a call by name -/
def trCall (B : Tb) (F : FE) (c : Cxt) (te : Expr → Option M) (x : Str) (args : List Expr) (kws : List Keyword) : Option M :=
  when (okName x && glB c.sc x) (
    if B.nos.contains x = true then orElse' (trSumK te x args kws) <| when kws.isEmpty (if x = "isinstance" then trIsi B c te args else orElse' (trRg B c te x args) (trBi te x args))
    else trFn B F te x args kws)
def trMeth (te : Expr → Option M) (o : Expr) (name : Str) (apos cpos : Pos) (args : List Expr) : Option M :=
  when (plainBase o && (apos.endLine == cpos.line) && decide (args.length < 25)) (
    if name = "append" then (match args with
      | [e] => (te o).bind fun fo => (trArgs te [e]).bind fun r => some (mMeth isLst mAppend fo r)
      | _ => none)
    else if name = "extend" then (match args with
      | [e] => (te o).bind fun fo => (trArgs te [e]).bind fun r => some (mMeth isLst mExtend fo r)
      | _ => none)
    else if name = "join" then (match args with
      | [e] => (te o).bind fun fo => (trArgs te [e]).bind fun r => some (mMeth isStrD mJoin fo r)
      | _ => none)
    else if name = "upper" then (match args with
      | [] => (te o).bind fun fo => some (mUn opUpper fo)
      | _ => none)
    else none)
/-- what a for walks -/
def isTup : Expr → Bool
  | .Tuple .. => true
  | _ => false
def trSrc (B : Tb) (c : Cxt) (te : Expr → Option M) (tg e : Expr) : Option MS :=
  match e with
  | .Call (.Name x p) [a, b] [⟨some kn, .Constant (.bool true) j cp, kp⟩] pos => when (decide (x = "zip") && decide (kn = "strict") && glB c.sc x && B.nos.contains x && noStar a && noStar b && isTup tg) ((te a).bind fun f => (te b).bind fun g => some (srcZipS f g))
  | .Call (.Name x p) [a, b, d] [] pos => if x = "range" ∧ glB c.sc x = true ∧ B.nos.contains x = true ∧ noStar a = true ∧ noStar b = true ∧ noStar d = true then (te a).bind fun f => (te b).bind fun g => (te d).bind fun h => some (srcRange3 f g h) else (te e).bind fun f => some (srcSeq f)
  | .Call (.Name x p) [a] [] pos => if x = "range" ∧ glB c.sc x = true ∧ B.nos.contains x = true ∧ noStar a = true then (te a).bind fun f => some (srcRange1 f) else (te e).bind fun f => some (srcSeq f)
  | .Call (.Name x p) [a, b] [] pos => if x = "range" ∧ glB c.sc x = true ∧ B.nos.contains x = true ∧ noStar a = true ∧ noStar b = true then (te a).bind fun f => (te b).bind fun g => some (srcRange2 f g) else (te e).bind fun f => some (srcSeq f)
  | .Set _ _ _ => none
  | e => (te e).bind fun f => some (srcSeq f)
def trTgName (c : Cxt) : Expr → Option Nat
  | .Name x _ => when (locB c x) (slot c x)
  | _ => none
def trTgNames (c : Cxt) : List Expr → Option (List Nat)
  | [] => some []
  | e :: es => (trTgName c e).bind fun i => (trTgNames c es).bind fun l => some (i :: l)
/-- names with one star among them: how many ahead of it, how many behind, the slots -/
def trStar (c : Cxt) : List Expr → Option (Nat × Nat × List Nat)
  | [] => none
  | .Starred e _ :: es => (trTgName c e).bind fun i => (trTgNames c es).bind fun l => when (es.all noStar) (some (0, es.length, i :: l))
  | e :: es => when (noStar e) ((trTgName c e).bind fun i => (trStar c es).bind fun r => some (r.1 + 1, r.2.1, i :: r.2.2))
def tlOf : List Nat → TL
  | [] => gNil'
  | i :: l => gCons' (gVar i) (tlOf l)
/-- a comprehension's own names -/
def ownOf (N : List Str) (scope : Scope) : List (Str × Nat) := (scope.names.filter fun y => (y.2 == .local || y.2 == .cell) && N.contains y.1).map fun y => (y.1, N.idxOf y.1)
def trTgC (c : Cxt) (own : List Nat) (tg : Expr) : Option T :=
  match tg with
  | .Name x p => (trTgName c (.Name x p)).bind fun i => when (own.contains i) (some (gVar i))
  | .Tuple es _ _ => (trTgNames c es).bind fun l => when (l.all own.contains) (some (gTupT' (tlOf l)))
  | _ => none
def trIfs (te : Expr → Option M) : List Expr → Option MB
  | [] => some mYes
  | [e] => (te e).bind fun f => some (mTest f)
  | _ => none
def inBlk (c : Cxt) (scope : Scope) : Cxt := ⟨c.N, relS scope c.sc, some scope⟩
def trE (B : Tb) (F : FE) : Nat → Cxt → Expr → Option M
  | 0, _, _ => none
  | n + 1, c, e => match e with
    | .Constant k _ _ => (match k with
      | .int i => some (mC (.int i))
      | .bool b => some (mC (.bl b))
      | .str s => some (mC (.str s))
      | .none => some (mC .non)
      | _ => none)
    | .Name x _ => trName B c x
    | .BinOp a op b _ => (binOf op).bind fun g => (trE B F n c a).bind fun fa => (trE B F n c b).bind fun fb => some (mBin g fa fb)
    | .UnaryOp op a _ => (match op with
      | .Not => (trE B F n c a).bind fun f => some (mNot f)
      | .USub => (trE B F n c a).bind fun f => some (mUn opNeg f)
      | _ => none)
    | .BoolOp op vs _ => trBool (trE B F n c) op vs
    | .IfExp t a b _ => (trE B F n c t).bind fun ft => (trE B F n c a).bind fun fa => (trE B F n c b).bind fun fb => some (mIf ft fa fb)
    | .Compare a ops cs _ => (match ops, cs with
      | [op], [b] => when (!behindInMarks op b) ((cmpOf op).bind fun g => (trE B F n c a).bind fun fa => (trE B F n c b).bind fun fb => some (mBin g fa fb))
      | [op, op'], [b, d] => when (!lastMarks [op, op'] [b, d]) ((cmpOf op).bind fun g => (cmpOf op').bind fun g' => (trE B F n c a).bind fun fa => (trE B F n c b).bind fun fb => (trE B F n c d).bind fun fd => some (mChain g g' fa fb fd))
      | _, _ => none)
    | .Tuple es _ _ => (trArgs (trE B F n c) es).bind fun r => some (mTup r)
    | .List es _ => (trArgs (trE B F n c) es).bind fun r => some (mLst r)
    | .Dict ks vs _ => when (ks.all (·.isSome) && decide (ks.length = vs.length) && !ks.isEmpty && decide (ks.length ≤ 15)) ((trPairs (trE B F n c) ks vs).bind fun r => some (mDict r))
    | .Subscript a s _ => (match s with
      | .Slice none none (some (.UnaryOp .USub (.Constant (.int 1) _ _) _)) _ => (trE B F n c a).bind fun f => some (mUn opRev f)
      | .Slice lo hi none _ => (trE B F n c a).bind fun f => (trPart (trE B F n c) lo).bind fun l => (trPart (trE B F n c) hi).bind fun h => some (mSlice f l h)
      | s => when (plainIx s) ((trE B F n c a).bind fun fa => (trE B F n c s).bind fun fb => some (mBin opIx fa fb)))
    | .Call fe args kws cpos => (match fe with
      | .Name x _ => trCall B F c (trE B F n c) x args kws
      | .Attribute o name apos => when kws.isEmpty (trMeth (trE B F n c) o name apos cpos args)
      | _ => none)
    | .ListComp elt gens scope _ => (match gens with
      | [⟨tg, iter, ifs, 0⟩] => when (blkC c.N c.sc scope (ownOf c.N scope)) (
          (trSrc B c (trE B F n c) tg iter).bind fun fs => (trTgC (inBlk c scope) ((ownOf c.N scope).map (·.2)) tg).bind fun t =>
          (trIfs (trE B F n (inBlk c scope)) ifs).bind fun fc => (trE B F n (inBlk c scope) elt).bind fun f => some (mLc fs t fc f ((ownOf c.N scope).map (·.2))))
      | _ => none)
    | _ => none
/-- a value that is no comprehension -/
def notComp : Expr → Bool
  | .ListComp .. => false
  | .SetComp .. => false
  | .DictComp .. => false
  | _ => true
def notTup : Expr → Bool
  | .Tuple .. => false
  | _ => true
def notSeq : Expr → Bool
  | .Tuple .. => false
  | .List .. => false
  | _ => true
def trTg (te : Expr → Option M) (c : Cxt) : Nat → Expr → Option T
  | 0, _ => none
  | n + 1, tg => match tg with
    | .Name x p => (trTgName c (.Name x p)).bind fun i => some (gVar i)
    | .Tuple es _ _ => if es.all noStar = true then (trTgNames c es).bind fun l => some (gTup' (tlOf l)) else (trStar c es).bind fun r => some (gStar' r.1 r.2.1 (tlOf r.2.2))
    | .Subscript o i _ => when (plainIx i) ((te o).bind fun fo => (te i).bind fun fi => some (gSub' fo fi))
    | _ => none
def isName : Expr → Bool
  | .Name .. => true
  | _ => false
/-- name = [..]: the store is made within -/
def swapsC (c : Cxt) (tg value : Expr) : Bool := match value, tg with
  | .ListComp _ _ scope pos, .Name t py => (match c.sc.names.lookup t with | some .local => true | _ => false) && (py.line == pos.line) && !(scope.names.any fun (n, k) => n == t && (k == .local || k == .cell))
  | _, _ => false
/-- two names at once -/
def parOk (c : Cxt) (x y : Str) (px py : Pos) (a b : Expr) : Bool :=
  (match c.sc.kind with | .function => true | _ => false) && (match c.sc.names.lookup x with | some .local => true | _ => false) && (match c.sc.names.lookup y with | some .local => true | _ => false) && (py.line == px.line) && !(x == y) &&
  noStar a && noStar b && !([a, b].all (foldedForSure 8)) && !([a, b].all (constantsAlone 8))
def parOk3 (c : Cxt) (x y z : Str) (px py pz : Pos) (vs : List Expr) : Bool :=
  (match c.sc.kind with | .function => true | _ => false) && (match c.sc.names.lookup x with | some .local => true | _ => false) && (match c.sc.names.lookup y with | some .local => true | _ => false) && (match c.sc.names.lookup z with | some .local => true | _ => false) &&
  (py.line == px.line) && (pz.line == px.line) && !(x == y) && !(x == z) && !(y == z) && vs.all noStar && !(vs.all (foldedForSure 8)) && !(vs.all (constantsAlone 8))
def notLoc (c : Cxt) : Expr → Bool
  | .Name x _ => (match c.sc.names.lookup x with | some .local => false | _ => true)
  | _ => true
/-- a tuple is made and unpacked -/
def parNone (c : Cxt) : Expr → Expr → Bool
  | .Tuple ts _ _, .Tuple vs _ _ => ts.any (notLoc c) || vs.all (foldedForSure 8)
  | _, _ => false
def trPar (te : Expr → Option M) (c : Cxt) : Expr → Expr → Option S
  | .Tuple [.Name x px, .Name y py] _ _, .Tuple [a, b] _ _ => when (parOk c x y px py a b) ((slot c x).bind fun i => (slot c y).bind fun j => (trArgs te [a, b]).bind fun r => some (sPar i j r))
  | .Tuple [.Name x px, .Name y py, .Name z pz] _ _, .Tuple [a, b, d] _ _ => when (parOk3 c x y z px py pz [a, b, d]) ((slot c x).bind fun i => (slot c y).bind fun j => (slot c z).bind fun l => (trArgs te [a, b, d]).bind fun r => some (sPar3 i j l r))
  | _, _ => none
mutual
def trS (B : Tb) (F : FE) : Nat → Cxt → Stmt → Option S
  | 0, _, _ => none
  | n + 1, c, st => match st with
    | .Return v _ => (match v with
      | some e => (trE B F n c e).bind fun f => some (sRet f)
      | none => some sRetN)
    | .Pass _ => some sNil
    | .Break _ => some sBreak
    | .Continue _ => some sCont
    | .Raise _ _ _ => some sBad
    | .If t a b _ => (trE B F n c t).bind fun ft => (trSs B F n c a).bind fun fa => (trSs B F n c b).bind fun fb => some (sIf ft fa fb)
    | .Expr e _ => when (notComp e) ((trE B F n c e).bind fun f => some (sDrop f))
    | .While t a els _ => when els.isEmpty ((trE B F n c t).bind fun ft => (trSs B F n c a).bind fun fa => some (sWhile ft fa))
    | .For tg it a els _ => when els.isEmpty ((trSrc B c (trE B F n c) tg it).bind fun fs => (trTg (trE B F n c) c 1 tg).bind fun t => (trSs B F n c a).bind fun fa => some (sFor fs t fa))
    | .AugAssign tg op e _ => (match tg with
      | .Name x p => (augOf op).bind fun k => (trTgName c (.Name x p)).bind fun i => (trE B F n c e).bind fun f => some (sAug k i f)
      | _ => none)
    | .Assign tgs e _ => (match tgs with
      | [tg] => orElse' (trPar (trE B F n c) c tg e) (when ((notTup e || notSeq tg || parNone c tg e) && noStar tg && (notComp e || swapsC c tg e || !isName tg || notLoc c tg)) ((trE B F n c e).bind fun f => (trTg (trE B F n c) c 1 tg).bind fun t => some (sAsg f t)))
      | _ => none)
    | _ => none
def trSs (B : Tb) (F : FE) : Nat → Cxt → List Stmt → Option S
  | 0, _, _ => none
  | n + 1, c, l => match l with
    | [] => some sNil
    | s :: r => (trS B F n c s).bind fun f => (trSs B F n c r).bind fun g => some (sSeq f g)
end
end Rf
namespace Rf
open PySem PySem.Spec PyProof.Rows L2
/-- the module as it stands behind the top -/
structure World' (B : Tb) (K : PySem.W.Frag) (mg : Str → Option Value) (ad : Nat → Addr) (fd : Nat → FuncData) : Prop where
  nos : ∀ x ∈ B.nos, mg x = none
  consts : ∀ p ∈ B.consts, ∃ v u, mg p.1 = some u ∧ RelV v u ∧ ∀ H m, Rep K H m p.2 v
  fn : ∀ (i : Nat) (I : FnI), B.fns[i]? = some I → mg I.name = some (.ref (ad i)) ∧ PySem.W.keepIn K (.ref (ad i)) = true ∧
    ∃ (oc : Value) (od : Option Addr) (dV kV doc pm : Value) (an : Option Addr) (cdv ct : Value) (osl : Array (Option Value)),
      fd i = PySem.W.fnOf I.name I.qual I.params I.body I.scope dV kV doc pm an cdv ct ∧ K.lookup (ad i) = some ⟨oc, od, .func (fd i), osl⟩ ∧ PySem.W.codeIn K cdv I.qual = true
  pat : ∀ p ∈ B.pats, ∀ I, B.fns[p.i]? = some I → BindOk K (fd p.i) I.ps p.n p.ks p.gs
/-- a context fits -/
structure Fits (P : Program) (w : World) (K : PySem.W.Frag) (mg : Str → Option Value) (base : Heap) (k : Nat) (c : Cxt) (X : Cx) : Prop where
  prog : X.prog = P
  wld : X.w = w
  frag : X.K = K
  mod : X.mg = mg
  bas : X.base = base
  names : X.N = c.N
  scope : X.env.scope = c.sc
  fn : ∀ x, c.fn x = true → X.fn x = true
  nd : X.N.Nodup
  calm : X.calm = true
  gd : X.A.guards = some []
  room : Room k X.A
  xe : X.xe = fun _ _ => False
  kind : X.env.scope.kind = .function
theorem not_of {b : Bool} (h : (!b) = true) : b = false := by simpa using h
theorem Fits.blk {P : Program} {w : World} {K : PySem.W.Frag} {mg : Str → Option Value} {base : Heap} {k : Nat} {c : Cxt} {X : Cx} (h : Fits P w K mg base k c X) (s : Shared) (H : Hp) (scope : Scope) (cl : List (Str × Addr)) (C : Addr) (fp : List Addr) (hk : scope.kind = .function) :
    Fits P w K mg base k (inBlk c scope) (X.blk s H scope (compEnvC scope cl C X.env) fp) where
  prog := h.prog
  wld := h.wld
  frag := h.frag
  mod := h.mod
  bas := h.bas
  names := h.names
  scope := by
    show relabel scope X.env = relS scope c.sc
    rw [← h.scope]
    rfl
  fn := fun x hx => hx
  nd := h.nd
  calm := h.calm
  gd := h.gd
  room := h.room
  xe := rfl
  kind := hk
/-- what the defs promise at level k -/
def Calls (B : Tb) (P : Program) (w : World) (K : PySem.W.Frag) (mg : Str → Option Value) (base : Heap) (k : Nat) (ad : Nat → Addr) (fd : Nat → FuncData) (F : FE) : Prop :=
  ∀ (i : Nat) (I : FnI), B.fns[i]? = some I → FnG P w K mg base k (ad i) (fd i) I.ps (spG K (F i))
section
variable {B : Tb} {P : Program} {w : World} {K : PySem.W.Frag} {mg : Str → Option Value} {base : Heap} {k : Nat} {ad : Nat → Addr} {fd : Nat → FuncData} {F : FE} {c : Cxt} {X : Cx}
theorem vis_of {sc : Scope} {x : Str} (h : visB sc x = true) : Vis sc x := by
  unfold visB at h
  split at h
  · rename_i q; exact .inl q
  · rename_i q; exact .inr (.inl q)
  · rename_i q; exact .inr (.inr q)
  · cases h
theorem gl_of (f : Fits P w K mg base k c X) {x : Str} (h : glB c.sc x = true) : Gl X x := by
  unfold glB at h
  unfold Gl Env.kindOf
  rw [f.scope]
  split at h
  · rename_i q; exact q
  · cases h
theorem slot_of {x : Str} {i : Nat} (h : slot c x = some i) : c.N[i]? = some x := by
  unfold slot at h
  split at h
  · cases h; rename_i q; exact q
  · cases h
theorem okName_of {x : Str} (h : okName x = true) : (x == ("__debug__" : Str)) = false ∧ (x == ("__classdict__" : Str)) = false ∧ x ≠ "__name__" := by
  unfold okName at h
  simp only [Bool.and_eq_true, Bool.not_eq_true'] at h
  exact ⟨h.1.1, h.1.2, by simpa using h.2⟩
theorem loc_of (f : Fits P w K mg base k c X) {x : Str} (h : locB c x = true) : L2.Loc X.env.scope x ∧ (X.fn x = true ∨ X.env.scope.names.lookup x = some .local) := by
  unfold locB at h
  unfold L2.Loc
  rw [f.scope]
  split at h
  · rename_i q; exact ⟨.inl q, .inr q⟩
  · rename_i q; exact ⟨.inr q, .inl (f.fn x h)⟩
  · cases h
theorem units64 (f : Fits P w K mg base k c X) : X.A.units + 64 < cLine := f.room.units
theorem units1 (f : Fits P w K mg base k c X) : X.A.units + 1 < cLine := by have := f.room.units; omega
theorem units66 (f : Fits P w K mg base k c X) : X.A.units + (deepest + 1) < cLine := by have := f.room.un; unfold deepest; omega
abbrev Good (X : Cx) (e : Expr) (f : M) : Prop := EO X e f ∧ TO' X e f
theorem good_val {e : Expr} {f : M} (h : EO X e f) (he : ∀ whole, isTrue e X.env whole = (do let v ← whole; standAt e.pos; holding [v] (truthy v))) : Good X e f := ⟨h, t_val h he⟩
theorem trName_ok (W : World' B K mg ad fd) (f : Fits P w K mg base k c X) {x : Str} {pos : Pos} {m : M} (h : trName B c x = some m) : Good X (.Name x pos) m := by
  unfold trName at h
  obtain ⟨ok, h⟩ := when_some h
  obtain ⟨d1, d2, d3⟩ := okName_of ok
  split at h
  · rename_i hv
    obtain ⟨i, hi, h⟩ := Option.bind_eq_some_iff.mp h
    cases h
    refine good_val (e_var (by rw [f.names]; exact slot_of hi) (by rw [f.scope]; exact vis_of hv) d1 d2) fun _ => rfl
  · obtain ⟨hg, h⟩ := when_some h
    obtain ⟨p, hp, h⟩ := Option.bind_eq_some_iff.mp h
    cases h
    have e1 : p.1 = x := by simpa using List.find?_some hp
    obtain ⟨v, u, h1, h2, h3⟩ := W.consts p (List.mem_of_find?_eq_some hp)
    subst e1
    refine good_val (e_c (v := v) (pe_glob (gl_of f hg) (by rw [f.mod]; exact h1) h2 d1) fun H m => by rw [f.frag]; exact h3 H m) fun _ => rfl
theorem trArgs_ok {te : Expr → Option M} (ih : ∀ e f, te e = some f → EO X e f) : ∀ {es : List Expr} {r : ML}, trArgs te es = some r → es.all noStar = true ∧ AO X es r
  | [], r, h => by cases h; exact ⟨rfl, a_nil⟩
  | e :: es, r, h => by
    unfold trArgs at h
    obtain ⟨hs, h⟩ := when_some h
    obtain ⟨f, hf, h⟩ := Option.bind_eq_some_iff.mp h
    obtain ⟨q, hq, h⟩ := Option.bind_eq_some_iff.mp h
    cases h
    obtain ⟨a, b⟩ := trArgs_ok ih hq
    exact ⟨by rw [List.all_cons, hs, a]; rfl, a_cons hs (ih e f hf) b⟩
theorem trKws_ok {te : Expr → Option M} (ih : ∀ e f, te e = some f → EO X e f) : ∀ {es : List Keyword} {r : ML}, trKws te es = some r → es.all (fun k => k.arg.isSome) = true ∧ KO X es r
  | [], r, h => by cases h; exact ⟨rfl, k_nil⟩
  | ⟨nm, e, p⟩ :: es, r, h => by
    unfold trKws at h
    obtain ⟨hs, h⟩ := when_some h
    obtain ⟨f, hf, h⟩ := Option.bind_eq_some_iff.mp h
    obtain ⟨q, hq, h⟩ := Option.bind_eq_some_iff.mp h
    cases h
    obtain ⟨a, b⟩ := trKws_ok ih hq
    exact ⟨by rw [List.all_cons, hs, a]; rfl, k_cons (ih e f hf) b⟩
theorem trBool_ok {te : Expr → Option M} (ih : ∀ e f, te e = some f → Good X e f) {op : BoolOp} {pos : Pos} : ∀ {es : List Expr} {f : M}, trBool te op es = some f → EO X (.BoolOp op es pos) f ∧ WO X (.BoolOp op es pos) f
  | [], f, h => by cases h
  | [e], f, h => by
    unfold trBool at h
    obtain ⟨a, b⟩ := ih e f h
    refine ⟨pe_one a, ?_⟩
    cases op
    · exact w_and1 b
    · exact w_or1 b
  | e :: e2 :: es, f, h => by
    unfold trBool at h
    obtain ⟨fa, ha, h⟩ := Option.bind_eq_some_iff.mp h
    obtain ⟨fb, hb, h⟩ := Option.bind_eq_some_iff.mp h
    obtain ⟨a1, a2⟩ := ih e fa ha
    obtain ⟨b1, b2⟩ := trBool_ok ih (op := op) (pos := pos) hb
    cases op
    · cases h; exact ⟨e_and a1 b1, w_and a2 b2⟩
    · cases h; exact ⟨e_or a1 b1, w_or a2 b2⟩
theorem trPairs_ok {te : Expr → Option M} (ih : ∀ e f, te e = some f → EO X e f) {pos : Pos} : ∀ {ks : List (Option Expr)} {vs : List Expr} {ps : List (M × M)}, trPairs te ks vs = some ps → DO X pos ks vs ps
  | [], [], ps, h => by cases h; exact d_nil
  | [], _ :: _, ps, h => by cases h
  | none :: _, _, ps, h => by simp [trPairs] at h
  | some k :: ks, [], ps, h => by simp [trPairs] at h
  | some k :: ks, v :: vs, ps, h => by
    unfold trPairs at h
    obtain ⟨fk, hk, h⟩ := Option.bind_eq_some_iff.mp h
    obtain ⟨fv, hv, h⟩ := Option.bind_eq_some_iff.mp h
    obtain ⟨q, hq, h⟩ := Option.bind_eq_some_iff.mp h
    cases h
    exact d_cons (ih k fk hk) (ih v fv hv) (trPairs_ok ih hq)
theorem trPart_ok {te : Expr → Option M} (ih : ∀ e f, te e = some f → EO X e f) {o : Option Expr} {f : MO} (h : trPart te o = some f) : PO X o (tO X.K f) := by
  cases o with
  | none => cases h; exact p_none
  | some e =>
    obtain ⟨g, hg, h⟩ := Option.bind_eq_some_iff.mp h
    cases h
    exact p_some (ih e g hg)
theorem no_of (W : World' B K mg ad fd) (f : Fits P w K mg base k c X) {x : Str} (h : B.nos.contains x = true) : X.mg x = none := by
  rw [f.mod]
  exact W.nos x (by simpa using h)
def BiOk (X : Cx) (x : Str) : BI → Prop
  | .f id op => bootBuiltins x = some (.builtin id) ∧ CallR X (.builtin id) (rF X.K op)
  | .t id op => bootBuiltins x = some (.type id) ∧ CallR X (.type id) (rF X.K op)
theorem bb_len : bootBuiltins "len" = some (.builtin "len") := by decide +kernel
theorem bb_ord : bootBuiltins "ord" = some (.builtin "ord") := by decide +kernel
theorem bb_repr : bootBuiltins "repr" = some (.builtin "repr") := by decide +kernel
theorem bb_all : bootBuiltins "all" = some (.builtin "all") := by decide +kernel
theorem bb_any : bootBuiltins "any" = some (.builtin "any") := by decide +kernel
theorem bb_min : bootBuiltins "min" = some (.builtin "min") := by decide +kernel
theorem bb_max : bootBuiltins "max" = some (.builtin "max") := by decide +kernel
theorem bb_tuple : bootBuiltins "tuple" = some (.type "tuple") := by decide +kernel
theorem bb_list : bootBuiltins "list" = some (.type "list") := by decide +kernel
theorem bb_int : bootBuiltins "int" = some (.type "int") := by decide +kernel
theorem bb_str : bootBuiltins "str" = some (.type "str") := by decide +kernel
theorem bb_dict : bootBuiltins "dict" = some (.type "dict") := by decide +kernel
theorem builtin_ok (f : Fits P w K mg base k c X) {x : Str} {n : Nat} {b : BI} (h : builtinOf x n = some b) : BiOk X x b := by
  unfold builtinOf at h
  split at h
  · rename_i q; subst q; cases h; exact ⟨bb_len, b_len⟩
  split at h
  · rename_i q; subst q; cases h; exact ⟨bb_ord, b_ord⟩
  split at h
  · rename_i q; subst q; cases h; exact ⟨bb_repr, b_repr f.gd (units66 f)⟩
  split at h
  · rename_i q; subst q; cases h; exact ⟨bb_all, b_all f.calm⟩
  split at h
  · rename_i q; subst q; cases h; exact ⟨bb_any, b_any f.calm⟩
  split at h
  · rename_i q; obtain ⟨rfl, rfl⟩ := q; cases h; exact ⟨bb_min, b_min f.calm⟩
  split at h
  · rename_i q; obtain ⟨rfl, rfl⟩ := q; cases h; exact ⟨bb_max, b_max f.calm⟩
  split at h
  · rename_i q; subst q; cases h; exact ⟨bb_tuple, b_tuple⟩
  split at h
  · rename_i q; subst q; cases h; exact ⟨bb_list, b_list⟩
  split at h
  · rename_i q; subst q; cases h; exact ⟨bb_int, b_int⟩
  split at h
  · rename_i q; subst q; cases h; exact ⟨bb_str, b_str⟩
  split at h
  · rename_i q; subst q; cases h; exact ⟨bb_dict, b_dict f.calm⟩
  · cases h
theorem tyOf_ok {y : Str} {T : Ty} (h : tyOf y = some T) : bootBuiltins y = some (.type T.name) := by
  unfold tyOf at h
  split at h
  · rename_i q; subst q; cases h; decide +kernel
  split at h
  · rename_i q; subst q; cases h; decide +kernel
  split at h
  · rename_i q; subst q; cases h; decide +kernel
  split at h
  · rename_i q; subst q; cases h; decide +kernel
  split at h
  · rename_i q; subst q; cases h; decide +kernel
  · cases h
theorem boot_isi : bootBuiltins "isinstance" = some (.builtin "isinstance") := by decide +kernel
theorem trIsi_ok (W : World' B K mg ad fd) (f : Fits P w K mg base k c X) {te : Expr → Option M} (ih : ∀ e f, te e = some f → EO X e f) {p pos : Pos} {args : List Expr} {m : M} (gl : Gl X "isinstance") (hno : X.mg "isinstance" = none)
    (h : trIsi B c te args = some m) : EO X (.Call (.Name "isinstance" p) args [] pos) m := by
  unfold trIsi at h
  split at h
  · obtain ⟨h1, h⟩ := when_some h
    rw [Bool.and_eq_true, Bool.and_eq_true, Bool.and_eq_true] at h1
    obtain ⟨T, hT, h⟩ := Option.bind_eq_some_iff.mp h
    obtain ⟨g, hg, h⟩ := Option.bind_eq_some_iff.mp h
    cases h
    obtain ⟨e1, e2, e3⟩ := okName_of h1.1.1.1
    exact e_isi gl hno boot_isi (gl_of f h1.1.1.2) (no_of W f h1.1.2) (tyOf_ok hT) h1.2 (ih _ _ hg) (by decide) (by decide) e3 e1
  · cases h
theorem trBi_ok (f : Fits P w K mg base k c X) {te : Expr → Option M} (ih : ∀ e f, te e = some f → EO X e f) {x : Str} {p pos : Pos} {args : List Expr} {m : M} (gl : Gl X x) (hno : X.mg x = none) (d1 : (x == ("__debug__" : Str)) = false) (d3 : x ≠ "__name__")
    (h : trBi te x args = some m) : EO X (.Call (.Name x p) args [] pos) m := by
  cases args with
  | nil => cases h
  | cons e es =>
    unfold trBi at h
    obtain ⟨b, hb, h⟩ := Option.bind_eq_some_iff.mp h
    obtain ⟨r, hr, h⟩ := Option.bind_eq_some_iff.mp h
    have hbi := builtin_ok f hb
    obtain ⟨ns, ha⟩ := trArgs_ok ih hr
    rw [List.all_cons, Bool.and_eq_true] at ns
    cases h
    cases b with
    | f id op => exact e_callB hbi.2 gl hno hbi.1 ns.1 ns.2 ha d3 d1
    | t id op => exact e_callT hbi.2 gl hno hbi.1 ns.1 ns.2 ha d3 d1
theorem trFn_ok (W : World' B K mg ad fd) (C : Calls B P w K mg base k ad fd F) (f : Fits P w K mg base k c X) {te : Expr → Option M} (ih : ∀ e f, te e = some f → EO X e f) {x : Str} {p pos : Pos} {args : List Expr} {kws : List Keyword} {m : M} (gl : Gl X x) (d1 : (x == ("__debug__" : Str)) = false)
    (h : trFn B F te x args kws = some m) : EO X (.Call (.Name x p) args kws pos) m := by
  unfold trFn at h
  obtain ⟨q, hq, h⟩ := Option.bind_eq_some_iff.mp h
  obtain ⟨r, hr, h⟩ := Option.bind_eq_some_iff.mp h
  obtain ⟨kr, hkr, h⟩ := Option.bind_eq_some_iff.mp h
  cases h
  have hq1 := List.find?_some hq
  have hq2 := List.mem_of_find?_eq_some hq
  simp only [decide_eq_true_eq] at hq1
  obtain ⟨hn, h1, h2⟩ := hq1
  obtain ⟨I, hI, hIn⟩ := Option.map_eq_some_iff.mp hn
  obtain ⟨w1, w2, w3⟩ := W.fn q.i I hI
  have bo := W.pat q hq2 I hI
  have G' := C q.i I hI
  obtain ⟨ns, ha⟩ := trArgs_ok ih hr
  obtain ⟨kn, hkw⟩ := trKws_ok ih hkr
  rw [hIn] at w1
  rw [← f.prog, ← f.wld, ← f.frag, ← f.mod, ← f.bas] at G'
  rw [← f.frag] at bo w2
  rw [← f.mod] at w1
  cases args with
  | nil =>
    cases hr
    rw [h1] at bo ⊢
    exact e_call0 G' f.room f.gd gl w1 w2 bo kn h2.symm d1 hkw
  | cons e0 es => exact e_call G' f.room f.gd gl w1 w2 bo ns kn h2.symm d1 ha hkw
theorem tol_ok {x : Str} {k : Bool} (h : tupOrList x = some k) : x = if k = true then "tuple" else "list" := by
  unfold tupOrList at h
  split at h
  · cases h; rename_i q; rw [q]; rfl
  · split at h
    · cases h; rename_i q; rw [q]; rfl
    · cases h
theorem trRg_ok (W : World' B K mg ad fd) (f : Fits P w K mg base k c X) {te : Expr → Option M} (ih : ∀ e f, te e = some f → EO X e f) {x : Str} {p pos : Pos} {args : List Expr} {m : M} (gl : Gl X x) (hno : X.mg x = none)
    (h : trRg B c te x args = some m) : EO X (.Call (.Name x p) args [] pos) m := by
  unfold trRg at h
  split at h
  · obtain ⟨h1, h2⟩ := when_some h
    clear h
    rw [Bool.and_eq_true, Bool.and_eq_true, decide_eq_true_eq] at h1
    obtain ⟨⟨rfl, g1⟩, g2⟩ := h1
    obtain ⟨kk, hk, h3⟩ := Option.bind_eq_some_iff.mp h2
    clear h2
    split at h3
    · obtain ⟨n1, h4⟩ := when_some h3
      obtain ⟨fa, ha, h5⟩ := Option.bind_eq_some_iff.mp h4
      cases h5
      exact e_rg1 (y := x) f.calm (tol_ok hk) gl hno (gl_of f g1) (no_of W f g2) n1 (ih _ _ ha)
    · obtain ⟨n1, h4⟩ := when_some h3
      rw [Bool.and_eq_true] at n1
      obtain ⟨fa, ha, h5⟩ := Option.bind_eq_some_iff.mp h4
      obtain ⟨fb, hb, h6⟩ := Option.bind_eq_some_iff.mp h5
      cases h6
      exact e_rg2 (y := x) f.calm (tol_ok hk) gl hno (gl_of f g1) (no_of W f g2) n1.1 n1.2 (ih _ _ ha) (ih _ _ hb)
    · cases h3
  · cases h
theorem bb_sum : bootBuiltins "sum" = some (.builtin "sum") := by decide +kernel
theorem trSumK_ok (f : Fits P w K mg base k c X) {te : Expr → Option M} (ih : ∀ e f, te e = some f → EO X e f) {x : Str} {p pos : Pos} {args : List Expr} {kws : List Keyword} {m : M} (gl : Gl X x) (hno : X.mg x = none)
    (h : trSumK te x args kws = some m) : EO X (.Call (.Name x p) args kws pos) m := by
  unfold trSumK at h
  obtain ⟨h1, h2⟩ := when_some h
  rw [Bool.and_eq_true, decide_eq_true_eq, decide_eq_true_eq] at h1
  obtain ⟨rfl, hk⟩ := h1
  cases args with
  | nil => cases h2
  | cons e es =>
    obtain ⟨r, hr, h3⟩ := Option.bind_eq_some_iff.mp h2
    obtain ⟨kr, hkr, h4⟩ := Option.bind_eq_some_iff.mp h3
    cases h4
    obtain ⟨ns, ha⟩ := trArgs_ok ih hr
    obtain ⟨kn, hkw⟩ := trKws_ok ih hkr
    exact e_callBK (b_sumK f.calm) gl hno bb_sum ns kn hk ha hkw (by decide) (by decide)
theorem trCall_ok (W : World' B K mg ad fd) (C : Calls B P w K mg base k ad fd F) (f : Fits P w K mg base k c X) {te : Expr → Option M} (ih : ∀ e f, te e = some f → EO X e f) {x : Str} {p pos : Pos} {args : List Expr} {kws : List Keyword} {m : M}
    (h : trCall B F c te x args kws = some m) : EO X (.Call (.Name x p) args kws pos) m := by
  unfold trCall at h
  obtain ⟨ok, h0⟩ := when_some h
  rw [Bool.and_eq_true] at ok
  obtain ⟨d1, d2, d3⟩ := okName_of ok.1
  have gl := gl_of f ok.2
  clear h
  split at h0
  · rename_i hno
    unfold orElse' at h0
    split at h0
    · rename_i q
      cases h0
      exact trSumK_ok f ih gl (no_of W f hno) q
    obtain ⟨hk, h1⟩ := when_some h0
    clear h0
    have hk' : kws = [] := by simpa using hk
    subst hk'
    split at h1
    · rename_i hx
      subst hx
      exact trIsi_ok W f ih gl (no_of W f hno) h1
    · split at h1
      · rename_i q
        cases h1
        exact trRg_ok W f ih gl (no_of W f hno) q
      · exact trBi_ok f ih gl (no_of W f hno) d1 d3 h1
  · exact trFn_ok W C f ih gl d1 h0
end
end Rf
namespace Rf
open PySem PySem.Spec PyProof.Rows L2
section
variable {B : Tb} {P : Program} {w : World} {K : PySem.W.Frag} {mg : Str → Option Value} {base : Heap} {k : Nat} {ad : Nat → Addr} {fd : Nat → FuncData} {F : FE} {c : Cxt} {X : Cx}
theorem trMeth_ok {te : Expr → Option M} (ih : ∀ e f, te e = some f → EO X e f) {o : Expr} {name : Str} {apos cpos : Pos} {args : List Expr} {m : M} (h : trMeth te o name apos cpos args = some m) : EO X (.Call (.Attribute o name apos) args [] cpos) m := by
  unfold trMeth at h
  obtain ⟨h1, h2⟩ := when_some h
  clear h
  rw [Bool.and_eq_true, Bool.and_eq_true, decide_eq_true_eq] at h1
  split at h2
  · rename_i q
    subst q
    split at h2
    · obtain ⟨fo, ho, h⟩ := Option.bind_eq_some_iff.mp h2
      obtain ⟨r, hr, h⟩ := Option.bind_eq_some_iff.mp h
      cases h
      obtain ⟨ns, ha⟩ := trArgs_ok ih hr
      rw [List.all_cons, Bool.and_eq_true] at ns
      exact e_meth PySem.F.plainAttrs_list PySem.F.slot_list_append PySem.F.type_list_append m_append (fun a b d => pre_lst a b d) h1.1.1 h1.1.2 ns.1 ns.2 h1.2 (ih _ _ ho) ha
    · cases h2
  split at h2
  · rename_i q
    subst q
    split at h2
    · obtain ⟨fo, ho, h⟩ := Option.bind_eq_some_iff.mp h2
      obtain ⟨r, hr, h⟩ := Option.bind_eq_some_iff.mp h
      cases h
      obtain ⟨ns, ha⟩ := trArgs_ok ih hr
      rw [List.all_cons, Bool.and_eq_true] at ns
      exact e_meth PySem.F.plainAttrs_list PySem.F.slot_list_extend PySem.F.type_list_extend m_extend (fun a b d => pre_lst a b d) h1.1.1 h1.1.2 ns.1 ns.2 h1.2 (ih _ _ ho) ha
    · cases h2
  · split at h2
    · rename_i q
      subst q
      split at h2
      · obtain ⟨fo, ho, h⟩ := Option.bind_eq_some_iff.mp h2
        obtain ⟨r, hr, h⟩ := Option.bind_eq_some_iff.mp h
        cases h
        obtain ⟨ns, ha⟩ := trArgs_ok ih hr
        rw [List.all_cons, Bool.and_eq_true] at ns
        exact e_meth PySem.F.plainAttrs_str PySem.F.slot_str_join PySem.F.type_str_join m_join (fun a b d => pre_str a b d) h1.1.1 h1.1.2 ns.1 ns.2 h1.2 (ih _ _ ho) ha
      · cases h2
    · split at h2
      · rename_i q
        subst q
        split at h2
        · obtain ⟨fo, ho, h⟩ := Option.bind_eq_some_iff.mp h2
          cases h
          exact e_upper h1.1.1 h1.1.2 (ih _ _ ho)
        · cases h2
      · cases h2
theorem trSrc_ok (W : World' B K mg ad fd) (f : Fits P w K mg base k c X) {te : Expr → Option M} (ih : ∀ e f, te e = some f → EO X e f) {tg e : Expr} {m : MS} (h : trSrc B c te tg e = some m) : IO' X tg e m ∧ ∀ x, foldedSetIterable e X.env x = pure x := by
  have gen : ∀ {e : Expr} {m : MS}, ((te e).bind fun f => some (srcSeq f)) = some m → IO' X tg e m := fun {e m} q => by
    obtain ⟨g, hg, q⟩ := Option.bind_eq_some_iff.mp q
    cases q
    exact i_seq (ih _ _ hg)
  unfold trSrc at h
  split at h
  · obtain ⟨h1, h2⟩ := when_some h
    simp only [Bool.and_eq_true, decide_eq_true_eq] at h1
    obtain ⟨⟨⟨⟨⟨⟨rfl, rfl⟩, q2⟩, q3⟩, q4⟩, q5⟩, q6⟩ := h1
    obtain ⟨g, hg, h⟩ := Option.bind_eq_some_iff.mp h2
    obtain ⟨g2, hg2, h⟩ := Option.bind_eq_some_iff.mp h
    cases h
    cases tg <;> first | (cases q6; done) | skip
    exact ⟨i_zipS (gl_of f q2) (no_of W f q3) q4 q5 (ih _ _ hg) (ih _ _ hg2), fun _ => rfl⟩
  · split at h
    · rename_i q
      obtain ⟨rfl, q2, q3, q4, q5, q6⟩ := q
      obtain ⟨g, hg, h⟩ := Option.bind_eq_some_iff.mp h
      obtain ⟨g2, hg2, h⟩ := Option.bind_eq_some_iff.mp h
      obtain ⟨g3, hg3, h⟩ := Option.bind_eq_some_iff.mp h
      cases h
      exact ⟨i_range3 (gl_of f q2) (no_of W f q3) q4 q5 q6 (ih _ _ hg) (ih _ _ hg2) (ih _ _ hg3), fun _ => rfl⟩
    · exact ⟨gen h, fun _ => rfl⟩
  · split at h
    · rename_i q
      obtain ⟨rfl, q2, q3, q4⟩ := q
      obtain ⟨g, hg, h⟩ := Option.bind_eq_some_iff.mp h
      cases h
      exact ⟨i_range1 (gl_of f q2) (no_of W f q3) q4 (ih _ _ hg), fun _ => rfl⟩
    · exact ⟨gen h, fun _ => rfl⟩
  · split at h
    · rename_i q
      obtain ⟨rfl, q2, q3, q4, q5⟩ := q
      obtain ⟨g, hg, h⟩ := Option.bind_eq_some_iff.mp h
      obtain ⟨g2, hg2, h⟩ := Option.bind_eq_some_iff.mp h
      cases h
      exact ⟨i_range2 (gl_of f q2) (no_of W f q3) q4 q5 (ih _ _ hg) (ih _ _ hg2), fun _ => rfl⟩
    · exact ⟨gen h, fun _ => rfl⟩
  · cases h
  · rename_i hn3 hn4 hn1 hn2 hns
    refine ⟨gen h, fun x => ?_⟩
    unfold foldedSetIterable
    split
    · exact absurd rfl (hns _ _ _)
    · rfl
theorem trTgName_ok (f : Fits P w K mg base k c X) {e : Expr} {i : Nat} (h : trTgName c e = some i) : PG X e (gName i) ∧ noStar e = true := by
  unfold trTgName at h
  split at h
  · obtain ⟨h1, h2⟩ := when_some h
    obtain ⟨l1, l2⟩ := loc_of f h1
    exact ⟨pg_name f.nd (by rw [f.names]; exact slot_of h2) l1 l2, rfl⟩
  · cases h
theorem gname_weak {i : Nat} {e : Expr} (h : PG X e (gName i)) : GO X e (gVar i) := by
  refine PG.weak h ?_
  rintro v s H Q ⟨m, A, L, d, L', A', hr, lr, rv, e, post⟩
  cases e
  exact post.now hr (lr.set rv)
theorem trTgNames_ok (f : Fits P w K mg base k c X) : ∀ {es : List Expr} {l : List Nat}, trTgNames c es = some l → PGs X es (gsOf l) ∧ GLO X es (tlOf l) ∧ es.all noStar = true ∧ TLen (tlOf l) es.length ∧ TNames (tlOf l) es.length l
  | [], l, h => by cases h; exact ⟨pgs_nil, g_nil, rfl, .nil, .nil⟩
  | e :: es, l, h => by
    unfold trTgNames at h
    obtain ⟨i, hi, h⟩ := Option.bind_eq_some_iff.mp h
    obtain ⟨r, hr, h⟩ := Option.bind_eq_some_iff.mp h
    cases h
    obtain ⟨a1, a2⟩ := trTgName_ok f hi
    obtain ⟨b1, b2, b3, b4, b5⟩ := trTgNames_ok f hr
    exact ⟨pgs_cons a1 b1 (by rw [assign_cons a2] <;> rfl), g_cons a2 (gname_weak a1) b2, by rw [List.all_cons, a2, b3]; rfl, .cons b4, .cons b5⟩
theorem trStar_ok (f : Fits P w K mg base k c X) : ∀ {es : List Expr} {r : Nat × Nat × List Nat}, trStar c es = some r → GLO X es (tlOf r.2.2) ∧ (assignEach es X.env).length = r.1 + r.2.1 + 1 ∧ (assignEach es X.env).findIdx? (·.1) = some r.1
  | [], r, h => by cases h
  | e :: es, r, h => by
    unfold trStar at h
    split at h
    · cases ‹_ = _›
    · rename_i heq
      cases heq
      obtain ⟨i, hi, h⟩ := Option.bind_eq_some_iff.mp h
      obtain ⟨l, hl, h⟩ := Option.bind_eq_some_iff.mp h
      obtain ⟨hs, h⟩ := when_some h
      cases h
      obtain ⟨a1, a2⟩ := trTgName_ok f hi
      obtain ⟨b1, b2, b3, b4, b5⟩ := trTgNames_ok f hl
      obtain ⟨z1, z2⟩ := len_assign (env := X.env) hs
      refine ⟨g_consS a2 (gname_weak a1) b2, ?_, ?_⟩
      · show ((true, _) :: assignEach _ X.env).length = _
        rw [List.length_cons, z1]; simp
      · show ((true, _) :: assignEach _ X.env).findIdx? _ = _
        rw [List.findIdx?_cons]; rfl
    · rename_i heq
      cases heq
      obtain ⟨hs, h⟩ := when_some h
      obtain ⟨i, hi, h⟩ := Option.bind_eq_some_iff.mp h
      obtain ⟨q, hq, h⟩ := Option.bind_eq_some_iff.mp h
      cases h
      obtain ⟨a1, a2⟩ := trTgName_ok f hi
      obtain ⟨b1, b2, b3⟩ := trStar_ok f hq
      refine ⟨g_cons hs (gname_weak a1) b1, ?_, ?_⟩
      · rw [assign_cons hs, List.length_cons, b2]; simp; omega
      · rw [assign_cons hs, List.findIdx?_cons, b3]; rfl
theorem trTgC_ok {own : List Nat} {tg : Expr} {t : T} (h : trTgC c own tg = some t) : ∃ g, TgOk K own g t ∧ ∀ X, Fits P w K mg base k c X → PG X tg g := by
  cases tg with
  | Name x p =>
    unfold trTgC at h
    obtain ⟨i, hi, h⟩ := Option.bind_eq_some_iff.mp h
    obtain ⟨h1, h2⟩ := when_some h
    cases h2
    exact ⟨gName i, tg_var (by simpa using h1), fun X f => (trTgName_ok f hi).1⟩
  | Tuple es kk pp =>
    unfold trTgC at h
    obtain ⟨l, hl, h⟩ := Option.bind_eq_some_iff.mp h
    obtain ⟨h1, h2⟩ := when_some h
    cases h2
    by_cases hX : ∃ X, Fits P w K mg base k c X
    · obtain ⟨X, f⟩ := hX
      obtain ⟨_, _, _, _, b5⟩ := trTgNames_ok f hl
      refine ⟨gTup K es.length (gsOf l), tg_tup b5 (fun i hi => by simpa using List.all_eq_true.mp h1 i hi), fun X f => ?_⟩
      obtain ⟨b1, b2, b3, b4, b5⟩ := trTgNames_ok f hl
      obtain ⟨z1, z2⟩ := len_assign (env := X.env) b3
      rw [← f.frag]
      exact pg_tup f.calm b1 z1 z2
    · exact ⟨fun v s H Q => ∃ (m : List Addr) (A : Hpp) (L : Loc) (d : D) (L' : Loc) (A' : Hpp), HR K H m A ∧ LR K H m L s ∧ Rep K H m d v ∧ gTupT' (tlOf l) d L A = .ok L' A' ∧ (A' = A → ∀ s', LR K H m L' s' → wipe s' own = wipe s own → Q s' H),
        ⟨fun v s H m A L d L' A' Q hr lr rv e q => ⟨m, A, L, d, L', A', hr, lr, rv, e, q⟩⟩, fun X f => absurd ⟨X, f⟩ hX⟩
  | _ => simp [trTgC] at h
theorem trIfs_ok {te : Expr → Option M} (ih : ∀ e f, te e = some f → Good X e f) {es : List Expr} {m : MB} (h : trIfs te es = some m) : PTs X es (tT X.K m) := by
  unfold trIfs at h
  split at h
  · cases h; exact pts_yes
  · obtain ⟨f, hf, h⟩ := Option.bind_eq_some_iff.mp h
    cases h
    exact pts_if (ih _ _ hf).2
  · cases h
theorem t_if {a b t : Expr} {fa fb ft : M} {pos : Pos} (hc : TO' X t ft) (ha : TO' X a fa) (hb : TO' X b fb) : TO' X (.IfExp t a b pos) (mIf ft fa fb) := by
  refine ⟨fun pins s q H Q I h => ?_⟩
  obtain ⟨m, A, L, d, A', j, hr, lr, e, et, post⟩ := test_of h
  obtain ⟨b1, A1, e1, e2⟩ := R.bind_eq_ok e
  have un : PySem.isTrue (.IfExp t a b pos) X.env (eval (.IfExp t a b pos) X.env) = (do if ← PySem.isTrue t X.env (eval t X.env) then PySem.isTrue a X.env (eval a X.env) else PySem.isTrue b X.env (eval b X.env)) := by
    conv => lhs; unfold PySem.isTrue
  rw [un]
  refine wpAny_bind (thn (hc.run pins s q H (fun x H1 => x = b1 ∧ ∃ m1, m <+: m1 ∧ Keep H H1 ∧ HR X.K H1 m1 A1) I ⟨m, A, L, b1, A1, hr, lr, e1, fun m1 H1 p1 k1 hr1 => ⟨rfl, m1, p1, k1, hr1⟩⟩) fun x s1 ⟨H1, I1, hx, m1, p1, k1, hr1⟩ => ?_)
  subst hx
  cases x with
  | true =>
    refine ha.run pins s1 q H1 Q I1 ⟨m1, A1, L, j, A', hr1, lr.mono k1 p1, ?_, fun m2 H2 p2 k2 hr2 => post m2 H2 (p1.trans p2) (k1.trans k2) hr2⟩
    unfold mTest
    rw [show fa L _ = _ from e2]
    simp [et, R.ofO]
  | false =>
    refine hb.run pins s1 q H1 Q I1 ⟨m1, A1, L, j, A', hr1, lr.mono k1 p1, ?_, fun m2 H2 p2 k2 hr2 => post m2 H2 (p1.trans p2) (k1.trans k2) hr2⟩
    unfold mTest
    rw [show fb L _ = _ from e2]
    simp [et, R.ofO]
end
end Rf
namespace Rf
open PySem PySem.Spec PyProof.Rows L2
section
variable {B : Tb} {P : Program} {w : World} {K : PySem.W.Frag} {mg : Str → Option Value} {base : Heap} {k : Nat} {ad : Nat → Addr} {fd : Nat → FuncData} {F : FE}
/-- the parts of a comprehension -/
theorem lc_parts {n : Nat} {c : Cxt} {elt : Expr} {gens : List Comprehension} {scope : Scope} {p : Pos} {m : M} (h : trE B F (n + 1) c (.ListComp elt gens scope p) = some m) :
    ∃ (tg iter : Expr) (ifs : List Expr) (fs : MS) (t : T) (fc : MB) (fe : M), gens = [⟨tg, iter, ifs, 0⟩] ∧ blkC c.N c.sc scope (ownOf c.N scope) = true ∧ trSrc B c (trE B F n c) tg iter = some fs ∧
      trTgC (inBlk c scope) ((ownOf c.N scope).map (·.2)) tg = some t ∧ trIfs (trE B F n (inBlk c scope)) ifs = some fc ∧ trE B F n (inBlk c scope) elt = some fe ∧ m = mLc fs t fc fe ((ownOf c.N scope).map (·.2)) := by
  unfold trE at h
  simp only at h
  split at h
  · obtain ⟨h1, h2⟩ := when_some h
    obtain ⟨fs, hs, h⟩ := Option.bind_eq_some_iff.mp h2
    obtain ⟨t, ht, h⟩ := Option.bind_eq_some_iff.mp h
    obtain ⟨fc, hc, h⟩ := Option.bind_eq_some_iff.mp h
    obtain ⟨fe, he, h⟩ := Option.bind_eq_some_iff.mp h
    cases h
    exact ⟨_, _, _, fs, t, fc, fe, rfl, h1, hs, ht, hc, he, rfl⟩
  · cases h
theorem trE_ok (W : World' B K mg ad fd) (C : Calls B P w K mg base k ad fd F) : ∀ (n : Nat) (c : Cxt) (e : Expr) (m : M), trE B F n c e = some m → ∀ X : Cx, Fits P w K mg base k c X → Good X e m := by
  intro n
  induction n with
  | zero => intro c e m h; cases h
  | succ n ih =>
    intro c e m h X f
    have ihE : ∀ e m, trE B F n c e = some m → EO X e m := fun e m q => (ih c e m q X f).1
    have ihG : ∀ e m, trE B F n c e = some m → Good X e m := fun e m q => ih c e m q X f
    cases e with
    | Constant v j p =>
      unfold trE at h
      cases v with
      | int i => cases h; exact good_val e_int fun _ => rfl
      | bool i => cases h; exact good_val e_bl fun _ => rfl
      | str i => cases h; exact good_val e_str fun _ => rfl
      | none => cases h; exact good_val e_non fun _ => rfl
      | _ => simp at h
    | Name x p => unfold trE at h; exact trName_ok W f h
    | BinOp a op b p =>
      unfold trE at h
      obtain ⟨g, hg, h⟩ := Option.bind_eq_some_iff.mp h
      obtain ⟨fa, ha, h⟩ := Option.bind_eq_some_iff.mp h
      obtain ⟨fb, hb, h⟩ := Option.bind_eq_some_iff.mp h
      cases h
      exact good_val (e_bin hg (ihE _ _ ha) (ihE _ _ hb)) fun _ => rfl
    | UnaryOp op a p =>
      unfold trE at h
      cases op with
      | Not =>
        obtain ⟨fa, ha, h⟩ := Option.bind_eq_some_iff.mp h
        cases h
        exact ⟨e_not (ihE _ _ ha), t_not (ihG _ _ ha).2⟩
      | USub =>
        obtain ⟨fa, ha, h⟩ := Option.bind_eq_some_iff.mp h
        cases h
        exact good_val (e_neg (ihE _ _ ha)) fun _ => rfl
      | _ => simp at h
    | BoolOp op vs p =>
      unfold trE at h
      obtain ⟨a, b⟩ := trBool_ok ihG (pos := p) h
      exact ⟨a, b.pt⟩
    | IfExp t a b p =>
      unfold trE at h
      obtain ⟨ft, ht, h⟩ := Option.bind_eq_some_iff.mp h
      obtain ⟨fa, ha, h⟩ := Option.bind_eq_some_iff.mp h
      obtain ⟨fb, hb, h⟩ := Option.bind_eq_some_iff.mp h
      cases h
      exact ⟨e_if (ihG _ _ ht).2 (ihE _ _ ha) (ihE _ _ hb), t_if (ihG _ _ ht).2 (ihG _ _ ha).2 (ihG _ _ hb).2⟩
    | Compare a ops cs p =>
      unfold trE at h
      simp only at h
      split at h
      · obtain ⟨h1, h2⟩ := when_some h
        obtain ⟨g, hg, h⟩ := Option.bind_eq_some_iff.mp h2
        obtain ⟨fa, ha, h⟩ := Option.bind_eq_some_iff.mp h
        obtain ⟨fb, hb, h⟩ := Option.bind_eq_some_iff.mp h
        cases h
        have hm := not_of h1
        exact ⟨e_cmp (units66 f) hg (ihE _ _ ha) (ihE _ _ hb) hm, t_cmp (units66 f) hg (ihE _ _ ha) (ihE _ _ hb) hm⟩
      · obtain ⟨h1, h2⟩ := when_some h
        obtain ⟨g, hg, h⟩ := Option.bind_eq_some_iff.mp h2
        obtain ⟨g', hg', h⟩ := Option.bind_eq_some_iff.mp h
        obtain ⟨fa, ha, h⟩ := Option.bind_eq_some_iff.mp h
        obtain ⟨fb, hb, h⟩ := Option.bind_eq_some_iff.mp h
        obtain ⟨fc, hc, h⟩ := Option.bind_eq_some_iff.mp h
        cases h
        have hm := not_of h1
        exact ⟨e_chain (units66 f) hg hg' (ihE _ _ ha) (ihE _ _ hb) (ihE _ _ hc) hm, t_chain (units66 f) hg hg' (ihE _ _ ha) (ihE _ _ hb) (ihE _ _ hc) hm⟩
      · cases h
    | Tuple es j p =>
      unfold trE at h
      obtain ⟨r, hr, h⟩ := Option.bind_eq_some_iff.mp h
      cases h
      exact good_val (e_tup (trArgs_ok ihE hr).2) fun _ => rfl
    | List es p =>
      unfold trE at h
      obtain ⟨r, hr, h⟩ := Option.bind_eq_some_iff.mp h
      cases h
      exact good_val (e_lst (trArgs_ok ihE hr).2) fun _ => rfl
    | Dict ks vs p =>
      unfold trE at h
      obtain ⟨h1, h2⟩ := when_some h
      obtain ⟨r, hr, h⟩ := Option.bind_eq_some_iff.mp h2
      cases h
      rw [Bool.and_eq_true, Bool.and_eq_true, Bool.and_eq_true, decide_eq_true_eq, decide_eq_true_eq] at h1
      refine good_val (e_dict (trPairs_ok ihE hr) h1.1.1.1 h1.1.1.2 (fun z => ?_) h1.2) fun _ => rfl
      rw [z] at h1
      exact absurd h1.1.2 (by decide)
    | Subscript a s p =>
      unfold trE at h
      simp only at h
      split at h
      · obtain ⟨fa, ha, h⟩ := Option.bind_eq_some_iff.mp h
        cases h
        exact good_val (e_rev (ihE _ _ ha)) fun _ => rfl
      · obtain ⟨fa, ha, h⟩ := Option.bind_eq_some_iff.mp h
        obtain ⟨l, hl, h⟩ := Option.bind_eq_some_iff.mp h
        obtain ⟨u, hu, h⟩ := Option.bind_eq_some_iff.mp h
        cases h
        exact good_val (e_slice (ihE _ _ ha) (trPart_ok ihE hl) (trPart_ok ihE hu)) fun _ => rfl
      · obtain ⟨h1, h2⟩ := when_some h
        obtain ⟨fa, ha, h⟩ := Option.bind_eq_some_iff.mp h2
        obtain ⟨fb, hb, h⟩ := Option.bind_eq_some_iff.mp h
        cases h
        exact good_val (e_ix (units1 f) h1 (ihE _ _ ha) (ihE _ _ hb)) fun _ => rfl
    | Call fe args kws p =>
      cases fe with
      | Name x q =>
        unfold trE at h
        exact good_val (trCall_ok W C f ihE h) fun _ => rfl
      | Attribute o name q =>
        unfold trE at h
        obtain ⟨h1, h2⟩ := when_some h
        have : kws = [] := by simpa using h1
        subst this
        exact good_val (trMeth_ok ihE h2) fun _ => rfl
      | _ => simp [trE] at h
    | ListComp elt gens scope p =>
      obtain ⟨tg, iter, ifs, fs, t, fc, fe, rfl, h1, hs, ht, hc, he, rfl⟩ := lc_parts h
      obtain ⟨s1, s2⟩ := trSrc_ok W f ihE (tg := tg) hs
      obtain ⟨g, g1, g2⟩ := trTgC_ok (P := P) (w := w) (K := K) (mg := mg) (base := base) (k := k) ht
      have blk : BlkOk X.N X.env.scope scope (ownOf c.N scope) := by rw [f.names, f.scope]; exact blkOk_by h1
      refine good_val (e_lc f.calm f.nd s1 blk (fun s H Cc cl fp => g2 _ (f.blk s H scope cl Cc fp blk.kind)) (by rw [f.frag]; exact g1) (fun s H Cc cl fp => ?_) (fun s H Cc cl fp => ?_) s2) fun _ => rfl
      · exact trIfs_ok (X := X.blk s H scope (compEnvC scope cl Cc X.env) fp) (fun e m q => ih (inBlk c scope) e m q _ (f.blk s H scope cl Cc fp blk.kind)) hc
      · exact (ih (inBlk c scope) elt fe he _ (f.blk s H scope cl Cc fp blk.kind)).1
    | _ => simp [trE] at h
theorem trTg_ok {c : Cxt} {X : Cx} (f : Fits P w K mg base k c X) {te : Expr → Option M} (ih : ∀ e m, te e = some m → EO X e m) {n : Nat} {tg : Expr} {t : T} (h : trTg te c n tg = some t) : GO X tg t := by
  cases n with
  | zero => cases h
  | succ n =>
    cases tg with
    | Name x p =>
      unfold trTg at h
      obtain ⟨i, hi, h⟩ := Option.bind_eq_some_iff.mp h
      cases h
      exact gname_weak (trTgName_ok f hi).1
    | Tuple es j p =>
      have h' : (if es.all noStar = true then (trTgNames c es).bind fun l => some (gTup' (tlOf l)) else (trStar c es).bind fun r => some (gStar' r.1 r.2.1 (tlOf r.2.2))) = some t := h
      clear h
      split at h'
      · rename_i h1
        obtain ⟨l, hl, h⟩ := Option.bind_eq_some_iff.mp h'
        cases h
        obtain ⟨b1, b2, b3, b4, b5⟩ := trTgNames_ok f hl
        exact g_tup f.calm h1 b4 b2
      · obtain ⟨r, hr, h⟩ := Option.bind_eq_some_iff.mp h'
        cases h
        obtain ⟨b1, b2, b3⟩ := trStar_ok f hr
        exact g_star f.calm b1 b2 b3
    | Subscript o i p =>
      unfold trTg at h
      obtain ⟨h1, h2⟩ := when_some h
      obtain ⟨fo, ho, h⟩ := Option.bind_eq_some_iff.mp h2
      obtain ⟨fi, hi, h⟩ := Option.bind_eq_some_iff.mp h
      cases h
      exact g_sub (units1 f) h1 (ih _ _ ho) (ih _ _ hi)
    | _ => simp [trTg] at h
theorem comp_none {e : Expr} {l : Nat} {env : Env} (h : notComp e = true) {o : Option Expr} : swapsWith e o l env = pure false := by
  cases e <;> first | rfl | cases h
theorem not_swapped {tg e : Expr} {env : Env} (h : (notTup e || notSeq tg) = true) : swappedStores [tg] e env = pure none := by
  unfold swappedStores
  cases tg <;> cases e <;> first | rfl | cases h
theorem p_aug {X : Cx} {op : Operator} {g : D → D → Hpp → R D} (h : augOf op = some g) : PIp X op (rB X.K g) := by
  cases op <;> simp only [augOf, Option.some.injEq, reduceCtorEq] at h <;> subst h
  · refine OpR.weak (X := X) iop_add ?_
    rintro x y H Q ⟨m, A, dx, dy, d, A', hr, rx, ry, e, post⟩
    unfold augAdd at e
    split at e
    · cases e
      simp only [Rep] at rx ry
      subst rx; subst ry
      exact ⟨_, _, rfl, rfl, post.now hr rfl⟩
    · cases e
  · refine OpR.weak (X := X) iop_mul ?_
    rintro x y H Q ⟨m, A, dx, dy, d, A', hr, rx, ry, e, post⟩
    unfold augMul at e
    split at e
    · split at e
      · cases e
        rename_i hc
        simp only [Rep] at rx ry
        subst rx; subst ry
        exact ⟨_, _, rfl, rfl, hc, post.now hr rfl⟩
      · cases e
    · cases e
theorem par_ok {c : Cxt} {X : Cx} (f : Fits P w K mg base k c X) {x y : Str} {px py pt pt2 : Pos} {kt k2 : Nat} {a b : Expr} (h : parOk c x y px py a b = true) :
    X.env.scope.names.lookup x = some .local ∧ X.env.scope.names.lookup y = some .local ∧ x ≠ y ∧ swappedStores [.Tuple [.Name x px, .Name y py] kt pt] (.Tuple [a, b] k2 pt2) X.env = pure (some [x, y]) := by
  unfold parOk at h
  simp only [Bool.and_eq_true, Bool.not_eq_true'] at h
  obtain ⟨⟨⟨⟨⟨⟨⟨⟨h1, h2⟩, h3⟩, h4⟩, h5⟩, h6⟩, h7⟩, h8⟩, h9⟩ := h
  have kf : c.sc.kind = .function := by
    split at h1
    · assumption
    · cases h1
  have lx : c.sc.names.lookup x = some .local := by
    split at h2
    · assumption
    · cases h2
  have ly : c.sc.names.lookup y = some .local := by
    split at h3
    · assumption
    · cases h3
  have hne : x ≠ y := by simpa using h5
  refine ⟨by rw [f.scope]; exact lx, by rw [f.scope]; exact ly, hne, ?_⟩
  have bk : X.env.blockKind = .function := by
    unfold Env.blockKind
    rw [f.scope, kf]
    rfl
  have kx : (X.env.kindOf x == some .local) = true := by unfold Env.kindOf; rw [f.scope, lx]; rfl
  have ky : (X.env.kindOf y == some .local) = true := by unfold Env.kindOf; rw [f.scope, ly]; rfl
  have hp : (Expr.Name x px).pos = px := rfl
  have dups : ([x, y] : List Str).eraseDups.length = 2 := by
    have : (y == x) = false := by simpa using fun z => hne z.symm
    simp [List.eraseDups, List.eraseDupsBy, List.eraseDupsBy.loop, this]
  have nm : ([Expr.Name x px, Expr.Name y py].filterMap fun
    | .Name id pos => if X.env.kindOf id == some .local && pos.line == px.line then some id else none
    | _ => none) = [x, y] := by
    simp only [List.filterMap_cons, List.filterMap_nil, kx, ky, h4, beq_self_eq_true, Bool.and_self, if_true]
  unfold swappedStores
  simp only [List.length_cons, List.length_nil, bk]
  rw [if_neg (by decide)]
  split
  · rename_i hany
    exfalso
    simp only [List.any_cons, List.any_nil, Bool.or_false, Bool.or_eq_true] at hany
    rcases hany with q | q
    · split at q
      · cases h6
      · cases q
    · split at q
      · cases h7
      · cases q
  · simp only [List.filterMap_cons, List.filterMap_nil, List.head?_cons, Option.map_some, Option.getD_some, hp, kx, ky, h4, beq_self_eq_true, Bool.and_self, if_true, List.length_cons, List.length_nil]
    rw [show ([x, y] : List Str).eraseDups.length = 2 from dups, h8, h9]
    rfl
theorem filt_lt {α β : Type} {f : α → Option β} : ∀ {l : List α}, (l.filterMap f).length ≤ l.length ∧ ((∃ a ∈ l, f a = none) → (l.filterMap f).length < l.length)
  | [] => ⟨Nat.le_refl _, fun ⟨a, h, _⟩ => by cases h⟩
  | a :: l => by
    obtain ⟨h1, h2⟩ := filt_lt (f := f) (l := l)
    cases e : f a with
    | none =>
      rw [List.filterMap_cons_none e]
      exact ⟨by simp; omega, fun _ => by simp; omega⟩
    | some b =>
      rw [List.filterMap_cons_some e]
      refine ⟨by simpa using h1, fun ⟨a', ha, hf⟩ => ?_⟩
      rcases List.mem_cons.mp ha with rfl | ha
      · rw [e] at hf; cases hf
      · simpa using h2 ⟨a', ha, hf⟩
theorem par_none {c : Cxt} {X : Cx} (f : Fits P w K mg base k c X) {tg e : Expr} (h : parNone c tg e = true) : swappedStores [tg] e X.env = pure none := by
  cases tg <;> first | (cases h; done) | skip
  cases e <;> first | (cases h; done) | skip
  rename_i ts kt pt vs k2 pt2
  have h' : (ts.any (notLoc c) || vs.all (foldedForSure 8)) = true := h
  unfold swappedStores
  dsimp only
  split
  · rfl
  split
  · rfl
  split
  · rfl
  rename_i hn
  split
  · rfl
  rename_i hv
  exfalso
  rw [Bool.or_eq_true] at h'
  rcases h' with h' | h'
  · apply hn
    rw [Bool.or_eq_true]
    refine .inl ?_
    obtain ⟨a, ha, hf⟩ := List.any_eq_true.mp h'
    have := (filt_lt (f := fun x => match x with
      | .Name id pos => if (X.env.kindOf id == some .local && pos.line == (ts.head?.map (·.pos.line)).getD 0) = true then some id else none
      | _ => none) (l := ts)).2 ⟨a, ha, by
        cases a <;> first | rfl | skip
        rename_i y py
        have hk : (X.env.kindOf y == some NameKind.local) = false := by
          unfold Env.kindOf
          rw [f.scope]
          simp only [notLoc] at hf
          split at hf
          · cases hf
          · rename_i q
            cases e : c.sc.names.lookup y with
            | none => rfl
            | some kk =>
              cases kk <;> first | rfl | (exact absurd e q)
        simp only [hk, Bool.false_and, Bool.false_eq_true, if_false]⟩
    simp only [bne_iff_ne, ne_eq]
    intro z
    exact (Nat.ne_of_lt this) z
  · exact hv h'
theorem not_swapped' {c : Cxt} {X : Cx} (f : Fits P w K mg base k c X) {tg e : Expr} (h : (notTup e || notSeq tg || parNone c tg e) = true) : swappedStores [tg] e X.env = pure none := by
  rw [Bool.or_eq_true] at h
  exact h.elim not_swapped (par_none f)
theorem swaps_not {c : Cxt} {X : Cx} (f : Fits P w K mg base k c X) {tg e : Expr} {p : Pos} (h : notLoc c tg = true) : swapsWithSole [tg] e p.line X.env = pure false := by
  show swapsWith e (some tg) p.line X.env = pure false
  cases e <;> first | rfl | skip
  all_goals
    cases tg <;> first | rfl | skip
    rename_i y py
    have hk : (X.env.kindOf y == some NameKind.local) = false := by
      unfold Env.kindOf
      rw [f.scope]
      simp only [notLoc] at h
      split at h
      · cases h
      · rename_i q
        cases e : c.sc.names.lookup y with
        | none => rfl
        | some kk =>
          cases kk <;> first | rfl | (exact absurd e q)
    unfold swapsWith
    dsimp only
    rw [hk, Bool.and_false, Bool.false_and, Bool.false_and]
theorem loc_is {c : Cxt} {x : Str} (h : (match c.sc.names.lookup x with | some .local => true | _ => false) = true) : c.sc.names.lookup x = some .local := by
  split at h
  · assumption
  · cases h
theorem par_ok3 {c : Cxt} {X : Cx} (f : Fits P w K mg base k c X) {x y z : Str} {px py pz pt pt2 : Pos} {kt k2 : Nat} {a b d : Expr} (h : parOk3 c x y z px py pz [a, b, d] = true) :
    X.env.scope.names.lookup x = some .local ∧ X.env.scope.names.lookup y = some .local ∧ X.env.scope.names.lookup z = some .local ∧ x ≠ y ∧ x ≠ z ∧ y ≠ z ∧ swappedStores [.Tuple [.Name x px, .Name y py, .Name z pz] kt pt] (.Tuple [a, b, d] k2 pt2) X.env = pure (some [x, y, z]) := by
  unfold parOk3 at h
  simp only [Bool.and_eq_true, Bool.not_eq_true'] at h
  obtain ⟨⟨⟨⟨⟨⟨⟨⟨⟨⟨⟨h1, h2⟩, h3⟩, h4⟩, h5⟩, h6⟩, h7⟩, h8⟩, h9⟩, h10⟩, h11⟩, h12⟩ := h
  have kf : c.sc.kind = .function := by
    split at h1
    · assumption
    · cases h1
  have lx := loc_is h2
  have ly := loc_is h3
  have lz := loc_is h4
  have n1 : x ≠ y := by simpa using h7
  have n2 : x ≠ z := by simpa using h8
  have n3 : y ≠ z := by simpa using h9
  refine ⟨by rw [f.scope]; exact lx, by rw [f.scope]; exact ly, by rw [f.scope]; exact lz, n1, n2, n3, ?_⟩
  have bk : X.env.blockKind = .function := by
    unfold Env.blockKind
    rw [f.scope, kf]
    rfl
  have kx : (X.env.kindOf x == some .local) = true := by unfold Env.kindOf; rw [f.scope, lx]; rfl
  have ky : (X.env.kindOf y == some .local) = true := by unfold Env.kindOf; rw [f.scope, ly]; rfl
  have kz : (X.env.kindOf z == some .local) = true := by unfold Env.kindOf; rw [f.scope, lz]; rfl
  have dups : ([x, y, z] : List Str).eraseDups.length = 3 := by
    have q1 : (y == x) = false := by simpa using fun w => n1 w.symm
    have q2 : (z == x) = false := by simpa using fun w => n2 w.symm
    have q3 : (z == y) = false := by simpa using fun w => n3 w.symm
    simp [List.eraseDups, List.eraseDupsBy, List.eraseDupsBy.loop, q1, q2, q3]
  have nm : ([Expr.Name x px, Expr.Name y py, Expr.Name z pz].filterMap fun
    | .Name id pos => if X.env.kindOf id == some .local && pos.line == px.line then some id else none
    | _ => none) = [x, y, z] := by
    simp only [List.filterMap_cons, List.filterMap_nil, kx, ky, kz, h5, h6, beq_self_eq_true, Bool.and_self, if_true]
  have hp : (Expr.Name x px).pos = px := rfl
  have stars : ∀ {e : Expr}, noStar e = true → (match e with | .Starred .. => true | _ => false) = false := fun {e} he => by
    cases e <;> first | rfl | cases he
  simp only [List.all_cons, List.all_nil, Bool.and_true, Bool.and_eq_true] at h10
  unfold swappedStores
  simp only [List.length_cons, List.length_nil, bk]
  rw [if_neg (by decide)]
  split
  · rename_i hany
    exfalso
    simp only [List.any_cons, List.any_nil, Bool.or_false, Bool.or_eq_true] at hany
    rcases hany with q | q | q
    · split at q
      · cases h10.1
      · cases q
    · split at q
      · cases h10.2.1
      · cases q
    · split at q
      · cases h10.2.2
      · cases q
  · simp only [List.filterMap_cons, List.filterMap_nil, List.head?_cons, Option.map_some, Option.getD_some, hp, kx, ky, kz, h5, h6, beq_self_eq_true, Bool.and_self, if_true, List.length_cons, List.length_nil]
    rw [show ([x, y, z] : List Str).eraseDups.length = 3 from dups, h11, h12]
    rfl
theorem trPar_ok {c : Cxt} {X : Cx} (f : Fits P w K mg base k c X) {te : Expr → Option M} (ih : ∀ e m, te e = some m → EO X e m) {tg e : Expr} {p : Pos} {s : S} (h : trPar te c tg e = some s) : SO X (.Assign [tg] e p) s := by
  unfold trPar at h
  split at h
  · obtain ⟨h1, h2⟩ := when_some h
    obtain ⟨i, hi, h3⟩ := Option.bind_eq_some_iff.mp h2
    obtain ⟨j, hj, h4⟩ := Option.bind_eq_some_iff.mp h3
    obtain ⟨r, hr, h5⟩ := Option.bind_eq_some_iff.mp h4
    cases h5
    obtain ⟨q1, q2, q3, q4⟩ := par_ok f h1
    have ei := slot_of hi
    have ej := slot_of hj
    exact s_par f.calm f.nd (by rw [f.names]; exact ei) (by rw [f.names]; exact ej) (fun z => q3 (by subst z; rw [ei] at ej; exact Option.some.inj ej)) q1 q2 (trArgs_ok ih hr).2 q4 rfl
  · obtain ⟨h1, h2⟩ := when_some h
    obtain ⟨i, hi, h3⟩ := Option.bind_eq_some_iff.mp h2
    obtain ⟨j, hj, h4⟩ := Option.bind_eq_some_iff.mp h3
    obtain ⟨l, hl, h5⟩ := Option.bind_eq_some_iff.mp h4
    obtain ⟨r, hr, h6⟩ := Option.bind_eq_some_iff.mp h5
    cases h6
    obtain ⟨q1, q2, q3, n1, n2, n3, q4⟩ := par_ok3 f h1
    have ei := slot_of hi
    have ej := slot_of hj
    have el := slot_of hl
    exact s_par3 f.calm f.nd (by rw [f.names]; exact ei) (by rw [f.names]; exact ej) (by rw [f.names]; exact el) (fun z => n1 (by subst z; rw [ei] at ej; exact Option.some.inj ej)) (fun z => n2 (by subst z; rw [ei] at el; exact Option.some.inj el)) (fun z => n3 (by subst z; rw [ej] at el; exact Option.some.inj el)) q1 q2 q3 (trArgs_ok ih hr).2 q4 rfl
  · cases h
theorem trS_ok (W : World' B K mg ad fd) (C : Calls B P w K mg base k ad fd F) : ∀ (n : Nat), (∀ (c : Cxt) (st : Stmt) (m : S), trS B F n c st = some m → ∀ X : Cx, Fits P w K mg base k c X → SO X st m) ∧
    (∀ (c : Cxt) (l : List Stmt) (m : S), trSs B F n c l = some m → ∀ X : Cx, Fits P w K mg base k c X → SLO X l m) := by
  intro n
  induction n with
  | zero => exact ⟨fun c st m h => by simp [trS] at h, fun c l m h => by simp [trSs] at h⟩
  | succ n ih =>
    refine ⟨fun c st m h X f => ?_, fun c l m h X f => ?_⟩
    · have ihE : ∀ e m, trE B F n c e = some m → EO X e m := fun e m q => (trE_ok W C n c e m q X f).1
      have ihG : ∀ e m, trE B F n c e = some m → Good X e m := fun e m q => trE_ok W C n c e m q X f
      have ihL : ∀ l m, trSs B F n c l = some m → SLO X l m := fun l m q => ih.2 c l m q X f
      have po : PassesOwn (model X.prog X.w) X.A X.env X.xe := by rw [f.xe]; exact PassesOwn.never
      cases st with
      | Return v p =>
        unfold trS at h
        cases v with
        | none => cases h; exact s_retN
        | some e =>
          obtain ⟨fe, he, h⟩ := Option.bind_eq_some_iff.mp h
          cases h
          exact s_ret (ihE _ _ he)
      | Pass p => unfold trS at h; cases h; exact s_pass
      | Break p => unfold trS at h; cases h; exact s_break
      | Continue p => unfold trS at h; cases h; exact s_cont
      | Raise a b p => unfold trS at h; cases h; exact s_bad
      | If t a b p =>
        unfold trS at h
        obtain ⟨ft, ht, h⟩ := Option.bind_eq_some_iff.mp h
        obtain ⟨fa, ha, h⟩ := Option.bind_eq_some_iff.mp h
        obtain ⟨fb, hb, h⟩ := Option.bind_eq_some_iff.mp h
        cases h
        exact s_if (ihG _ _ ht).2 (ihL _ _ ha) (ihL _ _ hb)
      | Expr e p =>
        unfold trS at h
        obtain ⟨h1, h2⟩ := when_some h
        obtain ⟨fe, he, h⟩ := Option.bind_eq_some_iff.mp h2
        cases h
        exact s_drop (ihE _ _ he) (comp_none h1)
      | While t a els p =>
        unfold trS at h
        obtain ⟨h1, h2⟩ := when_some h
        have : els = [] := by simpa using h1
        subst this
        obtain ⟨ft, ht, h⟩ := Option.bind_eq_some_iff.mp h2
        obtain ⟨fa, ha, h⟩ := Option.bind_eq_some_iff.mp h
        cases h
        exact s_while po (ihG _ _ ht).2 (ihL _ _ ha)
      | For tg it a els p =>
        unfold trS at h
        obtain ⟨h1, h2⟩ := when_some h
        have : els = [] := by simpa using h1
        subst this
        obtain ⟨fs, hs, h⟩ := Option.bind_eq_some_iff.mp h2
        obtain ⟨t, ht, h⟩ := Option.bind_eq_some_iff.mp h
        obtain ⟨fa, ha, h⟩ := Option.bind_eq_some_iff.mp h
        cases h
        obtain ⟨s1, s2⟩ := trSrc_ok W f ihE (tg := tg) hs
        exact s_for po f.calm s1 (trTg_ok f ihE ht) (ihL _ _ ha) s2
      | AugAssign tg op e p =>
        cases tg with
        | Name x q =>
          unfold trS at h
          obtain ⟨g, hg, h⟩ := Option.bind_eq_some_iff.mp h
          obtain ⟨i, hi, h⟩ := Option.bind_eq_some_iff.mp h
          obtain ⟨fe, he, h⟩ := Option.bind_eq_some_iff.mp h
          cases h
          unfold trTgName at hi
          obtain ⟨h1, h2⟩ := when_some hi
          obtain ⟨l1, l2⟩ := loc_of f h1
          exact s_aug f.nd (by rw [f.names]; exact slot_of h2) l1 (ihE _ _ he) (p_aug hg) l2
        | _ => simp [trS] at h
      | Assign tgs e p =>
        unfold trS at h
        simp only at h
        split at h
        · rename_i tg
          unfold orElse' at h
          split at h
          · rename_i q
            cases h
            exact trPar_ok f ihE q
          · obtain ⟨h1, h2⟩ := when_some h
            rw [Bool.and_eq_true, Bool.and_eq_true] at h1
            have nsw := not_swapped' f h1.1.1
            obtain ⟨fe, he, h3⟩ := Option.bind_eq_some_iff.mp h2
            obtain ⟨t, ht, h4⟩ := Option.bind_eq_some_iff.mp h3
            cases h4
            by_cases hcomp : notComp e = true
            · exact s_asg h1.1.2 (ihE _ _ he) (trTg_ok f ihE ht) (comp_none hcomp) nsw
            · by_cases hnl : notLoc c tg = true
              · refine s_asg h1.1.2 (ihE _ _ he) (trTg_ok f ihE ht) ?_ nsw
                exact swaps_not f hnl
              by_cases hnm : isName tg = true
              · have hsw : swapsC c tg e = true := by
                  have := h1.2
                  rw [hnm] at this
                  have hc' : notComp e = false := by simpa using hcomp
                  have hl' : notLoc c tg = false := by simpa using hnl
                  rw [hc', hl'] at this
                  simpa using this
                cases e with
                | ListComp elt gens scope q =>
                  cases tg with
                  | Name y py =>
                    cases n with
                    | zero => simp [trE] at he
                    | succ n =>
                      obtain ⟨tg, iter, ifs, fs, t', fc, fe', rfl, h1, hs, ht', hc, he', rfl⟩ := lc_parts he
                      have ihE' : ∀ e m, trE B F n c e = some m → EO X e m := fun e m q => (trE_ok W C n c e m q X f).1
                      obtain ⟨s1, s2⟩ := trSrc_ok W f ihE' (tg := tg) hs
                      obtain ⟨g, g1, g2⟩ := trTgC_ok (P := P) (w := w) (K := K) (mg := mg) (base := base) (k := k) ht'
                      have blk : BlkOk X.N X.env.scope scope (ownOf c.N scope) := by rw [f.names, f.scope]; exact blkOk_by h1
                      unfold swapsC at hsw
                      simp only [Bool.and_eq_true, Bool.not_eq_true'] at hsw
                      have ly : X.env.scope.names.lookup y = some .local := by
                        rw [f.scope]
                        have z := hsw.1.1
                        split at z
                        · assumption
                        · cases z
                      unfold trTg at ht
                      obtain ⟨i, hi, ht⟩ := Option.bind_eq_some_iff.mp ht
                      cases ht
                      unfold trTgName at hi
                      obtain ⟨z1, z2⟩ := when_some hi
                      refine s_setLc f.calm f.nd (by rw [f.names]; exact slot_of z2) ly (sw_true ?_ ly hsw.1.2 hsw.2) s1 blk (fun s H Cc cl fp => g2 _ (f.blk s H scope cl Cc fp blk.kind)) (by rw [f.frag]; exact g1) (fun s H Cc cl fp => ?_) (fun s H Cc cl fp => ?_) s2
                      · exact f.kind
                      · exact trIfs_ok (X := X.blk s H scope (compEnvC scope cl Cc X.env) fp) (fun e m q => trE_ok W C n (inBlk c scope) e m q _ (f.blk s H scope cl Cc fp blk.kind)) hc
                      · exact (trE_ok W C n (inBlk c scope) elt fe' he' _ (f.blk s H scope cl Cc fp blk.kind)).1
                  | _ => exact absurd hnm (by simp [isName])
                | _ => first | (exact absurd rfl hcomp) | (simp [swapsC] at hsw)
              · refine s_asg h1.1.2 (ihE _ _ he) (trTg_ok f ihE ht) ?_ nsw
                show swapsWith e (some tg) p.line X.env = pure false
                cases e <;> first | rfl | (cases tg <;> first | rfl | (exact absurd rfl hnm))
        · cases h
      | _ => simp [trS] at h
    · cases l with
      | nil => unfold trSs at h; cases h; exact l_nil
      | cons s r =>
        unfold trSs at h
        obtain ⟨fs, hs, h⟩ := Option.bind_eq_some_iff.mp h
        obtain ⟨fr, hr, h⟩ := Option.bind_eq_some_iff.mp h
        cases h
        exact l_cons (ih.1 c s fs hs X f) (ih.2 c r fr hr X f)
end
end Rf
namespace Rf
open PySem PySem.Spec PyProof.Rows L2
/-- the program's small form agrees with the text -/
def Turned (B : Tb) (Pr : Nat → Option Fn) : Prop :=
  ∀ (i : Nat) (I : FnI), B.fns[i]? = some I → ∃ fn, Pr i = some fn ∧ fn.names = I.N.length ∧ fn.pars = I.ps.length ∧ I.ps.length ≤ I.N.length ∧ FnScope I.N I.ps I.scope ∧ ∃ fuel, ∀ F, trSs B F fuel ⟨I.N, I.scope, none⟩ I.body = some (fn.body F)
theorem fnG_all {B : Tb} {P : Program} {w : World} {K : PySem.W.Frag} {mg : Str → Option Value} {base : Heap} {ad : Nat → Addr} {fd : Nat → FuncData} {Pr : Nat → Option Fn} (W : World' B K mg ad fd) (T : Turned B Pr) : ∀ k, Calls B P w K mg base k ad fd (FF Pr k) := by
  intro k
  induction k with
  | zero =>
    intro i I hI
    refine ⟨fun A outer s H args us vs Q _ _ _ _ _ _ h => ?_⟩
    obtain ⟨m, A, ds, d, A', _, _, e, _⟩ := h
    cases e
  | succ k ih =>
    intro i I hI
    obtain ⟨w1, w2, oc, od, dV, kV, doc, pm, an, cdv, ct, osl, e1, e2, e3⟩ := W.fn i I hI
    obtain ⟨fn, p1, p2, p3, p4, p5, fuel, p6⟩ := T i I hI
    have eF : FF Pr (k + 1) i = fun ds A => if ds.length = I.ps.length then enter fn.names (fn.body (FF Pr k)) ds A else .bad := by
      funext ds A
      show (match Pr i with | some f => if ds.length = f.pars then enter f.names (f.body (FF Pr k)) ds A else .bad | none => .bad) = _
      rw [p1]
      show (if ds.length = fn.pars then _ else _) = _
      rw [p3]
    rw [eF, e1]
    rw [e1] at e2
    refine fnG_of e2 e3 p5 p2 p4 fun A outer s H hr hg => ?_
    refine (trS_ok W ih fuel).2 ⟨I.N, I.scope, none⟩ I.body _ (p6 _) _ ?_
    exact ⟨rfl, rfl, rfl, rfl, rfl, rfl, rfl, fun _ _ => rfl, p5.nd, rfl, hg, hr, rfl, p5.kind⟩
/-- the law's call -/
theorem lawG_call {P : Program} {w : World} {K : PySem.W.Frag} {mg mb : Str → Option Value} {k : Nat} {fa a : Addr} {fd : FuncData} {x : Str} {Fi : List D → Hpp → R D} {s1 : Shared} {vs : List Value} {ns : List Int}
    (kin : K.In s1.heap) (hns : s1.heap.Ns mainGlobals mg) (hb : s1.heap.Ns builtinsNs mb) (hbb : ∀ x : Str, x ≠ "__name__" → mb x = bootBuiltins x) (nol : s1.heap.NoLimit) (hg : s1.gens = #[])
    (ha : s1.heap.get? a = some { cls := .type "list", data := .seq vs.toArray }) (hi : IntsAre vs ns) (hl : ns.length ≤ sizeLine) (hr : Room k callerA)
    (F : ∀ base : Heap, K.In base → base.Ns mainGlobals mg → FnG P w K mg base k fa fd [x] (spG K Fi)) (hbind : ∀ (s : Shared) (u : Value), BindsTo s fd ⟨[u], []⟩ [(x, u)])
    (fin : ∃ A', Fi [.ref 0] [.rd (ns.map D.int)] = .ok (.bl true) A') :
    codeAny (model P w) callerA (.call (.ref fa) ⟨[.ref a], []⟩) (fun r s' => r = .ok (.ret (.bool true)) ∧ OldK s1.heap s'.heap ∧ s'.os = s1.os ∧ AllBare s'.gens) s1 := by
  obtain ⟨Af, ef⟩ := fin
  have rv := vals_ints hi
  have lv := hi.length
  have rints : ∀ (H : Hp) (m : List Addr) (l : List Int), RepL K H m (l.map D.int) (l.map V.int) := fun H m l => by
    induction l with
    | nil => exact rfl
    | cons i l ih => exact ⟨_, _, rfl, rfl, ih⟩
  have main : ∀ H : Hp, (∀ b, H b = none ∨ ∃ o xs, H b = some (.frz o (.lst xs))) → RdAt K H a (ns.map V.int) → HOk P w H s1.heap → (∀ b, H b ≠ none → b = a) → (H a ≠ none → K.lookup a = none) →
      codeAny (model P w) callerA (.call (.ref fa) ⟨[.ref a], []⟩) (fun r s' => r = .ok (.ret (.bool true)) ∧ OldK s1.heap s'.heap ∧ s'.os = s1.os ∧ AllBare s'.gens) s1 := by
    intro H only rd hok single noK
    have under : ∀ {b : Addr} {o : Obj}, s1.heap.get? b = some o → H b = none → (hidT s1.heap H).get? b = some o := fun e n => hidT_get e n
    have dicts : ∀ {b : Addr} {o : Obj} {es : Array DictEntry} {ep : Nat}, s1.heap.get? b = some o → o.data = .dict es ep → H b = none := fun {b o es ep} e d => by
      refine Classical.byContradiction fun q => ?_
      have e' : b = a := single b q
      subst e'
      rw [ha] at e
      cases e
      have d' : Data.seq vs.toArray _ = Data.dict es ep := d
      cases d'
    have spaces : ∀ {b : Addr} {m : Str → Option Value}, s1.heap.Ns b m → (hidT s1.heap H).Ns b m := fun {b m} ⟨o, es, ep, e, d, r⟩ => ⟨o, es, ep, under e (dicts e d), d, r⟩
    have kb : K.In (hidT s1.heap H) := fun b o e => by
      refine under (kin b o e) (Classical.byContradiction fun q => ?_)
      have e' : b = a := single b q
      subst e'
      rw [noK q] at e
      cases e
    have md : Mod K mg (hidT s1.heap H) := by
      refine ⟨kb, spaces hns, ⟨mb, spaces hb, hbb⟩, ?_⟩
      obtain ⟨mc, h1, h2⟩ := nol
      exact ⟨mc, spaces h1, h2⟩
    have e0 : Env0 P w K mg (hidT s1.heap H) callerA [] s1 H :=
      ⟨rfl, md, fun b o e => of_hidT e, Nat.le_of_eq (hidT_size _ _), trivial, fun b hb => absurd (show b ∈ ([] : List Addr) from hb) (by simp), hok, .of_eq hg⟩
    have hR : HR K H [a] [.rd (ns.map D.int)] := by
      refine ⟨rfl, fun i j b o u e1 e2 f1 f2 m1 m2 => ?_, fun i b o e1 f1 => ?_⟩
      · have h1 := (List.getElem?_eq_some_iff.mp e1).1
        have h2 := (List.getElem?_eq_some_iff.mp e2).1
        simp at h1 h2
        omega
      · have h1 := (List.getElem?_eq_some_iff.mp e1).1
        simp at h1
        subst h1
        simp at e1 f1
        subst e1; subst f1
        exact ⟨_, rd, rints H _ ns⟩
    refine codeAny_mono ((F _ kb (spaces hns)).run callerA [] s1 H ⟨[.ref a], []⟩ [.ref a] [.ref a] (fun v _ => v = .bl true) hr rfl e0 (hbind s1 (.ref a)) (.cons rfl .nil) rfl
      ⟨[a], _, [.ref 0], .bl true, Af, hR, ⟨_, _, rfl, ⟨a, rfl, rfl⟩, rfl⟩, ef, fun m' v H' _ _ _ r => r⟩) fun r s' h => ?_
    obtain ⟨u, rfl, v, H', os, bare, un, hok', r', q⟩ := h
    have q' : v = .bl true := q
    subst q'
    have r'' : u = Value.bool true := r'
    subst r''
    refine ⟨rfl, OldK.of_keep fun b o e => ?_, os, bare⟩
    rcases only b with z | ⟨ob, xs, z⟩
    · exact un.keep b o e z (by intro y; exact absurd (show b ∈ ([] : List Addr) from y) (by simp)) (by simp)
    · have z2 := un.frzs b ob _ z
      obtain ⟨g1, _⟩ := hok b _ z
      obtain ⟨g2, _⟩ := hok' b _ z2
      rw [e] at g1
      cases g1
      exact g2
  cases hk : K.lookup a with
  | some o =>
    have e := kin a o hk
    rw [ha] at e
    cases e
    refine main (fun _ => none) (fun _ => .inl rfl) (.inr ⟨_, vs.toArray, _, hk, rfl, rfl, rfl, by rw [List.size_toArray, lv]; exact hl, by simpa using rv⟩) (fun b u z => ?_) (fun b z => absurd rfl z) fun z => absurd rfl z
    have z' : (none : Option HO) = some u := z
    cases z'
  | none =>
    refine main (fun b => if b = a then some (.frz { cls := .type "list", data := .seq vs.toArray } (.lst (ns.map V.int))) else none) (fun b => ?_) (.inl ⟨_, if_pos rfl⟩) (fun b u z => ?_) (fun b z => ?_) fun _ => hk
    · by_cases hb : b = a
      · exact .inr ⟨_, _, if_pos hb⟩
      · exact .inl (if_neg hb)
    · by_cases hb : b = a
      · have z' := (if_pos hb).symm.trans z
        cases z'
        subst hb
        exact ⟨ha, by rw [List.length_map]; exact hl, vs, _, rv, ha⟩
      · have z' := (if_neg hb).symm.trans z
        cases z'
    · refine Classical.byContradiction fun hb => z ?_
      exact if_neg hb
/-- the goal that k_head leaves -/
theorem walkG {l : PySem.W.OpenLaw} {n k : Nat} {q : Program} {loose : List Str} {XP : (Str → Option Value) → Heap → Prop} {YP : World → Heap → Prop} {d : DefRec} {K : Params → PySem.W.Frag} {x : Str}
    (hn : l.most = some n) (hn2 : n ≤ sizeLine) (hdf : d.params.defaults = []) (hr : Room k callerA)
    (hY : ∀ (w : World) (h : Heap), YP w h → (K w.params).In h)
    (F : ∀ (w : World) (mg : Str → Option Value) (fa : Addr) (h : Heap), (K w.params).In h → h.Ns mainGlobals mg → mg d.name = some (.ref fa) →
      ∃ (fd : FuncData) (Fi : List D → Hpp → R D), (∀ (s : Shared) (u : Value), BindsTo s fd ⟨[u], []⟩ [(x, u)]) ∧
        (∀ base : Heap, (K w.params).In base → base.Ns mainGlobals mg → FnG l.prog w (K w.params) mg base k fa fd [x] (spG (K w.params) Fi)) ∧
        ∀ ns : List Int, ns.length ≤ n → ∃ A', Fi [.ref 0] [.rd (ns.map D.int)] = .ok (.bl true) A') :
    PySem.W.WalkO q loose XP YP l.row.toRowW d [] (fun f vs => PySem.call f vs) := by
  refine Att.attach_call hn hdf fun w s0 s1 mg mb fa o pm cd doc a vs ns G Y ho hd hcd hmg hobj hints hlen hg => ?_
  have kin := hY w _ Y
  obtain ⟨fd, Fi, hb, hF, hE⟩ := F w mg fa _ kin G.T.g hmg
  exact lawG_call kin G.T.g G.T.b G.T.builtins G.T.nolimit hg hobj hints (Nat.le_trans hlen hn2) hr hF hb (hE ns hlen)
end Rf
namespace Rf
open PySem PySem.Spec L2
/-- a run that ends well -/
def Ok {α : Type} (r : R α) (Q : α → Hpp → Prop) : Prop := ∃ a A, r = .ok a A ∧ Q a A
theorem Ok.mono {α : Type} {r : R α} {Q Q' : α → Hpp → Prop} (h : Ok r Q) (w : ∀ a A, Q a A → Q' a A) : Ok r Q' := by
  obtain ⟨a, A, e, q⟩ := h
  exact ⟨a, A, e, w a A q⟩
theorem ok_ok {α : Type} {a : α} {A : Hpp} {Q : α → Hpp → Prop} : Ok (.ok a A) Q ↔ Q a A := by
  constructor
  · rintro ⟨b, B, e, q⟩; cases e; exact q
  · exact fun q => ⟨a, A, rfl, q⟩
theorem ok_bad {α : Type} {Q : α → Hpp → Prop} : Ok (.bad : R α) Q ↔ False := by
  constructor
  · rintro ⟨_, _, e, _⟩; cases e
  · exact fun h => h.elim
theorem ok_bind {α β : Type} {r : R α} {f : α → Hpp → R β} {Q : β → Hpp → Prop} : Ok (r.bind f) Q ↔ Ok r fun a A => Ok (f a A) Q := by
  constructor
  · rintro ⟨b, B, e, q⟩
    obtain ⟨a, A, e1, e2⟩ := R.bind_eq_ok e
    exact ⟨a, A, e1, b, B, e2, q⟩
  · rintro ⟨a, A, rfl, h⟩
    exact h
theorem ok_ofO {α : Type} {o : Option α} {A : Hpp} {Q : α → Hpp → Prop} : Ok (R.ofO o A) Q ↔ ∃ a, o = some a ∧ Q a A := by
  cases o with
  | none =>
    constructor
    · rintro ⟨_, _, e, _⟩; cases e
    · rintro ⟨_, e, _⟩; cases e
  | some x =>
    constructor
    · rintro ⟨_, _, e, q⟩; cases e; exact ⟨x, rfl, q⟩
    · rintro ⟨a, e, q⟩; cases e; exact ⟨x, A, rfl, q⟩
theorem ok_if {α : Type} {c : Prop} [Decidable c] {x y : R α} {Q : α → Hpp → Prop} : Ok (if c then x else y) Q ↔ if c then Ok x Q else Ok y Q := by
  split <;> exact Iff.rfl
theorem Ok.eq {α : Type} {r : R α} {Q : α → Hpp → Prop} (h : Ok r Q) : ∃ a A, r = .ok a A ∧ Q a A := h
/-! loops -/
theorem for_ok {src : Src} {t : T} {b : S} {Q : O → Hpp → Prop} (P : List D → Loc → Hpp → Prop) (h0 : ∀ L A, P [] L A → src.still A = true ∧ Q (.nx L) A)
    (h1 : ∀ d r L A, P (d :: r) L A → src.still A = true ∧ Ok (t d L A) fun L1 A1 => Ok (b L1 A1) fun o A2 => match o with
      | .nx L2 => P r L2 A2
      | .ct L2 => P r L2 A2
      | .bk L2 => Q (.nx L2) A2
      | .rt v => Q (.rt v) A2) : ∀ ds L A, P ds L A → Ok (forLoop src t b ds L A) Q
  | [], L, A, h => by
    obtain ⟨a, q⟩ := h0 L A h
    unfold forLoop
    rw [if_pos a]
    exact ok_ok.mpr q
  | d :: ds, L, A, h => by
    obtain ⟨a, q⟩ := h1 d ds L A h
    unfold forLoop
    rw [if_pos a, ok_bind]
    refine q.mono fun L1 A1 q1 => ok_bind.mpr (q1.mono fun o A2 q2 => ?_)
    cases o with
    | nx L2 => exact for_ok P h0 h1 ds L2 A2 q2
    | ct L2 => exact for_ok P h0 h1 ds L2 A2 q2
    | bk L2 => exact ok_ok.mpr q2
    | rt v => exact ok_ok.mpr q2
theorem lc_ok {src : Src} {n : Nat} {t : T} {c : MB} {e : M} {L : Loc} {Q : Unit → Hpp → Prop} (P : List D → Hpp → Prop) (h0 : ∀ A, P [] A → src.still A = true ∧ Q () A)
    (h1 : ∀ d r A, P (d :: r) A → src.still A = true ∧ Ok (t d L A) fun L1 A1 => Ok (c L1 A1) fun k A2 => if k = true then Ok (e L1 A2) fun x A3 => ∃ acc, A3[n]? = some (.lst acc) ∧ acc.length < sizeLine ∧ P r (A3.set n (.lst (acc ++ [x]))) else P r A2) :
    ∀ ds A, P ds A → Ok (lcLoop src n t c e L ds A) Q
  | [], A, h => by
    obtain ⟨a, q⟩ := h0 A h
    unfold lcLoop
    rw [if_pos a]
    exact ok_ok.mpr q
  | d :: ds, A, h => by
    obtain ⟨a, q⟩ := h1 d ds A h
    unfold lcLoop
    rw [if_pos a, ok_bind]
    refine q.mono fun L1 A1 q1 => ok_bind.mpr (q1.mono fun k A2 q2 => ?_)
    cases k with
    | false => exact lc_ok P h0 h1 ds A2 q2
    | true =>
      refine ok_bind.mpr (Ok.mono q2 fun x A3 q3 => ?_)
      obtain ⟨acc, e1, e2, q4⟩ := q3
      simp only [e1, if_pos e2]
      exact lc_ok P h0 h1 ds _ q4
theorem while_ok {c : M} {b : S} {Q : O → Hpp → Prop} (P : Nat → Loc → Hpp → Prop)
    (h1 : ∀ n L A, P n L A → Ok (mTest c L A) fun k A1 => if k = true then Ok (b L A1) fun o A2 => match o with
      | .nx L2 => ∃ m, m < n ∧ P m L2 A2
      | .ct L2 => ∃ m, m < n ∧ P m L2 A2
      | .bk L2 => Q (.nx L2) A2
      | .rt v => Q (.rt v) A2
      else Q (.nx L) A1) : ∀ (k n : Nat) L A, n < k → P n L A → Ok (whileLoop c b k L A) Q
  | 0, n, L, A, hk, h => by omega
  | k + 1, n, L, A, hk, h => by
    unfold whileLoop
    rw [ok_bind]
    refine (h1 n L A h).mono fun j A1 q => ?_
    cases j with
    | false => exact ok_ok.mpr q
    | true =>
      refine ok_bind.mpr (Ok.mono q fun o A2 q2 => ?_)
      cases o with
      | nx L2 => obtain ⟨m, hm, q3⟩ := q2; exact while_ok P h1 k m L2 A2 (by omega) q3
      | ct L2 => obtain ⟨m, hm, q3⟩ := q2; exact while_ok P h1 k m L2 A2 (by omega) q3
      | bk L2 => exact ok_ok.mpr q2
      | rt v => exact ok_ok.mpr q2
/-! what a call leaves -/
theorem gc_same {A A' : Hpp} {d : D} (h : A'.length ≤ A.length) : gcR A d A' = .ok d A' := by unfold gcR; rw [if_pos h]
theorem gc_self {A : Hpp} {d : D} : gcR A d A = .ok d A := gc_same (Nat.le_refl _)
theorem gc_pure {A B : Hpp} {d : D} (h : d.low 0 = true) : gcR A d (A ++ B) = .ok d A := by
  cases B with
  | nil => rw [List.append_nil]; exact gc_self
  | cons x B =>
    unfold gcR
    rw [if_neg (by simp), if_pos ⟨h, by simp⟩]
def Cl (A : Hpp) : Prop := A.all (HOb.low A.length) = true
theorem gc_low {A A1 B : Hpp} {d : D} (hl : A1.length = A.length) (hd : d.low A.length = true) (hc : Cl A1) : gcR A d (A1 ++ B) = .ok d A1 := by
  cases B with
  | nil => rw [List.append_nil]; exact gc_same (by omega)
  | cons x B =>
    unfold Cl at hc
    rw [hl] at hc
    have e : (A1 ++ x :: B).take A.length = A1 := by rw [← hl]; simp
    unfold gcR
    rw [if_neg (by simp [hl])]
    by_cases hp : d.low 0 = true ∧ (A1 ++ x :: B).take A.length = A
    · rw [if_pos hp, ← hp.2, e]
    · rw [if_neg hp, if_pos ⟨hd, by rw [e]; exact hc⟩, e]
theorem gc_list {A A1 B : Hpp} {o : HOb} {k : Nat} (hl : A1.length = A.length) (hc : Cl A1) (hk : A.length ≤ k) (ho : (A1 ++ B)[k]? = some o) (hlo : o.low A.length = true) : gcR A (.ref k) (A1 ++ B) = .ok (.ref A.length) (A1 ++ [o]) := by
  unfold Cl at hc
  rw [hl] at hc
  have e : (A1 ++ B).take A.length = A1 := by rw [← hl]; simp
  have hb : A.length < (A1 ++ B).length := Nat.lt_of_le_of_lt hk (List.getElem?_eq_some_iff.mp ho).1
  unfold gcR
  rw [if_neg (by omega), if_neg (by simp [D.low]), if_neg (by simp [D.low]; omega)]
  simp only [ho]
  rw [if_pos ⟨hk, hlo, by rw [e]; exact hc⟩, e]
theorem cl_set {A : Hpp} {n : Nat} {o : HOb} (h : Cl A) (ho : o.low A.length = true) : Cl (A.set n o) := by
  unfold Cl at h ⊢
  rw [List.all_eq_true] at h ⊢
  intro x hx
  rw [List.length_set]
  rcases List.mem_or_eq_of_mem_set hx with z | z
  · exact h x z
  · rw [z]; exact ho
/-! plain data -/
mutual
def D.dp : D → Nat
  | .tup l => D.dpL l + 1
  | _ => 0
def D.dpL : List D → Nat
  | [] => 0
  | d :: r => max (D.dp d) (D.dpL r)
end
mutual
def D.wt : D → Nat
  | .int i => i.natAbs.log2 + 1
  | .str s => s.length
  | .tup l => D.wtL l
  | .non => 1
  | .bl _ => 1
  | .ref _ => 0
def D.wtL : List D → Nat
  | [] => 0
  | d :: r => D.wt d + 1 + D.wtL r
end
mutual
/-- no places; numbers below 2^400; signs below 128 -/
def D.pl : D → Bool
  | .int i => decide (i.natAbs < 2 ^ 400)
  | .str s => s.cps.toList.all fun c => decide (c < 128)
  | .tup l => D.plL l
  | .ref _ => false
  | _ => true
def D.plL : List D → Bool
  | [] => true
  | d :: r => D.pl d && D.plL r
end
mutual
def D.py : D → PyData
  | .non => .none
  | .bl b => .bool b
  | .int i => .int i
  | .str s => .str s
  | .tup l => .tuple (D.pyL l)
  | .ref _ => .none
def D.pyL : List D → List PyData
  | [] => []
  | d :: r => D.py d :: D.pyL r
end
theorem pl_low : ∀ d : D, d.pl = true → d.low 0 = true := by
  intro d
  induction d using D.rec (motive_2 := fun l => D.plL l = true → D.lowL 0 l = true) with
  | non => intro _; rfl
  | bl b => intro _; rfl
  | int i => intro _; rfl
  | str s => intro _; rfl
  | tup l ih => intro h; simp only [D.low]; exact ih (by simpa [D.pl] using h)
  | ref n => intro h; simp [D.pl] at h
  | nil => rfl
  | cons d l i1 i2 => rename_i h; simp only [D.plL, Bool.and_eq_true] at h; simp only [D.lowL, Bool.and_eq_true]; exact ⟨i1 h.1, i2 h.2⟩
theorem optAll_py {A : Hpp} {n : Nat} : ∀ l : List D, (∀ d ∈ l, D.snap A n d = some d.py) → optAll (l.map (D.snap A n)) = some (D.pyL l)
  | [], _ => rfl
  | d :: l, h => by
    rw [List.map_cons, h d List.mem_cons_self]
    simp only [optAll]
    rw [optAll_py l fun x hx => h x (List.mem_cons_of_mem _ hx)]
    rfl
theorem dpL_mem : ∀ {l : List D} {d : D}, d ∈ l → d.dp ≤ D.dpL l
  | x :: l, d, h => by
    simp only [D.dpL]
    rcases List.mem_cons.mp h with e | e
    · subst e; omega
    · have := dpL_mem e; omega
theorem plL_mem : ∀ {l : List D} {d : D}, D.plL l = true → d ∈ l → d.pl = true
  | x :: l, d, h, hm => by
    simp only [D.plL, Bool.and_eq_true] at h
    rcases List.mem_cons.mp hm with e | e
    · subst e; exact h.1
    · exact plL_mem h.2 e
theorem snap_py {A : Hpp} : ∀ (n : Nat) (d : D), d.pl = true → d.dp ≤ n → D.snap A n d = some d.py := by
  intro n
  induction n with
  | zero =>
    intro d hp hd
    cases d with
    | tup l => simp [D.dp] at hd
    | ref k => simp [D.pl] at hp
    | _ => rfl
  | succ n ih =>
    intro d hp hd
    cases d with
    | tup l =>
      simp only [D.snap, D.py]
      rw [optAll_py l fun x hx => ih x (plL_mem (by simpa [D.pl] using hp) hx) (by have := dpL_mem hx; simp only [D.dp] at hd; omega)]
      rfl
    | ref k => simp [D.pl] at hp
    | _ => rfl
theorem py_depth : ∀ d : D, d.py.depth = d.dp := by
  intro d
  induction d using D.rec (motive_2 := fun l => PyData.depthAll (D.pyL l) = D.dpL l) with
  | tup l ih => simp only [D.py, PyData.depth, D.dp, ih]
  | cons d l i1 i2 => simp only [D.pyL, PyData.depthAll, D.dpL, i1, i2]
  | _ => rfl
theorem py_weight : ∀ d : D, d.py.weight ≤ d.wt := by
  intro d
  induction d using D.rec (motive_2 := fun l => PyData.weightAll (D.pyL l) ≤ D.wtL l) with
  | int i => simp only [D.py, PyData.weight, D.wt]; split <;> omega
  | str s => exact Nat.le_refl _
  | tup l ih => simpa only [D.py, PyData.weight, D.wt] using ih
  | cons d l i1 i2 => simp only [D.pyL, PyData.weightAll, D.wtL]; omega
  | nil => exact Nat.le_refl _
  | _ => exact Nat.zero_le _
theorem pow_big : (2 : Nat) ^ 400 < 10 ^ 121 := by decide +kernel
theorem py_show : ∀ d : D, d.pl = true → d.py.showable = true ∧ d.py.leavesShort 130 = true := by
  intro d
  induction d using D.rec (motive_2 := fun l => D.plL l = true → PyData.showableAll (D.pyL l) = true ∧ PyData.leavesShortAll 130 (D.pyL l) = true) with
  | int i =>
    intro h
    simp only [D.pl, decide_eq_true_eq] at h
    refine ⟨?_, ?_⟩
    · simp only [D.py, PyData.showable, decide_eq_true_eq]
      by_cases hz : i.natAbs = 0
      · rw [hz]; decide
      · have := (Nat.log2_lt hz).mpr h
        omega
    · simp only [D.py, PyData.leavesShort, decide_eq_true_eq]
      have e := int_text_length_le10 (k := 121) (by decide) (Nat.lt_trans h pow_big)
      show (Str.ofString (toString i)).length ≤ 130
      rw [ofString_length]
      omega
  | str s =>
    intro h
    refine ⟨rfl, ?_⟩
    simp only [D.pl] at h
    simp only [D.py, PyData.leavesShort]
    rw [List.all_eq_true] at h ⊢
    intro c hc
    have := of_decide_eq_true (h c hc)
    exact decide_eq_true (by omega)
  | tup l ih => intro h; simpa only [D.py, PyData.showable, PyData.leavesShort] using ih (by simpa [D.pl] using h)
  | ref n => intro h; simp [D.pl] at h
  | non => intro _; exact ⟨rfl, rfl⟩
  | bl b => intro _; exact ⟨rfl, rfl⟩
  | nil => exact ⟨rfl, rfl⟩
  | cons d l i1 i2 =>
    rename_i h
    simp only [D.plL, Bool.and_eq_true] at h
    simp only [D.pyL, PyData.showableAll, PyData.leavesShortAll, Bool.and_eq_true]
    exact ⟨⟨(i1 h.1).1, (i2 h.2).1⟩, (i1 h.1).2, (i2 h.2).2⟩
/-- good for repr: plain, not deep, not heavy -/
structure Nice (d : D) : Prop where
  pl : d.pl = true
  dp : d.dp ≤ 60
  wt : d.wt ≤ 120000
theorem repr_nice {d : D} (h : Nice d) (A : Hpp) : bRepr [d] A = .ok (.str d.py.shown) A := by
  have e := snap_py (A := A) deepest d h.pl (Nat.le_trans h.dp (by decide))
  obtain ⟨a, b⟩ := py_show d h.pl
  have w := py_weight d
  have l := PyData.shown_le 130 (by decide) d.py b
  have hw := h.wt
  have hd := py_depth d
  have hp := h.dp
  unfold bRepr
  simp only [e]
  refine if_pos ⟨a, ?_, ?_⟩
  · have : (130 + 2) * d.py.weight + 130 ≤ 132 * 120000 + 130 := by
      have := Nat.mul_le_mul_left 132 (Nat.le_trans w hw)
      omega
    have s := sizeLine_eq
    omega
  · rw [hd]; exact Nat.le_trans hp (by decide)
end Rf
namespace Rf
open PySem PySem.Spec L2
theorem ok_run {k p : Nat} {b : S} {args : List D} {A : Hpp} {Q : D → Hpp → Prop} (hl : args.length = p)
    (h : Ok (b (args.map some ++ List.replicate (k - args.length) none) A) fun o A' => match o with
      | .nx _ => Ok (gcR A .non A') Q
      | .rt d => Ok (gcR A d A') Q
      | _ => False) : Ok (run k p b args A) Q := by
  obtain ⟨o, A', e, q⟩ := h
  unfold run
  rw [if_pos hl]
  unfold enter
  rw [e]
  cases o with
  | nx L => exact q
  | rt d => exact q
  | bk L => exact q.elim
  | ct L => exact q.elim
theorem ok_eq {α : Type} {r : R α} {a : α} {A : Hpp} (h : Ok r fun b B => b = a ∧ B = A) : r = .ok a A := by
  obtain ⟨b, B, e, rfl, rfl⟩ := h
  exact e
theorem cmul_l {i j : Int} (h1 : -(2 ^ 64) < i) (h2 : i < 2 ^ 64) : CMul i j := .inl ⟨h1, h2⟩
theorem cmul_r {i j : Int} (h1 : -(2 ^ 64) < j) (h2 : j < 2 ^ 64) : CMul i j := .inr ⟨h1, h2⟩
theorem opMul_int {i j : Int} {A : Hpp} (h : CMul i j) : opMul (.int i) (.int j) A = .ok (.int (i * j)) A := by
  show (if CMul i j ∨ CMulW i j then _ else _) = _
  rw [if_pos (.inl h)]
theorem opMulW_int {i j : Int} {A : Hpp} (h : CMulW i j) : opMul (.int i) (.int j) A = .ok (.int (i * j)) A := by
  show (if CMul i j ∨ CMulW i j then _ else _) = _
  rw [if_pos (.inr h)]
theorem opMod_int {i j : Int} {A : Hpp} (h : 0 < j) : opMod (.int i) (.int j) A = .ok (.int (i % j)) A := if_pos h
theorem opAdd_int {i j : Int} {A : Hpp} : opAdd (.int i) (.int j) A = .ok (.int (i + j)) A := rfl
theorem opSub_int {i j : Int} {A : Hpp} : opSub (.int i) (.int j) A = .ok (.int (i - j)) A := rfl
theorem opFdiv_int {i j : Int} {A : Hpp} (h : CDivW i j) : opFdiv (.int i) (.int j) A = .ok (.int (i / j)) A := if_pos h
theorem opPow_int {i j : Int} {A : Hpp} (h : CPow i j) : opPow (.int i) (.int j) A = .ok (.int (i ^ j.toNat)) A := if_pos h
theorem cmpLt_int {i j : Int} {A : Hpp} : cmpLt (.int i) (.int j) A = .ok (.bl (decide (i < j))) A := rfl
theorem cmpLe_int {i j : Int} {A : Hpp} : cmpLe (.int i) (.int j) A = .ok (.bl (decide (i ≤ j))) A := rfl
theorem cmpGt_int {i j : Int} {A : Hpp} : cmpGt (.int i) (.int j) A = .ok (.bl (decide (j < i))) A := rfl
theorem cmpGe_int {i j : Int} {A : Hpp} : cmpGe (.int i) (.int j) A = .ok (.bl (decide (j ≤ i))) A := rfl
theorem cmpIs_non {d : D} {A : Hpp} : cmpIs d .non A = .ok (.bl (decide (d = .non))) A := rfl
theorem cmpIsNot_non {d : D} {A : Hpp} : cmpIsNot d .non A = .ok (.bl (!decide (d = .non))) A := rfl
theorem truth_bl {b : Bool} {A : Hpp} : truth (.bl b) A = some b := rfl
theorem ofO_some {α : Type} {a : α} {A : Hpp} : R.ofO (some a) A = .ok a A := rfl
theorem cmpNe_str {a b : Str} {A : Hpp} : cmpNe (.str a) (.str b) A = .ok (.bl (!decide (a = b))) A := rfl
theorem cmpEq_str {a b : Str} {A : Hpp} : cmpEq (.str a) (.str b) A = .ok (.bl (decide (a = b))) A := rfl
theorem cmpEq_int {a b : Int} {A : Hpp} : cmpEq (.int a) (.int b) A = .ok (.bl (decide (a = b))) A := rfl
theorem cmpNe_int {a b : Int} {A : Hpp} : cmpNe (.int a) (.int b) A = .ok (.bl (!decide (a = b))) A := rfl
end Rf
namespace Rf
open PySem PySem.Spec L2
abbrev CF := List D → Hpp → R D
section
variable {L : Loc} {A : Hpp} {a b c e : M} {r k : ML} {s s2 : S} {t : T}
theorem x_ret : sRet a L A = (a L A).bind fun d A1 => .ok (.rt d) A1 := rfl
theorem x_retN : sRetN L A = .ok (.rt .non) A := rfl
theorem x_asg : sAsg a t L A = (a L A).bind fun d A1 => (t d L A1).bind fun L1 A2 => .ok (.nx L1) A2 := rfl
theorem x_if : sIf a s s2 L A = (mTest a L A).bind fun k A1 => if k = true then s L A1 else s2 L A1 := rfl
theorem x_drop : sDrop a L A = (a L A).bind fun _ A1 => .ok (.nx L) A1 := rfl
theorem x_nilS : sNil L A = .ok (.nx L) A := rfl
theorem x_for {f : MS} : sFor f t s L A = (f L A).bind fun src A1 => forLoop src t s src.items L A1 := rfl
theorem x_var {i : Nat} : mVar i L A = match L[i]? with | some (some d) => .ok d A | _ => .bad := rfl
theorem x_c {d : D} : mC d L A = .ok d A := rfl
theorem x_un {op : D → Hpp → R D} : mUn op a L A = (a L A).bind op := rfl
theorem x_bin {op : D → D → Hpp → R D} : mBin op a b L A = (a L A).bind fun x A1 => (b L A1).bind fun y A2 => op x y A2 := rfl
theorem x_test : mTest a L A = (a L A).bind fun x A1 => R.ofO (truth x A1) A1 := rfl
theorem x_and : mAnd a b L A = (a L A).bind fun x A1 => (R.ofO (truth x A1) A1).bind fun k A2 => if k = true then b L A2 else .ok x A2 := rfl
theorem x_or : mOr a b L A = (a L A).bind fun x A1 => (R.ofO (truth x A1) A1).bind fun k A2 => if k = true then .ok x A2 else b L A2 := rfl
theorem x_not : mNot a L A = (mTest a L A).bind fun k A1 => .ok (.bl (!k)) A1 := rfl
theorem x_ifE : mIf c a b L A = (mTest c L A).bind fun k A1 => if k = true then a L A1 else b L A1 := rfl
theorem x_nil : mNil L A = .ok [] A := rfl
theorem x_cons : mCons a r L A = (a L A).bind fun x A1 => (r L A1).bind fun xs A2 => .ok (x :: xs) A2 := rfl
theorem x_tup : mTup r L A = (r L A).bind fun xs A1 => if xs.length ≤ sizeLine then .ok (.tup xs) A1 else .bad := rfl
theorem x_lst : mLst r L A = (r L A).bind fun xs A1 => if xs.length ≤ sizeLine then .ok (.ref A1.length) (A1 ++ [.lst xs]) else .bad := rfl
theorem x_b {op : List D → Hpp → R D} : mB op r L A = (r L A).bind op := rfl
theorem x_meth {pre : D → Hpp → Bool} {op : D → List D → Hpp → R D} : mMeth pre op a r L A = (a L A).bind fun x A1 => if pre x A1 = true then (r L A1).bind fun xs A2 => op x xs A2 else .bad := rfl
theorem x_oNone : oNone L A = .ok none A := rfl
theorem x_oSome : oSome a L A = (a L A).bind fun x A1 => match x with | .int i => .ok (some i) A1 | _ => .bad := rfl
theorem x_slice {lo hi : MO} : mSlice a lo hi L A = (a L A).bind fun x A1 => (lo L A1).bind fun l A2 => (hi L A2).bind fun h A3 => opSl x l h A3 := rfl
theorem x_call {f : CF} {n m : Nat} {gs : List G} : mCallV f n m gs r k L A = (r L A).bind fun us A1 => (k L A1).bind fun ws A2 => if us.length = n ∧ ws.length = m then match gather gs us ws with | some vs => f vs A2 | none => .bad else .bad := rfl
theorem x_gVar {i : Nat} {d : D} : gVar i d L A = .ok (L.set i (some d)) A := rfl
theorem x_gSub {d : D} : gSub' a b d L A = (a L A).bind fun ov A1 => (b L A1).bind fun iv A2 => (setIx ov iv d A2).bind fun _ A3 => .ok L A3 := rfl
theorem x_range1 : srcRange1 a L A = (a L A).bind fun x A1 => match x with | .int j => if okEnd j then .ok (.its (rangeD 0 j.toNat)) A1 else .bad | _ => .bad := rfl
theorem x_lc {f : MS} {cc : MB} {own : List Nat} : mLc f t cc e own L A = (f L A).bind fun src A1 => (lcLoop src A1.length t cc e (wipeL L own) src.items (A1 ++ [.lst []])).bind fun _ A2 => .ok (.ref A1.length) A2 := rfl
theorem x_yes : mYes L A = .ok true A := rfl
theorem x_rg1 {q : Bool} : mRg1 q a L A = (a L A).bind fun x A1 => match x with | .int j => rgD q 0 j A1 | _ => .bad := rfl
theorem x_dict {ps : List (M × M)} : mDict ps L A = (mPairs ps L (A ++ [.dct []])).bind fun kvs A1 => match keysD kvs with
  | some l => if l.length ≤ 15 ∧ A1[A.length]? = some (.dct []) then .ok (.ref A.length) (A1.set A.length (.dct (mergeD l))) else .bad
  | none => .bad := rfl
theorem x_seqT {d : D} {l : List D} : srcSeq (mVar 0) L A = srcSeq (mVar 0) L A := rfl
/-- one statement behind another -/
theorem x_seq {Q : O → Hpp → Prop} : Ok (sSeq s s2 L A) Q ↔ Ok (s L A) fun o A1 => match o with
    | .nx L1 => Ok (s2 L1 A1) Q
    | o => Q o A1 := by
  unfold sSeq
  rw [ok_bind]
  constructor
  · intro h
    refine h.mono fun o A1 q => ?_
    cases o with
    | nx L1 => exact q
    | rt d => exact ok_ok.mp q
    | bk L1 => exact ok_ok.mp q
    | ct L1 => exact ok_ok.mp q
  · intro h
    refine Ok.mono h fun o A1 q => ?_
    cases o with
    | nx L1 => exact q
    | rt d => exact ok_ok.mpr q
    | bk L1 => exact ok_ok.mpr q
    | ct L1 => exact ok_ok.mpr q
theorem src_tup {i : Nat} {l : List D} (h : L[i]? = some (some (.tup l))) : srcSeq (mVar i) L A = .ok (.its l) A := by simp [srcSeq, mVar, h]
theorem src_str {i : Nat} {z : Str} (h : L[i]? = some (some (.str z))) : srcSeq (mVar i) L A = .ok (.its (z.cps.toList.map fun c => .str ⟨#[c]⟩)) A := by simp [srcSeq, mVar, h]
theorem src_lst {i n : Nat} {l : List D} (h : L[i]? = some (some (.ref n))) (hn : A[n]? = some (.lst l)) : srcSeq (mVar i) L A = .ok (.lst n l) A := by simp [srcSeq, mVar, h, hn]
end
theorem isi_str {T : Ty} {s : Str} {A : Hpp} : opIsi T (.str s) A = .ok (.bl (decide (T = .str))) A := rfl
theorem isi_non {T : Ty} {A : Hpp} : opIsi T .non A = .ok (.bl false) A := rfl
theorem isi_int {T : Ty} {i : Int} {A : Hpp} : opIsi T (.int i) A = .ok (.bl (decide (T = .int))) A := rfl
theorem isi_bl {T : Ty} {i : Bool} {A : Hpp} : opIsi T (.bl i) A = .ok (.bl (decide (T = .int ∨ T = .bool))) A := rfl
theorem isi_tup {T : Ty} {l : List D} {A : Hpp} : opIsi T (.tup l) A = .ok (.bl (decide (T = .tuple))) A := rfl
theorem len_str {s : Str} {A : Hpp} (h : s.length ≤ sizeLine) : bLen [.str s] A = .ok (.int s.length) A := if_pos h
theorem len_tup {l : List D} {A : Hpp} : bLen [.tup l] A = .ok (.int l.length) A := rfl
theorem len_lst {n : Nat} {l : List D} {A : Hpp} (h : A[n]? = some (.lst l)) : bLen [.ref n] A = .ok (.int l.length) A := by simp [bLen, h]
theorem ord_one {c : Nat} {A : Hpp} : bOrd [.str ⟨#[c]⟩] A = .ok (.int (c : Int)) A := rfl
end Rf
namespace Rf
open PySem PySem.Spec L2
/-! ### more unfolding -/
section
variable {L : Loc} {A : Hpp} {a b c e : M} {r k : ML} {s s2 : S} {t : T}
theorem x_bk {op : List D → List D → Hpp → R D} : mBK op r k L A = (r L A).bind fun xs A1 => (k L A1).bind fun ys A2 => op xs ys A2 := rfl
theorem x_aug {op : D → D → Hpp → R D} {i : Nat} : sAug op i a L A = (mVar i L A).bind fun x A1 => (a L A1).bind fun y A2 => (op x y A2).bind fun z A3 => .ok (.nx (L.set i (some z))) A3 := rfl
theorem x_par {i j : Nat} : sPar i j r L A = (r L A).bind fun vs A1 => match vs with
  | [v, w] => .ok (.nx ((L.set i (some v)).set j (some w))) A1
  | _ => .bad := rfl
theorem x_while : sWhile a s L A = whileLoop a s turnsMost L A := rfl
theorem x_tlNil {d : List D} : gNil' d L A = match d with | [] => .ok L A | _ => .bad := rfl
theorem x_tlCons {u : TL} {d : D} {ds : List D} : gCons' t u (d :: ds) L A = (t d L A).bind fun L1 A1 => u ds L1 A1 := rfl
theorem tl_nil : tlOf [] = gNil' := rfl
theorem tl_cons {i : Nat} {l : List Nat} : tlOf (i :: l) = gCons' (gVar i) (tlOf l) := rfl
theorem x_gTup {u : TL} {ds : List D} : gTup' u (.tup ds) L A = u ds L A := rfl
theorem x_gTupT {u : TL} {ds : List D} : gTupT' u (.tup ds) L A = u ds L A := rfl
theorem x_gTupL {u : TL} {n : Nat} {ds : List D} (h : A[n]? = some (.lst ds)) : gTup' u (.ref n) L A = u ds L A := by simp [gTup', seqOf, h]
/-- a, *b = a tuple -/
theorem x_gStar1 {u : TL} {x : D} {ds : List D} : gStar' 1 0 u (.tup (x :: ds)) L A = u [x, .ref A.length] L (A ++ [.lst ds]) := by
  simp [gStar', seqOf]
theorem ixt0 {x : D} {r : List D} {A : Hpp} : opIx (.tup (x :: r)) (.int 0) A = .ok x A := by
  simp only [opIx, atI, ixN, List.length_cons]
  rw [if_pos (by decide), if_pos (by omega)]; rfl
theorem ixt1 {x y : D} {r : List D} {A : Hpp} : opIx (.tup (x :: y :: r)) (.int 1) A = .ok y A := by
  simp only [opIx, atI, ixN, List.length_cons]
  rw [if_pos (by decide), if_pos (by omega)]; rfl
theorem ixt2 {x y z : D} {r : List D} {A : Hpp} : opIx (.tup (x :: y :: z :: r)) (.int 2) A = .ok z A := by
  simp only [opIx, atI, ixN, List.length_cons]
  rw [if_pos (by decide), if_pos (by omega)]; rfl
theorem ixl0 {x : D} {r : List D} {A : Hpp} {n : Nat} (h : A[n]? = some (.lst (x :: r))) : opIx (.ref n) (.int 0) A = .ok x A := by
  simp only [opIx, h, atI, ixN, List.length_cons]
  rw [if_pos (by decide), if_pos (by omega)]; rfl
theorem at_end {A : Hpp} {o : HOb} : (A ++ [o])[A.length]? = some o := by simp
theorem at_end2 {A : Hpp} {o u : HOb} : (A ++ [o] ++ [u])[A.length]? = some o := by
  rw [List.append_assoc, List.getElem?_append_right (Nat.le_refl _), Nat.sub_self]; rfl
end
theorem x_srctup {r : ML} {L : Loc} {A : Hpp} : srcSeq (mTup r) L A = (r L A).bind fun xs A1 => if xs.length ≤ sizeLine then .ok (.its xs) A1 else .bad := by
  simp only [srcSeq, mTup]
  cases r L A with
  | ok xs A1 =>
    simp only [R.bind_ok]
    by_cases h : xs.length ≤ sizeLine
    · rw [if_pos h, if_pos h]; rfl
    · rw [if_neg h, if_neg h]; rfl
  | ex c fs A1 => rfl
  | bad => rfl
theorem rg_tup {j : Int} {A : Hpp} (h : RgOk 0 j) : rgD true 0 j A = .ok (.tup (rangeD 0 (j - 0).toNat)) A := by
  unfold rgD
  rw [if_pos h, if_pos rfl]
theorem mul_tup {l : List D} {k : Int} {A : Hpp} (h : l ≠ [] ∧ 2 ≤ k ∧ k ≤ 1000 ∧ l.length ≤ 1000) : opMul (.tup l) (.int k) A = .ok (.tup (List.replicate k.toNat l).flatten) A := if_pos h
theorem mul_str {a : Str} {k : Int} {A : Hpp} (h : 2 ≤ k ∧ k ≤ 10000 ∧ a.length ≤ 100 ∧ 0 < a.length) : opMul (.str a) (.int k) A = .ok (.str (strRep a k.toNat)) A := if_pos h
theorem add_str {a b : Str} {A : Hpp} (h : a.length + b.length ≤ sizeLine) : opAdd (.str a) (.str b) A = .ok (.str (a ++ b)) A := if_pos h
theorem add_tup {a b : List D} {A : Hpp} (h : a.length + b.length ≤ sizeLine) : opAdd (.tup a) (.tup b) A = .ok (.tup (a ++ b)) A := if_pos h
theorem add_lst {a b : List D} {m n : Nat} {A : Hpp} (h1 : A[m]? = some (.lst a)) (h2 : A[n]? = some (.lst b)) (h : a.length + b.length ≤ sizeLine) : opAdd (.ref m) (.ref n) A = .ok (.ref A.length) (A ++ [.lst (a ++ b)]) := by
  simp only [opAdd, h1, h2]; rw [if_pos h]
theorem lowL_app {n : Nat} : ∀ {a b : List D}, D.lowL n a = true → D.lowL n b = true → D.lowL n (a ++ b) = true
  | [], b, _, h => h
  | d :: a, b, h, h' => by
    simp only [D.lowL, Bool.and_eq_true, List.cons_append] at *
    exact ⟨h.1, lowL_app h.2 h'⟩
/-! ### comprehensions that leave the heap alone -/
theorem lc_map {src : Src} {v : Nat} {e : M} {L : Loc} {A : Hpp} {f : D → D} (hs : ∀ acc, src.still (A ++ [.lst acc]) = true) : ∀ (ds acc : List D),
    (∀ d ∈ ds, ∀ acc, e (L.set v (some d)) (A ++ [.lst acc]) = .ok (f d) (A ++ [.lst acc])) → acc.length + ds.length < sizeLine → lcLoop src A.length (gVar v) mYes e L ds (A ++ [.lst acc]) = .ok () (A ++ [.lst (acc ++ ds.map f)])
  | [], acc, _, _ => by
    unfold lcLoop
    rw [if_pos (hs _)]
    simp
  | d :: ds, acc, he, hl => by
    unfold lcLoop
    rw [if_pos (hs _), x_gVar, R.bind_ok, x_yes, R.bind_ok, if_pos rfl, he d (List.mem_cons_self ..) acc, R.bind_ok]
    simp only [at_end]
    rw [List.length_cons] at hl
    rw [if_pos (by omega)]
    have es : (A ++ [HOb.lst acc]).set A.length (.lst (acc ++ [f d])) = A ++ [.lst (acc ++ [f d])] := by simp
    rw [es, lc_map hs ds (acc ++ [f d]) (fun x hx => he x (List.mem_cons_of_mem _ hx)) (by simp; omega)]
    simp
theorem lc_mapX {X : Type} {src : Src} {t : T} {e : M} {L : Loc} {A : Hpp} {g f : X → D} {Lf : X → Loc} (hs : ∀ acc, src.still (A ++ [.lst acc]) = true) : ∀ (xs : List X) (acc : List D),
    (∀ x ∈ xs, ∀ acc, t (g x) L (A ++ [.lst acc]) = .ok (Lf x) (A ++ [.lst acc]) ∧ e (Lf x) (A ++ [.lst acc]) = .ok (f x) (A ++ [.lst acc])) → acc.length + xs.length < sizeLine → lcLoop src A.length t mYes e L (xs.map g) (A ++ [.lst acc]) = .ok () (A ++ [.lst (acc ++ xs.map f)])
  | [], acc, _, _ => by
    rw [List.map_nil]
    unfold lcLoop
    rw [if_pos (hs _)]
    simp
  | x :: xs, acc, he, hl => by
    obtain ⟨h1, h2⟩ := he x (List.mem_cons_self ..) acc
    rw [List.map_cons]
    unfold lcLoop
    rw [if_pos (hs _), h1, R.bind_ok, x_yes, R.bind_ok, if_pos rfl, h2, R.bind_ok]
    simp only [at_end]
    rw [List.length_cons] at hl
    rw [if_pos (by omega)]
    have es : (A ++ [HOb.lst acc]).set A.length (.lst (acc ++ [f x])) = A ++ [.lst (acc ++ [f x])] := by simp
    rw [es, lc_mapX hs xs (acc ++ [f x]) (fun y hy => he y (List.mem_cons_of_mem _ hy)) (by simp; omega)]
    simp
theorem lc_two {src : Src} {v : Nat} {e : M} {L : Loc} {A : Hpp} {x y u w : D} (hs : ∀ acc, src.still (A ++ [.lst acc]) = true)
    (h1 : ∀ acc, e (L.set v (some x)) (A ++ [.lst acc]) = .ok u (A ++ [.lst acc])) (h2 : ∀ acc, e (L.set v (some y)) (A ++ [.lst acc]) = .ok w (A ++ [.lst acc])) :
    lcLoop src A.length (gVar v) mYes e L [x, y] (A ++ [.lst []]) = .ok () (A ++ [.lst [u, w]]) := by
  have es : ∀ a b : List D, (A ++ [HOb.lst a]).set A.length (.lst b) = A ++ [.lst b] := fun a b => by simp
  simp only [lcLoop, hs, if_true, x_gVar, x_yes, R.bind_ok, h1, h2, at_end, es, List.nil_append, List.length_nil, List.length_cons, sizeLine_eq, Nat.reduceAdd, Nat.reduceLT, List.cons_append]
theorem lc_filt {src : Src} {v : Nat} {c : MB} {e : M} {L : Loc} {A : Hpp} {p : D → Bool} {f : D → D} (hs : ∀ acc, src.still (A ++ [.lst acc]) = true) : ∀ (ds acc : List D),
    (∀ d ∈ ds, ∀ acc, c (L.set v (some d)) (A ++ [.lst acc]) = .ok (p d) (A ++ [.lst acc]) ∧ (p d = true → e (L.set v (some d)) (A ++ [.lst acc]) = .ok (f d) (A ++ [.lst acc]))) → acc.length + ds.length < sizeLine →
    lcLoop src A.length (gVar v) c e L ds (A ++ [.lst acc]) = .ok () (A ++ [.lst (acc ++ (ds.filter p).map f)])
  | [], acc, _, _ => by
    unfold lcLoop
    rw [if_pos (hs _)]
    simp
  | d :: ds, acc, he, hl => by
    obtain ⟨h1, h2⟩ := he d (List.mem_cons_self ..) acc
    rw [List.length_cons] at hl
    unfold lcLoop
    rw [if_pos (hs _), x_gVar, R.bind_ok, h1, R.bind_ok]
    by_cases hp : p d = true
    · rw [if_pos hp, h2 hp, R.bind_ok]
      simp only [at_end]
      rw [if_pos (by omega)]
      have es : (A ++ [HOb.lst acc]).set A.length (.lst (acc ++ [f d])) = A ++ [.lst (acc ++ [f d])] := by simp
      rw [es, lc_filt hs ds (acc ++ [f d]) (fun x hx => he x (List.mem_cons_of_mem _ hx)) (by simp; omega), List.filter_cons_of_pos hp]
      simp
    · rw [if_neg hp, lc_filt hs ds acc (fun x hx => he x (List.mem_cons_of_mem _ hx)) (by omega), List.filter_cons_of_neg hp]
/-! ### equality of plain things -/
mutual
theorem lay_py : ∀ d : D, d.pl = true → d.py.canLay0 = true
  | .non, _ => rfl
  | .bl _, _ => rfl
  | .int _, _ => rfl
  | .str s, h => by
    simp only [D.pl, List.all_eq_true, decide_eq_true_eq] at h
    show s.cps.all (fun c => decide (c < 0x110000)) = true
    rw [← Array.all_toList, List.all_eq_true]
    intro c hc
    exact decide_eq_true (Nat.lt_trans (h c hc) (by decide))
  | .tup l, h => by simp only [D.pl] at h; exact layL_py l h
  | .ref _, h => by simp [D.pl] at h
theorem layL_py : ∀ l : List D, D.plL l = true → PyData.canLayAll0 (D.pyL l) = true
  | [], _ => rfl
  | d :: l, h => by
    simp only [D.plL, Bool.and_eq_true] at h
    simp only [D.pyL, PyData.canLayAll0, lay_py d h.1, layL_py l h.2]; rfl
end
theorem shaped_py {d : D} (h : d.pl = true) (hd : d.dp ≤ 60) : SeqAt.shaped d.py = true := by
  unfold SeqAt.shaped
  rw [lay_py d h, py_depth]
  simp; omega
/-- == of plain things that are no two texts, numbers .. -/
theorem eqD_py {x y : D} {A : Hpp} (hx : x.pl = true) (hy : y.pl = true) (dx : x.dp ≤ 60) (dy : y.dp ≤ 60) : eqD x y A = some (PyData.eqv x.py y.py) := by
  have sx := snap_py (A := A) deepest x hx (Nat.le_trans dx (by decide))
  have sy := snap_py (A := A) deepest y hy (Nat.le_trans dy (by decide))
  have h1 := shaped_py hx dx
  have h2 := shaped_py hy dy
  have gen : (match x.snap A deepest, y.snap A deepest with
    | some d, some e => if SeqAt.shaped d && SeqAt.shaped e then some (PyData.eqv d e) else none
    | _, _ => none) = some (PyData.eqv x.py y.py) := by
    rw [sx, sy]
    simp [h1, h2]
  unfold eqD
  split
  · simp [D.py, PyData.eqv, BEq.beq]
  · simp [D.py, PyData.eqv, BEq.beq]
  · simp [D.py, PyData.eqv]
  · simp [D.py, PyData.eqv]
  · simp [D.py, PyData.eqv]
  · simp [D.py, PyData.eqv]
  · exact gen
theorem eq_self {x : D} {A : Hpp} (hx : x.pl = true) (dx : x.dp ≤ 60) : cmpEq x x A = .ok (.bl true) A := by
  unfold cmpEq
  rw [eqD_py hx hx dx dx, SeqAt.eqv_refl x.py (lay_py x hx)]
  rfl
theorem ne_self {x : D} {A : Hpp} (hx : x.pl = true) (dx : x.dp ≤ 60) : cmpNe x x A = .ok (.bl false) A := by
  unfold cmpNe
  rw [eqD_py hx hx dx dx, SeqAt.eqv_refl x.py (lay_py x hx)]
  rfl
end Rf
namespace Rf
open PySem PySem.Spec L2
local macro_rules | `(tactic| walk_at "ex") => `(tactic| try simp only [x_ret, x_retN, x_asg, x_if, x_drop, x_nilS, x_for, x_var, x_c, x_un, x_bin, x_test, x_and, x_or, x_not, x_ifE, x_nil, x_cons, x_tup, x_lst, x_b, x_meth, x_oNone, x_oSome, x_slice, x_call, x_gVar, x_gSub, x_range1, x_lc, x_yes, x_rg1, wipeL,
  R.bind_ok, ok_bind, ok_ok, gather, optAll, List.map_cons, List.map_nil, List.getElem?_cons_zero, List.getElem?_cons_succ, List.set_cons_zero, List.set_cons_succ, Option.map_some, List.length_cons, List.length_nil,
  List.nil_append, List.cons_append, List.replicate, Nat.reduceAdd, Nat.reduceSub, and_self, if_true, if_false, true_and, and_true, Nat.reduceEqDiff, truth_bl, ofO_some, reduceCtorEq, decide_true, decide_false, Bool.false_eq_true, Bool.not_true, Bool.not_false, or_self, or_true, true_or, or_false, false_or,
  opAdd_int, opSub_int, cmpLt_int, cmpLe_int, cmpGt_int, cmpGe_int, cmpIs_non, cmpIsNot_non, isi_str, isi_non, isi_int, isi_tup, isi_bl, len_tup, ord_one])
local macro_rules | `(tactic| walk_at "st") => `(tactic| (refine x_seq.mpr ?_; walk_at "ex"))
def G_mix_of : S :=
    (sSeq (sRet (mBin opMod (mBin opAdd (mBin opAdd (mBin opAdd (mBin opMul (mBin opMul (mC (.int 3)) (mVar 0)) (mVar 0)) (mBin opMul (mC (.int 5)) (mVar 1))) (mBin opMul (mVar 0) (mVar 1))) (mC (.int 11))) (mVar 2)))
    sNil)
def mix (x y b : Int) : Int := (3 * x * x + 5 * y + x * y + 11) % b
def MixS (c : CF) : Prop := ∀ x y b A, 0 < b → -(2 ^ 64) < x → x < 2 ^ 64 → c [.int x, .int y, .int b] A = .ok (.int (mix x y b)) A
theorem mix_ok : MixS (run 3 3 G_mix_of) := by
  intro x y b A hb h1 h2
  apply ok_eq
  refine ok_run rfl ?_
  unfold G_mix_of
  walk_at "st"
  rw [opMul_int (cmul_l (by decide) (by decide))]
  walk_at "ex"
  rw [opMul_int (cmul_r h1 h2)]
  walk_at "ex"
  rw [opMul_int (cmul_l (by decide) (by decide))]
  walk_at "ex"
  rw [opMul_int (cmul_l h1 h2)]
  walk_at "ex"
  rw [opMod_int hb]
  walk_at "ex"
  rw [gc_self, ok_ok]
  exact ⟨rfl, rfl⟩
mutual
def mark (b : Int) : D → Int
  | .non => mix 1 1 b
  | .int n => mix 2 n b
  | .str s => s.cps.toList.foldl (fun f (c : Nat) => mix f (c : Int) b) ((17 + (s.length : Int)) % b)
  | .tup l => markL b ((13 + (l.length : Int)) % b) l
  | _ => 0
def markL (b : Int) : Int → List D → Int
  | f, [] => f
  | f, d :: r => markL b (mix f (mark b d) b) r
end
mutual
/-- a number, a text, none, a tuple of such -/
def D.th : D → Bool
  | .non => true
  | .int _ => true
  | .str s => decide (s.length ≤ sizeLine)
  | .tup l => decide (l.length ≤ sizeLine) && D.thL l
  | _ => false
def D.thL : List D → Bool
  | [] => true
  | d :: r => D.th d && D.thL r
end
theorem mix_range {x y b : Int} (hb : 0 < b) : 0 ≤ mix x y b ∧ mix x y b < b := ⟨Int.emod_nonneg _ (by omega), Int.emod_lt_of_pos _ hb⟩
def G_mark_of (c_mix_of c_mark_of : List D → Hpp → R D) : S :=
    (sSeq (sIf (mBin cmpIs (mVar 0) (mC .non)) (sSeq (sRet (mCallV c_mix_of 3 0 [.pos 0, .pos 1, .pos 2] (mCons (mC (.int 1)) (mCons (mC (.int 1)) (mCons (mVar 1) mNil))) mNil))
    sNil) sNil)
    (sSeq (sIf (mUn (opIsi .str) (mVar 0)) (sSeq (sAsg (mBin opMod (mBin opAdd (mC (.int 17)) (mB bLen (mCons (mVar 0) mNil))) (mVar 1)) (gVar 2))
    (sSeq (sFor (srcSeq (mVar 0)) (gVar 3) (sSeq (sAsg (mCallV c_mix_of 3 0 [.pos 0, .pos 1, .pos 2] (mCons (mVar 2) (mCons (mB bOrd (mCons (mVar 3) mNil)) (mCons (mVar 1) mNil))) mNil) (gVar 2))
    sNil))
    (sSeq (sRet (mVar 2))
    sNil))) sNil)
    (sSeq (sIf (mNot (mUn (opIsi .tuple) (mVar 0))) (sSeq (sRet (mCallV c_mix_of 3 0 [.pos 0, .pos 1, .pos 2] (mCons (mC (.int 2)) (mCons (mVar 0) (mCons (mVar 1) mNil))) mNil))
    sNil) sNil)
    (sSeq (sAsg (mBin opMod (mBin opAdd (mC (.int 13)) (mB bLen (mCons (mVar 0) mNil))) (mVar 1)) (gVar 2))
    (sSeq (sFor (srcSeq (mVar 0)) (gVar 4) (sSeq (sAsg (mCallV c_mix_of 3 0 [.pos 0, .pos 1, .pos 2] (mCons (mVar 2) (mCons (mCallV c_mark_of 1 1 [.pos 0, .kw 0] (mCons (mVar 4) mNil) (mCons (mVar 1) mNil)) (mCons (mVar 1) mNil))) mNil) (gVar 2))
    sNil))
    (sSeq (sRet (mVar 2))
    sNil))))))
def MarkS (k : Nat) (c : CF) : Prop := ∀ d b A, d.th = true → d.dp ≤ k → 0 < b → b ≤ 2 ^ 63 → c [d, .int b] A = .ok (.int (mark b d)) A
theorem mark_str {c_mix : CF} (hm : MixS c_mix) {b : Int} (hb : 0 < b) (hb2 : b ≤ 2 ^ 63) {d : D} {A : Hpp} {src : Src} (hs : src.still A = true) : ∀ (cs : List Nat) (f : Int) (x : Option D), 0 ≤ f → f < b →
    Ok (forLoop src (gVar 3) (sSeq (sAsg (mCallV c_mix 3 0 [.pos 0, .pos 1, .pos 2] (mCons (mVar 2) (mCons (mB bOrd (mCons (mVar 3) mNil)) (mCons (mVar 1) mNil))) mNil) (gVar 2)) sNil)
      (cs.map fun c => .str ⟨#[c]⟩) [some d, some (.int b), some (.int f), x, none] A) fun o A' => ∃ y, o = .nx [some d, some (.int b), some (.int (cs.foldl (fun f (c : Nat) => mix f (c : Int) b) f)), y, none] ∧ A' = A
  | [], f, x, _, _ => by
    rw [List.map_nil]
    unfold forLoop
    rw [if_pos hs, ok_ok]
    exact ⟨x, rfl, rfl⟩
  | c :: cs, f, x, h1, h2 => by
    rw [List.map_cons]
    unfold forLoop
    rw [if_pos hs]
    walk_at "ex"
    walk_at "st"
    rw [hm f c b A hb (by omega) (by omega)]
    walk_at "ex"
    obtain ⟨g1, g2⟩ := mix_range (x := f) (y := c) hb
    exact mark_str hm hb hb2 hs cs _ _ g1 g2
theorem mark_tup {c_mix c_mark : CF} (hm : MixS c_mix) {b : Int} (hb : 0 < b) (hb2 : b ≤ 2 ^ 63) {k : Nat} (hk : MarkS k c_mark) {d : D} {A : Hpp} {src : Src} (hs : src.still A = true) : ∀ (l : List D) (f : Int) (x : Option D), D.thL l = true → D.dpL l ≤ k → 0 ≤ f → f < b →
    Ok (forLoop src (gVar 4) (sSeq (sAsg (mCallV c_mix 3 0 [.pos 0, .pos 1, .pos 2] (mCons (mVar 2) (mCons (mCallV c_mark 1 1 [.pos 0, .kw 0] (mCons (mVar 4) mNil) (mCons (mVar 1) mNil)) (mCons (mVar 1) mNil))) mNil) (gVar 2)) sNil)
      l [some d, some (.int b), some (.int f), none, x] A) fun o A' => ∃ y, o = .nx [some d, some (.int b), some (.int (markL b f l)), none, y] ∧ A' = A
  | [], f, x, _, _, _, _ => by
    unfold forLoop
    rw [if_pos hs, ok_ok]
    exact ⟨x, rfl, rfl⟩
  | e :: l, f, x, ht, hd, h1, h2 => by
    simp only [D.thL, Bool.and_eq_true] at ht
    simp only [D.dpL] at hd
    unfold forLoop
    rw [if_pos hs]
    walk_at "ex"
    walk_at "st"
    rw [hk e b A ht.1 (by omega) hb hb2]
    walk_at "ex"
    rw [hm f _ b A hb (by omega) (by omega)]
    walk_at "ex"
    obtain ⟨g1, g2⟩ := mix_range (x := f) (y := mark b e) hb
    exact mark_tup hm hb hb2 hk hs l _ _ ht.2 (by omega) g1 g2
theorem mark_ok {c_mix c_mark : CF} (hm : MixS c_mix) {k : Nat} (hk : ∀ j, j < k → MarkS j c_mark) : MarkS k (run 5 2 (G_mark_of c_mix c_mark)) := by
  intro d b A ht hd hb hb2
  apply ok_eq
  refine ok_run rfl ?_
  unfold G_mark_of
  cases d with
  | non =>
    walk_at "st"
    walk_at "st"
    rw [hm 1 1 b A hb (by decide) (by decide)]
    walk_at "ex"
    rw [gc_self, ok_ok]
    exact ⟨rfl, rfl⟩
  | int n =>
    walk_at "st"
    walk_at "st"
    walk_at "st"
    walk_at "st"
    rw [hm 2 n b A hb (by decide) (by decide)]
    walk_at "ex"
    rw [gc_self, ok_ok]
    exact ⟨rfl, rfl⟩
  | str s =>
    simp only [D.th, decide_eq_true_eq] at ht
    walk_at "st"
    walk_at "st"
    walk_at "st"
    rw [len_str ht]
    walk_at "ex"
    rw [opMod_int hb]
    walk_at "ex"
    walk_at "st"
    rw [src_str rfl]
    walk_at "ex"
    refine Ok.mono (mark_str (src := .its _) hm hb hb2 rfl _ _ _ (Int.emod_nonneg _ (by omega)) (Int.emod_lt_of_pos _ hb)) ?_
    rintro o A' ⟨y, rfl, rfl⟩
    walk_at "st"
    rw [gc_self, ok_ok]
    exact ⟨rfl, rfl⟩
  | tup l =>
    simp only [D.th, Bool.and_eq_true] at ht
    replace ht := ht.2
    simp only [D.dp] at hd
    walk_at "st"
    walk_at "st"
    walk_at "st"
    walk_at "st"
    rw [opMod_int hb]
    walk_at "ex"
    walk_at "st"
    rw [src_tup rfl]
    walk_at "ex"
    refine Ok.mono (mark_tup (src := .its _) hm hb hb2 (hk (k - 1) (by omega)) rfl _ _ _ ht (by show D.dpL l ≤ k - 1; omega) (Int.emod_nonneg _ (by omega)) (Int.emod_lt_of_pos _ hb)) ?_
    rintro o A' ⟨y, rfl, rfl⟩
    walk_at "st"
    rw [gc_self, ok_ok]
    exact ⟨rfl, rfl⟩
  | bl x => simp [D.th] at ht
  | ref n => simp [D.th] at ht
/-! ### the law's own marks -/
theorem mix_mod {x y b : Int} : mix (x % b) y b = mix x y b := by
  have e : x = x % b + b * (x / b) := by have := Int.emod_add_mul_ediv x b; omega
  unfold mix
  have : 3 * x * x + 5 * y + x * y + 11 = 3 * (x % b) * (x % b) + 5 * y + (x % b) * y + 11 + b * (3 * (x / b) * (2 * (x % b) + b * (x / b)) + (x / b) * y) := by
    generalize x % b = r at e
    generalize x / b = q at e
    subst e
    grind
  rw [this, Int.add_mul_emod_self_left]
theorem fold_range {b : Int} (hb : 0 < b) : ∀ (cs : List Nat) (f : Int), 0 ≤ f → f < b → 0 ≤ cs.foldl (fun f (c : Nat) => mix f (c : Int) b) f ∧ cs.foldl (fun f (c : Nat) => mix f (c : Int) b) f < b
  | [], f, h1, h2 => ⟨h1, h2⟩
  | c :: cs, f, _, _ => fold_range hb cs _ (mix_range hb).1 (mix_range hb).2
theorem fold_mod {b : Int} (hb : 0 < b) (cs : List Nat) (f : Int) : (cs.foldl (fun f (c : Nat) => mix f (c : Int) b) f) % b = cs.foldl (fun f (c : Nat) => mix f (c : Int) b) (f % b) := by
  cases cs with
  | nil => rfl
  | cons c cs =>
    rw [List.foldl_cons, List.foldl_cons, mix_mod]
    obtain ⟨h1, h2⟩ := fold_range hb cs (mix f c b) (mix_range hb).1 (mix_range hb).2
    exact Int.emod_eq_of_lt h1 h2
theorem markL_range {b : Int} (hb : 0 < b) : ∀ (l : List D) (f : Int), 0 ≤ f → f < b → 0 ≤ markL b f l ∧ markL b f l < b
  | [], f, h1, h2 => by simp only [markL]; exact ⟨h1, h2⟩
  | d :: l, f, _, _ => by simp only [markL]; exact markL_range hb l _ (mix_range hb).1 (mix_range hb).2
theorem markL_mod {b : Int} (hb : 0 < b) (l : List D) (f : Int) : markL b f l % b = markL b (f % b) l := by
  cases l with
  | nil => simp only [markL]
  | cons d l =>
    simp only [markL, mix_mod]
    obtain ⟨h1, h2⟩ := markL_range hb l (mix f (mark b d) b) (mix_range hb).1 (mix_range hb).2
    exact Int.emod_eq_of_lt h1 h2
def G__law_mark (c__law_mix c__law_mark : List D → Hpp → R D) : S :=
    (sSeq (sIf (mBin cmpIs (mVar 0) (mC .non)) (sSeq (sRet (mCallV c__law_mix 3 0 [.pos 0, .pos 1, .pos 2] (mCons (mC (.int 1)) (mCons (mC (.int 1)) (mCons (mVar 1) mNil))) mNil))
    sNil) sNil)
    (sSeq (sIf (mUn (opIsi .int) (mVar 0)) (sSeq (sRet (mCallV c__law_mix 3 0 [.pos 0, .pos 1, .pos 2] (mCons (mC (.int 2)) (mCons (mVar 0) (mCons (mVar 1) mNil))) mNil))
    sNil) sNil)
    (sSeq (sAsg (mBin opAdd (mIf (mUn (opIsi .str) (mVar 0)) (mC (.int 17)) (mC (.int 13))) (mB bLen (mCons (mVar 0) mNil))) (gVar 2))
    (sSeq (sFor (srcSeq (mVar 0)) (gVar 3) (sSeq (sAsg (mCallV c__law_mix 3 0 [.pos 0, .pos 1, .pos 2] (mCons (mVar 2) (mCons (mIf (mUn (opIsi .str) (mVar 0)) (mB bOrd (mCons (mVar 3) mNil)) (mCallV c__law_mark 2 0 [.pos 0, .pos 1] (mCons (mVar 3) (mCons (mVar 1) mNil)) mNil)) (mCons (mVar 1) mNil))) mNil) (gVar 2))
    sNil))
    (sSeq (sRet (mBin opMod (mVar 2) (mVar 1)))
    sNil)))))
theorem lmark_str {c_mix c_mark : CF} (hm : MixS c_mix) {b : Int} (hb : 0 < b) (hb2 : b ≤ 2 ^ 63) {z : Str} {A : Hpp} {src : Src} (hs : src.still A = true) : ∀ (cs : List Nat) (f : Int) (x : Option D), 0 ≤ f → f < 2 ^ 64 →
    Ok (forLoop src (gVar 3) (sSeq (sAsg (mCallV c_mix 3 0 [.pos 0, .pos 1, .pos 2] (mCons (mVar 2) (mCons (mIf (mUn (opIsi .str) (mVar 0)) (mB bOrd (mCons (mVar 3) mNil)) (mCallV c_mark 2 0 [.pos 0, .pos 1] (mCons (mVar 3) (mCons (mVar 1) mNil)) mNil)) (mCons (mVar 1) mNil))) mNil) (gVar 2)) sNil)
      (cs.map fun c => .str ⟨#[c]⟩) [some (.str z), some (.int b), some (.int f), x] A) fun o A' => ∃ y, o = .nx [some (.str z), some (.int b), some (.int (cs.foldl (fun f (c : Nat) => mix f (c : Int) b) f)), y] ∧ A' = A
  | [], f, x, _, _ => by
    rw [List.map_nil]
    unfold forLoop
    rw [if_pos hs, ok_ok]
    exact ⟨x, rfl, rfl⟩
  | c :: cs, f, x, h1, h2 => by
    rw [List.map_cons]
    unfold forLoop
    rw [if_pos hs]
    walk_at "ex"
    walk_at "st"
    rw [hm f c b A hb (by omega) (by omega)]
    walk_at "ex"
    obtain ⟨g1, g2⟩ := mix_range (x := f) (y := c) hb
    exact lmark_str hm hb hb2 hs cs _ _ g1 (by omega)
theorem lmark_tup {c_mix c_mark : CF} (hm : MixS c_mix) {b : Int} (hb : 0 < b) (hb2 : b ≤ 2 ^ 63) {k : Nat} (hk : MarkS k c_mark) {w : List D} {A : Hpp} {src : Src} (hs : src.still A = true) : ∀ (l : List D) (f : Int) (x : Option D), D.thL l = true → D.dpL l ≤ k → 0 ≤ f → f < 2 ^ 64 →
    Ok (forLoop src (gVar 3) (sSeq (sAsg (mCallV c_mix 3 0 [.pos 0, .pos 1, .pos 2] (mCons (mVar 2) (mCons (mIf (mUn (opIsi .str) (mVar 0)) (mB bOrd (mCons (mVar 3) mNil)) (mCallV c_mark 2 0 [.pos 0, .pos 1] (mCons (mVar 3) (mCons (mVar 1) mNil)) mNil)) (mCons (mVar 1) mNil))) mNil) (gVar 2)) sNil)
      l [some (.tup w), some (.int b), some (.int f), x] A) fun o A' => ∃ y, o = .nx [some (.tup w), some (.int b), some (.int (markL b f l)), y] ∧ A' = A
  | [], f, x, _, _, _, _ => by
    unfold forLoop
    rw [if_pos hs, ok_ok]
    exact ⟨x, rfl, rfl⟩
  | e :: l, f, x, ht, hd, h1, h2 => by
    simp only [D.thL, Bool.and_eq_true] at ht
    simp only [D.dpL] at hd
    unfold forLoop
    rw [if_pos hs]
    walk_at "ex"
    walk_at "st"
    rw [hk e b A ht.1 (by omega) hb hb2]
    walk_at "ex"
    rw [hm f _ b A hb (by omega) (by omega)]
    walk_at "ex"
    obtain ⟨g1, g2⟩ := mix_range (x := f) (y := mark b e) hb
    exact lmark_tup hm hb hb2 hk hs l _ _ ht.2 (by omega) g1 (by omega)
theorem lmark_ok {c_mix c_mark : CF} (hm : MixS c_mix) {k : Nat} (hk : ∀ j, j < k → MarkS j c_mark) : MarkS k (run 4 2 (G__law_mark c_mix c_mark)) := by
  intro d b A ht hd hb hb2
  have sl := sizeLine_eq
  apply ok_eq
  refine ok_run rfl ?_
  unfold G__law_mark
  cases d with
  | non =>
    walk_at "st"
    walk_at "st"
    rw [hm 1 1 b A hb (by decide) (by decide)]
    walk_at "ex"
    rw [gc_self, ok_ok]
    exact ⟨rfl, rfl⟩
  | int n =>
    walk_at "st"
    walk_at "st"
    walk_at "st"
    rw [hm 2 n b A hb (by decide) (by decide)]
    walk_at "ex"
    rw [gc_self, ok_ok]
    exact ⟨rfl, rfl⟩
  | str s =>
    simp only [D.th, decide_eq_true_eq] at ht
    walk_at "st"
    walk_at "st"
    walk_at "st"
    rw [len_str ht]
    walk_at "ex"
    walk_at "st"
    rw [src_str rfl]
    walk_at "ex"
    refine Ok.mono (lmark_str (src := .its _) hm hb hb2 rfl _ _ _ (by omega) (by omega)) ?_
    rintro o A' ⟨y, rfl, rfl⟩
    walk_at "st"
    rw [opMod_int hb]
    walk_at "ex"
    rw [gc_self, ok_ok, fold_mod hb]
    exact ⟨rfl, rfl⟩
  | tup l =>
    simp only [D.th, Bool.and_eq_true, decide_eq_true_eq] at ht
    have hl := ht.1
    replace ht := ht.2
    simp only [D.dp] at hd
    walk_at "st"
    walk_at "st"
    walk_at "st"
    walk_at "st"
    rw [src_tup rfl]
    walk_at "ex"
    refine Ok.mono (lmark_tup (src := .its _) hm hb hb2 (hk (k - 1) (by omega)) rfl _ _ _ ht (by show D.dpL l ≤ k - 1; omega) (by omega) (by omega)) ?_
    rintro o A' ⟨y, rfl, rfl⟩
    walk_at "st"
    rw [opMod_int hb]
    walk_at "ex"
    rw [gc_self, ok_ok, markL_mod hb]
    exact ⟨rfl, rfl⟩
  | bl x => simp [D.th] at ht
  | ref n => simp [D.th] at ht
end Rf
namespace Rf
open PySem PySem.Spec L2
local macro_rules | `(tactic| walk_at "ex") => `(tactic| try simp only [x_ret, x_retN, x_asg, x_if, x_drop, x_nilS, x_for, x_var, x_c, x_un, x_bin, x_test, x_and, x_or, x_not, x_ifE, x_nil, x_cons, x_tup, x_lst, x_b, x_meth, x_oNone, x_oSome, x_slice, x_call, x_gVar, x_gSub, x_range1, x_lc, x_yes, x_rg1, wipeL,
  R.bind_ok, ok_bind, ok_ok, gather, optAll, List.map_cons, List.map_nil, List.getElem?_cons_zero, List.getElem?_cons_succ, List.set_cons_zero, List.set_cons_succ, Option.map_some, List.length_cons, List.length_nil,
  List.nil_append, List.cons_append, List.replicate, Nat.reduceAdd, Nat.reduceSub, and_self, if_true, if_false, true_and, and_true, Nat.reduceEqDiff, truth_bl, ofO_some, reduceCtorEq, decide_true, decide_false, Bool.false_eq_true, Bool.not_true, Bool.not_false, or_self, or_true, true_or, or_false, false_or,
  opAdd_int, opSub_int, cmpLt_int, cmpLe_int, cmpGt_int, cmpGe_int, cmpIs_non, cmpIsNot_non, isi_str, isi_non, isi_int, isi_tup, isi_bl, len_tup, ord_one])
local macro_rules | `(tactic| walk_at "st") => `(tactic| (refine x_seq.mpr ?_; walk_at "ex"))
def G__law_tap : S :=
    (sSeq (sRet (mDict [((mC (.str "cells")), (mB bList (mCons (mSlice (mVar 0) oNone (oSome (mC (.int 63)))) mNil))), ((mC (.str "spot")), (mC (.int 0))), ((mC (.str "rest")), (mC (.int 0))), ((mC (.str "calls")), (mC (.int 0)))]))
    sNil)
def G__law_take : S :=
    (sSeq (sAsg (mBin opAdd (mBin opIx (mVar 0) (mC (.str "calls"))) (mC (.int 1))) (gVar 2))
    (sSeq (sAsg (mVar 2) (gSub' (mVar 0) (mC (.str "calls"))))
    (sSeq (sIf (mBin cmpGt (mBin opIx (mVar 0) (mC (.str "rest"))) (mC (.int 0))) (sSeq (sAsg (mBin opMod (mBin opIx (mVar 0) (mC (.str "rest"))) (mVar 1)) (gVar 3))
    (sSeq (sAsg (mBin opFdiv (mBin opIx (mVar 0) (mC (.str "rest"))) (mVar 1)) (gSub' (mVar 0) (mC (.str "rest"))))
    (sSeq (sRet (mVar 3))
    sNil))) sNil)
    (sSeq (sAsg (mBin opIx (mVar 0) (mC (.str "spot"))) (gVar 4))
    (sSeq (sAsg (mBin opAdd (mVar 4) (mC (.int 1))) (gSub' (mVar 0) (mC (.str "spot"))))
    (sSeq (sAsg (mBin opIx (mVar 0) (mC (.str "cells"))) (gVar 5))
    (sSeq (sAsg (mIf (mBin cmpGt (mB bLen (mCons (mVar 5) mNil)) (mC (.int 0))) (mBin opIx (mVar 5) (mBin opMod (mVar 4) (mB bLen (mCons (mVar 5) mNil)))) (mC (.int 5))) (gVar 6))
    (sSeq (sIf (mAnd (mBin cmpLt (mVar 4) (mB bLen (mCons (mVar 5) mNil))) (mBin cmpGe (mVar 6) (mBin opPow (mC (.int 10)) (mC (.int 18))))) (sSeq (sAsg (mBin opFdiv (mVar 6) (mVar 1)) (gSub' (mVar 0) (mC (.str "rest"))))
    (sSeq (sRet (mBin opMod (mVar 6) (mVar 1)))
    sNil)) sNil)
    (sSeq (sAsg (mBin opMod (mBin opPow (mBin opAdd (mBin opAdd (mBin opMod (mVar 6) (mC (.int 2147483629))) (mBin opMul (mC (.int 6007)) (mVar 2))) (mC (.int 11))) (mC (.int 5))) (mC (.int 2147483647))) (gVar 7))
    (sSeq (sRet (mBin opMod (mBin opFdiv (mBin opMod (mBin opPow (mBin opAdd (mVar 7) (mBin opMul (mBin opMul (mC (.int 4099)) (mVar 2)) (mVar 2))) (mC (.int 5))) (mC (.int 2147483587))) (mC (.int 32))) (mVar 1)))
    sNil))))))))))
/-! ### the tap -/
def tapL (c : Nat) (s r k : Int) : List (Key × D) := [(.inr "cells", .ref c), (.inr "spot", .int s), (.inr "rest", .int r), (.inr "calls", .int k)]
def tapO (c : Nat) (s r k : Int) : HOb := .dct (tapL c s r k)
section
variable {B : Hpp} {t c : Nat} {s r k v : Int}
theorem tap_get (ht : t < B.length) : (B.set t (tapO c s r k))[t]? = some (tapO c s r k) := by rw [List.getElem?_set_self ht]
theorem ixk_dct {A : Hpp} {kvs : List (Key × D)} {z : Str} {d : D} (h : A[t]? = some (.dct kvs)) (hl : lookD kvs (.inr z) = some d) : opIx (.ref t) (.str z) A = .ok d A := by
  have : opIx (.ref t) (.str z) A = R.ofO (lookD kvs (.inr z)) A := by simp [opIx, h, keyD]
  rw [this, hl]; rfl
theorem setk_dct {A : Hpp} {kvs : List (Key × D)} {z : Str} {d : D} (h : A[t]? = some (.dct kvs)) (hl : kvs.length < sizeLine) : setIx (.ref t) (.str z) d A = .ok () (A.set t (.dct (putD kvs (.inr z) d))) := by
  simp only [setIx, h, keyD]
  rw [if_pos hl]
theorem tap_look (c : Nat) (s r k : Int) : lookD (tapL c s r k) (.inr "cells") = some (.ref c) ∧ lookD (tapL c s r k) (.inr "spot") = some (.int s) ∧ lookD (tapL c s r k) (.inr "rest") = some (.int r) ∧ lookD (tapL c s r k) (.inr "calls") = some (.int k) := by
  refine ⟨?_, ?_, ?_, ?_⟩ <;> kernel_rfl
theorem tap_put (c : Nat) (s r k v : Int) : putD (tapL c s r k) (.inr "spot") (.int v) = tapL c v r k ∧ putD (tapL c s r k) (.inr "rest") (.int v) = tapL c s v k ∧ putD (tapL c s r k) (.inr "calls") (.int v) = tapL c s r v := by
  refine ⟨?_, ?_, ?_⟩ <;> kernel_rfl
theorem tapO_eq : tapO c s r k = .dct (tapL c s r k) := rfl
theorem tapL_len : (tapL c s r k).length < sizeLine := by rw [sizeLine_eq]; exact (by decide : 4 < 16777216)
theorem tap_cells (ht : t < B.length) : opIx (.ref t) (.str "cells") (B.set t (tapO c s r k)) = .ok (.ref c) (B.set t (tapO c s r k)) := ixk_dct (tap_get ht) (tap_look c s r k).1
theorem tap_spot (ht : t < B.length) : opIx (.ref t) (.str "spot") (B.set t (tapO c s r k)) = .ok (.int s) (B.set t (tapO c s r k)) := ixk_dct (tap_get ht) (tap_look c s r k).2.1
theorem tap_rest (ht : t < B.length) : opIx (.ref t) (.str "rest") (B.set t (tapO c s r k)) = .ok (.int r) (B.set t (tapO c s r k)) := ixk_dct (tap_get ht) (tap_look c s r k).2.2.1
theorem tap_calls (ht : t < B.length) : opIx (.ref t) (.str "calls") (B.set t (tapO c s r k)) = .ok (.int k) (B.set t (tapO c s r k)) := ixk_dct (tap_get ht) (tap_look c s r k).2.2.2
theorem put_spot (ht : t < B.length) : setIx (.ref t) (.str "spot") (.int v) (B.set t (tapO c s r k)) = .ok () (B.set t (tapO c v r k)) := by
  rw [setk_dct (tap_get ht) tapL_len, List.set_set, (tap_put c s r k v).1]; rfl
theorem put_rest (ht : t < B.length) : setIx (.ref t) (.str "rest") (.int v) (B.set t (tapO c s r k)) = .ok () (B.set t (tapO c s v k)) := by
  rw [setk_dct (tap_get ht) tapL_len, List.set_set, (tap_put c s r k v).2.1]; rfl
theorem put_calls (ht : t < B.length) : setIx (.ref t) (.str "calls") (.int v) (B.set t (tapO c s r k)) = .ok () (B.set t (tapO c s r v)) := by
  rw [setk_dct (tap_get ht) tapL_len, List.set_set, (tap_put c s r k v).2.2]; rfl
end
/-- the tap's place and its cells' place -/
structure TapAt (B : Hpp) (t c : Nat) : Prop where
  ht : t < B.length
  hc : c < B.length
  ne : t ≠ c
  cells : ∃ zs : List Int, B[c]? = some (.lst (zs.map .int)) ∧ zs.length ≤ sizeLine
  cl : Cl B
/-- a heap that differs from B in the tap alone, which was asked at most n times -/
def Tp (B : Hpp) (t c n : Nat) (A : Hpp) : Prop := ∃ s r k : Int, 0 ≤ s ∧ 0 ≤ r ∧ 0 ≤ k ∧ k ≤ n ∧ A = B.set t (tapO c s r k)
def TakeS (f : CF) : Prop := ∀ B t c n A (m : Int), TapAt B t c → Tp B t c n A → n < 1000000 → 0 < m → m ≤ 2 ^ 63 → Ok (f [.ref t, .int m] A) fun d A' => ∃ i : Int, d = .int i ∧ 0 ≤ i ∧ i < m ∧ Tp B t c (n + 1) A'
theorem tp_len {B : Hpp} {t c n : Nat} {A : Hpp} (h : Tp B t c n A) : A.length = B.length := by
  obtain ⟨s, r, k, _, _, _, _, rfl⟩ := h
  simp
theorem divW {i m : Int} (h1 : 0 < m) (h2 : m ≤ 2 ^ 63) : CDivW i m := by
  refine ⟨h1, ?_⟩
  rcases Nat.eq_zero_or_pos m.natAbs with z | z
  · rw [z]; decide
  · have : m.natAbs < 2 ^ 64 := by omega
    have := (Nat.log2_lt (by omega)).mpr this
    omega
theorem ixS {l : List D} {n : Nat} {A : Hpp} {i : Int} (h : A[n]? = some (.lst l)) : opIx (.ref n) (.int i) A = R.ofO (atI l i) A := by simp [opIx, h]
theorem atI_get {l : List D} {i : Int} (h1 : 0 ≤ i) (h2 : i < l.length) : ∃ d ∈ l, atI l i = some d ∧ l[i.toNat]? = some d := by
  have hl : i.toNat < l.length := by omega
  refine ⟨l[i.toNat], List.getElem_mem hl, ?_, List.getElem?_eq_getElem hl⟩
  unfold atI ixN
  rw [if_pos h1, if_pos h2]
  exact List.getElem?_eq_getElem hl
theorem take_ok : TakeS (run 8 2 G__law_take) := by
  intro B t c n A m T h hn hm hm2
  obtain ⟨s, r, k, h1, h2, h3, h4, rfl⟩ := h
  obtain ⟨zs, hz, hz2⟩ := T.cells
  have ht := T.ht
  have gc : ∀ (i s r k : Int), gcR (B.set t (tapO c s r k)) (.int i) (B.set t (tapO c s r k)) = .ok (.int i) (B.set t (tapO c s r k)) := fun _ _ _ _ => gc_self
  have gl : ∀ (s r k : Int), (B.set t (tapO c s r k))[c]? = some (.lst (zs.map .int)) := fun s r k => by rw [List.getElem?_set_ne T.ne]; exact hz
  refine ok_run rfl ?_
  unfold G__law_take
  walk_at "st"
  rw [tap_calls ht]
  walk_at "ex"
  walk_at "st"
  rw [put_calls ht]
  walk_at "ex"
  walk_at "st"
  rw [tap_rest ht]
  walk_at "ex"
  have gc2 : ∀ (i s r k : Int) (A : Hpp), A.length = B.length → gcR A (.int i) (B.set t (tapO c s r k)) = .ok (.int i) (B.set t (tapO c s r k)) := fun i s r k A e => gc_same (by simp [e])
  by_cases hr : 0 < r
  · rw [if_pos (by simpa using hr)]
    walk_at "st"
    rw [tap_rest ht]
    walk_at "ex"
    rw [opMod_int hm]
    walk_at "ex"
    walk_at "st"
    rw [tap_rest ht]
    walk_at "ex"
    rw [opFdiv_int (divW hm hm2)]
    walk_at "ex"
    rw [put_rest ht]
    walk_at "ex"
    walk_at "st"
    rw [gc2 _ _ _ _ _ (by simp), ok_ok]
    exact ⟨_, rfl, Int.emod_nonneg _ (by omega), Int.emod_lt_of_pos _ hm, s, r / m, k + 1, h1, Int.ediv_nonneg h2 (by omega), by omega, by omega, rfl⟩
  · rw [if_neg (by simpa using hr)]
    walk_at "ex"
    walk_at "st"
    rw [tap_spot ht]
    walk_at "ex"
    walk_at "st"
    rw [put_spot ht]
    walk_at "ex"
    walk_at "st"
    rw [tap_cells ht]
    walk_at "ex"
    walk_at "st"
    rw [len_lst (gl _ _ _)]
    walk_at "ex"
    have cell : ∃ z : Int, Ok ((if (decide (0 < ((zs.map D.int).length : Int))) = true then
        (opMod (D.int s) (D.int ((zs.map D.int).length : Int)) (B.set t (tapO c (s + 1) r (k + 1)))).bind fun y A2 => opIx (D.ref c) y A2 else (R.ok (D.int 5) (B.set t (tapO c (s + 1) r (k + 1)))))) fun d A' => d = .int z ∧ A' = B.set t (tapO c (s + 1) r (k + 1)) := by
      by_cases hp : 0 < ((zs.map D.int).length : Int)
      · rw [if_pos (by simpa using hp), opMod_int hp, R.bind_ok]
        obtain ⟨d, hd, he, _⟩ := atI_get (l := zs.map D.int) (i := s % ((zs.map D.int).length : Int)) (Int.emod_nonneg _ (by omega)) (Int.emod_lt_of_pos _ hp)
        obtain ⟨z, _, rfl⟩ := List.mem_map.mp hd
        refine ⟨z, ?_⟩
        simp only [opIx, gl, he]
        exact ok_ok.mpr ⟨rfl, rfl⟩
      · rw [if_neg (by simpa using hp)]
        exact ⟨5, ok_ok.mpr ⟨rfl, rfl⟩⟩
    obtain ⟨z, hcell⟩ := cell
    rw [len_lst (gl _ _ _), R.bind_ok]
    refine Ok.mono hcell ?_
    rintro _ _ ⟨rfl, rfl⟩
    walk_at "st"
    rw [len_lst (gl _ _ _)]
    walk_at "ex"
    rw [opPow_int (by decide : CPow 10 18)]
    walk_at "ex"
    have tst : ∃ b : Bool, (b = true → 10 ^ 18 ≤ z) ∧ Ok (if decide (s < ((zs.map D.int).length : Int)) = true then R.ok (D.bl (decide ((10 : Int) ^ Int.toNat 18 ≤ z))) (B.set t (tapO c (s + 1) r (k + 1))) else R.ok (D.bl (decide (s < ((zs.map D.int).length : Int)))) (B.set t (tapO c (s + 1) r (k + 1))))
        fun d A' => d = .bl b ∧ A' = B.set t (tapO c (s + 1) r (k + 1)) := by
      by_cases hp : s < ((zs.map D.int).length : Int)
      · rw [if_pos (by simpa using hp)]
        exact ⟨_, fun e => by simpa using e, ok_ok.mpr ⟨rfl, rfl⟩⟩
      · rw [if_neg (by simpa using hp)]
        exact ⟨_, fun e => absurd (of_decide_eq_true e) hp, ok_ok.mpr ⟨rfl, rfl⟩⟩
    obtain ⟨b, hb, htst⟩ := tst
    refine Ok.mono htst ?_
    rintro _ _ ⟨rfl, rfl⟩
    walk_at "ex"
    cases b with
    | true =>
      have hz3 := hb rfl
      rw [if_pos rfl]
      walk_at "st"
      rw [opFdiv_int (divW hm hm2)]
      walk_at "ex"
      rw [put_rest ht]
      walk_at "ex"
      walk_at "st"
      rw [opMod_int hm]
      walk_at "ex"
      rw [gc2 _ _ _ _ _ (by simp), ok_ok]
      exact ⟨_, rfl, Int.emod_nonneg _ (by omega), Int.emod_lt_of_pos _ hm, s + 1, z / m, k + 1, by omega, Int.ediv_nonneg (by omega) (by omega), by omega, by omega, rfl⟩
    | false =>
      rw [if_neg (by decide)]
      walk_at "ex"
      walk_at "st"
      rw [opMod_int (by decide)]
      walk_at "ex"
      rw [opMul_int (cmul_l (by decide) (by decide))]
      walk_at "ex"
      have m1 := Int.emod_nonneg z (show (2147483629 : Int) ≠ 0 by decide)
      have m2 := Int.emod_lt_of_pos z (show (0 : Int) < 2147483629 by decide)
      rw [opPow_int ⟨by decide, by decide, by omega⟩]
      walk_at "ex"
      rw [opMod_int (by decide)]
      walk_at "ex"
      generalize hq : (z % 2147483629 + 6007 * (k + 1) + 11) ^ Int.toNat 5 = q
      have q1 := Int.emod_nonneg q (show (2147483647 : Int) ≠ 0 by decide)
      have q2 := Int.emod_lt_of_pos q (show (0 : Int) < 2147483647 by decide)
      walk_at "st"
      rw [opMul_int (cmul_l (by decide) (by decide))]
      walk_at "ex"
      rw [opMul_int (cmul_l (by omega) (by omega))]
      walk_at "ex"
      have kk : 0 ≤ 4099 * (k + 1) * (k + 1) ∧ 4099 * (k + 1) * (k + 1) ≤ 4099 * 1000000 * 1000000 :=
        ⟨Int.mul_nonneg (by omega) (by omega), Int.mul_le_mul (by omega) (by omega) (by omega) (by omega)⟩
      generalize 4099 * (k + 1) * (k + 1) = kk2 at kk
      rw [opPow_int ⟨by decide, by decide, by omega⟩]
      walk_at "ex"
      rw [opMod_int (by decide)]
      walk_at "ex"
      rw [opFdiv_int (divW (by decide) (by decide))]
      walk_at "ex"
      rw [opMod_int hm]
      walk_at "ex"
      rw [gc2 _ _ _ _ _ (by simp), ok_ok]
      exact ⟨_, rfl, Int.emod_nonneg _ (by omega), Int.emod_lt_of_pos _ hm, s + 1, r, k + 1, by omega, by omega, by omega, by omega, rfl⟩
/-- the tap made from the cells -/
theorem tap_ok (ns : List Int) (hn : ns.length ≤ sizeLine) : ∃ B c, run 1 1 G__law_tap [.ref 0] [.rd (ns.map .int)] = .ok (.ref 1) B ∧ TapAt B 1 c ∧ Tp B 1 c 0 B ∧ B[0]? = some (.rd (ns.map .int)) := by
  have hh : Ok (run 1 1 G__law_tap [.ref 0] [.rd (ns.map .int)]) fun d B => d = .ref 1 ∧ B = [.rd (ns.map .int), tapO 3 0 0 0, .lst (cutD (ns.map .int) none (some 63)), .lst (cutD (ns.map .int) none (some 63))] := by
    refine ok_run rfl ?_
    unfold G__law_tap
    refine x_seq.mpr ?_
    simp only [x_ret, x_dict, mPairs, x_c, x_b, x_cons, x_nil, x_slice, x_var, x_oNone, x_oSome, R.bind_ok, ok_bind, ok_ok, List.map_cons, List.map_nil, List.cons_append, List.nil_append, List.getElem?_cons_zero, List.getElem?_cons_succ, opSl, bList, List.length_cons, List.length_nil]
    have e1 : keysD [(D.str "cells", D.ref (0 + 1 + 1 + 1)), (D.str "spot", D.int 0), (D.str "rest", D.int 0), (D.str "calls", D.int 0)] = some (tapL 3 0 0 0) := rfl
    rw [e1]
    have e2 : mergeD (tapL 3 0 0 0) = tapL 3 0 0 0 := by kernel_rfl
    simp only [e2]
    rw [if_pos ⟨by decide, trivial⟩, ok_ok]
    unfold gcR
    rw [if_neg (by simp), if_neg (by simp [D.low]), if_neg (by simp [D.low])]
    simp only [Nat.zero_add, List.set_cons_succ, List.set_cons_zero, List.getElem?_cons_succ, List.getElem?_cons_zero]
    rw [if_neg (by simp [HOb.low, tapL, D.lowL, D.low]), ok_ok]
    exact ⟨rfl, rfl⟩
  obtain ⟨d, B, e, rfl, rfl⟩ := hh
  refine ⟨_, 3, e, ⟨by simp, by simp, by decide, ⟨ns.drop (HT.sIx ns.length 0 none) |>.take (HT.sIx ns.length ns.length (some 63) - HT.sIx ns.length 0 none), ?_, ?_⟩, ?_⟩, ⟨0, 0, 0, by decide, by decide, by decide, by decide, rfl⟩, rfl⟩
  · show some (HOb.lst _) = _
    simp [cutD, List.map_drop, List.map_take]
  · rw [List.length_take, List.length_drop]; omega
  · have li : ∀ (n : Nat) (l : List Int), D.lowL n (l.map D.int) = true := by
      intro n l
      induction l with
      | nil => rfl
      | cons x l ih => simp [D.lowL, D.low, ih]
    have lc : D.lowL 4 (cutD (ns.map D.int) none (some 63)) = true := by
      simp only [cutD, ← List.map_drop, ← List.map_take]
      exact li _ _
    simp [Cl, HOb.low, tapO, tapL, D.lowL, D.low, li, lc]
/-! ### the tap among other places -/
theorem Tp.mono {B : Hpp} {t c n m : Nat} {A : Hpp} (h : Tp B t c n A) (hm : n ≤ m) : Tp B t c m A := by
  obtain ⟨s, r, k, h1, h2, h3, h4, e⟩ := h
  exact ⟨s, r, k, h1, h2, h3, by omega, e⟩
theorem tp_app {B X : Hpp} {t c n : Nat} {A : Hpp} (T : TapAt B t c) : Tp (B ++ X) t c n A ↔ ∃ A1, A = A1 ++ X ∧ Tp B t c n A1 := by
  constructor
  · rintro ⟨s, r, k, h1, h2, h3, h4, rfl⟩
    exact ⟨_, List.set_append_left _ _ T.ht, s, r, k, h1, h2, h3, h4, rfl⟩
  · rintro ⟨_, rfl, s, r, k, h1, h2, h3, h4, rfl⟩
    exact ⟨s, r, k, h1, h2, h3, h4, (List.set_append_left _ _ T.ht).symm⟩
mutual
theorem low_mono {n m : Nat} (h : n ≤ m) : ∀ d : D, D.low n d = true → D.low m d = true
  | .ref k, z => by simp only [D.low, decide_eq_true_eq] at *; omega
  | .tup l, z => by simp only [D.low] at *; exact lowL_mono h l z
  | .non, _ => rfl
  | .bl _, _ => rfl
  | .int _, _ => rfl
  | .str _, _ => rfl
theorem lowL_mono {n m : Nat} (h : n ≤ m) : ∀ l : List D, D.lowL n l = true → D.lowL m l = true
  | [], _ => rfl
  | d :: l, z => by simp only [D.lowL, Bool.and_eq_true] at *; exact ⟨low_mono h d z.1, lowL_mono h l z.2⟩
end
theorem lowH_mono {n m : Nat} (h : n ≤ m) (o : HOb) (z : o.low n = true) : o.low m = true := by
  cases o <;> exact lowL_mono h _ z
theorem lowL_of {n : Nat} : ∀ {l : List D}, (∀ d ∈ l, d.low 0 = true) → D.lowL n l = true
  | [], _ => rfl
  | d :: l, h => by
    simp only [D.lowL, Bool.and_eq_true]
    exact ⟨low_mono (Nat.zero_le _) d (h d (List.mem_cons_self ..)), lowL_of fun e he => h e (List.mem_cons_of_mem _ he)⟩
theorem cl_app {B X : Hpp} (h : Cl B) (hx : ∀ o ∈ X, HOb.low (B.length + X.length) o = true) : Cl (B ++ X) := by
  unfold Cl at *
  rw [List.all_eq_true] at *
  intro o ho
  rw [List.length_append]
  rcases List.mem_append.mp ho with z | z
  · exact lowH_mono (by omega) o (h o z)
  · exact hx o z
theorem tapAt_app {B X : Hpp} {t c : Nat} (T : TapAt B t c) (hx : ∀ o ∈ X, HOb.low (B.length + X.length) o = true) : TapAt (B ++ X) t c := by
  obtain ⟨ht, hc, ne, ⟨zs, hz, hl⟩, cl⟩ := T
  exact ⟨by rw [List.length_append]; omega, by rw [List.length_append]; omega, ne, ⟨zs, by rw [List.getElem?_append_left hc]; exact hz, hl⟩, cl_app cl hx⟩
theorem tapAt_list {B : Hpp} {t c : Nat} (T : TapAt B t c) {l : List D} (hl : ∀ d ∈ l, d.low 0 = true) : TapAt (B ++ [.lst l]) t c := by
  refine tapAt_app T fun o ho => ?_
  rw [List.mem_singleton.mp ho]
  exact lowL_of hl
theorem tp_cl {B : Hpp} {t c n : Nat} {A : Hpp} (T : TapAt B t c) (h : Tp B t c n A) : Cl A := by
  obtain ⟨s, r, k, _, _, _, _, rfl⟩ := h
  refine cl_set T.cl ?_
  simp [tapO, tapL, HOb.low, D.lowL, D.low, T.hc]
theorem tp_gc {B X A A1 : Hpp} {t c n n' : Nat} {d : D} (T : TapAt B t c) (h : Tp B t c n A) (h' : Tp B t c n' A1) (hd : d.low 0 = true) : gcR A d (A1 ++ X) = .ok d A1 :=
  gc_low (by rw [tp_len h, tp_len h']) (low_mono (Nat.zero_le _) d hd) (tp_cl T h')
theorem tp_gc0 {B A A1 : Hpp} {t c n n' : Nat} {d : D} (h : Tp B t c n A) (h' : Tp B t c n' A1) : gcR A d A1 = .ok d A1 := gc_same (by rw [tp_len h, tp_len h']; exact Nat.le_refl _)
theorem tp_get {B A : Hpp} {t c n p : Nat} (h : Tp B t c n A) (hp : p ≠ t) : A[p]? = B[p]? := by
  obtain ⟨s, r, k, _, _, _, _, rfl⟩ := h
  rw [List.getElem?_set_ne (Ne.symm hp)]
/-- a comprehension whose turns ask the tap -/
theorem lc_tap {B : Hpp} {t c v m N : Nat} {its : List D} {e : M} {L : Loc} {P : D → Prop} (T : TapAt B t c) (hP : ∀ d, P d → d.low 0 = true)
    (he : ∀ B n A i, TapAt B t c → Tp B t c n A → n + m ≤ N → Ok (e (L.set v (some i)) A) fun d A' => Tp B t c (n + m) A' ∧ P d) :
    ∀ (ds acc : List D) (n : Nat) (A1 : Hpp), Tp B t c n A1 → n + m * ds.length ≤ N → (∀ d ∈ acc, P d) → acc.length + ds.length < sizeLine →
      Ok (lcLoop (.its its) B.length (gVar v) mYes e L ds (A1 ++ [.lst acc])) fun _ A' => ∃ A2 acc', A' = A2 ++ [.lst acc'] ∧ Tp B t c (n + m * ds.length) A2 ∧ (∀ d ∈ acc', P d) ∧ acc'.length = acc.length + ds.length
  | [], acc, n, A1, h, _, ha, _ => by
    unfold lcLoop
    rw [if_pos (show Src.still _ (.its its) = true from rfl), ok_ok]
    exact ⟨A1, acc, rfl, h, ha, rfl⟩
  | i :: ds, acc, n, A1, h, hN, ha, hs => by
    rw [List.length_cons] at hN hs
    have e1 : m * (ds.length + 1) = m * ds.length + m := Nat.mul_succ ..
    unfold lcLoop
    rw [if_pos (show Src.still _ (.its its) = true from rfl)]
    simp only [x_gVar, x_yes, R.bind_ok, if_true, ok_bind]
    refine Ok.mono (he _ n _ i (tapAt_list T fun d hd => hP d (ha d hd)) ((tp_app T).mpr ⟨A1, rfl, h⟩) (by omega)) ?_
    rintro d A' ⟨h1, hd⟩
    obtain ⟨A2, rfl, h2⟩ := (tp_app T).mp h1
    have eg : (A2 ++ [HOb.lst acc])[B.length]? = some (.lst acc) := by rw [← tp_len h2]; simp
    simp only [eg]
    rw [if_pos (by omega)]
    have es : (A2 ++ [HOb.lst acc]).set B.length (.lst (acc ++ [d])) = A2 ++ [.lst (acc ++ [d])] := by rw [← tp_len h2]; simp
    rw [es]
    refine Ok.mono (lc_tap T hP he ds (acc ++ [d]) (n + m) A2 h2 (by omega) (fun x hx => ?_) (by simp; omega)) ?_
    · rcases List.mem_append.mp hx with z | z
      · exact ha x z
      · rw [List.mem_singleton.mp z]; exact hd
    · rintro _ A' ⟨A3, acc', rfl, h3, h4, h5⟩
      refine ⟨A3, acc', rfl, ?_, h4, ?_⟩
      · refine h3.mono ?_
        rw [List.length_cons]; omega
      · rw [h5]; simp; omega
theorem range_len {lo : Int} {n : Nat} : (rangeD lo n).length = n := by simp [rangeD]
/-! ### joined texts -/
theorem strs_of {P : Str → Prop} : ∀ {l : List D}, (∀ d ∈ l, ∃ s, d = .str s ∧ P s) → ∃ ys, strsD l = some ys ∧ ys.length = l.length ∧ ∀ y ∈ ys, P y
  | [], _ => ⟨[], rfl, rfl, by simp⟩
  | d :: l, h => by
    obtain ⟨s, rfl, hs⟩ := h d (List.mem_cons_self ..)
    obtain ⟨ys, e, el, hy⟩ := strs_of (l := l) fun x hx => h x (List.mem_cons_of_mem _ hx)
    refine ⟨s :: ys, by simp [strsD, e], by simp [el], fun y hy' => ?_⟩
    rcases List.mem_cons.mp hy' with rfl | z
    · exact hs
    · exact hy y z
theorem join_of {P : Nat → Prop} : ∀ ys : List Str, (∀ y ∈ ys, y.length = 1 ∧ ∀ c ∈ y.cps.toList, P c) → (Txt.join (Str.ofString "") ys).length = ys.length ∧ ∀ c ∈ (Txt.join (Str.ofString "") ys).cps.toList, P c := by
  have key : ∀ ys : List Str, (∀ y ∈ ys, y.length = 1 ∧ ∀ c ∈ y.cps.toList, P c) → (Str.join (Str.ofString "") ys).length = ys.length ∧ ∀ c ∈ (Str.join (Str.ofString "") ys).cps.toList, P c := by
    intro ys
    induction ys with
    | nil => intro _; exact ⟨rfl, fun c hc => by simp [Str.join, Str.empty] at hc⟩
    | cons y r ih =>
      intro h
      have hy := h y (List.mem_cons_self ..)
      cases r with
      | nil => exact ⟨hy.1, hy.2⟩
      | cons z r =>
        have ih := ih fun q hq => h q (List.mem_cons_of_mem _ hq)
        have z0 : (Str.ofString "").length = 0 := by decide
        have z1 : (Str.ofString "").cps.toList = [] := by decide
        constructor
        · show (y ++ Str.ofString "" ++ Str.join (Str.ofString "") (z :: r)).length = _
          rw [Str.length_append, Str.length_append, hy.1, z0, ih.1]
          simp; omega
        · intro c hc
          have hc' : c ∈ (y ++ Str.ofString "" ++ Str.join (Str.ofString "") (z :: r)).cps.toList := hc
          rw [Str.cps_append, Str.cps_append, Array.toList_append, Array.toList_append, List.mem_append, List.mem_append, z1] at hc'
          rcases hc' with (q | q) | q
          · exact hy.2 c q
          · simp at q
          · exact ih.2 c q
  intro ys h
  show (Builtin.Str.glued (Str.ofString "") ys).length = _ ∧ ∀ c ∈ (Builtin.Str.glued (Str.ofString "") ys).cps.toList, P c
  rw [StrLaws.glued_eq_join]
  exact key ys h
end Rf
namespace Rf
open PySem PySem.Spec L2
local macro_rules | `(tactic| walk_at "ex") => `(tactic| try simp only [x_ret, x_retN, x_asg, x_if, x_drop, x_nilS, x_for, x_var, x_c, x_un, x_bin, x_test, x_and, x_or, x_not, x_ifE, x_nil, x_cons, x_tup, x_lst, x_b, x_meth, x_oNone, x_oSome, x_slice, x_call, x_gVar, x_gSub, x_range1, x_lc, x_yes, x_rg1, wipeL,
  R.bind_ok, ok_bind, ok_ok, gather, optAll, List.map_cons, List.map_nil, List.getElem?_cons_zero, List.getElem?_cons_succ, List.set_cons_zero, List.set_cons_succ, Option.map_some, List.length_cons, List.length_nil,
  List.nil_append, List.cons_append, List.replicate, Nat.reduceAdd, Nat.reduceSub, and_self, if_true, if_false, true_and, and_true, Nat.reduceEqDiff, truth_bl, ofO_some, reduceCtorEq, decide_true, decide_false, Bool.false_eq_true, Bool.not_true, Bool.not_false, or_self, or_true, true_or, or_false, false_or,
  opAdd_int, opSub_int, cmpLt_int, cmpLe_int, cmpGt_int, cmpGe_int, cmpIs_non, cmpIsNot_non, isi_str, isi_non, isi_int, isi_tup, isi_bl, len_tup, ord_one, sizeLine_eq, Nat.reduceLeDiff, x_bk, x_aug, x_par, tl_nil, tl_cons, x_tlNil, x_tlCons, x_gTup, x_gTupT, x_gStar1, ixt0, ixt1, ixt2, cmpEq_str, cmpNe_str, cmpEq_int, cmpNe_int])
local macro_rules | `(tactic| walk_at "st") => `(tactic| (refine x_seq.mpr ?_; walk_at "ex"))
mutual
/-- every place named is a list's -/
def D.rl (A : Hpp) : D → Bool
  | .ref n => (match A[n]? with | some (.lst _) => true | _ => false)
  | .tup l => D.rlL A l
  | _ => true
def D.rlL (A : Hpp) : List D → Bool
  | [] => true
  | d :: r => D.rl A d && D.rlL A r
end
mutual
theorem rl_app {A X : Hpp} : ∀ d : D, d.rl A = true → d.rl (A ++ X) = true
  | .ref n, h => by
    simp only [D.rl] at *
    split at h
    · rename_i l e
      rw [List.getElem?_append_left (List.getElem?_eq_some_iff.mp e).1, e]
    · cases h
  | .tup l, h => by simp only [D.rl] at *; exact rlL_app l h
  | .non, _ => rfl
  | .bl _, _ => rfl
  | .int _, _ => rfl
  | .str _, _ => rfl
theorem rlL_app {A X : Hpp} : ∀ l : List D, D.rlL A l = true → D.rlL (A ++ X) l = true
  | [], _ => rfl
  | d :: l, h => by
    simp only [D.rlL, Bool.and_eq_true] at *
    exact ⟨rl_app d h.1, rlL_app l h.2⟩
end
theorem rlL_mem {A : Hpp} : ∀ {l : List D} {d : D}, D.rlL A l = true → d ∈ l → d.rl A = true
  | e :: l, d, h, hd => by
    simp only [D.rlL, Bool.and_eq_true] at h
    rcases List.mem_cons.mp hd with rfl | hd
    · exact h.1
    · exact rlL_mem h.2 hd
mutual
theorem rl_low {A : Hpp} : ∀ d : D, d.low 0 = true → d.rl A = true
  | .ref n, h => by simp [D.low] at h
  | .tup l, h => by simp only [D.low, D.rl] at *; exact rlL_low l h
  | .non, _ => rfl
  | .bl _, _ => rfl
  | .int _, _ => rfl
  | .str _, _ => rfl
theorem rlL_low {A : Hpp} : ∀ l : List D, D.lowL 0 l = true → D.rlL A l = true
  | [], _ => rfl
  | d :: l, h => by
    simp only [D.lowL, D.rlL, Bool.and_eq_true] at *
    exact ⟨rl_low d h.1, rlL_low l h.2⟩
end
theorem isi_ref {T : Ty} {n : Nat} {A : Hpp} (h : (D.ref n).rl A = true) : opIsi T (.ref n) A = .ok (.bl (decide (T = .list))) A := by
  simp only [D.rl] at h
  split at h
  · rename_i l e
    simp [opIsi, e]
  · cases h
theorem bools_map {f : D → Bool} : ∀ l : List D, boolsD (l.map fun d => .bl (f d)) = some (l.map f)
  | [] => rfl
  | d :: l => by simp [boolsD, bools_map l]
theorem all_at {A : Hpp} {n : Nat} {l : List D} {f : D → Bool} (h : A[n]? = some (.lst (l.map fun d => .bl (f d)))) : bAll [.ref n] A = .ok (.bl (l.all f)) A := by
  simp only [bAll, h, bools_map]
  simp [Function.comp_def]
mutual
/-- tuples and texts of less than a million -/
def D.sm : D → Bool
  | .str s => decide (s.length < 4000000)
  | .tup l => decide (l.length < 4000000) && D.smL l
  | _ => true
def D.smL : List D → Bool
  | [] => true
  | d :: r => D.sm d && D.smL r
end
theorem smL_mem : ∀ {l : List D} {d : D}, D.smL l = true → d ∈ l → d.sm = true
  | e :: l, d, h, hd => by
    simp only [D.smL, Bool.and_eq_true] at h
    rcases List.mem_cons.mp hd with rfl | hd
    · exact h.1
    · exact smL_mem h.2 hd
theorem all_bl {A : Hpp} {n : Nat} {l : List D} {bs : List Bool} (h : A[n]? = some (.lst l)) (hb : boolsD l = some bs) : bAll [.ref n] A = .ok (.bl (bs.all id)) A := by simp [bAll, h, hb]
/-! ### numbers and things -/
def G_is_number : S :=
    (sSeq (sRet (mAnd (mUn (opIsi .int) (mVar 0)) (mNot (mUn (opIsi .bool) (mVar 0)))))
    sNil)
def isNum : D → Bool
  | .int _ => true
  | _ => false
def NumS (c : CF) : Prop := ∀ d A, d.rl A = true → c [d] A = .ok (.bl (isNum d)) A
theorem num_ok : NumS (run 1 1 G_is_number) := by
  intro d A h
  apply ok_eq
  refine ok_run rfl ?_
  unfold G_is_number
  cases d with
  | ref n =>
    walk_at "st"
    rw [isi_ref h]
    walk_at "ex"
    rw [gc_self, ok_ok]; exact ⟨rfl, rfl⟩
  | _ =>
    walk_at "st"
    try rw [gc_self, ok_ok]
    try exact ⟨rfl, rfl⟩
def G_is_thing (c_is_number c_is_thing : List D → Hpp → R D) : S :=
    (sSeq (sIf (mUn (opIsi .tuple) (mVar 0)) (sSeq (sRet (mB bAll (mCons (mLc (srcSeq (mVar 0)) (gVar 1) mYes (mCallV c_is_thing 1 0 [.pos 0] (mCons (mVar 1) mNil) mNil) [1]) mNil)))
    sNil) sNil)
    (sSeq (sRet (mOr (mBin cmpIs (mVar 0) (mC .non)) (mOr (mCallV c_is_number 1 0 [.pos 0] (mCons (mVar 0) mNil) mNil) (mUn (opIsi .str) (mVar 0)))))
    sNil))
mutual
def isTh : D → Bool
  | .non => true
  | .int _ => true
  | .str _ => true
  | .tup l => isThL l
  | _ => false
def isThL : List D → Bool
  | [] => true
  | d :: l => isTh d && isThL l
end
theorem isThL_all : ∀ l : List D, isThL l = l.all isTh
  | [] => rfl
  | d :: l => by simp [isThL, isThL_all l]
def ThingS (k : Nat) (c : CF) : Prop := ∀ d A, d.rl A = true → d.sm = true → d.dp ≤ k → c [d] A = .ok (.bl (isTh d)) A
theorem isthing_ok {c_num c_thing : CF} (hn : NumS c_num) {k : Nat} (hk : ∀ j, j < k → ThingS j c_thing) : ThingS k (run 2 1 (G_is_thing c_num c_thing)) := by
  intro d A hr hs hd
  apply ok_eq
  refine ok_run rfl ?_
  unfold G_is_thing
  cases d with
  | tup l =>
    simp only [D.rl] at hr
    simp only [D.sm, Bool.and_eq_true, decide_eq_true_eq] at hs
    simp only [D.dp] at hd
    walk_at "st"
    walk_at "st"
    rw [src_tup rfl]
    walk_at "ex"
    rw [show (Src.its l).items = l from rfl]
    rw [lc_map (f := fun d => .bl (isTh d)) (fun _ => rfl) l [] (fun d hdl acc => ?_) (by rw [sizeLine_eq]; simp; omega)]
    · walk_at "ex"
      rw [all_at (f := isTh) at_end]
      walk_at "ex"
      rw [gc_pure rfl, ok_ok, isTh, isThL_all]
      exact ⟨rfl, rfl⟩
    · walk_at "ex"
      exact hk (k - 1) (by omega) d _ (rl_app d (rlL_mem hr hdl)) (smL_mem hs.2 hdl) (by have := dpL_mem hdl; omega)
  | ref n =>
    walk_at "st"
    rw [isi_ref hr]
    walk_at "ex"
    walk_at "st"
    rw [hn _ _ hr]
    walk_at "ex"
    simp only [isNum]
    walk_at "ex"
    rw [isi_ref hr]
    walk_at "ex"
    rw [gc_self, ok_ok]; exact ⟨rfl, rfl⟩
  | non =>
    walk_at "st"
    walk_at "st"
    rw [gc_self, ok_ok]; exact ⟨rfl, rfl⟩
  | bl b =>
    walk_at "st"
    walk_at "st"
    rw [hn _ _ rfl]
    walk_at "ex"
    simp only [isNum]
    walk_at "ex"
    rw [gc_self, ok_ok]; exact ⟨rfl, rfl⟩
  | int b =>
    walk_at "st"
    walk_at "st"
    rw [hn _ _ rfl]
    walk_at "ex"
    simp only [isNum]
    walk_at "ex"
    rw [gc_self, ok_ok]; exact ⟨rfl, rfl⟩
  | str b =>
    walk_at "st"
    walk_at "st"
    rw [hn _ _ rfl]
    walk_at "ex"
    simp only [isNum]
    walk_at "ex"
    rw [gc_self, ok_ok]; exact ⟨rfl, rfl⟩
/-! ### labels -/
def G_is_label (c_is_number : List D → Hpp → R D) : S :=
    (sSeq (sRet (mAnd (mUn (opIsi .tuple) (mVar 0)) (mAnd (mBin cmpEq (mB bLen (mCons (mVar 0) mNil)) (mC (.int 2))) (mB bAll (mCons (mLc (srcSeq (mVar 0)) (gVar 1) mYes (mAnd (mCallV c_is_number 1 0 [.pos 0] (mCons (mVar 1) mNil) mNil) (mBin cmpGe (mVar 1) (mC (.int 0)))) [1]) mNil)))))
    sNil)
def nn : D → Bool
  | .int i => decide (0 ≤ i)
  | _ => false
def isLab : D → Bool
  | .tup [a, b] => nn a && nn b
  | _ => false
theorem isLab_tup (l : List D) : isLab (.tup l) = (decide (l.length = 2) && l.all nn) := by
  match l with
  | [] => rfl
  | [_] => rfl
  | [a, b] => simp [isLab]
  | a :: b :: c :: r => simp [isLab]
def LabS (c : CF) : Prop := ∀ d A, d.rl A = true → c [d] A = .ok (.bl (isLab d)) A
theorem islab_ok {c_num : CF} (hn : NumS c_num) : LabS (run 2 1 (G_is_label c_num)) := by
  intro d A hr
  apply ok_eq
  refine ok_run rfl ?_
  unfold G_is_label
  cases d with
  | tup l =>
    simp only [D.rl] at hr
    walk_at "st"
    by_cases h2 : l.length = 2
    · rw [if_pos (by simp [h2])]
      rw [src_tup rfl]
      walk_at "ex"
      rw [show (Src.its l).items = l from rfl]
      rw [lc_map (f := fun d => .bl (nn d)) (fun _ => rfl) l [] (fun d hdl acc => ?_) (by rw [sizeLine_eq]; simp; omega)]
      · walk_at "ex"
        rw [all_at (f := nn) at_end]
        walk_at "ex"
        rw [gc_pure rfl, ok_ok, isLab_tup, h2]
        simp
      · walk_at "ex"
        rw [hn d _ (rl_app d (rlL_mem hr hdl))]
        cases d <;> simp [isNum, nn, R.bind, truth, R.ofO, cmpGe]
    · rw [if_neg (by simp; omega)]
      walk_at "ex"
      rw [gc_self, ok_ok, isLab_tup]
      have e1 : decide ((l.length : Int) = 2) = false := decide_eq_false (by omega)
      have e2 : decide (l.length = 2) = false := decide_eq_false h2
      rw [e1, e2]
      exact ⟨rfl, rfl⟩
  | ref n =>
    walk_at "st"
    rw [isi_ref hr]
    walk_at "ex"
    rw [gc_self, ok_ok]; exact ⟨rfl, rfl⟩
  | _ =>
    walk_at "st"
    try rw [gc_self, ok_ok]
    try exact ⟨rfl, rfl⟩
def G_leaf_label (c_mark_of : List D → Hpp → R D) : S :=
    (sSeq (sRet (mTup (mCons (mCallV c_mark_of 1 1 [.pos 0, .kw 0] (mCons (mVar 0) mNil) (mCons (mVar 1) mNil)) (mCons (mC (.int 1)) mNil))))
    sNil)
def LeafS (k : Nat) (c : CF) : Prop := ∀ d b A, d.th = true → d.dp ≤ k → 0 < b → b ≤ 2 ^ 63 → c [d, .int b] A = .ok (.tup [.int (mark b d), .int 1]) A
theorem leaf_ok {c_mark : CF} {k : Nat} (hm : MarkS k c_mark) : LeafS k (run 2 2 (G_leaf_label c_mark)) := by
  intro d b A ht hd h1 h2
  apply ok_eq
  refine ok_run rfl ?_
  unfold G_leaf_label
  walk_at "st"
  rw [hm d b A ht hd h1 h2]
  walk_at "ex"
  rw [gc_self, ok_ok]; exact ⟨rfl, rfl⟩
def G_forked (c_mark_of : List D → Hpp → R D) : S :=
    (sSeq (sRet (mTup (mCons (mCallV c_mark_of 1 1 [.pos 0, .kw 0] (mCons (mTup (mCons (mVar 0) (mCons (mVar 1) mNil))) mNil) (mCons (mVar 2) mNil)) (mCons (mBin opAdd (mBin opIx (mVar 0) (mC (.int 1))) (mBin opIx (mVar 1) (mC (.int 1)))) mNil))))
    sNil)
def labD (m n : Int) : D := .tup [.int m, .int n]
def ForkS (c : CF) : Prop := ∀ m n m' n' b A, 0 < b → b ≤ 2 ^ 63 → c [labD m n, labD m' n', .int b] A = .ok (labD (mark b (.tup [labD m n, labD m' n'])) (n + n')) A
theorem fork_ok {c_mark : CF} {k : Nat} (hk : 2 ≤ k) (hm : MarkS k c_mark) : ForkS (run 3 3 (G_forked c_mark)) := by
  intro m n m' n' b A h1 h2
  apply ok_eq
  refine ok_run rfl ?_
  unfold G_forked labD
  walk_at "st"
  rw [hm _ b A (by simp [D.th, D.thL, sizeLine_eq]) (by simp [D.dp, D.dpL]; omega) h1 h2]
  walk_at "ex"
  rw [gc_self, ok_ok]; exact ⟨rfl, rfl⟩
/-! ### splits -/
def G_split_of : S :=
    (sSeq (sIf (mBin cmpLt (mVar 0) (mC (.int 2))) (sSeq sBad
    sNil) sNil)
    (sSeq (sAsg (mC (.int 1)) (gVar 1))
    (sSeq (sWhile (mBin cmpLt (mBin opMul (mC (.int 2)) (mVar 1)) (mVar 0)) (sSeq (sAug augMul 1 (mC (.int 2)))
    sNil))
    (sSeq (sRet (mVar 1))
    sNil))))
def G__law_split : S :=
    (sSeq (sAsg (mC (.int 1)) (gVar 1))
    (sSeq (sWhile (mBin cmpLt (mBin opMul (mVar 1) (mC (.int 2))) (mVar 0)) (sSeq (sAsg (mBin opMul (mVar 1) (mC (.int 2))) (gVar 1))
    sNil))
    (sSeq (sRet (mVar 1))
    sNil)))
def splF : Nat → Int → Int → Int
  | 0, f, _ => f
  | k + 1, f, n => if 2 * f < n then splF k (2 * f) n else f
def spl (n : Int) : Int := splF 64 1 n
theorem splF_end {k : Nat} {f n : Int} (h : ¬ 2 * f < n) : splF k f n = f := by
  cases k with
  | zero => rfl
  | succ k => simp only [splF]; rw [if_neg h]
theorem augMul_int {i j : Int} {A : Hpp} (h : CMul i j) : augMul (.int i) (.int j) A = .ok (.int (i * j)) A := if_pos h
def SplitS (c : CF) : Prop := ∀ n A, 2 ≤ n → n < 2 ^ 60 → c [.int n] A = .ok (.int (spl n)) A
theorem split_ok : SplitS (run 2 1 G_split_of) := by
  intro n A h1 h2
  apply ok_eq
  refine ok_run rfl ?_
  unfold G_split_of
  walk_at "st"
  rw [if_neg (by simp; omega)]
  walk_at "ex"
  walk_at "st"
  refine x_seq.mpr ?_
  rw [x_while]
  refine Ok.mono (while_ok (Q := fun o A' => A' = A ∧ o = .nx [some (.int n), some (.int (spl n))]) (fun m L A' => A' = A ∧ ∃ f : Int, L = [some (.int n), some (.int f)] ∧ 1 ≤ f ∧ f < 2 ^ 61 ∧ splF m f n = spl n ∧ n ≤ f * 2 ^ m) ?_ _ 64 _ _ (by decide) ⟨rfl, 1, rfl, by decide, by decide, rfl, by omega⟩) ?_
  · rintro m L A' ⟨rfl, f, rfl, f1, f2, hs, hb⟩
    walk_at "ex"
    rw [opMul_int (cmul_l (by decide) (by decide))]
    walk_at "ex"
    by_cases hc : 2 * f < n
    · rw [if_pos (by simpa using hc)]
      walk_at "st"
      rw [augMul_int (cmul_r (by decide) (by decide))]
      walk_at "ex"
      cases m with
      | zero => simp at hb; omega
      | succ m =>
        simp only [splF] at hs
        rw [if_pos hc] at hs
        refine ⟨m, by omega, f * 2, rfl, by omega, by omega, by rw [Int.mul_comm]; exact hs, ?_⟩
        rw [Int.pow_succ] at hb
        have : f * 2 * 2 ^ m = f * (2 ^ m * 2) := by rw [Int.mul_assoc, Int.mul_comm 2]
        omega
    · rw [if_neg (by simpa using hc)]
      rw [splF_end hc] at hs
      rw [hs]
  · rintro o A' ⟨rfl, rfl⟩
    walk_at "st"
    rw [gc_self, ok_ok]; exact ⟨rfl, rfl⟩
theorem lsplit_ok : SplitS (run 2 1 G__law_split) := by
  intro n A h1 h2
  apply ok_eq
  refine ok_run rfl ?_
  unfold G__law_split
  walk_at "st"
  refine x_seq.mpr ?_
  rw [x_while]
  refine Ok.mono (while_ok (Q := fun o A' => A' = A ∧ o = .nx [some (.int n), some (.int (spl n))]) (fun m L A' => A' = A ∧ ∃ f : Int, L = [some (.int n), some (.int f)] ∧ 1 ≤ f ∧ f < 2 ^ 61 ∧ splF m f n = spl n ∧ n ≤ f * 2 ^ m) ?_ _ 64 _ _ (by decide) ⟨rfl, 1, rfl, by decide, by decide, rfl, by omega⟩) ?_
  · rintro m L A' ⟨rfl, f, rfl, f1, f2, hs, hb⟩
    walk_at "ex"
    rw [opMul_int (cmul_r (by decide) (by decide))]
    walk_at "ex"
    by_cases hc : 2 * f < n
    · rw [if_pos (by simp; omega)]
      walk_at "st"
      rw [opMul_int (cmul_r (by decide) (by decide))]
      walk_at "ex"
      cases m with
      | zero => simp at hb; omega
      | succ m =>
        simp only [splF] at hs
        rw [if_pos hc] at hs
        refine ⟨m, by omega, f * 2, rfl, by omega, by omega, by rw [Int.mul_comm]; exact hs, ?_⟩
        rw [Int.pow_succ] at hb
        have : f * 2 * 2 ^ m = f * (2 ^ m * 2) := by rw [Int.mul_assoc, Int.mul_comm 2]
        omega
    · rw [if_neg (by simp; omega)]
      rw [splF_end hc] at hs
      rw [hs]
  · rintro o A' ⟨rfl, rfl⟩
    walk_at "st"
    rw [gc_self, ok_ok]; exact ⟨rfl, rfl⟩
/-! ### pruned trees -/
inductive Pr where
  | leaf (d : D) | cut (m n : Int) | fork (l r : Pr)
def Pr.d : Pr → D
  | .leaf d => .tup [.str "leaf", d]
  | .cut m n => .tup [.str "cut", labD m n]
  | .fork l r => .tup [.str "fork", l.d, r.d]
def Pr.cnt : Pr → Int
  | .leaf _ => 1
  | .cut _ n => n
  | .fork l r => l.cnt + r.cnt
def Pr.hgt : Pr → Nat
  | .fork l r => max l.hgt r.hgt + 1
  | _ => 0
/-- leaves are things of depth at most j; cuts are labels of at least one -/
def Pr.ok (j : Nat) : Pr → Prop
  | .leaf d => d.th = true ∧ d.pl = true ∧ d.sm = true ∧ d.dp ≤ j
  | .cut m n => 0 ≤ m ∧ 0 < n ∧ m < 2 ^ 50 ∧ n < 2 ^ 50
  | .fork l r => l.ok j ∧ r.ok j
def G_is_pruned (c_is_thing c_is_label c_is_pruned : List D → Hpp → R D) : S :=
    (sSeq (sIf (mOr (mNot (mUn (opIsi .tuple) (mVar 0))) (mOr (mBin cmpLt (mB bLen (mCons (mVar 0) mNil)) (mC (.int 2))) (mNot (mUn (opIsi .str) (mBin opIx (mVar 0) (mC (.int 0))))))) (sSeq (sRet (mC (.bl false)))
    sNil) sNil)
    (sSeq (sAsg (mVar 0) (gStar' 1 0 (tlOf [1, 2])))
    (sSeq (sIf (mBin cmpEq (mVar 1) (mC (.str "fork"))) (sSeq (sRet (mAnd (mBin cmpEq (mB bLen (mCons (mVar 2) mNil)) (mC (.int 2))) (mB bAll (mCons (mLc (srcSeq (mVar 2)) (gVar 3) mYes (mCallV c_is_pruned 1 0 [.pos 0] (mCons (mVar 3) mNil) mNil) [3]) mNil))))
    sNil) sNil)
    (sSeq (sIf (mBin cmpNe (mB bLen (mCons (mVar 2) mNil)) (mC (.int 1))) (sSeq (sRet (mC (.bl false)))
    sNil) sNil)
    (sSeq (sRet (mOr (mAnd (mBin cmpEq (mVar 1) (mC (.str "leaf"))) (mCallV c_is_thing 1 0 [.pos 0] (mCons (mBin opIx (mVar 2) (mC (.int 0))) mNil) mNil)) (mAnd (mBin cmpEq (mVar 1) (mC (.str "cut"))) (mAnd (mCallV c_is_label 1 0 [.pos 0] (mCons (mBin opIx (mVar 2) (mC (.int 0))) mNil) mNil) (mBin cmpGt (mBin opIx (mBin opIx (mVar 2) (mC (.int 0))) (mC (.int 1))) (mC (.int 0)))))))
    sNil)))))
theorem s_ff : (Str.ofString "fork" = Str.ofString "fork") = True := by simp
theorem s_lf : (Str.ofString "leaf" = Str.ofString "fork") = False := by simp; decide +kernel
theorem s_cf : (Str.ofString "cut" = Str.ofString "fork") = False := by simp; decide +kernel
theorem s_cl : (Str.ofString "cut" = Str.ofString "leaf") = False := by simp; decide +kernel
theorem s_lc : (Str.ofString "leaf" = Str.ofString "cut") = False := by simp; decide +kernel
theorem s_fc : (Str.ofString "fork" = Str.ofString "cut") = False := by simp; decide +kernel
theorem s_fl : (Str.ofString "fork" = Str.ofString "leaf") = False := by simp; decide +kernel
mutual
theorem th_isTh : ∀ d : D, d.th = true → isTh d = true
  | .non, _ => rfl
  | .int _, _ => rfl
  | .str _, _ => rfl
  | .tup l, h => by
    simp only [D.th, Bool.and_eq_true] at h
    simp only [isTh]; exact thL_isTh l h.2
  | .bl _, h => by simp [D.th] at h
  | .ref _, h => by simp [D.th] at h
theorem thL_isTh : ∀ l : List D, D.thL l = true → isThL l = true
  | [], _ => rfl
  | d :: l, h => by
    simp only [D.thL, Bool.and_eq_true] at h
    simp only [isThL, th_isTh d h.1, thL_isTh l h.2]; rfl
end
local macro_rules | `(tactic| walk_at "ex") => `(tactic| try simp (decide := true) only [x_ret, x_retN, x_asg, x_if, x_drop, x_nilS, x_for, x_var, x_c, x_un, x_bin, x_test, x_and, x_or, x_not, x_ifE, x_nil, x_cons, x_tup, x_lst, x_b, x_meth, x_oNone, x_oSome, x_slice, x_call, x_gVar, x_gSub, x_range1, x_lc, x_yes, x_rg1, wipeL,
  R.bind_ok, ok_bind, ok_ok, gather, optAll, List.map_cons, List.map_nil, List.getElem?_cons_zero, List.getElem?_cons_succ, List.set_cons_zero, List.set_cons_succ, Option.map_some, List.length_cons, List.length_nil,
  List.nil_append, List.cons_append, List.replicate, Nat.reduceAdd, Nat.reduceSub, and_self, if_true, if_false, true_and, and_true, Nat.reduceEqDiff, truth_bl, ofO_some, reduceCtorEq, decide_true, decide_false, Bool.false_eq_true, Bool.not_true, Bool.not_false, or_self, or_true, true_or, or_false, false_or,
  opAdd_int, opSub_int, cmpLt_int, cmpLe_int, cmpGt_int, cmpGe_int, cmpIs_non, cmpIsNot_non, isi_str, isi_non, isi_int, isi_tup, isi_bl, len_tup, ord_one, sizeLine_eq, Nat.reduceLeDiff, x_bk, x_aug, x_par, tl_nil, tl_cons, x_tlNil, x_tlCons, x_gTup, x_gTupT, x_gStar1, ixt0, ixt1, ixt2, cmpEq_str, cmpNe_str, cmpEq_int, cmpNe_int, s_ff, s_lf, s_cf, s_cl, s_lc, s_fc, s_fl])
local macro_rules | `(tactic| walk_at "st") => `(tactic| (refine x_seq.mpr ?_; walk_at "ex"))
def PrS (j k : Nat) (c : CF) : Prop := ∀ p : Pr, p.ok j → p.hgt ≤ k → ∀ A, c [p.d] A = .ok (.bl true) A
theorem ispruned_ok {c_thing c_lab c_pr : CF} {j : Nat} (ht : ThingS j c_thing) (hl : LabS c_lab) {k : Nat} (hk : ∀ i, i < k → PrS j i c_pr) : PrS j k (run 4 1 (G_is_pruned c_thing c_lab c_pr)) := by
  intro p hp hh A
  apply ok_eq
  refine ok_run rfl ?_
  unfold G_is_pruned
  cases p with
  | leaf d =>
    obtain ⟨h1, h2, h3, h4⟩ := hp
    simp only [Pr.d]
    walk_at "st"
    walk_at "st"
    walk_at "st"
    walk_at "st"
    rw [len_lst at_end]
    walk_at "ex"
    walk_at "st"
    rw [ixl0 at_end]
    walk_at "ex"
    rw [ht d _ (rl_low d (pl_low d h2)) h3 h4, th_isTh d h1]
    walk_at "ex"
    rw [gc_pure rfl, ok_ok]; exact ⟨rfl, rfl⟩
  | cut m n =>
    obtain ⟨h1, h2, h3, h4⟩ := hp
    simp only [Pr.d]
    walk_at "st"
    walk_at "st"
    walk_at "st"
    walk_at "st"
    rw [len_lst at_end]
    walk_at "ex"
    walk_at "st"
    rw [ixl0 at_end]
    walk_at "ex"
    rw [hl _ _ rfl]
    have : isLab (labD m n) = true := by simp [isLab, labD, nn]; omega
    rw [this]
    walk_at "ex"
    rw [ixl0 at_end]
    unfold labD
    walk_at "ex"
    rw [gc_pure rfl, ok_ok]
    exact ⟨by simp [h2], rfl⟩
  | fork l r =>
    obtain ⟨h1, h2⟩ := hp
    simp only [Pr.hgt] at hh
    simp only [Pr.d]
    walk_at "st"
    walk_at "st"
    walk_at "st"
    walk_at "st"
    rw [len_lst at_end]
    walk_at "ex"
    rw [src_lst rfl at_end]
    walk_at "ex"
    rw [show (Src.lst A.length [l.d, r.d]).items = [l.d, r.d] from rfl]
    rw [lc_two (A := A ++ [HOb.lst [l.d, r.d]]) (u := .bl true) (w := .bl true) (fun acc => by simp [Src.still]) (fun acc => ?_) (fun acc => ?_)]
    · walk_at "ex"
      rw [all_bl at_end (show boolsD [.bl true, .bl true] = some [true, true] from rfl)]
      walk_at "ex"
      rw [List.append_assoc, gc_pure rfl, ok_ok]
      exact ⟨rfl, rfl⟩
    · walk_at "ex"
      exact hk (k - 1) (by omega) l h1 (by omega) _
    · walk_at "ex"
      exact hk (k - 1) (by omega) r h2 (by omega) _
/-! ### counts -/
def G_leaf_count (c_leaf_count : List D → Hpp → R D) : S :=
    (sSeq (sAsg (mVar 0) (gStar' 1 0 (tlOf [1, 2])))
    (sSeq (sIf (mBin cmpEq (mVar 1) (mC (.str "fork"))) (sSeq (sRet (mBK bSumK (mCons (mLc (srcSeq (mVar 2)) (gVar 3) mYes (mCallV c_leaf_count 1 0 [.pos 0] (mCons (mVar 3) mNil) mNil) [3]) mNil) (mCons (mC (.int 0)) mNil)))
    sNil) sNil)
    (sSeq (sRet (mIf (mBin cmpEq (mVar 1) (mC (.str "leaf"))) (mC (.int 1)) (mBin opIx (mBin opIx (mVar 2) (mC (.int 0))) (mC (.int 1)))))
    sNil)))
def CntS (j k : Nat) (c : CF) : Prop := ∀ p : Pr, p.ok j → p.hgt ≤ k → ∀ A, c [p.d] A = .ok (.int p.cnt) A
theorem sum_at {A : Hpp} {n : Nat} {l : List D} {is : List Int} (h : A[n]? = some (.lst l)) (hi : intsD l = some is) : bSumK [.ref n] [.int 0] A = .ok (.int is.sum) A := by
  simp [bSumK, h, hi]
theorem cnt_ok {c_cnt : CF} {j k : Nat} (hk : ∀ i, i < k → CntS j i c_cnt) : CntS j k (run 4 1 (G_leaf_count c_cnt)) := by
  intro p hp hh A
  apply ok_eq
  refine ok_run rfl ?_
  unfold G_leaf_count
  cases p with
  | leaf d =>
    simp only [Pr.d]
    walk_at "st"
    walk_at "st"
    walk_at "st"
    rw [gc_pure rfl, ok_ok]; exact ⟨rfl, rfl⟩
  | cut m n =>
    simp only [Pr.d]
    walk_at "st"
    walk_at "st"
    walk_at "st"
    rw [ixl0 at_end]
    unfold labD
    walk_at "ex"
    rw [gc_pure rfl, ok_ok]; exact ⟨rfl, rfl⟩
  | fork l r =>
    obtain ⟨h1, h2⟩ := hp
    simp only [Pr.hgt] at hh
    simp only [Pr.d]
    walk_at "st"
    walk_at "st"
    walk_at "st"
    rw [src_lst rfl at_end]
    walk_at "ex"
    rw [show (Src.lst A.length [l.d, r.d]).items = [l.d, r.d] from rfl]
    rw [lc_two (A := A ++ [HOb.lst [l.d, r.d]]) (u := .int l.cnt) (w := .int r.cnt) (fun acc => by simp [Src.still]) (fun acc => ?_) (fun acc => ?_)]
    · walk_at "ex"
      rw [sum_at at_end (show intsD [.int l.cnt, .int r.cnt] = some [l.cnt, r.cnt] from rfl)]
      walk_at "ex"
      rw [List.append_assoc, gc_pure rfl, ok_ok]
      simp [Pr.cnt]
    · walk_at "ex"
      exact hk (k - 1) (by omega) l h1 (by omega) _
    · walk_at "ex"
      exact hk (k - 1) (by omega) r h2 (by omega) _
/-! ### shapes -/
def G_wrong_fork (c_wrong_fork c_leaf_count c_split_of : List D → Hpp → R D) : S :=
    (sSeq (sIf (mBin cmpNe (mBin opIx (mVar 0) (mC (.int 0))) (mC (.str "fork"))) (sSeq (sRet (mC .non))
    sNil) sNil)
    (sSeq (sAsg (mSlice (mVar 0) (oSome (mC (.int 1))) oNone) (gTup' (tlOf [2, 3])))
    (sSeq (sIf (mBin cmpNe (mCallV c_leaf_count 1 0 [.pos 0] (mCons (mVar 2) mNil) mNil) (mCallV c_split_of 1 0 [.pos 0] (mCons (mCallV c_leaf_count 1 0 [.pos 0] (mCons (mVar 0) mNil) mNil) mNil) mNil)) (sSeq (sRet (mVar 1))
    sNil) sNil)
    (sSeq (sAsg (mCallV c_wrong_fork 2 0 [.pos 0, .pos 1] (mCons (mVar 2) (mCons (mBin opAdd (mVar 1) (mTup (mCons (mC (.int 0)) mNil))) mNil)) mNil) (gVar 4))
    (sSeq (sRet (mIf (mBin cmpIs (mVar 4) (mC .non)) (mCallV c_wrong_fork 2 0 [.pos 0, .pos 1] (mCons (mVar 3) (mCons (mBin opAdd (mVar 1) (mTup (mCons (mC (.int 1)) mNil))) mNil)) mNil) (mVar 4)))
    sNil)))))
def G_has_right_shape (c_wrong_fork : List D → Hpp → R D) : S :=
    (sSeq (sRet (mBin cmpIs (mCallV c_wrong_fork 2 0 [.pos 0, .pos 1] (mCons (mVar 0) (mCons (mTup mNil) mNil)) mNil) (mC .non)))
    sNil)
def Pr.shape : Pr → Bool
  | .fork l r => decide (l.cnt = spl (l.cnt + r.cnt)) && l.shape && r.shape
  | _ => true
theorem cnt_pos {j : Nat} : ∀ {p : Pr}, p.ok j → 1 ≤ p.cnt
  | .leaf _, _ => by simp [Pr.cnt]
  | .cut _ _, h => by simp only [Pr.cnt]; obtain ⟨_, h, _⟩ := h; omega
  | .fork l r, h => by simp only [Pr.cnt]; have := cnt_pos h.1; have := cnt_pos h.2; omega
/-- not too many leaves -/
def Pr.few (p : Pr) : Prop := p.cnt < 2 ^ 58
theorem cut1 {a b c : D} : cutD [a, b, c] (some 1) none = [b, c] := by
  simp only [cutD, List.length_cons, List.length_nil]; rfl
def WrongS (j k : Nat) (c : CF) : Prop := ∀ p : Pr, p.ok j → p.few → p.hgt ≤ k → ∀ w : List D, w.length + p.hgt < 1000 → D.lowL 0 w = true → ∀ A, ∃ d, c [p.d, .tup w] A = .ok d A ∧ d.low 0 = true ∧ (d = .non ↔ p.shape = true)
theorem wrong_ok {c_wrong c_cnt c_split : CF} {j m : Nat} (hc : CntS j m c_cnt) (hs : SplitS c_split) {k : Nat} (hkm : k ≤ m) (hk : ∀ i, i < k → WrongS j i c_wrong) : WrongS j k (run 5 2 (G_wrong_fork c_wrong c_cnt c_split)) := by
  intro p hp hf hh w hw hlw A
  have key : Ok (run 5 2 (G_wrong_fork c_wrong c_cnt c_split) [p.d, .tup w] A) fun d A' => A' = A ∧ d.low 0 = true ∧ (d = .non ↔ p.shape = true) := by
    refine ok_run rfl ?_
    unfold G_wrong_fork
    cases p with
    | leaf d =>
      simp only [Pr.d]
      walk_at "st"
      walk_at "st"
      rw [gc_self, ok_ok]
      exact ⟨rfl, rfl, by simp [Pr.shape]⟩
    | cut a b =>
      simp only [Pr.d]
      walk_at "st"
      walk_at "st"
      rw [gc_self, ok_ok]
      exact ⟨rfl, rfl, by simp [Pr.shape]⟩
    | fork l r =>
      have hp' := hp
      obtain ⟨h1, h2⟩ := hp
      have hh' := hh
      simp only [Pr.hgt] at hh hw
      have c1 := cnt_pos h1
      have c2 := cnt_pos h2
      have hf' : l.cnt + r.cnt < 2 ^ 58 := hf
      have e1 : ∀ A, c_cnt [.tup [.str "fork", l.d, r.d]] A = .ok (.int (l.cnt + r.cnt)) A := fun A => hc (.fork l r) hp' (Nat.le_trans hh' hkm) A
      simp only [Pr.d]
      walk_at "st"
      walk_at "st"
      simp only [opSl]
      walk_at "ex"
      rw [cut1]
      walk_at "ex"
      walk_at "st"
      rw [hc l h1 (by omega) A]
      walk_at "ex"
      rw [e1]
      walk_at "ex"
      rw [hs _ A (by omega) (by omega)]
      walk_at "ex"
      by_cases hsp : l.cnt = spl (l.cnt + r.cnt)
      · rw [if_neg (by simpa using hsp)]
        walk_at "ex"
        walk_at "st"
        rw [add_tup (by rw [sizeLine_eq]; simp; omega)]
        walk_at "ex"
        obtain ⟨d1, e2, hd1, hd2⟩ := hk (k - 1) (by omega) l h1 (by unfold Pr.few; omega) (by omega) (w ++ [.int 0]) (by simp; omega) (lowL_app hlw rfl) A
        rw [e2]
        walk_at "ex"
        walk_at "st"
        by_cases hn : d1 = .non
        · subst hn
          walk_at "ex"
          rw [add_tup (by rw [sizeLine_eq]; simp; omega)]
          walk_at "ex"
          obtain ⟨d2, e3, hd3, hd4⟩ := hk (k - 1) (by omega) r h2 (by unfold Pr.few; omega) (by omega) (w ++ [.int 1]) (by simp; omega) (lowL_app hlw rfl) A
          rw [e3]
          walk_at "ex"
          rw [gc_self, ok_ok]
          refine ⟨rfl, hd3, ?_⟩
          rw [hd4]
          simp [Pr.shape, ← hsp, hd2.mp rfl]
        · rw [if_neg (by simpa using hn)]
          walk_at "ex"
          rw [gc_self, ok_ok]
          refine ⟨rfl, hd1, ?_⟩
          have : l.shape = false := by
            cases e : l.shape with
            | false => rfl
            | true => exact absurd (hd2.mpr e) hn
          simp [Pr.shape, this, hn]
      · rw [if_pos (by simpa using hsp)]
        walk_at "st"
        rw [gc_self, ok_ok]
        refine ⟨rfl, hlw, ?_⟩
        simp [Pr.shape, hsp]
  obtain ⟨d, A', e, rfl, h1, h2⟩ := key
  exact ⟨d, e, h1, h2⟩
def ShapeS (j k : Nat) (c : CF) : Prop := ∀ p : Pr, p.ok j → p.few → p.hgt ≤ k → ∀ A, c [p.d] A = .ok (.bl p.shape) A
theorem shape_ok {c_wrong : CF} {j k : Nat} (hk : k < 1000) (hw : WrongS j k c_wrong) : ShapeS j k (run 1 1 (G_has_right_shape c_wrong)) := by
  intro p hp hf hh A
  apply ok_eq
  refine ok_run rfl ?_
  unfold G_has_right_shape
  walk_at "st"
  obtain ⟨d, e, h1, h2⟩ := hw p hp hf hh [] (by simp; omega) rfl A
  rw [e]
  walk_at "ex"
  rw [gc_self, ok_ok]
  refine ⟨?_, rfl⟩
  cases hs : p.shape with
  | true => rw [h2.mpr hs]; rfl
  | false =>
    have : d ≠ .non := fun z => by rw [h2.mp z] at hs; cases hs
    simp [this]
/-! ### folded labels -/
def G_folded_label (c_leaf_label c_forked c_folded_label : List D → Hpp → R D) : S :=
    (sSeq (sAsg (mVar 0) (gStar' 1 0 (tlOf [2, 3])))
    (sSeq (sIf (mBin cmpEq (mVar 2) (mC (.str "fork"))) (sSeq (sAsg (mLc (srcSeq (mVar 3)) (gVar 6) mYes (mCallV c_folded_label 1 1 [.pos 0, .kw 0] (mCons (mVar 6) mNil) (mCons (mVar 1) mNil)) [6]) (gTup' (tlOf [4, 5])))
    (sSeq (sRet (mCallV c_forked 2 1 [.pos 0, .pos 1, .kw 0] (mCons (mVar 4) (mCons (mVar 5) mNil)) (mCons (mVar 1) mNil)))
    sNil)) sNil)
    (sSeq (sRet (mIf (mBin cmpEq (mVar 2) (mC (.str "leaf"))) (mCallV c_leaf_label 1 1 [.pos 0, .kw 0] (mCons (mBin opIx (mVar 3) (mC (.int 0))) mNil) (mCons (mVar 1) mNil)) (mBin opIx (mVar 3) (mC (.int 0)))))
    sNil)))
/-- a tree's label -/
def Pr.lab (b : Int) : Pr → Int × Int
  | .leaf d => (mark b d, 1)
  | .cut m n => (m, n)
  | .fork l r => (mark b (.tup [labD (l.lab b).1 (l.lab b).2, labD (r.lab b).1 (r.lab b).2]), (l.lab b).2 + (r.lab b).2)
theorem lab_cnt {b : Int} : ∀ p : Pr, (p.lab b).2 = p.cnt
  | .leaf _ => rfl
  | .cut _ _ => rfl
  | .fork l r => by simp only [Pr.lab, Pr.cnt, lab_cnt l, lab_cnt r]
def FoldS (j k : Nat) (c : CF) : Prop := ∀ p : Pr, p.ok j → p.hgt ≤ k → ∀ b A, 0 < b → b ≤ 2 ^ 63 → c [p.d, .int b] A = .ok (labD (p.lab b).1 (p.lab b).2) A
theorem fold_ok {c_leaf c_fork c_fold : CF} {j : Nat} (hl : LeafS j c_leaf) (hf : ForkS c_fork) {k : Nat} (hk : ∀ i, i < k → FoldS j i c_fold) : FoldS j k (run 7 2 (G_folded_label c_leaf c_fork c_fold)) := by
  intro p hp hh b A hb hb2
  apply ok_eq
  refine ok_run rfl ?_
  unfold G_folded_label
  cases p with
  | leaf d =>
    obtain ⟨h1, h2, h3, h4⟩ := hp
    simp only [Pr.d]
    walk_at "st"
    walk_at "st"
    walk_at "st"
    rw [ixl0 at_end]
    walk_at "ex"
    rw [hl d b _ h1 h4 hb hb2]
    walk_at "ex"
    rw [gc_pure rfl, ok_ok]; exact ⟨rfl, rfl⟩
  | cut m n =>
    simp only [Pr.d]
    walk_at "st"
    walk_at "st"
    walk_at "st"
    rw [ixl0 at_end]
    walk_at "ex"
    rw [gc_pure rfl, ok_ok]; exact ⟨rfl, rfl⟩
  | fork l r =>
    obtain ⟨h1, h2⟩ := hp
    simp only [Pr.hgt] at hh
    simp only [Pr.d]
    walk_at "st"
    walk_at "st"
    walk_at "st"
    rw [src_lst rfl at_end]
    walk_at "ex"
    rw [show (Src.lst A.length [l.d, r.d]).items = [l.d, r.d] from rfl]
    rw [lc_two (A := A ++ [HOb.lst [l.d, r.d]]) (u := labD (l.lab b).1 (l.lab b).2) (w := labD (r.lab b).1 (r.lab b).2) (fun acc => by simp [Src.still]) (fun acc => ?_) (fun acc => ?_)]
    · walk_at "ex"
      rw [x_gTupL at_end]
      walk_at "ex"
      walk_at "st"
      rw [hf _ _ _ _ b _ hb hb2]
      walk_at "ex"
      rw [List.append_assoc, gc_pure rfl, ok_ok]
      exact ⟨rfl, rfl⟩
    · walk_at "ex"
      exact hk (k - 1) (by omega) l h1 (by omega) b _ hb hb2
    · walk_at "ex"
      exact hk (k - 1) (by omega) r h2 (by omega) b _ hb hb2
/-! ### shown leaves -/
def G_shown_from (c_shown_from c_leaf_count : List D → Hpp → R D) : S :=
    (sSeq (sIf (mBin cmpEq (mBin opIx (mVar 0) (mC (.int 0))) (mC (.str "cut"))) (sSeq (sRet (mTup mNil))
    sNil) sNil)
    (sSeq (sIf (mBin cmpEq (mBin opIx (mVar 0) (mC (.int 0))) (mC (.str "leaf"))) (sSeq (sRet (mTup (mCons (mTup (mCons (mVar 1) (mCons (mBin opIx (mVar 0) (mC (.int 1))) mNil))) mNil)))
    sNil) sNil)
    (sSeq (sAsg (mSlice (mVar 0) (oSome (mC (.int 1))) oNone) (gTup' (tlOf [2, 3])))
    (sSeq (sRet (mBin opAdd (mCallV c_shown_from 2 0 [.pos 0, .pos 1] (mCons (mVar 2) (mCons (mVar 1) mNil)) mNil) (mCallV c_shown_from 2 0 [.pos 0, .pos 1] (mCons (mVar 3) (mCons (mBin opAdd (mVar 1) (mCallV c_leaf_count 1 0 [.pos 0] (mCons (mVar 2) mNil) mNil)) mNil)) mNil)))
    sNil))))
def G_shown_leaves (c_shown_from : List D → Hpp → R D) : S :=
    (sSeq (sRet (mCallV c_shown_from 2 0 [.pos 0, .pos 1] (mCons (mVar 0) (mCons (mC (.int 0)) mNil)) mNil))
    sNil)
/-- a leaf shown: its number, the leaf -/
def prD (q : Int × D) : D := .tup [.int q.1, q.2]
def Pr.shw : Pr → Int → List (Int × D)
  | .leaf d, i => [(i, d)]
  | .cut _ _, _ => []
  | .fork l r, i => l.shw i ++ r.shw (i + l.cnt)
theorem shw_len : ∀ (p : Pr) (i : Int), (p.shw i).length ≤ 2 ^ p.hgt
  | .leaf _, _ => by simp [Pr.shw, Pr.hgt]
  | .cut _ _, _ => by simp [Pr.shw, Pr.hgt]
  | .fork l r, i => by
    simp only [Pr.shw, Pr.hgt, List.length_append]
    have h1 := shw_len l i
    have h2 := shw_len r (i + l.cnt)
    have a1 : 2 ^ l.hgt ≤ 2 ^ (max l.hgt r.hgt) := Nat.pow_le_pow_right (by decide) (Nat.le_max_left _ _)
    have a2 : 2 ^ r.hgt ≤ 2 ^ (max l.hgt r.hgt) := Nat.pow_le_pow_right (by decide) (Nat.le_max_right _ _)
    have a3 : 2 ^ (max l.hgt r.hgt + 1) = 2 * 2 ^ (max l.hgt r.hgt) := by rw [Nat.pow_succ]; omega
    omega
def ShowS (j k : Nat) (c : CF) : Prop := ∀ p : Pr, p.ok j → p.hgt ≤ k → ∀ i A, c [p.d, .int i] A = .ok (.tup ((p.shw i).map prD)) A
theorem show_ok {c_show c_cnt : CF} {j m : Nat} (hc : CntS j m c_cnt) {k : Nat} (hkm : k ≤ m) (h20 : k ≤ 20) (hk : ∀ i, i < k → ShowS j i c_show) : ShowS j k (run 4 2 (G_shown_from c_show c_cnt)) := by
  intro p hp hh i A
  apply ok_eq
  refine ok_run rfl ?_
  unfold G_shown_from
  cases p with
  | leaf d =>
    simp only [Pr.d]
    walk_at "st"
    walk_at "st"
    walk_at "st"
    rw [gc_self, ok_ok]; exact ⟨rfl, rfl⟩
  | cut m n =>
    simp only [Pr.d]
    walk_at "st"
    walk_at "st"
    rw [gc_self, ok_ok]; exact ⟨rfl, rfl⟩
  | fork l r =>
    obtain ⟨h1, h2⟩ := hp
    simp only [Pr.hgt] at hh
    simp only [Pr.d]
    walk_at "st"
    walk_at "st"
    walk_at "st"
    simp only [opSl]
    walk_at "ex"
    rw [cut1]
    walk_at "ex"
    walk_at "st"
    rw [hk (k - 1) (by omega) l h1 (by omega) i A]
    walk_at "ex"
    rw [hc l h1 (by omega) A]
    walk_at "ex"
    rw [hk (k - 1) (by omega) r h2 (by omega) _ A]
    walk_at "ex"
    have s1 := shw_len l i
    have s2 := shw_len r (i + l.cnt)
    have a1 : 2 ^ l.hgt ≤ 2 ^ 20 := Nat.pow_le_pow_right (by decide) (by omega)
    have a2 : 2 ^ r.hgt ≤ 2 ^ 20 := Nat.pow_le_pow_right (by decide) (by omega)
    rw [add_tup (by rw [sizeLine_eq]; simp; omega)]
    walk_at "ex"
    rw [gc_self, ok_ok]
    simp [Pr.shw]
def ShownS (j k : Nat) (c : CF) : Prop := ∀ p : Pr, p.ok j → p.hgt ≤ k → ∀ A, c [p.d] A = .ok (.tup ((p.shw 0).map prD)) A
theorem shown_ok {c_show : CF} {j k : Nat} (h : ShowS j k c_show) : ShownS j k (run 1 1 (G_shown_leaves c_show)) := by
  intro p hp hh A
  apply ok_eq
  refine ok_run rfl ?_
  unfold G_shown_leaves
  walk_at "st"
  rw [h p hp hh 0 A]
  walk_at "ex"
  rw [gc_self, ok_ok]; exact ⟨rfl, rfl⟩
end Rf
namespace Rf
open PySem PySem.Spec L2
local macro_rules | `(tactic| walk_at "ex") => `(tactic| try simp only [x_ret, x_retN, x_asg, x_if, x_drop, x_nilS, x_for, x_var, x_c, x_un, x_bin, x_test, x_and, x_or, x_not, x_ifE, x_nil, x_cons, x_tup, x_lst, x_b, x_meth, x_oNone, x_oSome, x_slice, x_call, x_gVar, x_gSub, x_range1, x_lc, x_yes, x_rg1, wipeL,
  R.bind_ok, ok_bind, ok_ok, gather, optAll, List.map_cons, List.map_nil, List.getElem?_cons_zero, List.getElem?_cons_succ, List.set_cons_zero, List.set_cons_succ, Option.map_some, List.length_cons, List.length_nil,
  List.nil_append, List.cons_append, List.replicate, Nat.reduceAdd, Nat.reduceSub, and_self, if_true, if_false, true_and, and_true, Nat.reduceEqDiff, truth_bl, ofO_some, reduceCtorEq, decide_true, decide_false, Bool.false_eq_true, Bool.not_true, Bool.not_false, or_self, or_true, true_or, or_false, false_or,
  opAdd_int, opSub_int, cmpLt_int, cmpLe_int, cmpGt_int, cmpGe_int, cmpIs_non, cmpIsNot_non, isi_str, isi_non, isi_int, isi_tup, isi_bl, len_tup, ord_one, sizeLine_eq, Nat.reduceLeDiff])
local macro_rules | `(tactic| walk_at "st") => `(tactic| (refine x_seq.mpr ?_; walk_at "ex"))
def G__law_thing (c__law_take c__law_thing : List D → Hpp → R D) : S :=
    (sSeq (sAsg (mCallV c__law_take 2 0 [.pos 0, .pos 1] (mCons (mVar 0) (mCons (mC (.int 9)) mNil)) mNil) (gVar 2))
    (sSeq (sIf (mAnd (mBin cmpGt (mVar 2) (mC (.int 5))) (mBin cmpGt (mVar 1) (mC (.int 0)))) (sSeq (sRet (mB bTuple (mCons (mLc (srcRange1 (mCallV c__law_take 2 0 [.pos 0, .pos 1] (mCons (mVar 0) (mCons (mC (.int 4)) mNil)) mNil)) (gVar 4) mYes (mCallV c__law_thing 2 0 [.pos 0, .pos 1] (mCons (mVar 0) (mCons (mBin opSub (mVar 1) (mC (.int 1))) mNil)) mNil) [4]) mNil)))
    sNil) sNil)
    (sSeq (sIf (mBin cmpGt (mVar 2) (mC (.int 2))) (sSeq (sRet (mBin opSub (mCallV c__law_take 2 0 [.pos 0, .pos 1] (mCons (mVar 0) (mCons (mC (.int 2000)) mNil)) mNil) (mC (.int 999))))
    sNil) sNil)
    (sSeq (sAsg (mLst (mCons (mC .non) (mCons (mC (.str "")) (mCons (mC (.str "a")) (mCons (mC (.str "b")) (mCons (mC (.str "ab")) (mCons (mC (.str "ba")) (mCons (mC (.str "row 9")) (mCons (mC (.str "~!")) (mCons (mC (.str "leaf")) mNil)))))))))) (gVar 3))
    (sSeq (sRet (mBin opIx (mVar 3) (mCallV c__law_take 2 0 [.pos 0, .pos 1] (mCons (mVar 0) (mCons (mC (.int 9)) mNil)) mNil)))
    sNil)))))
def G__law_base (c__law_take : List D → Hpp → R D) : S :=
    (sSeq (sRet (mBin opIx (mLst (mCons (mC (.int 1000003)) (mCons (mC (.int 2)) (mCons (mC (.int 10)) (mCons (mC (.int 3)) (mCons (mC (.int 97)) (mCons (mBin opPow (mC (.int 10)) (mC (.int 9))) (mCons (mBin opAdd (mC (.int 2)) (mCallV c__law_take 2 0 [.pos 0, .pos 1] (mCons (mVar 0) (mCons (mC (.int 50)) mNil)) mNil)) mNil)))))))) (mCallV c__law_take 2 0 [.pos 0, .pos 1] (mCons (mVar 0) (mCons (mC (.int 7)) mNil)) mNil)))
    sNil)
structure Tg (j : Nat) (d : D) : Prop where
  th : d.th = true
  pl : d.pl = true
  dp : d.dp ≤ j
  wt : d.wt + 1 ≤ 20 * 4 ^ j
def TN : Nat → Nat
  | 0 => 2
  | j + 1 => 2 + 3 * TN j
theorem tgd_int {j : Nat} {i : Int} (h1 : -1000 < i) (h2 : i < 1100) : Tg j (.int i) := by
  have hp : 20 * 1 ≤ 20 * 4 ^ j := Nat.mul_le_mul_left _ (Nat.one_le_pow _ _ (by decide))
  refine ⟨rfl, ?_, Nat.zero_le _, ?_⟩
  · simp only [D.pl, decide_eq_true_eq]
    have : i.natAbs < 2 ^ 11 := by omega
    exact Nat.lt_of_lt_of_le this (Nat.pow_le_pow_right (by decide) (by decide))
  · simp only [D.wt]
    rcases Nat.eq_zero_or_pos i.natAbs with z | z
    · rw [z]; have : Nat.log2 0 = 0 := by decide
      omega
    · have : i.natAbs.log2 < 11 := (Nat.log2_lt (by omega)).mpr (by omega)
      omega
theorem tgd_mem {j : Nat} : ∀ {l : List D}, (∀ d ∈ l, Tg j d) → D.thL l = true ∧ D.plL l = true ∧ D.dpL l ≤ j ∧ D.wtL l ≤ l.length * (20 * 4 ^ j)
  | [], _ => ⟨rfl, rfl, Nat.zero_le _, Nat.zero_le _⟩
  | d :: l, h => by
    obtain ⟨a, b, c, e⟩ := tgd_mem (l := l) fun x hx => h x (List.mem_cons_of_mem _ hx)
    have hd := h d (List.mem_cons_self ..)
    refine ⟨by simp [D.thL, hd.th, a], by simp [D.plL, hd.pl, b], ?_, ?_⟩
    · simp only [D.dpL]; exact Nat.max_le.mpr ⟨hd.dp, c⟩
    · simp only [D.wtL, List.length_cons]
      have := hd.wt
      generalize 20 * 4 ^ j = z at *
      have : (l.length + 1) * z = l.length * z + z := Nat.succ_mul ..
      omega
theorem tgd_tup {j : Nat} {l : List D} (h : ∀ d ∈ l, Tg j d) (hl : l.length ≤ 3) : Tg (j + 1) (.tup l) := by
  obtain ⟨a, b, c, e⟩ := tgd_mem h
  have hp : 20 * 1 ≤ 20 * 4 ^ j := Nat.mul_le_mul_left _ (Nat.one_le_pow _ _ (by decide))
  have m3 : l.length * (20 * 4 ^ j) ≤ 3 * (20 * 4 ^ j) := Nat.mul_le_mul_right _ hl
  have p4 : 20 * 4 ^ (j + 1) = 4 * (20 * 4 ^ j) := by rw [Nat.pow_succ]; omega
  refine ⟨?_, b, by simp only [D.dp]; omega, by simp only [D.wt]; omega⟩
  simp only [D.th, a, Bool.and_true, decide_eq_true_eq, sizeLine_eq]
  omega
def ThS (j : Nat) (f : CF) : Prop := ∀ B t c n A, TapAt B t c → Tp B t c n A → n + TN j < 1000000 → Ok (f [.ref t, .int j] A) fun d A' => Tp B t c (n + TN j) A' ∧ Tg j d
theorem tgd_texts {j : Nat} : ∀ d ∈ [D.non, .str "", .str "a", .str "b", .str "ab", .str "ba", .str "row 9", .str "~!", .str "leaf"], Tg j d := by
  have hp : 20 * 1 ≤ 20 * 4 ^ j := Nat.mul_le_mul_left _ (Nat.one_le_pow _ _ (by decide))
  have key : ([D.non, .str "", .str "a", .str "b", .str "ab", .str "ba", .str "row 9", .str "~!", .str "leaf"].all fun d => d.th && d.pl && decide (d.dp = 0) && decide (d.wt ≤ 19)) = true := by decide +kernel
  intro d hd
  have := List.all_eq_true.mp key d hd
  simp only [Bool.and_eq_true, decide_eq_true_eq] at this
  obtain ⟨⟨⟨a, b⟩, c⟩, e⟩ := this
  exact ⟨a, b, by omega, by omega⟩
theorem thing_ok {c_take c_thing : CF} (ht : TakeS c_take) : ∀ j : Nat, (∀ i, i < j → ThS i c_thing) → ThS j (run 5 2 (G__law_thing c_take c_thing)) := by
  intro j hj B t c n A T h hN
  have tn : 2 ≤ TN j := by cases j <;> simp [TN]
  refine ok_run rfl ?_
  unfold G__law_thing
  refine x_seq.mpr ?_
  walk_at "ex"
  refine Ok.mono (ht B t c n A 9 T h (by omega) (by decide) (by decide)) ?_
  rintro _ A1 ⟨w, rfl, w1, w2, h1⟩
  walk_at "ex"
  walk_at "st"
  by_cases hw : 5 < w ∧ 0 < (j : Int)
  · obtain ⟨hw1, hw2⟩ := hw
    obtain ⟨i, rfl⟩ : ∃ i, j = i + 1 := ⟨j - 1, by omega⟩
    simp only [TN] at hN
    rw [if_pos (by simpa using hw1)]
    walk_at "ex"
    rw [if_pos (by simpa using hw2)]
    walk_at "st"
    refine Ok.mono (ht B t c _ A1 4 T h1 (by omega) (by decide) (by decide)) ?_
    rintro _ A2 ⟨u, rfl, u1, u2, h2⟩
    walk_at "ex"
    rw [if_pos (by unfold okEnd; omega)]
    walk_at "ex"
    rw [tp_len h2]
    refine Ok.mono (lc_tap (P := Tg i) (m := TN i) (N := n + 2 + 3 * TN i) T (fun d hd => pl_low d hd.pl) ?_ (rangeD 0 u.toNat) [] (n + 2) A2 h2 ?_ (by simp) ?_) ?_
    · intro B n A k T h hn
      walk_at "ex"
      have := hj i (by omega) B t c n A T h (by omega)
      have e : ((i + 1 : Nat) : Int) - 1 = (i : Int) := by omega
      rw [e]
      exact this
    · rw [range_len]
      have : TN i * u.toNat ≤ TN i * 3 := Nat.mul_le_mul_left _ (by omega)
      omega
    · rw [range_len, sizeLine_eq]; simp; omega
    · rintro _ A3 ⟨A4, acc, rfl, h4, ha, hl⟩
      walk_at "ex"
      have eg : (A4 ++ [HOb.lst acc])[B.length]? = some (.lst acc) := by rw [← tp_len h4]; simp
      simp only [bTuple, eg]
      walk_at "ex"
      have tg := tgd_tup ha (by rw [hl, range_len]; simp; omega)
      rw [tp_gc T h h4 (pl_low _ tg.pl), ok_ok]
      refine ⟨h4.mono ?_, tg⟩
      rw [range_len]
      have : TN i * u.toNat ≤ TN i * 3 := Nat.mul_le_mul_left _ (by omega)
      simp only [TN]; omega
  · have cond : Ok (if decide (5 < w) = true then R.ok (D.bl (decide (0 < (j : Int)))) A1 else R.ok (D.bl (decide (5 < w))) A1) fun a A => a = .bl false ∧ A = A1 := by
      by_cases q : 5 < w
      · rw [if_pos (by simpa using q), ok_ok]
        refine ⟨?_, rfl⟩
        rw [decide_eq_false]
        intro z; exact hw ⟨q, z⟩
      · rw [if_neg (by simpa using q), ok_ok, decide_eq_false q]
        exact ⟨rfl, rfl⟩
    refine Ok.mono cond ?_
    rintro _ A1 ⟨rfl, rfl⟩
    walk_at "ex"
    walk_at "st"
    by_cases q : 2 < w
    · rw [if_pos (by simpa using q)]
      walk_at "st"
      refine Ok.mono (ht B t c _ A1 2000 T h1 (by omega) (by decide) (by decide)) ?_
      rintro _ A2 ⟨u, rfl, u1, u2, h2⟩
      walk_at "ex"
      rw [tp_gc0 h h2, ok_ok]
      exact ⟨h2.mono (by omega), tgd_int (by omega) (by omega)⟩
    · rw [if_neg (by simpa using q)]
      walk_at "ex"
      walk_at "st"
      walk_at "st"
      refine Ok.mono (ht _ t c _ _ 9 (tapAt_list T (l := [D.non, .str "", .str "a", .str "b", .str "ab", .str "ba", .str "row 9", .str "~!", .str "leaf"]) fun d hd => pl_low d (tgd_texts (j := j) d hd).pl) ((tp_app T).mpr ⟨A1, rfl, h1⟩) (by omega) (by decide) (by decide)) ?_
      rintro _ A2 ⟨u, rfl, u1, u2, h2⟩
      obtain ⟨A3, rfl, h3⟩ := (tp_app T).mp h2
      obtain ⟨d, hd, he, _⟩ := atI_get (l := [D.non, .str "", .str "a", .str "b", .str "ab", .str "ba", .str "row 9", .str "~!", .str "leaf"]) u1 (by simpa using u2)
      have hg := tgd_texts (j := j) d hd
      rw [ixS (l := [D.non, .str "", .str "a", .str "b", .str "ab", .str "ba", .str "row 9", .str "~!", .str "leaf"]) (by rw [tp_len h1, ← tp_len h3]; simp), he]
      walk_at "ex"
      rw [tp_gc T h h3 (pl_low _ hg.pl), ok_ok]
      exact ⟨h3.mono (by omega), hg⟩
/-! ### bases and texts -/
def BaseS (f : CF) : Prop := ∀ B t c n A, TapAt B t c → Tp B t c n A → n + 2 < 1000000 → Ok (f [.ref t] A) fun d A' => Tp B t c (n + 2) A' ∧ ∃ b : Int, d = .int b ∧ 2 ≤ b ∧ b ≤ 10 ^ 9
theorem base_ok {c_take : CF} (ht : TakeS c_take) : BaseS (run 1 1 (G__law_base c_take)) := by
  intro B t c n A T h hN
  refine ok_run rfl ?_
  unfold G__law_base
  walk_at "st"
  rw [opPow_int (by decide : CPow 10 9)]
  walk_at "ex"
  refine Ok.mono (ht B t c n A 50 T h (by omega) (by decide) (by decide)) ?_
  rintro _ A1 ⟨w, rfl, w1, w2, h1⟩
  walk_at "ex"
  generalize hl : ([D.int 1000003, D.int 2, D.int 10, D.int 3, D.int 97, D.int (10 ^ Int.toNat 9), D.int (2 + w)] : List D) = l
  have hb : ∀ d ∈ l, ∃ b : Int, d = .int b ∧ 2 ≤ b ∧ b ≤ 10 ^ 9 := by
    subst hl
    intro d hd
    simp only [List.mem_cons, List.not_mem_nil, or_false] at hd
    rcases hd with rfl | rfl | rfl | rfl | rfl | rfl | rfl
    · exact ⟨_, rfl, by decide, by decide⟩
    · exact ⟨_, rfl, by decide, by decide⟩
    · exact ⟨_, rfl, by decide, by decide⟩
    · exact ⟨_, rfl, by decide, by decide⟩
    · exact ⟨_, rfl, by decide, by decide⟩
    · exact ⟨_, rfl, by decide, by decide⟩
    · exact ⟨_, rfl, by omega, by omega⟩
  have hll : l.length = 7 := by subst hl; rfl
  refine Ok.mono (ht (B ++ [.lst l]) t c _ (A1 ++ [.lst l]) 7 (tapAt_list T fun d hd => ?_) ((tp_app T).mpr ⟨A1, rfl, h1⟩) (by omega) (by decide) (by decide)) ?_
  · obtain ⟨b, rfl, _⟩ := hb d hd; rfl
  rintro _ A2 ⟨u, rfl, u1, u2, h2⟩
  obtain ⟨A3, rfl, h3⟩ := (tp_app T).mp h2
  obtain ⟨d, hd, he, _⟩ := atI_get (l := l) u1 (by rw [hll]; exact u2)
  obtain ⟨b, rfl, b1, b2⟩ := hb d hd
  rw [ixS (l := l) (by rw [tp_len h1, ← tp_len h3]; simp), he]
  walk_at "ex"
  rw [tp_gc T h h3 rfl, ok_ok]
  exact ⟨h3, b, rfl, b1, b2⟩
mutual
theorem wt_sm : ∀ d : D, d.wt < 4000000 → d.sm = true
  | .str s, h => by simpa [D.sm, D.wt] using h
  | .tup l, h => by
    simp only [D.wt] at h
    simp only [D.sm, Bool.and_eq_true, decide_eq_true_eq]
    exact wtL_sm l h
  | .non, _ => rfl
  | .bl _, _ => rfl
  | .int _, _ => rfl
  | .ref _, _ => rfl
theorem wtL_sm : ∀ l : List D, D.wtL l < 4000000 → l.length < 4000000 ∧ D.smL l = true
  | [], _ => ⟨by decide, rfl⟩
  | d :: l, h => by
    simp only [D.wtL] at h
    have hl : l.length ≤ D.wtL l := by
      clear h
      induction l with
      | nil => exact Nat.zero_le _
      | cons e l ih => simp only [List.length_cons, D.wtL]; omega
    have := wtL_sm l (by omega)
    simp only [D.smL, Bool.and_eq_true, List.length_cons]
    exact ⟨by omega, wt_sm d (by omega), this.2⟩
end
theorem Tg.mono {i j : Nat} {d : D} (h : Tg i d) (hij : i ≤ j) : Tg j d :=
  ⟨h.th, h.pl, Nat.le_trans h.dp hij, Nat.le_trans h.wt (Nat.mul_le_mul_left _ (Nat.pow_le_pow_right (by decide) hij))⟩
theorem Tg.leaf {j : Nat} {d : D} (hj : j ≤ 6) (h : Tg j d) : (Pr.leaf d).ok j := by
  refine ⟨h.th, h.pl, wt_sm d ?_, h.dp⟩
  have := h.wt
  have : 20 * 4 ^ j ≤ 20 * 4 ^ 6 := Nat.mul_le_mul_left _ (Nat.pow_le_pow_right (by decide) hj)
  omega
end Rf
namespace Rf
open PySem PySem.Spec L2
local macro_rules | `(tactic| walk_at "ex") => `(tactic| try simp (decide := true) only [x_ret, x_retN, x_asg, x_if, x_drop, x_nilS, x_for, x_var, x_c, x_un, x_bin, x_test, x_and, x_or, x_not, x_ifE, x_nil, x_cons, x_tup, x_lst, x_b, x_meth, x_oNone, x_oSome, x_slice, x_call, x_gVar, x_gSub, x_range1, x_lc, x_yes, x_rg1, wipeL,
  R.bind_ok, ok_bind, ok_ok, gather, optAll, List.map_cons, List.map_nil, List.getElem?_cons_zero, List.getElem?_cons_succ, List.set_cons_zero, List.set_cons_succ, Option.map_some, List.length_cons, List.length_nil,
  List.nil_append, List.cons_append, List.replicate, Nat.reduceAdd, Nat.reduceSub, and_self, if_true, if_false, true_and, and_true, Nat.reduceEqDiff, truth_bl, ofO_some, reduceCtorEq, decide_true, decide_false, Bool.false_eq_true, Bool.not_true, Bool.not_false, or_self, or_true, true_or, or_false, false_or,
  opAdd_int, opSub_int, cmpLt_int, cmpLe_int, cmpGt_int, cmpGe_int, cmpIs_non, cmpIsNot_non, isi_str, isi_non, isi_int, isi_tup, isi_bl, len_tup, ord_one, sizeLine_eq, Nat.reduceLeDiff, x_bk, x_aug, x_par, tl_nil, tl_cons, x_tlNil, x_tlCons, x_gTup, x_gTupT, x_gStar1, ixt0, ixt1, ixt2, cmpEq_str, cmpNe_str, cmpEq_int, cmpNe_int, s_ff, s_lf, s_cf, s_cl, s_lc, s_fc, s_fl])
local macro_rules | `(tactic| walk_at "st") => `(tactic| (refine x_seq.mpr ?_; walk_at "ex"))
def G__law_fork (c__law_mark : List D → Hpp → R D) : S :=
    (sSeq (sRet (mTup (mCons (mCallV c__law_mark 2 0 [.pos 0, .pos 1] (mCons (mTup (mCons (mVar 0) (mCons (mVar 1) mNil))) (mCons (mVar 2) mNil)) mNil) (mCons (mBin opAdd (mBin opIx (mVar 0) (mC (.int 1))) (mBin opIx (mVar 1) (mC (.int 1)))) mNil))))
    sNil)
theorem lfork_ok {c_mark : CF} {k : Nat} (hk : 2 ≤ k) (hm : MarkS k c_mark) : ForkS (run 3 3 (G__law_fork c_mark)) := by
  intro m n m' n' b A h1 h2
  apply ok_eq
  refine ok_run rfl ?_
  unfold G__law_fork labD
  walk_at "st"
  rw [hm _ b A (by simp [D.th, D.thL, sizeLine_eq]) (by simp [D.dp, D.dpL]; omega) h1 h2]
  walk_at "ex"
  rw [gc_self, ok_ok]; exact ⟨rfl, rfl⟩
theorem splF_rng : ∀ (k : Nat) (f n : Int), 1 ≤ f → f < n → 1 ≤ splF k f n ∧ splF k f n < n
  | 0, f, n, h1, h2 => ⟨h1, h2⟩
  | k + 1, f, n, h1, h2 => by
    simp only [splF]
    by_cases h : 2 * f < n
    · rw [if_pos h]; exact splF_rng k _ n (by omega) h
    · rw [if_neg h]; exact ⟨h1, h2⟩
theorem spl_rng {n : Int} (h : 2 ≤ n) : 1 ≤ spl n ∧ spl n < n := splF_rng 64 1 n (by decide) (by omega)
theorem cut_lo {α : Type} (l : List α) {i : Int} (h1 : 0 ≤ i) (h2 : i ≤ l.length) : cutD l none (some i) = l.take i.toNat := by
  have e : HT.sIx l.length l.length (some i) = i.toNat := by
    show (if i < 0 then (i + (l.length : Int)).toNat else min i.toNat l.length) = _
    rw [if_neg (by omega)]; omega
  unfold cutD
  rw [e]
  show (l.drop 0).take (i.toNat - 0) = _
  simp
theorem cut_hi {α : Type} (l : List α) {i : Int} (h1 : 0 ≤ i) (h2 : i ≤ l.length) : cutD l (some i) none = l.drop i.toNat := by
  have e : HT.sIx l.length 0 (some i) = i.toNat := by
    show (if i < 0 then (i + (l.length : Int)).toNat else min i.toNat l.length) = _
    rw [if_neg (by omega)]; omega
  unfold cutD
  rw [e]
  show (l.drop i.toNat).take (l.length - i.toNat) = _
  rw [List.take_of_length_le (by simp)]
theorem sl_lst {A : Hpp} {n : Nat} {l : List D} {lo hi : Option Int} (h : A[n]? = some (.lst l)) : opSl (.ref n) lo hi A = .ok (.ref A.length) (A ++ [.lst (cutD l lo hi)]) := by simp [opSl, h]
def G__law_label (c__law_fork c__law_label c__law_split c__law_mark : List D → Hpp → R D) : S :=
    (sSeq (sIf (mBin cmpEq (mB bLen (mCons (mVar 0) mNil)) (mC (.int 0))) (sSeq (sRet (mTup (mCons (mC (.int 0)) (mCons (mC (.int 0)) mNil))))
    sNil) sNil)
    (sSeq (sIf (mBin cmpEq (mB bLen (mCons (mVar 0) mNil)) (mC (.int 1))) (sSeq (sRet (mTup (mCons (mCallV c__law_mark 2 0 [.pos 0, .pos 1] (mCons (mBin opIx (mVar 0) (mC (.int 0))) (mCons (mVar 1) mNil)) mNil) (mCons (mC (.int 1)) mNil))))
    sNil) sNil)
    (sSeq (sAsg (mCallV c__law_split 1 0 [.pos 0] (mCons (mB bLen (mCons (mVar 0) mNil)) mNil) mNil) (gVar 2))
    (sSeq (sRet (mCallV c__law_fork 3 0 [.pos 0, .pos 1, .pos 2] (mCons (mCallV c__law_label 2 0 [.pos 0, .pos 1] (mCons (mSlice (mVar 0) oNone (oSome (mVar 2))) (mCons (mVar 1) mNil)) mNil) (mCons (mCallV c__law_label 2 0 [.pos 0, .pos 1] (mCons (mSlice (mVar 0) (oSome (mVar 2)) oNone) (mCons (mVar 1) mNil)) mNil) (mCons (mVar 1) mNil))) mNil))
    sNil))))
/-- the law's own label of a list of leaves -/
def LblS (j k : Nat) (c : CF) : Prop := ∀ (n : Nat) (l : List D) (b : Int) (A : Hpp), A[n]? = some (.lst l) → (∀ d ∈ l, d.th = true ∧ d.dp ≤ j) → 1 ≤ l.length → l.length ≤ k → 0 < b → b ≤ 2 ^ 63 → ∃ m : Int, c [.ref n, .int b] A = .ok (labD m l.length) A ∧ 0 ≤ m ∧ m < b
theorem mark_rngA {b : Int} (hb : 0 < b) : ∀ d : D, 0 ≤ mark b d ∧ mark b d < b
  | .non => by simp only [mark]; exact mix_range hb
  | .int n => by simp only [mark]; exact mix_range hb
  | .str s => by simp only [mark]; exact fold_range hb _ _ (Int.emod_nonneg _ (by omega)) (Int.emod_lt_of_pos _ hb)
  | .tup l => by simp only [mark]; exact markL_range hb _ _ (Int.emod_nonneg _ (by omega)) (Int.emod_lt_of_pos _ hb)
  | .bl x => by simp only [mark]; omega
  | .ref x => by simp only [mark]; omega
theorem lbl_ok {c_fork c_lbl c_split c_mark : CF} {j : Nat} (hf : ForkS c_fork) (hs : SplitS c_split) (hm : MarkS j c_mark) {k : Nat} (hk9 : k ≤ 100000) (hk : ∀ i, i < k → LblS j i c_lbl) : LblS j k (run 3 2 (G__law_label c_fork c_lbl c_split c_mark)) := by
  intro n l b A hA hl h1 hlk hb hb2
  have key : Ok (run 3 2 (G__law_label c_fork c_lbl c_split c_mark) [.ref n, .int b] A) fun d A' => A' = A ∧ ∃ m : Int, d = labD m l.length ∧ 0 ≤ m ∧ m < b := by
    refine ok_run rfl ?_
    unfold G__law_label
    walk_at "st"
    rw [len_lst hA]
    walk_at "ex"
    rw [if_neg (by rw [decide_eq_true_eq]; omega)]
    walk_at "ex"
    walk_at "st"
    rw [len_lst hA]
    walk_at "ex"
    by_cases h : l.length = 1
    · rw [if_pos (by simp [h])]
      obtain ⟨d, rfl⟩ := List.length_eq_one_iff.mp h
      walk_at "st"
      rw [ixl0 hA]
      walk_at "ex"
      obtain ⟨t1, t2⟩ := hl d (by simp)
      rw [hm d b A t1 t2 hb hb2]
      walk_at "ex"
      rw [gc_self, ok_ok]
      exact ⟨rfl, mark b d, rfl, mark_rngA hb d⟩
    · rw [if_neg (by rw [decide_eq_true_eq]; omega)]
      walk_at "ex"
      walk_at "st"
      rw [len_lst hA]
      walk_at "ex"
      rw [hs _ A (by omega) (by omega)]
      walk_at "ex"
      obtain ⟨s1, s2⟩ := spl_rng (n := (l.length : Int)) (by omega)
      generalize spl (l.length : Int) = q at s1 s2
      walk_at "st"
      rw [sl_lst hA, cut_lo l (by omega) (by omega)]
      walk_at "ex"
      obtain ⟨m1, e1, g1, g2⟩ := hk (k - 1) (by omega) A.length (l.take q.toNat) b (A ++ [.lst (l.take q.toNat)]) at_end (fun d hd => hl d (List.mem_of_mem_take hd)) (by simp; omega) (by simp; omega) hb hb2
      rw [e1]
      walk_at "ex"
      have hA2 : (A ++ [HOb.lst (l.take q.toNat)])[n]? = some (.lst l) := by rw [List.getElem?_append_left (List.getElem?_eq_some_iff.mp hA).1]; exact hA
      rw [sl_lst hA2, cut_hi l (by omega) (by omega)]
      walk_at "ex"
      obtain ⟨m2, e2, g3, g4⟩ := hk (k - 1) (by omega) (A ++ [HOb.lst (l.take q.toNat)]).length (l.drop q.toNat) b _ at_end (fun d hd => hl d (List.mem_of_mem_drop hd)) (by simp; omega) (by simp; omega) hb hb2
      rw [e2]
      walk_at "ex"
      rw [hf _ _ _ _ b _ hb hb2]
      walk_at "ex"
      rw [List.append_assoc, gc_pure rfl, ok_ok]
      refine ⟨rfl, mark b (D.tup [labD m1 ((l.take q.toNat).length : Int), labD m2 ((l.drop q.toNat).length : Int)]), ?_, mark_rngA hb _⟩
      congr 1
      simp; omega
  obtain ⟨d, A', e, rfl, m, rfl, h2, h3⟩ := key
  exact ⟨m, e, h2, h3⟩
theorem one_pow2 : ∀ k : Nat, (1 : Int) ≤ 2 ^ k
  | 0 => by decide
  | k + 1 => by have := one_pow2 k; rw [Int.pow_succ]; omega
/-! ### wild trees -/
def G__law_wild (c__law_take c__law_thing c__law_wild : List D → Hpp → R D) : S :=
    (sSeq (sAsg (mCallV c__law_take 2 0 [.pos 0, .pos 1] (mCons (mVar 0) (mCons (mC (.int 5)) mNil)) mNil) (gVar 2))
    (sSeq (sIf (mOr (mAnd (mBin cmpLt (mVar 2) (mC (.int 2))) (mBin cmpGt (mVar 1) (mC (.int 0)))) (mBin cmpGt (mVar 1) (mC (.int 3)))) (sSeq (sRet (mTup (mCons (mC (.str "fork")) (mCons (mCallV c__law_wild 2 0 [.pos 0, .pos 1] (mCons (mVar 0) (mCons (mBin opSub (mVar 1) (mC (.int 1))) mNil)) mNil) (mCons (mCallV c__law_wild 2 0 [.pos 0, .pos 1] (mCons (mVar 0) (mCons (mBin opSub (mVar 1) (mC (.int 1))) mNil)) mNil) mNil)))))
    sNil) sNil)
    (sSeq (sIf (mBin cmpEq (mVar 2) (mC (.int 2))) (sSeq (sRet (mTup (mCons (mC (.str "leaf")) (mCons (mCallV c__law_thing 2 0 [.pos 0, .pos 1] (mCons (mVar 0) (mCons (mC (.int 1)) mNil)) mNil) mNil))))
    sNil) sNil)
    (sSeq (sRet (mTup (mCons (mC (.str "cut")) (mCons (mTup (mCons (mCallV c__law_take 2 0 [.pos 0, .pos 1] (mCons (mVar 0) (mCons (mC (.int 50)) mNil)) mNil) (mCons (mBin opAdd (mC (.int 1)) (mCallV c__law_take 2 0 [.pos 0, .pos 1] (mCons (mVar 0) (mCons (mBin opIx (mLst (mCons (mC (.int 2)) (mCons (mC (.int 9)) mNil))) (mCallV c__law_take 2 0 [.pos 0, .pos 1] (mCons (mVar 0) (mCons (mC (.int 2)) mNil)) mNil)) mNil)) mNil)) mNil))) mNil))))
    sNil))))
def WN : Nat → Nat
  | 0 => 9
  | k + 1 => 1 + 2 * WN k
def WildS (k : Nat) (f : CF) : Prop := ∀ B t c n A, TapAt B t c → Tp B t c n A → n + WN k < 1000000 → Ok (f [.ref t, .int k] A) fun d A' => ∃ p : Pr, d = p.d ∧ p.ok 2 ∧ p.hgt ≤ k ∧ p.cnt ≤ 10 * 2 ^ k ∧ Tp B t c (n + WN k) A'
theorem pr_low {j : Nat} : ∀ {p : Pr}, p.ok j → p.d.low 0 = true
  | .leaf d, h => by simp only [Pr.d, D.low, D.lowL, pl_low d h.2.1]; rfl
  | .cut _ _, _ => rfl
  | .fork l r, h => by simp only [Pr.d, D.low, D.lowL, pr_low h.1, pr_low h.2]; rfl
theorem wild_ok {c_take c_thing c_wild : CF} (ht : TakeS c_take) (hth : ThS 1 c_thing) : ∀ k : Nat, k ≤ 3 → (∀ i, i < k → WildS i c_wild) → WildS k (run 3 2 (G__law_wild c_take c_thing c_wild)) := by
  intro k hk3 hk B t c n A T h hN
  have wn : 9 ≤ WN k := by
    clear hk hN hk3
    induction k with
    | zero => simp [WN]
    | succ k ih => simp only [WN]; omega
  have tn1 : TN 1 = 8 := rfl
  refine ok_run rfl ?_
  unfold G__law_wild
  walk_at "st"
  refine Ok.mono (ht B t c n A 5 T h (by omega) (by decide) (by decide)) ?_
  rintro _ A1 ⟨w, rfl, w1, w2, h1⟩
  walk_at "ex"
  walk_at "st"
  by_cases hw : w < 2 ∧ 0 < (k : Int)
  · obtain ⟨hw1, hw2⟩ := hw
    obtain ⟨i, rfl⟩ : ∃ i, k = i + 1 := ⟨k - 1, by omega⟩
    simp only [WN] at hN
    rw [if_pos (by simpa using hw1)]
    walk_at "ex"
    rw [if_pos (by simpa using hw2)]
    walk_at "ex"
    rw [if_pos (by simpa using hw2)]
    walk_at "st"
    have ei : ((i + 1 : Nat) : Int) - 1 = (i : Int) := by omega
    rw [ei]
    refine Ok.mono (hk i (by omega) B t c _ A1 T h1 (by omega)) ?_
    rintro _ A2 ⟨p, rfl, p1, p2, p3, h2⟩
    walk_at "ex"
    refine Ok.mono (hk i (by omega) B t c _ A2 T h2 (by omega)) ?_
    rintro _ A3 ⟨q, rfl, q1, q2, q3, h3⟩
    walk_at "ex"
    rw [tp_gc0 h h3, ok_ok]
    refine ⟨.fork p q, rfl, ⟨p1, q1⟩, by simp only [Pr.hgt]; omega, ?_, h3.mono (by simp only [WN]; omega)⟩
    simp only [Pr.cnt]
    have : (2 : Int) ^ (i + 1) = 2 ^ i * 2 := Int.pow_succ ..
    omega
  · have cond : Ok (if decide (w < 2) = true then R.ok (D.bl (decide (0 < (k : Int)))) A1 else R.ok (D.bl (decide (w < 2))) A1) fun a A => a = .bl false ∧ A = A1 := by
      by_cases q : w < 2
      · rw [if_pos (by simpa using q), ok_ok]
        refine ⟨?_, rfl⟩
        rw [decide_eq_false]
        intro z; exact hw ⟨q, z⟩
      · rw [if_neg (by simpa using q), ok_ok, decide_eq_false q]
        exact ⟨rfl, rfl⟩
    refine Ok.mono cond ?_
    rintro _ A1 ⟨rfl, rfl⟩
    walk_at "ex"
    rw [if_neg (by rw [decide_eq_true_eq]; omega)]
    walk_at "ex"
    walk_at "st"
    by_cases h2 : w = 2
    · subst h2
      walk_at "ex"
      walk_at "st"
      refine Ok.mono (hth B t c _ A1 T h1 (by omega)) ?_
      rintro d A2 ⟨h2, g⟩
      walk_at "ex"
      rw [tp_gc0 h h2, ok_ok]
      refine ⟨.leaf d, rfl, (g.mono (by decide)).leaf (by decide), Nat.zero_le _, ?_, h2.mono (by omega)⟩
      simp only [Pr.cnt]
      have : (1 : Int) ≤ 2 ^ k := one_pow2 k
      omega
    · rw [if_neg (by rw [decide_eq_true_eq]; exact h2)]
      walk_at "ex"
      walk_at "st"
      refine Ok.mono (ht B t c _ A1 50 T h1 (by omega) (by decide) (by decide)) ?_
      rintro _ A2 ⟨u, rfl, u1, u2, h2⟩
      walk_at "ex"
      have low29 : ∀ d ∈ [D.int 2, D.int 9], d.low 0 = true := by
        intro d hd
        simp only [List.mem_cons, List.not_mem_nil, or_false] at hd
        rcases hd with rfl | rfl <;> rfl
      have T' := tapAt_list T low29
      refine Ok.mono (ht (B ++ [.lst [.int 2, .int 9]]) t c _ (A2 ++ [.lst [.int 2, .int 9]]) 2 T' ((tp_app T).mpr ⟨A2, rfl, h2⟩) (by omega) (by decide) (by decide)) ?_
      rintro _ A3 ⟨v, rfl, v1, v2, h3⟩
      obtain ⟨A4, rfl, h4⟩ := (tp_app T).mp h3
      obtain ⟨d, hd, he, _⟩ := atI_get (l := [D.int 2, D.int 9]) v1 v2
      have hd' : ∃ m : Int, d = .int m ∧ 0 < m ∧ m ≤ 9 := by
        simp only [List.mem_cons, List.not_mem_nil, or_false] at hd
        rcases hd with rfl | rfl
        · exact ⟨2, rfl, by decide, by decide⟩
        · exact ⟨9, rfl, by decide, by decide⟩
      obtain ⟨m, rfl, m1, m2⟩ := hd'
      rw [ixS (l := [D.int 2, D.int 9]) (by rw [tp_len h2, ← tp_len h4]; simp), he]
      walk_at "ex"
      refine Ok.mono (ht _ t c _ _ m T' ((tp_app T).mpr ⟨A4, rfl, h4⟩) (by omega) m1 (by omega)) ?_
      rintro _ A5 ⟨x, rfl, x1, x2, h5⟩
      obtain ⟨A6, rfl, h6⟩ := (tp_app T).mp h5
      walk_at "ex"
      rw [tp_gc T h h6 rfl, ok_ok]
      refine ⟨.cut u (1 + x), rfl, ⟨u1, by omega, by omega, by omega⟩, Nat.zero_le _, ?_, h6.mono (by omega)⟩
      simp only [Pr.cnt]
      have : (1 : Int) ≤ 2 ^ k := one_pow2 k
      omega
/-- the same, the heap told -/
theorem lc_tapB {B : Hpp} {t c v m N : Nat} {its : List D} {e : M} {L : Loc} {P : D → Prop} (T : TapAt B t c) (hP : ∀ d, P d → d.low 0 = true)
    (he : ∀ acc n A i, TapAt (B ++ [.lst acc]) t c → Tp (B ++ [.lst acc]) t c n A → n + m ≤ N → Ok (e (L.set v (some i)) A) fun d A' => Tp (B ++ [.lst acc]) t c (n + m) A' ∧ P d) :
    ∀ (ds acc : List D) (n : Nat) (A1 : Hpp), Tp B t c n A1 → n + m * ds.length ≤ N → (∀ d ∈ acc, P d) → acc.length + ds.length < sizeLine →
      Ok (lcLoop (.its its) B.length (gVar v) mYes e L ds (A1 ++ [.lst acc])) fun _ A' => ∃ A2 acc', A' = A2 ++ [.lst acc'] ∧ Tp B t c (n + m * ds.length) A2 ∧ (∀ d ∈ acc', P d) ∧ acc'.length = acc.length + ds.length
  | [], acc, n, A1, h, _, ha, _ => by
    unfold lcLoop
    rw [if_pos (show Src.still _ (.its its) = true from rfl), ok_ok]
    exact ⟨A1, acc, rfl, h, ha, rfl⟩
  | i :: ds, acc, n, A1, h, hN, ha, hs => by
    rw [List.length_cons] at hN hs
    have e1 : m * (ds.length + 1) = m * ds.length + m := Nat.mul_succ ..
    unfold lcLoop
    rw [if_pos (show Src.still _ (.its its) = true from rfl)]
    simp only [x_gVar, x_yes, R.bind_ok, if_true, ok_bind]
    refine Ok.mono (he _ n _ i (tapAt_list T fun d hd => hP d (ha d hd)) ((tp_app T).mpr ⟨A1, rfl, h⟩) (by omega)) ?_
    rintro d A' ⟨h1, hd⟩
    obtain ⟨A2, rfl, h2⟩ := (tp_app T).mp h1
    have eg : (A2 ++ [HOb.lst acc])[B.length]? = some (.lst acc) := by rw [← tp_len h2]; simp
    simp only [eg]
    rw [if_pos (by omega)]
    have es : (A2 ++ [HOb.lst acc]).set B.length (.lst (acc ++ [d])) = A2 ++ [.lst (acc ++ [d])] := by rw [← tp_len h2]; simp
    rw [es]
    refine Ok.mono (lc_tapB T hP he ds (acc ++ [d]) (n + m) A2 h2 (by omega) (fun x hx => ?_) (by simp; omega)) ?_
    · rcases List.mem_append.mp hx with z | z
      · exact ha x z
      · rw [List.mem_singleton.mp z]; exact hd
    · rintro _ A' ⟨A3, acc', rfl, h3, h4, h5⟩
      refine ⟨A3, acc', rfl, ?_, h4, ?_⟩
      · refine h3.mono ?_
        rw [List.length_cons]; omega
      · rw [h5]; simp; omega
/-! ### leaves -/
def G__law_leaves (c__law_take c__law_thing : List D → Hpp → R D) : S :=
    (sSeq (sAsg (mLc (srcRange1 (mC (.int 5))) (gVar 4) mYes (mCallV c__law_thing 2 0 [.pos 0, .pos 1] (mCons (mVar 0) (mCons (mC (.int 2)) mNil)) mNil) [4]) (gVar 2))
    (sSeq (sAsg (mBin opIx (mLst (mCons (mCallV c__law_take 2 0 [.pos 0, .pos 1] (mCons (mVar 0) (mCons (mC (.int 9)) mNil)) mNil) (mCons (mC (.int 1)) (mCons (mC (.int 2)) (mCons (mCallV c__law_take 2 0 [.pos 0, .pos 1] (mCons (mVar 0) (mCons (mBin opAdd (mVar 1) (mC (.int 1))) mNil)) mNil) (mCons (mC (.int 8)) mNil)))))) (mCallV c__law_take 2 0 [.pos 0, .pos 1] (mCons (mVar 0) (mCons (mC (.int 5)) mNil)) mNil)) (gVar 3))
    (sSeq (sRet (mLc (srcRange1 (mB bMin2 (mCons (mVar 3) (mCons (mVar 1) mNil)))) (gVar 4) mYes (mIf (mBin cmpEq (mCallV c__law_take 2 0 [.pos 0, .pos 1] (mCons (mVar 0) (mCons (mC (.int 3)) mNil)) mNil) (mC (.int 0))) (mBin opIx (mVar 2) (mCallV c__law_take 2 0 [.pos 0, .pos 1] (mCons (mVar 0) (mCons (mC (.int 5)) mNil)) mNil)) (mCallV c__law_thing 2 0 [.pos 0, .pos 1] (mCons (mVar 0) (mCons (mC (.int 2)) mNil)) mNil)) [4]))
    sNil)))
theorem min2 {i j : Int} {A : Hpp} : bMin2 [.int i, .int j] A = .ok (.int (if j < i then j else i)) A := rfl
def LeavesS (f : CF) : Prop := ∀ B t c n A (most : Int), TapAt B t c → Tp B t c n A → 1 ≤ most → most ≤ 100 → n + 3000 < 1000000 →
  Ok (f [.ref t, .int most] A) fun d A' => ∃ A1 l, d = .ref A.length ∧ A' = A1 ++ [.lst l] ∧ Tp B t c (n + 3000) A1 ∧ (∀ d ∈ l, Tg 2 d) ∧ (l.length : Int) ≤ most
theorem leaves_ok {c_take c_thing : CF} (ht : TakeS c_take) (hth : ThS 2 c_thing) : LeavesS (run 5 2 (G__law_leaves c_take c_thing)) := by
  intro B t c n A most T h m1 m2 hN
  have tn : TN 2 = 26 := rfl
  refine ok_run rfl ?_
  unfold G__law_leaves
  walk_at "st"
  rw [tp_len h]
  refine Ok.mono (lc_tap (P := Tg 2) (m := TN 2) (N := n + 200) T (fun d hd => pl_low d hd.pl) ?_ (rangeD 0 (Int.toNat 5)) [] n A h ?_ (by simp) ?_) ?_
  · intro B n' A k T h hn
    walk_at "ex"
    exact hth B t c n' A T h (by omega)
  · rw [range_len, tn]; show n + 26 * 5 ≤ _; omega
  · rw [range_len, sizeLine_eq]; decide
  rintro _ A3 ⟨A1, pool, rfl, h1, hp, hl⟩
  walk_at "ex"
  rw [range_len] at h1 hl
  have hl5 : pool.length = 5 := by simpa using hl
  have h1' : Tp B t c (n + 130) A1 := h1
  have T1 := tapAt_list T (l := pool) fun d hd => pl_low d (hp d hd).pl
  have h1b := (tp_app (X := [.lst pool]) T).mpr ⟨A1, rfl, h1'⟩
  walk_at "st"
  refine Ok.mono (ht _ t c _ _ 9 T1 h1b (by omega) (by decide) (by decide)) ?_
  rintro _ A2 ⟨u, rfl, u1, u2, h2⟩
  walk_at "ex"
  refine Ok.mono (ht _ t c _ _ (most + 1) T1 h2 (by omega) (by omega) (by omega)) ?_
  rintro _ A4 ⟨v, rfl, v1, v2, h4⟩
  walk_at "ex"
  generalize hll : ([D.int u, D.int 1, D.int 2, D.int v, D.int 8] : List D) = ll
  have hint : ∀ d ∈ ll, ∃ z : Int, d = .int z ∧ 0 ≤ z ∧ z ≤ 101 := by
    subst hll
    intro d hd
    simp only [List.mem_cons, List.not_mem_nil, or_false] at hd
    rcases hd with rfl | rfl | rfl | rfl | rfl
    · exact ⟨_, rfl, by omega, by omega⟩
    · exact ⟨_, rfl, by omega, by omega⟩
    · exact ⟨_, rfl, by omega, by omega⟩
    · exact ⟨_, rfl, by omega, by omega⟩
    · exact ⟨_, rfl, by omega, by omega⟩
  have hl5' : ll.length = 5 := by subst hll; rfl
  have T2 := tapAt_list T1 (l := ll) fun d hd => by obtain ⟨z, rfl, _⟩ := hint d hd; rfl
  have h4b := (tp_app (X := [.lst ll]) T1).mpr ⟨A4, rfl, h4⟩
  refine Ok.mono (ht _ t c _ _ 5 T2 h4b (by omega) (by decide) (by decide)) ?_
  rintro _ A5 ⟨x, rfl, x1, x2, h5⟩
  obtain ⟨d, hd, he, _⟩ := atI_get (l := ll) x1 (by rw [hl5']; exact x2)
  obtain ⟨z, rfl, z1, z2⟩ := hint d hd
  obtain ⟨A6, rfl, h6⟩ := (tp_app T1).mp h5
  rw [ixS (l := ll) (by rw [tp_len h4, ← tp_len h6]; simp), he]
  walk_at "ex"
  walk_at "st"
  rw [min2]
  walk_at "ex"
  generalize hz : (if most < z then most else z) = zz
  have hzz : 0 ≤ zz ∧ zz ≤ most := by subst hz; split <;> omega
  rw [if_pos (by unfold okEnd; omega)]
  walk_at "ex"
  have lB := tp_len h5
  rw [lB]
  have pb : B.length ≠ t := by have := T.ht; omega
  refine Ok.mono (lc_tapB (P := Tg 2) (m := 27) (N := n + 2900) T2 (fun d hd => pl_low d hd.pl) ?_ (rangeD 0 zz.toNat) [] _ _ h5 ?_ (by simp) ?_) ?_
  · intro acc n' A7 k T7 h7 hn
    walk_at "ex"
    refine Ok.mono (ht _ t c _ _ 3 T7 h7 (by omega) (by decide) (by decide)) ?_
    rintro _ A8 ⟨y, rfl, y1, y2, h8⟩
    walk_at "ex"
    by_cases hy : y = 0
    · rw [if_pos (by rw [decide_eq_true_eq]; exact hy)]
      walk_at "ex"
      refine Ok.mono (ht _ t c _ _ 5 T7 h8 (by omega) (by decide) (by decide)) ?_
      rintro _ A9 ⟨y', rfl, y1', y2', h9⟩
      obtain ⟨d, hd, he, _⟩ := atI_get (l := pool) y1' (by rw [hl5]; exact y2')
      have hg : A9[B.length]? = some (.lst pool) := by
        rw [tp_get h9 pb, List.append_assoc, List.append_assoc, List.getElem?_append_right (Nat.le_refl _), Nat.sub_self]; rfl
      rw [ixS hg, he]
      walk_at "ex"
      exact ⟨h9.mono (by omega), hp d hd⟩
    · rw [if_neg (by rw [decide_eq_true_eq]; exact hy)]
      walk_at "ex"
      refine Ok.mono (hth _ t c _ _ T7 h8 (by omega)) ?_
      rintro d A9 ⟨h9, g⟩
      exact ⟨h9.mono (by omega), g⟩
  · rw [range_len]
    have : 27 * zz.toNat ≤ 27 * 100 := Nat.mul_le_mul_left _ (by omega)
    omega
  · rw [range_len, sizeLine_eq]; simp; omega
  rintro _ A10 ⟨A11, acc, rfl, h11, ha, hla⟩
  rw [range_len] at h11 hla
  walk_at "ex"
  obtain ⟨A12, rfl, h12⟩ := (tp_app T1).mp h11
  obtain ⟨A13, rfl, h13⟩ := (tp_app T).mp h12
  rw [show A13 ++ [HOb.lst pool] ++ [HOb.lst ll] ++ [HOb.lst acc] = A13 ++ ([HOb.lst pool] ++ [HOb.lst ll] ++ [HOb.lst acc]) by simp]
  rw [gc_list (by rw [tp_len h, tp_len h13]) (tp_cl T h13) (k := (B ++ [HOb.lst pool] ++ [HOb.lst ll]).length) (o := .lst acc) ?_ ?_ (lowL_of fun d hd => pl_low d (ha d hd).pl), ok_ok]
  · refine ⟨A13, acc, by rw [tp_len h], rfl, h13.mono ?_, ha, ?_⟩
    · have : 27 * zz.toNat ≤ 27 * 100 := Nat.mul_le_mul_left _ (by omega)
      omega
    · rw [hla]; simp; omega
  · rw [tp_len h]; simp
  · have : (B ++ [HOb.lst pool] ++ [HOb.lst ll]).length = A13.length + 2 := by rw [tp_len h13]; simp
    rw [this, List.getElem?_append_right (by omega)]
    simp
/-! ### pruned trees drawn -/
def G__law_pruned (c__law_pruned c__law_split c__law_take c__law_label : List D → Hpp → R D) : S :=
    (sSeq (sIf (mBin cmpEq (mCallV c__law_take 2 0 [.pos 0, .pos 1] (mCons (mVar 0) (mCons (mVar 3) mNil)) mNil) (mC (.int 0))) (sSeq (sRet (mTup (mCons (mC (.str "cut")) (mCons (mCallV c__law_label 2 0 [.pos 0, .pos 1] (mCons (mVar 1) (mCons (mVar 2) mNil)) mNil) mNil))))
    sNil) sNil)
    (sSeq (sIf (mBin cmpEq (mB bLen (mCons (mVar 1) mNil)) (mC (.int 1))) (sSeq (sRet (mTup (mCons (mC (.str "leaf")) (mCons (mBin opIx (mVar 1) (mC (.int 0))) mNil))))
    sNil) sNil)
    (sSeq (sAsg (mCallV c__law_split 1 0 [.pos 0] (mCons (mB bLen (mCons (mVar 1) mNil)) mNil) mNil) (gVar 4))
    (sSeq (sRet (mTup (mCons (mC (.str "fork")) (mCons (mCallV c__law_pruned 4 0 [.pos 0, .pos 1, .pos 2, .pos 3] (mCons (mVar 0) (mCons (mSlice (mVar 1) oNone (oSome (mVar 4))) (mCons (mVar 2) (mCons (mVar 3) mNil)))) mNil) (mCons (mCallV c__law_pruned 4 0 [.pos 0, .pos 1, .pos 2, .pos 3] (mCons (mVar 0) (mCons (mSlice (mVar 1) (oSome (mVar 4)) oNone) (mCons (mVar 2) (mCons (mVar 3) mNil)))) mNil) mNil)))))
    sNil))))
def PrunS (k : Nat) (f : CF) : Prop := ∀ B t c n A p (l : List D) (b cuts : Int), TapAt B t c → Tp B t c n A → B[p]? = some (.lst l) → p ≠ t → (∀ d ∈ l, Tg 2 d) → 1 ≤ l.length → l.length ≤ k → 0 < b → b ≤ 2 ^ 40 → 1 ≤ cuts → cuts ≤ 100 → n + 2 * l.length - 1 < 1000000 →
  Ok (f [.ref t, .ref p, .int b, .int cuts] A) fun d A' => ∃ q : Pr, d = q.d ∧ q.ok 2 ∧ q.hgt < l.length ∧ q.cnt = l.length ∧ Tp B t c (n + 2 * l.length - 1) A'
theorem prun_ok {c_prun c_split c_take c_lbl : CF} (ht : TakeS c_take) (hs : SplitS c_split) {k : Nat} (hk9 : k ≤ 10000) (hlb : LblS 2 k c_lbl) (hk : ∀ i, i < k → PrunS i c_prun) : PrunS k (run 5 4 (G__law_pruned c_prun c_split c_take c_lbl)) := by
  intro B t c n A p l b cuts T h hp hpt hl h1 hlk hb hb2 hc1 hc2 hN
  refine ok_run rfl ?_
  unfold G__law_pruned
  walk_at "st"
  refine Ok.mono (ht B t c n A cuts T h (by omega) (by omega) (by omega)) ?_
  rintro _ A1 ⟨w, rfl, w1, w2, h1'⟩
  have hp1 : A1[p]? = some (.lst l) := by rw [tp_get h1' hpt]; exact hp
  walk_at "ex"
  by_cases hw : w = 0
  · rw [if_pos (by rw [decide_eq_true_eq]; exact hw)]
    walk_at "st"
    obtain ⟨m, e, g1, g2⟩ := hlb p l b A1 hp1 (fun d hd => ⟨(hl d hd).th, (hl d hd).dp⟩) h1 hlk hb (by omega)
    rw [e]
    walk_at "ex"
    rw [tp_gc0 h h1', ok_ok]
    exact ⟨.cut m l.length, rfl, ⟨g1, by omega, by omega, by omega⟩, by simp only [Pr.hgt]; omega, rfl, h1'.mono (by omega)⟩
  · rw [if_neg (by rw [decide_eq_true_eq]; exact hw)]
    walk_at "ex"
    walk_at "st"
    rw [len_lst hp1]
    walk_at "ex"
    by_cases h2 : l.length = 1
    · rw [if_pos (by rw [decide_eq_true_eq]; omega)]
      obtain ⟨d, rfl⟩ := List.length_eq_one_iff.mp h2
      walk_at "st"
      rw [ixl0 hp1]
      walk_at "ex"
      rw [tp_gc0 h h1', ok_ok]
      exact ⟨.leaf d, rfl, (hl d (by simp)).leaf (by decide), by simp [Pr.hgt], rfl, h1'.mono (by simp)⟩
    · rw [if_neg (by rw [decide_eq_true_eq]; omega)]
      walk_at "ex"
      walk_at "st"
      rw [len_lst hp1]
      walk_at "ex"
      rw [hs _ A1 (by omega) (by omega)]
      walk_at "ex"
      obtain ⟨s1, s2⟩ := spl_rng (n := (l.length : Int)) (by omega)
      generalize spl (l.length : Int) = q at s1 s2
      walk_at "st"
      rw [sl_lst hp1, cut_lo l (by omega) (by omega)]
      walk_at "ex"
      have pB : p < B.length := (List.getElem?_eq_some_iff.mp hp).1
      have l1 : (l.take q.toNat).length = q.toNat := by simp; omega
      have l2 : (l.drop q.toNat).length = l.length - q.toNat := by simp
      have g1 : ∀ d ∈ l.take q.toNat, Tg 2 d := fun d hd => hl d (List.mem_of_mem_take hd)
      have g2 : ∀ d ∈ l.drop q.toNat, Tg 2 d := fun d hd => hl d (List.mem_of_mem_drop hd)
      generalize l.take q.toNat = la at l1 g1
      have T1 := tapAt_list T (l := la) fun d hd => pl_low d (g1 d hd).pl
      have k1 := (tp_app (X := [.lst la]) T).mpr ⟨A1, rfl, h1'⟩
      rw [tp_len h1']
      refine Ok.mono (hk (k - 1) (by omega) _ t c _ _ B.length la b cuts T1 k1 at_end (by have := T.ht; omega) g1 (by omega) (by omega) hb hb2 hc1 hc2 (by omega)) ?_
      rintro _ A2 ⟨x, rfl, x1, x2, x3, k2⟩
      obtain ⟨A3, rfl, k3⟩ := (tp_app T).mp k2
      walk_at "ex"
      have hp2 : (A3 ++ [HOb.lst la])[p]? = some (.lst l) := by rw [tp_get k2 hpt, List.getElem?_append_left pB]; exact hp
      rw [sl_lst hp2, cut_hi l (by omega) (by omega)]
      walk_at "ex"
      generalize l.drop q.toNat = lb at l2 g2
      have T2 := tapAt_list T1 (l := lb) fun d hd => pl_low d (g2 d hd).pl
      have k4 := (tp_app (X := [.lst lb]) T1).mpr ⟨_, rfl, k2⟩
      rw [tp_len k2]
      refine Ok.mono (hk (k - 1) (by omega) _ t c _ _ (B ++ [HOb.lst la]).length lb b cuts T2 k4 at_end (by have := T1.ht; omega) g2 (by omega) (by omega) hb hb2 hc1 hc2 (by omega)) ?_
      rintro _ A4 ⟨y, rfl, y1, y2, y3, k5⟩
      obtain ⟨A5, rfl, k6⟩ := (tp_app T1).mp k5
      obtain ⟨A6, rfl, k7⟩ := (tp_app T).mp k6
      walk_at "ex"
      have hq : (Pr.fork x y).ok 2 := ⟨x1, y1⟩
      rw [List.append_assoc]
      have e0 := tp_gc (X := [HOb.lst la] ++ [HOb.lst lb]) (d := (Pr.fork x y).d) T h k7 (pr_low hq)
      rw [show D.tup [D.str (Str.ofString "fork"), x.d, y.d] = (Pr.fork x y).d from rfl, e0, ok_ok]
      refine ⟨.fork x y, rfl, hq, by simp only [Pr.hgt]; omega, by simp only [Pr.cnt]; omega, k7.mono (by omega)⟩
end Rf
namespace Rf
open PySem PySem.Spec L2
theorem src_of_tup {a : M} {L : Loc} {A A1 : Hpp} {l : List D} (h : a L A = .ok (.tup l) A1) : srcSeq a L A = .ok (.its l) A1 := by simp [srcSeq, h]
theorem src_of_lst {a : M} {L : Loc} {A A1 : Hpp} {n : Nat} {l : List D} (h : a L A = .ok (.ref n) A1) (hn : A1[n]? = some (.lst l)) : srcSeq a L A = .ok (.lst n l) A1 := by simp [srcSeq, h, hn]
theorem tuple_at {A : Hpp} {n : Nat} {l : List D} (h : A[n]? = some (.lst l)) : bTuple [.ref n] A = .ok (.tup l) A := by simp [bTuple, h]
theorem cmpIs_bl {a b : Bool} {A : Hpp} : cmpIs (.bl a) (.bl b) A = .ok (.bl (decide (a = b))) A := rfl
theorem cmpIsNot_bl {a b : Bool} {A : Hpp} : cmpIsNot (.bl a) (.bl b) A = .ok (.bl (!decide (a = b))) A := rfl
theorem app_at {A : Hpp} {n : Nat} {l : List D} {d : D} (h : A[n]? = some (.lst l)) (hl : l.length < sizeLine) : mAppend (.ref n) [d] A = .ok .non (A.set n (.lst (l ++ [d]))) := by
  simp only [mAppend, h]; rw [if_pos hl]
theorem isl_at {A : Hpp} {n : Nat} {l : List D} (h : A[n]? = some (.lst l)) : isLst (.ref n) A = true := by simp [isLst, h]
theorem get_mid {A X : Hpp} {o : HOb} : (A ++ o :: X)[A.length]? = some o := by simp
theorem set_mid {A X : Hpp} {o u : HOb} : (A ++ o :: X).set A.length u = A ++ u :: X := by simp
theorem set_end {A : Hpp} {o u : HOb} : (A ++ [o]).set A.length u = A ++ [u] := by simp
theorem small400 {x : Int} (h1 : -(2 ^ 64) < x) (h2 : x < 2 ^ 64) : x.natAbs < 2 ^ 400 := by
  refine Nat.lt_of_lt_of_le (m := 2 ^ 64) (by omega) (Nat.pow_le_pow_right (by decide) (by decide))
theorem gc_bl {A A' : Hpp} {b : Bool} {Q : D → Hpp → Prop} (h : ∀ A'', Q (.bl b) A'') : Ok (gcR A (.bl b) A') Q := by
  unfold gcR
  split
  · exact ok_ok.mpr (h _)
  · split
    · exact ok_ok.mpr (h _)
    · split
      · exact ok_ok.mpr (h _)
      · exact ok_ok.mpr (h _)
theorem lowH_lst {n : Nat} {l : List D} (h : ∀ d ∈ l, d.low 0 = true) : (HOb.lst l).low n = true := lowL_of h
theorem lab_pl {m n : Int} (h1 : 0 ≤ m) (h2 : m < 2 ^ 60) (h3 : 0 ≤ n) (h4 : n < 2 ^ 60) : (labD m n).pl = true ∧ (labD m n).dp ≤ 1 := by
  have a := small400 (x := m) (by omega) (by omega)
  have b := small400 (x := n) (by omega) (by omega)
  constructor
  · simp only [labD, D.pl, D.plL, decide_eq_true a, decide_eq_true b]; rfl
  · simp [labD, D.dp, D.dpL]
theorem ixl {x : D} {l : List D} {A : Hpp} {n : Nat} {i : Int} (h : A[n]? = some (.lst l)) (hi : atI l i = some x) : opIx (.ref n) (.int i) A = .ok x A := by simp [opIx, h, hi, R.ofO]
end Rf
namespace Rf.Fd
open PySem PySem.Spec L2
local macro_rules | `(tactic| walk_at "ex") => `(tactic| try simp (decide := true) only [x_ret, x_retN, x_asg, x_if, x_drop, x_nilS, x_for, x_var, x_c, x_un, x_bin, x_test, x_and, x_or, x_not, x_ifE, x_nil, x_cons, x_tup, x_lst, x_b, x_meth, x_oNone, x_oSome, x_slice, x_call, x_gVar, x_gSub, x_range1, x_lc, x_yes, x_rg1, wipeL,
  R.bind_ok, ok_bind, ok_ok, gather, optAll, List.map_cons, List.map_nil, List.getElem?_cons_zero, List.getElem?_cons_succ, List.set_cons_zero, List.set_cons_succ, Option.map_some, List.length_cons, List.length_nil,
  List.nil_append, List.cons_append, List.replicate, Nat.reduceAdd, Nat.reduceSub, and_self, if_true, if_false, true_and, and_true, Nat.reduceEqDiff, truth_bl, ofO_some, reduceCtorEq, decide_true, decide_false, Bool.false_eq_true, Bool.not_true, Bool.not_false, or_self, or_true, true_or, or_false, false_or,
  opAdd_int, opSub_int, cmpLt_int, cmpLe_int, cmpGt_int, cmpGe_int, cmpIs_non, cmpIsNot_non, isi_str, isi_non, isi_int, isi_tup, isi_bl, len_tup, ord_one, sizeLine_eq, Nat.reduceLeDiff, x_bk, x_aug, x_par, tl_nil, tl_cons, x_tlNil, x_tlCons, x_gTup, x_gTupT, x_gStar1, ixt0, ixt1, ixt2, cmpEq_str, cmpNe_str, cmpEq_int, cmpNe_int, s_ff, s_lf, s_cf, s_cl, s_lc, s_fc, s_fl, cmpIs_bl, cmpIsNot_bl])
local macro_rules | `(tactic| walk_at "st") => `(tactic| (refine x_seq.mpr ?_; walk_at "ex"))
def G__law_feed : S :=
    (sSeq (sRet (mLst (mCons (mSlice (mVar 0) oNone (oSome (mC (.int 63)))) (mCons (mC (.int 0)) (mCons (mC (.int 0)) (mCons (mC (.int 0)) mNil))))))
    sNil)
def G__law_draw : S :=
    (sSeq (sAsg (mBin opAdd (mBin opIx (mVar 0) (mC (.int 3))) (mC (.int 1))) (gSub' (mVar 0) (mC (.int 3))))
    (sSeq (sIf (mBin cmpGt (mBin opIx (mVar 0) (mC (.int 2))) (mC (.int 0))) (sSeq (sAsg (mBin opMod (mBin opIx (mVar 0) (mC (.int 2))) (mVar 1)) (gVar 2))
    (sSeq (sAsg (mBin opFdiv (mBin opIx (mVar 0) (mC (.int 2))) (mVar 1)) (gSub' (mVar 0) (mC (.int 2))))
    (sSeq (sRet (mVar 2))
    sNil))) sNil)
    (sSeq (sAsg (mBin opIx (mVar 0) (mC (.int 1))) (gVar 3))
    (sSeq (sAsg (mBin opAdd (mVar 3) (mC (.int 1))) (gSub' (mVar 0) (mC (.int 1))))
    (sSeq (sAsg (mIf (mBin cmpGt (mB bLen (mCons (mBin opIx (mVar 0) (mC (.int 0))) mNil)) (mC (.int 0))) (mBin opIx (mBin opIx (mVar 0) (mC (.int 0))) (mBin opMod (mVar 3) (mB bLen (mCons (mBin opIx (mVar 0) (mC (.int 0))) mNil)))) (mC (.int 7))) (gVar 4))
    (sSeq (sIf (mAnd (mBin cmpGe (mVar 4) (mBin opPow (mC (.int 10)) (mC (.int 18)))) (mBin cmpLt (mVar 3) (mB bLen (mCons (mBin opIx (mVar 0) (mC (.int 0))) mNil)))) (sSeq (sAsg (mBin opFdiv (mVar 4) (mVar 1)) (gSub' (mVar 0) (mC (.int 2))))
    (sSeq (sRet (mBin opMod (mVar 4) (mVar 1)))
    sNil)) sNil)
    (sSeq (sAsg (mBin opMod (mBin opPow (mBin opAdd (mBin opAdd (mBin opMod (mVar 4) (mC (.int 2147483629))) (mBin opMul (mC (.int 120011)) (mBin opIx (mVar 0) (mC (.int 3))))) (mC (.int 71))) (mC (.int 5))) (mC (.int 2147483647))) (gVar 5))
    (sSeq (sRet (mBin opMod (mBin opFdiv (mBin opMod (mBin opPow (mBin opAdd (mVar 5) (mBin opMul (mBin opMul (mC (.int 61403)) (mBin opIx (mVar 0) (mC (.int 3)))) (mBin opIx (mVar 0) (mC (.int 3))))) (mC (.int 5))) (mC (.int 2147483587))) (mC (.int 64))) (mVar 1)))
    sNil))))))))
/-! ### the feed -/
def tapL (c : Nat) (s r k : Int) : List D := [.ref c, .int s, .int r, .int k]
def tapO (c : Nat) (s r k : Int) : HOb := .lst (tapL c s r k)
section
variable {B : Hpp} {t c : Nat} {s r k v : Int}
theorem tap_get (ht : t < B.length) : (B.set t (tapO c s r k))[t]? = some (.lst (tapL c s r k)) := by rw [List.getElem?_set_self ht]; rfl
theorem tap_cells (ht : t < B.length) : opIx (.ref t) (.int 0) (B.set t (tapO c s r k)) = .ok (.ref c) (B.set t (tapO c s r k)) := ixl (tap_get ht) rfl
theorem tap_spot (ht : t < B.length) : opIx (.ref t) (.int 1) (B.set t (tapO c s r k)) = .ok (.int s) (B.set t (tapO c s r k)) := ixl (tap_get ht) rfl
theorem tap_rest (ht : t < B.length) : opIx (.ref t) (.int 2) (B.set t (tapO c s r k)) = .ok (.int r) (B.set t (tapO c s r k)) := ixl (tap_get ht) rfl
theorem tap_calls (ht : t < B.length) : opIx (.ref t) (.int 3) (B.set t (tapO c s r k)) = .ok (.int k) (B.set t (tapO c s r k)) := ixl (tap_get ht) rfl
theorem set_lst {A : Hpp} {l : List D} {i : Int} {j : Nat} {d : D} (h : A[t]? = some (.lst l)) (hj : ixN l.length i = some j) : setIx (.ref t) (.int i) d A = .ok () (A.set t (.lst (l.set j d))) := by
  simp only [setIx, h, hj]
theorem put_spot (ht : t < B.length) : setIx (.ref t) (.int 1) (.int v) (B.set t (tapO c s r k)) = .ok () (B.set t (tapO c v r k)) := by
  rw [set_lst (j := 1) (tap_get ht) rfl, List.set_set]; rfl
theorem put_rest (ht : t < B.length) : setIx (.ref t) (.int 2) (.int v) (B.set t (tapO c s r k)) = .ok () (B.set t (tapO c s v k)) := by
  rw [set_lst (j := 2) (tap_get ht) rfl, List.set_set]; rfl
theorem put_calls (ht : t < B.length) : setIx (.ref t) (.int 3) (.int v) (B.set t (tapO c s r k)) = .ok () (B.set t (tapO c s r v)) := by
  rw [set_lst (j := 3) (tap_get ht) rfl, List.set_set]; rfl
end
structure TapAt (B : Hpp) (t c : Nat) : Prop where
  ht : t < B.length
  hc : c < B.length
  ne : t ≠ c
  cells : ∃ zs : List Int, B[c]? = some (.lst (zs.map .int)) ∧ zs.length ≤ sizeLine
  cl : Cl B
def Tp (B : Hpp) (t c n : Nat) (A : Hpp) : Prop := ∃ s r k : Int, 0 ≤ s ∧ 0 ≤ r ∧ 0 ≤ k ∧ k ≤ n ∧ A = B.set t (tapO c s r k)
def TakeS (f : CF) : Prop := ∀ B t c n A (m : Int), TapAt B t c → Tp B t c n A → n < 1000000 → 0 < m → m ≤ 2 ^ 63 → Ok (f [.ref t, .int m] A) fun d A' => ∃ i : Int, d = .int i ∧ 0 ≤ i ∧ i < m ∧ Tp B t c (n + 1) A'
theorem tp_len {B : Hpp} {t c n : Nat} {A : Hpp} (h : Tp B t c n A) : A.length = B.length := by
  obtain ⟨s, r, k, _, _, _, _, rfl⟩ := h
  simp
theorem take_ok : TakeS (run 6 2 G__law_draw) := by
  intro B t c n A m T h hn hm hm2
  obtain ⟨s, r, k, h1, h2, h3, h4, rfl⟩ := h
  obtain ⟨zs, hz, hz2⟩ := T.cells
  have ht := T.ht
  have gl : ∀ (s r k : Int), (B.set t (tapO c s r k))[c]? = some (.lst (zs.map .int)) := fun s r k => by rw [List.getElem?_set_ne T.ne]; exact hz
  have gc2 : ∀ (i s r k : Int) (A : Hpp), A.length = B.length → gcR A (.int i) (B.set t (tapO c s r k)) = .ok (.int i) (B.set t (tapO c s r k)) := fun i s r k A e => gc_same (by simp [e])
  refine ok_run rfl ?_
  unfold G__law_draw
  walk_at "st"
  rw [tap_calls ht]
  walk_at "ex"
  rw [put_calls ht]
  walk_at "ex"
  walk_at "st"
  rw [tap_rest ht]
  walk_at "ex"
  by_cases hr : 0 < r
  · rw [if_pos (by simpa using hr)]
    walk_at "st"
    rw [tap_rest ht]
    walk_at "ex"
    rw [opMod_int hm]
    walk_at "ex"
    walk_at "st"
    rw [tap_rest ht]
    walk_at "ex"
    rw [opFdiv_int (divW hm hm2)]
    walk_at "ex"
    rw [put_rest ht]
    walk_at "ex"
    walk_at "st"
    rw [gc2 _ _ _ _ _ (by simp), ok_ok]
    exact ⟨_, rfl, Int.emod_nonneg _ (by omega), Int.emod_lt_of_pos _ hm, s, r / m, k + 1, h1, Int.ediv_nonneg h2 (by omega), by omega, by omega, rfl⟩
  · rw [if_neg (by simpa using hr)]
    walk_at "ex"
    walk_at "st"
    rw [tap_spot ht]
    walk_at "ex"
    walk_at "st"
    rw [put_spot ht]
    walk_at "ex"
    walk_at "st"
    rw [tap_cells ht]
    walk_at "ex"
    rw [len_lst (gl _ _ _)]
    walk_at "ex"
    have cell : ∃ z : Int, Ok ((if (decide (0 < ((zs.map D.int).length : Int))) = true then
        (opIx (.ref t) (.int 0) (B.set t (tapO c (s + 1) r (k + 1)))).bind fun x A1 => ((((opIx (.ref t) (.int 0) A1).bind fun x A1 => R.ok [x] A1).bind bLen).bind fun y A2 => opMod (D.int s) y A2).bind fun y A2 => opIx x y A2 else (R.ok (D.int 7) (B.set t (tapO c (s + 1) r (k + 1)))))) fun d A' => d = .int z ∧ A' = B.set t (tapO c (s + 1) r (k + 1)) := by
      by_cases hp : 0 < ((zs.map D.int).length : Int)
      · rw [if_pos (by simpa using hp), tap_cells ht, R.bind_ok, tap_cells ht, R.bind_ok, R.bind_ok, len_lst (gl _ _ _), R.bind_ok, opMod_int hp, R.bind_ok]
        obtain ⟨d, hd, he, _⟩ := atI_get (l := zs.map D.int) (i := s % ((zs.map D.int).length : Int)) (Int.emod_nonneg _ (by omega)) (Int.emod_lt_of_pos _ hp)
        obtain ⟨z, _, rfl⟩ := List.mem_map.mp hd
        refine ⟨z, ?_⟩
        rw [ixl (gl _ _ _) he, ok_ok]
        exact ⟨rfl, rfl⟩
      · rw [if_neg (by simpa using hp)]
        exact ⟨7, ok_ok.mpr ⟨rfl, rfl⟩⟩
    obtain ⟨z, hcell⟩ := cell
    refine Ok.mono hcell ?_
    rintro _ _ ⟨rfl, rfl⟩
    walk_at "st"
    rw [opPow_int (by decide : CPow 10 18)]
    walk_at "ex"
    rw [tap_cells ht]
    walk_at "ex"
    rw [len_lst (gl _ _ _)]
    walk_at "ex"
    have tst : ∃ b : Bool, (b = true → 10 ^ 18 ≤ z) ∧ Ok (if decide ((10 : Int) ^ Int.toNat 18 ≤ z) = true then R.ok (D.bl (decide (s < ((zs.map D.int).length : Int)))) (B.set t (tapO c (s + 1) r (k + 1))) else R.ok (D.bl (decide ((10 : Int) ^ Int.toNat 18 ≤ z))) (B.set t (tapO c (s + 1) r (k + 1))))
        fun d A' => d = .bl b ∧ A' = B.set t (tapO c (s + 1) r (k + 1)) := by
      by_cases hp : (10 : Int) ^ Int.toNat 18 ≤ z
      · rw [if_pos (by simpa using hp)]
        exact ⟨_, fun e => hp, ok_ok.mpr ⟨rfl, rfl⟩⟩
      · rw [if_neg (by simpa using hp)]
        exact ⟨_, fun e => absurd (of_decide_eq_true e) hp, ok_ok.mpr ⟨rfl, rfl⟩⟩
    obtain ⟨b, hb, htst⟩ := tst
    refine Ok.mono htst ?_
    rintro _ _ ⟨rfl, rfl⟩
    walk_at "ex"
    cases b with
    | true =>
      have hz3 := hb rfl
      rw [if_pos rfl]
      walk_at "st"
      rw [opFdiv_int (divW hm hm2)]
      walk_at "ex"
      rw [put_rest ht]
      walk_at "ex"
      walk_at "st"
      rw [opMod_int hm]
      walk_at "ex"
      rw [gc2 _ _ _ _ _ (by simp), ok_ok]
      exact ⟨_, rfl, Int.emod_nonneg _ (by omega), Int.emod_lt_of_pos _ hm, s + 1, z / m, k + 1, by omega, Int.ediv_nonneg (by omega) (by omega), by omega, by omega, rfl⟩
    | false =>
      rw [if_neg (by decide)]
      walk_at "ex"
      walk_at "st"
      rw [opMod_int (by decide)]
      walk_at "ex"
      rw [tap_calls ht]
      walk_at "ex"
      rw [opMul_int (cmul_l (by decide) (by decide))]
      walk_at "ex"
      have m1 := Int.emod_nonneg z (show (2147483629 : Int) ≠ 0 by decide)
      have m2 := Int.emod_lt_of_pos z (show (0 : Int) < 2147483629 by decide)
      rw [opPow_int ⟨by decide, by decide, by omega⟩]
      walk_at "ex"
      rw [opMod_int (by decide)]
      walk_at "ex"
      generalize hq : (z % 2147483629 + 120011 * (k + 1) + 71) ^ Int.toNat 5 = q
      have q1 := Int.emod_nonneg q (show (2147483647 : Int) ≠ 0 by decide)
      have q2 := Int.emod_lt_of_pos q (show (0 : Int) < 2147483647 by decide)
      walk_at "st"
      rw [tap_calls ht]
      walk_at "ex"
      rw [opMul_int (cmul_l (by decide) (by decide))]
      walk_at "ex"
      rw [tap_calls ht]
      walk_at "ex"
      rw [opMul_int (cmul_l (by omega) (by omega))]
      walk_at "ex"
      have kk : 0 ≤ 61403 * (k + 1) * (k + 1) ∧ 61403 * (k + 1) * (k + 1) ≤ 61403 * 1000000 * 1000000 :=
        ⟨Int.mul_nonneg (by omega) (by omega), Int.mul_le_mul (by omega) (by omega) (by omega) (by omega)⟩
      generalize 61403 * (k + 1) * (k + 1) = kk2 at kk
      rw [opPow_int ⟨by decide, by decide, by omega⟩]
      walk_at "ex"
      rw [opMod_int (by decide)]
      walk_at "ex"
      rw [opFdiv_int (divW (by decide) (by decide))]
      walk_at "ex"
      rw [opMod_int hm]
      walk_at "ex"
      rw [gc2 _ _ _ _ _ (by simp), ok_ok]
      exact ⟨_, rfl, Int.emod_nonneg _ (by omega), Int.emod_lt_of_pos _ hm, s + 1, r, k + 1, by omega, by omega, by omega, by omega, rfl⟩
theorem tap_ok (ns : List Int) (hn : ns.length ≤ sizeLine) : ∃ B, run 1 1 G__law_feed [.ref 0] [.rd (ns.map .int)] = .ok (.ref 2) B ∧ TapAt B 2 1 ∧ Tp B 2 1 0 B := by
  have hh : Ok (run 1 1 G__law_feed [.ref 0] [.rd (ns.map .int)]) fun d B => d = .ref 2 ∧ B = [.rd (ns.map .int), .lst (cutD (ns.map .int) none (some 63)), tapO 1 0 0 0] := by
    refine ok_run rfl ?_
    unfold G__law_feed
    refine x_seq.mpr ?_
    simp only [x_ret, x_lst, x_c, x_cons, x_nil, x_slice, x_var, x_oNone, x_oSome, R.bind_ok, ok_bind, ok_ok, List.map_cons, List.map_nil, List.cons_append, List.nil_append, List.getElem?_cons_zero, List.getElem?_cons_succ, opSl, List.length_cons, List.length_nil]
    rw [if_pos (by rw [sizeLine_eq]; decide), ok_ok]
    unfold gcR
    rw [if_neg (by simp), if_neg (by simp [D.low]), if_neg (by simp [D.low])]
    simp only [Nat.zero_add, List.getElem?_cons_succ, List.getElem?_cons_zero, List.length_cons, List.length_nil]
    rw [if_neg (by simp [HOb.low, D.lowL, D.low]), ok_ok]
    exact ⟨rfl, rfl⟩
  obtain ⟨d, B, e, rfl, rfl⟩ := hh
  refine ⟨_, e, ⟨by simp, by simp, by decide, ⟨ns.drop (HT.sIx ns.length 0 none) |>.take (HT.sIx ns.length ns.length (some 63) - HT.sIx ns.length 0 none), ?_, ?_⟩, ?_⟩, ⟨0, 0, 0, by decide, by decide, by decide, by decide, rfl⟩⟩
  · show some (HOb.lst _) = _
    simp [cutD, List.map_drop, List.map_take]
  · rw [List.length_take, List.length_drop]; omega
  · have li : ∀ (n : Nat) (l : List Int), D.lowL n (l.map D.int) = true := by
      intro n l
      induction l with
      | nil => rfl
      | cons x l ih => simp [D.lowL, D.low, ih]
    have lc : D.lowL 3 (cutD (ns.map D.int) none (some 63)) = true := by
      simp only [cutD, ← List.map_drop, ← List.map_take]
      exact li _ _
    simp [Cl, HOb.low, tapO, tapL, D.lowL, D.low, li, lc]
theorem Tp.mono {B : Hpp} {t c n m : Nat} {A : Hpp} (h : Tp B t c n A) (hm : n ≤ m) : Tp B t c m A := by
  obtain ⟨s, r, k, h1, h2, h3, h4, e⟩ := h
  exact ⟨s, r, k, h1, h2, h3, by omega, e⟩
theorem tp_app {B X : Hpp} {t c n : Nat} {A : Hpp} (T : TapAt B t c) : Tp (B ++ X) t c n A ↔ ∃ A1, A = A1 ++ X ∧ Tp B t c n A1 := by
  constructor
  · rintro ⟨s, r, k, h1, h2, h3, h4, rfl⟩
    exact ⟨_, List.set_append_left _ _ T.ht, s, r, k, h1, h2, h3, h4, rfl⟩
  · rintro ⟨_, rfl, s, r, k, h1, h2, h3, h4, rfl⟩
    exact ⟨s, r, k, h1, h2, h3, h4, (List.set_append_left _ _ T.ht).symm⟩
theorem tapAt_app {B X : Hpp} {t c : Nat} (T : TapAt B t c) (hx : ∀ o ∈ X, HOb.low (B.length + X.length) o = true) : TapAt (B ++ X) t c := by
  obtain ⟨ht, hc, ne, ⟨zs, hz, hl⟩, cl⟩ := T
  exact ⟨by rw [List.length_append]; omega, by rw [List.length_append]; omega, ne, ⟨zs, by rw [List.getElem?_append_left hc]; exact hz, hl⟩, cl_app cl hx⟩
theorem tapAt_list {B : Hpp} {t c : Nat} (T : TapAt B t c) {l : List D} (hl : ∀ d ∈ l, d.low 0 = true) : TapAt (B ++ [.lst l]) t c := by
  refine tapAt_app T fun o ho => ?_
  rw [List.mem_singleton.mp ho]
  exact lowL_of hl
theorem tp_cl {B : Hpp} {t c n : Nat} {A : Hpp} (T : TapAt B t c) (h : Tp B t c n A) : Cl A := by
  obtain ⟨s, r, k, _, _, _, _, rfl⟩ := h
  refine cl_set T.cl ?_
  simp [tapO, tapL, HOb.low, D.lowL, D.low, T.hc]
theorem tp_gc {B X A A1 : Hpp} {t c n n' : Nat} {d : D} (T : TapAt B t c) (h : Tp B t c n A) (h' : Tp B t c n' A1) (hd : d.low 0 = true) : gcR A d (A1 ++ X) = .ok d A1 :=
  gc_low (by rw [tp_len h, tp_len h']) (low_mono (Nat.zero_le _) d hd) (tp_cl T h')
theorem tp_gc0 {B A A1 : Hpp} {t c n n' : Nat} {d : D} (h : Tp B t c n A) (h' : Tp B t c n' A1) : gcR A d A1 = .ok d A1 := gc_same (by rw [tp_len h, tp_len h']; exact Nat.le_refl _)
theorem tp_get {B A : Hpp} {t c n p : Nat} (h : Tp B t c n A) (hp : p ≠ t) : A[p]? = B[p]? := by
  obtain ⟨s, r, k, _, _, _, _, rfl⟩ := h
  rw [List.getElem?_set_ne (Ne.symm hp)]
theorem lc_tap {B : Hpp} {t c v m N : Nat} {its : List D} {e : M} {L : Loc} {P : D → Prop} (T : TapAt B t c) (hP : ∀ d, P d → d.low 0 = true)
    (he : ∀ B n A i, TapAt B t c → Tp B t c n A → n + m ≤ N → Ok (e (L.set v (some i)) A) fun d A' => Tp B t c (n + m) A' ∧ P d) :
    ∀ (ds acc : List D) (n : Nat) (A1 : Hpp), Tp B t c n A1 → n + m * ds.length ≤ N → (∀ d ∈ acc, P d) → acc.length + ds.length < sizeLine →
      Ok (lcLoop (.its its) B.length (gVar v) mYes e L ds (A1 ++ [.lst acc])) fun _ A' => ∃ A2 acc', A' = A2 ++ [.lst acc'] ∧ Tp B t c (n + m * ds.length) A2 ∧ (∀ d ∈ acc', P d) ∧ acc'.length = acc.length + ds.length
  | [], acc, n, A1, h, _, ha, _ => by
    unfold lcLoop
    rw [if_pos (show Src.still _ (.its its) = true from rfl), ok_ok]
    exact ⟨A1, acc, rfl, h, ha, rfl⟩
  | i :: ds, acc, n, A1, h, hN, ha, hs => by
    rw [List.length_cons] at hN hs
    have e1 : m * (ds.length + 1) = m * ds.length + m := Nat.mul_succ ..
    unfold lcLoop
    rw [if_pos (show Src.still _ (.its its) = true from rfl)]
    simp only [x_gVar, x_yes, R.bind_ok, if_true, ok_bind]
    refine Ok.mono (he _ n _ i (tapAt_list T fun d hd => hP d (ha d hd)) ((tp_app T).mpr ⟨A1, rfl, h⟩) (by omega)) ?_
    rintro d A' ⟨h1, hd⟩
    obtain ⟨A2, rfl, h2⟩ := (tp_app T).mp h1
    have eg : (A2 ++ [HOb.lst acc])[B.length]? = some (.lst acc) := by rw [← tp_len h2]; simp
    simp only [eg]
    rw [if_pos (by omega)]
    have es : (A2 ++ [HOb.lst acc]).set B.length (.lst (acc ++ [d])) = A2 ++ [.lst (acc ++ [d])] := by rw [← tp_len h2]; simp
    rw [es]
    refine Ok.mono (lc_tap T hP he ds (acc ++ [d]) (n + m) A2 h2 (by omega) (fun x hx => ?_) (by simp; omega)) ?_
    · rcases List.mem_append.mp hx with z | z
      · exact ha x z
      · rw [List.mem_singleton.mp z]; exact hd
    · rintro _ A' ⟨A3, acc', rfl, h3, h4, h5⟩
      refine ⟨A3, acc', rfl, ?_, h4, ?_⟩
      · refine h3.mono ?_
        rw [List.length_cons]; omega
      · rw [h5]; simp; omega
theorem lc_tapB {B : Hpp} {t c v m N : Nat} {its : List D} {e : M} {L : Loc} {P : D → Prop} (T : TapAt B t c) (hP : ∀ d, P d → d.low 0 = true)
    (he : ∀ acc n A i, TapAt (B ++ [.lst acc]) t c → Tp (B ++ [.lst acc]) t c n A → n + m ≤ N → Ok (e (L.set v (some i)) A) fun d A' => Tp (B ++ [.lst acc]) t c (n + m) A' ∧ P d) :
    ∀ (ds acc : List D) (n : Nat) (A1 : Hpp), Tp B t c n A1 → n + m * ds.length ≤ N → (∀ d ∈ acc, P d) → acc.length + ds.length < sizeLine →
      Ok (lcLoop (.its its) B.length (gVar v) mYes e L ds (A1 ++ [.lst acc])) fun _ A' => ∃ A2 acc', A' = A2 ++ [.lst acc'] ∧ Tp B t c (n + m * ds.length) A2 ∧ (∀ d ∈ acc', P d) ∧ acc'.length = acc.length + ds.length
  | [], acc, n, A1, h, _, ha, _ => by
    unfold lcLoop
    rw [if_pos (show Src.still _ (.its its) = true from rfl), ok_ok]
    exact ⟨A1, acc, rfl, h, ha, rfl⟩
  | i :: ds, acc, n, A1, h, hN, ha, hs => by
    rw [List.length_cons] at hN hs
    have e1 : m * (ds.length + 1) = m * ds.length + m := Nat.mul_succ ..
    unfold lcLoop
    rw [if_pos (show Src.still _ (.its its) = true from rfl)]
    simp only [x_gVar, x_yes, R.bind_ok, if_true, ok_bind]
    refine Ok.mono (he _ n _ i (tapAt_list T fun d hd => hP d (ha d hd)) ((tp_app T).mpr ⟨A1, rfl, h⟩) (by omega)) ?_
    rintro d A' ⟨h1, hd⟩
    obtain ⟨A2, rfl, h2⟩ := (tp_app T).mp h1
    have eg : (A2 ++ [HOb.lst acc])[B.length]? = some (.lst acc) := by rw [← tp_len h2]; simp
    simp only [eg]
    rw [if_pos (by omega)]
    have es : (A2 ++ [HOb.lst acc]).set B.length (.lst (acc ++ [d])) = A2 ++ [.lst (acc ++ [d])] := by rw [← tp_len h2]; simp
    rw [es]
    refine Ok.mono (lc_tapB T hP he ds (acc ++ [d]) (n + m) A2 h2 (by omega) (fun x hx => ?_) (by simp; omega)) ?_
    · rcases List.mem_append.mp hx with z | z
      · exact ha x z
      · rw [List.mem_singleton.mp z]; exact hd
    · rintro _ A' ⟨A3, acc', rfl, h3, h4, h5⟩
      refine ⟨A3, acc', rfl, ?_, h4, ?_⟩
      · refine h3.mono ?_
        rw [List.length_cons]; omega
      · rw [h5]; simp; omega
end Rf.Fd
namespace Rf
open PySem PySem.Spec L2
/-! ### the split, by powers -/
theorem splF_pow : ∀ (k : Nat) (f n : Int), 1 ≤ f → f < n → n ≤ f * 2 ^ (k + 1) → ∃ j : Nat, splF k f n = f * 2 ^ j ∧ f * 2 ^ j < n ∧ n ≤ f * 2 ^ (j + 1)
  | 0, f, n, h1, h2, h3 => ⟨0, by simp [splF], by simpa using h2, h3⟩
  | k + 1, f, n, h1, h2, h3 => by
    simp only [splF]
    by_cases h : 2 * f < n
    · rw [if_pos h]
      have e : 2 * f * 2 ^ (k + 1) = f * 2 ^ (k + 1 + 1) := by rw [Int.pow_succ 2 (k + 1), Int.mul_comm 2 f, Int.mul_assoc, Int.mul_comm 2]
      obtain ⟨j, a, b, c⟩ := splF_pow k (2 * f) n (by omega) h (by omega)
      have e2 : ∀ i : Nat, 2 * f * 2 ^ i = f * 2 ^ (i + 1) := fun i => by rw [Int.pow_succ 2 i, Int.mul_comm 2 f, Int.mul_assoc, Int.mul_comm 2]
      exact ⟨j + 1, by rw [a, e2], by rw [← e2]; exact b, by rw [← e2]; exact c⟩
    · rw [if_neg h]
      refine ⟨0, by simp, by simpa using h2, ?_⟩
      rw [Int.pow_succ]; omega
theorem spl_pow {n : Int} (h : 2 ≤ n) (h2 : n < 2 ^ 60) : ∃ j : Nat, spl n = 2 ^ j ∧ 2 ^ j < n ∧ n ≤ 2 ^ (j + 1) := by
  obtain ⟨j, a, b, c⟩ := splF_pow 64 1 n (by decide) (by omega) (by omega)
  exact ⟨j, by rw [show spl n = splF 64 1 n from rfl, a, Int.one_mul], by omega, by omega⟩
theorem pow_lt {i j : Nat} (h : i < j) : (2 : Int) ^ (i + 1) ≤ 2 ^ j := by
  have : (2 : Nat) ^ (i + 1) ≤ 2 ^ j := Nat.pow_le_pow_right (by decide) h
  exact_mod_cast this
/-- the split of fewer, beyond the split -/
theorem spl_same {n s : Int} (h : 2 ≤ n) (h2 : n < 2 ^ 60) (h3 : spl n < s) (h4 : s ≤ n) : spl s = spl n := by
  obtain ⟨i, a, b, c⟩ := spl_pow h h2
  have := spl_rng h
  obtain ⟨j, a', b', c'⟩ := spl_pow (n := s) (by omega) (by omega)
  rw [a] at h3
  rw [a, a']
  rcases Nat.lt_trichotomy i j with q | q | q
  · have := pow_lt q; omega
  · rw [q]
  · have := pow_lt q; omega
/-! ### labels of rows of leaves -/
def fk (b : Int) (p q : Int × Int) : Int × Int := (mark b (.tup [labD p.1 p.2, labD q.1 q.2]), p.2 + q.2)
theorem spl_nat {l : List D} (h : ¬ l.length < 2) : (spl l.length).toNat < l.length ∧ 0 < (spl l.length).toNat := by
  have := spl_rng (n := (l.length : Int)) (by omega)
  omega
def lbl (b : Int) (l : List D) : Int × Int :=
  if h : l.length < 2 then (match l with | [] => (0, 0) | d :: _ => (mark b d, 1))
  else fk b (lbl b (l.take (spl l.length).toNat)) (lbl b (l.drop (spl l.length).toNat))
termination_by l.length
decreasing_by
  · have := spl_nat h; rw [List.length_take]; omega
  · have := spl_nat h; rw [List.length_drop]; omega
theorem lbl_nil {b : Int} : lbl b [] = (0, 0) := by rw [lbl]; rfl
theorem lbl_one {b : Int} {d : D} : lbl b [d] = (mark b d, 1) := by rw [lbl]; rfl
theorem lbl_more {b : Int} {l : List D} (h : ¬ l.length < 2) : lbl b l = fk b (lbl b (l.take (spl l.length).toNat)) (lbl b (l.drop (spl l.length).toNat)) := by
  conv => lhs; rw [lbl]
  rw [dif_neg h]
theorem lbl_cnt (b : Int) (n : Nat) : ∀ l : List D, l.length ≤ n → (lbl b l).2 = l.length := by
  induction n with
  | zero =>
    intro l h
    obtain rfl : l = [] := List.eq_nil_of_length_eq_zero (by omega)
    rw [lbl_nil]; rfl
  | succ n ih =>
    intro l h
    by_cases h2 : l.length < 2
    · match l, h2 with
      | [], _ => rw [lbl_nil]; rfl
      | [d], _ => rw [lbl_one]; rfl
    · have s := spl_nat h2
      rw [lbl_more h2]
      simp only [fk]
      rw [ih _ (by rw [List.length_take]; omega), ih _ (by rw [List.length_drop]; omega), List.length_take, List.length_drop]
      omega
theorem lbl_rng {b : Int} (hb : 0 < b) (l : List D) : 0 ≤ (lbl b l).1 ∧ (lbl b l).1 < b ∨ l = [] := by
  match l with
  | [] => exact .inr rfl
  | [d] => rw [lbl_one]; exact .inl (mark_rngA hb d)
  | d :: e :: l =>
    rw [lbl_more (by simp)]
    exact .inl (mark_rngA hb _)
/-! ### grown trees -/
def gt (b : Int) (l : List D) (s : Int) : Pr :=
  if h : s = 0 ∨ s = l.length ∨ l.length < 2 then .cut (lbl b l).1 (lbl b l).2
  else .fork (gt b (l.take (spl l.length).toNat) (min s (spl l.length))) (gt b (l.drop (spl l.length).toNat) (max 0 (s - spl l.length)))
termination_by l.length
decreasing_by
  · have := spl_nat (l := l) (by omega); rw [List.length_take]; omega
  · have := spl_nat (l := l) (by omega); rw [List.length_drop]; omega
theorem gt_cut {b : Int} {l : List D} {s : Int} (h : s = 0 ∨ s = l.length) : gt b l s = .cut (lbl b l).1 (lbl b l).2 := by
  rw [gt, dif_pos (by omega)]
theorem gt_fork {b : Int} {l : List D} {s : Int} (h : ¬ (s = 0 ∨ s = l.length)) (h2 : ¬ l.length < 2) : gt b l s = .fork (gt b (l.take (spl l.length).toNat) (min s (spl l.length))) (gt b (l.drop (spl l.length).toNat) (max 0 (s - spl l.length))) := by
  conv => lhs; rw [gt]
  rw [dif_neg (by omega)]
/-- the label of the first c leaves -/
def Pr.ahd (b : Int) : Pr → Int → Option (Int × Int)
  | .fork l r, c => if c = 0 then some (0, 0) else if c = l.cnt + r.cnt then some ((Pr.fork l r).lab b) else if c ≤ l.cnt then l.ahd b c else (r.ahd b (c - l.cnt)).map fun q => fk b (l.lab b) q
  | .leaf d, c => if c = 0 then some (0, 0) else if c = 1 then some (mark b d, 1) else none
  | .cut m n, c => if c = 0 then some (0, 0) else if c = n then some (m, n) else none
theorem gt_facts {b : Int} (hb : 0 < b) (hb2 : b ≤ 2 ^ 50) (n : Nat) : ∀ (l : List D) (s : Int), l.length ≤ n → l.length < 2 ^ 40 → 1 ≤ l.length → 0 ≤ s → s ≤ l.length →
    (gt b l s).cnt = l.length ∧ (gt b l s).shape = true ∧ (gt b l s).lab b = lbl b l ∧ (gt b l s).hgt < l.length ∧ (∀ j, (gt b l s).ok j) ∧ (gt b l s).ahd b s = some (lbl b (l.take s.toNat)) := by
  induction n with
  | zero => intro l s h _ h1; omega
  | succ n ih =>
    intro l s h h40 h1 hs hs2
    by_cases hc : s = 0 ∨ s = l.length
    · rw [gt_cut hc]
      have c1 := lbl_cnt b _ l (Nat.le_refl _)
      have r1 := lbl_rng hb l
      refine ⟨by simp only [Pr.cnt]; exact c1, rfl, rfl, by simp only [Pr.hgt]; omega, fun j => ?_, ?_⟩
      · rcases r1 with r1 | r1
        · exact ⟨r1.1, by omega, by omega, by omega⟩
        · rw [r1] at h1; simp at h1
      · simp only [Pr.ahd, c1]
        by_cases h0 : s = 0
        · rw [if_pos h0, h0]
          simp [lbl_nil]
        · rw [if_neg h0, if_pos (by omega)]
          have : s.toNat = l.length := by omega
          rw [this, List.take_length, ← c1]
    · have h2 : ¬ l.length < 2 := by omega
      rw [gt_fork hc h2]
      have sn := spl_nat h2
      have sr := spl_rng (n := (l.length : Int)) (by omega)
      have key := spl_same (n := (l.length : Int)) (s := s) (by omega) (by omega)
      generalize hk : spl (l.length : Int) = k at *
      have l1 : (l.take k.toNat).length = k.toNat := by rw [List.length_take]; omega
      have l2 : (l.drop k.toNat).length = l.length - k.toNat := List.length_drop
      obtain ⟨a1, a2, a3, a4, a5, a6⟩ := ih (l.take k.toNat) (min s k) (by omega) (by omega) (by omega) (by omega) (by omega)
      obtain ⟨b1, b2, b3, b4, b5, b6⟩ := ih (l.drop k.toNat) (max 0 (s - k)) (by omega) (by omega) (by omega) (by omega) (by omega)
      have lm : lbl b l = fk b (lbl b (l.take k.toNat)) (lbl b (l.drop k.toNat)) := by rw [lbl_more h2, hk]
      refine ⟨by simp only [Pr.cnt]; omega, ?_, ?_, by simp only [Pr.hgt]; omega, fun j => ⟨a5 j, b5 j⟩, ?_⟩
      · simp only [Pr.shape, a2, b2, Bool.and_true, decide_eq_true_eq]
        have : (gt b (l.take k.toNat) (min s k)).cnt + (gt b (l.drop k.toNat) (max 0 (s - k))).cnt = (l.length : Int) := by omega
        rw [this, hk]; omega
      · rw [lm]
        simp only [Pr.lab, a3, b3]
        rfl
      · simp only [Pr.ahd]
        rw [if_neg (by omega), if_neg (by omega)]
        by_cases hle : s ≤ k
        · rw [if_pos (by omega)]
          rw [show min s k = s by omega] at a6 ⊢
          rw [a6, List.take_take, show min s.toNat k.toNat = s.toNat by omega]
        · rw [if_neg (by omega)]
          have em : max 0 (s - k) = s - k := by omega
          have ek : (gt b (l.take k.toNat) (min s k)).cnt = k := by omega
          rw [ek]
          rw [em] at b6 ⊢
          rw [b6, a3]
          simp only [Option.map_some]
          congr 1
          have e1 : (l.take s.toNat).length = s.toNat := by rw [List.length_take]; omega
          rw [lbl_more (l := l.take s.toNat) (by omega), e1]
          have e2 : spl ((s.toNat : Nat) : Int) = k := by
            rw [show ((s.toNat : Nat) : Int) = s by omega]
            exact key (by omega) (by omega)
          rw [e2, List.take_take, show min k.toNat s.toNat = k.toNat by omega, List.drop_take]
          congr 3
          omega
theorem pyL_map : ∀ l : List D, D.pyL l = l.map D.py
  | [] => rfl
  | d :: l => by simp [D.pyL, pyL_map l]
theorem in_ints {i a c : Int} {A : Hpp} (hi : i.natAbs < 2 ^ 400) (ha : a.natAbs < 2 ^ 400) (hc : c.natAbs < 2 ^ 400) : cmpIn (.int i) (.tup [.int a, .int c]) A = .ok (.bl (decide (i = a) || decide (i = c))) A := by
  have px : (D.int i).pl = true := decide_eq_true hi
  have pl : (D.tup [.int a, .int c]).pl = true := by
    simp only [D.pl, D.plL, decide_eq_true ha, decide_eq_true hc]; rfl
  have sx := snap_py (A := A) deepest (.int i) px (by simp [D.dp])
  have sy := snap_py (A := A) deepest (.tup [.int a, .int c]) pl (by simp [D.dp, D.dpL, deepest])
  have h1 := shaped_py px (by simp [D.dp])
  have h2 := shaped_py pl (by simp [D.dp, D.dpL])
  have e : inD (.int i) (.tup [.int a, .int c]) A = some (decide (i = a) || decide (i = c)) := by
    show inS (.int i) (.tup [.int a, .int c]) A = _
    simp only [D.py, D.pyL] at sx sy h1 h2
    unfold inS
    rw [sx, sy]
    simp only [h1, h2]
    rw [if_pos (by decide)]
    simp only [List.any_cons, List.any_nil, Bool.or_false, PyData.eqv]
    have q : ∀ u v : Int, (u == v) = decide (v = u) := fun u v => by rw [show (u == v) = decide (u = v) from rfl]; exact decide_eq_decide.mpr eq_comm
    first
      | rw [q, q]
      | rfl
  unfold cmpIn
  rw [e]; rfl
end Rf
namespace Rf.Fd
open PySem PySem.Spec L2
local macro_rules | `(tactic| walk_at "ex") => `(tactic| try simp (decide := true) only [x_ret, x_retN, x_asg, x_if, x_drop, x_nilS, x_for, x_var, x_c, x_un, x_bin, x_test, x_and, x_or, x_not, x_ifE, x_nil, x_cons, x_tup, x_lst, x_b, x_meth, x_oNone, x_oSome, x_slice, x_call, x_gVar, x_gSub, x_range1, x_lc, x_yes, x_rg1, wipeL,
  R.bind_ok, ok_bind, ok_ok, gather, optAll, List.map_cons, List.map_nil, List.getElem?_cons_zero, List.getElem?_cons_succ, List.set_cons_zero, List.set_cons_succ, Option.map_some, List.length_cons, List.length_nil,
  List.nil_append, List.cons_append, List.replicate, Nat.reduceAdd, Nat.reduceSub, and_self, if_true, if_false, true_and, and_true, Nat.reduceEqDiff, truth_bl, ofO_some, reduceCtorEq, decide_true, decide_false, Bool.false_eq_true, Bool.not_true, Bool.not_false, or_self, or_true, true_or, or_false, false_or,
  opAdd_int, opSub_int, cmpLt_int, cmpLe_int, cmpGt_int, cmpGe_int, cmpIs_non, cmpIsNot_non, isi_str, isi_non, isi_int, isi_tup, isi_bl, len_tup, ord_one, sizeLine_eq, Nat.reduceLeDiff, x_bk, x_aug, x_par, tl_nil, tl_cons, x_tlNil, x_tlCons, x_gTup, x_gTupT, x_gStar1, ixt0, ixt1, ixt2, cmpEq_str, cmpNe_str, cmpEq_int, cmpNe_int, s_ff, s_lf, s_cf, s_cl, s_lc, s_fc, s_fl, cmpIs_bl, cmpIsNot_bl])
local macro_rules | `(tactic| walk_at "st") => `(tactic| (refine x_seq.mpr ?_; walk_at "ex"))
/-! ### the program: labels of rows, grown trees -/
def G_tree_label (c_forked c_tree_label c_split_of c_leaf_label : List D → Hpp → R D) : S :=
    (sSeq (sIf (mBin cmpEq (mB bLen (mCons (mVar 0) mNil)) (mC (.int 0))) (sSeq (sRet (mC (.tup [(.int 0), (.int 0)])))
    sNil) sNil)
    (sSeq (sIf (mBin cmpEq (mB bLen (mCons (mVar 0) mNil)) (mC (.int 1))) (sSeq (sRet (mCallV c_leaf_label 1 1 [.pos 0, .kw 0] (mCons (mBin opIx (mVar 0) (mC (.int 0))) mNil) (mCons (mVar 1) mNil)))
    sNil) sNil)
    (sSeq (sAsg (mCallV c_split_of 1 0 [.pos 0] (mCons (mB bLen (mCons (mVar 0) mNil)) mNil) mNil) (gVar 2))
    (sSeq (sRet (mCallV c_forked 2 1 [.pos 0, .pos 1, .kw 0] (mCons (mCallV c_tree_label 1 1 [.pos 0, .kw 0] (mCons (mSlice (mVar 0) oNone (oSome (mVar 2))) mNil) (mCons (mVar 1) mNil)) (mCons (mCallV c_tree_label 1 1 [.pos 0, .kw 0] (mCons (mSlice (mVar 0) (oSome (mVar 2)) oNone) mNil) (mCons (mVar 1) mNil)) mNil)) (mCons (mVar 1) mNil)))
    sNil))))
def TopS (j k : Nat) (c : CF) : Prop := ∀ (l : List D) (b : Int) (A : Hpp), (∀ d ∈ l, d.th = true ∧ d.dp ≤ j) → l.length ≤ k → 0 < b → b ≤ 2 ^ 63 → c [.tup l, .int b] A = .ok (labD (lbl b l).1 (lbl b l).2) A
theorem sl_tup {l : List D} {lo hi : Option Int} {A : Hpp} : opSl (.tup l) lo hi A = .ok (.tup (cutD l lo hi)) A := rfl
theorem treelab_ok {c_fork c_tl c_split c_leaf : CF} {j : Nat} (hf : ForkS c_fork) (hs : SplitS c_split) (hl : LeafS j c_leaf) {k : Nat} (hk9 : k ≤ 100000) (hk : ∀ i, i < k → TopS j i c_tl) : TopS j k (run 3 2 (G_tree_label c_fork c_tl c_split c_leaf)) := by
  intro l b A hl2 hlk hb hb2
  apply ok_eq
  refine ok_run rfl ?_
  unfold G_tree_label
  walk_at "st"
  by_cases h0 : l.length = 0
  · rw [if_pos (by simp [h0])]
    obtain rfl := List.eq_nil_of_length_eq_zero h0
    walk_at "st"
    rw [gc_self, ok_ok, lbl_nil]; exact ⟨rfl, rfl⟩
  rw [if_neg (by rw [decide_eq_true_eq]; omega)]
  walk_at "ex"
  walk_at "st"
  by_cases h : l.length = 1
  · rw [if_pos (by simp [h])]
    obtain ⟨d, rfl⟩ := List.length_eq_one_iff.mp h
    walk_at "st"
    obtain ⟨t1, t2⟩ := hl2 d (by simp)
    rw [hl d b A t1 t2 hb hb2]
    walk_at "ex"
    rw [gc_self, ok_ok, lbl_one]; exact ⟨rfl, rfl⟩
  rw [if_neg (by rw [decide_eq_true_eq]; omega)]
  walk_at "ex"
  walk_at "st"
  rw [hs _ A (by omega) (by omega)]
  walk_at "ex"
  obtain ⟨s1, s2⟩ := spl_rng (n := (l.length : Int)) (by omega)
  walk_at "st"
  rw [sl_tup, cut_lo l (by omega) (by omega)]
  walk_at "ex"
  rw [hk (k - 1) (by omega) (l.take (spl l.length).toNat) b A (fun d hd => hl2 d (List.mem_of_mem_take hd)) (by simp; omega) hb hb2]
  walk_at "ex"
  rw [sl_tup, cut_hi l (by omega) (by omega)]
  walk_at "ex"
  rw [hk (k - 1) (by omega) (l.drop (spl l.length).toNat) b A (fun d hd => hl2 d (List.mem_of_mem_drop hd)) (by simp; omega) hb hb2]
  walk_at "ex"
  rw [hf _ _ _ _ b _ hb hb2]
  walk_at "ex"
  rw [gc_self, ok_ok, lbl_more (b := b) (l := l) (by omega)]
  exact ⟨rfl, rfl⟩
def G_grown_tree (c_grown_tree c_split_of c_tree_label : List D → Hpp → R D) : S :=
    (sSeq (sIf (mNot (mChain cmpLe cmpLe (mC (.int 0)) (mVar 1) (mB bLen (mCons (mVar 0) mNil)))) (sSeq sBad
    sNil) sNil)
    (sSeq (sIf (mBin cmpIn (mVar 1) (mTup (mCons (mC (.int 0)) (mCons (mB bLen (mCons (mVar 0) mNil)) mNil)))) (sSeq (sRet (mTup (mCons (mC (.str "cut")) (mCons (mCallV c_tree_label 1 1 [.pos 0, .kw 0] (mCons (mVar 0) mNil) (mCons (mVar 2) mNil)) mNil))))
    sNil) sNil)
    (sSeq (sAsg (mCallV c_split_of 1 0 [.pos 0] (mCons (mB bLen (mCons (mVar 0) mNil)) mNil) mNil) (gVar 3))
    (sSeq (sAsg (mCallV c_grown_tree 2 1 [.pos 0, .pos 1, .kw 0] (mCons (mSlice (mVar 0) oNone (oSome (mVar 3))) (mCons (mB bMin2 (mCons (mVar 1) (mCons (mVar 3) mNil))) mNil)) (mCons (mVar 2) mNil)) (gVar 4))
    (sSeq (sRet (mTup (mCons (mC (.str "fork")) (mCons (mVar 4) (mCons (mCallV c_grown_tree 2 1 [.pos 0, .pos 1, .kw 0] (mCons (mSlice (mVar 0) (oSome (mVar 3)) oNone) (mCons (mB bMax2 (mCons (mC (.int 0)) (mCons (mBin opSub (mVar 1) (mVar 3)) mNil))) mNil)) (mCons (mVar 2) mNil)) mNil)))))
    sNil)))))
theorem max2 {i j : Int} {A : Hpp} : bMax2 [.int i, .int j] A = .ok (.int (if j > i then j else i)) A := rfl
theorem x_chain {op op' : D → D → Hpp → R D} {a b c : M} {L : Loc} {A : Hpp} : mChain op op' a b c L A = (a L A).bind fun x A1 => (b L A1).bind fun y A2 => (op x y A2).bind fun z A3 =>
  match z with
  | .bl true => (c L A3).bind fun w A4 => op' y w A4
  | .bl false => .ok (.bl false) A3
  | _ => .bad := rfl
def GrownS (j k : Nat) (c : CF) : Prop := ∀ (l : List D) (s b : Int) (A : Hpp), (∀ d ∈ l, d.th = true ∧ d.dp ≤ j) → 1 ≤ l.length → l.length ≤ k → 0 ≤ s → s ≤ l.length → 0 < b → b ≤ 2 ^ 63 → c [.tup l, .int s, .int b] A = .ok (gt b l s).d A
theorem grown_ok {c_gt c_split c_tl : CF} {j : Nat} (hs : SplitS c_split) {k : Nat} (hk9 : k ≤ 100000) (htl : TopS j k c_tl) (hk : ∀ i, i < k → GrownS j i c_gt) : GrownS j k (run 5 3 (G_grown_tree c_gt c_split c_tl)) := by
  intro l s b A hl h1 hlk hs0 hs1 hb hb2
  apply ok_eq
  refine ok_run rfl ?_
  unfold G_grown_tree
  refine x_seq.mpr ?_
  simp only [x_if, x_test, x_not, x_chain]
  walk_at "ex"
  rw [decide_eq_true hs0]
  walk_at "ex"
  rw [decide_eq_true hs1]
  walk_at "ex"
  walk_at "st"
  rw [in_ints (small400 (by omega) (by omega)) (by decide) (small400 (by omega) (by omega))]
  walk_at "ex"
  by_cases hc : s = 0 ∨ s = l.length
  · rw [if_pos (by simpa using hc)]
    walk_at "st"
    rw [htl l b A hl hlk hb hb2]
    walk_at "ex"
    rw [gc_self, ok_ok, gt_cut hc]
    exact ⟨rfl, rfl⟩
  · rw [if_neg (by simpa using hc)]
    walk_at "ex"
    walk_at "st"
    rw [hs _ A (by omega) (by omega)]
    walk_at "ex"
    obtain ⟨s1, s2⟩ := spl_rng (n := (l.length : Int)) (by omega)
    have e1 : (if spl (l.length : Int) < s then spl (l.length : Int) else s) = min s (spl l.length) := by split <;> omega
    have e2 : (if s - spl (l.length : Int) > 0 then s - spl (l.length : Int) else 0) = max 0 (s - spl l.length) := by split <;> omega
    walk_at "st"
    rw [sl_tup, cut_lo l (by omega) (by omega)]
    walk_at "ex"
    rw [min2]
    walk_at "ex"
    rw [e1, hk (k - 1) (by omega) (l.take (spl l.length).toNat) _ b A (fun d hd => hl d (List.mem_of_mem_take hd)) (by simp; omega) (by simp; omega) (by omega) (by simp; omega) hb hb2]
    walk_at "ex"
    walk_at "st"
    rw [sl_tup, cut_hi l (by omega) (by omega)]
    walk_at "ex"
    rw [max2]
    walk_at "ex"
    rw [e2, hk (k - 1) (by omega) (l.drop (spl l.length).toNat) _ b A (fun d hd => hl d (List.mem_of_mem_drop hd)) (by simp; omega) (by simp; omega) (by omega) (by simp; omega) hb hb2]
    walk_at "ex"
    rw [gc_self, ok_ok, gt_fork hc (by omega)]
    exact ⟨rfl, rfl⟩
def G_grown_paper (c_grown_tree : List D → Hpp → R D) : S :=
    (sSeq (sRet (mIf (mBin cmpGt (mVar 2) (mC (.int 0))) (mCallV c_grown_tree 2 1 [.pos 0, .pos 1, .kw 0] (mCons (mSlice (mVar 0) oNone (oSome (mVar 2))) (mCons (mVar 1) mNil)) (mCons (mVar 3) mNil)) (mC .non)))
    sNil)
/-- the paper told -/
def gpD (b : Int) (l : List D) (s t : Int) : D := if 0 < t then (gt b (l.take t.toNat) s).d else .non
def PaperS (j k : Nat) (c : CF) : Prop := ∀ (l : List D) (s t b : Int) (A : Hpp), (∀ d ∈ l, d.th = true ∧ d.dp ≤ j) → l.length ≤ k → 0 ≤ s → s ≤ t → t ≤ l.length → 0 < b → b ≤ 2 ^ 63 → c [.tup l, .int s, .int t, .int b] A = .ok (gpD b l s t) A
theorem paper_ok {c_gt : CF} {j k : Nat} (hg : GrownS j k c_gt) : PaperS j k (run 4 4 (G_grown_paper c_gt)) := by
  intro l s t b A hl hlk h0 h1 h2 hb hb2
  apply ok_eq
  refine ok_run rfl ?_
  unfold G_grown_paper
  walk_at "st"
  unfold gpD
  by_cases ht : 0 < t
  · rw [if_pos (by simpa using ht), if_pos ht]
    rw [sl_tup, cut_lo l (by omega) (by omega)]
    walk_at "ex"
    rw [hg (l.take t.toNat) s b A (fun d hd => hl d (List.mem_of_mem_take hd)) (by simp; omega) (by simp; omega) h0 (by simp; omega) hb hb2]
    walk_at "ex"
    rw [gc_self, ok_ok]; exact ⟨rfl, rfl⟩
  · rw [if_neg (by simpa using ht), if_neg ht]
    walk_at "ex"
    rw [gc_self, ok_ok]; exact ⟨rfl, rfl⟩
end Rf.Fd
namespace Rf.Fd
open PySem PySem.Spec L2
local macro_rules | `(tactic| walk_at "ex") => `(tactic| try simp (decide := true) only [x_ret, x_retN, x_asg, x_if, x_drop, x_nilS, x_for, x_var, x_c, x_un, x_bin, x_test, x_and, x_or, x_not, x_ifE, x_nil, x_cons, x_tup, x_lst, x_b, x_meth, x_oNone, x_oSome, x_slice, x_call, x_gVar, x_gSub, x_range1, x_lc, x_yes, x_rg1, wipeL,
  R.bind_ok, ok_bind, ok_ok, gather, optAll, List.map_cons, List.map_nil, List.getElem?_cons_zero, List.getElem?_cons_succ, List.set_cons_zero, List.set_cons_succ, Option.map_some, List.length_cons, List.length_nil,
  List.nil_append, List.cons_append, List.replicate, Nat.reduceAdd, Nat.reduceSub, and_self, if_true, if_false, true_and, and_true, Nat.reduceEqDiff, truth_bl, ofO_some, reduceCtorEq, decide_true, decide_false, Bool.false_eq_true, Bool.not_true, Bool.not_false, or_self, or_true, true_or, or_false, false_or,
  opAdd_int, opSub_int, cmpLt_int, cmpLe_int, cmpGt_int, cmpGe_int, cmpIs_non, cmpIsNot_non, isi_str, isi_non, isi_int, isi_tup, isi_bl, len_tup, ord_one, sizeLine_eq, Nat.reduceLeDiff, x_bk, x_aug, x_par, tl_nil, tl_cons, x_tlNil, x_tlCons, x_gTup, x_gTupT, x_gStar1, ixt0, ixt1, ixt2, cmpEq_str, cmpNe_str, cmpEq_int, cmpNe_int, s_ff, s_lf, s_cf, s_cl, s_lc, s_fc, s_fl, cmpIs_bl, cmpIsNot_bl])
local macro_rules | `(tactic| walk_at "st") => `(tactic| (refine x_seq.mpr ?_; walk_at "ex"))
def G__law_mark (c__law_mix c__law_mark : List D → Hpp → R D) : S :=
    (sSeq (sIf (mBin cmpIs (mVar 0) (mC .non)) (sSeq (sRet (mCallV c__law_mix 3 0 [.pos 0, .pos 1, .pos 2] (mCons (mC (.int 1)) (mCons (mC (.int 1)) (mCons (mVar 1) mNil))) mNil))
    sNil) sNil)
    (sSeq (sIf (mUn (opIsi .int) (mVar 0)) (sSeq (sRet (mCallV c__law_mix 3 0 [.pos 0, .pos 1, .pos 2] (mCons (mC (.int 2)) (mCons (mVar 0) (mCons (mVar 1) mNil))) mNil))
    sNil) sNil)
    (sSeq (sIf (mUn (opIsi .str) (mVar 0)) (sSeq (sAsg (mBin opMod (mBin opAdd (mC (.int 17)) (mB bLen (mCons (mVar 0) mNil))) (mVar 1)) (gVar 2))
    (sSeq (sFor (srcSeq (mVar 0)) (gVar 3) (sSeq (sAsg (mCallV c__law_mix 3 0 [.pos 0, .pos 1, .pos 2] (mCons (mVar 2) (mCons (mB bOrd (mCons (mVar 3) mNil)) (mCons (mVar 1) mNil))) mNil) (gVar 2))
    sNil))
    (sSeq (sRet (mVar 2))
    sNil))) sNil)
    (sSeq (sAsg (mBin opMod (mBin opAdd (mC (.int 13)) (mB bLen (mCons (mVar 0) mNil))) (mVar 1)) (gVar 2))
    (sSeq (sFor (srcSeq (mVar 0)) (gVar 4) (sSeq (sAsg (mCallV c__law_mix 3 0 [.pos 0, .pos 1, .pos 2] (mCons (mVar 2) (mCons (mCallV c__law_mark 2 0 [.pos 0, .pos 1] (mCons (mVar 4) (mCons (mVar 1) mNil)) mNil) (mCons (mVar 1) mNil))) mNil) (gVar 2))
    sNil))
    (sSeq (sRet (mVar 2))
    sNil))))))
theorem dmark_tup {c_mix c_mark : CF} (hm : MixS c_mix) {b : Int} (hb : 0 < b) (hb2 : b ≤ 2 ^ 63) {k : Nat} (hk : MarkS k c_mark) {d : D} {A : Hpp} {src : Src} (hs : src.still A = true) : ∀ (l : List D) (f : Int) (x : Option D), D.thL l = true → D.dpL l ≤ k → 0 ≤ f → f < b →
    Ok (forLoop src (gVar 4) (sSeq (sAsg (mCallV c_mix 3 0 [.pos 0, .pos 1, .pos 2] (mCons (mVar 2) (mCons (mCallV c_mark 2 0 [.pos 0, .pos 1] (mCons (mVar 4) (mCons (mVar 1) mNil)) mNil) (mCons (mVar 1) mNil))) mNil) (gVar 2)) sNil)
      l [some d, some (.int b), some (.int f), none, x] A) fun o A' => ∃ y, o = .nx [some d, some (.int b), some (.int (markL b f l)), none, y] ∧ A' = A
  | [], f, x, _, _, _, _ => by
    unfold forLoop
    rw [if_pos hs, ok_ok]
    exact ⟨x, rfl, rfl⟩
  | e :: l, f, x, ht, hd, h1, h2 => by
    simp only [D.thL, Bool.and_eq_true] at ht
    simp only [D.dpL] at hd
    unfold forLoop
    rw [if_pos hs]
    walk_at "ex"
    walk_at "st"
    rw [hk e b A ht.1 (by omega) hb hb2]
    walk_at "ex"
    rw [hm f _ b A hb (by omega) (by omega)]
    walk_at "ex"
    obtain ⟨g1, g2⟩ := mix_range (x := f) (y := mark b e) hb
    exact dmark_tup hm hb hb2 hk hs l _ _ ht.2 (by omega) g1 g2
theorem dmark_ok {c_mix c_mark : CF} (hm : MixS c_mix) {k : Nat} (hk : ∀ j, j < k → MarkS j c_mark) : MarkS k (run 5 2 (G__law_mark c_mix c_mark)) := by
  intro d b A ht hd hb hb2
  apply ok_eq
  refine ok_run rfl ?_
  unfold G__law_mark
  cases d with
  | non =>
    walk_at "st"
    walk_at "st"
    rw [hm 1 1 b A hb (by decide) (by decide)]
    walk_at "ex"
    rw [gc_self, ok_ok]
    exact ⟨rfl, rfl⟩
  | int n =>
    walk_at "st"
    walk_at "st"
    walk_at "st"
    rw [hm 2 n b A hb (by decide) (by decide)]
    walk_at "ex"
    rw [gc_self, ok_ok]
    exact ⟨rfl, rfl⟩
  | str s =>
    simp only [D.th, decide_eq_true_eq] at ht
    walk_at "st"
    walk_at "st"
    walk_at "st"
    walk_at "st"
    rw [len_str ht]
    walk_at "ex"
    rw [opMod_int hb]
    walk_at "ex"
    walk_at "st"
    rw [src_str rfl]
    walk_at "ex"
    refine Ok.mono (mark_str (src := .its _) hm hb hb2 rfl _ _ _ (Int.emod_nonneg _ (by omega)) (Int.emod_lt_of_pos _ hb)) ?_
    rintro o A' ⟨y, rfl, rfl⟩
    walk_at "st"
    rw [gc_self, ok_ok]
    exact ⟨rfl, rfl⟩
  | tup l =>
    simp only [D.th, Bool.and_eq_true] at ht
    replace ht := ht.2
    simp only [D.dp] at hd
    walk_at "st"
    walk_at "st"
    walk_at "st"
    walk_at "st"
    rw [opMod_int hb]
    walk_at "ex"
    walk_at "st"
    rw [src_tup rfl]
    walk_at "ex"
    refine Ok.mono (dmark_tup (src := .its _) hm hb hb2 (hk (k - 1) (by omega)) rfl _ _ _ ht (by show D.dpL l ≤ k - 1; omega) (Int.emod_nonneg _ (by omega)) (Int.emod_lt_of_pos _ hb)) ?_
    rintro o A' ⟨y, rfl, rfl⟩
    walk_at "st"
    rw [gc_self, ok_ok]
    exact ⟨rfl, rfl⟩
  | bl x => simp [D.th] at ht
  | ref n => simp [D.th] at ht
def G__law_joined (c__law_mark : List D → Hpp → R D) : S :=
    (sSeq (sRet (mTup (mCons (mCallV c__law_mark 2 0 [.pos 0, .pos 1] (mCons (mTup (mCons (mVar 0) (mCons (mVar 1) mNil))) (mCons (mVar 2) mNil)) mNil) (mCons (mBin opAdd (mBin opIx (mVar 0) (mC (.int 1))) (mBin opIx (mVar 1) (mC (.int 1)))) mNil))))
    sNil)
theorem joined_ok {c_mark : CF} {k : Nat} (hk : 2 ≤ k) (hm : MarkS k c_mark) : ForkS (run 3 3 (G__law_joined c_mark)) := lfork_ok hk hm
def G__law_cut_at : S :=
    (sSeq (sAsg (mC (.int 1)) (gVar 1))
    (sSeq (sWhile (mBin cmpLt (mBin opMul (mC (.int 2)) (mVar 1)) (mVar 0)) (sSeq (sAsg (mBin opMul (mC (.int 2)) (mVar 1)) (gVar 1))
    sNil))
    (sSeq (sRet (mVar 1))
    sNil)))
theorem cutat_ok : SplitS (run 2 1 G__law_cut_at) := by
  intro n A h1 h2
  apply ok_eq
  refine ok_run rfl ?_
  unfold G__law_cut_at
  walk_at "st"
  refine x_seq.mpr ?_
  rw [x_while]
  refine Ok.mono (while_ok (Q := fun o A' => A' = A ∧ o = .nx [some (.int n), some (.int (spl n))]) (fun m L A' => A' = A ∧ ∃ f : Int, L = [some (.int n), some (.int f)] ∧ 1 ≤ f ∧ f < 2 ^ 61 ∧ splF m f n = spl n ∧ n ≤ f * 2 ^ m) ?_ _ 64 _ _ (by decide) ⟨rfl, 1, rfl, by decide, by decide, rfl, by omega⟩) ?_
  · rintro m L A' ⟨rfl, f, rfl, f1, f2, hs, hb⟩
    walk_at "ex"
    rw [opMul_int (cmul_l (by decide) (by decide))]
    walk_at "ex"
    by_cases hc : 2 * f < n
    · rw [if_pos (by simpa using hc)]
      walk_at "st"
      rw [opMul_int (cmul_l (by decide) (by decide))]
      walk_at "ex"
      cases m with
      | zero => simp at hb; omega
      | succ m =>
        simp only [splF] at hs
        rw [if_pos hc] at hs
        refine ⟨m, by omega, 2 * f, rfl, by omega, by omega, hs, ?_⟩
        rw [Int.pow_succ] at hb
        have : 2 * f * 2 ^ m = f * (2 ^ m * 2) := by rw [Int.mul_comm 2 f, Int.mul_assoc, Int.mul_comm 2]
        omega
    · rw [if_neg (by simpa using hc)]
      rw [splF_end hc] at hs
      rw [hs]
  · rintro o A' ⟨rfl, rfl⟩
    walk_at "st"
    rw [gc_self, ok_ok]; exact ⟨rfl, rfl⟩
def G__law_top (c__law_joined c__law_top c__law_cut_at c__law_mark : List D → Hpp → R D) : S :=
    (sSeq (sIf (mBin cmpEq (mB bLen (mCons (mVar 0) mNil)) (mC (.int 0))) (sSeq (sRet (mTup (mCons (mC (.int 0)) (mCons (mC (.int 0)) mNil))))
    sNil) sNil)
    (sSeq (sIf (mBin cmpEq (mB bLen (mCons (mVar 0) mNil)) (mC (.int 1))) (sSeq (sRet (mTup (mCons (mCallV c__law_mark 2 0 [.pos 0, .pos 1] (mCons (mBin opIx (mVar 0) (mC (.int 0))) (mCons (mVar 1) mNil)) mNil) (mCons (mC (.int 1)) mNil))))
    sNil) sNil)
    (sSeq (sAsg (mCallV c__law_cut_at 1 0 [.pos 0] (mCons (mB bLen (mCons (mVar 0) mNil)) mNil) mNil) (gVar 2))
    (sSeq (sRet (mCallV c__law_joined 3 0 [.pos 0, .pos 1, .pos 2] (mCons (mCallV c__law_top 2 0 [.pos 0, .pos 1] (mCons (mSlice (mVar 0) oNone (oSome (mVar 2))) (mCons (mVar 1) mNil)) mNil) (mCons (mCallV c__law_top 2 0 [.pos 0, .pos 1] (mCons (mSlice (mVar 0) (oSome (mVar 2)) oNone) (mCons (mVar 1) mNil)) mNil) (mCons (mVar 1) mNil))) mNil))
    sNil))))
theorem top_ok {c_fork c_tl c_split c_mark : CF} {j : Nat} (hf : ForkS c_fork) (hs : SplitS c_split) (hm : MarkS j c_mark) {k : Nat} (hk9 : k ≤ 100000) (hk : ∀ i, i < k → TopS j i c_tl) : TopS j k (run 3 2 (G__law_top c_fork c_tl c_split c_mark)) := by
  intro l b A hl2 hlk hb hb2
  apply ok_eq
  refine ok_run rfl ?_
  unfold G__law_top
  walk_at "st"
  by_cases h0 : l.length = 0
  · rw [if_pos (by simp [h0])]
    obtain rfl := List.eq_nil_of_length_eq_zero h0
    walk_at "st"
    rw [gc_self, ok_ok, lbl_nil]; exact ⟨rfl, rfl⟩
  rw [if_neg (by rw [decide_eq_true_eq]; omega)]
  walk_at "ex"
  walk_at "st"
  by_cases h : l.length = 1
  · rw [if_pos (by simp [h])]
    obtain ⟨d, rfl⟩ := List.length_eq_one_iff.mp h
    walk_at "st"
    obtain ⟨t1, t2⟩ := hl2 d (by simp)
    rw [hm d b A t1 t2 hb hb2]
    walk_at "ex"
    rw [gc_self, ok_ok, lbl_one]; exact ⟨rfl, rfl⟩
  rw [if_neg (by rw [decide_eq_true_eq]; omega)]
  walk_at "ex"
  walk_at "st"
  rw [hs _ A (by omega) (by omega)]
  walk_at "ex"
  obtain ⟨s1, s2⟩ := spl_rng (n := (l.length : Int)) (by omega)
  walk_at "st"
  rw [sl_tup, cut_lo l (by omega) (by omega)]
  walk_at "ex"
  rw [hk (k - 1) (by omega) (l.take (spl l.length).toNat) b A (fun d hd => hl2 d (List.mem_of_mem_take hd)) (by simp; omega) hb hb2]
  walk_at "ex"
  rw [sl_tup, cut_hi l (by omega) (by omega)]
  walk_at "ex"
  rw [hk (k - 1) (by omega) (l.drop (spl l.length).toNat) b A (fun d hd => hl2 d (List.mem_of_mem_drop hd)) (by simp; omega) hb hb2]
  walk_at "ex"
  rw [hf _ _ _ _ b _ hb hb2]
  walk_at "ex"
  rw [gc_self, ok_ok, lbl_more (b := b) (l := l) (by omega)]
  exact ⟨rfl, rfl⟩
/-! ### draws -/
def G__law_scale (c__law_draw : List D → Hpp → R D) : S :=
    (sSeq (sRet (mBin opIx (mLst (mCons (mC (.int 2)) (mCons (mC (.int 3)) (mCons (mC (.int 7)) (mCons (mC (.int 10)) (mCons (mC (.int 50)) (mCons (mC (.int 1000003)) (mCons (mBin opPow (mC (.int 10)) (mC (.int 9))) (mCons (mC (.int 2)) mNil))))))))) (mCallV c__law_draw 2 0 [.pos 0, .pos 1] (mCons (mVar 0) (mCons (mC (.int 8)) mNil)) mNil)))
    sNil)
def ScaleS (f : CF) : Prop := ∀ B t c n A, TapAt B t c → Tp B t c n A → n + 1 < 1000000 → Ok (f [.ref t] A) fun d A' => Tp B t c (n + 1) A' ∧ ∃ b : Int, d = .int b ∧ 2 ≤ b ∧ b ≤ 10 ^ 9
theorem scale_ok {c_take : CF} (ht : TakeS c_take) : ScaleS (run 1 1 (G__law_scale c_take)) := by
  intro B t c n A T h hN
  refine ok_run rfl ?_
  unfold G__law_scale
  walk_at "st"
  rw [opPow_int (by decide : CPow 10 9)]
  walk_at "ex"
  have e9 : (10 : Int) ^ Int.toNat 9 = 10 ^ 9 := rfl
  rw [e9]
  generalize hll : ([D.int 2, D.int 3, D.int 7, D.int 10, D.int 50, D.int 1000003, D.int (10 ^ 9), D.int 2] : List D) = ll
  have hint : ∀ d ∈ ll, ∃ z : Int, d = .int z ∧ 2 ≤ z ∧ z ≤ 10 ^ 9 := by
    subst hll
    intro d hd
    simp only [List.mem_cons, List.not_mem_nil, or_false] at hd
    rcases hd with rfl | rfl | rfl | rfl | rfl | rfl | rfl | rfl <;> exact ⟨_, rfl, by decide, by decide⟩
  have hl8 : ll.length = 8 := by subst hll; rfl
  have T2 := tapAt_list T (l := ll) fun d hd => by obtain ⟨z, rfl, _⟩ := hint d hd; rfl
  have h2 := (tp_app (X := [.lst ll]) T).mpr ⟨A, rfl, h⟩
  refine Ok.mono (ht _ t c _ _ 8 T2 h2 (by omega) (by decide) (by decide)) ?_
  rintro _ A5 ⟨x, rfl, x1, x2, h5⟩
  obtain ⟨d, hd, he, _⟩ := atI_get (l := ll) x1 (by rw [hl8]; exact x2)
  obtain ⟨z, rfl, z1, z2⟩ := hint d hd
  obtain ⟨A6, rfl, h6⟩ := (tp_app T).mp h5
  rw [ixl (l := ll) (by rw [tp_len h, ← tp_len h6]; exact at_end) he]
  walk_at "ex"
  rw [tp_gc T h h6 rfl, ok_ok]
  exact ⟨h6, z, rfl, z1, z2⟩
def G__law_leaf (c__law_draw : List D → Hpp → R D) : S :=
    (sSeq (sAsg (mCallV c__law_draw 2 0 [.pos 0, .pos 1] (mCons (mVar 0) (mCons (mC (.int 7)) mNil)) mNil) (gVar 1))
    (sSeq (sAsg (mLst (mCons (mBin opSub (mCallV c__law_draw 2 0 [.pos 0, .pos 1] (mCons (mVar 0) (mCons (mC (.int 9)) mNil)) mNil) (mC (.int 3))) (mCons (mBin opIx (mLst (mCons (mC (.str "")) (mCons (mC (.str "a")) (mCons (mC (.str "ab")) (mCons (mC (.str "zz9")) mNil))))) (mCallV c__law_draw 2 0 [.pos 0, .pos 1] (mCons (mVar 0) (mCons (mC (.int 4)) mNil)) mNil)) (mCons (mC .non) (mCons (mTup mNil) mNil))))) (gVar 2))
    (sSeq (sDrop (mMeth isLst mAppend (mVar 2) (mCons (mTup (mCons (mC (.str "tick")) (mCons (mBin opAdd (mC (.int 1)) (mCallV c__law_draw 2 0 [.pos 0, .pos 1] (mCons (mVar 0) (mCons (mC (.int 3)) mNil)) mNil)) mNil))) mNil)))
    (sSeq (sDrop (mMeth isLst mAppend (mVar 2) (mCons (mTup (mCons (mTup (mCons (mBin opIx (mVar 2) (mC (.int 0))) (mCons (mBin opIx (mVar 2) (mC (.int 1))) mNil))) (mCons (mC .non) mNil))) mNil)))
    (sSeq (sDrop (mMeth isLst mAppend (mVar 2) (mCons (mTup (mCons (mTup (mCons (mC (.str "end")) (mCons (mC (.str "t")) (mCons (mBin opIx (mVar 2) (mC (.int 0))) (mCons (mC (.str "ann")) (mCons (mC (.str "why")) mNil)))))) (mCons (mC .non) (mCons (mTup (mCons (mCallV c__law_draw 2 0 [.pos 0, .pos 1] (mCons (mVar 0) (mCons (mC (.int 50)) mNil)) mNil) (mCons (mBin opAdd (mC (.int 1)) (mCallV c__law_draw 2 0 [.pos 0, .pos 1] (mCons (mVar 0) (mCons (mC (.int 5)) mNil)) mNil)) mNil))) mNil)))) mNil)))
    (sSeq (sRet (mBin opIx (mVar 2) (mVar 1)))
    sNil))))))
theorem tg_of {d : D} (h : (d.th && d.pl && decide (d.dp ≤ 2) && decide (d.wt ≤ 200)) = true) : Tg 2 d := by
  simp only [Bool.and_eq_true, decide_eq_true_eq] at h
  exact ⟨h.1.1.1, h.1.1.2, h.1.2, by have := h.2; omega⟩
theorem tg_tupA {l : List D} (h : ∀ d ∈ l, Tg 2 d ∧ d.dp ≤ 1 ∧ d.wt ≤ 30) (hl : l.length ≤ 6) : Tg 2 (.tup l) := by
  have key : ∀ l : List D, (∀ d ∈ l, Tg 2 d ∧ d.dp ≤ 1 ∧ d.wt ≤ 30) → D.thL l = true ∧ D.plL l = true ∧ D.dpL l ≤ 1 ∧ D.wtL l ≤ 31 * l.length := by
    intro l
    induction l with
    | nil => intro _; exact ⟨rfl, rfl, by simp [D.dpL], by simp [D.wtL]⟩
    | cons d l ih =>
      intro h
      obtain ⟨g, g1, g2⟩ := h d (List.mem_cons_self ..)
      obtain ⟨a1, a2, a3, a4⟩ := ih fun e he => h e (List.mem_cons_of_mem _ he)
      refine ⟨by simp [D.thL, g.th, a1], by simp [D.plL, g.pl, a2], by simp only [D.dpL]; omega, ?_⟩
      simp only [D.wtL, List.length_cons]; omega
  obtain ⟨a1, a2, a3, a4⟩ := key l h
  refine ⟨?_, a2, by simp only [D.dp]; omega, ?_⟩
  · simp only [D.th, a1, Bool.and_true, decide_eq_true_eq, sizeLine_eq]; omega
  · simp only [D.wt]; omega
theorem int_wt {x : Int} (h1 : -100 < x) (h2 : x < 1000) : Tg 2 (.int x) ∧ (D.int x).dp ≤ 1 ∧ (D.int x).wt ≤ 12 := by
  refine ⟨tgd_int (by omega) (by omega), by simp [D.dp], ?_⟩
  simp only [D.wt]
  rcases Nat.eq_zero_or_pos x.natAbs with z | z
  · rw [z]; decide
  · have : x.natAbs.log2 < 10 := (Nat.log2_lt (by omega)).mpr (by omega)
    omega
def LeafD (f : CF) : Prop := ∀ B t c n A, TapAt B t c → Tp B t c n A → n + 6 < 1000000 → Ok (f [.ref t] A) fun d A' => Tp B t c (n + 6) A' ∧ Tg 2 d
theorem lleaf_ok {c_take : CF} (ht : TakeS c_take) : LeafD (run 3 1 (G__law_leaf c_take)) := by
  intro B t c n A T h hN
  refine ok_run rfl ?_
  unfold G__law_leaf
  walk_at "st"
  refine Ok.mono (ht _ t c _ _ 7 T h (by omega) (by decide) (by decide)) ?_
  rintro _ A1 ⟨w, rfl, w1, w2, h1⟩
  walk_at "ex"
  walk_at "st"
  refine Ok.mono (ht _ t c _ _ 9 T h1 (by omega) (by decide) (by decide)) ?_
  rintro _ A2 ⟨u, rfl, u1, u2, h2⟩
  walk_at "ex"
  generalize hll : ([D.str (Str.ofString ""), D.str (Str.ofString "a"), D.str (Str.ofString "ab"), D.str (Str.ofString "zz9")] : List D) = ll
  have hstr : ∀ d ∈ ll, Tg 2 d ∧ d.dp ≤ 1 ∧ d.wt ≤ 12 := by
    subst hll
    have key : (([D.str (Str.ofString ""), D.str (Str.ofString "a"), D.str (Str.ofString "ab"), D.str (Str.ofString "zz9")] : List D).all fun d => d.th && d.pl && decide (d.dp ≤ 1) && decide (d.wt ≤ 12)) = true := by decide +kernel
    intro d hd
    have := List.all_eq_true.mp key d hd
    simp only [Bool.and_eq_true, decide_eq_true_eq] at this
    exact ⟨⟨this.1.1.1, this.1.1.2, by omega, by omega⟩, this.1.2, this.2⟩
  have hl4 : ll.length = 4 := by subst hll; rfl
  have T2 := tapAt_list T (l := ll) fun d hd => pl_low d (hstr d hd).1.pl
  have h2b := (tp_app (X := [.lst ll]) T).mpr ⟨A2, rfl, h2⟩
  refine Ok.mono (ht _ t c _ _ 4 T2 h2b (by omega) (by decide) (by decide)) ?_
  rintro _ A3 ⟨x, rfl, x1, x2, h3⟩
  obtain ⟨d1, hd1, he1, _⟩ := atI_get (l := ll) x1 (by rw [hl4]; exact x2)
  obtain ⟨g1, g1a, g1b⟩ := hstr d1 hd1
  obtain ⟨A4, rfl, h4⟩ := (tp_app T).mp h3
  rw [ixl (l := ll) (by rw [tp_len h2, ← tp_len h4]; exact at_end) he1]
  walk_at "ex"
  obtain ⟨i1, i2, i3⟩ := int_wt (x := u - 3) (by omega) (by omega)
  have g0 : Tg 2 .non := tg_of (by decide +kernel)
  have gt0 : Tg 2 (.tup []) := tg_of (by decide +kernel)
  generalize hs0 : ([D.int (u - 3), d1, D.non, D.tup []] : List D) = s0
  have gs0 : ∀ d ∈ s0, Tg 2 d := by
    subst hs0
    intro d hd
    simp only [List.mem_cons, List.not_mem_nil, or_false] at hd
    rcases hd with rfl | rfl | rfl | rfl
    · exact i1
    · exact g1
    · exact g0
    · exact gt0
  have T3 := tapAt_list T2 (l := s0) fun d hd => pl_low d (gs0 d hd).pl
  have h5 := (tp_app (X := [.lst s0]) T2).mpr ⟨_, rfl, h3⟩
  walk_at "st"
  rw [isl_at at_end]
  walk_at "ex"
  refine Ok.mono (ht _ t c _ _ 3 T3 h5 (by omega) (by decide) (by decide)) ?_
  rintro _ A6 ⟨y, rfl, y1, y2, h6⟩
  obtain ⟨A7, rfl, h7⟩ := (tp_app T2).mp h6
  have le7 : A7.length = (A4 ++ [HOb.lst ll]).length := by rw [tp_len h7, tp_len h3]
  walk_at "ex"
  rw [← le7, app_at (l := s0) at_end (by subst hs0; rw [sizeLine_eq]; simp), set_end]
  walk_at "ex"
  obtain ⟨j1, j2, j3⟩ := int_wt (x := 1 + y) (by omega) (by omega)
  have gst : ∀ s : Str, (D.str s).th = true → (D.str s).pl = true → s.length ≤ 10 → Tg 2 (.str s) ∧ (D.str s).dp ≤ 1 ∧ (D.str s).wt ≤ 30 := fun s a b c' => ⟨⟨a, b, by simp [D.dp], by simp only [D.wt]; omega⟩, by simp [D.dp], by simp only [D.wt]; omega⟩
  have gtick := gst (Str.ofString "tick") (by decide +kernel) (by decide +kernel) (by decide +kernel)
  have gend := gst (Str.ofString "end") (by decide +kernel) (by decide +kernel) (by decide +kernel)
  have gtt := gst (Str.ofString "t") (by decide +kernel) (by decide +kernel) (by decide +kernel)
  have gann := gst (Str.ofString "ann") (by decide +kernel) (by decide +kernel) (by decide +kernel)
  have gwhy := gst (Str.ofString "why") (by decide +kernel) (by decide +kernel) (by decide +kernel)
  have gno : Tg 2 D.non ∧ D.non.dp ≤ 1 ∧ D.non.wt ≤ 30 := ⟨g0, by simp [D.dp], by simp [D.wt]⟩
  have i3' : (D.int (u - 3)).wt ≤ 30 := by omega
  have j3' : (D.int (1 + y)).wt ≤ 30 := by omega
  have g1b' : d1.wt ≤ 30 := by omega
  have ge5 : Tg 2 (.tup [.str (Str.ofString "tick"), .int (1 + y)]) := tg_tupA (fun d hd => by
    simp only [List.mem_cons, List.not_mem_nil, or_false] at hd
    rcases hd with rfl | rfl
    · exact gtick
    · exact ⟨j1, j2, j3'⟩) (by simp)
  walk_at "st"
  rw [isl_at at_end]
  walk_at "ex"
  rw [ixl (x := D.int (u - 3)) at_end (by subst hs0; rfl)]
  walk_at "ex"
  rw [ixl (x := d1) at_end (by subst hs0; rfl)]
  walk_at "ex"
  rw [app_at at_end (by subst hs0; rw [sizeLine_eq]; simp), set_end]
  walk_at "ex"
  have d1z : d1.dp ≤ 0 ∨ True := .inr trivial
  have ge6 : Tg 2 (.tup [.tup [.int (u - 3), d1], .non]) := by
    have hd0 : d1.dp = 0 := by
      subst hll
      simp only [List.mem_cons, List.not_mem_nil, or_false] at hd1
      rcases hd1 with rfl | rfl | rfl | rfl <;> rfl
    refine ⟨?_, ?_, ?_, ?_⟩
    · have := g1.th
      simp [D.th, D.thL, this, sizeLine_eq]
    · have a5 := i1.pl
      simp only [D.pl] at a5
      simp only [D.pl, D.plL, g1.pl, a5]; rfl
    · simp [D.dp, D.dpL, hd0]
    · simp only [D.wt, D.wtL] at *
      omega
  walk_at "st"
  rw [isl_at at_end]
  walk_at "ex"
  rw [ixl (x := D.int (u - 3)) at_end (by subst hs0; rfl)]
  walk_at "ex"
  generalize hs1 : s0 ++ [D.tup [D.str (Str.ofString "tick"), D.int (1 + y)]] ++ [D.tup [D.tup [D.int (u - 3), d1], D.non]] = s1
  have gs1 : ∀ d ∈ s1, Tg 2 d := by
    subst hs1
    intro d hd
    simp only [List.append_assoc, List.mem_append, List.mem_singleton] at hd
    rcases hd with hd | rfl | rfl
    · exact gs0 d hd
    · exact ge5
    · exact ge6
  have ls1 : s1.length = 6 := by subst hs1; subst hs0; rfl
  have T4 := tapAt_list T2 (l := s1) fun d hd => pl_low d (gs1 d hd).pl
  have h8 := (tp_app (X := [.lst s1]) T2).mpr ⟨_, rfl, h7⟩
  refine Ok.mono (ht _ t c _ _ 50 T4 h8 (by omega) (by decide) (by decide)) ?_
  rintro _ A9 ⟨p, rfl, p1, p2, h9⟩
  walk_at "ex"
  refine Ok.mono (ht _ t c _ _ 5 T4 h9 (by omega) (by decide) (by decide)) ?_
  rintro _ A10 ⟨q, rfl, q1, q2, h10⟩
  obtain ⟨A11, rfl, h11⟩ := (tp_app T2).mp h10
  have le11 : A11.length = A7.length := by rw [tp_len h11, tp_len h7]
  walk_at "ex"
  rw [← le11, app_at (l := s1) at_end (by rw [sizeLine_eq, ls1]; decide), set_end]
  walk_at "ex"
  obtain ⟨k1, k2, k3⟩ := int_wt (x := p) (by omega) (by omega)
  obtain ⟨m1, m2, m3⟩ := int_wt (x := 1 + q) (by omega) (by omega)
  have ge7 : Tg 2 (.tup [.tup [.str (Str.ofString "end"), .str (Str.ofString "t"), .int (u - 3), .str (Str.ofString "ann"), .str (Str.ofString "why")], .non, .tup [.int p, .int (1 + q)]]) := by
    refine ⟨?_, ?_, ?_, ?_⟩
    · have a1 := gend.1.th; have a2 := gtt.1.th; have a3 := gann.1.th; have a4 := gwhy.1.th
      simp only [D.th] at a1 a2 a3 a4
      simp only [D.th, D.thL, a1, a2, a3, a4, List.length_cons, List.length_nil, sizeLine_eq]; rfl
    · have a1 := gend.1.pl; have a2 := gtt.1.pl; have a3 := gann.1.pl; have a4 := gwhy.1.pl
      have a5 := i1.pl; have a6 := k1.pl; have a7 := m1.pl
      simp only [D.pl] at a1 a2 a3 a4 a5 a6 a7
      simp only [D.pl, D.plL, a1, a2, a3, a4, a5, a6, a7]; rfl
    · simp [D.dp, D.dpL]
    · have a1 := gend.2.2; have a2 := gtt.2.2; have a3 := gann.2.2; have a4 := gwhy.2.2
      simp only [D.wt, D.wtL] at *
      omega
  have gs2 : ∀ d ∈ s1 ++ [.tup [.tup [.str (Str.ofString "end"), .str (Str.ofString "t"), .int (u - 3), .str (Str.ofString "ann"), .str (Str.ofString "why")], .non, .tup [.int p, .int (1 + q)]]], Tg 2 d := by
    intro d hd
    rcases List.mem_append.mp hd with z | z
    · exact gs1 d z
    · rw [List.mem_singleton.mp z]; exact ge7
  walk_at "st"
  obtain ⟨d9, hd9, he9, _⟩ := atI_get (l := s1 ++ [.tup [.tup [.str (Str.ofString "end"), .str (Str.ofString "t"), .int (u - 3), .str (Str.ofString "ann"), .str (Str.ofString "why")], .non, .tup [.int p, .int (1 + q)]]]) (i := w) w1 (by simp [ls1]; omega)
  rw [ixl at_end he9]
  walk_at "ex"
  obtain ⟨A12, rfl, h12⟩ := (tp_app T).mp h11
  rw [List.append_assoc, tp_gc T h h12 (pl_low _ (gs2 d9 hd9).pl), ok_ok]
  exact ⟨h12.mono (by omega), gs2 d9 hd9⟩
def G__law_rest (c__law_draw c__law_leaf : List D → Hpp → R D) : S :=
    (sSeq (sRet (mB bTuple (mCons (mLc (srcRange1 (mCallV c__law_draw 2 0 [.pos 0, .pos 1] (mCons (mVar 0) (mCons (mBin opAdd (mVar 1) (mC (.int 1))) mNil)) mNil)) (gVar 2) mYes (mCallV c__law_leaf 1 0 [.pos 0] (mCons (mVar 0) mNil) mNil) [2]) mNil)))
    sNil)
def RestS (f : CF) : Prop := ∀ B t c n A (most : Int), TapAt B t c → Tp B t c n A → 0 ≤ most → most ≤ 100 → n + 700 < 1000000 → Ok (f [.ref t, .int most] A) fun d A' => ∃ l : List D, d = .tup l ∧ (l.length : Int) ≤ most ∧ (∀ e ∈ l, Tg 2 e) ∧ Tp B t c (n + 700) A'
theorem rest_ok {c_take c_leaf : CF} (ht : TakeS c_take) (hl : LeafD c_leaf) : RestS (run 3 2 (G__law_rest c_take c_leaf)) := by
  intro B t c n A most T h m1 m2 hN
  refine ok_run rfl ?_
  unfold G__law_rest
  walk_at "st"
  refine Ok.mono (ht _ t c _ _ (most + 1) T h (by omega) (by omega) (by omega)) ?_
  rintro _ A1 ⟨w, rfl, w1, w2, h1⟩
  walk_at "ex"
  rw [if_pos (by unfold okEnd; omega)]
  walk_at "ex"
  rw [tp_len h1]
  refine Ok.mono (lc_tap (P := Tg 2) (m := 6) (N := n + 650) T (fun d hd => pl_low d hd.pl) ?_ (rangeD 0 w.toNat) [] (n + 1) A1 h1 ?_ (by simp) ?_) ?_
  · intro B n' A k T h hn
    walk_at "ex"
    exact hl B t c n' A T h (by omega)
  · rw [range_len]; omega
  · rw [range_len, sizeLine_eq]; simp; omega
  rintro _ A3 ⟨A4, acc, rfl, h4, ha, hla⟩
  rw [range_len] at h4 hla
  walk_at "ex"
  rw [tuple_at (l := acc) (by rw [← tp_len h4]; exact at_end)]
  walk_at "ex"
  have lo : (D.tup acc).low 0 = true := by simp only [D.low]; exact lowL_of fun d hd => pl_low d (ha d hd).pl
  rw [tp_gc T h h4 lo, ok_ok]
  refine ⟨acc, rfl, ?_, ha, h4.mono (by omega)⟩
  rw [hla]; simp; omega
end Rf.Fd
namespace Rf.Fd
open PySem PySem.Spec L2
local macro_rules | `(tactic| walk_at "ex") => `(tactic| try simp (decide := true) only [x_ret, x_retN, x_asg, x_if, x_drop, x_nilS, x_for, x_var, x_c, x_un, x_bin, x_test, x_and, x_or, x_not, x_ifE, x_nil, x_cons, x_tup, x_lst, x_b, x_meth, x_oNone, x_oSome, x_slice, x_call, x_gVar, x_gSub, x_range1, x_lc, x_yes, x_rg1, wipeL,
  R.bind_ok, ok_bind, ok_ok, gather, optAll, List.map_cons, List.map_nil, List.getElem?_cons_zero, List.getElem?_cons_succ, List.set_cons_zero, List.set_cons_succ, Option.map_some, List.length_cons, List.length_nil,
  List.nil_append, List.cons_append, List.replicate, Nat.reduceAdd, Nat.reduceSub, and_self, if_true, if_false, true_and, and_true, Nat.reduceEqDiff, truth_bl, ofO_some, reduceCtorEq, decide_true, decide_false, Bool.false_eq_true, Bool.not_true, Bool.not_false, or_self, or_true, true_or, or_false, false_or,
  opAdd_int, opSub_int, cmpLt_int, cmpLe_int, cmpGt_int, cmpGe_int, cmpIs_non, cmpIsNot_non, isi_str, isi_non, isi_int, isi_tup, isi_bl, len_tup, ord_one, sizeLine_eq, Nat.reduceLeDiff, x_bk, x_aug, x_par, tl_nil, tl_cons, x_tlNil, x_tlCons, x_gTup, x_gTupT, x_gStar1, ixt0, ixt1, ixt2, cmpEq_str, cmpNe_str, cmpEq_int, cmpNe_int, s_ff, s_lf, s_cf, s_cl, s_lc, s_fc, s_fl, cmpIs_bl, cmpIsNot_bl])
local macro_rules | `(tactic| walk_at "st") => `(tactic| (refine x_seq.mpr ?_; walk_at "ex"))
def G__law_is_number : S :=
    (sSeq (sRet (mAnd (mUn (opIsi .int) (mVar 0)) (mNot (mUn (opIsi .bool) (mVar 0)))))
    sNil)
theorem dnum_ok : NumS (run 1 1 G__law_is_number) := num_ok
def G__law_is_plate (c__law_is_number : List D → Hpp → R D) : S :=
    (sSeq (sIf (mOr (mNot (mUn (opIsi .tuple) (mVar 0))) (mOr (mBin cmpNe (mB bLen (mCons (mVar 0) mNil)) (mC (.int 2))) (mBin cmpNe (mLc (srcSeq (mVar 0)) (gVar 1) (mTest (mNot (mCallV c__law_is_number 1 0 [.pos 0] (mCons (mVar 1) mNil) mNil))) (mVar 1) [1]) (mLst mNil)))) (sSeq (sRet (mC (.bl false)))
    sNil) sNil)
    (sSeq (sRet (mAnd (mBin cmpGe (mBin opIx (mVar 0) (mC (.int 0))) (mC (.int 0))) (mBin cmpGe (mBin opIx (mVar 0) (mC (.int 1))) (mC (.int 0)))))
    sNil))
theorem ne_nils {A : Hpp} {n m : Nat} (h1 : A[n]? = some (.lst [])) (h2 : A[m]? = some (.lst [])) : cmpNe (.ref n) (.ref m) A = .ok (.bl false) A := by
  have e : eqD (.ref n) (.ref m) A = some true := by
    have s1 : (D.ref n).snap A deepest = some (.list []) := by
      show D.snap A (63 + 1) (.ref n) = _
      simp [D.snap, h1, optAll]
    have s2 : (D.ref m).snap A deepest = some (.list []) := by
      show D.snap A (63 + 1) (.ref m) = _
      simp [D.snap, h2, optAll]
    simp only [eqD, s1, s2]
    rfl
  unfold cmpNe
  rw [e]; rfl
def PlateL (c : CF) : Prop := ∀ (m n : Int) (A : Hpp), 0 ≤ m → 0 ≤ n → c [labD m n] A = .ok (.bl true) A
theorem platel_ok {c_num : CF} (hn : NumS c_num) : PlateL (run 2 1 (G__law_is_plate c_num)) := by
  intro m n A hm hn0
  apply ok_eq
  refine ok_run rfl ?_
  unfold G__law_is_plate labD
  walk_at "st"
  rw [src_tup rfl]
  walk_at "ex"
  rw [show (Src.its [D.int m, D.int n]).items = [D.int m, D.int n] from rfl]
  rw [lc_filt (p := fun d => !isNum d) (f := id) (fun _ => rfl) [D.int m, D.int n] [] (fun d hd acc => ?_) (by rw [sizeLine_eq]; simp)]
  · walk_at "ex"
    rw [show ([D.int m, D.int n].filter fun d => !isNum d).map id = [] from rfl]
    rw [ne_nils at_end2 at_end]
    walk_at "ex"
    walk_at "st"
    rw [decide_eq_true hm, decide_eq_true hn0]
    walk_at "ex"
    rw [List.append_assoc, gc_pure rfl, ok_ok]
    exact ⟨rfl, rfl⟩
  · have hr : d.rl (A ++ [HOb.lst acc]) = true := by
      simp only [List.mem_cons, List.not_mem_nil, or_false] at hd
      rcases hd with rfl | rfl <;> rfl
    constructor
    · walk_at "ex"
      rw [hn d _ hr]
      walk_at "ex"
    · intro _
      walk_at "ex"
      rfl
def G__law_is_tree (c__law_is_tree c__law_is_plate c__law_is_seed : List D → Hpp → R D) : S :=
    (sSeq (sIf (mOr (mNot (mUn (opIsi .tuple) (mVar 0))) (mOr (mBin cmpLt (mB bLen (mCons (mVar 0) mNil)) (mC (.int 2))) (mNot (mUn (opIsi .str) (mBin opIx (mVar 0) (mC (.int 0))))))) (sSeq (sRet (mC (.bl false)))
    sNil) sNil)
    (sSeq (sIf (mBin cmpEq (mBin opIx (mVar 0) (mC (.int 0))) (mC (.str "leaf"))) (sSeq (sRet (mAnd (mBin cmpEq (mB bLen (mCons (mVar 0) mNil)) (mC (.int 2))) (mCallV c__law_is_seed 1 0 [.pos 0] (mCons (mBin opIx (mVar 0) (mC (.int 1))) mNil) mNil)))
    sNil) sNil)
    (sSeq (sIf (mBin cmpEq (mBin opIx (mVar 0) (mC (.int 0))) (mC (.str "cut"))) (sSeq (sRet (mAnd (mBin cmpEq (mB bLen (mCons (mVar 0) mNil)) (mC (.int 2))) (mAnd (mCallV c__law_is_plate 1 0 [.pos 0] (mCons (mBin opIx (mVar 0) (mC (.int 1))) mNil) mNil) (mBin cmpGt (mBin opIx (mBin opIx (mVar 0) (mC (.int 1))) (mC (.int 1))) (mC (.int 0))))))
    sNil) sNil)
    (sSeq (sIf (mOr (mBin cmpNe (mBin opIx (mVar 0) (mC (.int 0))) (mC (.str "fork"))) (mBin cmpNe (mB bLen (mCons (mVar 0) mNil)) (mC (.int 3)))) (sSeq (sRet (mC (.bl false)))
    sNil) sNil)
    (sSeq (sRet (mAnd (mCallV c__law_is_tree 1 0 [.pos 0] (mCons (mBin opIx (mVar 0) (mC (.int 1))) mNil) mNil) (mCallV c__law_is_tree 1 0 [.pos 0] (mCons (mBin opIx (mVar 0) (mC (.int 2))) mNil) mNil)))
    sNil)))))
/-- no leaf shown -/
def bare : Pr → Prop
  | .leaf _ => False
  | .cut _ _ => True
  | .fork l r => bare l ∧ bare r
theorem gt_bare (b : Int) (n : Nat) : ∀ (l : List D) (s : Int), l.length ≤ n → bare (gt b l s) := by
  induction n with
  | zero => intro l s h; rw [gt, dif_pos (by omega)]; trivial
  | succ n ih =>
    intro l s h
    by_cases hc : s = 0 ∨ s = l.length ∨ l.length < 2
    · rw [gt, dif_pos hc]; trivial
    · rw [gt_fork (by omega) (by omega)]
      have sn := spl_nat (l := l) (by omega)
      exact ⟨ih _ _ (by rw [List.length_take]; omega), ih _ _ (by rw [List.length_drop]; omega)⟩
def TreeS (k : Nat) (c : CF) : Prop := ∀ p : Pr, p.ok 2 → bare p → p.hgt ≤ k → ∀ A, c [p.d] A = .ok (.bl true) A
theorem tree_ok {c_tree c_plate c_seed : CF} (hp : PlateL c_plate) {k : Nat} (hk : ∀ i, i < k → TreeS i c_tree) : TreeS k (run 1 1 (G__law_is_tree c_tree c_plate c_seed)) := by
  intro p hp2 hb hh A
  apply ok_eq
  refine ok_run rfl ?_
  unfold G__law_is_tree
  cases p with
  | leaf d => exact hb.elim
  | cut m n =>
    rw [show (Pr.cut m n).d = .tup [.str "cut", labD m n] from rfl]
    walk_at "st"
    walk_at "st"
    walk_at "st"
    walk_at "st"
    rw [hp m n _ hp2.1 (by have := hp2.2.1; omega)]
    walk_at "ex"
    unfold labD
    walk_at "ex"
    rw [decide_eq_true hp2.2.1, gc_self, ok_ok]; exact ⟨rfl, rfl⟩
  | fork l r =>
    simp only [Pr.hgt] at hh
    rw [show (Pr.fork l r).d = .tup [.str "fork", l.d, r.d] from rfl]
    walk_at "st"
    walk_at "st"
    walk_at "st"
    walk_at "st"
    walk_at "st"
    rw [hk (k - 1) (by omega) l hp2.1 hb.1 (by omega)]
    walk_at "ex"
    rw [hk (k - 1) (by omega) r hp2.2 hb.2 (by omega)]
    walk_at "ex"
    rw [gc_self, ok_ok]; exact ⟨rfl, rfl⟩
def G__law_many_in (c__law_many_in : List D → Hpp → R D) : S :=
    (sSeq (sIf (mBin cmpEq (mBin opIx (mVar 0) (mC (.int 0))) (mC (.str "leaf"))) (sSeq (sRet (mC (.int 1)))
    sNil) sNil)
    (sSeq (sIf (mBin cmpEq (mBin opIx (mVar 0) (mC (.int 0))) (mC (.str "cut"))) (sSeq (sRet (mBin opIx (mBin opIx (mVar 0) (mC (.int 1))) (mC (.int 1))))
    sNil) sNil)
    (sSeq (sRet (mBin opAdd (mCallV c__law_many_in 1 0 [.pos 0] (mCons (mBin opIx (mVar 0) (mC (.int 1))) mNil) mNil) (mCallV c__law_many_in 1 0 [.pos 0] (mCons (mBin opIx (mVar 0) (mC (.int 2))) mNil) mNil)))
    sNil)))
theorem many_ok {c_many : CF} {j k : Nat} (hk : ∀ i, i < k → CntS j i c_many) : CntS j k (run 1 1 (G__law_many_in c_many)) := by
  intro p hp2 hh A
  apply ok_eq
  refine ok_run rfl ?_
  unfold G__law_many_in
  cases p with
  | leaf d =>
    rw [show (Pr.leaf d).d = .tup [.str "leaf", d] from rfl]
    walk_at "st"
    walk_at "st"
    rw [gc_self, ok_ok]; exact ⟨rfl, rfl⟩
  | cut m n =>
    rw [show (Pr.cut m n).d = .tup [.str "cut", .tup [.int m, .int n]] from rfl]
    walk_at "st"
    walk_at "st"
    walk_at "st"
    rw [gc_self, ok_ok]; exact ⟨rfl, rfl⟩
  | fork l r =>
    simp only [Pr.hgt] at hh
    rw [show (Pr.fork l r).d = .tup [.str "fork", l.d, r.d] from rfl]
    walk_at "st"
    walk_at "st"
    walk_at "st"
    rw [hk (k - 1) (by omega) l hp2.1 (by omega)]
    walk_at "ex"
    rw [hk (k - 1) (by omega) r hp2.2 (by omega)]
    walk_at "ex"
    rw [gc_self, ok_ok]; exact ⟨rfl, rfl⟩
def G__law_fold (c__law_joined c__law_fold c__law_mark : List D → Hpp → R D) : S :=
    (sSeq (sIf (mBin cmpEq (mBin opIx (mVar 0) (mC (.int 0))) (mC (.str "leaf"))) (sSeq (sRet (mTup (mCons (mCallV c__law_mark 2 0 [.pos 0, .pos 1] (mCons (mBin opIx (mVar 0) (mC (.int 1))) (mCons (mVar 1) mNil)) mNil) (mCons (mC (.int 1)) mNil))))
    sNil) sNil)
    (sSeq (sIf (mBin cmpEq (mBin opIx (mVar 0) (mC (.int 0))) (mC (.str "cut"))) (sSeq (sRet (mBin opIx (mVar 0) (mC (.int 1))))
    sNil) sNil)
    (sSeq (sRet (mCallV c__law_joined 3 0 [.pos 0, .pos 1, .pos 2] (mCons (mCallV c__law_fold 2 0 [.pos 0, .pos 1] (mCons (mBin opIx (mVar 0) (mC (.int 1))) (mCons (mVar 1) mNil)) mNil) (mCons (mCallV c__law_fold 2 0 [.pos 0, .pos 1] (mCons (mBin opIx (mVar 0) (mC (.int 2))) (mCons (mVar 1) mNil)) mNil) (mCons (mVar 1) mNil))) mNil))
    sNil)))
theorem dfold_ok {c_fork c_fold c_mark : CF} {j : Nat} (hf : ForkS c_fork) (hm : MarkS j c_mark) {k : Nat} (hk : ∀ i, i < k → FoldS j i c_fold) : FoldS j k (run 2 2 (G__law_fold c_fork c_fold c_mark)) := by
  intro p hp hh b A hb hb2
  apply ok_eq
  refine ok_run rfl ?_
  unfold G__law_fold
  cases p with
  | leaf d =>
    rw [show (Pr.leaf d).d = .tup [.str "leaf", d] from rfl]
    walk_at "st"
    walk_at "st"
    rw [hm d b A hp.1 hp.2.2.2 hb hb2]
    walk_at "ex"
    rw [gc_self, ok_ok]; exact ⟨rfl, rfl⟩
  | cut m n =>
    rw [show (Pr.cut m n).d = .tup [.str "cut", .tup [.int m, .int n]] from rfl]
    walk_at "st"
    walk_at "st"
    walk_at "st"
    rw [gc_self, ok_ok]; exact ⟨rfl, rfl⟩
  | fork l r =>
    simp only [Pr.hgt] at hh
    rw [show (Pr.fork l r).d = .tup [.str "fork", l.d, r.d] from rfl]
    walk_at "st"
    walk_at "st"
    walk_at "st"
    rw [hk (k - 1) (by omega) l hp.1 (by omega) b A hb hb2]
    walk_at "ex"
    rw [hk (k - 1) (by omega) r hp.2 (by omega) b A hb hb2]
    walk_at "ex"
    rw [hf _ _ _ _ b _ hb hb2]
    walk_at "ex"
    rw [gc_self, ok_ok]; exact ⟨rfl, rfl⟩
def G__law_is_even (c__law_is_even c__law_many_in c__law_cut_at : List D → Hpp → R D) : S :=
    (sSeq (sIf (mBin cmpNe (mBin opIx (mVar 0) (mC (.int 0))) (mC (.str "fork"))) (sSeq (sRet (mC (.bl true)))
    sNil) sNil)
    (sSeq (sIf (mBin cmpNe (mCallV c__law_many_in 1 0 [.pos 0] (mCons (mBin opIx (mVar 0) (mC (.int 1))) mNil) mNil) (mCallV c__law_cut_at 1 0 [.pos 0] (mCons (mCallV c__law_many_in 1 0 [.pos 0] (mCons (mVar 0) mNil) mNil) mNil) mNil)) (sSeq (sRet (mC (.bl false)))
    sNil) sNil)
    (sSeq (sRet (mAnd (mCallV c__law_is_even 1 0 [.pos 0] (mCons (mBin opIx (mVar 0) (mC (.int 1))) mNil) mNil) (mCallV c__law_is_even 1 0 [.pos 0] (mCons (mBin opIx (mVar 0) (mC (.int 2))) mNil) mNil)))
    sNil)))
theorem even_ok {c_even c_many c_cut : CF} {j m : Nat} (hc : CntS j m c_many) (hs : SplitS c_cut) {k : Nat} (hkm : k ≤ m) (hk : ∀ i, i < k → ShapeS j i c_even) : ShapeS j k (run 1 1 (G__law_is_even c_even c_many c_cut)) := by
  intro p hp hf hh A
  apply ok_eq
  refine ok_run rfl ?_
  unfold G__law_is_even
  cases p with
  | leaf d =>
    rw [show (Pr.leaf d).d = .tup [.str "leaf", d] from rfl]
    walk_at "st"
    walk_at "st"
    rw [gc_self, ok_ok]; exact ⟨rfl, rfl⟩
  | cut m n =>
    rw [show (Pr.cut m n).d = .tup [.str "cut", .tup [.int m, .int n]] from rfl]
    walk_at "st"
    walk_at "st"
    rw [gc_self, ok_ok]; exact ⟨rfl, rfl⟩
  | fork l r =>
    have hh0 := hh
    simp only [Pr.hgt] at hh
    have c1 := cnt_pos hp.1
    have c2 := cnt_pos hp.2
    have hf' : l.cnt + r.cnt < 2 ^ 58 := hf
    rw [show (Pr.fork l r).d = .tup [.str "fork", l.d, r.d] from rfl]
    walk_at "st"
    walk_at "st"
    rw [hc l hp.1 (by omega)]
    walk_at "ex"
    rw [show D.tup [.str (Str.ofString "fork"), l.d, r.d] = (Pr.fork l r).d from rfl, hc _ hp (by omega)]
    walk_at "ex"
    rw [show (Pr.fork l r).cnt = l.cnt + r.cnt from rfl, hs _ A (by omega) (by omega)]
    walk_at "ex"
    by_cases h : l.cnt = spl (l.cnt + r.cnt)
    · rw [if_neg (by simpa using h)]
      walk_at "ex"
      rw [show (Pr.fork l r).d = .tup [.str "fork", l.d, r.d] from rfl]
      walk_at "st"
      rw [hk (k - 1) (by omega) l hp.1 (by unfold Pr.few; omega) (by omega)]
      walk_at "ex"
      simp only [Pr.shape]
      rw [decide_eq_true h, Bool.true_and]
      by_cases s1 : l.shape = true
      · rw [if_pos s1, hk (k - 1) (by omega) r hp.2 (by unfold Pr.few; omega) (by omega)]
        walk_at "ex"
        rw [gc_self, ok_ok, s1]; exact ⟨rfl, rfl⟩
      · rw [if_neg s1]
        simp only [Bool.not_eq_true] at s1
        walk_at "ex"
        rw [gc_self, ok_ok, s1]; exact ⟨rfl, rfl⟩
    · rw [if_pos (by simpa using h)]
      walk_at "st"
      rw [gc_self, ok_ok]
      simp only [Pr.shape]
      rw [decide_eq_false h]
      exact ⟨rfl, trivial⟩
def G__law_ahead (c__law_joined c__law_fold c__law_ahead c__law_many_in : List D → Hpp → R D) : S :=
    (sSeq (sAsg (mCallV c__law_many_in 1 0 [.pos 0] (mCons (mVar 0) mNil) mNil) (gVar 3))
    (sSeq (sIf (mBin cmpEq (mVar 1) (mC (.int 0))) (sSeq (sRet (mTup (mCons (mC (.int 0)) (mCons (mC (.int 0)) mNil))))
    sNil) sNil)
    (sSeq (sIf (mBin cmpEq (mVar 1) (mVar 3)) (sSeq (sRet (mCallV c__law_fold 2 0 [.pos 0, .pos 1] (mCons (mVar 0) (mCons (mVar 2) mNil)) mNil))
    sNil) sNil)
    (sSeq (sIf (mBin cmpNe (mBin opIx (mVar 0) (mC (.int 0))) (mC (.str "fork"))) (sSeq (sRet (mC .non))
    sNil) sNil)
    (sSeq (sAsg (mCallV c__law_many_in 1 0 [.pos 0] (mCons (mBin opIx (mVar 0) (mC (.int 1))) mNil) mNil) (gVar 4))
    (sSeq (sIf (mBin cmpLe (mVar 1) (mVar 4)) (sSeq (sRet (mCallV c__law_ahead 3 0 [.pos 0, .pos 1, .pos 2] (mCons (mBin opIx (mVar 0) (mC (.int 1))) (mCons (mVar 1) (mCons (mVar 2) mNil))) mNil))
    sNil) sNil)
    (sSeq (sAsg (mCallV c__law_ahead 3 0 [.pos 0, .pos 1, .pos 2] (mCons (mBin opIx (mVar 0) (mC (.int 2))) (mCons (mBin opSub (mVar 1) (mVar 4)) (mCons (mVar 2) mNil))) mNil) (gVar 5))
    (sSeq (sIf (mBin cmpIs (mVar 5) (mC .non)) (sSeq (sRet (mC .non))
    sNil) sNil)
    (sSeq (sRet (mCallV c__law_joined 3 0 [.pos 0, .pos 1, .pos 2] (mCons (mCallV c__law_fold 2 0 [.pos 0, .pos 1] (mCons (mBin opIx (mVar 0) (mC (.int 1))) (mCons (mVar 2) mNil)) mNil) (mCons (mVar 5) (mCons (mVar 2) mNil))) mNil))
    sNil)))))))))
def olD : Option (Int × Int) → D
  | none => .non
  | some q => labD q.1 q.2
def AheadS (j k : Nat) (c : CF) : Prop := ∀ p : Pr, p.ok j → p.hgt ≤ k → ∀ (n b : Int) A, 0 < b → b ≤ 2 ^ 63 → c [p.d, .int n, .int b] A = .ok (olD (p.ahd b n)) A
theorem ahead_ok {c_fork c_fold c_ahead c_many : CF} {j m : Nat} (hf : ForkS c_fork) (hfo : FoldS j m c_fold) (hc : CntS j m c_many) {k : Nat} (hkm : k ≤ m) (hk : ∀ i, i < k → AheadS j i c_ahead) : AheadS j k (run 6 3 (G__law_ahead c_fork c_fold c_ahead c_many)) := by
  intro p hp hh n b A hb hb2
  apply ok_eq
  refine ok_run rfl ?_
  unfold G__law_ahead
  walk_at "st"
  rw [hc p hp (by omega)]
  walk_at "ex"
  walk_at "st"
  have a0 : n = 0 → p.ahd b n = some (0, 0) := fun h => by cases p <;> simp only [Pr.ahd] <;> rw [if_pos h]
  by_cases h0 : n = 0
  · rw [if_pos (by simpa using h0)]
    walk_at "st"
    rw [gc_self, ok_ok, a0 h0]; exact ⟨rfl, rfl⟩
  rw [if_neg (by simpa using h0)]
  walk_at "ex"
  walk_at "st"
  have a1 : n = p.cnt → p.ahd b n = some (p.lab b) := fun h => by
    cases p with
    | leaf d => simp only [Pr.cnt] at h; simp only [Pr.ahd]; rw [if_neg h0, if_pos h]; rfl
    | cut u v => simp only [Pr.cnt] at h; simp only [Pr.ahd]; rw [if_neg h0, if_pos h]; rfl
    | fork l r => simp only [Pr.cnt] at h; simp only [Pr.ahd]; rw [if_neg h0, if_pos h]
  by_cases h1 : n = p.cnt
  · rw [if_pos (by simpa using h1)]
    walk_at "st"
    rw [hfo p hp (by omega) b _ hb hb2]
    walk_at "ex"
    rw [gc_self, ok_ok, a1 h1]; exact ⟨rfl, rfl⟩
  rw [if_neg (by simpa using h1)]
  walk_at "ex"
  cases p with
  | leaf d =>
    walk_at "st"
    rw [show (Pr.leaf d).d = .tup [.str "leaf", d] from rfl]
    walk_at "ex"
    walk_at "st"
    rw [gc_self, ok_ok]
    simp only [Pr.cnt] at h1
    simp only [Pr.ahd]
    rw [if_neg h0, if_neg h1]; exact ⟨rfl, trivial⟩
  | cut u v =>
    walk_at "st"
    rw [show (Pr.cut u v).d = .tup [.str "cut", .tup [.int u, .int v]] from rfl]
    walk_at "ex"
    walk_at "st"
    rw [gc_self, ok_ok]
    simp only [Pr.cnt] at h1
    simp only [Pr.ahd]
    rw [if_neg h0, if_neg h1]; exact ⟨rfl, trivial⟩
  | fork l r =>
    simp only [Pr.hgt] at hh
    simp only [Pr.cnt] at h1
    walk_at "st"
    rw [show (Pr.fork l r).d = .tup [.str "fork", l.d, r.d] from rfl]
    walk_at "ex"
    walk_at "st"
    rw [hc l hp.1 (by omega)]
    walk_at "ex"
    walk_at "st"
    have ea : (Pr.fork l r).ahd b n = if n ≤ l.cnt then l.ahd b n else (r.ahd b (n - l.cnt)).map fun q => fk b (l.lab b) q := by
      conv => lhs; unfold Pr.ahd
      rw [if_neg h0, if_neg h1]
    rw [ea]
    by_cases h2 : n ≤ l.cnt
    · rw [if_pos (by simpa using h2), if_pos h2]
      walk_at "st"
      rw [hk (k - 1) (by omega) l hp.1 (by omega) n b A hb hb2]
      walk_at "ex"
      rw [gc_self, ok_ok]; exact ⟨rfl, rfl⟩
    · rw [if_neg (by simpa using h2), if_neg h2]
      walk_at "ex"
      walk_at "st"
      rw [hk (k - 1) (by omega) r hp.2 (by omega) (n - l.cnt) b A hb hb2]
      walk_at "ex"
      cases ho : r.ahd b (n - l.cnt) with
      | none =>
        walk_at "st"
        rw [show olD none = .non from rfl]
        walk_at "ex"
        walk_at "st"
        rw [gc_self, ok_ok]; exact ⟨rfl, rfl⟩
      | some q =>
        walk_at "st"
        rw [show olD (some q) = .tup [.int q.1, .int q.2] from rfl]
        walk_at "ex"
        walk_at "st"
        rw [hfo l hp.1 (by omega) b _ hb hb2]
        walk_at "ex"
        rw [show D.tup [.int q.1, .int q.2] = labD q.1 q.2 from rfl, hf _ _ _ _ b _ hb hb2]
        walk_at "ex"
        rw [gc_self, ok_ok]; exact ⟨rfl, rfl⟩
def G__law_is_paper (c__law_fold c__law_ahead c__law_is_tree c__law_is_even c__law_many_in : List D → Hpp → R D) : S :=
    (sSeq (sIf (mBin cmpEq (mBin opIx (mVar 1) (mC (.int 1))) (mC (.int 0))) (sSeq (sRet (mBin cmpIs (mVar 0) (mC .non)))
    sNil) sNil)
    (sSeq (sIf (mOr (mNot (mCallV c__law_is_tree 1 0 [.pos 0] (mCons (mVar 0) mNil) mNil)) (mOr (mNot (mCallV c__law_is_even 1 0 [.pos 0] (mCons (mVar 0) mNil) mNil)) (mBin cmpNe (mCallV c__law_many_in 1 0 [.pos 0] (mCons (mVar 0) mNil) mNil) (mBin opIx (mVar 1) (mC (.int 1)))))) (sSeq (sRet (mC (.bl false)))
    sNil) sNil)
    (sSeq (sRet (mAnd (mBin cmpEq (mCallV c__law_fold 2 0 [.pos 0, .pos 1] (mCons (mVar 0) (mCons (mVar 3) mNil)) mNil) (mBin opIx (mVar 2) (mC (.int 1)))) (mBin cmpEq (mCallV c__law_ahead 3 0 [.pos 0, .pos 1, .pos 2] (mCons (mVar 0) (mCons (mBin opIx (mVar 1) (mC (.int 0))) (mCons (mVar 3) mNil))) mNil) (mBin opIx (mVar 2) (mC (.int 0))))))
    sNil)))
/-- a label told in two ways -/
theorem eq_lab {m n : Int} {A : Hpp} (h1 : 0 ≤ m) (h2 : m < 2 ^ 60) (h3 : 0 ≤ n) (h4 : n < 2 ^ 60) : cmpEq (labD m n) (labD m n) A = .ok (.bl true) A := by
  obtain ⟨a, b⟩ := lab_pl h1 h2 h3 h4
  exact eq_self a (by omega)
theorem lbl_rng2 {b : Int} (hb : 0 < b) (hb2 : b ≤ 2 ^ 50) (l : List D) (h : l.length < 2 ^ 40) : 0 ≤ (lbl b l).1 ∧ (lbl b l).1 < 2 ^ 60 ∧ 0 ≤ (lbl b l).2 ∧ (lbl b l).2 < 2 ^ 60 := by
  have c := lbl_cnt b _ l (Nat.le_refl _)
  rcases lbl_rng hb l with h1 | h1
  · omega
  · subst h1; rw [lbl_nil]; decide
/-- grown papers are papers: of a row l, sizes s and t -/
def IsPaperS (k : Nat) (c : CF) : Prop := ∀ (l : List D) (s t b : Int) (A : Hpp), l.length ≤ k → 0 ≤ s → s ≤ t → t ≤ l.length → 0 < b → b ≤ 2 ^ 50 →
  c [gpD b l s t, .tup [.int s, .int t], .tup [labD (lbl b (l.take s.toNat)).1 (lbl b (l.take s.toNat)).2, labD (lbl b (l.take t.toNat)).1 (lbl b (l.take t.toNat)).2], .int b] A = .ok (.bl true) A
theorem ispaper_ok {c_fold c_ahead c_tree c_even c_many : CF} {k : Nat} (hk9 : k ≤ 1000) (hfo : FoldS 2 k c_fold) (hah : AheadS 2 k c_ahead) (htr : TreeS k c_tree) (hev : ShapeS 2 k c_even) (hc : CntS 2 k c_many) : IsPaperS k (run 4 4 (G__law_is_paper c_fold c_ahead c_tree c_even c_many)) := by
  intro l s t b A hlk h0 h1 h2 hb hb2
  have hb3 : b ≤ 2 ^ 63 := by omega
  apply ok_eq
  refine ok_run rfl ?_
  unfold G__law_is_paper
  walk_at "st"
  by_cases ht : t = 0
  · rw [if_pos (by simpa using ht)]
    walk_at "st"
    rw [show gpD b l s t = .non from by unfold gpD; rw [if_neg (by omega)]]
    walk_at "ex"
    rw [gc_self, ok_ok]; exact ⟨rfl, rfl⟩
  rw [if_neg (by simpa using ht)]
  walk_at "ex"
  have hg : gpD b l s t = (gt b (l.take t.toNat) s).d := by unfold gpD; rw [if_pos (by omega)]
  rw [hg]
  have lt : (l.take t.toNat).length = t.toNat := by rw [List.length_take]; omega
  obtain ⟨f1, f2, f3, f4, f5, f6⟩ := gt_facts hb hb2 _ (l.take t.toNat) s (Nat.le_refl _) (by omega) (by omega) h0 (by omega)
  have fb := gt_bare b _ (l.take t.toNat) s (Nat.le_refl _)
  have eT : (l.take t.toNat).take s.toNat = l.take s.toNat := by rw [List.take_take, show min s.toNat t.toNat = s.toNat by omega]
  rw [eT] at f6
  generalize gt b (l.take t.toNat) s = p at *
  have p5 := f5 2
  walk_at "st"
  rw [htr p p5 fb (by omega)]
  walk_at "ex"
  rw [hev p p5 (by unfold Pr.few; omega) (by omega), f2]
  walk_at "ex"
  rw [hc p p5 (by omega), f1]
  walk_at "ex"
  rw [show ((l.take t.toNat).length : Int) = t by omega]
  walk_at "ex"
  walk_at "st"
  rw [hfo p p5 (by omega) b _ hb hb3, f3]
  walk_at "ex"
  obtain ⟨q1, q2, q3, q4⟩ := lbl_rng2 hb hb2 (l.take t.toNat) (by omega)
  rw [eq_lab q1 q2 q3 q4]
  walk_at "ex"
  rw [hah p p5 (by omega) s b _ hb hb3, f6]
  walk_at "ex"
  obtain ⟨q1, q2, q3, q4⟩ := lbl_rng2 hb hb2 (l.take s.toNat) (by rw [List.length_take]; omega)
  rw [show olD (some (lbl b (l.take s.toNat))) = labD (lbl b (l.take s.toNat)).1 (lbl b (l.take s.toNat)).2 from rfl, eq_lab q1 q2 q3 q4]
  walk_at "ex"
  rw [gc_self, ok_ok]; exact ⟨rfl, rfl⟩
def G__law_is_right (c__law_is_paper c__law_top : List D → Hpp → R D) : S :=
    (sSeq (sAsg (mTup (mCons (mCallV c__law_top 2 0 [.pos 0, .pos 1] (mCons (mSlice (mVar 1) oNone (oSome (mVar 2))) (mCons (mVar 4) mNil)) mNil) (mCons (mCallV c__law_top 2 0 [.pos 0, .pos 1] (mCons (mSlice (mVar 1) oNone (oSome (mVar 3))) (mCons (mVar 4) mNil)) mNil) mNil))) (gVar 5))
    (sSeq (sRet (mCallV c__law_is_paper 4 0 [.pos 0, .pos 1, .pos 2, .pos 3] (mCons (mVar 0) (mCons (mTup (mCons (mVar 2) (mCons (mVar 3) mNil))) (mCons (mVar 5) (mCons (mVar 4) mNil)))) mNil))
    sNil))
def IsRightS (k : Nat) (c : CF) : Prop := ∀ (l : List D) (s t b : Int) (A : Hpp), (∀ d ∈ l, d.th = true ∧ d.dp ≤ 2) → l.length ≤ k → 0 ≤ s → s ≤ t → t ≤ l.length → 0 < b → b ≤ 2 ^ 50 → c [gpD b l s t, .tup l, .int s, .int t, .int b] A = .ok (.bl true) A
theorem isright_ok {c_paper c_top : CF} {k : Nat} (hp : IsPaperS k c_paper) (ht : TopS 2 k c_top) : IsRightS k (run 6 5 (G__law_is_right c_paper c_top)) := by
  intro l s t b A hl hlk h0 h1 h2 hb hb2
  have hb3 : b ≤ 2 ^ 63 := by omega
  apply ok_eq
  refine ok_run rfl ?_
  unfold G__law_is_right
  walk_at "st"
  rw [sl_tup, cut_lo l (by omega) (by omega)]
  walk_at "ex"
  rw [ht (l.take s.toNat) b A (fun d hd => hl d (List.mem_of_mem_take hd)) (by simp; omega) hb hb3]
  walk_at "ex"
  rw [sl_tup, cut_lo l (by omega) (by omega)]
  walk_at "ex"
  rw [ht (l.take t.toNat) b A (fun d hd => hl d (List.mem_of_mem_take hd)) (by simp; omega) hb hb3]
  walk_at "ex"
  walk_at "st"
  rw [hp l s t b A hlk h0 h1 h2 hb hb2]
  walk_at "ex"
  rw [gc_self, ok_ok]; exact ⟨rfl, rfl⟩
end Rf.Fd
namespace Rf
open PySem PySem.Spec L2
/-! ### things with lists in them that stay -/
/-- places not looked at; the bound of numbers -/
structure Fz where
  t : List Nat
  b : Nat
/-- a thing with its lists read; places of T are not looked at; numbers below 2^400, signs below 128 -/
def D.sn (T : Fz) (A : Hpp) : Nat → D → Option PyData
  | _, .non => some .none
  | _, .bl b => some (.bool b)
  | _, .int i => if i.natAbs < T.b then some (.int i) else none
  | _, .str s => if (s.cps.toList.all fun c => decide (c < 128)) = true then some (.str s) else none
  | n + 1, .tup l => (optAll (l.map (D.sn T A n))).map .tuple
  | n + 1, .ref k => if k ∈ T.t then none else match A[k]? with
    | some (.lst l) => (optAll (l.map (D.sn T A n))).map .list
    | _ => none
  | 0, .tup _ => none
  | 0, .ref _ => none
def OA (f : D → Option PyData) : List D → List PyData → Prop
  | [], [] => True
  | d :: l, p :: ps => f d = some p ∧ OA f l ps
  | _, _ => False
theorem oa_iff {f : D → Option PyData} : ∀ {l : List D} {ps : List PyData}, optAll (l.map f) = some ps ↔ OA f l ps
  | [], [] => by simp [optAll, OA]
  | [], p :: ps => by simp [optAll, OA]
  | d :: l, ps => by
    rw [List.map_cons]
    cases hd : f d with
    | none => cases ps <;> simp [optAll, OA, hd]
    | some q =>
      simp only [optAll, Option.map_eq_some_iff]
      cases ps with
      | nil => simp [OA]
      | cons p ps =>
        simp only [OA, hd, Option.some.injEq]
        constructor
        · rintro ⟨qs, h1, h2⟩
          cases h2
          exact ⟨rfl, oa_iff.mp h1⟩
        · rintro ⟨rfl, h⟩
          exact ⟨ps, oa_iff.mpr h, rfl⟩
theorem OA.imp {f g : D → Option PyData} : ∀ {l : List D} {ps : List PyData}, (∀ d ∈ l, ∀ p, f d = some p → g d = some p) → OA f l ps → OA g l ps
  | [], [], _, _ => trivial
  | d :: l, p :: ps, h, ⟨a, b⟩ => ⟨h d (List.mem_cons_self ..) p a, OA.imp (fun e he => h e (List.mem_cons_of_mem _ he)) b⟩
  | [], _ :: _, _, h => h.elim
  | _ :: _, [], _, h => h.elim
theorem OA.append {f : D → Option PyData} : ∀ {a : List D} {ps : List PyData} {b : List D} {qs : List PyData}, OA f a ps → OA f b qs → OA f (a ++ b) (ps ++ qs)
  | [], [], _, _, _, h => h
  | d :: l, p :: ps, _, _, ⟨x, y⟩, h => ⟨x, OA.append y h⟩
  | [], _ :: _, _, _, h, _ => h.elim
  | _ :: _, [], _, _, h, _ => h.elim
theorem OA.split {f : D → Option PyData} : ∀ {a b : List D} {rs : List PyData}, OA f (a ++ b) rs → ∃ ps qs, rs = ps ++ qs ∧ OA f a ps ∧ OA f b qs
  | [], b, rs, h => ⟨[], rs, rfl, trivial, h⟩
  | d :: a, b, p :: rs, ⟨x, y⟩ => by
    obtain ⟨ps, qs, rfl, h1, h2⟩ := OA.split (a := a) (b := b) y
    exact ⟨p :: ps, qs, rfl, ⟨x, h1⟩, h2⟩
  | d :: a, b, [], h => h.elim
theorem OA.mem {f : D → Option PyData} : ∀ {l : List D} {ps : List PyData} {d : D}, OA f l ps → d ∈ l → ∃ p ∈ ps, f d = some p
  | d :: l, p :: ps, e, ⟨x, y⟩, h => by
    rcases List.mem_cons.mp h with rfl | h
    · exact ⟨p, List.mem_cons_self .., x⟩
    · obtain ⟨q, h1, h2⟩ := OA.mem y h
      exact ⟨q, List.mem_cons_of_mem _ h1, h2⟩
  | _ :: _, [], _, h, _ => h.elim
theorem OA.len {f : D → Option PyData} : ∀ {l : List D} {ps : List PyData}, OA f l ps → ps.length = l.length
  | [], [], _ => rfl
  | _ :: l, _ :: ps, ⟨_, y⟩ => by simp [OA.len y]
  | [], _ :: _, h => h.elim
  | _ :: _, [], h => h.elim
end Rf
namespace PySem
mutual
/-- how heavy: no more than a fifth of the signs of the repr -/
def PyData.wg : PyData → Nat
  | .none => 1
  | .bool _ => 1
  | .int i => if i == 0 then 0 else i.natAbs.log2 + 1
  | .str s => s.length
  | .list xs => PyData.wgA xs
  | .tuple xs => PyData.wgA xs
  | .dict _ => 0
def PyData.wgA : List PyData → Nat
  | [] => 0
  | p :: ps => PyData.wg p + 1 + PyData.wgA ps
end
end PySem
namespace Rf
open PySem PySem.Spec L2
theorem esc_len {q c : Nat} (hq : q = 34 ∨ q = 39) (hc : c < 128) : (Builtin.Str.reprChar q c).length ≤ 4 := by
  have h1 : ∀ c : Nat, c < 128 → (Builtin.Str.reprChar 39 c).length ≤ 4 := by decide +kernel
  have h2 : ∀ c : Nat, c < 128 → (Builtin.Str.reprChar 34 c).length ≤ 4 := by decide +kernel
  rcases hq with rfl | rfl
  · exact h2 c hc
  · exact h1 c hc
theorem repr_len {x : Str} (h : (x.cps.toList.all fun c => decide (c < 128)) = true) : (reprText x).length ≤ 4 * x.length + 2 := by
  have hq : reprQuote x = 34 ∨ reprQuote x = 39 := by
    unfold reprQuote
    split
    · exact .inl rfl
    · exact .inr rfl
  have key : ∀ (l : List Nat) (acc : Array Nat), (∀ c ∈ l, c < 128) → (l.foldl (fun out c => out ++ (Builtin.Str.reprChar (reprQuote x) c).toArray) acc).size ≤ acc.size + 4 * l.length := by
    intro l
    induction l with
    | nil => intro acc _; simp
    | cons c l ih =>
      intro acc h
      rw [List.foldl_cons]
      have := ih (acc ++ (Builtin.Str.reprChar (reprQuote x) c).toArray) fun y hy => h y (List.mem_cons_of_mem _ hy)
      have := esc_len hq (h c (List.mem_cons_self ..))
      simp only [Array.size_append, List.size_toArray, List.length_cons] at *
      omega
  unfold reprText
  show (Array.push _ _).size ≤ _
  rw [Array.size_push, ← Array.foldl_toList]
  have := key x.cps.toList #[reprQuote x] fun c hc => of_decide_eq_true (List.all_eq_true.mp h c hc)
  have e : x.cps.toList.length = x.length := by simp [Str.length]
  rw [e] at this
  have e1 : (#[reprQuote x] : Array Nat).size = 1 := rfl
  rw [e1] at this
  omega
theorem int_len (i : Int) : (Str.ofString (toString i)).length ≤ 5 * (PyData.int i).wg + 3 := by
  simp only [PyData.wg]
  rw [ofString_length]
  by_cases h : i = 0
  · subst h; decide +kernel
  · rw [if_neg (by simpa using h)]
    have h1 : i.natAbs < 10 ^ (i.natAbs.log2 + 1) := by
      have h2 : i.natAbs < 2 ^ (i.natAbs.log2 + 1) := (Nat.log2_lt (by omega)).mp (by omega)
      exact Nat.lt_of_lt_of_le h2 (Nat.pow_le_pow_left (by decide) _)
    have := int_text_length_le10 (a := i) (k := i.natAbs.log2 + 1) (by omega) h1
    omega
theorem wA_app : ∀ ps qs : List PyData, PyData.wgA (ps ++ qs) = PyData.wgA ps + PyData.wgA qs
  | [], qs => by simp [PyData.wgA]
  | p :: ps, qs => by simp only [List.cons_append, PyData.wgA, wA_app ps qs]; omega
theorem wA_mem : ∀ {ps : List PyData} {p : PyData}, p ∈ ps → p.wg + 1 ≤ PyData.wgA ps
  | q :: ps, p, h => by
    simp only [PyData.wgA]
    rcases List.mem_cons.mp h with rfl | h
    · omega
    · have := wA_mem h; omega
theorem wA_rev (ps : List PyData) : PyData.wgA ps.reverse = PyData.wgA ps := by
  induction ps with
  | nil => rfl
  | cons p ps ih => rw [List.reverse_cons, wA_app, ih]; simp only [PyData.wgA]; omega
theorem OA.rev {f : D → Option PyData} : ∀ {l : List D} {ps : List PyData}, OA f l ps → OA f l.reverse ps.reverse
  | [], [], _ => trivial
  | d :: l, p :: ps, ⟨x, y⟩ => by
    rw [List.reverse_cons, List.reverse_cons]
    exact OA.append (OA.rev y) ⟨x, trivial⟩
  | [], _ :: _, h => h.elim
  | _ :: _, [], h => h.elim
theorem OA.filt {f : D → Option PyData} (g : D → Bool) : ∀ {l : List D} {ps : List PyData}, OA f l ps → ∃ qs, OA f (l.filter g) qs ∧ PyData.wgA qs ≤ PyData.wgA ps
  | [], [], _ => ⟨[], trivial, Nat.le_refl _⟩
  | d :: l, p :: ps, ⟨x, y⟩ => by
    obtain ⟨qs, h1, h2⟩ := OA.filt g y
    by_cases hg : g d = true
    · rw [List.filter_cons_of_pos hg]
      exact ⟨p :: qs, ⟨x, h1⟩, by simp only [PyData.wgA]; omega⟩
    · rw [List.filter_cons_of_neg hg]
      exact ⟨qs, h1, by simp only [PyData.wgA]; omega⟩
  | [], _ :: _, h => h.elim
  | _ :: _, [], h => h.elim
section
variable {T T' : Fz} {A A' : Hpp} {n m w : Nat} {d : D} {p : PyData}
theorem sn_tup {l : List D} : D.sn T A (n + 1) (.tup l) = some p ↔ ∃ ps, p = .tuple ps ∧ OA (D.sn T A n) l ps := by
  simp only [D.sn, Option.map_eq_some_iff]
  constructor
  · rintro ⟨ps, h, rfl⟩; exact ⟨ps, rfl, oa_iff.mp h⟩
  · rintro ⟨ps, rfl, h⟩; exact ⟨ps, oa_iff.mpr h, rfl⟩
theorem sn_ref {k : Nat} : D.sn T A (n + 1) (.ref k) = some p ↔ k ∉ T.t ∧ ∃ l ps, A[k]? = some (.lst l) ∧ p = .list ps ∧ OA (D.sn T A n) l ps := by
  simp only [D.sn]
  by_cases hk : k ∈ T.t
  · simp [hk]
  · rw [if_neg hk]
    constructor
    · intro h
      split at h
      · rename_i l hl
        obtain ⟨ps, h1, h2⟩ := Option.map_eq_some_iff.mp h
        exact ⟨hk, l, ps, hl, h2.symm, oa_iff.mp h1⟩
      · cases h
    · rintro ⟨_, l, ps, hl, rfl, h⟩
      simp only [hl]
      exact Option.map_eq_some_iff.mpr ⟨ps, oa_iff.mpr h, rfl⟩
/-- one rule for all changes of the heap, of T and of the depth -/
theorem sn_to (hb : T.b ≤ T'.b) (h : ∀ k l, k < A.length → k ∉ T.t → A[k]? = some (.lst l) → k ∉ T'.t ∧ A'[k]? = some (.lst l)) : ∀ (n m : Nat) (d : D) (p : PyData), n ≤ m → D.sn T A n d = some p → D.sn T' A' m d = some p := by
  have leaf : ∀ (n m : Nat) (i : Int) (p : PyData), D.sn T A n (.int i) = some p → D.sn T' A' m (.int i) = some p := by
    intro n m i p h
    have h' : (if i.natAbs < T.b then some (PyData.int i) else none) = some p := by cases n <;> simpa [D.sn] using h
    have h2 : (if i.natAbs < T'.b then some (PyData.int i) else none) = some p := by
      split at h'
      · rw [if_pos (by omega)]; exact h'
      · cases h'
    cases m <;> simpa [D.sn] using h2
  intro n
  induction n with
  | zero =>
    intro m d p hm hp
    cases d with
    | tup l => simp [D.sn] at hp
    | ref k => simp [D.sn] at hp
    | int i => exact leaf _ _ _ _ hp
    | _ => cases m <;> exact hp
  | succ n ih =>
    intro m d p hm hp
    obtain ⟨m, rfl⟩ : ∃ q, m = q + 1 := ⟨m - 1, by omega⟩
    cases d with
    | int i => exact leaf _ _ _ _ hp
    | tup l =>
      obtain ⟨ps, rfl, hps⟩ := sn_tup.mp hp
      exact sn_tup.mpr ⟨ps, rfl, hps.imp fun d _ p hd => ih m d p (by omega) hd⟩
    | ref k =>
      obtain ⟨hk, l, ps, hl, rfl, hps⟩ := sn_ref.mp hp
      obtain ⟨h1, h2⟩ := h k l (List.getElem?_eq_some_iff.mp hl).1 hk hl
      exact sn_ref.mpr ⟨h1, l, ps, h2, rfl, hps.imp fun d _ p hd => ih m d p (by omega) hd⟩
    | _ => exact hp
theorem sn_mono (hm : n ≤ m) (h : D.sn T A n d = some p) : D.sn T A m d = some p := sn_to (Nat.le_refl _) (fun _ _ _ a b => ⟨a, b⟩) n m d p hm h
theorem sn_snap : ∀ (n m : Nat) (d : D) (p : PyData), n ≤ m → D.sn T A n d = some p → D.snap A m d = some p := by
  intro n
  induction n with
  | zero =>
    intro m d p hm hp
    cases d with
    | tup l => simp [D.sn] at hp
    | ref k => simp [D.sn] at hp
    | non => cases m <;> exact hp
    | bl b => cases m <;> exact hp
    | int i =>
      simp only [D.sn] at hp
      split at hp
      · cases m <;> exact hp
      · cases hp
    | str s =>
      simp only [D.sn] at hp
      split at hp
      · cases m <;> exact hp
      · cases hp
  | succ n ih =>
    intro m d p hm hp
    obtain ⟨m, rfl⟩ : ∃ q, m = q + 1 := ⟨m - 1, by omega⟩
    cases d with
    | tup l =>
      obtain ⟨ps, rfl, hps⟩ := sn_tup.mp hp
      simp only [D.snap]
      exact Option.map_eq_some_iff.mpr ⟨ps, oa_iff.mpr (hps.imp fun d _ p hd => ih m d p (by omega) hd), rfl⟩
    | ref k =>
      obtain ⟨hk, l, ps, hl, rfl, hps⟩ := sn_ref.mp hp
      simp only [D.snap, hl]
      exact Option.map_eq_some_iff.mpr ⟨ps, oa_iff.mpr (hps.imp fun d _ p hd => ih m d p (by omega) hd), rfl⟩
    | non => exact hp
    | bl b => exact hp
    | int i =>
      simp only [D.sn] at hp
      split at hp
      · exact hp
      · cases hp
    | str s =>
      simp only [D.sn] at hp
      split at hp
      · exact hp
      · cases hp
theorem oa_good {f : D → Option PyData} {n : Nat} : ∀ {l : List D} {ps : List PyData}, (∀ d ∈ l, ∀ p, f d = some p → p.canLay0 = true ∧ p.showable = true ∧ p.leavesShort 130 = true ∧ p.depth ≤ n) → OA f l ps →
    PyData.canLayAll0 ps = true ∧ PyData.showableAll ps = true ∧ PyData.leavesShortAll 130 ps = true ∧ PyData.depthAll ps ≤ n
  | [], [], _, _ => ⟨rfl, rfl, rfl, Nat.zero_le _⟩
  | d :: l, p :: ps, h, ⟨x, y⟩ => by
    obtain ⟨a1, a2, a3, a4⟩ := h d (List.mem_cons_self ..) p x
    obtain ⟨b1, b2, b3, b4⟩ := oa_good (fun e he => h e (List.mem_cons_of_mem _ he)) y
    refine ⟨?_, ?_, ?_, ?_⟩
    · simp only [PyData.canLayAll0, a1, b1]; rfl
    · simp only [PyData.showableAll, a2, b2]; rfl
    · simp only [PyData.leavesShortAll, a3, b3]; rfl
    · simp only [PyData.depthAll]; omega
  | [], _ :: _, _, h => h.elim
  | _ :: _, [], _, h => h.elim
theorem sn_leaf {d : D} {p : PyData} (hl : d.pl = true) (hd : d.py = p) (h0 : d.dp = 0) : p.canLay0 = true ∧ p.showable = true ∧ p.leavesShort 130 = true ∧ p.depth ≤ 0 := by
  subst hd
  obtain ⟨a, b⟩ := py_show d hl
  exact ⟨lay_py d hl, a, b, by rw [py_depth, h0]; exact Nat.le_refl _⟩
theorem sn_good (hb : T.b ≤ 2 ^ 400) : ∀ (n : Nat) (d : D) (p : PyData), D.sn T A n d = some p → p.canLay0 = true ∧ p.showable = true ∧ p.leavesShort 130 = true ∧ p.depth ≤ n := by
  intro n
  have leaf : ∀ (k : Nat) (d : D) (p : PyData), (∀ l, d ≠ .tup l) → (∀ k, d ≠ .ref k) → D.sn T A k d = some p → p.canLay0 = true ∧ p.showable = true ∧ p.leavesShort 130 = true ∧ p.depth ≤ 0 := by
    intro k d p h1 h2 h
    cases d with
    | tup l => exact absurd rfl (h1 l)
    | ref k => exact absurd rfl (h2 k)
    | non => cases k <;> (cases h; exact sn_leaf (d := .non) rfl rfl rfl)
    | bl b => cases k <;> (cases h; exact sn_leaf (d := .bl b) rfl rfl rfl)
    | int i =>
      have h' : (if i.natAbs < T.b then some (PyData.int i) else none) = some p := by cases k <;> simpa [D.sn] using h
      split at h'
      · rename_i hi
        cases h'
        exact sn_leaf (d := .int i) (decide_eq_true (Nat.lt_of_lt_of_le hi hb)) rfl rfl
      · cases h'
    | str s =>
      have h' : (if (s.cps.toList.all fun c => decide (c < 128)) = true then some (PyData.str s) else none) = some p := by cases k <;> simpa [D.sn] using h
      split at h'
      · rename_i hi
        cases h'
        exact sn_leaf (d := .str s) hi rfl rfl
      · cases h'
  induction n with
  | zero =>
    intro d p h
    cases d with
    | tup l => simp [D.sn] at h
    | ref k => simp [D.sn] at h
    | _ => exact leaf 0 _ p (by simp) (by simp) h
  | succ n ih =>
    intro d p h
    cases d with
    | tup l =>
      obtain ⟨ps, rfl, hps⟩ := sn_tup.mp h
      obtain ⟨a, b, c, e⟩ := oa_good (fun d _ p hd => ih d p hd) hps
      exact ⟨a, b, c, by simp only [PyData.depth]; omega⟩
    | ref k =>
      obtain ⟨hk, l, ps, hl, rfl, hps⟩ := sn_ref.mp h
      obtain ⟨a, b, c, e⟩ := oa_good (fun d _ p hd => ih d p hd) hps
      exact ⟨a, b, c, by simp only [PyData.depth]; omega⟩
    | _ =>
      obtain ⟨a, b, c, e⟩ := leaf (n + 1) _ p (by simp) (by simp) h
      exact ⟨a, b, c, by omega⟩
theorem oa_len {f : D → Option PyData} : ∀ {l : List D} {ps : List PyData}, (∀ d ∈ l, ∀ p, f d = some p → p.shown.length ≤ 5 * p.wg + 3) → OA f l ps →
    ((PyData.shownAll ps).map (·.length)).sum + 2 * (PyData.shownAll ps).length ≤ 5 * PyData.wgA ps
  | [], [], _, _ => by simp [PyData.shownAll, PyData.wgA]
  | d :: l, p :: ps, h, ⟨x, y⟩ => by
    have a := h d (List.mem_cons_self ..) p x
    have b := oa_len (fun e he => h e (List.mem_cons_of_mem _ he)) y
    simp only [PyData.shownAll, PyData.wgA, List.map_cons, List.sum_cons, List.length_cons]
    omega
  | [], _ :: _, _, h => h.elim
  | _ :: _, [], _, h => h.elim
theorem sn_len : ∀ (n : Nat) (d : D) (p : PyData), D.sn T A n d = some p → p.shown.length ≤ 5 * p.wg + 3 := by
  intro n
  have leaf : ∀ (k : Nat) (d : D) (p : PyData), (∀ l, d ≠ .tup l) → (∀ k, d ≠ .ref k) → D.sn T A k d = some p → p.shown.length ≤ 5 * p.wg + 3 := by
    intro k d p h1 h2 h
    cases d with
    | tup l => exact absurd rfl (h1 l)
    | ref k => exact absurd rfl (h2 k)
    | non => cases k <;> (cases h; decide +kernel)
    | bl b => cases k <;> (cases h; cases b <;> decide +kernel)
    | int i =>
      have h' : (if i.natAbs < T.b then some (PyData.int i) else none) = some p := by cases k <;> simpa [D.sn] using h
      split at h'
      · cases h'
        exact int_len i
      · cases h'
    | str s =>
      have h' : (if (s.cps.toList.all fun c => decide (c < 128)) = true then some (PyData.str s) else none) = some p := by cases k <;> simpa [D.sn] using h
      split at h'
      · rename_i hi
        cases h'
        have := repr_len hi
        simp only [PyData.shown, PyData.wg]
        omega
      · cases h'
  induction n with
  | zero =>
    intro d p h
    cases d with
    | tup l => simp [D.sn] at h
    | ref k => simp [D.sn] at h
    | _ => exact leaf 0 _ p (by simp) (by simp) h
  | succ n ih =>
    intro d p h
    cases d with
    | tup l =>
      obtain ⟨ps, rfl, hps⟩ := sn_tup.mp h
      have := oa_len (fun d _ p hd => ih d p hd) hps
      have t := tupleText_len_le (PyData.shownAll ps)
      simp only [PyData.shown, PyData.wg]
      omega
    | ref k =>
      obtain ⟨hk, l, ps, hl, rfl, hps⟩ := sn_ref.mp h
      have := oa_len (fun d _ p hd => ih d p hd) hps
      have t := listText_len_le (PyData.shownAll ps)
      simp only [PyData.shown, PyData.wg]
      omega
    | _ => exact leaf (n + 1) _ p (by simp) (by simp) h
theorem sn_repr (hb : T.b ≤ 2 ^ 400) (h : D.sn T A n d = some p) (hn : n ≤ 60) (hw : p.wg ≤ 3300000) : bRepr [d] A = .ok (.str p.shown) A := by
  have e := sn_snap n deepest d p (Nat.le_trans hn (by decide)) h
  obtain ⟨a, b, c, k⟩ := sn_good hb n d p h
  have l := sn_len n d p h
  unfold bRepr
  simp only [e]
  refine if_pos ⟨b, ?_, ?_⟩
  · have s := sizeLine_eq
    omega
  · exact Nat.le_trans k (Nat.le_trans hn (by decide))
theorem sn_shaped (hb : T.b ≤ 2 ^ 400) (h : D.sn T A n d = some p) (hn : n ≤ 60) : SeqAt.shaped p = true := by
  obtain ⟨a, b, c, k⟩ := sn_good hb n d p h
  unfold SeqAt.shaped
  rw [a]
  simp; omega
/-- == of tuples and lists, against one of none -/
theorem eq_empty (hb : T.b ≤ 2 ^ 400) {e : D} {l : List D} (hd : (d = .tup l ∧ e = .tup []) ∨ ∃ k k', d = .ref k ∧ A[k]? = some (.lst l) ∧ e = .ref k' ∧ A[k']? = some (.lst [])) (hl : ∃ ps, OA (D.sn T A n) l ps) (hn : n ≤ 50) : eqD d e A = some l.isEmpty := by
  obtain ⟨ps, hps⟩ := hl
  have hps' : optAll (l.map (D.snap A 63)) = some ps := oa_iff.mpr (hps.imp fun d _ p hd => sn_snap n 63 d p (by omega) hd)
  obtain ⟨g1, _, _, g4⟩ := oa_good (fun d _ p hd => sn_good hb n d p hd) hps
  have le := hps.len
  have ee : PyData.eqvAll ps [] = l.isEmpty := by
    cases l with
    | nil => cases ps with
      | nil => rfl
      | cons p ps => simp at le
    | cons x l => cases ps with
      | nil => simp at le
      | cons p ps => rfl
  have dd : ¬ PyData.depthAll ps + 1 > 64 := by omega
  rcases hd with ⟨rfl, rfl⟩ | ⟨k, k', rfl, hk, rfl, hk'⟩
  · have s1 : (D.tup l).snap A deepest = some (.tuple ps) := by
      show D.snap A (63 + 1) (.tup l) = _
      simp [D.snap, hps']
    have s2 : (D.tup []).snap A deepest = some (.tuple []) := by
      show D.snap A (63 + 1) (.tup []) = _
      simp [D.snap, optAll]
    have sh : SeqAt.shaped (.tuple ps) = true := by
      unfold SeqAt.shaped
      simp only [PyData.canLay0, PyData.depth, g1]
      simp; omega
    simp only [eqD, s1, s2, sh]
    rw [if_pos (by decide)]
    exact congrArg some ee
  · have s1 : (D.ref k).snap A deepest = some (.list ps) := by
      show D.snap A (63 + 1) (.ref k) = _
      simp [D.snap, hk, hps']
    have s2 : (D.ref k').snap A deepest = some (.list []) := by
      show D.snap A (63 + 1) (.ref k') = _
      simp [D.snap, hk', optAll]
    have sh : SeqAt.shaped (.list ps) = true := by
      unfold SeqAt.shaped
      simp only [PyData.canLay0, PyData.depth, g1]
      simp; omega
    simp only [eqD, s1, s2, sh]
    rw [if_pos (by decide)]
    exact congrArg some ee
theorem oa_low {f : D → Option PyData} {n : Nat} : ∀ {l : List D} {ps : List PyData}, (∀ d ∈ l, ∀ p, f d = some p → d.low n = true) → OA f l ps → D.lowL n l = true
  | [], [], _, _ => rfl
  | d :: l, p :: ps, h, ⟨x, y⟩ => by
    simp only [D.lowL, h d (List.mem_cons_self ..) p x, oa_low (fun e he => h e (List.mem_cons_of_mem _ he)) y]; rfl
  | [], _ :: _, _, h => h.elim
  | _ :: _, [], _, h => h.elim
theorem oa_rl {f : D → Option PyData} : ∀ {l : List D} {ps : List PyData}, (∀ d ∈ l, ∀ p, f d = some p → d.rl A = true) → OA f l ps → D.rlL A l = true
  | [], [], _, _ => rfl
  | d :: l, p :: ps, h, ⟨x, y⟩ => by
    simp only [D.rlL, h d (List.mem_cons_self ..) p x, oa_rl (fun e he => h e (List.mem_cons_of_mem _ he)) y]; rfl
  | [], _ :: _, _, h => h.elim
  | _ :: _, [], _, h => h.elim
theorem sn_low : ∀ (n : Nat) (d : D) (p : PyData), D.sn T A n d = some p → d.low A.length = true ∧ d.rl A = true := by
  intro n
  induction n with
  | zero =>
    intro d p h
    cases d with
    | tup l => simp [D.sn] at h
    | ref k => simp [D.sn] at h
    | _ => exact ⟨rfl, rfl⟩
  | succ n ih =>
    intro d p h
    cases d with
    | tup l =>
      obtain ⟨ps, rfl, hps⟩ := sn_tup.mp h
      exact ⟨oa_low (fun d _ p hd => (ih d p hd).1) hps, oa_rl (fun d _ p hd => (ih d p hd).2) hps⟩
    | ref k =>
      obtain ⟨hk, l, ps, hl, rfl, hps⟩ := sn_ref.mp h
      exact ⟨decide_eq_true (List.getElem?_eq_some_iff.mp hl).1, by simp [D.rl, hl]⟩
    | _ => exact ⟨rfl, rfl⟩
theorem lowL_mem {n : Nat} : ∀ {l : List D} {d : D}, D.lowL n l = true → d ∈ l → d.low n = true
  | e :: l, d, h, hd => by
    simp only [D.lowL, Bool.and_eq_true] at h
    rcases List.mem_cons.mp hd with rfl | hd
    · exact h.1
    · exact lowL_mem h.2 hd
/-- what lies below needs nothing beyond -/
theorem sn_pre {A1 X : Hpp} (hc : Cl A1) : ∀ (n : Nat) (d : D) (p : PyData), D.low A1.length d = true → D.sn T (A1 ++ X) n d = some p → D.sn T A1 n d = some p := by
  intro n
  induction n with
  | zero =>
    intro d p hl h
    cases d with
    | tup l => simp [D.sn] at h
    | ref k => simp [D.sn] at h
    | _ => exact h
  | succ n ih =>
    intro d p hl h
    cases d with
    | tup l =>
      obtain ⟨ps, rfl, hps⟩ := sn_tup.mp h
      exact sn_tup.mpr ⟨ps, rfl, hps.imp fun d hd p hp => ih d p (lowL_mem (by simpa [D.low] using hl) hd) hp⟩
    | ref k =>
      obtain ⟨hk, l, ps, hA, rfl, hps⟩ := sn_ref.mp h
      have hk2 : k < A1.length := of_decide_eq_true hl
      rw [List.getElem?_append_left hk2] at hA
      have ho : (HOb.lst l).low A1.length = true := by
        unfold Cl at hc
        rw [List.all_eq_true] at hc
        exact hc _ (List.mem_of_getElem? hA)
      exact sn_ref.mpr ⟨hk, l, ps, hA, rfl, hps.imp fun d hd p hp => ih d p (lowL_mem ho hd) hp⟩
    | _ => exact h
end
/-- a thing that stays: so deep, so heavy at most -/
def Fr (T : Fz) (A : Hpp) (n w : Nat) (d : D) : Prop := ∃ p, D.sn T A n d = some p ∧ p.wg ≤ w
def FrL (T : Fz) (A : Hpp) (n w : Nat) (l : List D) : Prop := ∃ ps, OA (D.sn T A n) l ps ∧ PyData.wgA ps ≤ w
section
variable {T T' : Fz} {A A' : Hpp} {n m w v : Nat} {d : D} {l l' : List D}
theorem Fr.to (hb : T.b ≤ T'.b) (h : ∀ k l, k < A.length → k ∉ T.t → A[k]? = some (.lst l) → k ∉ T'.t ∧ A'[k]? = some (.lst l)) (hm : n ≤ m) (hw : w ≤ v) : Fr T A n w d → Fr T' A' m v d := fun ⟨p, a, b⟩ => ⟨p, sn_to hb h n m d p hm a, by omega⟩
theorem FrL.to (hb : T.b ≤ T'.b) (h : ∀ k l, k < A.length → k ∉ T.t → A[k]? = some (.lst l) → k ∉ T'.t ∧ A'[k]? = some (.lst l)) (hm : n ≤ m) (hw : w ≤ v) : FrL T A n w l → FrL T' A' m v l := fun ⟨ps, a, b⟩ => ⟨ps, a.imp fun d _ p hp => sn_to hb h n m d p hm hp, by omega⟩
theorem Fr.mono (hm : n ≤ m) (hw : w ≤ v) (h : Fr T A n w d) : Fr T A m v d := h.to (Nat.le_refl _) (fun _ _ _ a b => ⟨a, b⟩) hm hw
theorem FrL.mono (hm : n ≤ m) (hw : w ≤ v) (h : FrL T A n w l) : FrL T A m v l := h.to (Nat.le_refl _) (fun _ _ _ a b => ⟨a, b⟩) hm hw
theorem Fr.low (h : Fr T A n w d) : d.low A.length = true := let ⟨p, a, _⟩ := h; (sn_low n d p a).1
theorem Fr.rl (h : Fr T A n w d) : d.rl A = true := let ⟨p, a, _⟩ := h; (sn_low n d p a).2
theorem FrL.low (h : FrL T A n w l) : D.lowL A.length l = true := let ⟨ps, a, _⟩ := h; oa_low (fun d _ p hd => (sn_low n d p hd).1) a
theorem FrL.nil : FrL T A n 0 [] := ⟨[], trivial, Nat.le_refl _⟩
theorem FrL.cons (h : Fr T A n w d) (t : FrL T A n v l) : FrL T A n (w + 1 + v) (d :: l) := by
  obtain ⟨p, a, b⟩ := h
  obtain ⟨ps, c, e⟩ := t
  exact ⟨p :: ps, ⟨a, c⟩, by simp only [PyData.wgA]; omega⟩
theorem FrL.append (h : FrL T A n w l) (t : FrL T A n v l') : FrL T A n (w + v) (l ++ l') := by
  obtain ⟨ps, a, b⟩ := h
  obtain ⟨qs, c, e⟩ := t
  exact ⟨ps ++ qs, a.append c, by rw [wA_app]; omega⟩
theorem FrL.split (h : FrL T A n w (l ++ l')) : FrL T A n w l ∧ FrL T A n w l' := by
  obtain ⟨rs, a, b⟩ := h
  obtain ⟨ps, qs, rfl, h1, h2⟩ := a.split
  rw [wA_app] at b
  exact ⟨⟨ps, h1, by omega⟩, ⟨qs, h2, by omega⟩⟩
theorem FrL.parts (k : Nat) (h : FrL T A n w l) : ∃ w1 w2, FrL T A n w1 (l.take k) ∧ FrL T A n w2 (l.drop k) ∧ w1 + w2 ≤ w := by
  rw [← List.take_append_drop k l] at h
  obtain ⟨rs, a, b⟩ := h
  obtain ⟨ps, qs, rfl, h1, h2⟩ := a.split
  rw [wA_app] at b
  exact ⟨_, _, ⟨ps, h1, Nat.le_refl _⟩, ⟨qs, h2, Nat.le_refl _⟩, b⟩
theorem FrL.take (k : Nat) (h : FrL T A n w l) : FrL T A n w (l.take k) := by
  rw [← List.take_append_drop k l] at h
  exact h.split.1
theorem FrL.drop (k : Nat) (h : FrL T A n w l) : FrL T A n w (l.drop k) := by
  rw [← List.take_append_drop k l] at h
  exact h.split.2
theorem FrL.rev (h : FrL T A n w l) : FrL T A n w l.reverse := by
  obtain ⟨ps, a, b⟩ := h
  exact ⟨ps.reverse, a.rev, by rw [wA_rev]; exact b⟩
theorem FrL.filt (g : D → Bool) (h : FrL T A n w l) : FrL T A n w (l.filter g) := by
  obtain ⟨ps, a, b⟩ := h
  obtain ⟨qs, c, e⟩ := a.filt g
  exact ⟨qs, c, by omega⟩
theorem FrL.mem (h : FrL T A n w l) (hd : d ∈ l) : Fr T A n w d := by
  obtain ⟨ps, a, b⟩ := h
  obtain ⟨p, hp, e⟩ := a.mem hd
  exact ⟨p, e, by have := wA_mem hp; omega⟩
theorem FrL.len (h : FrL T A n w l) : l.length ≤ w := by
  obtain ⟨ps, a, b⟩ := h
  have e := a.len
  have : ps.length ≤ PyData.wgA ps := by
    clear a b e
    induction ps with
    | nil => exact Nat.zero_le _
    | cons p ps ih => simp only [PyData.wgA, List.length_cons]; omega
  omega
theorem Fr.tup (h : FrL T A n w l) : Fr T A (n + 1) w (.tup l) := by
  obtain ⟨ps, a, b⟩ := h
  exact ⟨.tuple ps, sn_tup.mpr ⟨ps, rfl, a⟩, b⟩
theorem Fr.un (h : Fr T A (n + 1) w (.tup l)) : FrL T A n w l := by
  obtain ⟨p, a, b⟩ := h
  obtain ⟨ps, rfl, e⟩ := sn_tup.mp a
  exact ⟨ps, e, b⟩
theorem Fr.un0 (h : Fr T A 0 w (.tup l)) : False := by
  obtain ⟨p, a, _⟩ := h
  simp [D.sn] at a
theorem Fr.ref {k : Nat} (hk : k ∉ T.t) (hl : A[k]? = some (.lst l)) (h : FrL T A n w l) : Fr T A (n + 1) w (.ref k) := by
  obtain ⟨ps, a, b⟩ := h
  exact ⟨.list ps, sn_ref.mpr ⟨hk, l, ps, hl, rfl, a⟩, b⟩
def frB (b n w : Nat) (d : D) : Bool := match D.sn ⟨[], b⟩ [] n d with | some p => decide (p.wg ≤ w) | none => false
theorem Fr.cst {b : Nat} (h : frB b n w d = true) (hb : b ≤ T.b) : Fr T A n w d := by
  unfold frB at h
  split at h
  · rename_i p hp
    exact ⟨p, sn_to (T := ⟨[], b⟩) (A := []) hb (fun k l hk => absurd hk (by simp)) n n d p (Nat.le_refl _) hp, of_decide_eq_true h⟩
  · cases h
theorem Fr.int {i : Int} (h : i.natAbs < T.b) (hw : i.natAbs < 2 ^ w) : Fr T A n w (.int i) := by
  refine ⟨.int i, by cases n <;> exact if_pos h, ?_⟩
  simp only [PyData.wg]
  split
  · omega
  · rename_i hi
    have : i ≠ 0 := by simpa using hi
    have := (Nat.log2_lt (by omega)).mpr hw
    omega
theorem Fr.str {s : Str} (h : (s.cps.toList.all fun c => decide (c < 128)) = true) (hw : s.length ≤ w) : Fr T A n w (.str s) :=
  ⟨.str s, by cases n <;> exact if_pos h, hw⟩
theorem Fr.bl {b : Bool} (hw : 1 ≤ w := by omega) : Fr T A n w (.bl b) := ⟨.bool b, by cases n <;> rfl, hw⟩
theorem Fr.non (hw : 1 ≤ w := by omega) : Fr T A n w .non := ⟨.none, by cases n <;> rfl, hw⟩
theorem Fr.wint {i : Int} (h : Fr T A n w (.int i)) : i.natAbs < T.b := by
  obtain ⟨p, a, _⟩ := h
  have h' : (if i.natAbs < T.b then some (PyData.int i) else none) = some p := by cases n <;> simpa [D.sn] using a
  split at h'
  · assumption
  · cases h'
theorem Fr.wstr {s : Str} (h : Fr T A n w (.str s)) : (s.cps.toList.all fun c => decide (c < 128)) = true ∧ s.length ≤ w := by
  obtain ⟨p, a, b⟩ := h
  have h' : (if (s.cps.toList.all fun c => decide (c < 128)) = true then some (PyData.str s) else none) = some p := by cases n <;> simpa [D.sn] using a
  split at h'
  · cases h'
    rename_i q
    exact ⟨q, b⟩
  · cases h'
end
end Rf
namespace Rf.Fd
open PySem PySem.Spec L2
local macro_rules | `(tactic| walk_at "ex") => `(tactic| try simp (decide := true) only [x_ret, x_retN, x_asg, x_if, x_drop, x_nilS, x_for, x_var, x_c, x_un, x_bin, x_test, x_and, x_or, x_not, x_ifE, x_nil, x_cons, x_tup, x_lst, x_b, x_meth, x_oNone, x_oSome, x_slice, x_call, x_gVar, x_gSub, x_range1, x_lc, x_yes, x_rg1, wipeL,
  R.bind_ok, ok_bind, ok_ok, gather, optAll, List.map_cons, List.map_nil, List.getElem?_cons_zero, List.getElem?_cons_succ, List.set_cons_zero, List.set_cons_succ, Option.map_some, List.length_cons, List.length_nil,
  List.nil_append, List.cons_append, List.replicate, Nat.reduceAdd, Nat.reduceSub, and_self, if_true, if_false, true_and, and_true, Nat.reduceEqDiff, truth_bl, ofO_some, reduceCtorEq, decide_true, decide_false, Bool.false_eq_true, Bool.not_true, Bool.not_false, or_self, or_true, true_or, or_false, false_or,
  opAdd_int, opSub_int, cmpLt_int, cmpLe_int, cmpGt_int, cmpGe_int, cmpIs_non, cmpIsNot_non, isi_str, isi_non, isi_int, isi_tup, isi_bl, len_tup, ord_one, sizeLine_eq, Nat.reduceLeDiff, x_bk, x_aug, x_par, tl_nil, tl_cons, x_tlNil, x_tlCons, x_gTup, x_gTupT, x_gStar1, ixt0, ixt1, ixt2, cmpEq_str, cmpNe_str, cmpEq_int, cmpNe_int, s_ff, s_lf, s_cf, s_cl, s_lc, s_fc, s_fl, cmpIs_bl, cmpIsNot_bl])
local macro_rules | `(tactic| walk_at "st") => `(tactic| (refine x_seq.mpr ?_; walk_at "ex"))
/-! ### what a call leaves, for things that stay -/
theorem gc_fr {T : Fz} {B X A A' : Hpp} {t c k0 k n w : Nat} {d : D} (TB : TapAt B t c) (h : Tp B t c k0 A) (TX : TapAt (B ++ X) t c) (h' : Tp (B ++ X) t c k A') (hT : ∀ x ∈ T.t, x < B.length) (hd : Fr T A' n w d) :
    Ok (gcR A d A') fun d' A'' => ∃ X', TapAt (B ++ X') t c ∧ Tp (B ++ X') t c k A'' ∧ Fr T A'' n w d' := by
  obtain ⟨A1, rfl, h1⟩ := (tp_app TB).mp h'
  have e1 : A1.length = A.length := by rw [tp_len h, tp_len h1]
  have e2 : (A1 ++ X).take A.length = A1 := by rw [← e1]; simp
  have cl := tp_cl TB h1
  have low : d.low A.length = true → Fr T A1 n w d := by
    rintro hl
    obtain ⟨p, a, b⟩ := hd
    exact ⟨p, sn_pre cl n d p (by rw [e1]; exact hl) a, b⟩
  have TB0 : TapAt (B ++ []) t c := by rw [List.append_nil]; exact TB
  have h10 : Tp (B ++ []) t c k A1 := by rw [List.append_nil]; exact h1
  unfold gcR
  split
  · exact ok_ok.mpr ⟨X, TX, h', hd⟩
  · split
    · rename_i q
      rw [e2] at q
      rw [ok_ok, ← q.2]
      exact ⟨[], TB0, h10, low (low_mono (Nat.zero_le _) d q.1)⟩
    · split
      · rename_i q
        rw [e2, ok_ok]
        exact ⟨[], TB0, h10, low q.1⟩
      · split
        · split
          · split
            · rename_i kk o ho q
              rw [e2, ok_ok]
              obtain ⟨p, a, b⟩ := hd
              cases n with
              | zero => simp [D.sn] at a
              | succ n =>
                obtain ⟨hk, l, ps, hl, rfl, hps⟩ := sn_ref.mp a
                rw [hl] at ho
                cases ho
                have ll : D.lowL A1.length l = true := by rw [e1]; exact q.2.1
                have hps1 := hps.imp fun d hd p hp => sn_pre cl n d p (lowL_mem ll hd) hp
                have tl : TapAt (B ++ [.lst l]) t c := tapAt_app TB fun o ho => by
                  rw [List.mem_singleton.mp ho]
                  exact lowL_mono (by rw [tp_len h1] ; omega) l ll
                refine ⟨[.lst l], tl, (tp_app TB).mpr ⟨A1, rfl, h1⟩, .list ps, ?_, b⟩
                refine sn_ref.mpr ⟨fun z => ?_, l, ps, by rw [← e1]; exact at_end, rfl, hps1.imp fun d _ p hp => sn_to (Nat.le_refl _) (fun k l hk2 a b => ⟨a, by rw [List.getElem?_append_left hk2]; exact b⟩) n n d p (Nat.le_refl _) hp⟩
                have := hT _ z
                rw [← e1, tp_len h1] at this
                omega
            · exact ok_ok.mpr ⟨X, TX, h', hd⟩
          · exact ok_ok.mpr ⟨X, TX, h', hd⟩
        · exact ok_ok.mpr ⟨X, TX, h', hd⟩
/-- things stay while the tap is asked and lists are made -/
theorem fr_tp {T : Fz} {B X A A' : Hpp} {t c k k' n w : Nat} {d : D} (TB : TapAt B t c) (ht : t ∈ T.t) (h : Tp B t c k A) (h' : Tp (B ++ X) t c k' A') (hd : Fr T A n w d) : Fr T A' n w d := by
  refine hd.to (Nat.le_refl _) (fun j l hj hk hl => ⟨hk, ?_⟩) (Nat.le_refl _) (Nat.le_refl _)
  have jt : j ≠ t := fun e => hk (by rw [e]; exact ht)
  rw [tp_get h' jt, List.getElem?_append_left (by rw [← tp_len h]; exact hj), ← tp_get h jt]
  exact hl
theorem frl_tp {T : Fz} {B X A A' : Hpp} {t c k k' n w : Nat} {l : List D} (TB : TapAt B t c) (ht : t ∈ T.t) (h : Tp B t c k A) (h' : Tp (B ++ X) t c k' A') (hd : FrL T A n w l) : FrL T A' n w l := by
  refine hd.to (Nat.le_refl _) (fun j l hj hk hl => ⟨hk, ?_⟩) (Nat.le_refl _) (Nat.le_refl _)
  have jt : j ≠ t := fun e => hk (by rw [e]; exact ht)
  rw [tp_get h' jt, List.getElem?_append_left (by rw [← tp_len h]; exact hj), ← tp_get h jt]
  exact hl
theorem fr_app {T : Fz} {A X : Hpp} {n w : Nat} {d : D} (hd : Fr T A n w d) : Fr T (A ++ X) n w d :=
  hd.to (Nat.le_refl _) (fun j l hj hk hl => ⟨hk, by rw [List.getElem?_append_left hj]; exact hl⟩) (Nat.le_refl _) (Nat.le_refl _)
theorem frl_app {T : Fz} {A X : Hpp} {n w : Nat} {l : List D} (hd : FrL T A n w l) : FrL T (A ++ X) n w l :=
  hd.to (Nat.le_refl _) (fun j l hj hk hl => ⟨hk, by rw [List.getElem?_append_left hj]; exact hl⟩) (Nat.le_refl _) (Nat.le_refl _)
theorem tapAt_fr {B : Hpp} {t c : Nat} (T : TapAt B t c) {l : List D} (hl : D.lowL B.length l = true) : TapAt (B ++ [.lst l]) t c := by
  refine tapAt_app T fun o ho => ?_
  rw [List.mem_singleton.mp ho]
  exact lowL_mono (by omega) l hl
/-! ### looks -/
theorem cmpNe_empty {T : Fz} {A : Hpp} {n w : Nat} {l : List D} {d e : D} (hb : T.b ≤ 2 ^ 400) (hd : (d = .tup l ∧ e = .tup []) ∨ ∃ k k', d = .ref k ∧ A[k]? = some (.lst l) ∧ e = .ref k' ∧ A[k']? = some (.lst [])) (hl : FrL T A n w l) (hn : n ≤ 50) : cmpNe d e A = .ok (.bl (!l.isEmpty)) A := by
  obtain ⟨ps, a, _⟩ := hl
  unfold cmpNe
  rw [eq_empty hb hd ⟨ps, a⟩ hn]; rfl
theorem cmpEq_empty {T : Fz} {A : Hpp} {n w : Nat} {l : List D} {d e : D} (hb : T.b ≤ 2 ^ 400) (hd : (d = .tup l ∧ e = .tup []) ∨ ∃ k k', d = .ref k ∧ A[k]? = some (.lst l) ∧ e = .ref k' ∧ A[k']? = some (.lst [])) (hl : FrL T A n w l) (hn : n ≤ 50) : cmpEq d e A = .ok (.bl l.isEmpty) A := by
  obtain ⟨ps, a, _⟩ := hl
  unfold cmpEq
  rw [eq_empty hb hd ⟨ps, a⟩ hn]; rfl
def PlateS (c : CF) : Prop := ∀ (T : Fz) (A : Hpp) (n w : Nat) (d : D), Fr T A n w d → n ≤ 50 → T.b ≤ 2 ^ 400 → c [d] A = .ok (.bl (isLab d)) A
theorem plate_ok {c_num : CF} (hn : NumS c_num) : PlateS (run 2 1 (G__law_is_plate c_num)) := by
  intro T A n w d hd hn2 hb
  have hr := hd.rl
  apply ok_eq
  refine ok_run rfl ?_
  unfold G__law_is_plate
  cases d with
  | tup l =>
    cases n with
    | zero => exact hd.un0.elim
    | succ n =>
      have hl := hd.un
      walk_at "st"
      by_cases h2 : l.length = 2
      · rw [if_neg (by simp [h2])]
        rw [src_tup rfl]
        walk_at "ex"
        rw [show (Src.its l).items = l from rfl]
        rw [lc_filt (p := fun d => !isNum d) (f := id) (fun _ => rfl) l [] (fun d hd acc => ?_) (by rw [sizeLine_eq]; simp; omega)]
        · walk_at "ex"
          rw [List.map_id]
          have hf := frl_app (X := [HOb.lst (l.filter fun d => !isNum d)] ++ [HOb.lst []]) (hl.filt fun d => !isNum d)
          rw [← List.append_assoc] at hf
          rw [cmpNe_empty hb (.inr ⟨_, _, rfl, at_end2, rfl, at_end⟩) hf (by omega)]
          walk_at "ex"
          obtain ⟨x, y, rfl⟩ : ∃ x y, l = [x, y] := by
            match l, h2 with
            | [x, y], _ => exact ⟨x, y, rfl⟩
          by_cases hx : isNum x = true
          · by_cases hy : isNum y = true
            · have e : ([x, y].filter fun d => !isNum d) = [] := by simp [hx, hy]
              rw [e]
              walk_at "ex"
              cases x <;> simp only [isNum, Bool.false_eq_true] at hx
              cases y <;> simp only [isNum, Bool.false_eq_true] at hy
              rename_i i j
              walk_at "st"
              simp only [isLab, nn]
              by_cases hi : 0 ≤ i
              · rw [decide_eq_true hi, if_pos rfl]
                walk_at "ex"
                rw [List.append_assoc, gc_pure rfl, ok_ok]
                exact ⟨rfl, rfl⟩
              · rw [decide_eq_false hi, if_neg (by decide)]
                walk_at "ex"
                rw [List.append_assoc, gc_pure rfl, ok_ok]
                exact ⟨rfl, rfl⟩
            · have e : ([x, y].filter fun d => !isNum d).isEmpty = false := by simp [hx, hy]
              rw [e]
              walk_at "st"
              rw [List.append_assoc, gc_pure rfl, ok_ok]
              have : isLab (.tup [x, y]) = false := by
                simp only [isLab]
                cases y <;> first | (simp [nn]; done) | (simp [isNum] at hy)
              rw [this]; exact ⟨rfl, rfl⟩
          · have e : ([x, y].filter fun d => !isNum d).isEmpty = false := by simp [hx]
            rw [e]
            walk_at "st"
            rw [List.append_assoc, gc_pure rfl, ok_ok]
            have : isLab (.tup [x, y]) = false := by
              simp only [isLab]
              cases x <;> first | (simp [nn]; done) | (simp [isNum] at hx)
            rw [this]; exact ⟨rfl, rfl⟩
        · have hr' : d.rl (A ++ [HOb.lst acc]) = true := rl_app d (rlL_mem (by simpa [D.rl] using hr) hd)
          constructor
          · walk_at "ex"
            rw [hn d _ hr']
            walk_at "ex"
          · intro _
            walk_at "ex"
            rfl
      · rw [if_pos (by simp; omega)]
        walk_at "ex"
        rw [if_pos (by simp; omega)]
        walk_at "st"
        rw [gc_self, ok_ok, isLab_tup, decide_eq_false h2]; exact ⟨rfl, rfl⟩
  | ref k =>
    walk_at "st"
    rw [isi_ref hr]
    walk_at "ex"
    walk_at "st"
    rw [gc_self, ok_ok]; exact ⟨rfl, rfl⟩
  | _ =>
    walk_at "st"
    walk_at "st"
    rw [gc_self, ok_ok]; exact ⟨rfl, rfl⟩
def G_is_root (c_is_label : List D → Hpp → R D) : S :=
    (sSeq (sIf (mOr (mNot (mUn (opIsi .tuple) (mVar 0))) (mOr (mBin cmpNe (mB bLen (mCons (mVar 0) mNil)) (mC (.int 2))) (mNot (mCallV c_is_label 1 0 [.pos 0] (mCons (mBin opIx (mVar 0) (mC (.int 1))) mNil) mNil)))) (sSeq (sRet (mC (.bl false)))
    sNil) sNil)
    (sSeq (sAsg (mBin opIx (mVar 0) (mC (.int 0))) (gVar 1))
    (sSeq (sRet (mAnd (mUn (opIsi .int) (mVar 1)) (mAnd (mNot (mUn (opIsi .bool) (mVar 1))) (mBin cmpEq (mVar 1) (mBin opIx (mBin opIx (mVar 0) (mC (.int 1))) (mC (.int 1)))))))
    sNil)))
def isRt : D → Bool
  | .tup [.int i, .tup [.int a, .int b]] => decide (0 ≤ a) && decide (0 ≤ b) && decide (i = b)
  | _ => false
theorem isRt_len {l : List D} (h : l.length ≠ 2) : isRt (.tup l) = false := by
  unfold isRt
  split
  · rename_i e; cases e; simp at h
  · rfl
theorem isRt_lab {x y : D} (h : isLab y = false) : isRt (.tup [x, y]) = false := by
  unfold isRt
  split
  · rename_i i a b e
    cases e
    simp only [isLab, nn] at h
    rw [h]; rfl
  · rfl
theorem isRt_num {x y : D} (h : isNum x = false) : isRt (.tup [x, y]) = false := by
  unfold isRt
  split
  · rename_i i a b e
    cases e
    simp [isNum] at h
  · rfl
theorem isLab_get {y : D} (h : isLab y = true) : ∃ a b : Int, y = .tup [.int a, .int b] ∧ 0 ≤ a ∧ 0 ≤ b := by
  unfold isLab at h
  split at h
  · rename_i a b
    rw [Bool.and_eq_true] at h
    cases a <;> simp only [nn, Bool.false_eq_true, false_and] at h
    cases b <;> simp only [nn, Bool.false_eq_true, and_false] at h
    exact ⟨_, _, rfl, of_decide_eq_true h.1, of_decide_eq_true h.2⟩
  · cases h
def LookS (f : D → Bool) (c : CF) : Prop := ∀ (T : Fz) (A : Hpp) (n w : Nat) (d : D), Fr T A n w d → n ≤ 50 → w ≤ 3300000 → T.b ≤ 2 ^ 400 → c [d] A = .ok (.bl (f d)) A
theorem two_of {l : List D} (h : l.length = 2) : ∃ x y, l = [x, y] := by
  match l, h with
  | [x, y], _ => exact ⟨x, y, rfl⟩
theorem root_ok {c_lab : CF} (hl : LabS c_lab) : LookS isRt (run 2 1 (G_is_root c_lab)) := by
  intro T A n w d hd hn2 hw hb
  have hr := hd.rl
  apply ok_eq
  refine ok_run rfl ?_
  unfold G_is_root
  cases d with
  | tup l =>
    walk_at "st"
    by_cases h2 : l.length = 2
    · rw [if_neg (by simp [h2])]
      obtain ⟨x, y, rfl⟩ := two_of h2
      walk_at "ex"
      simp only [D.rl, D.rlL, Bool.and_true, Bool.and_eq_true] at hr
      rw [hl y A hr.2]
      walk_at "ex"
      cases hy : isLab y with
      | false =>
        walk_at "ex"
        walk_at "st"
        rw [gc_self, ok_ok, isRt_lab hy]; exact ⟨rfl, rfl⟩
      | true =>
        obtain ⟨a, b, rfl, ha, hb⟩ := isLab_get hy
        walk_at "ex"
        walk_at "st"
        walk_at "st"
        cases x with
        | int i =>
          walk_at "ex"
          rw [gc_self, ok_ok]
          simp only [isRt, decide_eq_true ha, decide_eq_true hb, Bool.true_and]
          exact ⟨trivial, trivial⟩
        | ref k =>
          rw [isi_ref hr.1]
          walk_at "ex"
          rw [gc_self, ok_ok]; exact ⟨rfl, rfl⟩
        | _ =>
          walk_at "ex"
          rw [gc_self, ok_ok]; exact ⟨rfl, rfl⟩
    · rw [if_pos (by simp; omega)]
      walk_at "ex"
      rw [if_pos (by simp; omega)]
      walk_at "st"
      rw [gc_self, ok_ok, isRt_len h2]; exact ⟨rfl, rfl⟩
  | ref k =>
    walk_at "st"
    rw [isi_ref hr]
    walk_at "ex"
    walk_at "st"
    rw [gc_self, ok_ok]; exact ⟨rfl, rfl⟩
  | _ =>
    walk_at "st"
    walk_at "st"
    rw [gc_self, ok_ok]; exact ⟨rfl, rfl⟩
def G__law_is_stem (c__law_is_number c__law_is_plate : List D → Hpp → R D) : S :=
    (sSeq (sIf (mOr (mNot (mUn (opIsi .tuple) (mVar 0))) (mOr (mBin cmpNe (mB bLen (mCons (mVar 0) mNil)) (mC (.int 2))) (mOr (mNot (mCallV c__law_is_number 1 0 [.pos 0] (mCons (mBin opIx (mVar 0) (mC (.int 0))) mNil) mNil)) (mNot (mCallV c__law_is_plate 1 0 [.pos 0] (mCons (mBin opIx (mVar 0) (mC (.int 1))) mNil) mNil))))) (sSeq (sRet (mC (.bl false)))
    sNil) sNil)
    (sSeq (sRet (mBin cmpEq (mBin opIx (mVar 0) (mC (.int 0))) (mBin opIx (mBin opIx (mVar 0) (mC (.int 1))) (mC (.int 1)))))
    sNil))
theorem stem_ok {c_num c_plate : CF} (hn : NumS c_num) (hp : PlateS c_plate) : LookS isRt (run 1 1 (G__law_is_stem c_num c_plate)) := by
  intro T A n w d hd hn2 hw hb
  have hr := hd.rl
  apply ok_eq
  refine ok_run rfl ?_
  unfold G__law_is_stem
  cases d with
  | tup l =>
    walk_at "st"
    by_cases h2 : l.length = 2
    · rw [if_neg (by simp [h2])]
      obtain ⟨x, y, rfl⟩ := two_of h2
      walk_at "ex"
      simp only [D.rl, D.rlL, Bool.and_true, Bool.and_eq_true] at hr
      rw [hn x A hr.1]
      walk_at "ex"
      cases hx : isNum x with
      | false =>
        walk_at "ex"
        walk_at "st"
        rw [gc_self, ok_ok, isRt_num hx]; exact ⟨rfl, rfl⟩
      | true =>
        cases n with
        | zero => exact hd.un0.elim
        | succ n =>
          walk_at "ex"
          rw [hp T A n w y (hd.un.mem (by simp)) (by omega) hb]
          walk_at "ex"
          cases hy : isLab y with
          | false =>
            walk_at "ex"
            walk_at "st"
            rw [gc_self, ok_ok, isRt_lab hy]; exact ⟨rfl, rfl⟩
          | true =>
            obtain ⟨a, b, rfl, ha, hb⟩ := isLab_get hy
            cases x <;> simp only [isNum, Bool.false_eq_true] at hx
            walk_at "ex"
            walk_at "st"
            rw [gc_self, ok_ok]
            simp only [isRt, decide_eq_true ha, decide_eq_true hb, Bool.true_and]
            exact ⟨trivial, trivial⟩
    · rw [if_pos (by simp; omega)]
      walk_at "ex"
      rw [if_pos (by simp; omega)]
      walk_at "st"
      rw [gc_self, ok_ok, isRt_len h2]; exact ⟨rfl, rfl⟩
  | ref k =>
    walk_at "st"
    rw [isi_ref hr]
    walk_at "ex"
    walk_at "st"
    rw [gc_self, ok_ok]; exact ⟨rfl, rfl⟩
  | _ =>
    walk_at "st"
    walk_at "st"
    rw [gc_self, ok_ok]; exact ⟨rfl, rfl⟩
def G_is_keeper_name : S :=
    (sSeq (sIf (mOr (mNot (mUn (opIsi .str) (mVar 0))) (mNot (mChain cmpLe cmpLe (mC (.int 1)) (mB bLen (mCons (mVar 0) mNil)) (mC (.int 8))))) (sSeq (sRet (mC (.bl false)))
    sNil) sNil)
    (sSeq (sRet (mB bAll (mCons (mLc (srcSeq (mVar 0)) (gVar 1) mYes (mBin cmpIn (mVar 1) (mC (.str "abcdefghijklmnopqrstuvwxyz"))) [1]) mNil)))
    sNil))
def letters : Str := "abcdefghijklmnopqrstuvwxyz"
def isKw : D → Bool
  | .str s => decide (1 ≤ s.length) && (decide (s.length ≤ 8) && s.cps.toList.all fun c => decide (c ∈ letters.cps.toList))
  | _ => false
theorem in_let {c : Nat} {A : Hpp} : cmpIn (.str ⟨#[c]⟩) (.str letters) A = .ok (.bl (decide (c ∈ letters.cps.toList))) A := rfl
theorem notin_let {c : Nat} {A : Hpp} : cmpNotIn (.str ⟨#[c]⟩) (.str letters) A = .ok (.bl (!decide (c ∈ letters.cps.toList))) A := rfl
theorem bools_mapX {X : Type} {f : X → Bool} : ∀ l : List X, boolsD (l.map fun d => .bl (f d)) = some (l.map f)
  | [] => rfl
  | d :: l => by simp [boolsD, bools_mapX l]
theorem all_atX {X : Type} {A : Hpp} {n : Nat} {l : List X} {f : X → Bool} (h : A[n]? = some (.lst (l.map fun d => .bl (f d)))) : bAll [.ref n] A = .ok (.bl (l.all f)) A := by
  simp only [bAll, h, bools_mapX]
  simp [Function.comp_def]
theorem keeper_ok : LookS isKw (run 2 1 G_is_keeper_name) := by
  intro T A n w d hd hn2 hw hb
  have hr := hd.rl
  apply ok_eq
  refine ok_run rfl ?_
  unfold G_is_keeper_name
  cases d with
  | str s =>
    obtain ⟨w1, w2⟩ := hd.wstr
    refine x_seq.mpr ?_
    simp only [x_if, x_test, x_or, x_not, x_chain]
    walk_at "ex"
    rw [len_str (by rw [sizeLine_eq]; omega)]
    walk_at "ex"
    by_cases h1 : (1 : Int) ≤ s.length
    · rw [decide_eq_true h1]
      walk_at "ex"
      by_cases h8 : (s.length : Int) ≤ 8
      · rw [decide_eq_true h8]
        walk_at "ex"
        walk_at "st"
        rw [src_str rfl]
        walk_at "ex"
        rw [show (Src.its (s.cps.toList.map fun c => D.str ⟨#[c]⟩)).items = s.cps.toList.map fun c => D.str ⟨#[c]⟩ from rfl]
        have ls : s.cps.toList.length = s.length := by simp [Str.length]
        rw [lc_mapX (g := fun c : Nat => D.str ⟨#[c]⟩) (f := fun c => .bl (decide (c ∈ letters.cps.toList))) (Lf := fun c => [some (.str s), some (.str ⟨#[c]⟩)]) (fun _ => rfl) s.cps.toList [] (fun c hc acc => ⟨rfl, ?_⟩) (by rw [sizeLine_eq, ls]; simp; omega)]
        · walk_at "ex"
          rw [all_atX at_end]
          walk_at "ex"
          rw [gc_pure rfl, ok_ok]
          have k1 : decide (1 ≤ s.length) = true := decide_eq_true (by omega)
          have k8 : decide (s.length ≤ 8) = true := decide_eq_true (by omega)
          simp only [isKw, k1, k8, Bool.true_and]
          exact ⟨trivial, trivial⟩
        · walk_at "ex"
          exact in_let
      · rw [decide_eq_false h8]
        walk_at "ex"
        walk_at "st"
        rw [gc_self, ok_ok]
        have k8 : decide (s.length ≤ 8) = false := decide_eq_false (by omega)
        simp only [isKw, k8, Bool.false_and, Bool.and_false]
        exact ⟨trivial, trivial⟩
    · rw [decide_eq_false h1]
      walk_at "ex"
      walk_at "st"
      rw [gc_self, ok_ok]
      have k1 : decide (1 ≤ s.length) = false := decide_eq_false (by omega)
      simp only [isKw, k1, Bool.false_and]
      exact ⟨trivial, trivial⟩
  | ref k =>
    walk_at "st"
    rw [isi_ref hr]
    walk_at "ex"
    walk_at "st"
    rw [gc_self, ok_ok]; exact ⟨rfl, rfl⟩
  | _ =>
    walk_at "st"
    walk_at "st"
    rw [gc_self, ok_ok]; exact ⟨rfl, rfl⟩
def G__law_is_word : S :=
    (sSeq (sIf (mOr (mNot (mUn (opIsi .str) (mVar 0))) (mNot (mChain cmpLe cmpLe (mC (.int 1)) (mB bLen (mCons (mVar 0) mNil)) (mC (.int 8))))) (sSeq (sRet (mC (.bl false)))
    sNil) sNil)
    (sSeq (sRet (mBin cmpEq (mLc (srcSeq (mVar 0)) (gVar 1) (mTest (mBin cmpNotIn (mVar 1) (mC (.str "abcdefghijklmnopqrstuvwxyz")))) (mVar 1) [1]) (mLst mNil)))
    sNil))
theorem frl_signs {T : Fz} {A : Hpp} {n : Nat} : ∀ {cs : List Nat}, (∀ c ∈ cs, c < 128) → FrL T A n (2 * cs.length) (cs.map fun c => D.str ⟨#[c]⟩)
  | [], _ => FrL.nil
  | c :: cs, h => by
    have h1 : Fr T A n 1 (.str ⟨#[c]⟩) := Fr.str (by simp; exact h c (List.mem_cons_self ..)) (by simp [Str.length])
    have := FrL.cons h1 (frl_signs (T := T) (A := A) (n := n) fun e he => h e (List.mem_cons_of_mem _ he))
    exact this.mono (Nat.le_refl _) (by simp only [List.length_cons]; omega)
theorem word_ok : LookS isKw (run 2 1 G__law_is_word) := by
  intro T A n w d hd hn2 hw hb
  have hr := hd.rl
  apply ok_eq
  refine ok_run rfl ?_
  unfold G__law_is_word
  cases d with
  | str s =>
    obtain ⟨w1, w2⟩ := hd.wstr
    refine x_seq.mpr ?_
    simp only [x_if, x_test, x_or, x_not, x_chain]
    walk_at "ex"
    rw [len_str (by rw [sizeLine_eq]; omega)]
    walk_at "ex"
    by_cases h1 : (1 : Int) ≤ s.length
    · rw [decide_eq_true h1]
      walk_at "ex"
      by_cases h8 : (s.length : Int) ≤ 8
      · rw [decide_eq_true h8]
        walk_at "ex"
        walk_at "st"
        rw [src_str rfl]
        walk_at "ex"
        rw [show (Src.its (s.cps.toList.map fun c => D.str ⟨#[c]⟩)).items = s.cps.toList.map fun c => D.str ⟨#[c]⟩ from rfl]
        have ls : s.cps.toList.length = s.length := by simp [Str.length]
        rw [lc_filt (p := fun d => match d with | .str z => (match z.cps.toList with | [c] => !decide (c ∈ letters.cps.toList) | _ => false) | _ => false) (f := id) (fun _ => rfl) (s.cps.toList.map fun c => D.str ⟨#[c]⟩) [] (fun d hd acc => ?_) (by rw [sizeLine_eq, List.length_map, ls]; simp only [List.length_nil]; omega)]
        · walk_at "ex"
          rw [List.map_id, List.filter_map]
          have fl := frl_signs (T := T) (A := A ++ [HOb.lst ((s.cps.toList.filter fun c => !decide (c ∈ letters.cps.toList)).map fun c => D.str ⟨#[c]⟩)] ++ [HOb.lst []]) (n := n) (cs := s.cps.toList.filter fun c => !decide (c ∈ letters.cps.toList)) (fun c hc => by
            have := List.all_eq_true.mp w1 c (List.mem_filter.mp hc).1
            exact of_decide_eq_true this)
          have ee : (List.filter ((fun d => match d with | .str z => (match z.cps.toList with | [c] => !decide (c ∈ letters.cps.toList) | _ => false) | _ => false) ∘ fun c : Nat => D.str ⟨#[c]⟩) s.cps.toList) = s.cps.toList.filter fun c => !decide (c ∈ letters.cps.toList) := rfl
          rw [ee]
          rw [cmpEq_empty hb (.inr ⟨_, _, rfl, at_end2, rfl, at_end⟩) fl (by omega)]
          walk_at "ex"
          rw [List.append_assoc, gc_pure rfl, ok_ok]
          have k1 : decide (1 ≤ s.length) = true := decide_eq_true (by omega)
          have k8 : decide (s.length ≤ 8) = true := decide_eq_true (by omega)
          simp only [isKw, k1, k8, Bool.true_and, and_true]
          congr 1
          generalize s.cps.toList = cs
          generalize letters.cps.toList = ls'
          clear ee fl
          induction cs with
          | nil => rfl
          | cons c cs ih =>
            by_cases hc : c ∈ ls'
            · rw [List.filter_cons_of_neg (by simp [hc]), ih, List.all_cons, decide_eq_true hc, Bool.true_and]
            · rw [List.filter_cons_of_pos (by simp [hc]), List.all_cons, decide_eq_false hc]
              rfl
        · obtain ⟨c, _, rfl⟩ := List.mem_map.mp hd
          constructor
          · walk_at "ex"
            exact congrArg (fun r : R D => (r.bind fun a A => R.ofO (truth a A) A)) notin_let
          · intro _
            walk_at "ex"
            rfl
      · rw [decide_eq_false h8]
        walk_at "ex"
        walk_at "st"
        rw [gc_self, ok_ok]
        have k8 : decide (s.length ≤ 8) = false := decide_eq_false (by omega)
        simp only [isKw, k8, Bool.false_and, Bool.and_false]
        exact ⟨trivial, trivial⟩
    · rw [decide_eq_false h1]
      walk_at "ex"
      walk_at "st"
      rw [gc_self, ok_ok]
      have k1 : decide (1 ≤ s.length) = false := decide_eq_false (by omega)
      simp only [isKw, k1, Bool.false_and]
      exact ⟨trivial, trivial⟩
  | ref k =>
    walk_at "st"
    rw [isi_ref hr]
    walk_at "ex"
    walk_at "st"
    rw [gc_self, ok_ok]; exact ⟨rfl, rfl⟩
  | _ =>
    walk_at "st"
    walk_at "st"
    rw [gc_self, ok_ok]; exact ⟨rfl, rfl⟩
def G_is_saying (c_is_keeper_name c_is_root : List D → Hpp → R D) : S :=
    (sSeq (sRet (mAnd (mUn (opIsi .tuple) (mVar 0)) (mAnd (mBin cmpEq (mB bLen (mCons (mVar 0) mNil)) (mC (.int 2))) (mAnd (mCallV c_is_keeper_name 1 0 [.pos 0] (mCons (mBin opIx (mVar 0) (mC (.int 0))) mNil) mNil) (mCallV c_is_root 1 0 [.pos 0] (mCons (mBin opIx (mVar 0) (mC (.int 1))) mNil) mNil)))))
    sNil)
def isSy : D → Bool
  | .tup [x, y] => isKw x && isRt y
  | _ => false
theorem isSy_len {l : List D} (h : l.length ≠ 2) : isSy (.tup l) = false := by
  unfold isSy
  split
  · rename_i e; cases e; simp at h
  · rfl
theorem saying_ok {c_kw c_rt : CF} (hk : LookS isKw c_kw) (hr : LookS isRt c_rt) : LookS isSy (run 1 1 (G_is_saying c_kw c_rt)) := by
  intro T A n w d hd hn2 hw hb
  have hrl := hd.rl
  apply ok_eq
  refine ok_run rfl ?_
  unfold G_is_saying
  cases d with
  | tup l =>
    walk_at "st"
    by_cases h2 : l.length = 2
    · rw [if_pos (by simp [h2])]
      obtain ⟨x, y, rfl⟩ := two_of h2
      cases n with
      | zero => exact hd.un0.elim
      | succ n =>
        walk_at "ex"
        rw [hk T A n w x (hd.un.mem (by simp)) (by omega) hw hb]
        walk_at "ex"
        cases hx : isKw x with
        | false =>
          walk_at "ex"
          rw [gc_self, ok_ok]
          simp only [isSy, hx, Bool.false_and]; exact ⟨trivial, trivial⟩
        | true =>
          walk_at "ex"
          rw [hr T A n w y (hd.un.mem (by simp)) (by omega) hw hb]
          walk_at "ex"
          rw [gc_self, ok_ok]
          simp only [isSy, hx, Bool.true_and]; exact ⟨trivial, trivial⟩
    · rw [if_neg (by simp; omega)]
      walk_at "ex"
      rw [gc_self, ok_ok, isSy_len h2]
      have : decide ((l.length : Int) = 2) = false := decide_eq_false (by omega)
      rw [this]; exact ⟨rfl, rfl⟩
  | ref k =>
    walk_at "st"
    rw [isi_ref hrl]
    walk_at "ex"
    rw [gc_self, ok_ok]; exact ⟨rfl, rfl⟩
  | _ =>
    walk_at "st"
    rw [gc_self, ok_ok]; exact ⟨rfl, rfl⟩
def G__law_is_said (c__law_is_word c__law_is_stem : List D → Hpp → R D) : S :=
    (sSeq (sRet (mAnd (mUn (opIsi .tuple) (mVar 0)) (mAnd (mBin cmpEq (mB bLen (mCons (mVar 0) mNil)) (mC (.int 2))) (mAnd (mCallV c__law_is_word 1 0 [.pos 0] (mCons (mBin opIx (mVar 0) (mC (.int 0))) mNil) mNil) (mCallV c__law_is_stem 1 0 [.pos 0] (mCons (mBin opIx (mVar 0) (mC (.int 1))) mNil) mNil)))))
    sNil)
theorem said_ok {c_kw c_rt : CF} (hk : LookS isKw c_kw) (hr : LookS isRt c_rt) : LookS isSy (run 1 1 (G__law_is_said c_kw c_rt)) := saying_ok hk hr
end Rf.Fd
namespace Rf.Fd
open PySem PySem.Spec L2
local macro_rules | `(tactic| walk_at "ex") => `(tactic| try simp (decide := true) only [x_ret, x_retN, x_asg, x_if, x_drop, x_nilS, x_for, x_var, x_c, x_un, x_bin, x_test, x_and, x_or, x_not, x_ifE, x_nil, x_cons, x_tup, x_lst, x_b, x_meth, x_oNone, x_oSome, x_slice, x_call, x_gVar, x_gSub, x_range1, x_lc, x_yes, x_rg1, wipeL,
  R.bind_ok, ok_bind, ok_ok, gather, optAll, List.map_cons, List.map_nil, List.getElem?_cons_zero, List.getElem?_cons_succ, List.set_cons_zero, List.set_cons_succ, Option.map_some, List.length_cons, List.length_nil,
  List.nil_append, List.cons_append, List.replicate, Nat.reduceAdd, Nat.reduceSub, and_self, if_true, if_false, true_and, and_true, Nat.reduceEqDiff, truth_bl, ofO_some, reduceCtorEq, decide_true, decide_false, Bool.false_eq_true, Bool.not_true, Bool.not_false, or_self, or_true, true_or, or_false, false_or,
  opAdd_int, opSub_int, cmpLt_int, cmpLe_int, cmpGt_int, cmpGe_int, cmpIs_non, cmpIsNot_non, isi_str, isi_non, isi_int, isi_tup, isi_bl, len_tup, ord_one, sizeLine_eq, Nat.reduceLeDiff, x_bk, x_aug, x_par, tl_nil, tl_cons, x_tlNil, x_tlCons, x_gTup, x_gTupT, x_gStar1, ixt0, ixt1, ixt2, cmpEq_str, cmpNe_str, cmpEq_int, cmpNe_int, s_ff, s_lf, s_cf, s_cl, s_lc, s_fc, s_fl, cmpIs_bl, cmpIsNot_bl])
local macro_rules | `(tactic| walk_at "st") => `(tactic| (refine x_seq.mpr ?_; walk_at "ex"))
theorem opNeg_int {i : Int} {A : Hpp} : opNeg (.int i) A = .ok (.int (-i)) A := rfl
theorem rev_tup {l : List D} {A : Hpp} : opRev (.tup l) A = .ok (.tup l.reverse) A := rfl
theorem list_tup {l : List D} {A : Hpp} : bList [.tup l] A = .ok (.ref A.length) (A ++ [.lst l]) := rfl
theorem cut_mid {α : Type} (l : List α) {i : Int} (h1 : 0 ≤ i) (h2 : i < l.length) : cutD l (some i) (some (i + 1)) = (l.drop i.toNat).take 1 := by
  have e : HT.sIx l.length 0 (some i) = i.toNat := by
    show (if i < 0 then (i + (l.length : Int)).toNat else min i.toNat l.length) = _
    rw [if_neg (by omega)]; omega
  have e2 : HT.sIx l.length l.length (some (i + 1)) = i.toNat + 1 := by
    show (if i + 1 < 0 then (i + 1 + (l.length : Int)).toNat else min (i + 1).toNat l.length) = _
    rw [if_neg (by omega)]; omega
  unfold cutD
  rw [e, e2, show i.toNat + 1 - i.toNat = 1 by omega]
end Rf.Fd
namespace Rf
open PySem PySem.Spec L2
theorem Fr.wlog {T : Fz} {A : Hpp} {n w : Nat} {i : Int} (h : Fr T A n w (.int i)) : i.natAbs < 2 ^ w := by
  obtain ⟨p, a, b⟩ := h
  have h' : (if i.natAbs < T.b then some (PyData.int i) else none) = some p := by cases n <;> simpa [D.sn] using a
  split at h'
  · cases h'
    simp only [PyData.wg] at b
    split at b
    · rename_i hi
      have : i = 0 := by simpa using hi
      subst this
      exact Nat.two_pow_pos w
    · rename_i hi
      have hi : i ≠ 0 := by simpa using hi
      exact (Nat.log2_lt (by omega)).mp (by omega)
  · cases h'
theorem FrL.at {T : Fz} {A : Hpp} {n w : Nat} {l : List D} (h : FrL T A n w l) {s : Nat} (hs : s < l.length) : ∃ w1 we w2, FrL T A n w1 (l.take s) ∧ Fr T A n we l[s] ∧ FrL T A n w2 (l.drop (s + 1)) ∧ w1 + we + 1 + w2 ≤ w := by
  obtain ⟨rs, a, b⟩ := h
  rw [← List.take_append_drop s l] at a
  obtain ⟨ps, qs, rfl, h1, h2⟩ := a.split
  rw [wA_app] at b
  rw [List.drop_eq_getElem_cons hs] at h2
  cases qs with
  | nil => exact h2.elim
  | cons q qs =>
    simp only [PyData.wgA] at b
    exact ⟨_, _, _, ⟨ps, h1, Nat.le_refl _⟩, ⟨q, h2.1, Nat.le_refl _⟩, ⟨qs, h2.2, Nat.le_refl _⟩, by omega⟩
theorem Fr.upb {T : Fz} {A : Hpp} {n m w v : Nat} {d : D} (hm : n ≤ m) (hw : w ≤ v) (h : Fr T A n w d) : Fr ⟨T.t, T.b + 2⟩ A m v d := Fr.to (T := T) (T' := ⟨T.t, T.b + 2⟩) (by simp) (fun _ _ _ a b => ⟨a, b⟩) hm hw h
theorem FrL.upb {T : Fz} {A : Hpp} {n m w v : Nat} {l : List D} (hm : n ≤ m) (hw : w ≤ v) (h : FrL T A n w l) : FrL ⟨T.t, T.b + 2⟩ A m v l := FrL.to (T := T) (T' := ⟨T.t, T.b + 2⟩) (by simp) (fun _ _ _ a b => ⟨a, b⟩) hm hw h
end Rf
namespace Rf.Fd
open PySem PySem.Spec L2
local macro_rules | `(tactic| walk_at "ex") => `(tactic| try simp (decide := true) only [x_ret, x_retN, x_asg, x_if, x_drop, x_nilS, x_for, x_var, x_c, x_un, x_bin, x_test, x_and, x_or, x_not, x_ifE, x_nil, x_cons, x_tup, x_lst, x_b, x_meth, x_oNone, x_oSome, x_slice, x_call, x_gVar, x_gSub, x_range1, x_lc, x_yes, x_rg1, wipeL,
  R.bind_ok, ok_bind, ok_ok, gather, optAll, List.map_cons, List.map_nil, List.getElem?_cons_zero, List.getElem?_cons_succ, List.set_cons_zero, List.set_cons_succ, Option.map_some, List.length_cons, List.length_nil,
  List.nil_append, List.cons_append, List.replicate, Nat.reduceAdd, Nat.reduceSub, and_self, if_true, if_false, true_and, and_true, Nat.reduceEqDiff, truth_bl, ofO_some, reduceCtorEq, decide_true, decide_false, Bool.false_eq_true, Bool.not_true, Bool.not_false, or_self, or_true, true_or, or_false, false_or,
  opAdd_int, opSub_int, cmpLt_int, cmpLe_int, cmpGt_int, cmpGe_int, cmpIs_non, cmpIsNot_non, isi_str, isi_non, isi_int, isi_tup, isi_bl, len_tup, ord_one, sizeLine_eq, Nat.reduceLeDiff, x_bk, x_aug, x_par, tl_nil, tl_cons, x_tlNil, x_tlCons, x_gTup, x_gTupT, x_gStar1, ixt0, ixt1, ixt2, cmpEq_str, cmpNe_str, cmpEq_int, cmpNe_int, s_ff, s_lf, s_cf, s_cl, s_lc, s_fc, s_fl, cmpIs_bl, cmpIsNot_bl])
local macro_rules | `(tactic| walk_at "st") => `(tactic| (refine x_seq.mpr ?_; walk_at "ex"))
/-- what a bend tells -/
def BentP (T : Fz) (B : Hpp) (t c k n w : Nat) (d : D) (A' : Hpp) : Prop := ∃ X, TapAt (B ++ X) t c ∧ Tp (B ++ X) t c k A' ∧ Fr ⟨T.t, T.b + 2⟩ A' (n + 1) (3 * w + 300) d
theorem bent_tail {c_take c_num : CF} (ht : TakeS c_take) (hn : NumS c_num) {T : Fz} {B : Hpp} {t c k0 k n w : Nat} {A A1 : Hpp} {item : D} (TB : TapAt B t c) (h0 : Tp B t c k0 A) (h : Tp B t c k A1) (htT : t ∈ T.t) (hT : ∀ x ∈ T.t, x < B.length) (hd : Fr T A1 n w item) (hw : w ≤ 20000) (hb : 2 ^ 200 ≤ T.b) (hk : k + 2 < 1000000) :
    Ok ((sSeq (sIf (mAnd (mCallV c_num 1 0 [.pos 0] (mCons (mVar 1) mNil) mNil) (mBin cmpGt (mCallV c_take 2 0 [.pos 0, .pos 1] (mCons (mVar 0) (mCons (mC (.int 3)) mNil)) mNil) (mC (.int 0)))) (sSeq (sRet (mBin opAdd (mVar 1) (mBin opIx (mLst (mCons (mC (.int 1)) (mCons (mUn opNeg (mC (.int 1))) (mCons (mC (.int 2)) mNil)))) (mCallV c_take 2 0 [.pos 0, .pos 1] (mCons (mVar 0) (mCons (mC (.int 3)) mNil)) mNil))))
    sNil) sNil)
    (sSeq (sRet (mBin opIx (mLst (mCons (mC .non) (mCons (mC (.str "")) (mCons (mC (.str "a")) (mCons (mC (.str "zz")) (mCons (mC (.int 0)) (mCons (mUn opNeg (mC (.int 1))) (mCons (mC (.bl true)) (mCons (mBin opPow (mC (.int 10)) (mC (.int 59))) (mCons (mTup mNil) (mCons (mLst mNil) (mCons (mC (.str "Aa")) (mCons (mTup (mCons (mC (.str "leaf")) (mCons (mC (.int 1)) mNil))) (mCons (mC (.int 3)) mNil)))))))))))))) (mCallV c_take 2 0 [.pos 0, .pos 1] (mCons (mVar 0) (mCons (mC (.int 13)) mNil)) mNil)))
    sNil)) [some (.ref t), some item, none, none, none] A1) fun o A' => match o with
      | .nx _ => Ok (gcR A .non A') (BentP T B t c (k + 2) n w)
      | .rt d => Ok (gcR A d A') (BentP T B t c (k + 2) n w)
      | _ => False := by
  have fin : ∀ (k1 : Nat) (A2 : Hpp), Tp B t c k1 A2 → k1 ≤ k + 1 → Ok ((sSeq (sRet (mBin opIx (mLst (mCons (mC .non) (mCons (mC (.str "")) (mCons (mC (.str "a")) (mCons (mC (.str "zz")) (mCons (mC (.int 0)) (mCons (mUn opNeg (mC (.int 1))) (mCons (mC (.bl true)) (mCons (mBin opPow (mC (.int 10)) (mC (.int 59))) (mCons (mTup mNil) (mCons (mLst mNil) (mCons (mC (.str "Aa")) (mCons (mTup (mCons (mC (.str "leaf")) (mCons (mC (.int 1)) mNil))) (mCons (mC (.int 3)) mNil)))))))))))))) (mCallV c_take 2 0 [.pos 0, .pos 1] (mCons (mVar 0) (mCons (mC (.int 13)) mNil)) mNil)))
    sNil) [some (.ref t), some item, none, none, none] A2) fun o A' => match o with
      | .nx _ => Ok (gcR A .non A') (BentP T B t c (k + 2) n w)
      | .rt d => Ok (gcR A d A') (BentP T B t c (k + 2) n w)
      | _ => False := by
    intro k1 A2 h2 hk1
    walk_at "st"
    rw [opNeg_int]
    walk_at "ex"
    rw [opPow_int (by decide : CPow 10 59)]
    walk_at "ex"
    have e59 : (10 : Int) ^ Int.toNat 59 = 10 ^ 59 := rfl
    rw [e59]
    generalize hll : ([D.non, D.str (Str.ofString ""), D.str (Str.ofString "a"), D.str (Str.ofString "zz"), D.int 0, D.int (-1), D.bl true, D.int (10 ^ 59), D.tup [], D.ref (List.length A2), D.str (Str.ofString "Aa"), D.tup [D.str (Str.ofString "leaf"), D.int 1], D.int 3] : List D) = ll
    have low : D.lowL (B ++ [HOb.lst []]).length ll = true := by
      subst hll
      have : A2.length < (B ++ [HOb.lst []]).length := by rw [tp_len h2]; simp
      simp only [D.lowL, D.low, decide_eq_true this]; rfl
    have T1 := tapAt_fr TB (l := []) rfl
    have T2 := tapAt_fr T1 low
    have h2' := (tp_app (X := [.lst []]) TB).mpr ⟨A2, rfl, h2⟩
    have h2'' := (tp_app (X := [.lst ll]) T1).mpr ⟨_, rfl, h2'⟩
    refine Ok.mono (ht _ t c _ _ 13 T2 h2'' (by omega) (by decide) (by decide)) ?_
    rintro _ A3 ⟨x, rfl, x1, x2, h3⟩
    have l13 : ll.length = 13 := by subst hll; rfl
    obtain ⟨d, hdm, he, _⟩ := atI_get (l := ll) x1 (by rw [l13]; exact x2)
    obtain ⟨A4, rfl, h4⟩ := (tp_app T1).mp h3
    obtain ⟨A5, rfl, h5⟩ := (tp_app TB).mp h4
    have le5 : A5.length = A2.length := by rw [tp_len h5, tp_len h2]
    rw [ixl (l := ll) (by rw [show (A2 ++ [HOb.lst []]).length = (A5 ++ [HOb.lst []]).length by simp [le5]]; exact at_end) he]
    walk_at "ex"
    have fd : Fr ⟨T.t, T.b + 2⟩ (A5 ++ [HOb.lst []] ++ [HOb.lst ll]) (n + 1) (3 * w + 300) d := by
      have cst : ∀ d : D, frB (2 ^ 200) 1 300 d = true → Fr ⟨T.t, T.b + 2⟩ (A5 ++ [HOb.lst []] ++ [HOb.lst ll]) (n + 1) (3 * w + 300) d := fun d h => (Fr.cst (T := ⟨T.t, T.b + 2⟩) h (by show 2 ^ 200 ≤ T.b + 2; omega)).mono (by omega) (by omega)
      have fref : Fr ⟨T.t, T.b + 2⟩ (A5 ++ [HOb.lst []] ++ [HOb.lst ll]) (n + 1) (3 * w + 300) (.ref A2.length) := by
        refine Fr.ref (l := []) (fun z => ?_) (by rw [← le5]; exact at_end2) (FrL.nil.mono (Nat.le_refl _) (by omega))
        have := hT _ z
        rw [tp_len h2] at this
        omega
      subst hll
      simp only [List.mem_cons, List.not_mem_nil, or_false] at hdm
      rcases hdm with rfl | rfl | rfl | rfl | rfl | rfl | rfl | rfl | rfl | rfl | rfl | rfl | rfl
      · exact cst _ (by decide +kernel)
      · exact cst _ (by decide +kernel)
      · exact cst _ (by decide +kernel)
      · exact cst _ (by decide +kernel)
      · exact cst _ (by decide +kernel)
      · exact cst _ (by decide +kernel)
      · exact cst _ (by decide +kernel)
      · exact cst _ (by decide +kernel)
      · exact cst _ (by decide +kernel)
      · exact fref
      · exact cst _ (by decide +kernel)
      · exact cst _ (by decide +kernel)
      · exact cst _ (by decide +kernel)
    rw [List.append_assoc] at T2 h3 fd ⊢
    rw [List.append_assoc] at h3
    exact gc_fr (T := ⟨T.t, T.b + 2⟩) TB h0 T2 (h3.mono (by omega)) hT fd
  walk_at "st"
  rw [hn item A1 hd.rl]
  walk_at "ex"
  cases hi : isNum item with
  | false =>
    walk_at "ex"
    exact fin k A1 h (by omega)
  | true =>
    walk_at "ex"
    refine Ok.mono (ht _ t c _ _ 3 TB h (by omega) (by decide) (by decide)) ?_
    rintro _ A2 ⟨v, rfl, v1, v2, h2⟩
    walk_at "ex"
    by_cases hv : 0 < v
    · rw [if_pos (by simpa using hv)]
      cases item <;> simp only [isNum, Bool.false_eq_true] at hi
      rename_i i
      walk_at "st"
      rw [opNeg_int]
      walk_at "ex"
      generalize hll : ([D.int 1, D.int (-1), D.int 2] : List D) = ll
      have hint : ∀ d ∈ ll, ∃ z : Int, d = .int z ∧ -2 ≤ z ∧ z ≤ 2 := by
        subst hll
        intro d hd
        simp only [List.mem_cons, List.not_mem_nil, or_false] at hd
        rcases hd with rfl | rfl | rfl <;> exact ⟨_, rfl, by decide, by decide⟩
      have l3 : ll.length = 3 := by subst hll; rfl
      have low : D.lowL B.length ll = true := by subst hll; rfl
      have T2 := tapAt_fr TB low
      have h2' := (tp_app (X := [.lst ll]) TB).mpr ⟨A2, rfl, h2⟩
      refine Ok.mono (ht _ t c _ _ 3 T2 h2' (by omega) (by decide) (by decide)) ?_
      rintro _ A3 ⟨x, rfl, x1, x2, h3⟩
      obtain ⟨d, hdm, he, _⟩ := atI_get (l := ll) x1 (by rw [l3]; exact x2)
      obtain ⟨z, rfl, z1, z2⟩ := hint d hdm
      obtain ⟨A4, rfl, h4⟩ := (tp_app TB).mp h3
      rw [ixl (l := ll) (by rw [tp_len h2, ← tp_len h4]; exact at_end) he]
      walk_at "ex"
      have q1 := hd.wint
      have q2 := hd.wlog
      refine gc_fr (T := ⟨T.t, T.b + 2⟩) TB h0 T2 (h3.mono (by omega)) hT (Fr.int (by show (i + z).natAbs < T.b + 2; omega) ?_)
      have : 2 ^ w + 2 ≤ 2 ^ (3 * w + 300) := by
        have a1 : 2 ^ (w + 2) ≤ 2 ^ (3 * w + 300) := Nat.pow_le_pow_right (by decide) (by omega)
        have a2 : 2 ^ (w + 2) = 2 ^ w * 4 := by rw [Nat.pow_add]
        have a3 := Nat.two_pow_pos w
        omega
      omega
    · rw [if_neg (by simpa using hv)]
      walk_at "ex"
      exact fin (k + 1) A2 h2 (Nat.le_refl _)
def G__law_bent (c__law_draw c__law_is_number c__law_bent : List D → Hpp → R D) : S :=
    (sSeq (sIf (mAnd (mUn (opIsi .tuple) (mVar 1)) (mAnd (mBin cmpNe (mVar 1) (mTup mNil)) (mBin cmpGt (mCallV c__law_draw 2 0 [.pos 0, .pos 1] (mCons (mVar 0) (mCons (mC (.int 9)) mNil)) mNil) (mC (.int 0))))) (sSeq (sPar 2 3 (mCons (mCallV c__law_draw 2 0 [.pos 0, .pos 1] (mCons (mVar 0) (mCons (mB bLen (mCons (mVar 1) mNil)) mNil)) mNil) (mCons (mCallV c__law_draw 2 0 [.pos 0, .pos 1] (mCons (mVar 0) (mCons (mC (.int 9)) mNil)) mNil) mNil)))
    (sSeq (sAsg (mLst (mCons (mBin opAdd (mSlice (mVar 1) oNone (oSome (mVar 2))) (mSlice (mVar 1) (oSome (mBin opAdd (mVar 2) (mC (.int 1)))) oNone)) (mCons (mBin opAdd (mBin opAdd (mSlice (mVar 1) oNone (oSome (mVar 2))) (mSlice (mVar 1) (oSome (mVar 2)) (oSome (mBin opAdd (mVar 2) (mC (.int 1)))))) (mSlice (mVar 1) (oSome (mVar 2)) oNone)) mNil))) (gVar 4))
    (sSeq (sAsg (mBin opAdd (mVar 4) (mLst (mCons (mUn opRev (mVar 1)) (mCons (mB bList (mCons (mVar 1) mNil)) mNil)))) (gVar 4))
    (sSeq (sIf (mBin cmpLt (mVar 3) (mC (.int 4))) (sSeq (sRet (mBin opIx (mVar 4) (mVar 3)))
    sNil) sNil)
    (sSeq (sRet (mBin opAdd (mBin opAdd (mSlice (mVar 1) oNone (oSome (mVar 2))) (mTup (mCons (mCallV c__law_bent 2 0 [.pos 0, .pos 1] (mCons (mVar 0) (mCons (mBin opIx (mVar 1) (mVar 2)) mNil)) mNil) mNil))) (mSlice (mVar 1) (oSome (mBin opAdd (mVar 2) (mC (.int 1)))) oNone)))
    sNil))))) sNil)
    (sSeq (sIf (mAnd (mCallV c__law_is_number 1 0 [.pos 0] (mCons (mVar 1) mNil) mNil) (mBin cmpGt (mCallV c__law_draw 2 0 [.pos 0, .pos 1] (mCons (mVar 0) (mCons (mC (.int 3)) mNil)) mNil) (mC (.int 0)))) (sSeq (sRet (mBin opAdd (mVar 1) (mBin opIx (mLst (mCons (mC (.int 1)) (mCons (mUn opNeg (mC (.int 1))) (mCons (mC (.int 2)) mNil)))) (mCallV c__law_draw 2 0 [.pos 0, .pos 1] (mCons (mVar 0) (mCons (mC (.int 3)) mNil)) mNil))))
    sNil) sNil)
    (sSeq (sRet (mBin opIx (mLst (mCons (mC .non) (mCons (mC (.str "")) (mCons (mC (.str "a")) (mCons (mC (.str "zz")) (mCons (mC (.int 0)) (mCons (mUn opNeg (mC (.int 1))) (mCons (mC (.bl true)) (mCons (mBin opPow (mC (.int 10)) (mC (.int 59))) (mCons (mTup mNil) (mCons (mLst mNil) (mCons (mC (.str "Aa")) (mCons (mTup (mCons (mC (.str "leaf")) (mCons (mC (.int 1)) mNil))) (mCons (mC (.int 3)) mNil)))))))))))))) (mCallV c__law_draw 2 0 [.pos 0, .pos 1] (mCons (mVar 0) (mCons (mC (.int 13)) mNil)) mNil)))
    sNil)))
def BentS (n : Nat) (f : CF) : Prop := ∀ (T : Fz) (B : Hpp) (t c k : Nat) (A : Hpp) (item : D) (w : Nat), TapAt B t c → Tp B t c k A → t ∈ T.t → (∀ x ∈ T.t, x < B.length) → Fr T A n w item → w ≤ 20000 → 2 ^ 200 ≤ T.b → T.b ≤ 2 ^ 400 → k + 5 * (n + 1) < 1000000 →
  Ok (f [.ref t, item] A) (BentP T B t c (k + 5 * (n + 1)) n w)
theorem BentP.mono {T : Fz} {B : Hpp} {t c k k' n w : Nat} {d : D} {A' : Hpp} (hk : k ≤ k') (h : BentP T B t c k n w d A') : BentP T B t c k' n w d A' := by
  obtain ⟨X, a, b, e⟩ := h
  exact ⟨X, a, b.mono hk, e⟩
theorem bent_ok {c_take c_num c_bent : CF} (ht : TakeS c_take) (hn : NumS c_num) : ∀ n : Nat, n ≤ 40 → (∀ i, i < n → BentS i c_bent) → BentS n (run 5 2 (G__law_bent c_take c_num c_bent)) := by
  intro n hn40 ih T B t c k A item w TB h htT hT hd hw hb hb2 hk
  refine ok_run rfl ?_
  unfold G__law_bent
  have tl : ∀ (k1 : Nat) (A1 : Hpp), Tp B t c k1 A1 → k1 ≤ k + 1 → Fr T A1 n w item → Ok ((sSeq (sIf (mAnd (mCallV c_num 1 0 [.pos 0] (mCons (mVar 1) mNil) mNil) (mBin cmpGt (mCallV c_take 2 0 [.pos 0, .pos 1] (mCons (mVar 0) (mCons (mC (.int 3)) mNil)) mNil) (mC (.int 0)))) (sSeq (sRet (mBin opAdd (mVar 1) (mBin opIx (mLst (mCons (mC (.int 1)) (mCons (mUn opNeg (mC (.int 1))) (mCons (mC (.int 2)) mNil)))) (mCallV c_take 2 0 [.pos 0, .pos 1] (mCons (mVar 0) (mCons (mC (.int 3)) mNil)) mNil))))
    sNil) sNil)
    (sSeq (sRet (mBin opIx (mLst (mCons (mC .non) (mCons (mC (.str "")) (mCons (mC (.str "a")) (mCons (mC (.str "zz")) (mCons (mC (.int 0)) (mCons (mUn opNeg (mC (.int 1))) (mCons (mC (.bl true)) (mCons (mBin opPow (mC (.int 10)) (mC (.int 59))) (mCons (mTup mNil) (mCons (mLst mNil) (mCons (mC (.str "Aa")) (mCons (mTup (mCons (mC (.str "leaf")) (mCons (mC (.int 1)) mNil))) (mCons (mC (.int 3)) mNil)))))))))))))) (mCallV c_take 2 0 [.pos 0, .pos 1] (mCons (mVar 0) (mCons (mC (.int 13)) mNil)) mNil)))
    sNil)) [some (.ref t), some item, none, none, none] A1) fun o A' => match o with
      | .nx _ => Ok (gcR A .non A') (BentP T B t c (k + 5 * (n + 1)) n w)
      | .rt d => Ok (gcR A d A') (BentP T B t c (k + 5 * (n + 1)) n w)
      | _ => False := by
    intro k1 A1 h1 hk1 hd1
    refine Ok.mono (bent_tail ht hn TB h h1 htT hT hd1 hw hb (by omega)) ?_
    intro o A' q
    cases o with
    | nx L => exact Ok.mono q fun d A'' z => z.mono (by omega)
    | rt d => exact Ok.mono q fun d A'' z => z.mono (by omega)
    | bk L => exact q
    | ct L => exact q
  cases item with
  | tup l =>
    cases n with
    | zero => exact hd.un0.elim
    | succ n =>
      have hl := hd.un
      have ll := hl.len
      walk_at "st"
      rw [cmpNe_empty (hb := hb2) (.inl ⟨rfl, rfl⟩) hl (by omega)]
      walk_at "ex"
      cases l with
      | nil =>
        rw [show (!(List.isEmpty ([] : List D))) = false from rfl]
        walk_at "ex"
        exact tl k A h (by omega) hd
      | cons d0 l0 =>
        rw [show (!(List.isEmpty (d0 :: l0))) = true from rfl]
        generalize hl0 : d0 :: l0 = l at *
        have hpos : 0 < l.length := by rw [← hl0]; simp
        walk_at "ex"
        refine Ok.mono (ht _ t c _ _ 9 TB h (by omega) (by decide) (by decide)) ?_
        rintro _ A1 ⟨u, rfl, u1, u2, h1⟩
        have hd1 : Fr T A1 (n + 1) w (.tup l) := by
          have := fr_tp (X := []) TB htT h (by rw [List.append_nil]; exact h1) hd
          exact this
        walk_at "ex"
        by_cases hu : 0 < u
        · rw [if_pos (by simpa using hu)]
          walk_at "st"
          refine Ok.mono (ht _ t c _ _ l.length TB h1 (by omega) (by omega) (by omega)) ?_
          rintro _ A2 ⟨s, rfl, s1, s2, h2⟩
          walk_at "ex"
          refine Ok.mono (ht _ t c _ _ 9 TB h2 (by omega) (by decide) (by decide)) ?_
          rintro _ A3 ⟨v, rfl, v1, v2, h3⟩
          walk_at "ex"
          have sl : s.toNat < l.length := by omega
          have hl3 : FrL T A3 n w l := (fr_tp (X := []) TB htT h (by rw [List.append_nil]; exact h3) hd).un
          walk_at "st"
          rw [sl_tup, cut_lo l (by omega) (by omega)]
          walk_at "ex"
          rw [sl_tup, cut_hi l (i := s + 1) (by omega) (by omega)]
          walk_at "ex"
          rw [add_tup (by rw [sizeLine_eq]; simp; omega)]
          walk_at "ex"
          rw [sl_tup, cut_lo l (by omega) (by omega)]
          walk_at "ex"
          rw [sl_tup, cut_mid l s1 s2]
          walk_at "ex"
          rw [add_tup (by rw [sizeLine_eq]; simp; omega)]
          walk_at "ex"
          rw [sl_tup, cut_hi l (i := s) (by omega) (by omega)]
          walk_at "ex"
          rw [add_tup (by rw [sizeLine_eq]; simp; omega)]
          walk_at "ex"
          have es : (s + 1).toNat = s.toNat + 1 := by omega
          rw [es]
          obtain ⟨w1, we, w2, f1, f2, f3, f4⟩ := hl3.at sl
          have g1 : FrL T A3 n (3 * w) (l.take s.toNat ++ l.drop (s.toNat + 1)) := (f1.append f3).mono (Nat.le_refl _) (by omega)
          have g2 : FrL T A3 n (3 * w) (l.take s.toNat ++ (l.drop s.toNat).take 1 ++ l.drop s.toNat) := ((hl3.take _).append ((hl3.drop _).take 1)).append (hl3.drop _) |>.mono (Nat.le_refl _) (by omega)
          generalize l.take s.toNat ++ l.drop (s.toNat + 1) = t1 at g1
          generalize l.take s.toNat ++ (l.drop s.toNat).take 1 ++ l.drop s.toNat = t2 at g2
          walk_at "st"
          rw [rev_tup]
          walk_at "ex"
          rw [list_tup]
          walk_at "ex"
          rw [add_lst (a := [.tup t1, .tup t2]) (b := [.tup l.reverse, .ref (A3 ++ [HOb.lst [D.tup t1, D.tup t2]]).length]) (by rw [List.append_assoc, List.append_assoc]; exact get_mid) at_end (by rw [sizeLine_eq]; simp)]
          walk_at "ex"
          have low1 : D.lowL B.length [D.tup t1, D.tup t2] = true := by
            rw [← tp_len h3]
            simp only [D.lowL, D.low, g1.low, g2.low]; rfl
          have low2 : D.lowL (B ++ [HOb.lst [D.tup t1, D.tup t2]]).length l = true := lowL_mono (by rw [tp_len h3]; simp) l hl3.low
          have T1 := tapAt_fr TB low1
          have T2 := tapAt_fr T1 low2
          have lowr : D.lowL A3.length l.reverse = true := hl3.rev.low
          have eB : (B ++ [HOb.lst [D.tup t1, D.tup t2]]).length = B.length + 1 := by simp
          have eA : (A3 ++ [HOb.lst [D.tup t1, D.tup t2]]).length = B.length + 1 := by rw [← tp_len h3]; simp
          have low3 : D.lowL (B ++ [HOb.lst [D.tup t1, D.tup t2]] ++ [HOb.lst l]).length [D.tup l.reverse, .ref (A3 ++ [HOb.lst [D.tup t1, D.tup t2]]).length] = true := by
            rw [eA]
            have q : B.length + 1 < (B ++ [HOb.lst [D.tup t1, D.tup t2]] ++ [HOb.lst l]).length := by simp
            have lr : D.lowL (B ++ [HOb.lst [D.tup t1, D.tup t2]] ++ [HOb.lst l]).length l.reverse = true := lowL_mono (by rw [tp_len h3, List.length_append, List.length_append]; omega) _ lowr
            simp only [D.lowL, D.low, decide_eq_true q, lr]; rfl
          have T3 := tapAt_fr T2 low3
          have low4 : D.lowL (B ++ [HOb.lst [D.tup t1, D.tup t2]] ++ [HOb.lst l] ++ [HOb.lst [D.tup l.reverse, .ref (A3 ++ [HOb.lst [D.tup t1, D.tup t2]]).length]]).length [D.tup t1, D.tup t2, D.tup l.reverse, .ref (A3 ++ [HOb.lst [D.tup t1, D.tup t2]]).length] = true :=
            lowL_app (a := [D.tup t1, D.tup t2]) (lowL_mono (by simp only [List.length_append]; omega) _ low1) (lowL_mono (by simp only [List.length_append]; omega) _ low3)
          have T4 := tapAt_fr T3 low4
          have k1 := (tp_app (X := [.lst [D.tup t1, D.tup t2]]) TB).mpr ⟨A3, rfl, h3⟩
          have k2 := (tp_app (X := [.lst l]) T1).mpr ⟨_, rfl, k1⟩
          have k3 := (tp_app (X := [.lst [D.tup l.reverse, .ref (A3 ++ [HOb.lst [D.tup t1, D.tup t2]]).length]]) T2).mpr ⟨_, rfl, k2⟩
          have k4 := (tp_app (X := [.lst [D.tup t1, D.tup t2, D.tup l.reverse, .ref (A3 ++ [HOb.lst [D.tup t1, D.tup t2]]).length]]) T3).mpr ⟨_, rfl, k3⟩
          generalize hX : [HOb.lst [D.tup t1, D.tup t2]] ++ [HOb.lst l] ++ [HOb.lst [D.tup l.reverse, .ref (A3 ++ [HOb.lst [D.tup t1, D.tup t2]]).length]] ++ [HOb.lst [D.tup t1, D.tup t2, D.tup l.reverse, .ref (A3 ++ [HOb.lst [D.tup t1, D.tup t2]]).length]] = X
          have eX : ∀ Z : Hpp, Z ++ [HOb.lst [D.tup t1, D.tup t2]] ++ [HOb.lst l] ++ [HOb.lst [D.tup l.reverse, .ref (A3 ++ [HOb.lst [D.tup t1, D.tup t2]]).length]] ++ [HOb.lst [D.tup t1, D.tup t2, D.tup l.reverse, .ref (A3 ++ [HOb.lst [D.tup t1, D.tup t2]]).length]] = Z ++ X := fun Z => by rw [← hX]; simp only [List.append_assoc]
          have iS : (A3 ++ X)[(A3 ++ [HOb.lst [D.tup t1, D.tup t2]] ++ [HOb.lst l] ++ [HOb.lst [D.tup l.reverse, .ref (A3 ++ [HOb.lst [D.tup t1, D.tup t2]]).length]]).length]? = some (.lst [D.tup t1, D.tup t2, D.tup l.reverse, .ref (A3 ++ [HOb.lst [D.tup t1, D.tup t2]]).length]) := by rw [← eX]; exact at_end
          have iL : (A3 ++ X)[(A3 ++ [HOb.lst [D.tup t1, D.tup t2]]).length]? = some (.lst l) := by
            rw [← eX, List.append_assoc, List.append_assoc]; exact get_mid
          rw [eX] at T4 k4
          rw [eX A3]
          rw [eX A3] at k4
          have hl4 : FrL T (A3 ++ X) n w l := frl_app hl3
          generalize (A3 ++ [HOb.lst [D.tup t1, D.tup t2]] ++ [HOb.lst l] ++ [HOb.lst [D.tup l.reverse, .ref (A3 ++ [HOb.lst [D.tup t1, D.tup t2]]).length]]).length = iq at iS
          walk_at "st"
          by_cases hv : v < 4
          · rw [if_pos (by simpa using hv)]
            walk_at "st"
            obtain ⟨d, hdm, he, _⟩ := atI_get (l := [D.tup t1, D.tup t2, D.tup l.reverse, .ref (A3 ++ [HOb.lst [D.tup t1, D.tup t2]]).length]) (i := v) v1 (by simpa using hv)
            rw [ixl iS he]
            walk_at "ex"
            have fd : Fr T (A3 ++ X) (n + 1) (3 * w) d := by
              simp only [List.mem_cons, List.not_mem_nil, or_false] at hdm
              rcases hdm with rfl | rfl | rfl | rfl
              · exact Fr.tup (frl_app g1)
              · exact Fr.tup (frl_app g2)
              · exact (Fr.tup hl4.rev).mono (Nat.le_refl _) (by omega)
              · refine (Fr.ref (fun z => ?_) iL hl4).mono (Nat.le_refl _) (by omega)
                have := hT _ z
                rw [eA] at this
                omega
            exact gc_fr (T := ⟨T.t, T.b + 2⟩) TB h T4 (k4.mono (by omega)) hT (fd.upb (by omega) (by omega))
          · rw [if_neg (by simpa using hv)]
            walk_at "ex"
            walk_at "st"
            rw [sl_tup, cut_lo l (by omega) (by omega)]
            walk_at "ex"
            have ei : atI l s = some l[s.toNat] := by
              obtain ⟨d, _, he, hg⟩ := atI_get (l := l) s1 s2
              rw [List.getElem?_eq_getElem sl] at hg
              rw [he, ← hg]
            rw [show opIx (.tup l) (.int s) (A3 ++ X) = .ok l[s.toNat] (A3 ++ X) from by simp [opIx, ei, R.ofO]]
            walk_at "ex"
            refine Ok.mono (ih n (by omega) T (B ++ X) t c _ (A3 ++ X) l[s.toNat] we T4 k4 htT (fun x hx => by have := hT x hx; simp; omega) (fr_app f2) (by omega) hb hb2 (by omega)) ?_
            rintro d A5 ⟨Y, T5, k5, f5⟩
            walk_at "ex"
            have f1' : FrL T A5 n w1 (l.take s.toNat) := frl_tp T4 htT k4 k5 (frl_app f1)
            have f3' : FrL T A5 n w2 (l.drop (s.toNat + 1)) := frl_tp T4 htT k4 k5 (frl_app f3)
            rw [add_tup (by rw [sizeLine_eq]; simp; omega)]
            walk_at "ex"
            rw [sl_tup, cut_hi l (i := s + 1) (by omega) (by omega)]
            walk_at "ex"
            rw [add_tup (by rw [sizeLine_eq]; simp; omega), es]
            walk_at "ex"
            have fin : Fr ⟨T.t, T.b + 2⟩ A5 (n + 1 + 1) (3 * w + 300) (.tup (l.take s.toNat ++ [d] ++ l.drop (s.toNat + 1))) :=
              (Fr.tup ((((f1'.upb (m := n + 1) (by omega) (Nat.le_refl _)).append (FrL.cons f5 FrL.nil)).append (f3'.upb (m := n + 1) (by omega) (Nat.le_refl _))))).mono (Nat.le_refl _) (by omega)
            rw [List.append_assoc] at T5 k5
            exact gc_fr (T := ⟨T.t, T.b + 2⟩) TB h T5 (k5.mono (by omega)) hT fin
        · rw [if_neg (by simpa using hu)]
          walk_at "ex"
          exact tl (k + 1) A1 h1 (Nat.le_refl _) hd1
  | ref j =>
    walk_at "st"
    rw [isi_ref hd.rl]
    walk_at "ex"
    exact tl k A h (by omega) hd
  | _ =>
    walk_at "st"
    exact tl k A h (by omega) hd
end Rf.Fd
namespace Rf.Tq
open PySem PySem.Spec L2
local macro_rules | `(tactic| walk_at "ex") => `(tactic| try simp (decide := true) only [x_ret, x_retN, x_asg, x_if, x_drop, x_nilS, x_for, x_var, x_c, x_un, x_bin, x_test, x_and, x_or, x_not, x_ifE, x_nil, x_cons, x_tup, x_lst, x_b, x_meth, x_oNone, x_oSome, x_slice, x_call, x_gVar, x_gSub, x_range1, x_lc, x_yes, x_rg1, wipeL,
  R.bind_ok, ok_bind, ok_ok, gather, optAll, List.map_cons, List.map_nil, List.getElem?_cons_zero, List.getElem?_cons_succ, List.set_cons_zero, List.set_cons_succ, Option.map_some, List.length_cons, List.length_nil,
  List.nil_append, List.cons_append, List.replicate, Nat.reduceAdd, Nat.reduceSub, and_self, if_true, if_false, true_and, and_true, Nat.reduceEqDiff, truth_bl, ofO_some, reduceCtorEq, decide_true, decide_false, Bool.false_eq_true, Bool.not_true, Bool.not_false, or_self, or_true, true_or, or_false, false_or,
  opAdd_int, opSub_int, cmpLt_int, cmpLe_int, cmpGt_int, cmpGe_int, cmpIs_non, cmpIsNot_non, isi_str, isi_non, isi_int, isi_tup, isi_bl, len_tup, ord_one, sizeLine_eq, Nat.reduceLeDiff, x_bk, x_aug, x_par, tl_nil, tl_cons, x_tlNil, x_tlCons, x_gTup, x_gTupT, x_gStar1, ixt0, ixt1, ixt2, cmpEq_str, cmpNe_str, cmpEq_int, cmpNe_int, s_ff, s_lf, s_cf, s_cl, s_lc, s_fc, s_fl, cmpIs_bl, cmpIsNot_bl])
local macro_rules | `(tactic| walk_at "st") => `(tactic| (refine x_seq.mpr ?_; walk_at "ex"))
/-! ### what a call leaves, for things that stay -/
theorem gc_fr {T : Fz} {B X A A' : Hpp} {t c k0 k n w : Nat} {d : D} (TB : TapAt B t c) (h : Tp B t c k0 A) (TX : TapAt (B ++ X) t c) (h' : Tp (B ++ X) t c k A') (hT : ∀ x ∈ T.t, x < B.length) (hd : Fr T A' n w d) :
    Ok (gcR A d A') fun d' A'' => ∃ X', TapAt (B ++ X') t c ∧ Tp (B ++ X') t c k A'' ∧ Fr T A'' n w d' := by
  obtain ⟨A1, rfl, h1⟩ := (tp_app TB).mp h'
  have e1 : A1.length = A.length := by rw [tp_len h, tp_len h1]
  have e2 : (A1 ++ X).take A.length = A1 := by rw [← e1]; simp
  have cl := tp_cl TB h1
  have low : d.low A.length = true → Fr T A1 n w d := by
    rintro hl
    obtain ⟨p, a, b⟩ := hd
    exact ⟨p, sn_pre cl n d p (by rw [e1]; exact hl) a, b⟩
  have TB0 : TapAt (B ++ []) t c := by rw [List.append_nil]; exact TB
  have h10 : Tp (B ++ []) t c k A1 := by rw [List.append_nil]; exact h1
  unfold gcR
  split
  · exact ok_ok.mpr ⟨X, TX, h', hd⟩
  · split
    · rename_i q
      rw [e2] at q
      rw [ok_ok, ← q.2]
      exact ⟨[], TB0, h10, low (low_mono (Nat.zero_le _) d q.1)⟩
    · split
      · rename_i q
        rw [e2, ok_ok]
        exact ⟨[], TB0, h10, low q.1⟩
      · split
        · split
          · split
            · rename_i kk o ho q
              rw [e2, ok_ok]
              obtain ⟨p, a, b⟩ := hd
              cases n with
              | zero => simp [D.sn] at a
              | succ n =>
                obtain ⟨hk, l, ps, hl, rfl, hps⟩ := sn_ref.mp a
                rw [hl] at ho
                cases ho
                have ll : D.lowL A1.length l = true := by rw [e1]; exact q.2.1
                have hps1 := hps.imp fun d hd p hp => sn_pre cl n d p (lowL_mem ll hd) hp
                have tl : TapAt (B ++ [.lst l]) t c := tapAt_app TB fun o ho => by
                  rw [List.mem_singleton.mp ho]
                  exact lowL_mono (by rw [tp_len h1] ; omega) l ll
                refine ⟨[.lst l], tl, (tp_app TB).mpr ⟨A1, rfl, h1⟩, .list ps, ?_, b⟩
                refine sn_ref.mpr ⟨fun z => ?_, l, ps, by rw [← e1]; exact at_end, rfl, hps1.imp fun d _ p hp => sn_to (Nat.le_refl _) (fun k l hk2 a b => ⟨a, by rw [List.getElem?_append_left hk2]; exact b⟩) n n d p (Nat.le_refl _) hp⟩
                have := hT _ z
                rw [← e1, tp_len h1] at this
                omega
            · exact ok_ok.mpr ⟨X, TX, h', hd⟩
          · exact ok_ok.mpr ⟨X, TX, h', hd⟩
        · exact ok_ok.mpr ⟨X, TX, h', hd⟩
/-- things stay while the tap is asked and lists are made -/
theorem fr_tp {T : Fz} {B X A A' : Hpp} {t c k k' n w : Nat} {d : D} (TB : TapAt B t c) (ht : t ∈ T.t) (h : Tp B t c k A) (h' : Tp (B ++ X) t c k' A') (hd : Fr T A n w d) : Fr T A' n w d := by
  refine hd.to (Nat.le_refl _) (fun j l hj hk hl => ⟨hk, ?_⟩) (Nat.le_refl _) (Nat.le_refl _)
  have jt : j ≠ t := fun e => hk (by rw [e]; exact ht)
  rw [tp_get h' jt, List.getElem?_append_left (by rw [← tp_len h]; exact hj), ← tp_get h jt]
  exact hl
theorem frl_tp {T : Fz} {B X A A' : Hpp} {t c k k' n w : Nat} {l : List D} (TB : TapAt B t c) (ht : t ∈ T.t) (h : Tp B t c k A) (h' : Tp (B ++ X) t c k' A') (hd : FrL T A n w l) : FrL T A' n w l := by
  refine hd.to (Nat.le_refl _) (fun j l hj hk hl => ⟨hk, ?_⟩) (Nat.le_refl _) (Nat.le_refl _)
  have jt : j ≠ t := fun e => hk (by rw [e]; exact ht)
  rw [tp_get h' jt, List.getElem?_append_left (by rw [← tp_len h]; exact hj), ← tp_get h jt]
  exact hl
theorem fr_app {T : Fz} {A X : Hpp} {n w : Nat} {d : D} (hd : Fr T A n w d) : Fr T (A ++ X) n w d :=
  hd.to (Nat.le_refl _) (fun j l hj hk hl => ⟨hk, by rw [List.getElem?_append_left hj]; exact hl⟩) (Nat.le_refl _) (Nat.le_refl _)
theorem frl_app {T : Fz} {A X : Hpp} {n w : Nat} {l : List D} (hd : FrL T A n w l) : FrL T (A ++ X) n w l :=
  hd.to (Nat.le_refl _) (fun j l hj hk hl => ⟨hk, by rw [List.getElem?_append_left hj]; exact hl⟩) (Nat.le_refl _) (Nat.le_refl _)
theorem tapAt_fr {B : Hpp} {t c : Nat} (T : TapAt B t c) {l : List D} (hl : D.lowL B.length l = true) : TapAt (B ++ [.lst l]) t c := by
  refine tapAt_app T fun o ho => ?_
  rw [List.mem_singleton.mp ho]
  exact lowL_mono (by omega) l hl
/-- a list told, its things stay -/
theorem gc_frl {T : Fz} {B X A A' : Hpp} {t c k0 k j : Nat} {m : List D} (TB : TapAt B t c) (h : Tp B t c k0 A) (TX : TapAt (B ++ X) t c) (h' : Tp (B ++ X) t c k A') (hj : A'[j]? = some (.lst m)) (hjA : A.length ≤ j) :
    Ok (gcR A (.ref j) A') fun d' A'' => ∃ X' j', d' = .ref j' ∧ TapAt (B ++ X') t c ∧ Tp (B ++ X') t c k A'' ∧ A''[j']? = some (.lst m) ∧ B.length ≤ j' ∧ ∀ e ∈ m, ∀ n w, Fr T A' n w e → Fr T A'' n w e := by
  obtain ⟨A1, rfl, h1⟩ := (tp_app TB).mp h'
  have e1 : A1.length = A.length := by rw [tp_len h, tp_len h1]
  have e2 : (A1 ++ X).take A.length = A1 := by rw [← e1]; simp
  have cl := tp_cl TB h1
  have hjB : B.length ≤ j := by rw [← tp_len h]; exact hjA
  unfold gcR
  split
  · exact ok_ok.mpr ⟨X, j, rfl, TX, h', hj, hjB, fun _ _ _ _ q => q⟩
  · split
    · rename_i q
      simp [D.low] at q
    · split
      · rename_i q
        simp only [D.low, decide_eq_true_eq] at q
        omega
      · simp only [hj]
        split
        · rename_i q
          rw [e2, ok_ok]
          have ll : D.lowL A1.length m = true := by rw [e1]; exact q.2.1
          have tl : TapAt (B ++ [.lst m]) t c := tapAt_app TB fun o ho => by
            rw [List.mem_singleton.mp ho]
            exact lowL_mono (by rw [tp_len h1] ; omega) m ll
          refine ⟨[.lst m], A.length, rfl, tl, (tp_app TB).mpr ⟨A1, rfl, h1⟩, by rw [← e1]; exact at_end, by rw [tp_len h]; exact Nat.le_refl _, fun e he n w q => ?_⟩
          obtain ⟨p, a, b⟩ := q
          exact ⟨p, sn_to (Nat.le_refl _) (fun k l hk2 a b => ⟨a, by rw [List.getElem?_append_left hk2]; exact b⟩) n n e p (Nat.le_refl _) (sn_pre cl n e p (lowL_mem ll he) a), b⟩
        · exact ok_ok.mpr ⟨X, j, rfl, TX, h', hj, hjB, fun _ _ _ _ q => q⟩
theorem fr_sm {T : Fz} {A : Hpp} : ∀ (n w : Nat) (d : D), w < 4000000 → Fr T A n w d → d.sm = true ∧ d.dp ≤ n := by
  intro n
  induction n with
  | zero =>
    intro w d hw h
    cases d with
    | tup l => exact h.un0.elim
    | str s => exact ⟨decide_eq_true (by have := h.wstr.2; omega), Nat.zero_le _⟩
    | _ => exact ⟨rfl, Nat.zero_le _⟩
  | succ n ih =>
    intro w d hw h
    cases d with
    | tup l =>
      have hl := h.un
      have len := hl.len
      have key : ∀ l : List D, (∀ d ∈ l, d.sm = true ∧ d.dp ≤ n) → D.smL l = true ∧ D.dpL l ≤ n := by
        intro l
        induction l with
        | nil => intro _; exact ⟨rfl, Nat.zero_le _⟩
        | cons d l ih2 =>
          intro hd
          obtain ⟨a1, a2⟩ := hd d (List.mem_cons_self ..)
          obtain ⟨b1, b2⟩ := ih2 fun e he => hd e (List.mem_cons_of_mem _ he)
          exact ⟨by simp [D.smL, a1, b1], by simp only [D.dpL]; omega⟩
      obtain ⟨a, b⟩ := key l fun d hd => ih w d hw (hl.mem hd)
      exact ⟨by simp only [D.sm, a, Bool.and_true]; exact decide_eq_true (by omega), by simp only [D.dp]; omega⟩
    | str s => exact ⟨decide_eq_true (by have := h.wstr.2; omega), Nat.zero_le _⟩
    | _ => exact ⟨rfl, Nat.zero_le _⟩
/-! ### looks -/
def G_is_base (c_is_number : List D → Hpp → R D) : S :=
    (sSeq (sRet (mAnd (mCallV c_is_number 1 0 [.pos 0] (mCons (mVar 0) mNil) mNil) (mBin cmpGe (mVar 0) (mC (.int 2)))))
    sNil)
def isBs : D → Bool
  | .int i => decide (1 < i)
  | _ => false
theorem isbase_ok {c_num : CF} (hn : NumS c_num) : Fd.LookS isBs (run 1 1 (G_is_base c_num)) := by
  intro T A n w d hd _ _ _
  apply ok_eq
  refine ok_run rfl ?_
  unfold G_is_base
  walk_at "st"
  rw [hn d A hd.rl]
  walk_at "ex"
  cases d with
  | int i =>
    rw [show isNum (.int i) = true from rfl]
    walk_at "ex"
    rw [gc_self, ok_ok]
    refine ⟨congrArg D.bl (decide_eq_decide.mpr ?_), rfl⟩
    omega
  | _ =>
    simp only [isNum]
    walk_at "ex"
    rw [gc_self, ok_ok]; exact ⟨rfl, rfl⟩
def G__law_is_number : S :=
    (sSeq (sRet (mAnd (mUn (opIsi .int) (mVar 0)) (mNot (mUn (opIsi .bool) (mVar 0)))))
    sNil)
theorem lnum_ok : NumS (run 1 1 G__law_is_number) := num_ok
def G__law_is_pair (c__law_is_number : List D → Hpp → R D) : S :=
    (sSeq (sIf (mOr (mNot (mUn (opIsi .tuple) (mVar 0))) (mOr (mBin cmpNe (mB bLen (mCons (mVar 0) mNil)) (mC (.int 2))) (mBin cmpNe (mLc (srcSeq (mVar 0)) (gVar 1) (mTest (mNot (mCallV c__law_is_number 1 0 [.pos 0] (mCons (mVar 1) mNil) mNil))) (mVar 1) [1]) (mLst mNil)))) (sSeq (sRet (mC (.bl false)))
    sNil) sNil)
    (sSeq (sRet (mAnd (mBin cmpGe (mBin opIx (mVar 0) (mC (.int 0))) (mC (.int 0))) (mBin cmpGe (mBin opIx (mVar 0) (mC (.int 1))) (mC (.int 0)))))
    sNil))
theorem pair_ok {c_num : CF} (hn : NumS c_num) : Fd.PlateS (run 2 1 (G__law_is_pair c_num)) := Fd.plate_ok hn
def G__law_is_stuff (c__law_is_number c__law_is_stuff : List D → Hpp → R D) : S :=
    (sSeq (sIf (mUn (opIsi .tuple) (mVar 0)) (sSeq (sRet (mBin cmpEq (mLc (srcSeq (mVar 0)) (gVar 1) (mTest (mNot (mCallV c__law_is_stuff 1 0 [.pos 0] (mCons (mVar 1) mNil) mNil))) (mVar 1) [1]) (mLst mNil)))
    sNil) sNil)
    (sSeq (sRet (mOr (mBin cmpIs (mVar 0) (mC .non)) (mOr (mUn (opIsi .str) (mVar 0)) (mCallV c__law_is_number 1 0 [.pos 0] (mCons (mVar 0) mNil) mNil))))
    sNil))
def StuffS (k : Nat) (c : CF) : Prop := ∀ (T : Fz) (A : Hpp) (w : Nat) (d : D), Fr T A k w d → w ≤ 3300000 → T.b ≤ 2 ^ 400 → c [d] A = .ok (.bl (isTh d)) A
theorem stuff_ok {c_num c_stuff : CF} (hn : NumS c_num) {k : Nat} (hk50 : k ≤ 50) (hk : ∀ j, j + 1 = k → StuffS j c_stuff) : StuffS k (run 2 1 (G__law_is_stuff c_num c_stuff)) := by
  intro T A w d hd hw hb
  have hr := hd.rl
  apply ok_eq
  refine ok_run rfl ?_
  unfold G__law_is_stuff
  cases d with
  | tup l =>
    cases k with
    | zero => exact hd.un0.elim
    | succ k =>
      have hl := hd.un
      have len := hl.len
      walk_at "st"
      walk_at "st"
      rw [src_tup rfl]
      walk_at "ex"
      rw [show (Src.its l).items = l from rfl]
      rw [lc_filt (p := fun d => !isTh d) (f := id) (fun _ => rfl) l [] (fun d hd acc => ?_) (by rw [sizeLine_eq]; simp only [List.length_nil]; omega)]
      · walk_at "ex"
        rw [List.map_id]
        have hf := frl_app (X := [HOb.lst (l.filter fun d => !isTh d)] ++ [HOb.lst []]) (hl.filt fun d => !isTh d)
        rw [← List.append_assoc] at hf
        rw [Fd.cmpEq_empty hb (.inr ⟨_, _, rfl, at_end2, rfl, at_end⟩) hf (by omega)]
        walk_at "ex"
        rw [List.append_assoc, gc_pure rfl, ok_ok, isTh, isThL_all]
        refine ⟨congrArg D.bl ?_, rfl⟩
        clear hf hl hd hr len
        induction l with
        | nil => rfl
        | cons d l ih =>
          by_cases hc : isTh d = true
          · rw [List.filter_cons_of_neg (by simp [hc]), ih, List.all_cons, hc, Bool.true_and]
          · rw [List.filter_cons_of_pos (by simp [hc]), List.all_cons]
            simp only [Bool.not_eq_true] at hc
            rw [hc]
            rfl
      · constructor
        · walk_at "ex"
          rw [hk k rfl T _ w d (fr_app (hl.mem hd)) hw hb]
          walk_at "ex"
        · intro _
          walk_at "ex"
          rfl
  | ref j =>
    walk_at "st"
    rw [isi_ref hr]
    walk_at "ex"
    walk_at "st"
    rw [isi_ref hr]
    walk_at "ex"
    rw [hn _ _ hr]
    walk_at "ex"
    rw [gc_self, ok_ok]; exact ⟨rfl, rfl⟩
  | non =>
    walk_at "st"
    walk_at "st"
    rw [gc_self, ok_ok]; exact ⟨rfl, rfl⟩
  | str s =>
    walk_at "st"
    walk_at "st"
    rw [gc_self, ok_ok]; exact ⟨rfl, rfl⟩
  | bl b =>
    walk_at "st"
    walk_at "st"
    rw [hn _ _ hr]
    walk_at "ex"
    rw [gc_self, ok_ok]; exact ⟨rfl, rfl⟩
  | int b =>
    walk_at "st"
    walk_at "st"
    rw [hn _ _ hr]
    walk_at "ex"
    rw [gc_self, ok_ok]; exact ⟨rfl, rfl⟩
def cutPos : D → Bool
  | .tup [_, .int b] => decide (0 < b)
  | _ => false
def isPrF : Nat → D → Bool
  | n + 1, .tup [.str w, x, y] => decide (w = Str.ofString "fork") && (isPrF n x && isPrF n y)
  | _ + 1, .tup [.str w, x] => (decide (w = Str.ofString "leaf") && isTh x) || (decide (w = Str.ofString "cut") && (isLab x && cutPos x))
  | _, _ => false
def PrLook (n : Nat) (c : CF) : Prop := ∀ (T : Fz) (A : Hpp) (w : Nat) (d : D), Fr T A n w d → w ≤ 3300000 → T.b ≤ 2 ^ 400 → c [d] A = .ok (.bl (isPrF n d)) A
theorem isPrF_few {n : Nat} {l : List D} (h : l.length < 2) : isPrF n (.tup l) = false := by
  match l, h with
  | [], _ => cases n <;> rfl
  | [a], _ => cases a <;> cases n <;> rfl
theorem isPrF_many {n : Nat} {l : List D} (h : 3 < l.length) : isPrF n (.tup l) = false := by
  match l, h with
  | a :: b :: c :: d :: r, _ => cases a <;> cases n <;> rfl
theorem isPrF_nostr {n : Nat} {a : D} {r : List D} (h : ∀ s, a ≠ .str s) : isPrF n (.tup (a :: r)) = false := by
  cases n with
  | zero => rfl
  | succ n =>
    unfold isPrF
    split
    · rename_i e; cases e; exact absurd rfl (h _)
    · rename_i e; cases e; exact absurd rfl (h _)
    · rfl
theorem s_cc : (Str.ofString "cut" = Str.ofString "cut") = True := by simp
theorem s_ll : (Str.ofString "leaf" = Str.ofString "leaf") = True := by simp
/-- the program's look -/
theorem pruned_ok {c_thing c_lab c_pr : CF} (hl : LabS c_lab) {k : Nat} (hk50 : k ≤ 50) (ht : ThingS k c_thing) (hk : ∀ j, j + 1 = k → PrLook j c_pr) : PrLook k (run 4 1 (G_is_pruned c_thing c_lab c_pr)) := by
  intro T A w d hd hw hb
  have hr := hd.rl
  apply ok_eq
  refine ok_run rfl ?_
  unfold G_is_pruned
  cases d with
  | tup l =>
    cases k with
    | zero => exact hd.un0.elim
    | succ k =>
      have hfl := hd.un
      walk_at "st"
      by_cases h2 : l.length < 2
      · rw [if_pos (by simp; omega)]
        walk_at "ex"
        rw [if_pos (by simp; omega)]
        walk_at "st"
        rw [gc_self, ok_ok, isPrF_few h2]; exact ⟨rfl, rfl⟩
      · rw [if_neg (by simp; omega)]
        obtain ⟨a, r, rfl⟩ : ∃ a r, l = a :: r := by cases l with
          | nil => simp at h2
          | cons a r => exact ⟨a, r, rfl⟩
        walk_at "ex"
        have ra : a.rl A = true := (hfl.mem (by simp)).rl
        by_cases hs : ∃ s, a = .str s
        · obtain ⟨s, rfl⟩ := hs
          walk_at "ex"
          walk_at "st"
          have fr : ∀ e ∈ r, Fr T A k w e := fun e he => hfl.mem (List.mem_cons_of_mem _ he)
          have lr := hfl.len
          simp only [List.length_cons] at lr h2
          walk_at "st"
          by_cases hf : s = Str.ofString "fork"
          · subst hf
            walk_at "ex"
            walk_at "st"
            rw [len_lst at_end]
            walk_at "ex"
            by_cases h3 : r.length = 2
            · obtain ⟨x, y, rfl⟩ := Fd.two_of h3
              rw [if_pos (by simp)]
              rw [src_lst rfl at_end]
              walk_at "ex"
              rw [show (Src.lst A.length [x, y]).items = [x, y] from rfl]
              rw [lc_two (u := .bl (isPrF k x)) (w := .bl (isPrF k y)) (fun acc => by
                simp only [Src.still]
                exact decide_eq_true (.inl at_end2)) (fun acc => by
                  walk_at "ex"
                  rw [List.append_assoc]
                  exact hk k rfl T _ w x (fr_app (fr x (by simp))) hw hb) (fun acc => by
                  walk_at "ex"
                  rw [List.append_assoc]
                  exact hk k rfl T _ w y (fr_app (fr y (by simp))) hw hb)]
              walk_at "ex"
              rw [all_bl (bs := [isPrF k x, isPrF k y]) at_end rfl]
              walk_at "ex"
              rw [List.append_assoc, gc_pure rfl, ok_ok]
              simp only [isPrF, decide_true, Bool.true_and, List.all_cons, List.all_nil, Bool.and_true, id]
              exact ⟨trivial, trivial⟩
            · rw [if_neg (by simp; omega)]
              walk_at "ex"
              rw [gc_pure rfl, ok_ok]
              have e1 : decide ((r.length : Int) = 2) = false := decide_eq_false (by omega)
              rw [e1]
              refine ⟨congrArg D.bl ?_, rfl⟩
              symm
              match r, h3 with
              | [], _ => rfl
              | [x], _ =>
                simp only [isPrF, s_fl, s_fc, decide_false, Bool.false_and, Bool.or_self]
              | x :: y :: z :: r, _ => exact isPrF_many (by simp)
          · rw [if_neg (by simpa using hf)]
            walk_at "ex"
            walk_at "st"
            rw [len_lst at_end]
            walk_at "ex"
            by_cases h3 : r.length = 1
            · obtain ⟨x, rfl⟩ := List.length_eq_one_iff.mp h3
              rw [if_neg (by simp)]
              walk_at "ex"
              have fx := fr x (by simp)
              obtain ⟨sx, dx⟩ := fr_sm k w x (by omega) fx
              walk_at "st"
              rw [ixl0 at_end]
              walk_at "ex"
              by_cases hlf : s = Str.ofString "leaf"
              · subst hlf
                walk_at "ex"
                rw [ht x _ (rl_app x fx.rl) sx (by omega)]
                walk_at "ex"
                have e9 : isPrF (k + 1) (.tup [.str (Str.ofString "leaf"), x]) = isTh x := by
                  simp only [isPrF, s_lc, decide_true, decide_false, Bool.true_and, Bool.false_and, Bool.or_false]
                rw [e9]
                cases hx : isTh x with
                | true =>
                  walk_at "ex"
                  rw [gc_pure rfl, ok_ok]; exact ⟨rfl, rfl⟩
                | false =>
                  walk_at "ex"
                  rw [gc_pure rfl, ok_ok]; exact ⟨rfl, rfl⟩
              · rw [decide_eq_false hlf]
                walk_at "ex"
                by_cases hct : s = Str.ofString "cut"
                · subst hct
                  rw [decide_eq_true (rfl : Str.ofString "cut" = Str.ofString "cut")]
                  walk_at "ex"
                  rw [ixl0 at_end]
                  walk_at "ex"
                  rw [hl x _ (rl_app x fx.rl)]
                  walk_at "ex"
                  have e9 : isPrF (k + 1) (.tup [.str (Str.ofString "cut"), x]) = (isLab x && cutPos x) := by
                    simp only [isPrF, s_cl, decide_true, decide_false, Bool.true_and, Bool.false_and, Bool.false_or]
                  rw [e9]
                  cases hx : isLab x with
                  | true =>
                    obtain ⟨p, q, rfl, p1, q1⟩ := Fd.isLab_get hx
                    walk_at "ex"
                    rw [ixl0 at_end]
                    walk_at "ex"
                    rw [gc_pure rfl, ok_ok]; exact ⟨rfl, rfl⟩
                  | false =>
                    walk_at "ex"
                    rw [gc_pure rfl, ok_ok]; exact ⟨rfl, rfl⟩
                · rw [decide_eq_false hct]
                  walk_at "ex"
                  rw [gc_pure rfl, ok_ok]
                  have e9 : isPrF (k + 1) (.tup [.str s, x]) = false := by
                    simp only [isPrF, decide_eq_false hlf, decide_eq_false hct, Bool.false_and, Bool.or_self]
                  rw [e9]; exact ⟨rfl, rfl⟩
            · rw [if_pos (by simp; omega)]
              walk_at "st"
              rw [gc_pure rfl, ok_ok]
              refine ⟨congrArg D.bl ?_, rfl⟩
              symm
              match r, h3 with
              | [], _ => rfl
              | [x, y], _ =>
                simp only [isPrF, decide_eq_false hf, Bool.false_and]
              | x :: y :: z :: r, _ => exact isPrF_many (by simp)
        · have ns : ∀ s, a ≠ .str s := fun s e => hs ⟨s, e⟩
          have e9 := isPrF_nostr (n := k + 1) (r := r) ns
          rw [e9]
          cases a with
          | str s => exact absurd rfl (ns s)
          | ref j =>
            rw [isi_ref ra]
            walk_at "ex"
            walk_at "st"
            rw [gc_self, ok_ok]; exact ⟨rfl, rfl⟩
          | _ =>
            walk_at "ex"
            walk_at "st"
            rw [gc_self, ok_ok]; exact ⟨rfl, rfl⟩
  | ref j =>
    walk_at "st"
    rw [isi_ref hr]
    walk_at "ex"
    walk_at "st"
    rw [gc_self, ok_ok]
    have : isPrF k (.ref j) = false := by cases k <;> rfl
    rw [this]; exact ⟨rfl, rfl⟩
  | non => walk_at "st"; walk_at "st"; rw [gc_self, ok_ok]; cases k <;> exact ⟨rfl, rfl⟩
  | bl b => walk_at "st"; walk_at "st"; rw [gc_self, ok_ok]; cases k <;> exact ⟨rfl, rfl⟩
  | int b => walk_at "st"; walk_at "st"; rw [gc_self, ok_ok]; cases k <;> exact ⟨rfl, rfl⟩
  | str b => walk_at "st"; walk_at "st"; rw [gc_self, ok_ok]; cases k <;> exact ⟨rfl, rfl⟩
def G__law_is_cut (c__law_is_cut c__law_is_pair c__law_is_stuff : List D → Hpp → R D) : S :=
    (sSeq (sIf (mOr (mNot (mUn (opIsi .tuple) (mVar 0))) (mOr (mBin cmpLt (mB bLen (mCons (mVar 0) mNil)) (mC (.int 2))) (mNot (mUn (opIsi .str) (mBin opIx (mVar 0) (mC (.int 0))))))) (sSeq (sRet (mC (.bl false)))
    sNil) sNil)
    (sSeq (sIf (mBin cmpEq (mBin opIx (mVar 0) (mC (.int 0))) (mC (.str "leaf"))) (sSeq (sRet (mAnd (mBin cmpEq (mB bLen (mCons (mVar 0) mNil)) (mC (.int 2))) (mCallV c__law_is_stuff 1 0 [.pos 0] (mCons (mBin opIx (mVar 0) (mC (.int 1))) mNil) mNil)))
    sNil) sNil)
    (sSeq (sIf (mBin cmpEq (mBin opIx (mVar 0) (mC (.int 0))) (mC (.str "cut"))) (sSeq (sRet (mAnd (mBin cmpEq (mB bLen (mCons (mVar 0) mNil)) (mC (.int 2))) (mAnd (mCallV c__law_is_pair 1 0 [.pos 0] (mCons (mBin opIx (mVar 0) (mC (.int 1))) mNil) mNil) (mBin cmpGt (mBin opIx (mBin opIx (mVar 0) (mC (.int 1))) (mC (.int 1))) (mC (.int 0))))))
    sNil) sNil)
    (sSeq (sRet (mAnd (mBin cmpEq (mBin opIx (mVar 0) (mC (.int 0))) (mC (.str "fork"))) (mAnd (mBin cmpEq (mB bLen (mCons (mVar 0) mNil)) (mC (.int 3))) (mAnd (mCallV c__law_is_cut 1 0 [.pos 0] (mCons (mBin opIx (mVar 0) (mC (.int 1))) mNil) mNil) (mCallV c__law_is_cut 1 0 [.pos 0] (mCons (mBin opIx (mVar 0) (mC (.int 2))) mNil) mNil)))))
    sNil))))
theorem iscut_ok {c_cut c_pair c_stuff : CF} (hp : Fd.PlateS c_pair) {k : Nat} (hk50 : k ≤ 50) (ht : ∀ j, j + 1 = k → StuffS j c_stuff) (hk : ∀ j, j + 1 = k → PrLook j c_cut) : PrLook k (run 1 1 (G__law_is_cut c_cut c_pair c_stuff)) := by
  intro T A w d hd hw hb
  have hr := hd.rl
  apply ok_eq
  refine ok_run rfl ?_
  unfold G__law_is_cut
  cases d with
  | tup l =>
    cases k with
    | zero => exact hd.un0.elim
    | succ k =>
      have hfl := hd.un
      walk_at "st"
      by_cases h2 : l.length < 2
      · rw [if_pos (by simp; omega)]
        walk_at "ex"
        rw [if_pos (by simp; omega)]
        walk_at "st"
        rw [gc_self, ok_ok, isPrF_few h2]; exact ⟨rfl, rfl⟩
      · rw [if_neg (by simp; omega)]
        obtain ⟨a, x, r, rfl⟩ : ∃ a x r, l = a :: x :: r := by
          match l, h2 with
          | a :: x :: r, _ => exact ⟨a, x, r, rfl⟩
          | [], h => simp at h
          | [_], h => simp at h
        walk_at "ex"
        have ra : a.rl A = true := (hfl.mem (by simp)).rl
        have fx : Fr T A k w x := hfl.mem (by simp)
        by_cases hs : ∃ s, a = .str s
        · obtain ⟨s, rfl⟩ := hs
          walk_at "ex"
          walk_at "st"
          by_cases hlf : s = Str.ofString "leaf"
          · subst hlf
            rw [if_pos (by simp)]
            walk_at "st"
            by_cases h3 : r = []
            · subst h3
              walk_at "ex"
              rw [ht k rfl T A w x fx hw hb]
              walk_at "ex"
              rw [gc_self, ok_ok]
              simp only [isPrF, s_lc, decide_true, decide_false, Bool.true_and, Bool.false_and, Bool.or_false]
              exact ⟨trivial, trivial⟩
            · have l3 : ¬ ((r.length : Int) + 1 + 1 = 2) := by
                have : r.length ≠ 0 := fun z => h3 (List.eq_nil_of_length_eq_zero z)
                omega
              rw [if_neg (by simpa using l3)]
              walk_at "ex"
              rw [gc_self, ok_ok]
              refine ⟨congrArg D.bl ?_, rfl⟩
              rw [decide_eq_false (by simpa using l3)]
              symm
              match r, h3 with
              | [y], _ => simp only [isPrF, s_lf, decide_false, Bool.false_and]
              | y :: z :: r, _ => exact isPrF_many (by simp)
          · rw [if_neg (by simpa using hlf)]
            walk_at "ex"
            walk_at "st"
            by_cases hct : s = Str.ofString "cut"
            · subst hct
              rw [if_pos (by simp)]
              walk_at "st"
              by_cases h3 : r = []
              · subst h3
                walk_at "ex"
                rw [hp T A k w x fx (by omega) hb]
                walk_at "ex"
                have e9 : isPrF (k + 1) (.tup [.str (Str.ofString "cut"), x]) = (isLab x && cutPos x) := by
                  simp only [isPrF, s_cl, decide_true, decide_false, Bool.true_and, Bool.false_and, Bool.false_or]
                rw [e9]
                cases hx : isLab x with
                | true =>
                  obtain ⟨p, q, rfl, p1, q1⟩ := Fd.isLab_get hx
                  walk_at "ex"
                  rw [gc_self, ok_ok]; exact ⟨rfl, rfl⟩
                | false =>
                  walk_at "ex"
                  rw [gc_self, ok_ok]; exact ⟨rfl, rfl⟩
              · have l3 : ¬ ((r.length : Int) + 1 + 1 = 2) := by
                  have : r.length ≠ 0 := fun z => h3 (List.eq_nil_of_length_eq_zero z)
                  omega
                rw [if_neg (by simpa using l3)]
                walk_at "ex"
                rw [gc_self, ok_ok]
                refine ⟨congrArg D.bl ?_, rfl⟩
                rw [decide_eq_false (by simpa using l3)]
                symm
                match r, h3 with
                | [y], _ => simp only [isPrF, s_cf, decide_false, Bool.false_and]
                | y :: z :: r, _ => exact isPrF_many (by simp)
            · rw [if_neg (by simpa using hct)]
              walk_at "ex"
              walk_at "st"
              by_cases hf : s = Str.ofString "fork"
              · subst hf
                rw [if_pos (by simp)]
                by_cases h3 : r.length = 1
                · obtain ⟨y, rfl⟩ := List.length_eq_one_iff.mp h3
                  walk_at "ex"
                  rw [hk k rfl T A w x fx hw hb]
                  walk_at "ex"
                  have e9 : isPrF (k + 1) (.tup [.str (Str.ofString "fork"), x, y]) = (isPrF k x && isPrF k y) := by
                    simp only [isPrF, decide_true, Bool.true_and]
                  rw [e9]
                  cases hx : isPrF k x with
                  | true =>
                    walk_at "ex"
                    rw [hk k rfl T A w y (hfl.mem (by simp)) hw hb]
                    walk_at "ex"
                    rw [gc_self, ok_ok]; exact ⟨rfl, rfl⟩
                  | false =>
                    walk_at "ex"
                    rw [gc_self, ok_ok]; exact ⟨rfl, rfl⟩
                · have l3 : ¬ ((r.length : Int) + 1 + 1 = 3) := by omega
                  rw [if_neg (by simpa using l3)]
                  walk_at "ex"
                  rw [gc_self, ok_ok]
                  refine ⟨congrArg D.bl ?_, rfl⟩
                  rw [decide_eq_false (by simpa using l3)]
                  symm
                  match r, h3 with
                  | [], _ => simp only [isPrF, s_fl, s_fc, decide_false, Bool.false_and, Bool.or_self]
                  | y :: z :: r, _ => exact isPrF_many (by simp)
              · rw [if_neg (by simpa using hf)]
                walk_at "ex"
                rw [gc_self, ok_ok]
                refine ⟨congrArg D.bl ?_, rfl⟩
                rw [decide_eq_false hf]
                symm
                match r with
                | [] => simp only [isPrF, decide_eq_false hlf, decide_eq_false hct, Bool.false_and, Bool.or_self]
                | [y] => simp only [isPrF, decide_eq_false hf, Bool.false_and]
                | y :: z :: r => exact isPrF_many (by simp)
        · have ns : ∀ s, a ≠ .str s := fun s e => hs ⟨s, e⟩
          have e9 := isPrF_nostr (n := k + 1) (r := x :: r) ns
          rw [e9]
          cases a with
          | str s => exact absurd rfl (ns s)
          | ref j =>
            rw [isi_ref ra]
            walk_at "ex"
            walk_at "st"
            rw [gc_self, ok_ok]; exact ⟨rfl, rfl⟩
          | _ =>
            walk_at "ex"
            walk_at "st"
            rw [gc_self, ok_ok]; exact ⟨rfl, rfl⟩
  | ref j =>
    walk_at "st"
    rw [isi_ref hr]
    walk_at "ex"
    walk_at "st"
    rw [gc_self, ok_ok]
    have : isPrF k (.ref j) = false := by cases k <;> rfl
    rw [this]; exact ⟨rfl, rfl⟩
  | non => walk_at "st"; walk_at "st"; rw [gc_self, ok_ok]; cases k <;> exact ⟨rfl, rfl⟩
  | bl b => walk_at "st"; walk_at "st"; rw [gc_self, ok_ok]; cases k <;> exact ⟨rfl, rfl⟩
  | int b => walk_at "st"; walk_at "st"; rw [gc_self, ok_ok]; cases k <;> exact ⟨rfl, rfl⟩
  | str b => walk_at "st"; walk_at "st"; rw [gc_self, ok_ok]; cases k <;> exact ⟨rfl, rfl⟩
end Rf.Tq
namespace Rf
open PySem PySem.Spec L2
theorem FrL.cut {T : Fz} {A : Hpp} {n w : Nat} {l : List D} (h : FrL T A n w l) (lo hi : Option Int) : FrL T A n w (cutD l lo hi) := (h.drop _).take _
theorem cut_len {α : Type} (l : List α) (lo hi : Option Int) : (cutD l lo hi).length ≤ l.length := by
  unfold cutD
  rw [List.length_take, List.length_drop]; omega
theorem text_ascii (i : Int) : ((Str.ofString (toString i)).cps.toList.all fun c => decide (c < 128)) = true := by
  rw [List.all_eq_true]
  intro c hc
  refine decide_eq_true ?_
  by_cases h : c ≠ 45 ∧ (c < 48 ∨ 57 < c)
  · exact absurd hc (PyProof.Rows.int_text_free' c h i)
  · omega
theorem upper_fr {T : Fz} {A : Hpp} {n m w : Nat} {s : Str} (h : Fr T A n w (.str s)) : Fr T A m w (.str (Txt.upper s)) := by
  obtain ⟨a, b⟩ := h.wstr
  have hA : ∀ c ∈ s.cps.toList, c < 128 := fun c hc => of_decide_eq_true (List.all_eq_true.mp a c hc)
  rw [PyProof.Rows.upper_ascii hA]
  refine Fr.str ?_ ?_
  · rw [List.all_eq_true]
    intro c hc
    simp only [Array.toList_map, List.mem_map] at hc
    obtain ⟨e, he, rfl⟩ := hc
    have := hA e he
    refine decide_eq_true ?_
    unfold PyProof.Rows.up1
    split <;> omega
  · have : (⟨s.cps.map PyProof.Rows.up1⟩ : Str).length = s.length := by simp [Str.length]
    omega
theorem slice_fr {T : Fz} {A : Hpp} {n m w : Nat} {s : Str} (h : Fr T A n w (.str s)) (lo hi : Option Int) : Fr T A m w (.str (Txt.slice s lo hi)) := by
  obtain ⟨a, b⟩ := h.wstr
  rw [← C8.cutS_slice]
  refine Fr.str ?_ ?_
  · rw [List.all_eq_true] at a ⊢
    intro c hc
    simp only [cutS] at hc
    exact a c (List.mem_of_mem_drop (List.mem_of_mem_take hc))
  · have e : (cutS s lo hi).length ≤ s.length := by
      simp only [cutS, Str.length, List.size_toArray, List.length_take, List.length_drop, Array.length_toList]
      omega
    omega
theorem app_fr {T : Fz} {A : Hpp} {n m w : Nat} {s : Str} (h : Fr T A n w (.str s)) : Fr T A m (w + 1) (.str (s ++ Str.ofString "a")) := by
  obtain ⟨a, b⟩ := h.wstr
  refine Fr.str ?_ ?_
  · rw [Str.cps_append, Array.toList_append, List.all_append, a]
    decide +kernel
  · rw [Str.length_append]
    have : (Str.ofString "a").length = 1 := by decide +kernel
    omega
end Rf
namespace Rf.Tq
open PySem PySem.Spec L2
local macro_rules | `(tactic| walk_at "ex") => `(tactic| try simp (decide := true) only [x_ret, x_retN, x_asg, x_if, x_drop, x_nilS, x_for, x_var, x_c, x_un, x_bin, x_test, x_and, x_or, x_not, x_ifE, x_nil, x_cons, x_tup, x_lst, x_b, x_meth, x_oNone, x_oSome, x_slice, x_call, x_gVar, x_gSub, x_range1, x_lc, x_yes, x_rg1, wipeL,
  R.bind_ok, ok_bind, ok_ok, gather, optAll, List.map_cons, List.map_nil, List.getElem?_cons_zero, List.getElem?_cons_succ, List.set_cons_zero, List.set_cons_succ, Option.map_some, List.length_cons, List.length_nil,
  List.nil_append, List.cons_append, List.replicate, Nat.reduceAdd, Nat.reduceSub, and_self, if_true, if_false, true_and, and_true, Nat.reduceEqDiff, truth_bl, ofO_some, reduceCtorEq, decide_true, decide_false, Bool.false_eq_true, Bool.not_true, Bool.not_false, or_self, or_true, true_or, or_false, false_or,
  opAdd_int, opSub_int, cmpLt_int, cmpLe_int, cmpGt_int, cmpGe_int, cmpIs_non, cmpIsNot_non, isi_str, isi_non, isi_int, isi_tup, isi_bl, len_tup, ord_one, sizeLine_eq, Nat.reduceLeDiff, x_bk, x_aug, x_par, tl_nil, tl_cons, x_tlNil, x_tlCons, x_gTup, x_gTupT, x_gStar1, ixt0, ixt1, ixt2, cmpEq_str, cmpNe_str, cmpEq_int, cmpNe_int, s_ff, s_lf, s_cf, s_cl, s_lc, s_fc, s_fl, cmpIs_bl, cmpIsNot_bl])
local macro_rules | `(tactic| walk_at "st") => `(tactic| (refine x_seq.mpr ?_; walk_at "ex"))
def G__law_odd (c__law_take : List D → Hpp → R D) : S :=
    (sSeq (sAsg (mLst (mCons (mC .non) (mCons (mC (.bl true)) (mCons (mC (.bl false)) (mCons (mC (.int 0)) (mCons (mC (.int 1)) (mCons (mUn opNeg (mC (.int 1))) (mCons (mBin opPow (mC (.int 10)) (mC (.int 50))) (mCons (mC (.str "")) (mCons (mC (.str "a")) (mCons (mC (.str "A")) (mCons (mC (.str "abcdefghi")) (mCons (mTup mNil) (mCons (mLst mNil) (mCons (mTup (mCons (mC (.str "a")) mNil)) (mCons (mLst (mCons (mC (.str "a")) mNil)) (mCons (mTup (mCons (mC (.str "a")) (mCons (mC (.bl true)) mNil))) mNil))))))))))))))))) (gVar 1))
    (sSeq (sRet (mBin opIx (mVar 1) (mCallV c__law_take 2 0 [.pos 0, .pos 1] (mCons (mVar 0) (mCons (mC (.int 16)) mNil)) mNil)))
    sNil))
def OddS (f : CF) : Prop := ∀ (T : Fz) (B : Hpp) (t c k : Nat) (A : Hpp), TapAt B t c → Tp B t c k A → t ∈ T.t → (∀ x ∈ T.t, x < B.length) → 2 ^ 200 ≤ T.b → k + 1 < 1000000 →
  Ok (f [.ref t] A) fun d A' => ∃ X, TapAt (B ++ X) t c ∧ Tp (B ++ X) t c (k + 1) A' ∧ Fr T A' 1 300 d
theorem odd_ok {c_take : CF} (ht : TakeS c_take) : OddS (run 2 1 (G__law_odd c_take)) := by
  intro T B t c k A TB h htT hT hb hk
  refine ok_run rfl ?_
  unfold G__law_odd
  walk_at "st"
  rw [Fd.opNeg_int]
  walk_at "ex"
  rw [opPow_int (by decide : CPow 10 50)]
  walk_at "ex"
  have e50 : (10 : Int) ^ Int.toNat 50 = 10 ^ 50 := rfl
  rw [e50]
  generalize hla : [D.str (Str.ofString "a")] = la
  generalize hll : ([D.non, D.bl true, D.bl false, D.int 0, D.int 1, D.int (-1), D.int (10 ^ 50), D.str (Str.ofString ""), D.str (Str.ofString "a"), D.str (Str.ofString "A"), D.str (Str.ofString "abcdefghi"), D.tup [], D.ref (List.length A), D.tup la, D.ref (List.length (A ++ [HOb.lst []])), D.tup [D.str (Str.ofString "a"), D.bl true]] : List D) = ll
  have T1 := tapAt_fr TB (l := []) rfl
  have T2 := tapAt_fr T1 (l := la) (by subst hla; rfl)
  have eA : (A ++ [HOb.lst []]).length = B.length + 1 := by rw [← tp_len h]; simp
  have low : D.lowL (B ++ [HOb.lst []] ++ [HOb.lst la]).length ll = true := by
    subst hll
    rw [eA, tp_len h]
    have q1 : B.length < (B ++ [HOb.lst []] ++ [HOb.lst la]).length := by simp only [List.length_append, List.length_singleton]; omega
    have q2 : B.length + 1 < (B ++ [HOb.lst []] ++ [HOb.lst la]).length := by simp
    subst hla
    simp only [D.lowL, D.low, decide_eq_true q1, decide_eq_true q2]; rfl
  have T3 := tapAt_fr T2 low
  have k1 := (tp_app (X := [.lst []]) TB).mpr ⟨A, rfl, h⟩
  have k2 := (tp_app (X := [.lst la]) T1).mpr ⟨_, rfl, k1⟩
  have k3 := (tp_app (X := [.lst ll]) T2).mpr ⟨_, rfl, k2⟩
  have l16 : ll.length = 16 := by subst hll; rfl
  walk_at "st"
  refine Ok.mono (ht _ t c _ _ 16 T3 k3 (by omega) (by decide) (by decide)) ?_
  rintro _ A3 ⟨x, rfl, x1, x2, h3⟩
  obtain ⟨d, hdm, he, _⟩ := atI_get (l := ll) x1 (by rw [l16]; exact x2)
  obtain ⟨A4, rfl, h4⟩ := (tp_app T2).mp h3
  obtain ⟨A5, rfl, h5⟩ := (tp_app T1).mp h4
  obtain ⟨A6, rfl, h6⟩ := (tp_app TB).mp h5
  have le6 : A6.length = A.length := by rw [tp_len h6, tp_len h]
  rw [ixl (l := ll) (by rw [show (A ++ [HOb.lst []] ++ [HOb.lst la]).length = (A6 ++ [HOb.lst []] ++ [HOb.lst la]).length by simp [le6]]; exact at_end) he]
  walk_at "ex"
  have fd : Fr T (A6 ++ [HOb.lst []] ++ [HOb.lst la] ++ [HOb.lst ll]) 1 300 d := by
    have cst : ∀ d : D, frB (2 ^ 200) 1 300 d = true → Fr T (A6 ++ [HOb.lst []] ++ [HOb.lst la] ++ [HOb.lst ll]) 1 300 d := fun d h => Fr.cst h hb
    have f1 : Fr T (A6 ++ [HOb.lst []] ++ [HOb.lst la] ++ [HOb.lst ll]) 1 300 (.ref A.length) := by
      refine Fr.ref (l := []) (fun z => ?_) (by rw [← le6, List.append_assoc, List.append_assoc]; exact get_mid) (FrL.nil.mono (Nat.le_refl _) (by decide))
      have := hT _ z
      rw [tp_len h] at this
      omega
    have f2 : Fr T (A6 ++ [HOb.lst []] ++ [HOb.lst la] ++ [HOb.lst ll]) 1 300 (.ref (A ++ [HOb.lst []]).length) := by
      refine Fr.ref (l := la) (fun z => ?_) (by rw [show (A ++ [HOb.lst []]).length = (A6 ++ [HOb.lst []]).length by simp [le6], List.append_assoc]; exact get_mid) ?_
      · have := hT _ z
        rw [eA] at this
        omega
      · subst hla
        exact (FrL.cons (Fr.cst (b := 2 ^ 200) (n := 0) (w := 10) (by decide +kernel) hb) FrL.nil).mono (Nat.le_refl _) (by decide)
    subst hll
    simp only [List.mem_cons, List.not_mem_nil, or_false] at hdm
    rcases hdm with rfl | rfl | rfl | rfl | rfl | rfl | rfl | rfl | rfl | rfl | rfl | rfl | rfl | rfl | rfl | rfl
    · exact cst _ (by decide +kernel)
    · exact cst _ (by decide +kernel)
    · exact cst _ (by decide +kernel)
    · exact cst _ (by decide +kernel)
    · exact cst _ (by decide +kernel)
    · exact cst _ (by decide +kernel)
    · exact cst _ (by decide +kernel)
    · exact cst _ (by decide +kernel)
    · exact cst _ (by decide +kernel)
    · exact cst _ (by decide +kernel)
    · exact cst _ (by decide +kernel)
    · exact cst _ (by decide +kernel)
    · exact f1
    · subst hla; exact cst _ (by decide +kernel)
    · exact f2
    · exact cst _ (by decide +kernel)
  rw [List.append_assoc B, List.append_assoc B] at T3 h3
  exact gc_fr TB h T3 h3 hT fd
def up1b (T : Fz) : Fz := ⟨T.t, T.b + 1⟩
theorem Fr.up {T : Fz} {A : Hpp} {n m w v : Nat} {d : D} (hm : n ≤ m) (hw : w ≤ v) (h : Fr T A n w d) : Fr (up1b T) A m v d := Fr.to (T := T) (T' := up1b T) (by simp [up1b]) (fun _ _ _ a b => ⟨a, b⟩) hm hw h
theorem FrL.up {T : Fz} {A : Hpp} {n m w v : Nat} {l : List D} (hm : n ≤ m) (hw : w ≤ v) (h : FrL T A n w l) : FrL (up1b T) A m v l := FrL.to (T := T) (T' := up1b T) (by simp [up1b]) (fun _ _ _ a b => ⟨a, b⟩) hm hw h
def BendP (T : Fz) (B : Hpp) (t c k n w : Nat) (d : D) (A' : Hpp) : Prop := ∃ X, TapAt (B ++ X) t c ∧ Tp (B ++ X) t c k A' ∧ Fr (up1b T) A' (n + 2) (max (2 * w) (w + 301)) d
theorem BendP.mono {T : Fz} {B : Hpp} {t c k k' n w : Nat} {d : D} {A' : Hpp} (hk : k ≤ k') (h : BendP T B t c k n w d A') : BendP T B t c k' n w d A' := by
  obtain ⟨X, a, b, e⟩ := h
  exact ⟨X, a, b.mono hk, e⟩
theorem eq_bl0 {b : Bool} {A : Hpp} : cmpEq (.bl b) (.int 0) A = .ok (.bl (!b)) A := by cases b <;> rfl
theorem add_bl {b : Bool} {i : Int} {A : Hpp} : opAdd (.bl b) (.int i) A = .ok (.int ((if b = true then 1 else 0) + i)) A := rfl
theorem int_int {i : Int} {A : Hpp} : bInt [.int i] A = .ok (.int i) A := rfl
theorem int_bl {b : Bool} {A : Hpp} : bInt [.bl b] A = .ok (.int (if b = true then 1 else 0)) A := rfl
theorem str_int {i : Int} {A : Hpp} (h : i.natAbs.log2 < 1920) : bStr [.int i] A = .ok (.str (toString i)) A := if_pos h
theorem str_bl {b : Bool} {A : Hpp} : bStr [.bl b] A = .ok (.str (if b = true then Str.ofString "True" else Str.ofString "False")) A := by cases b <;> rfl
theorem sl_str {s : Str} {lo hi : Option Int} {A : Hpp} (h : s.length ≤ sizeLine) : opSl (.str s) lo hi A = .ok (.str (Txt.slice s lo hi)) A := if_pos h
theorem up_str {s : Str} {A : Hpp} (h : s.length ≤ 5592405) : opUpper (.str s) A = .ok (.str (Txt.upper s)) A := if_pos h
/-- one of a list of things made here -/
theorem pick {T : Fz} {B A A1 : Hpp} {t c k0 k n w : Nat} {ll : List D} {v : Int} {d : D} (TB : TapAt B t c) (h0 : Tp B t c k0 A) (h : Tp B t c k A1) (hT : ∀ x ∈ T.t, x < B.length) (hl : ∀ e ∈ ll, Fr T A1 n w e) (hd : d ∈ ll) :
    Ok (gcR A d (A1 ++ [.lst ll])) fun d' A'' => ∃ X', TapAt (B ++ X') t c ∧ Tp (B ++ X') t c k A'' ∧ Fr T A'' n w d' := by
  have low : D.lowL B.length ll = true := by
    rw [← tp_len h]
    have : ∀ l : List D, (∀ e ∈ l, Fr T A1 n w e) → D.lowL A1.length l = true := by
      intro l
      induction l with
      | nil => intro _; rfl
      | cons e l ih => intro q; simp only [D.lowL, (q e (List.mem_cons_self ..)).low, ih fun x hx => q x (List.mem_cons_of_mem _ hx)]; rfl
    exact this ll hl
  exact gc_fr TB h0 (tapAt_fr TB low) ((tp_app TB).mpr ⟨A1, rfl, h⟩) hT (fr_app (hl d hd))
theorem bend_tail {c_odd c_take : CF} (ho : OddS c_odd) (ht : TakeS c_take) {T : Fz} {B : Hpp} {t c k0 k n w : Nat} {A A1 : Hpp} {item dp : D} (TB : TapAt B t c) (h0 : Tp B t c k0 A) (h : Tp B t c k A1) (htT : t ∈ T.t) (hT : ∀ x ∈ T.t, x < B.length) (hd : Fr T A1 n w item) (hw : w ≤ 1700000) (hb : 2 ^ 200 ≤ T.b) (hb2 : T.b ≤ 2 ^ 399) (hk : k + 3 < 1000000) :
    Ok ((sSeq (sAsg (mCallV c_take 2 0 [.pos 0, .pos 1] (mCons (mVar 0) (mCons (mC (.int 7)) mNil)) mNil) (gVar 4))
    (sSeq (sIf (mUn (opIsi .tuple) (mVar 1)) (sSeq (sAsg (mCallV c_take 2 0 [.pos 0, .pos 1] (mCons (mVar 0) (mCons (mBin opAdd (mB bLen (mCons (mVar 1) mNil)) (mC (.int 1))) mNil)) mNil) (gVar 3))
    (sSeq (sIf (mBin cmpEq (mVar 4) (mC (.int 3))) (sSeq (sRet (mBin opAdd (mBin opAdd (mSlice (mVar 1) oNone (oSome (mVar 3))) (mTup (mCons (mCallV c_odd 1 0 [.pos 0] (mCons (mVar 0) mNil) mNil) mNil))) (mSlice (mVar 1) (oSome (mVar 3)) oNone)))
    sNil) sNil)
    (sSeq (sIf (mBin cmpLt (mVar 4) (mC (.int 5))) (sSeq (sRet (mBin opIx (mLst (mCons (mB bList (mCons (mVar 1) mNil)) (mCons (mBin opAdd (mSlice (mVar 1) oNone (oSome (mVar 3))) (mSlice (mVar 1) (oSome (mBin opAdd (mVar 3) (mC (.int 1)))) oNone)) (mCons (mBin opAdd (mBin opAdd (mSlice (mVar 1) oNone (oSome (mVar 3))) (mSlice (mVar 1) (oSome (mVar 3)) (oSome (mBin opAdd (mVar 3) (mC (.int 1)))))) (mSlice (mVar 1) (oSome (mVar 3)) oNone)) (mCons (mTup mNil) (mCons (mUn opRev (mVar 1)) mNil)))))) (mVar 4)))
    sNil) sNil)
    (sSeq (sRet (mCallV c_odd 1 0 [.pos 0] (mCons (mVar 0) mNil) mNil))
    sNil)))) sNil)
    (sSeq (sIf (mAnd (mUn (opIsi .int) (mVar 1)) (mBin cmpLt (mVar 4) (mC (.int 4)))) (sSeq (sRet (mBin opIx (mLst (mCons (mBin opAdd (mVar 1) (mC (.int 1))) (mCons (mBin cmpEq (mVar 1) (mC (.int 0))) (mCons (mB bInt (mCons (mVar 1) mNil)) (mCons (mB bStr (mCons (mVar 1) mNil)) mNil))))) (mVar 4)))
    sNil) sNil)
    (sSeq (sIf (mAnd (mUn (opIsi .str) (mVar 1)) (mBin cmpLt (mVar 4) (mC (.int 3)))) (sSeq (sRet (mBin opIx (mLst (mCons (mBin opAdd (mVar 1) (mC (.str "a"))) (mCons (mSlice (mVar 1) (oSome (mC (.int 1))) oNone) (mCons (mUn opUpper (mVar 1)) mNil)))) (mVar 4)))
    sNil) sNil)
    (sSeq (sRet (mCallV c_odd 1 0 [.pos 0] (mCons (mVar 0) mNil) mNil))
    sNil))))) [some (.ref t), some item, some dp, none, none] A1) fun o A' => match o with
      | .nx _ => Ok (gcR A .non A') (BendP T B t c (k + 3) n w)
      | .rt d => Ok (gcR A d A') (BendP T B t c (k + 3) n w)
      | _ => False := by
  have hb1 : 2 ^ 200 ≤ (up1b T).b := by show 2 ^ 200 ≤ T.b + 1; omega
  walk_at "st"
  refine Ok.mono (ht _ t c _ _ 7 TB h (by omega) (by decide) (by decide)) ?_
  rintro _ A2 ⟨v, rfl, v1, v2, h2⟩
  have hd2 : Fr T A2 n w item := fr_tp (X := []) TB htT h (by rw [List.append_nil]; exact h2) hd
  walk_at "ex"
  have oddend : ∀ (k1 : Nat) (A3 : Hpp), Tp B t c k1 A3 → k1 + 1 ≤ k + 3 → Ok (c_odd [.ref t] A3) fun d A' => Ok (gcR A d A') (BendP T B t c (k + 3) n w) := by
    intro k1 A3 h3 hk1
    refine Ok.mono (ho (up1b T) B t c k1 A3 TB h3 htT hT hb1 (by omega)) ?_
    rintro d A4 ⟨X, TX, hX, f⟩
    exact gc_fr (T := up1b T) TB h0 TX (hX.mono hk1) hT (f.mono (by omega) (by omega))
  cases item with
  | tup l =>
    cases n with
    | zero => exact hd.un0.elim
    | succ n =>
      have hl2 := hd2.un
      have len := hl2.len
      walk_at "st"
      walk_at "st"
      refine Ok.mono (ht _ t c _ _ ((l.length : Int) + 1) TB h2 (by omega) (by omega) (by omega)) ?_
      rintro _ A3 ⟨s, rfl, s1, s2, h3⟩
      have hl3 : FrL T A3 n w l := frl_tp (X := []) TB htT h2 (by rw [List.append_nil]; exact h3) hl2
      walk_at "ex"
      walk_at "st"
      by_cases w3 : v = 3
      · rw [if_pos (by simpa using w3)]
        walk_at "st"
        rw [Fd.sl_tup]
        walk_at "ex"
        refine Ok.mono (ho (up1b T) B t c _ A3 TB h3 htT hT hb1 (by omega)) ?_
        rintro d A4 ⟨X, TX, hX, f⟩
        have hl4 : FrL T A4 n w l := frl_tp TB htT h3 hX hl3
        have c1 := cut_len l none (some s)
        have c2 := cut_len l (some s) none
        walk_at "ex"
        rw [add_tup (by rw [sizeLine_eq, List.length_singleton]; omega)]
        walk_at "ex"
        rw [Fd.sl_tup]
        walk_at "ex"
        rw [add_tup (by rw [sizeLine_eq, List.length_append, List.length_singleton]; omega)]
        walk_at "ex"
        refine gc_fr (T := up1b T) TB h0 TX (hX.mono (by omega)) hT ?_
        obtain ⟨wa, wb, fa, fb, wab⟩ := hl4.parts s.toNat
        rw [cut_lo l (by omega) (by omega), cut_hi l (by omega) (by omega)]
        refine (Fr.tup ((((FrL.up (m := n + 1) (by omega) (Nat.le_refl _) fa).append (FrL.cons (f.mono (m := n + 1) (by omega) (Nat.le_refl _)) FrL.nil)).append (FrL.up (m := n + 1) (by omega) (Nat.le_refl _) fb)))).mono (by omega) (by omega)
      · rw [if_neg (by simpa using w3)]
        walk_at "ex"
        walk_at "st"
        by_cases w5 : v < 5
        · rw [if_pos (by simpa using w5)]
          walk_at "st"
          rw [Fd.list_tup]
          walk_at "ex"
          rw [Fd.sl_tup]
          walk_at "ex"
          rw [Fd.sl_tup]
          walk_at "ex"
          have c1 := cut_len l none (some s)
          have c2 := cut_len l (some (s + 1)) none
          have c3 := cut_len l (some s) (some (s + 1))
          have c4 := cut_len l (some s) none
          rw [add_tup (by rw [sizeLine_eq]; omega)]
          walk_at "ex"
          rw [Fd.sl_tup]
          walk_at "ex"
          rw [Fd.sl_tup]
          walk_at "ex"
          rw [add_tup (by rw [sizeLine_eq]; omega)]
          walk_at "ex"
          rw [Fd.sl_tup]
          walk_at "ex"
          rw [add_tup (by rw [sizeLine_eq, List.length_append]; omega)]
          walk_at "ex"
          rw [Fd.rev_tup]
          walk_at "ex"
          obtain ⟨wa, wb, fa, fb, wab⟩ := hl3.parts s.toNat
          rw [← cut_lo l (by omega) (by omega)] at fa
          rw [← cut_hi l (by omega) (by omega)] at fb
          have g1 : FrL T A3 n (2 * w) (cutD l none (some s) ++ cutD l (some (s + 1)) none) := ((hl3.cut _ _).append (hl3.cut _ _)).mono (Nat.le_refl _) (by omega)
          have g2 : FrL T A3 n (2 * w) (cutD l none (some s) ++ cutD l (some s) (some (s + 1)) ++ cutD l (some s) none) := ((fa.append (hl3.cut (some s) (some (s + 1)))).append fb).mono (Nat.le_refl _) (by omega)
          generalize cutD l none (some s) ++ cutD l (some (s + 1)) none = t1 at g1
          generalize cutD l none (some s) ++ cutD l (some s) (some (s + 1)) ++ cutD l (some s) none = t2 at g2
          have T1 := tapAt_fr TB (l := l) (by rw [← tp_len h3]; exact hl3.low)
          have k4 := (tp_app (X := [.lst l]) TB).mpr ⟨A3, rfl, h3⟩
          generalize hll : [D.ref A3.length, D.tup t1, D.tup t2, D.tup [], D.tup l.reverse] = ll
          have l5 : ll.length = 5 := by subst hll; rfl
          have fl : ∀ e ∈ ll, Fr (up1b T) (A3 ++ [HOb.lst l]) (n + 1 + 2) (max (2 * w) (w + 301)) e := by
            subst hll
            intro e he
            simp only [List.mem_cons, List.not_mem_nil, or_false] at he
            rcases he with rfl | rfl | rfl | rfl | rfl
            · refine Fr.up (by omega) (by omega) (Fr.ref (T := T) (fun z => ?_) at_end (frl_app hl3))
              have := hT _ z
              rw [tp_len h3] at this
              omega
            · exact Fr.up (by omega) (by omega) (Fr.tup (frl_app g1))
            · exact Fr.up (by omega) (by omega) (Fr.tup (frl_app g2))
            · exact (Fr.tup (n := 0) FrL.nil).mono (by omega) (by omega)
            · exact Fr.up (by omega) (by omega) (Fr.tup (frl_app hl3).rev)
          obtain ⟨d, hdm, he, _⟩ := atI_get (l := ll) v1 (by rw [l5]; exact w5)
          rw [ixl at_end he]
          walk_at "ex"
          have low : D.lowL (B ++ [HOb.lst l]).length ll = true := by
            rw [← tp_len k4]
            have : ∀ l' : List D, (∀ e ∈ l', Fr (up1b T) (A3 ++ [HOb.lst l]) (n + 1 + 2) (max (2 * w) (w + 301)) e) → D.lowL (A3 ++ [HOb.lst l]).length l' = true := by
              intro l'
              induction l' with
              | nil => intro _; rfl
              | cons e l' ih => intro q; simp only [D.lowL, (q e (List.mem_cons_self ..)).low, ih fun x hx => q x (List.mem_cons_of_mem _ hx)]; rfl
            exact this ll fl
          have T2 := tapAt_fr T1 low
          have k5 := (tp_app (X := [.lst ll]) T1).mpr ⟨_, rfl, k4⟩
          rw [List.append_assoc B] at T2 k5
          exact gc_fr (T := up1b T) TB h0 T2 (k5.mono (by omega)) hT (fr_app (fl d hdm))
        · rw [if_neg (by simpa using w5)]
          walk_at "ex"
          walk_at "st"
          exact oddend _ A3 h3 (by omega)
  | int i =>
    have hi := hd2.wint
    have hi2 : i.natAbs < 2 ^ 399 := Nat.lt_of_lt_of_le hi hb2
    walk_at "st"
    walk_at "st"
    by_cases w4 : v < 4
    · rw [if_pos (by simpa using w4)]
      walk_at "st"
      rw [int_int]
      walk_at "ex"
      have lg : i.natAbs.log2 < 1920 := by
        rcases Nat.eq_zero_or_pos i.natAbs with z | z
        · rw [z]; decide
        · have := (Nat.log2_lt (by omega)).mpr hi2
          omega
      rw [str_int lg]
      walk_at "ex"
      obtain ⟨d, hdm, he, _⟩ := atI_get (l := [D.int (i + 1), D.bl (decide (i = 0)), D.int i, D.str (Str.ofString (toString i))]) v1 (by simpa using w4)
      rw [ixl at_end he]
      walk_at "ex"
      refine Ok.mono (pick (T := up1b T) (v := v) TB h0 h2 hT (n := n + 2) (w := max (2 * w) (w + 301)) (fun e he => ?_) hdm) ?_
      · simp only [List.mem_cons, List.not_mem_nil, or_false] at he
        rcases he with rfl | rfl | rfl | rfl
        · refine Fr.int (by show (i + 1).natAbs < T.b + 1; omega) ?_
          have a1 : 2 ^ (w + 1) ≤ 2 ^ (max (2 * w) (w + 301)) := Nat.pow_le_pow_right (by decide) (by omega)
          have a2 : (2 : Nat) ^ (w + 1) = 2 ^ w * 2 := Nat.pow_succ 2 w
          have : (i + 1).natAbs ≤ i.natAbs + 1 := by omega
          have hlg := hd2.wlog
          have : 0 < 2 ^ w := Nat.pow_pos (by decide)
          omega
        · exact Fr.bl
        · exact Fr.up (by omega) (by omega) hd2
        · refine Fr.str (text_ascii i) ?_
          have e := int_text_length_le10 (a := i) (k := 121) (by decide) (Nat.lt_trans hi2 (Nat.lt_trans (Nat.pow_lt_pow_right (by decide) (by decide)) pow_big))
          rw [ofString_length]
          omega
      · rintro d' A' ⟨X, a, b, f⟩
        exact ⟨X, a, b.mono (by omega), f⟩
    · rw [if_neg (by simpa using w4)]
      walk_at "ex"
      walk_at "st"
      walk_at "st"
      exact oddend _ A2 h2 (by omega)
  | bl x =>
    walk_at "st"
    walk_at "st"
    by_cases w4 : v < 4
    · rw [if_pos (by simpa using w4)]
      walk_at "st"
      rw [add_bl]
      walk_at "ex"
      rw [eq_bl0]
      walk_at "ex"
      rw [int_bl]
      walk_at "ex"
      rw [str_bl]
      walk_at "ex"
      obtain ⟨d, hdm, he, _⟩ := atI_get (l := [D.int ((if x = true then 1 else 0) + 1), D.bl (!x), D.int (if x = true then 1 else 0), D.str (if x = true then Str.ofString "True" else Str.ofString "False")]) v1 (by simpa using w4)
      have he' := he
      rw [ixl (l := [D.int ((if x = true then 1 else 0) + 1), D.bl (!x), D.int (if x = true then 1 else 0), D.str (if x = true then Str.ofString "True" else Str.ofString "False")]) (by cases x <;> exact at_end) he]
      walk_at "ex"
      refine Ok.mono (pick (T := up1b T) (v := v) (ll := [D.int ((if x = true then 1 else 0) + 1), D.bl (!x), D.int (if x = true then 1 else 0), D.str (if x = true then Str.ofString "True" else Str.ofString "False")]) TB h0 h2 hT (n := n + 2) (w := max (2 * w) (w + 301)) (fun e he => ?_) hdm) ?_
      · have cst : ∀ d : D, frB (2 ^ 200) 1 300 d = true → Fr (up1b T) A2 (n + 2) (max (2 * w) (w + 301)) d := fun d h => (Fr.cst h hb1).mono (by omega) (by omega)
        simp only [List.mem_cons, List.not_mem_nil, or_false] at he
        rcases he with rfl | rfl | rfl | rfl <;> cases x <;> exact cst _ (by decide +kernel)
      · rintro d' A' ⟨X, a, b, f⟩
        exact ⟨X, a, b.mono (by omega), f⟩
    · rw [if_neg (by simpa using w4)]
      walk_at "ex"
      walk_at "st"
      walk_at "st"
      exact oddend _ A2 h2 (by omega)
  | str s =>
    obtain ⟨_, ls⟩ := hd2.wstr
    walk_at "st"
    walk_at "st"
    walk_at "st"
    by_cases w3 : v < 3
    · rw [if_pos (by simpa using w3)]
      walk_at "st"
      have la : (Str.ofString "a").length = 1 := by decide +kernel
      rw [add_str (by rw [sizeLine_eq, la]; omega)]
      walk_at "ex"
      rw [sl_str (by rw [sizeLine_eq]; omega)]
      walk_at "ex"
      rw [up_str (by omega)]
      walk_at "ex"
      obtain ⟨d, hdm, he, _⟩ := atI_get (l := [D.str (s ++ Str.ofString "a"), D.str (Txt.slice s (some 1) none), D.str (Txt.upper s)]) v1 (by simpa using w3)
      rw [ixl at_end he]
      walk_at "ex"
      refine Ok.mono (pick (T := up1b T) (v := v) TB h0 h2 hT (n := n + 2) (w := max (2 * w) (w + 301)) (fun e he => ?_) hdm) ?_
      · simp only [List.mem_cons, List.not_mem_nil, or_false] at he
        rcases he with rfl | rfl | rfl
        · exact Fr.up (Nat.le_refl _) (by omega) (app_fr (m := n + 2) hd2)
        · exact Fr.up (Nat.le_refl _) (by omega) (slice_fr (m := n + 2) hd2 (some 1) none)
        · exact Fr.up (Nat.le_refl _) (by omega) (upper_fr (m := n + 2) hd2)
      · rintro d' A' ⟨X, a, b, f⟩
        exact ⟨X, a, b.mono (by omega), f⟩
    · rw [if_neg (by simpa using w3)]
      walk_at "ex"
      walk_at "st"
      exact oddend _ A2 h2 (by omega)
  | non =>
    walk_at "st"
    walk_at "st"
    walk_at "st"
    walk_at "st"
    exact oddend _ A2 h2 (by omega)
  | ref j =>
    walk_at "st"
    rw [isi_ref hd2.rl]
    walk_at "ex"
    walk_at "st"
    rw [isi_ref hd2.rl]
    walk_at "ex"
    walk_at "st"
    rw [isi_ref hd2.rl]
    walk_at "ex"
    walk_at "st"
    exact oddend _ A2 h2 (by omega)
def G__law_bend (c__law_odd c__law_take c__law_bend : List D → Hpp → R D) : S :=
    (sSeq (sIf (mAnd (mUn (opIsi .tuple) (mVar 1)) (mAnd (mBin cmpNe (mVar 1) (mTup mNil)) (mAnd (mBin cmpGt (mVar 2) (mC (.int 0))) (mBin cmpGt (mCallV c__law_take 2 0 [.pos 0, .pos 1] (mCons (mVar 0) (mCons (mC (.int 3)) mNil)) mNil) (mC (.int 0)))))) (sSeq (sAsg (mCallV c__law_take 2 0 [.pos 0, .pos 1] (mCons (mVar 0) (mCons (mB bLen (mCons (mVar 1) mNil)) mNil)) mNil) (gVar 3))
    (sSeq (sRet (mBin opAdd (mBin opAdd (mSlice (mVar 1) oNone (oSome (mVar 3))) (mTup (mCons (mCallV c__law_bend 3 0 [.pos 0, .pos 1, .pos 2] (mCons (mVar 0) (mCons (mBin opIx (mVar 1) (mVar 3)) (mCons (mBin opSub (mVar 2) (mC (.int 1))) mNil))) mNil) mNil))) (mSlice (mVar 1) (oSome (mBin opAdd (mVar 3) (mC (.int 1)))) oNone)))
    sNil)) sNil)
    (sSeq (sAsg (mCallV c__law_take 2 0 [.pos 0, .pos 1] (mCons (mVar 0) (mCons (mC (.int 7)) mNil)) mNil) (gVar 4))
    (sSeq (sIf (mUn (opIsi .tuple) (mVar 1)) (sSeq (sAsg (mCallV c__law_take 2 0 [.pos 0, .pos 1] (mCons (mVar 0) (mCons (mBin opAdd (mB bLen (mCons (mVar 1) mNil)) (mC (.int 1))) mNil)) mNil) (gVar 3))
    (sSeq (sIf (mBin cmpEq (mVar 4) (mC (.int 3))) (sSeq (sRet (mBin opAdd (mBin opAdd (mSlice (mVar 1) oNone (oSome (mVar 3))) (mTup (mCons (mCallV c__law_odd 1 0 [.pos 0] (mCons (mVar 0) mNil) mNil) mNil))) (mSlice (mVar 1) (oSome (mVar 3)) oNone)))
    sNil) sNil)
    (sSeq (sIf (mBin cmpLt (mVar 4) (mC (.int 5))) (sSeq (sRet (mBin opIx (mLst (mCons (mB bList (mCons (mVar 1) mNil)) (mCons (mBin opAdd (mSlice (mVar 1) oNone (oSome (mVar 3))) (mSlice (mVar 1) (oSome (mBin opAdd (mVar 3) (mC (.int 1)))) oNone)) (mCons (mBin opAdd (mBin opAdd (mSlice (mVar 1) oNone (oSome (mVar 3))) (mSlice (mVar 1) (oSome (mVar 3)) (oSome (mBin opAdd (mVar 3) (mC (.int 1)))))) (mSlice (mVar 1) (oSome (mVar 3)) oNone)) (mCons (mTup mNil) (mCons (mUn opRev (mVar 1)) mNil)))))) (mVar 4)))
    sNil) sNil)
    (sSeq (sRet (mCallV c__law_odd 1 0 [.pos 0] (mCons (mVar 0) mNil) mNil))
    sNil)))) sNil)
    (sSeq (sIf (mAnd (mUn (opIsi .int) (mVar 1)) (mBin cmpLt (mVar 4) (mC (.int 4)))) (sSeq (sRet (mBin opIx (mLst (mCons (mBin opAdd (mVar 1) (mC (.int 1))) (mCons (mBin cmpEq (mVar 1) (mC (.int 0))) (mCons (mB bInt (mCons (mVar 1) mNil)) (mCons (mB bStr (mCons (mVar 1) mNil)) mNil))))) (mVar 4)))
    sNil) sNil)
    (sSeq (sIf (mAnd (mUn (opIsi .str) (mVar 1)) (mBin cmpLt (mVar 4) (mC (.int 3)))) (sSeq (sRet (mBin opIx (mLst (mCons (mBin opAdd (mVar 1) (mC (.str "a"))) (mCons (mSlice (mVar 1) (oSome (mC (.int 1))) oNone) (mCons (mUn opUpper (mVar 1)) mNil)))) (mVar 4)))
    sNil) sNil)
    (sSeq (sRet (mCallV c__law_odd 1 0 [.pos 0] (mCons (mVar 0) mNil) mNil))
    sNil))))))
def BendS (j : Nat) (f : CF) : Prop := ∀ (T : Fz) (B : Hpp) (t c k : Nat) (A : Hpp) (item : D) (n w : Nat), TapAt B t c → Tp B t c k A → t ∈ T.t → (∀ x ∈ T.t, x < B.length) → Fr T A n w item → n ≤ 40 → w ≤ 1700000 → 2 ^ 200 ≤ T.b → T.b ≤ 2 ^ 399 → k + 5 * (j + 1) < 1000000 →
  Ok (f [.ref t, item, .int j] A) (BendP T B t c (k + 5 * (j + 1)) n w)
theorem bend_ok {c_odd c_take c_bend : CF} (ho : OddS c_odd) (ht : TakeS c_take) : ∀ j : Nat, (∀ i, i < j → BendS i c_bend) → BendS j (run 5 3 (G__law_bend c_odd c_take c_bend)) := by
  intro j ih T B t c k A item n w TB h htT hT hd hn40 hw hb hb2 hk
  refine ok_run rfl ?_
  unfold G__law_bend
  have tl : ∀ (k1 : Nat) (A1 : Hpp), Tp B t c k1 A1 → k1 ≤ k + 1 → Fr T A1 n w item → Ok ((sSeq (sAsg (mCallV c_take 2 0 [.pos 0, .pos 1] (mCons (mVar 0) (mCons (mC (.int 7)) mNil)) mNil) (gVar 4))
    (sSeq (sIf (mUn (opIsi .tuple) (mVar 1)) (sSeq (sAsg (mCallV c_take 2 0 [.pos 0, .pos 1] (mCons (mVar 0) (mCons (mBin opAdd (mB bLen (mCons (mVar 1) mNil)) (mC (.int 1))) mNil)) mNil) (gVar 3))
    (sSeq (sIf (mBin cmpEq (mVar 4) (mC (.int 3))) (sSeq (sRet (mBin opAdd (mBin opAdd (mSlice (mVar 1) oNone (oSome (mVar 3))) (mTup (mCons (mCallV c_odd 1 0 [.pos 0] (mCons (mVar 0) mNil) mNil) mNil))) (mSlice (mVar 1) (oSome (mVar 3)) oNone)))
    sNil) sNil)
    (sSeq (sIf (mBin cmpLt (mVar 4) (mC (.int 5))) (sSeq (sRet (mBin opIx (mLst (mCons (mB bList (mCons (mVar 1) mNil)) (mCons (mBin opAdd (mSlice (mVar 1) oNone (oSome (mVar 3))) (mSlice (mVar 1) (oSome (mBin opAdd (mVar 3) (mC (.int 1)))) oNone)) (mCons (mBin opAdd (mBin opAdd (mSlice (mVar 1) oNone (oSome (mVar 3))) (mSlice (mVar 1) (oSome (mVar 3)) (oSome (mBin opAdd (mVar 3) (mC (.int 1)))))) (mSlice (mVar 1) (oSome (mVar 3)) oNone)) (mCons (mTup mNil) (mCons (mUn opRev (mVar 1)) mNil)))))) (mVar 4)))
    sNil) sNil)
    (sSeq (sRet (mCallV c_odd 1 0 [.pos 0] (mCons (mVar 0) mNil) mNil))
    sNil)))) sNil)
    (sSeq (sIf (mAnd (mUn (opIsi .int) (mVar 1)) (mBin cmpLt (mVar 4) (mC (.int 4)))) (sSeq (sRet (mBin opIx (mLst (mCons (mBin opAdd (mVar 1) (mC (.int 1))) (mCons (mBin cmpEq (mVar 1) (mC (.int 0))) (mCons (mB bInt (mCons (mVar 1) mNil)) (mCons (mB bStr (mCons (mVar 1) mNil)) mNil))))) (mVar 4)))
    sNil) sNil)
    (sSeq (sIf (mAnd (mUn (opIsi .str) (mVar 1)) (mBin cmpLt (mVar 4) (mC (.int 3)))) (sSeq (sRet (mBin opIx (mLst (mCons (mBin opAdd (mVar 1) (mC (.str "a"))) (mCons (mSlice (mVar 1) (oSome (mC (.int 1))) oNone) (mCons (mUn opUpper (mVar 1)) mNil)))) (mVar 4)))
    sNil) sNil)
    (sSeq (sRet (mCallV c_odd 1 0 [.pos 0] (mCons (mVar 0) mNil) mNil))
    sNil))))) [some (.ref t), some item, some (.int j), none, none] A1) fun o A' => match o with
      | .nx _ => Ok (gcR A .non A') (BendP T B t c (k + 5 * (j + 1)) n w)
      | .rt d => Ok (gcR A d A') (BendP T B t c (k + 5 * (j + 1)) n w)
      | _ => False := by
    intro k1 A1 h1 hk1 hd1
    refine Ok.mono (bend_tail ho ht TB h h1 htT hT hd1 hw hb hb2 (by omega)) ?_
    intro o A' q
    cases o with
    | nx L => exact Ok.mono q fun d A'' z => z.mono (by omega)
    | rt d => exact Ok.mono q fun d A'' z => z.mono (by omega)
    | bk L => exact q
    | ct L => exact q
  cases item with
  | tup l =>
    cases n with
    | zero => exact hd.un0.elim
    | succ n =>
      have hl := hd.un
      have ll := hl.len
      walk_at "st"
      rw [Fd.cmpNe_empty (hb := Nat.le_trans hb2 (Nat.pow_le_pow_right (by decide) (by decide))) (.inl ⟨rfl, rfl⟩) hl (by omega)]
      walk_at "ex"
      cases l with
      | nil =>
        rw [show (!(List.isEmpty ([] : List D))) = false from rfl]
        walk_at "ex"
        exact tl k A h (by omega) hd
      | cons d0 l0 =>
        rw [show (!(List.isEmpty (d0 :: l0))) = true from rfl]
        generalize hl0 : d0 :: l0 = l at *
        have hpos : 0 < l.length := by rw [← hl0]; simp
        walk_at "ex"
        by_cases hj : 0 < (j : Int)
        · rw [if_pos (by simpa using hj)]
          walk_at "ex"
          refine Ok.mono (ht _ t c _ _ 3 TB h (by omega) (by decide) (by decide)) ?_
          rintro _ A1 ⟨u, rfl, u1, u2, h1⟩
          have hd1 : Fr T A1 (n + 1) w (.tup l) := fr_tp (X := []) TB htT h (by rw [List.append_nil]; exact h1) hd
          walk_at "ex"
          by_cases hu : 0 < u
          · rw [if_pos (by simpa using hu)]
            walk_at "st"
            refine Ok.mono (ht _ t c _ _ l.length TB h1 (by omega) (by omega) (by omega)) ?_
            rintro _ A2 ⟨s, rfl, s1, s2, h2⟩
            walk_at "ex"
            have sl : s.toNat < l.length := by omega
            have hl3 : FrL T A2 n w l := (fr_tp (X := []) TB htT h (by rw [List.append_nil]; exact h2) hd).un
            obtain ⟨w1, we, w2, f1, f2, f3, f4⟩ := hl3.at sl
            obtain ⟨i, rfl⟩ : ∃ i, j = i + 1 := ⟨j - 1, by omega⟩
            walk_at "st"
            rw [Fd.sl_tup, cut_lo l (by omega) (by omega)]
            walk_at "ex"
            have ei : atI l s = some l[s.toNat] := by
              obtain ⟨d, _, he, hg⟩ := atI_get (l := l) s1 s2
              rw [List.getElem?_eq_getElem sl] at hg
              rw [he, ← hg]
            rw [show opIx (.tup l) (.int s) A2 = .ok l[s.toNat] A2 from by simp [opIx, ei, R.ofO]]
            walk_at "ex"
            have ej : ((i + 1 : Nat) : Int) - 1 = (i : Int) := by omega
            rw [ej]
            refine Ok.mono (ih i (by omega) T B t c _ A2 l[s.toNat] n we TB h2 htT hT f2 (by omega) (by omega) hb hb2 (by omega)) ?_
            rintro d A5 ⟨Y, T5, k5, f5⟩
            walk_at "ex"
            have f1' : FrL T A5 n w1 (l.take s.toNat) := frl_tp TB htT h2 k5 f1
            have f3' : FrL T A5 n w2 (l.drop (s.toNat + 1)) := frl_tp TB htT h2 k5 f3
            rw [add_tup (by rw [sizeLine_eq]; simp; omega)]
            walk_at "ex"
            rw [Fd.sl_tup, cut_hi l (i := s + 1) (by omega) (by omega)]
            walk_at "ex"
            have es : (s + 1).toNat = s.toNat + 1 := by omega
            rw [add_tup (by rw [sizeLine_eq]; simp; omega), es]
            walk_at "ex"
            refine gc_fr (T := up1b T) TB h T5 (k5.mono (by omega)) hT ?_
            exact (Fr.tup ((((FrL.up (m := n + 2) (by omega) (Nat.le_refl _) f1').append (FrL.cons f5 FrL.nil)).append (FrL.up (m := n + 2) (by omega) (Nat.le_refl _) f3')))).mono (Nat.le_refl _) (by omega)
          · rw [if_neg (by simpa using hu)]
            walk_at "ex"
            exact tl (k + 1) A1 h1 (Nat.le_refl _) hd1
        · rw [if_neg (by simpa using hj)]
          walk_at "ex"
          rw [if_neg (by simpa using hj)]
          walk_at "ex"
          exact tl k A h (by omega) hd
  | ref m =>
    walk_at "st"
    rw [isi_ref hd.rl]
    walk_at "ex"
    exact tl k A h (by omega) hd
  | _ =>
    walk_at "st"
    exact tl k A h (by omega) hd
end Rf.Tq
namespace Rf
open PySem PySem.Spec L2
/-! ### a thing is told by its repr -/
def esc (q c : Nat) : List Nat := Builtin.Str.reprChar q c
theorem esc_head {q c : Nat} (hq : q = 34 ∨ q = 39) (hc : c < 128) : ∃ h t, esc q c = h :: t ∧ h ≠ q := by
  have h1 : ∀ c : Nat, c < 128 → (match esc 39 c with | h :: _ => decide (h ≠ 39) | [] => false) = true := by decide +kernel
  have h2 : ∀ c : Nat, c < 128 → (match esc 34 c with | h :: _ => decide (h ≠ 34) | [] => false) = true := by decide +kernel
  rcases hq with rfl | rfl
  · have := h2 c hc
    split at this
    · rename_i h t e; exact ⟨h, t, e, of_decide_eq_true this⟩
    · cases this
  · have := h1 c hc
    split at this
    · rename_i h t e; exact ⟨h, t, e, of_decide_eq_true this⟩
    · cases this
theorem esc_free {q : Nat} (hq : q = 34 ∨ q = 39) : ((List.range 128).map (esc q)).Pairwise (fun a b => ¬ a <+: b ∧ ¬ b <+: a) := by
  rcases hq with rfl | rfl <;> decide +kernel
theorem esc_inj {q c e : Nat} (hq : q = 34 ∨ q = 39) (hc : c < 128) (he : e < 128) {r r' : List Nat} (h : esc q c ++ r = esc q e ++ r') : c = e := by
  have pf := List.pairwise_iff_getElem.mp (esc_free hq)
  have one : ∀ i j : Nat, i < 128 → j < 128 → i < j → ¬ esc q i <+: esc q j ∧ ¬ esc q j <+: esc q i := fun i j hi hj hij => by
    have := pf i j (by simpa using hi) (by simpa using hj) hij
    simpa using this
  have pre : esc q c <+: esc q e ∨ esc q e <+: esc q c := by
    have h1 : esc q c <+: esc q e ++ r' := ⟨r, h⟩
    exact List.prefix_or_prefix_of_prefix h1 ⟨r', rfl⟩
  rcases Nat.lt_trichotomy c e with l | l | l
  · have := one c e hc he l
    exact pre.elim (fun z => absurd z this.1) (fun z => absurd z this.2)
  · exact l
  · have := one e c he hc l
    exact pre.elim (fun z => absurd z this.2) (fun z => absurd z this.1)
theorem text_inj {q : Nat} (hq : q = 34 ∨ q = 39) : ∀ (cs es : List Nat) (r r' : List Nat), (∀ c ∈ cs, c < 128) → (∀ c ∈ es, c < 128) → cs.flatMap (esc q) ++ q :: r = es.flatMap (esc q) ++ q :: r' → cs = es ∧ r = r'
  | [], [], r, r', _, _, h => by simpa using h
  | [], e :: es, r, r', _, he, h => by
    obtain ⟨a, t, q1, q2⟩ := esc_head hq (he e (List.mem_cons_self ..))
    rw [List.flatMap_nil, List.flatMap_cons, q1] at h
    simp only [List.nil_append, List.cons_append, List.append_assoc, List.cons.injEq] at h
    exact absurd h.1.symm q2
  | c :: cs, [], r, r', hc, _, h => by
    obtain ⟨a, t, q1, q2⟩ := esc_head hq (hc c (List.mem_cons_self ..))
    rw [List.flatMap_nil, List.flatMap_cons, q1] at h
    simp only [List.nil_append, List.cons_append, List.append_assoc, List.cons.injEq] at h
    exact absurd h.1 q2
  | c :: cs, e :: es, r, r', hc, he, h => by
    rw [List.flatMap_cons, List.flatMap_cons, List.append_assoc, List.append_assoc] at h
    have := esc_inj hq (hc c (List.mem_cons_self ..)) (he e (List.mem_cons_self ..)) h
    subst this
    obtain ⟨rfl, rfl⟩ := text_inj hq cs es r r' (fun x hx => hc x (List.mem_cons_of_mem _ hx)) (fun x hx => he x (List.mem_cons_of_mem _ hx)) (List.append_cancel_left h)
    exact ⟨rfl, rfl⟩
/-- the signs of a thing's repr -/
def shL (d : D) : List Nat := d.py.shown.cps.toList
theorem sh_str (s : Str) : shL (.str s) = reprQuote s :: (s.cps.toList.flatMap (esc (reprQuote s)) ++ [reprQuote s]) := by
  unfold shL D.py PyData.shown reprText
  have key : ∀ (q : Nat) (l : List Nat) (acc : Array Nat), (l.foldl (fun out c => out ++ (Builtin.Str.reprChar q c).toArray) acc).toList = acc.toList ++ l.flatMap (esc q) := by
    intro q l
    induction l with
    | nil => intro acc; simp
    | cons c l ih => intro acc; rw [List.foldl_cons, ih]; simp [esc]
  simp only [Array.toList_push]
  rw [← Array.foldl_toList, key]
  simp
theorem quote_or (s : Str) : reprQuote s = 34 ∨ reprQuote s = 39 := by
  unfold reprQuote
  split
  · exact .inl rfl
  · exact .inr rfl
theorem str_of_cps {a b : Str} (h : a.cps.toList = b.cps.toList) : a = b := by
  obtain ⟨⟨x⟩⟩ := a
  obtain ⟨⟨y⟩⟩ := b
  simp at h
  rw [h]
def numL : Int → List Nat
  | .ofNat m => (Nat.toDigits 10 m).map Char.toNat
  | .negSucc m => 45 :: (Nat.toDigits 10 (m + 1)).map Char.toNat
theorem sh_int (i : Int) : shL (.int i) = numL i := by
  unfold shL D.py PyData.shown
  show (Str.ofString (toString i)).cps.toList = _
  rw [Str.ofString_eq_toList]
  cases i with
  | ofNat m =>
    show ((Nat.repr m).toList.map Char.toNat).toArray.toList = _
    rw [Nat.toList_repr]
    rfl
  | negSucc m =>
    show (("-" ++ Nat.repr (m + 1)).toList.map Char.toNat).toArray.toList = _
    rw [String.toList_append, Nat.toList_repr]
    rfl
theorem dig_range {m c : Nat} (h : c ∈ (Nat.toDigits 10 m).map Char.toNat) : 48 ≤ c ∧ c ≤ 57 := by
  obtain ⟨ch, hch, rfl⟩ := List.mem_map.mp h
  have := Nat.isDigit_of_mem_toDigits (by decide) (by decide) hch
  simp only [Char.isDigit, Bool.and_eq_true, decide_eq_true_eq] at this
  exact ⟨this.1, this.2⟩
theorem num_range {i : Int} {c : Nat} (h : c ∈ numL i) : c = 45 ∨ (48 ≤ c ∧ c ≤ 57) := by
  cases i with
  | ofNat m => exact .inr (dig_range h)
  | negSucc m =>
    rcases List.mem_cons.mp h with rfl | h
    · exact .inl rfl
    · exact .inr (dig_range h)
theorem num_ne (i : Int) : numL i ≠ [] := by
  cases i with
  | ofNat m => simp [numL, Nat.toDigits_ne_nil]
  | negSucc m => simp [numL]
theorem toNat_inj {a b : Char} (h : a.toNat = b.toNat) : a = b := by
  apply Char.ext
  exact UInt32.toNat_inj.mp h
theorem digs_inj {m n : Nat} (h : (Nat.toDigits 10 m).map Char.toNat = (Nat.toDigits 10 n).map Char.toNat) : m = n := by
  have h' : Nat.toDigits 10 m = Nat.toDigits 10 n := by
    have inj : ∀ (a b : List Char), a.map Char.toNat = b.map Char.toNat → a = b := by
      intro a
      induction a with
      | nil => intro b h; cases b <;> simp_all
      | cons x a ih =>
        intro b h
        cases b with
        | nil => simp at h
        | cons y b =>
          simp only [List.map_cons, List.cons.injEq] at h
          rw [toNat_inj h.1, ih b h.2]
    exact inj _ _ h
  have e1 := Nat.ofDigitChars_ten_toDigits (n := m)
  rw [h', Nat.ofDigitChars_ten_toDigits] at e1
  exact e1.symm
theorem num_inj {i j : Int} (h : numL i = numL j) : i = j := by
  cases i with
  | ofNat m =>
    cases j with
    | ofNat n => rw [digs_inj h]
    | negSucc n =>
      exfalso
      have : (45 : Nat) ∈ (Nat.toDigits 10 m).map Char.toNat := by
        have h' : (Nat.toDigits 10 m).map Char.toNat = 45 :: (Nat.toDigits 10 (n + 1)).map Char.toNat := h
        rw [h']; exact List.mem_cons_self ..
      have := dig_range this
      omega
  | negSucc m =>
    cases j with
    | ofNat n =>
      exfalso
      have : (45 : Nat) ∈ (Nat.toDigits 10 n).map Char.toNat := by
        have h' : 45 :: (Nat.toDigits 10 (m + 1)).map Char.toNat = (Nat.toDigits 10 n).map Char.toNat := h
        rw [← h']; exact List.mem_cons_self ..
      have := dig_range this
      omega
    | negSucc n =>
      have h' : 45 :: (Nat.toDigits 10 (m + 1)).map Char.toNat = 45 :: (Nat.toDigits 10 (n + 1)).map Char.toNat := h
      have := digs_inj (List.cons.inj h').2
      have : m = n := by omega
      rw [this]
/-- what may stand behind a thing -/
def Stop (r : List Nat) : Prop := ∀ c t, r = c :: t → c = 44 ∨ c = 41
theorem run_inj : ∀ (a b r r' : List Nat), (∀ c ∈ a, c = 45 ∨ (48 ≤ c ∧ c ≤ 57)) → (∀ c ∈ b, c = 45 ∨ (48 ≤ c ∧ c ≤ 57)) → Stop r → Stop r' → a ++ r = b ++ r' → a = b ∧ r = r'
  | [], [], _, _, _, _, _, _, h => ⟨rfl, h⟩
  | [], y :: b, r, r', _, hb, hr, _, h => by
    have := hr y (b ++ r') h
    have := hb y (List.mem_cons_self ..)
    omega
  | x :: a, [], r, r', ha, _, _, hr, h => by
    have := hr x (a ++ r) h.symm
    have := ha x (List.mem_cons_self ..)
    omega
  | x :: a, y :: b, r, r', ha, hb, h1, h2, h => by
    simp only [List.cons_append, List.cons.injEq] at h
    obtain ⟨e1, e2⟩ := run_inj a b r r' (fun c hc => ha c (List.mem_cons_of_mem _ hc)) (fun c hc => hb c (List.mem_cons_of_mem _ hc)) h1 h2 h.2
    exact ⟨by rw [h.1, e1], e2⟩
def goL : List D → List Nat
  | [] => [41]
  | d :: l => 44 :: 32 :: (shL d ++ goL l)
def tupL : List D → List Nat
  | [] => [40, 41]
  | [d] => 40 :: (shL d ++ [44, 41])
  | d :: e :: l => 40 :: (shL d ++ goL (e :: l))
theorem join_go : ∀ (d : D) (l : List D), (Str.join ", " (PyData.shownAll (D.pyL (d :: l)))).cps.toList ++ [41] = shL d ++ goL l
  | d, [] => by
    simp only [D.pyL, PyData.shownAll, Str.join, goL]
    rfl
  | d, e :: l => by
    have ih := join_go e l
    have : Str.join ", " (PyData.shownAll (D.pyL (d :: e :: l))) = d.py.shown ++ ", " ++ Str.join ", " (PyData.shownAll (D.pyL (e :: l))) := by
      simp only [D.pyL, PyData.shownAll, Str.join]
    rw [this, Str.cps_append, Str.cps_append]
    simp only [Array.toList_append, List.append_assoc]
    rw [ih]
    rfl
theorem sh_tup : ∀ l : List D, shL (.tup l) = tupL l
  | [] => by
    unfold shL D.py PyData.shown tupleText
    decide +kernel
  | [d] => by
    have e : shL (.tup [d]) = ((("(" : Str) ++ Str.join ", " (PyData.shownAll (D.pyL [d]))) ++ ((",)" : String) : Str)).cps.toList := rfl
    rw [e, Str.cps_append, Str.cps_append]
    simp only [Array.toList_append, D.pyL, PyData.shownAll, Str.join, tupL]
    show [40] ++ _ ++ [44, 41] = _
    rfl
  | d :: e :: l => by
    have h : shL (.tup (d :: e :: l)) = ((("(" : Str) ++ Str.join ", " (PyData.shownAll (D.pyL (d :: e :: l)))) ++ ((")" : String) : Str)).cps.toList := by
      unfold shL D.py PyData.shown tupleText
      have : ((PyData.shownAll (D.pyL (d :: e :: l))).length == 1) = false := by simp [D.pyL, PyData.shownAll]
      rw [this]
      rfl
    rw [h, Str.cps_append, Str.cps_append]
    simp only [Array.toList_append, List.append_assoc]
    have j := join_go d (e :: l)
    show [40] ++ (_ ++ [41]) = _
    rw [j]
    rfl
/-- how a thing's repr begins -/
theorem sh_head : ∀ d : D, isTh d = true → ∃ c t, shL d = c :: t ∧ (match d with | .non => c = 78 | .int _ => c = 45 ∨ (48 ≤ c ∧ c ≤ 57) | .str _ => c = 34 ∨ c = 39 | _ => c = 40)
  | .non, _ => ⟨78, [111, 110, 101], by unfold shL; decide +kernel, rfl⟩
  | .int i, _ => by
    rw [sh_int]
    cases e : numL i with
    | nil => exact absurd e (num_ne i)
    | cons c t => exact ⟨c, t, rfl, num_range (by rw [e]; exact List.mem_cons_self ..)⟩
  | .str s, _ => ⟨_, _, sh_str s, quote_or s⟩
  | .tup l, _ => by
    rw [sh_tup]
    cases l with
    | nil => exact ⟨_, _, rfl, rfl⟩
    | cons d l => cases l <;> exact ⟨_, _, rfl, rfl⟩
  | .bl b, h => by cases h
  | .ref n, h => by cases h
theorem head_ne (d : D) (h : isTh d = true) : ∃ c t, shL d = c :: t ∧ c ≠ 41 := by
  obtain ⟨c, t, e, q⟩ := sh_head d h
  refine ⟨c, t, e, ?_⟩
  cases d <;> simp only at q <;> omega
theorem go_stop (l : List D) (r : List Nat) : Stop (goL l ++ r) := by
  intro c t h
  cases l with
  | nil => simp only [goL, List.cons_append, List.nil_append, List.cons.injEq] at h; omega
  | cons d l => simp only [goL, List.cons_append, List.cons.injEq] at h; omega
theorem stop44 (r : List Nat) : Stop (44 :: r) := fun c t h => by simp only [List.cons.injEq] at h; omega
def InjAt (d : D) : Prop := ∀ (e : D) (r r' : List Nat), isTh d = true → d.pl = true → isTh e = true → e.pl = true → Stop r → Stop r' → shL d ++ r = shL e ++ r' → d = e ∧ r = r'
theorem go_inj : ∀ (l m : List D) (r r' : List Nat), (∀ d ∈ l, InjAt d) → isThL l = true → D.plL l = true → isThL m = true → D.plL m = true → goL l ++ r = goL m ++ r' → l = m ∧ r = r'
  | [], [], r, r', _, _, _, _, _, h => by simpa [goL] using h
  | [], e :: m, r, r', _, _, _, _, _, h => by simp [goL] at h
  | d :: l, [], r, r', _, _, _, _, _, h => by simp [goL] at h
  | d :: l, e :: m, r, r', ih, t1, p1, t2, p2, h => by
    simp only [isThL, Bool.and_eq_true] at t1 t2
    simp only [D.plL, Bool.and_eq_true] at p1 p2
    simp only [goL, List.cons_append, List.cons.injEq, true_and, List.append_assoc] at h
    obtain ⟨rfl, h3⟩ := ih d (List.mem_cons_self ..) e _ _ t1.1 p1.1 t2.1 p2.1 (go_stop l r) (go_stop m r') h
    obtain ⟨rfl, h4⟩ := go_inj l m r r' (fun x hx => ih x (List.mem_cons_of_mem _ hx)) t1.2 p1.2 t2.2 p2.2 h3
    exact ⟨rfl, h4⟩
theorem sh_injAt : ∀ d : D, InjAt d := by
  intro d
  induction d using D.rec (motive_2 := fun l => ∀ d ∈ l, InjAt d) with
  | nil => rename_i d h; cases h
  | cons d l h1 h2 =>
    rename_i e he
    rcases List.mem_cons.mp he with rfl | he
    · exact h1
    · exact h2 e he
  | bl b => intro e r r' h; cases h
  | ref n => intro e r r' h; cases h
  | non =>
    intro e r r' h1 p1 h2 p2 s1 s2 h
    obtain ⟨c, t, e1, q1⟩ := sh_head .non h1
    obtain ⟨c', t', e2, q2⟩ := sh_head e h2
    have hc : c = c' := by rw [e1, e2] at h; exact (List.cons.inj h).1
    cases e with
    | non => exact ⟨rfl, List.append_cancel_left h⟩
    | _ => first | (cases h2; done) | (simp only at q1 q2; omega)
  | int i =>
    intro e r r' h1 p1 h2 p2 s1 s2 h
    obtain ⟨c, t, e1, q1⟩ := sh_head (.int i) h1
    obtain ⟨c', t', e2, q2⟩ := sh_head e h2
    have hc : c = c' := by rw [e1, e2] at h; exact (List.cons.inj h).1
    cases e with
    | int j =>
      rw [sh_int, sh_int] at h
      obtain ⟨a, b⟩ := run_inj _ _ r r' (fun c hc => num_range hc) (fun c hc => num_range hc) s1 s2 h
      rw [num_inj a]
      exact ⟨rfl, b⟩
    | _ => first | (cases h2; done) | (simp only at q1 q2; omega)
  | str s =>
    intro e r r' h1 p1 h2 p2 s1 s2 h
    obtain ⟨c, t, e1, q1⟩ := sh_head (.str s) h1
    obtain ⟨c', t', e2, q2⟩ := sh_head e h2
    have hc : c = c' := by rw [e1, e2] at h; exact (List.cons.inj h).1
    cases e with
    | str z =>
      rw [sh_str, sh_str] at h
      simp only [List.cons_append, List.cons.injEq, List.append_assoc, List.nil_append] at h
      obtain ⟨hq, h⟩ := h
      rw [← hq] at h
      have a1 : ∀ c ∈ s.cps.toList, c < 128 := fun c hc => of_decide_eq_true (List.all_eq_true.mp p1 c hc)
      have a2 : ∀ c ∈ z.cps.toList, c < 128 := fun c hc => of_decide_eq_true (List.all_eq_true.mp p2 c hc)
      obtain ⟨a, b⟩ := text_inj (quote_or s) _ _ r r' a1 a2 h
      rw [str_of_cps a]
      exact ⟨rfl, b⟩
    | _ => first | (cases h2; done) | (simp only at q1 q2; omega)
  | tup l ih =>
    intro e r r' h1 p1 h2 p2 s1 s2 h
    obtain ⟨c, t, e1, q1⟩ := sh_head (.tup l) h1
    obtain ⟨c', t', e2, q2⟩ := sh_head e h2
    have hc : c = c' := by rw [e1, e2] at h; exact (List.cons.inj h).1
    cases e with
    | tup m =>
      rw [sh_tup, sh_tup] at h
      simp only [isTh] at h1 h2
      simp only [D.pl] at p1 p2
      cases l with
      | nil =>
        cases m with
        | nil => simp only [tupL, List.cons_append, List.cons.injEq, true_and, List.nil_append] at h; exact ⟨rfl, h⟩
        | cons y m =>
          exfalso
          simp only [isThL, Bool.and_eq_true] at h2
          obtain ⟨c, t, e, q⟩ := head_ne y h2.1
          cases m with
          | nil => simp only [tupL, e, List.cons_append, List.cons.injEq, true_and, List.nil_append] at h; exact q h.1.symm
          | cons z m => simp only [tupL, e, List.cons_append, List.cons.injEq, true_and, List.nil_append] at h; exact q h.1.symm
      | cons x l =>
        simp only [isThL, Bool.and_eq_true] at h1
        simp only [D.plL, Bool.and_eq_true] at p1
        cases m with
        | nil =>
          exfalso
          obtain ⟨c, t, e, q⟩ := head_ne x h1.1
          cases l with
          | nil => simp only [tupL, e, List.cons_append, List.cons.injEq, true_and, List.nil_append] at h; exact q h.1
          | cons z m => simp only [tupL, e, List.cons_append, List.cons.injEq, true_and, List.nil_append] at h; exact q h.1
        | cons y m =>
          simp only [isThL, Bool.and_eq_true] at h2
          simp only [D.plL, Bool.and_eq_true] at p2
          have hx := ih x (List.mem_cons_self ..)
          cases l with
          | nil =>
            cases m with
            | nil =>
              simp only [tupL, List.cons_append, List.cons.injEq, true_and, List.append_assoc, List.nil_append] at h
              obtain ⟨rfl, h3⟩ := hx y _ _ h1.1 p1.1 h2.1 p2.1 (stop44 _) (stop44 _) h
              simp only [List.cons.injEq, true_and] at h3
              exact ⟨rfl, h3⟩
            | cons z m =>
              exfalso
              simp only [tupL, List.cons_append, List.cons.injEq, true_and, List.append_assoc, List.nil_append] at h
              obtain ⟨rfl, h3⟩ := hx y _ _ h1.1 p1.1 h2.1 p2.1 (stop44 _) (go_stop _ _) h
              simp [goL] at h3
          | cons z l =>
            cases m with
            | nil =>
              exfalso
              simp only [tupL, List.cons_append, List.cons.injEq, true_and, List.append_assoc, List.nil_append] at h
              obtain ⟨rfl, h3⟩ := hx y _ _ h1.1 p1.1 h2.1 p2.1 (go_stop _ _) (stop44 _) h
              simp [goL] at h3
            | cons u m =>
              simp only [tupL, List.cons_append, List.cons.injEq, true_and, List.append_assoc] at h
              obtain ⟨rfl, h3⟩ := hx y _ _ h1.1 p1.1 h2.1 p2.1 (go_stop _ _) (go_stop _ _) h
              obtain ⟨a, b⟩ := go_inj (z :: l) (u :: m) r r' (fun d hd => ih d (List.mem_cons_of_mem _ hd)) h1.2 p1.2 h2.2 p2.2 h3
              rw [a]
              exact ⟨rfl, b⟩
    | _ => first | (cases h2; done) | (simp only at q1 q2; omega)
theorem shown_inj {d e : D} (h1 : isTh d = true) (p1 : d.pl = true) (h2 : isTh e = true) (p2 : e.pl = true) (h : d.py.shown = e.py.shown) : d = e := by
  have hs : Stop [] := fun c t z => by cases z
  refine (sh_injAt d e [] [] h1 p1 h2 p2 hs hs ?_).1
  unfold shL
  rw [h]
end Rf
namespace Rf
open PySem PySem.Spec L2
theorem x_zipS {a b : M} {L : Loc} {A : Hpp} : srcZipS a b L A = (a L A).bind fun x A1 => (b L A1).bind fun y A2 => match x, y with
  | .tup xs, .tup ys => if xs.length = ys.length then .ok (.its (zipD xs ys)) A2 else .bad
  | _, _ => .bad := rfl
theorem any_atX {X : Type} {A : Hpp} {n : Nat} {l : List X} {f : X → Bool} (h : A[n]? = some (.lst (l.map fun d => .bl (f d)))) : bAny [.ref n] A = .ok (.bl (l.any f)) A := by
  simp [bAny, h, Fd.bools_mapX, List.any_map, Function.comp_def]
/-- what is read of a thing -/
theorem sn_th {T : Fz} {A : Hpp} (hb : T.b ≤ 2 ^ 400) : ∀ (n : Nat) (d : D) (p : PyData), isTh d = true → D.sn T A n d = some p → p = d.py ∧ d.pl = true := by
  intro n
  have leafI : ∀ (n : Nat) (i : Int) (p : PyData), D.sn T A n (.int i) = some p → p = (D.int i).py ∧ (D.int i).pl = true := by
    intro n i p h
    have h' : (if i.natAbs < T.b then some (PyData.int i) else none) = some p := by cases n <;> simpa [D.sn] using h
    split at h'
    · rename_i q
      cases h'
      exact ⟨rfl, decide_eq_true (Nat.lt_of_lt_of_le q hb)⟩
    · cases h'
  have leafS : ∀ (n : Nat) (s : Str) (p : PyData), D.sn T A n (.str s) = some p → p = (D.str s).py ∧ (D.str s).pl = true := by
    intro n i p h
    have h' : (if (i.cps.toList.all fun c => decide (c < 128)) = true then some (PyData.str i) else none) = some p := by cases n <;> simpa [D.sn] using h
    split at h'
    · rename_i q
      cases h'
      exact ⟨rfl, q⟩
    · cases h'
  induction n with
  | zero =>
    intro d p ht h
    cases d with
    | tup l => simp [D.sn] at h
    | ref k => cases ht
    | bl b => cases ht
    | non => cases h; exact ⟨rfl, rfl⟩
    | int i => exact leafI 0 i p h
    | str i => exact leafS 0 i p h
  | succ n ih =>
    intro d p ht h
    cases d with
    | tup l =>
      obtain ⟨ps, rfl, hps⟩ := sn_tup.mp h
      have key : ∀ (l : List D) (ps : List PyData), isThL l = true → OA (D.sn T A n) l ps → ps = D.pyL l ∧ D.plL l = true := by
        intro l
        induction l with
        | nil => intro ps _ h; cases ps with
          | nil => exact ⟨rfl, rfl⟩
          | cons p ps => exact h.elim
        | cons d l ih2 =>
          intro ps ht h
          simp only [isThL, Bool.and_eq_true] at ht
          cases ps with
          | nil => exact h.elim
          | cons p ps =>
            obtain ⟨a1, a2⟩ := ih d p ht.1 h.1
            obtain ⟨b1, b2⟩ := ih2 ps ht.2 h.2
            refine ⟨by rw [a1, b1]; rfl, by simp only [D.plL, a2, b2]; rfl⟩
      obtain ⟨a, b⟩ := key l ps ht hps
      exact ⟨by rw [a]; rfl, b⟩
    | ref k => cases ht
    | bl b => cases ht
    | non => cases h; exact ⟨rfl, rfl⟩
    | int i => exact leafI _ i p h
    | str i => exact leafS _ i p h
/-- a thing of so many signs at most is one for marks -/
theorem isTh_th : ∀ d : D, isTh d = true → d.sm = true → d.th = true := by
  intro d
  have hz : 4000000 ≤ sizeLine := by rw [sizeLine_eq]; decide
  induction d using D.rec (motive_2 := fun l => isThL l = true → D.smL l = true → D.thL l = true) with
  | non => intro _ _; rfl
  | bl b => intro h; cases h
  | int i => intro _ _; rfl
  | str s => intro _ h; simp only [D.sm, decide_eq_true_eq] at h; exact decide_eq_true (by omega)
  | ref n => intro h; cases h
  | tup l ih =>
    intro h1 h2
    simp only [D.sm, Bool.and_eq_true, decide_eq_true_eq] at h2
    simp only [isTh] at h1
    simp only [D.th, Bool.and_eq_true, decide_eq_true_eq]
    exact ⟨by omega, ih h1 h2.2⟩
  | nil => rfl
  | cons d l h1 h2 =>
    rename_i a b
    simp only [isThL, Bool.and_eq_true] at a
    simp only [D.smL, Bool.and_eq_true] at b
    simp only [D.thL, Bool.and_eq_true]
    exact ⟨h1 a.1 b.1, h2 a.2 b.2⟩
end Rf
namespace Rf.Tq
open PySem PySem.Spec L2
local macro_rules | `(tactic| walk_at "ex") => `(tactic| try simp (decide := true) only [x_ret, x_retN, x_asg, x_if, x_drop, x_nilS, x_for, x_var, x_c, x_un, x_bin, x_test, x_and, x_or, x_not, x_ifE, x_nil, x_cons, x_tup, x_lst, x_b, x_meth, x_oNone, x_oSome, x_slice, x_call, x_gVar, x_gSub, x_range1, x_zipS, x_lc, x_yes, x_rg1, wipeL,
  R.bind_ok, ok_bind, ok_ok, gather, optAll, List.map_cons, List.map_nil, List.getElem?_cons_zero, List.getElem?_cons_succ, List.set_cons_zero, List.set_cons_succ, Option.map_some, List.length_cons, List.length_nil,
  List.nil_append, List.cons_append, List.replicate, Nat.reduceAdd, Nat.reduceSub, and_self, if_true, if_false, true_and, and_true, Nat.reduceEqDiff, truth_bl, ofO_some, reduceCtorEq, decide_true, decide_false, Bool.false_eq_true, Bool.not_true, Bool.not_false, or_self, or_true, true_or, or_false, false_or,
  opAdd_int, opSub_int, cmpLt_int, cmpLe_int, cmpGt_int, cmpGe_int, cmpIs_non, cmpIsNot_non, isi_str, isi_non, isi_int, isi_tup, isi_bl, len_tup, ord_one, sizeLine_eq, Nat.reduceLeDiff, x_bk, x_aug, x_par, tl_nil, tl_cons, x_tlNil, x_tlCons, x_gTup, x_gTupT, x_gStar1, ixt0, ixt1, ixt2, cmpEq_str, cmpNe_str, cmpEq_int, cmpNe_int, s_ff, s_lf, s_cf, s_cl, s_lc, s_fc, s_fl, cmpIs_bl, cmpIsNot_bl])
local macro_rules | `(tactic| walk_at "st") => `(tactic| (refine x_seq.mpr ?_; walk_at "ex"))
def G_kind_of : S :=
    (sSeq (sIf (mBin cmpIs (mVar 0) (mC .non)) (sSeq (sRet (mC (.str "none")))
    sNil) sNil)
    (sSeq (sIf (mUn (opIsi .tuple) (mVar 0)) (sSeq (sRet (mC (.str "tuple")))
    sNil) sNil)
    (sSeq (sRet (mIf (mUn (opIsi .str) (mVar 0)) (mC (.str "text")) (mC (.str "number"))))
    sNil)))
def G_are_unlike (c_are_unlike c_kind_of : List D → Hpp → R D) : S :=
    (sSeq (sIf (mBin cmpNe (mCallV c_kind_of 1 0 [.pos 0] (mCons (mVar 0) mNil) mNil) (mCallV c_kind_of 1 0 [.pos 0] (mCons (mVar 1) mNil) mNil)) (sSeq (sRet (mC (.bl true)))
    sNil) sNil)
    (sSeq (sIf (mNot (mUn (opIsi .tuple) (mVar 0))) (sSeq (sRet (mBin cmpNe (mVar 0) (mVar 1)))
    sNil) sNil)
    (sSeq (sIf (mBin cmpNe (mB bLen (mCons (mVar 0) mNil)) (mB bLen (mCons (mVar 1) mNil))) (sSeq (sRet (mC (.bl true)))
    sNil) sNil)
    (sSeq (sRet (mB bAny (mCons (mLc (srcZipS (mVar 0) (mVar 1)) (gTupT' (tlOf [2, 3])) mYes (mCallV c_are_unlike 2 0 [.pos 0, .pos 1] (mCons (mVar 2) (mCons (mVar 3) mNil)) mNil) [2, 3]) mNil)))
    sNil))))
def G_is_collision (c_are_unlike c_mark_of c_is_thing : List D → Hpp → R D) : S :=
    (sSeq (sIf (mOr (mNot (mUn (opIsi .tuple) (mVar 0))) (mOr (mBin cmpNe (mB bLen (mCons (mVar 0) mNil)) (mC (.int 2))) (mNot (mCallV c_is_thing 1 0 [.pos 0] (mCons (mVar 0) mNil) mNil)))) (sSeq (sRet (mC (.bl false)))
    sNil) sNil)
    (sSeq (sAsg (mVar 0) (gTup' (tlOf [2, 3])))
    (sSeq (sRet (mAnd (mCallV c_are_unlike 2 0 [.pos 0, .pos 1] (mCons (mVar 2) (mCons (mVar 3) mNil)) mNil) (mBin cmpEq (mCallV c_mark_of 1 1 [.pos 0, .kw 0] (mCons (mVar 2) mNil) (mCons (mVar 1) mNil)) (mCallV c_mark_of 1 1 [.pos 0, .kw 0] (mCons (mVar 3) mNil) (mCons (mVar 1) mNil)))))
    sNil)))
def G__law_is_both (c__law_mark c__law_is_stuff : List D → Hpp → R D) : S :=
    (sSeq (sIf (mOr (mNot (mUn (opIsi .tuple) (mVar 0))) (mOr (mBin cmpNe (mB bLen (mCons (mVar 0) mNil)) (mC (.int 2))) (mNot (mCallV c__law_is_stuff 1 0 [.pos 0] (mCons (mVar 0) mNil) mNil)))) (sSeq (sRet (mC (.bl false)))
    sNil) sNil)
    (sSeq (sRet (mAnd (mBin cmpNe (mB bRepr (mCons (mBin opIx (mVar 0) (mC (.int 0))) mNil)) (mB bRepr (mCons (mBin opIx (mVar 0) (mC (.int 1))) mNil))) (mBin cmpEq (mCallV c__law_mark 2 0 [.pos 0, .pos 1] (mCons (mBin opIx (mVar 0) (mC (.int 0))) (mCons (mVar 1) mNil)) mNil) (mCallV c__law_mark 2 0 [.pos 0, .pos 1] (mCons (mBin opIx (mVar 0) (mC (.int 1))) (mCons (mVar 1) mNil)) mNil))))
    sNil))
def kd : D → Str
  | .non => "none"
  | .tup _ => "tuple"
  | .str _ => "text"
  | _ => "number"
def KindS (c : CF) : Prop := ∀ d A, isTh d = true → c [d] A = .ok (.str (kd d)) A
theorem kind_ok : KindS (run 1 1 G_kind_of) := by
  intro d A h
  apply ok_eq
  refine ok_run rfl ?_
  unfold G_kind_of
  cases d with
  | bl b => cases h
  | ref n => cases h
  | non =>
    walk_at "st"
    walk_at "st"
    rw [gc_self, ok_ok]; exact ⟨rfl, rfl⟩
  | tup l =>
    walk_at "st"
    walk_at "st"
    walk_at "st"
    rw [gc_self, ok_ok]; exact ⟨rfl, rfl⟩
  | int i =>
    walk_at "st"
    walk_at "st"
    walk_at "st"
    rw [gc_self, ok_ok]; exact ⟨rfl, rfl⟩
  | str i =>
    walk_at "st"
    walk_at "st"
    walk_at "st"
    rw [gc_self, ok_ok]; exact ⟨rfl, rfl⟩
theorem any_ne : ∀ (l m : List D), l.length = m.length → (l.zip m).any (fun p => !decide (p.1 = p.2)) = !decide (l = m)
  | [], [], _ => rfl
  | x :: l, y :: m, h => by
    have ih := any_ne l m (by simpa using h)
    rw [List.zip_cons_cons, List.any_cons, ih]
    by_cases h1 : x = y <;> by_cases h2 : l = m <;> simp [h1, h2]
  | [], _ :: _, h => by simp at h
  | _ :: _, [], h => by simp at h
def UnlikeS (k : Nat) (c : CF) : Prop := ∀ x y A, isTh x = true → isTh y = true → x.sm = true → y.sm = true → x.pl = true → x.dp ≤ k → c [x, y] A = .ok (.bl (!decide (x = y))) A
theorem unlike_ok {c_unlike c_kind : CF} (hk : KindS c_kind) {k : Nat} (ih : ∀ j, j < k → UnlikeS j c_unlike) : UnlikeS k (run 4 2 (G_are_unlike c_unlike c_kind)) := by
  intro x y A tx ty sx sy px dx
  apply ok_eq
  refine ok_run rfl ?_
  unfold G_are_unlike
  walk_at "st"
  rw [hk x A tx]
  walk_at "ex"
  rw [hk y A ty]
  walk_at "ex"
  by_cases hkd : kd x = kd y
  · simp only [hkd, decide_true, Bool.not_true, Bool.false_eq_true, if_false]
    walk_at "ex"
    walk_at "st"
    cases x with
    | bl b => cases tx
    | ref n => cases tx
    | non =>
      cases y with
      | non =>
        walk_at "ex"
        walk_at "st"
        rw [ne_self rfl (by decide)]
        walk_at "ex"
        rw [gc_self, ok_ok]; exact ⟨rfl, rfl⟩
      | _ => exact absurd hkd (by simp only [kd]; decide)
    | int i =>
      cases y with
      | int j =>
        walk_at "ex"
        walk_at "st"
        rw [gc_self, ok_ok]
        exact ⟨by simp, rfl⟩
      | bl b => cases ty
      | ref n => cases ty
      | _ => exact absurd hkd (by simp only [kd]; decide)
    | str i =>
      cases y with
      | str j =>
        walk_at "ex"
        walk_at "st"
        rw [gc_self, ok_ok]
        exact ⟨by simp, rfl⟩
      | _ => exact absurd hkd (by simp only [kd]; decide)
    | tup l =>
      cases y with
      | tup m =>
        walk_at "ex"
        walk_at "st"
        by_cases hl : l.length = m.length
        · have hl' : decide ((l.length : Int) = (m.length : Int)) = true := decide_eq_true (by omega)
          simp only [hl', Bool.not_true, Bool.false_eq_true, if_false]
          walk_at "ex"
          walk_at "st"
          rw [if_pos hl]
          walk_at "ex"
          rw [show (Src.its (zipD l m)).items = (l.zip m).map (fun p => D.tup [p.1, p.2]) from rfl]
          simp only [isTh] at tx ty
          simp only [D.sm, Bool.and_eq_true, decide_eq_true_eq] at sx sy
          simp only [D.pl] at px
          simp only [D.dp] at dx
          rw [lc_mapX (g := fun p : D × D => D.tup [p.1, p.2]) (f := fun p : D × D => D.bl (!decide (p.1 = p.2))) (Lf := fun p : D × D => [some (.tup l), some (.tup m), some p.1, some p.2]) (fun _ => rfl) (l.zip m) [] (fun p hp acc => ⟨?_, ?_⟩) (by rw [sizeLine_eq]; simp; omega)]
          · walk_at "ex"
            rw [any_atX (f := fun p : D × D => !decide (p.1 = p.2)) at_end]
            walk_at "ex"
            rw [gc_pure rfl, ok_ok, any_ne l m hl]
            exact ⟨by simp, rfl⟩
          · walk_at "ex"
          · walk_at "ex"
            obtain ⟨m1, m2⟩ := List.of_mem_zip (show (p.1, p.2) ∈ l.zip m from hp)
            rw [isThL_all, List.all_eq_true] at tx ty
            exact ih (k - 1) (by omega) p.1 p.2 _ (tx _ m1) (ty _ m2) (smL_mem sx.2 m1) (smL_mem sy.2 m2) (plL_mem px m1) (by have := dpL_mem m1; omega)
        · have hl' : decide ((l.length : Int) = (m.length : Int)) = false := decide_eq_false (by omega)
          simp only [hl', Bool.not_false, if_true]
          walk_at "st"
          rw [gc_self, ok_ok]
          refine ⟨?_, rfl⟩
          have : ¬ (D.tup l = D.tup m) := fun z => by cases z; exact hl rfl
          simp [this]
      | _ => exact absurd hkd (by simp only [kd]; decide)
  · simp only [hkd, decide_false, Bool.not_false, if_true]
    walk_at "st"
    rw [gc_self, ok_ok]
    refine ⟨?_, rfl⟩
    have : ¬ x = y := fun z => hkd (by rw [z])
    simp [this]
/-- two unlike things of one mark -/
def isCol (b : Int) : D → Bool
  | .tup [x, y] => isTh x && isTh y && !decide (x = y) && decide (mark b x = mark b y)
  | _ => false
def ColS (c : CF) : Prop := ∀ (T : Fz) (A : Hpp) (w : Nat) (d : D) (b : Int), Fr T A 40 w d → w ≤ 3300000 → T.b ≤ 2 ^ 400 → 0 < b → b ≤ 2 ^ 63 → c [d, .int b] A = .ok (.bl (isCol b d)) A
theorem not_two {b : Int} {l : List D} (h : l.length ≠ 2) : isCol b (.tup l) = false := by
  match l, h with
  | [], _ => rfl
  | [_], _ => rfl
  | [_, _], h => exact absurd rfl h
  | _ :: _ :: _ :: _, _ => rfl
theorem collision_ok {c_unlike c_mark c_thing : CF} (hu : UnlikeS 40 c_unlike) (hm : MarkS 40 c_mark) (ht : ThingS 40 c_thing) : ColS (run 4 2 (G_is_collision c_unlike c_mark c_thing)) := by
  intro T A w d b hf hw hb b0 b1
  obtain ⟨sm, dp⟩ := fr_sm 40 w d (by omega) hf
  have hr := hf.rl
  apply ok_eq
  refine ok_run rfl ?_
  unfold G_is_collision
  walk_at "st"
  cases d with
  | ref n =>
    rw [isi_ref hr]
    walk_at "ex"
    walk_at "st"
    rw [gc_self, ok_ok]; exact ⟨rfl, rfl⟩
  | tup l =>
    walk_at "ex"
    by_cases hl : l.length = 2
    · obtain ⟨x, y, rfl⟩ := Fd.two_of hl
      walk_at "ex"
      rw [ht _ A hr sm dp]
      walk_at "ex"
      simp only [D.sm, D.smL, Bool.and_eq_true, decide_eq_true_eq] at sm
      simp only [D.dp, D.dpL] at dp
      obtain ⟨p, hp, _⟩ := hf
      by_cases hth : isTh (.tup [x, y]) = true
      · simp only [hth]
        walk_at "ex"
        walk_at "st"
        walk_at "st"
        have hth' := hth
        simp only [isTh, isThL, Bool.and_eq_true] at hth'
        obtain ⟨_, hpl⟩ := sn_th hb 40 _ p hth hp
        simp only [D.pl, D.plL, Bool.and_eq_true] at hpl
        rw [hu x y A hth'.1 hth'.2.1 sm.2.1 sm.2.2.1 hpl.1 (by omega)]
        walk_at "ex"
        by_cases hxy : x = y
        · simp only [hxy, decide_true, Bool.not_true, Bool.false_eq_true, if_false]
          walk_at "ex"
          rw [gc_self, ok_ok]
          exact ⟨by simp [isCol], rfl⟩
        · simp only [hxy, decide_false, Bool.not_false, if_true]
          rw [hm x b A (isTh_th x hth'.1 sm.2.1) (by omega) b0 b1]
          walk_at "ex"
          rw [hm y b A (isTh_th y hth'.2.1 sm.2.2.1) (by omega) b0 b1]
          walk_at "ex"
          rw [gc_self, ok_ok]
          exact ⟨by simp [isCol, hth'.1, hth'.2.1, hxy], rfl⟩
      · have hth0 : isTh (.tup [x, y]) = false := by simpa using hth
        simp only [hth0]
        walk_at "ex"
        walk_at "st"
        rw [gc_self, ok_ok]
        refine ⟨?_, rfl⟩
        simp only [isTh, isThL, Bool.and_true] at hth0
        simp [isCol, hth0]
    · have hl' : decide ((l.length : Int) = 2) = false := decide_eq_false (by omega)
      simp only [hl', Bool.not_false, if_true]
      walk_at "ex"
      walk_at "st"
      rw [gc_self, ok_ok]
      exact ⟨by rw [not_two hl], rfl⟩
  | non =>
    walk_at "ex"
    walk_at "st"
    rw [gc_self, ok_ok]; exact ⟨rfl, rfl⟩
  | bl k =>
    walk_at "ex"
    walk_at "st"
    rw [gc_self, ok_ok]; exact ⟨rfl, rfl⟩
  | int k =>
    walk_at "ex"
    walk_at "st"
    rw [gc_self, ok_ok]; exact ⟨rfl, rfl⟩
  | str k =>
    walk_at "ex"
    walk_at "st"
    rw [gc_self, ok_ok]; exact ⟨rfl, rfl⟩
theorem both_ok {c_mark c_stuff : CF} (hm : MarkS 40 c_mark) (hs : StuffS 40 c_stuff) : ColS (run 2 2 (G__law_is_both c_mark c_stuff)) := by
  intro T A w d b hf hw hb b0 b1
  obtain ⟨sm, dp⟩ := fr_sm 40 w d (by omega) hf
  have hr := hf.rl
  apply ok_eq
  refine ok_run rfl ?_
  unfold G__law_is_both
  walk_at "st"
  cases d with
  | ref n =>
    rw [isi_ref hr]
    walk_at "ex"
    walk_at "st"
    rw [gc_self, ok_ok]; exact ⟨rfl, rfl⟩
  | tup l =>
    walk_at "ex"
    by_cases hl : l.length = 2
    · obtain ⟨x, y, rfl⟩ := Fd.two_of hl
      walk_at "ex"
      rw [hs T A w _ hf hw hb]
      walk_at "ex"
      simp only [D.sm, D.smL, Bool.and_eq_true, decide_eq_true_eq] at sm
      simp only [D.dp, D.dpL] at dp
      by_cases hth : isTh (.tup [x, y]) = true
      · simp only [hth]
        walk_at "ex"
        walk_at "st"
        have hth' := hth
        simp only [isTh, isThL, Bool.and_eq_true] at hth'
        have fx : Fr T A 39 w x := (Fr.un (n := 39) hf).mem (List.mem_cons_self ..)
        have fy : Fr T A 39 w y := (Fr.un (n := 39) hf).mem (by simp)
        obtain ⟨px, hx, wx⟩ := fx
        obtain ⟨py, hy, wy⟩ := fy
        obtain ⟨ex, lx⟩ := sn_th hb 39 x px hth'.1 hx
        obtain ⟨ey, ly⟩ := sn_th hb 39 y py hth'.2.1 hy
        subst ex; subst ey
        rw [sn_repr hb hx (by decide) (by omega)]
        walk_at "ex"
        rw [sn_repr hb hy (by decide) (by omega)]
        walk_at "ex"
        by_cases hxy : x = y
        · simp only [hxy, decide_true, Bool.not_true, Bool.false_eq_true, if_false]
          walk_at "ex"
          rw [gc_self, ok_ok]
          exact ⟨by simp [isCol], rfl⟩
        · have hne : ¬ x.py.shown = y.py.shown := fun z => hxy (shown_inj hth'.1 lx hth'.2.1 ly z)
          simp only [hne, decide_false, Bool.not_false, if_true]
          walk_at "ex"
          rw [hm x b A (isTh_th x hth'.1 sm.2.1) (by omega) b0 b1]
          walk_at "ex"
          rw [hm y b A (isTh_th y hth'.2.1 sm.2.2.1) (by omega) b0 b1]
          walk_at "ex"
          rw [gc_self, ok_ok]
          exact ⟨by simp [isCol, hth'.1, hth'.2.1, hxy], rfl⟩
      · have hth0 : isTh (.tup [x, y]) = false := by simpa using hth
        simp only [hth0]
        walk_at "ex"
        walk_at "st"
        rw [gc_self, ok_ok]
        refine ⟨?_, rfl⟩
        simp only [isTh, isThL, Bool.and_true] at hth0
        simp [isCol, hth0]
    · have hl' : decide ((l.length : Int) = 2) = false := decide_eq_false (by omega)
      simp only [hl', Bool.not_false, if_true]
      walk_at "ex"
      walk_at "st"
      rw [gc_self, ok_ok]
      exact ⟨by rw [not_two hl], rfl⟩
  | non =>
    walk_at "ex"
    walk_at "st"
    rw [gc_self, ok_ok]; exact ⟨rfl, rfl⟩
  | bl k =>
    walk_at "ex"
    walk_at "st"
    rw [gc_self, ok_ok]; exact ⟨rfl, rfl⟩
  | int k =>
    walk_at "ex"
    walk_at "st"
    rw [gc_self, ok_ok]; exact ⟨rfl, rfl⟩
  | str k =>
    walk_at "ex"
    walk_at "st"
    rw [gc_self, ok_ok]; exact ⟨rfl, rfl⟩
end Rf.Tq
namespace Rf
open PySem PySem.Spec L2
/-- what is asked of each leaf shown -/
def Pr.lv (P : D → Prop) : Pr → Prop
  | .leaf d => P d
  | .cut _ _ => True
  | .fork l r => l.lv P ∧ r.lv P
theorem fr_pure {T : Fz} {A : Hpp} (hb : 2 ^ 320 ≤ T.b) : ∀ (n : Nat) (d : D), d.pl = true → d.dp ≤ n → d.wt ≤ 320 → Fr T A n d.wt d := by
  intro n
  have leafI : ∀ (n : Nat) (i : Int), (D.int i).wt ≤ 320 → Fr T A n (D.int i).wt (.int i) := by
    intro n i h
    simp only [D.wt] at h ⊢
    have : i.natAbs < 2 ^ (i.natAbs.log2 + 1) := by
      rcases Nat.eq_zero_or_pos i.natAbs with z | z
      · rw [z]; decide
      · exact (Nat.log2_lt (by omega)).mp (by omega)
    have q : 2 ^ (i.natAbs.log2 + 1) ≤ 2 ^ 320 := Nat.pow_le_pow_right (by decide) h
    exact Fr.int (by omega) this
  induction n with
  | zero =>
    intro d hp hd hw
    cases d with
    | tup l => simp [D.dp] at hd
    | ref k => simp [D.pl] at hp
    | int i => exact leafI 0 i hw
    | str s => exact Fr.str hp (Nat.le_refl _)
    | non => exact Fr.non (Nat.le_refl _)
    | bl b => exact Fr.bl (Nat.le_refl _)
  | succ n ih =>
    intro d hp hd hw
    cases d with
    | tup l =>
      have key : ∀ l : List D, D.plL l = true → D.dpL l ≤ n → D.wtL l ≤ 320 → FrL T A n (D.wtL l) l := by
        intro l
        induction l with
        | nil => intro _ _ _; exact FrL.nil
        | cons d l ih2 =>
          intro h1 h2 h3
          simp only [D.plL, Bool.and_eq_true] at h1
          simp only [D.dpL] at h2
          simp only [D.wtL] at h3 ⊢
          exact FrL.cons (ih d h1.1 (by omega) (by omega)) (ih2 h1.2 (by omega) (by omega))
      simp only [D.dp] at hd
      exact Fr.tup (key l hp (by omega) hw)
    | ref k => simp [D.pl] at hp
    | int i => exact leafI (n + 1) i hw
    | str s => exact Fr.str hp (Nat.le_refl _)
    | non => exact Fr.non (Nat.le_refl _)
    | bl b => exact Fr.bl (Nat.le_refl _)
theorem pr_fr {T : Fz} {A : Hpp} (hb : 2 ^ 320 ≤ T.b) : ∀ q : Pr, q.ok 2 → q.lv (Tg 2) → Fr T A (q.hgt + 3) (400 * q.cnt.toNat - 7) q.d
  | .leaf d, h, hl => by
    have gw := hl.wt
    have f1 : Fr T A 2 4 (.str (Str.ofString "leaf")) := Fr.str (by decide +kernel) (by decide +kernel)
    exact (Fr.tup (FrL.cons f1 (FrL.cons ((fr_pure hb 2 d hl.pl hl.dp (by omega))) FrL.nil))).mono (by simp [Pr.hgt]) (by simp only [Pr.cnt]; omega)
  | .cut m n, h, _ => by
    obtain ⟨h1, h2, h3, h4⟩ := h
    have f1 : Fr T A 2 3 (.str (Str.ofString "cut")) := Fr.str (by decide +kernel) (by decide +kernel)
    have f2 : Fr T A 1 51 (.int m) := Fr.int (by omega) (by omega)
    have f3 : Fr T A 1 51 (.int n) := Fr.int (by omega) (by omega)
    have f4 : Fr T A 2 104 (labD m n) := (Fr.tup (FrL.cons f2 (FrL.cons f3 FrL.nil))).mono (Nat.le_refl _) (by omega)
    exact (Fr.tup (FrL.cons f1 (FrL.cons f4 FrL.nil))).mono (by simp [Pr.hgt]) (by simp only [Pr.cnt]; omega)
  | .fork l r, h, hl => by
    have c1 := cnt_pos h.1
    have c2 := cnt_pos h.2
    have f1 : Fr T A (max l.hgt r.hgt + 3) 4 (.str (Str.ofString "fork")) := Fr.str (by decide +kernel) (by decide +kernel)
    have fl := (pr_fr (A := A) hb l h.1 hl.1).mono (m := max l.hgt r.hgt + 3) (by omega) (Nat.le_refl _)
    have fr := (pr_fr (A := A) hb r h.2 hl.2).mono (m := max l.hgt r.hgt + 3) (by omega) (Nat.le_refl _)
    exact (Fr.tup (FrL.cons f1 (FrL.cons fl (FrL.cons fr FrL.nil)))).mono (by simp only [Pr.hgt]; omega) (by simp only [Pr.cnt]; omega)
end Rf
namespace Rf.Tq
open PySem PySem.Spec L2
local macro_rules | `(tactic| walk_at "ex") => `(tactic| try simp (decide := true) only [x_ret, x_retN, x_asg, x_if, x_drop, x_nilS, x_for, x_var, x_c, x_un, x_bin, x_test, x_and, x_or, x_not, x_ifE, x_nil, x_cons, x_tup, x_lst, x_b, x_meth, x_oNone, x_oSome, x_slice, x_call, x_gVar, x_gSub, x_range1, x_lc, x_yes, x_rg1, wipeL,
  R.bind_ok, ok_bind, ok_ok, gather, optAll, List.map_cons, List.map_nil, List.getElem?_cons_zero, List.getElem?_cons_succ, List.set_cons_zero, List.set_cons_succ, Option.map_some, List.length_cons, List.length_nil,
  List.nil_append, List.cons_append, List.replicate, Nat.reduceAdd, Nat.reduceSub, and_self, if_true, if_false, true_and, and_true, Nat.reduceEqDiff, truth_bl, ofO_some, reduceCtorEq, decide_true, decide_false, Bool.false_eq_true, Bool.not_true, Bool.not_false, or_self, or_true, true_or, or_false, false_or,
  opAdd_int, opSub_int, cmpLt_int, cmpLe_int, cmpGt_int, cmpGe_int, cmpIs_non, cmpIsNot_non, isi_str, isi_non, isi_int, isi_tup, isi_bl, len_tup, ord_one, sizeLine_eq, Nat.reduceLeDiff, x_bk, x_aug, x_par, tl_nil, tl_cons, x_tlNil, x_tlCons, x_gTup, x_gTupT, x_gStar1, ixt0, ixt1, ixt2, cmpEq_str, cmpNe_str, cmpEq_int, cmpNe_int, s_ff, s_lf, s_cf, s_cl, s_lc, s_fc, s_fl, cmpIs_bl, cmpIsNot_bl])
local macro_rules | `(tactic| walk_at "st") => `(tactic| (refine x_seq.mpr ?_; walk_at "ex"))
def PrunL (k : Nat) (f : CF) : Prop := ∀ B t c n A p (l : List D) (b cuts : Int), TapAt B t c → Tp B t c n A → B[p]? = some (.lst l) → p ≠ t → (∀ d ∈ l, Tg 2 d) → 1 ≤ l.length → l.length ≤ k → 0 < b → b ≤ 2 ^ 40 → 1 ≤ cuts → cuts ≤ 100 → n + 2 * l.length - 1 < 1000000 →
  Ok (f [.ref t, .ref p, .int b, .int cuts] A) fun d A' => ∃ q : Pr, d = q.d ∧ q.ok 2 ∧ q.lv (Tg 2) ∧ q.hgt < l.length ∧ q.cnt = l.length ∧ Tp B t c (n + 2 * l.length - 1) A'
theorem prunl_ok {c_prun c_split c_take c_lbl : CF} (ht : TakeS c_take) (hs : SplitS c_split) {k : Nat} (hk9 : k ≤ 10000) (hlb : LblS 2 k c_lbl) (hk : ∀ i, i < k → PrunL i c_prun) : PrunL k (run 5 4 (G__law_pruned c_prun c_split c_take c_lbl)) := by
  intro B t c n A p l b cuts T h hp hpt hl h1 hlk hb hb2 hc1 hc2 hN
  refine ok_run rfl ?_
  unfold G__law_pruned
  walk_at "st"
  refine Ok.mono (ht B t c n A cuts T h (by omega) (by omega) (by omega)) ?_
  rintro _ A1 ⟨w, rfl, w1, w2, h1'⟩
  have hp1 : A1[p]? = some (.lst l) := by rw [tp_get h1' hpt]; exact hp
  walk_at "ex"
  by_cases hw : w = 0
  · rw [if_pos (by rw [decide_eq_true_eq]; exact hw)]
    walk_at "st"
    obtain ⟨m, e, g1, g2⟩ := hlb p l b A1 hp1 (fun d hd => ⟨(hl d hd).th, (hl d hd).dp⟩) h1 hlk hb (by omega)
    rw [e]
    walk_at "ex"
    rw [tp_gc0 h h1', ok_ok]
    exact ⟨.cut m l.length, rfl, ⟨g1, by omega, by omega, by omega⟩, trivial, by simp only [Pr.hgt]; omega, rfl, h1'.mono (by omega)⟩
  · rw [if_neg (by rw [decide_eq_true_eq]; exact hw)]
    walk_at "ex"
    walk_at "st"
    rw [len_lst hp1]
    walk_at "ex"
    by_cases h2 : l.length = 1
    · rw [if_pos (by rw [decide_eq_true_eq]; omega)]
      obtain ⟨d, rfl⟩ := List.length_eq_one_iff.mp h2
      walk_at "st"
      rw [ixl0 hp1]
      walk_at "ex"
      rw [tp_gc0 h h1', ok_ok]
      exact ⟨.leaf d, rfl, (hl d (by simp)).leaf (by decide), hl d (by simp), by simp [Pr.hgt], rfl, h1'.mono (by simp)⟩
    · rw [if_neg (by rw [decide_eq_true_eq]; omega)]
      walk_at "ex"
      walk_at "st"
      rw [len_lst hp1]
      walk_at "ex"
      rw [hs _ A1 (by omega) (by omega)]
      walk_at "ex"
      obtain ⟨s1, s2⟩ := spl_rng (n := (l.length : Int)) (by omega)
      generalize spl (l.length : Int) = q at s1 s2
      walk_at "st"
      rw [sl_lst hp1, cut_lo l (by omega) (by omega)]
      walk_at "ex"
      have pB : p < B.length := (List.getElem?_eq_some_iff.mp hp).1
      have l1 : (l.take q.toNat).length = q.toNat := by simp; omega
      have l2 : (l.drop q.toNat).length = l.length - q.toNat := by simp
      have g1 : ∀ d ∈ l.take q.toNat, Tg 2 d := fun d hd => hl d (List.mem_of_mem_take hd)
      have g2 : ∀ d ∈ l.drop q.toNat, Tg 2 d := fun d hd => hl d (List.mem_of_mem_drop hd)
      generalize l.take q.toNat = la at l1 g1
      have T1 := tapAt_list T (l := la) fun d hd => pl_low d (g1 d hd).pl
      have k1 := (tp_app (X := [.lst la]) T).mpr ⟨A1, rfl, h1'⟩
      rw [tp_len h1']
      refine Ok.mono (hk (k - 1) (by omega) _ t c _ _ B.length la b cuts T1 k1 at_end (by have := T.ht; omega) g1 (by omega) (by omega) hb hb2 hc1 hc2 (by omega)) ?_
      rintro _ A2 ⟨x, rfl, x1, xl, x2, x3, k2⟩
      obtain ⟨A3, rfl, k3⟩ := (tp_app T).mp k2
      walk_at "ex"
      have hp2 : (A3 ++ [HOb.lst la])[p]? = some (.lst l) := by rw [tp_get k2 hpt, List.getElem?_append_left pB]; exact hp
      rw [sl_lst hp2, cut_hi l (by omega) (by omega)]
      walk_at "ex"
      generalize l.drop q.toNat = lb at l2 g2
      have T2 := tapAt_list T1 (l := lb) fun d hd => pl_low d (g2 d hd).pl
      have k4 := (tp_app (X := [.lst lb]) T1).mpr ⟨_, rfl, k2⟩
      rw [tp_len k2]
      refine Ok.mono (hk (k - 1) (by omega) _ t c _ _ (B ++ [HOb.lst la]).length lb b cuts T2 k4 at_end (by have := T1.ht; omega) g2 (by omega) (by omega) hb hb2 hc1 hc2 (by omega)) ?_
      rintro _ A4 ⟨y, rfl, y1, yl, y2, y3, k5⟩
      obtain ⟨A5, rfl, k6⟩ := (tp_app T1).mp k5
      obtain ⟨A6, rfl, k7⟩ := (tp_app T).mp k6
      walk_at "ex"
      have hq : (Pr.fork x y).ok 2 := ⟨x1, y1⟩
      rw [List.append_assoc]
      have e0 := tp_gc (X := [HOb.lst la] ++ [HOb.lst lb]) (d := (Pr.fork x y).d) T h k7 (pr_low hq)
      rw [show D.tup [D.str (Str.ofString "fork"), x.d, y.d] = (Pr.fork x y).d from rfl, e0, ok_ok]
      refine ⟨.fork x y, rfl, hq, ⟨xl, yl⟩, by simp only [Pr.hgt]; omega, by simp only [Pr.cnt]; omega, k7.mono (by omega)⟩
/-! ### a list that grows -/
def wj (T : Fz) (j : Nat) : Fz := ⟨j :: T.t, T.b⟩
def Nr (T : Fz) (B : Hpp) (t c k N W : Nat) (A' : Hpp) (j : Nat) (m : List D) : Prop := ∃ X, TapAt (B ++ X) t c ∧ Tp (B ++ X) t c k A' ∧ B.length ≤ j ∧ A'[j]? = some (.lst m) ∧ ∀ e ∈ m, Fr (wj T j) A' N W e
theorem low_all {T : Fz} {A : Hpp} {n w : Nat} : ∀ {l : List D}, (∀ d ∈ l, Fr T A n w d) → D.lowL A.length l = true
  | [], _ => rfl
  | d :: l, h => by simp only [D.lowL, (h d (List.mem_cons_self ..)).low, low_all fun e he => h e (List.mem_cons_of_mem _ he)]; rfl
theorem wj_new {T : Fz} {A X : Hpp} {n w j : Nat} {d : D} (h : Fr T A n w d) (hj : A.length ≤ j) : Fr (wj T j) (A ++ X) n w d :=
  Fr.to (T := T) (T' := wj T j) (Nat.le_refl _) (fun k l hk a b => ⟨fun z => by
    simp only [wj, List.mem_cons] at z
    rcases z with z | z
    · omega
    · exact a z, by rw [List.getElem?_append_left hk]; exact b⟩) (Nat.le_refl _) (Nat.le_refl _) h
theorem wj_old {T : Fz} {A : Hpp} {n w j : Nat} {d : D} (h : Fr (wj T j) A n w d) : Fr T A n w d :=
  Fr.to (T := wj T j) (T' := T) (Nat.le_refl _) (fun k l hk a b => ⟨fun z => a (by simp [wj, z]), b⟩) (Nat.le_refl _) (Nat.le_refl _) h
/-- a first list -/
theorem nr_start {T : Fz} {B X A : Hpp} {t c k N W : Nat} {m : List D} (TX : TapAt (B ++ X) t c) (h : Tp (B ++ X) t c k A) (hm : ∀ e ∈ m, Fr T A N W e) : Nr T B t c k N W (A ++ [.lst m]) A.length m := by
  refine ⟨X ++ [.lst m], ?_, ?_, ?_, at_end, fun e he => wj_new (hm e he) (Nat.le_refl _)⟩
  · rw [← List.append_assoc]; exact tapAt_fr TX (by rw [← tp_len h]; exact low_all hm)
  · rw [← List.append_assoc]; exact (tp_app TX).mpr ⟨A, rfl, h⟩
  · rw [tp_len h]; simp
/-- a list made beside -/
theorem nr_side {T : Fz} {B A : Hpp} {t c k N W j : Nat} {m g : List D} (h : Nr T B t c k N W A j m) (hg : D.lowL A.length g = true) : Nr T B t c k N W (A ++ [.lst g]) j m := by
  obtain ⟨X, TX, hX, hj, hl, hm⟩ := h
  refine ⟨X ++ [.lst g], ?_, ?_, hj, ?_, fun e he => fr_app (hm e he)⟩
  · rw [← List.append_assoc]; exact tapAt_fr TX (by rw [← tp_len hX]; exact hg)
  · rw [← List.append_assoc]; exact (tp_app TX).mpr ⟨A, rfl, hX⟩
  · rw [List.getElem?_append_left (List.getElem?_eq_some_iff.mp hl).1]; exact hl
theorem nr_add {T : Fz} {B A : Hpp} {t c k N W j : Nat} {m g : List D} (h : Nr T B t c k N W A j m) (hg : ∀ e ∈ g, Fr T A N W e) (hl : m.length + g.length ≤ 1000) :
    opAdd (.ref j) (.ref A.length) (A ++ [.lst g]) = .ok (.ref (A ++ [HOb.lst g]).length) (A ++ [.lst g] ++ [.lst (m ++ g)]) ∧ Nr T B t c k N W (A ++ [.lst g] ++ [.lst (m ++ g)]) (A ++ [HOb.lst g]).length (m ++ g) := by
  have h1 := nr_side h (low_all hg)
  obtain ⟨X, TX, hX, hj, hlj, hm⟩ := h1
  refine ⟨add_lst hlj at_end (by rw [sizeLine_eq]; omega), nr_start TX hX fun e he => ?_⟩
  rcases List.mem_append.mp he with z | z
  · exact wj_old (hm e z)
  · exact fr_app (hg e z)
theorem nr_app {T : Fz} {B A : Hpp} {t c k N W j : Nat} {m : List D} {e : D} (h : Nr T B t c k N W A j m) (htB : t < B.length) (hcB : c < B.length) (he : Fr (wj T j) A N W e) (hl : m.length < 1000) :
    isLst (.ref j) A = true ∧ mAppend (.ref j) [e] A = .ok .non (A.set j (.lst (m ++ [e]))) ∧ Nr T B t c k N W (A.set j (.lst (m ++ [e]))) j (m ++ [e]) := by
  obtain ⟨X, TX, hX, hj, hlj, hm⟩ := h
  have hjA : j < (B ++ X).length := by rw [← tp_len hX]; exact (List.getElem?_eq_some_iff.mp hlj).1
  have fa : ∀ x ∈ m ++ [e], Fr (wj T j) A N W x := fun x hx => (List.mem_append.mp hx).elim (hm x) (fun z => by rw [List.mem_singleton.mp z]; exact he)
  refine ⟨isl_at hlj, app_at hlj (by rw [sizeLine_eq]; omega), X.set (j - B.length) (.lst (m ++ [e])), ?_, ?_, hj, ?_, fun x hx => ?_⟩
  · have e1 : B ++ X.set (j - B.length) (.lst (m ++ [e])) = (B ++ X).set j (.lst (m ++ [e])) := by rw [List.set_append_right _ _ hj]
    rw [e1]
    obtain ⟨ht, hcl, ne, ⟨zs, hz, hl⟩, cl⟩ := TX
    exact ⟨by simpa using ht, by simpa using hcl, ne, ⟨zs, by rw [List.getElem?_set_ne (by omega)]; exact hz, hl⟩, cl_set cl (by rw [← tp_len hX]; exact low_all fa)⟩
  · have e1 : B ++ X.set (j - B.length) (.lst (m ++ [e])) = (B ++ X).set j (.lst (m ++ [e])) := by rw [List.set_append_right _ _ hj]
    rw [e1]
    obtain ⟨s, r, i, h1, h2, h3, h4, rfl⟩ := hX
    exact ⟨s, r, i, h1, h2, h3, h4, List.set_comm _ _ (by omega)⟩
  · exact List.getElem?_set_self (by rw [tp_len hX]; exact hjA)
  · refine (fa x hx).to (Nat.le_refl _) (fun q l hq a b => ⟨a, ?_⟩) (Nat.le_refl _) (Nat.le_refl _)
    have : j ≠ q := fun z => a (by simp [wj, z])
    rw [List.getElem?_set_ne this]; exact b
theorem nr_gc {T : Fz} {B A A' : Hpp} {t c k0 k N W j : Nat} {m : List D} (TB : TapAt B t c) (h0 : Tp B t c k0 A) (hT : ∀ x ∈ T.t, x < B.length) (h : Nr T B t c k N W A' j m) :
    Ok (gcR A (.ref j) A') fun d' A'' => ∃ X' j', d' = .ref j' ∧ TapAt (B ++ X') t c ∧ Tp (B ++ X') t c k A'' ∧ A''[j']? = some (.lst m) ∧ B.length ≤ j' ∧ ∀ e ∈ m, Fr T A'' N W e := by
  obtain ⟨X, TX, hX, hj, hlj, hm⟩ := h
  have hjA : A.length ≤ j := by rw [tp_len h0]; exact hj
  refine Ok.mono (gc_frl (T := T) TB h0 TX hX hlj hjA) ?_
  rintro d' A'' ⟨X', j', rfl, a, b, e, jb, f⟩
  exact ⟨X', j', rfl, a, b, e, jb, fun x hx => f x hx _ _ (wj_old (hm x hx))⟩
end Rf.Tq
namespace Rf
open PySem PySem.Spec L2
local macro_rules | `(tactic| walk_at "ex") => `(tactic| try simp only [x_ret, x_retN, x_asg, x_if, x_drop, x_nilS, x_for, x_var, x_c, x_un, x_bin, x_test, x_and, x_or, x_not, x_ifE, x_nil, x_cons, x_tup, x_lst, x_b, x_meth, x_oNone, x_oSome, x_slice, x_call, x_gVar, x_gSub, x_range1, x_lc, x_yes, x_rg1, wipeL,
  R.bind_ok, ok_bind, ok_ok, gather, optAll, List.map_cons, List.map_nil, List.getElem?_cons_zero, List.getElem?_cons_succ, List.set_cons_zero, List.set_cons_succ, Option.map_some, List.length_cons, List.length_nil,
  List.nil_append, List.cons_append, List.replicate, Nat.reduceAdd, Nat.reduceSub, and_self, if_true, if_false, true_and, and_true, Nat.reduceEqDiff, truth_bl, ofO_some, reduceCtorEq, decide_true, decide_false, Bool.false_eq_true, Bool.not_true, Bool.not_false, or_self, or_true, true_or, or_false, false_or,
  opAdd_int, opSub_int, cmpLt_int, cmpLe_int, cmpGt_int, cmpGe_int, cmpIs_non, cmpIsNot_non, isi_str, isi_non, isi_int, isi_tup, isi_bl, len_tup, ord_one, sizeLine_eq, Nat.reduceLeDiff])
local macro_rules | `(tactic| walk_at "st") => `(tactic| (refine x_seq.mpr ?_; walk_at "ex"))
/-! ### drawn things, their weights told more narrowly -/
def wtB : Nat → Nat
  | 0 => 10
  | j + 1 => 3 * (wtB j + 1)
theorem wtB_ge (j : Nat) : 10 ≤ wtB j := by induction j <;> simp only [wtB] <;> omega
def Tgb (j : Nat) (d : D) : Prop := Tg j d ∧ ∀ (T : Fz) (A : Hpp), 2 ^ 11 ≤ T.b → Fr T A j (wtB j) d
theorem tgb_int {j : Nat} {i : Int} (h1 : -1000 < i) (h2 : i < 1001) : Tgb j (.int i) :=
  ⟨tgd_int h1 (by omega), fun T A hb => (Fr.int (w := 10) (by omega) (by omega)).mono (Nat.le_refl _) (wtB_ge j)⟩
theorem tgb_texts {j : Nat} : ∀ d ∈ [D.non, .str "", .str "a", .str "b", .str "ab", .str "ba", .str "row 9", .str "~!", .str "leaf"], Tgb j d := by
  intro d hd
  refine ⟨tgd_texts d hd, fun T A hb => ?_⟩
  have key : ([D.non, .str "", .str "a", .str "b", .str "ab", .str "ba", .str "row 9", .str "~!", .str "leaf"].all fun d => frB (2 ^ 11) 0 10 d) = true := by decide +kernel
  exact (Fr.cst (List.all_eq_true.mp key d hd) hb).mono (Nat.zero_le _) (wtB_ge j)
theorem tgb_tup {j : Nat} {l : List D} (h : ∀ d ∈ l, Tgb j d) (hl : l.length ≤ 3) : Tgb (j + 1) (.tup l) := by
  refine ⟨tgd_tup (fun d hd => (h d hd).1) hl, fun T A hb => ?_⟩
  have key : ∀ l : List D, (∀ d ∈ l, Tgb j d) → FrL T A j (l.length * (wtB j + 1)) l := by
    intro l
    induction l with
    | nil => intro _; exact FrL.nil.mono (Nat.le_refl _) (Nat.zero_le _)
    | cons d l ih =>
      intro h
      refine (FrL.cons ((h d (List.mem_cons_self ..)).2 T A hb) (ih fun e he => h e (List.mem_cons_of_mem _ he))).mono (Nat.le_refl _) ?_
      rw [List.length_cons, Nat.succ_mul]; omega
  refine (Fr.tup (key l h)).mono (Nat.le_refl _) ?_
  show l.length * (wtB j + 1) ≤ 3 * (wtB j + 1)
  exact Nat.mul_le_mul_right _ hl
def ThB (j : Nat) (f : CF) : Prop := ∀ B t c n A, TapAt B t c → Tp B t c n A → n + TN j < 1000000 → Ok (f [.ref t, .int j] A) fun d A' => Tp B t c (n + TN j) A' ∧ Tgb j d
theorem thingb_ok {c_take c_thing : CF} (ht : TakeS c_take) : ∀ j : Nat, (∀ i, i < j → ThB i c_thing) → ThB j (run 5 2 (G__law_thing c_take c_thing)) := by
  intro j hj B t c n A T h hN
  have tn : 2 ≤ TN j := by cases j <;> simp [TN]
  refine ok_run rfl ?_
  unfold G__law_thing
  refine x_seq.mpr ?_
  walk_at "ex"
  refine Ok.mono (ht B t c n A 9 T h (by omega) (by decide) (by decide)) ?_
  rintro _ A1 ⟨w, rfl, w1, w2, h1⟩
  walk_at "ex"
  walk_at "st"
  by_cases hw : 5 < w ∧ 0 < (j : Int)
  · obtain ⟨hw1, hw2⟩ := hw
    obtain ⟨i, rfl⟩ : ∃ i, j = i + 1 := ⟨j - 1, by omega⟩
    simp only [TN] at hN
    rw [if_pos (by simpa using hw1)]
    walk_at "ex"
    rw [if_pos (by simpa using hw2)]
    walk_at "st"
    refine Ok.mono (ht B t c _ A1 4 T h1 (by omega) (by decide) (by decide)) ?_
    rintro _ A2 ⟨u, rfl, u1, u2, h2⟩
    walk_at "ex"
    rw [if_pos (by unfold okEnd; omega)]
    walk_at "ex"
    rw [tp_len h2]
    refine Ok.mono (lc_tap (P := Tgb i) (m := TN i) (N := n + 2 + 3 * TN i) T (fun d hd => pl_low d hd.1.pl) ?_ (rangeD 0 u.toNat) [] (n + 2) A2 h2 ?_ (by simp) ?_) ?_
    · intro B n A k T h hn
      walk_at "ex"
      have := hj i (by omega) B t c n A T h (by omega)
      have e : ((i + 1 : Nat) : Int) - 1 = (i : Int) := by omega
      rw [e]
      exact this
    · rw [range_len]
      have : TN i * u.toNat ≤ TN i * 3 := Nat.mul_le_mul_left _ (by omega)
      omega
    · rw [range_len, sizeLine_eq]; simp; omega
    · rintro _ A3 ⟨A4, acc, rfl, h4, ha, hl⟩
      walk_at "ex"
      have eg : (A4 ++ [HOb.lst acc])[B.length]? = some (.lst acc) := by rw [← tp_len h4]; simp
      simp only [bTuple, eg]
      walk_at "ex"
      have tg := tgb_tup ha (by rw [hl, range_len]; simp; omega)
      rw [tp_gc T h h4 (pl_low _ tg.1.pl), ok_ok]
      refine ⟨h4.mono ?_, tg⟩
      rw [range_len]
      have : TN i * u.toNat ≤ TN i * 3 := Nat.mul_le_mul_left _ (by omega)
      simp only [TN]; omega
  · have cond : Ok (if decide (5 < w) = true then R.ok (D.bl (decide (0 < (j : Int)))) A1 else R.ok (D.bl (decide (5 < w))) A1) fun a A => a = .bl false ∧ A = A1 := by
      by_cases q : 5 < w
      · rw [if_pos (by simpa using q), ok_ok]
        refine ⟨?_, rfl⟩
        rw [decide_eq_false]
        intro z; exact hw ⟨q, z⟩
      · rw [if_neg (by simpa using q), ok_ok, decide_eq_false q]
        exact ⟨rfl, rfl⟩
    refine Ok.mono cond ?_
    rintro _ A1 ⟨rfl, rfl⟩
    walk_at "ex"
    walk_at "st"
    by_cases q : 2 < w
    · rw [if_pos (by simpa using q)]
      walk_at "st"
      refine Ok.mono (ht B t c _ A1 2000 T h1 (by omega) (by decide) (by decide)) ?_
      rintro _ A2 ⟨u, rfl, u1, u2, h2⟩
      walk_at "ex"
      rw [tp_gc0 h h2, ok_ok]
      exact ⟨h2.mono (by omega), tgb_int (by omega) (by omega)⟩
    · rw [if_neg (by simpa using q)]
      walk_at "ex"
      walk_at "st"
      walk_at "st"
      refine Ok.mono (ht _ t c _ _ 9 (tapAt_list T (l := [D.non, .str "", .str "a", .str "b", .str "ab", .str "ba", .str "row 9", .str "~!", .str "leaf"]) fun d hd => pl_low d (tgb_texts (j := j) d hd).1.pl) ((tp_app T).mpr ⟨A1, rfl, h1⟩) (by omega) (by decide) (by decide)) ?_
      rintro _ A2 ⟨u, rfl, u1, u2, h2⟩
      obtain ⟨A3, rfl, h3⟩ := (tp_app T).mp h2
      obtain ⟨d, hd, he, _⟩ := atI_get (l := [D.non, .str "", .str "a", .str "b", .str "ab", .str "ba", .str "row 9", .str "~!", .str "leaf"]) u1 (by simpa using u2)
      have hg := tgb_texts (j := j) d hd
      rw [ixS (l := [D.non, .str "", .str "a", .str "b", .str "ab", .str "ba", .str "row 9", .str "~!", .str "leaf"]) (by rw [tp_len h1, ← tp_len h3]; simp), he]
      walk_at "ex"
      rw [tp_gc T h h3 (pl_low _ hg.1.pl), ok_ok]
      exact ⟨h3.mono (by omega), hg⟩
theorem x_par3 {i j l : Nat} {r : ML} {L : Loc} {A : Hpp} : sPar3 i j l r L A = (r L A).bind fun vs A1 => match vs with
  | [v, w, u] => .ok (.nx (((L.set i (some v)).set j (some w)).set l (some u))) A1
  | _ => .bad := rfl
theorem x_range3 {a b c : M} {L : Loc} {A : Hpp} : srcRange3 a b c L A = (a L A).bind fun x A1 => (b L A1).bind fun y A2 => (c L A2).bind fun z A3 => match x, y, z with
  | .int i, .int j, .int k => if RgC i j k (Builtin.Range.rangeSize i j k).toNat then .ok (.its (rangeC i k (Builtin.Range.rangeSize i j k).toNat)) A3 else .bad
  | _, _, _ => .bad := rfl
end Rf
namespace Rf.Tq
open PySem PySem.Spec L2
theorem ext_at {A : Hpp} {n p : Nat} {l r : List D} (h : A[n]? = some (.lst l)) (hp : A[p]? = some (.lst r)) (hl : l.length + r.length ≤ sizeLine) : mExtend (.ref n) [.ref p] A = .ok .non (A.set n (.lst (l ++ r))) := by
  simp [mExtend, h, hp, hl]
theorem nr_ext {T : Fz} {B A : Hpp} {t c k N W j p : Nat} {m g : List D} (h : Nr T B t c k N W A j m) (htB : t < B.length) (hcB : c < B.length) (hp : A[p]? = some (.lst g)) (he : ∀ e ∈ g, Fr (wj T j) A N W e) (hl : m.length + g.length < 1000) :
    isLst (.ref j) A = true ∧ mExtend (.ref j) [.ref p] A = .ok .non (A.set j (.lst (m ++ g))) ∧ Nr T B t c k N W (A.set j (.lst (m ++ g))) j (m ++ g) := by
  obtain ⟨X, TX, hX, hj, hlj, hm⟩ := h
  have hjA : j < (B ++ X).length := by rw [← tp_len hX]; exact (List.getElem?_eq_some_iff.mp hlj).1
  have fa : ∀ x ∈ m ++ g, Fr (wj T j) A N W x := fun x hx => (List.mem_append.mp hx).elim (hm x) (he x)
  refine ⟨isl_at hlj, ext_at hlj hp (by rw [sizeLine_eq]; omega), X.set (j - B.length) (.lst (m ++ g)), ?_, ?_, hj, ?_, fun x hx => ?_⟩
  · have e1 : B ++ X.set (j - B.length) (.lst (m ++ g)) = (B ++ X).set j (.lst (m ++ g)) := by rw [List.set_append_right _ _ hj]
    rw [e1]
    obtain ⟨ht, hcl, ne, ⟨zs, hz, hl⟩, cl⟩ := TX
    exact ⟨by simpa using ht, by simpa using hcl, ne, ⟨zs, by rw [List.getElem?_set_ne (by omega)]; exact hz, hl⟩, cl_set cl (by rw [← tp_len hX]; exact low_all fa)⟩
  · have e1 : B ++ X.set (j - B.length) (.lst (m ++ g)) = (B ++ X).set j (.lst (m ++ g)) := by rw [List.set_append_right _ _ hj]
    rw [e1]
    obtain ⟨s, r, i, h1, h2, h3, h4, rfl⟩ := hX
    exact ⟨s, r, i, h1, h2, h3, h4, List.set_comm _ _ (by omega)⟩
  · exact List.getElem?_set_self (by rw [tp_len hX]; exact hjA)
  · refine (fa x hx).to (Nat.le_refl _) (fun q l hq a b => ⟨a, ?_⟩) (Nat.le_refl _) (Nat.le_refl _)
    have : j ≠ q := fun z => a (by simp [wj, z])
    rw [List.getElem?_set_ne this]; exact b
end Rf.Tq
namespace Rf.Tq.K03
open PySem PySem.Spec L2
/-! ### the text by places -/
def top (i : Nat) : Stmt := PySem.Challenge.pw_sealedrows_k03_collisions_judged.main.body.getD i (.Pass ⟨0, 0, 0, 0⟩)
def i_is_number : FnI := { name := "is_number", qual := "is_number", params := defArgs (top 4), body := defBody (top 4), scope := defScope (top 4), N := ["thing"], ps := ["thing"] }
def i_is_thing : FnI := { name := "is_thing", qual := "is_thing", params := defArgs (top 5), body := defBody (top 5), scope := defScope (top 5), N := ["thing", "one"], ps := ["thing"] }
def i_mix_of : FnI := { name := "mix_of", qual := "mix_of", params := defArgs (top 6), body := defBody (top 6), scope := defScope (top 6), N := ["one", "other", "base"], ps := ["one", "other", "base"] }
def i_mark_of : FnI := { name := "mark_of", qual := "mark_of", params := defArgs (top 7), body := defBody (top 7), scope := defScope (top 7), N := ["thing", "base", "found", "sign", "one"], ps := ["thing", "base"] }
def i_kind_of : FnI := { name := "kind_of", qual := "kind_of", params := defArgs (top 8), body := defBody (top 8), scope := defScope (top 8), N := ["thing"], ps := ["thing"] }
def i_are_unlike : FnI := { name := "are_unlike", qual := "are_unlike", params := defArgs (top 9), body := defBody (top 9), scope := defScope (top 9), N := ["one", "other", "mine", "theirs"], ps := ["one", "other"] }
def i_is_collision : FnI := { name := "is_collision", qual := "is_collision", params := defArgs (top 10), body := defBody (top 10), scope := defScope (top 10), N := ["thing", "base", "one", "other"], ps := ["thing", "base"] }
def i__law_tap : FnI := { name := "_law_tap", qual := "_law_tap", params := defArgs (top 12), body := defBody (top 12), scope := defScope (top 12), N := ["_law_script"], ps := ["_law_script"] }
def i__law_take : FnI := { name := "_law_take", qual := "_law_take", params := defArgs (top 13), body := defBody (top 13), scope := defScope (top 13), N := ["_law_tap_here", "_law_many", "_law_calls", "_law_figure", "_law_spot", "_law_cells", "_law_cell", "_law_once"], ps := ["_law_tap_here", "_law_many"] }
def i__law_odd : FnI := { name := "_law_odd", qual := "_law_odd", params := defArgs (top 14), body := defBody (top 14), scope := defScope (top 14), N := ["_law_tap_here", "_law_some"], ps := ["_law_tap_here"] }
def i__law_bend : FnI := { name := "_law_bend", qual := "_law_bend", params := defArgs (top 15), body := defBody (top 15), scope := defScope (top 15), N := ["_law_tap_here", "_law_thing_here", "_law_deep", "_law_at", "_law_way"], ps := ["_law_tap_here", "_law_thing_here", "_law_deep"] }
def i__law_mix : FnI := { name := "_law_mix", qual := "_law_mix", params := defArgs (top 16), body := defBody (top 16), scope := defScope (top 16), N := ["_law_x", "_law_y", "_law_b"], ps := ["_law_x", "_law_y", "_law_b"] }
def i__law_mark : FnI := { name := "_law_mark", qual := "_law_mark", params := defArgs (top 17), body := defBody (top 17), scope := defScope (top 17), N := ["_law_thing_here", "_law_b", "_law_found", "_law_one"], ps := ["_law_thing_here", "_law_b"] }
def i__law_thing : FnI := { name := "_law_thing", qual := "_law_thing", params := defArgs (top 18), body := defBody (top 18), scope := defScope (top 18), N := ["_law_tap_here", "_law_deep", "_law_way", "_law_texts", "_law_k"], ps := ["_law_tap_here", "_law_deep"] }
def i__law_base : FnI := { name := "_law_base", qual := "_law_base", params := defArgs (top 19), body := defBody (top 19), scope := defScope (top 19), N := ["_law_tap_here"], ps := ["_law_tap_here"] }
def i__law_is_number : FnI := { name := "_law_is_number", qual := "_law_is_number", params := defArgs (top 20), body := defBody (top 20), scope := defScope (top 20), N := ["_law_thing_here"], ps := ["_law_thing_here"] }
def i__law_is_stuff : FnI := { name := "_law_is_stuff", qual := "_law_is_stuff", params := defArgs (top 21), body := defBody (top 21), scope := defScope (top 21), N := ["_law_thing_here", "_law_one"], ps := ["_law_thing_here"] }
def i__law_is_both : FnI := { name := "_law_is_both", qual := "_law_is_both", params := defArgs (top 22), body := defBody (top 22), scope := defScope (top 22), N := ["_law_thing_here", "_law_b"], ps := ["_law_thing_here", "_law_b"] }
def i__law_pairs : FnI := { name := "_law_pairs", qual := "_law_pairs", params := defArgs (top 23), body := defBody (top 23), scope := defScope (top 23), N := ["_law_tap_here", "_law_b", "_law_n", "_law_one", "_law_other", "_law_found", "_law_texts", "_law_k", "_law_j"], ps := ["_law_tap_here", "_law_b"] }
def i_law : FnI := { name := "law", qual := "law", params := defArgs (top 24), body := defBody (top 24), scope := defScope (top 24), N := ["_law_script", "_law_tap_here", "_law_b", "_law_things", "_law_k", "_law_bend_here", "_law_thing_here", "_law_kept"], ps := ["_law_script"] }
def g0_1 : List G := [.pos 0]
def g1_1 : List G := [.pos 0]
def g2_3 : List G := [.pos 0, .pos 1, .pos 2]
def g3_1_base : List G := [.pos 0, .kw 0]
def g5_2 : List G := [.pos 0, .pos 1]
def g4_1 : List G := [.pos 0]
def g8_2 : List G := [.pos 0, .pos 1]
def g9_1 : List G := [.pos 0]
def g10_3 : List G := [.pos 0, .pos 1, .pos 2]
def g11_3 : List G := [.pos 0, .pos 1, .pos 2]
def g12_2 : List G := [.pos 0, .pos 1]
def g13_2 : List G := [.pos 0, .pos 1]
def g15_1 : List G := [.pos 0]
def g16_1 : List G := [.pos 0]
def g6_1 : List G := [.pos 0, .df (.int 1000003)]
def g17_2 : List G := [.pos 0, .pos 1]
def g14_1 : List G := [.pos 0]
def g6_1_base : List G := [.pos 0, .kw 0]
def g18_2 : List G := [.pos 0, .pos 1]
def g7_1 : List G := [.pos 0]
def tb : Tb := {
  fns := [i_is_number, i_is_thing, i_mix_of, i_mark_of, i_kind_of, i_are_unlike, i_is_collision, i__law_tap, i__law_take, i__law_odd, i__law_bend, i__law_mix, i__law_mark, i__law_thing, i__law_base, i__law_is_number, i__law_is_stuff, i__law_is_both, i__law_pairs, i_law],
  pats := [⟨0, 1, [], g0_1⟩, ⟨1, 1, [], g1_1⟩, ⟨2, 3, [], g2_3⟩, ⟨3, 1, ["base"], g3_1_base⟩, ⟨5, 2, [], g5_2⟩, ⟨4, 1, [], g4_1⟩, ⟨8, 2, [], g8_2⟩, ⟨9, 1, [], g9_1⟩, ⟨10, 3, [], g10_3⟩, ⟨11, 3, [], g11_3⟩, ⟨12, 2, [], g12_2⟩, ⟨13, 2, [], g13_2⟩, ⟨15, 1, [], g15_1⟩, ⟨16, 1, [], g16_1⟩, ⟨6, 1, [], g6_1⟩, ⟨17, 2, [], g17_2⟩, ⟨14, 1, [], g14_1⟩, ⟨6, 1, ["base"], g6_1_base⟩, ⟨18, 2, [], g18_2⟩, ⟨7, 1, [], g7_1⟩],
  consts := [("TUPLE_START", (.int 13)), ("TEXT_START", (.int 17))],
  nos := ["isinstance", "int", "bool", "str", "tuple", "all", "len", "ord", "any", "zip", "list", "range", "repr"] }
def b_is_number (F : FE) : S := G_is_number
def f_is_number : Fn := ⟨1, 1, b_is_number⟩
def b_is_thing (F : FE) : S := G_is_thing (F 0) (F 1)
def f_is_thing : Fn := ⟨2, 1, b_is_thing⟩
def b_mix_of (F : FE) : S := G_mix_of
def f_mix_of : Fn := ⟨3, 3, b_mix_of⟩
def b_mark_of (F : FE) : S := G_mark_of (F 2) (F 3)
def f_mark_of : Fn := ⟨5, 2, b_mark_of⟩
def b_kind_of (F : FE) : S := G_kind_of
def f_kind_of : Fn := ⟨1, 1, b_kind_of⟩
def b_are_unlike (F : FE) : S := G_are_unlike (F 5) (F 4)
def f_are_unlike : Fn := ⟨4, 2, b_are_unlike⟩
def b_is_collision (F : FE) : S := G_is_collision (F 5) (F 3) (F 1)
def f_is_collision : Fn := ⟨4, 2, b_is_collision⟩
def b__law_tap (F : FE) : S := G__law_tap
def f__law_tap : Fn := ⟨1, 1, b__law_tap⟩
def b__law_take (F : FE) : S := G__law_take
def f__law_take : Fn := ⟨8, 2, b__law_take⟩
def b__law_odd (F : FE) : S := G__law_odd (F 8)
def f__law_odd : Fn := ⟨2, 1, b__law_odd⟩
def b__law_bend (F : FE) : S := G__law_bend (F 9) (F 8) (F 10)
def f__law_bend : Fn := ⟨5, 3, b__law_bend⟩
def G__law_mix : S :=
    (sSeq (sRet (mBin opMod (mBin opAdd (mBin opAdd (mBin opAdd (mBin opMul (mBin opMul (mC (.int 3)) (mVar 0)) (mVar 0)) (mBin opMul (mC (.int 5)) (mVar 1))) (mBin opMul (mVar 0) (mVar 1))) (mC (.int 11))) (mVar 2)))
    sNil)
def b__law_mix (F : FE) : S := G__law_mix
def f__law_mix : Fn := ⟨3, 3, b__law_mix⟩
def b__law_mark (F : FE) : S := G__law_mark (F 11) (F 12)
def f__law_mark : Fn := ⟨4, 2, b__law_mark⟩
def b__law_thing (F : FE) : S := G__law_thing (F 8) (F 13)
def f__law_thing : Fn := ⟨5, 2, b__law_thing⟩
def b__law_base (F : FE) : S := G__law_base (F 8)
def f__law_base : Fn := ⟨1, 1, b__law_base⟩
def b__law_is_number (F : FE) : S := G__law_is_number
def f__law_is_number : Fn := ⟨1, 1, b__law_is_number⟩
def b__law_is_stuff (F : FE) : S := G__law_is_stuff (F 15) (F 16)
def f__law_is_stuff : Fn := ⟨2, 1, b__law_is_stuff⟩
def b__law_is_both (F : FE) : S := G__law_is_both (F 12) (F 16)
def f__law_is_both : Fn := ⟨2, 2, b__law_is_both⟩
def G__law_pairs (c__law_thing c__law_take : List D → Hpp → R D) : S :=
    (sSeq (sPar3 2 3 4 (mCons (mBin opSub (mCallV c__law_take 2 0 [.pos 0, .pos 1] (mCons (mVar 0) (mCons (mC (.int 2000)) mNil)) mNil) (mC (.int 999))) (mCons (mCallV c__law_thing 2 0 [.pos 0, .pos 1] (mCons (mVar 0) (mCons (mC (.int 3)) mNil)) mNil) (mCons (mCallV c__law_thing 2 0 [.pos 0, .pos 1] (mCons (mVar 0) (mCons (mC (.int 3)) mNil)) mNil) mNil))))
    (sSeq (sAsg (mLst (mCons (mTup (mCons (mVar 2) (mCons (mBin opAdd (mVar 2) (mVar 1)) mNil))) (mCons (mTup (mCons (mVar 2) (mCons (mBin opAdd (mVar 2) (mBin opMul (mC (.int 7)) (mVar 1))) mNil))) (mCons (mTup (mCons (mVar 2) (mCons (mBin opSub (mVar 2) (mVar 1)) mNil))) (mCons (mTup (mCons (mVar 2) (mCons (mVar 2) mNil))) (mCons (mTup (mCons (mVar 2) (mCons (mBin opAdd (mVar 2) (mC (.int 1))) mNil))) (mCons (mTup (mCons (mVar 2) (mCons (mVar 1) mNil))) (mCons (mTup (mCons (mVar 3) (mCons (mVar 4) mNil))) (mCons (mTup (mCons (mVar 3) (mCons (mVar 3) mNil))) mNil))))))))) (gVar 5))
    (sSeq (sDrop (mMeth isLst mAppend (mVar 5) (mCons (mTup (mCons (mVar 4) (mCons (mVar 3) mNil))) mNil)))
    (sSeq (sAsg (mBin opAdd (mVar 5) (mLst (mCons (mTup (mCons (mTup (mCons (mVar 2) (mCons (mVar 3) mNil))) (mCons (mTup (mCons (mBin opAdd (mVar 2) (mVar 1)) (mCons (mVar 3) mNil))) mNil))) (mCons (mTup (mCons (mTup (mCons (mVar 3) (mCons (mTup (mCons (mVar 2) mNil)) mNil))) (mCons (mTup (mCons (mVar 3) (mCons (mTup (mCons (mBin opSub (mVar 2) (mVar 1)) mNil)) mNil))) mNil))) (mCons (mLst (mCons (mVar 2) (mCons (mBin opAdd (mVar 2) (mVar 1)) mNil))) (mCons (mTup (mCons (mVar 2) (mCons (mBin opAdd (mVar 2) (mVar 1)) (mCons (mVar 2) mNil)))) (mCons (mTup (mCons (mVar 2) mNil)) mNil))))))) (gVar 5))
    (sSeq (sDrop (mMeth isLst mAppend (mVar 5) (mCons (mTup (mCons (mVar 2) (mCons (mC (.bl true)) mNil))) mNil)))
    (sSeq (sAsg (mBin opAdd (mVar 5) (mLst (mCons (mTup (mCons (mTup (mCons (mVar 2) (mCons (mC (.bl true)) mNil))) (mCons (mTup (mCons (mBin opAdd (mVar 2) (mVar 1)) (mCons (mC (.bl true)) mNil))) mNil))) (mCons (mTup (mCons (mC .non) (mCons (mC .non) mNil))) (mCons (mTup (mCons (mC (.str "")) (mCons (mC (.str "")) mNil))) (mCons (mTup (mCons (mTup mNil) (mCons (mTup (mCons (mTup mNil) mNil)) mNil))) (mCons (mTup (mCons (mC (.str "1")) (mCons (mC (.int 1)) mNil))) (mCons (mTup (mCons (mC (.int 0)) (mCons (mC .non) mNil))) mNil)))))))) (gVar 5))
    (sSeq (sDrop (mMeth isLst mAppend (mVar 5) (mCons (mTup (mCons (mC (.int 1)) (mCons (mC (.bl true)) mNil))) mNil)))
    (sSeq (sAsg (mBin opAdd (mLst (mCons (mC (.str "")) (mCons (mC (.str "a")) (mCons (mC (.str "b")) (mCons (mC (.str "aa")) (mCons (mC (.str "ab")) (mCons (mC (.str "z")) (mCons (mC (.str "0")) (mCons (mC (.str "~ ~")) mNil))))))))) (mLst (mCons (mC .non) (mCons (mTup mNil) (mCons (mTup (mCons (mC (.int 0)) mNil)) (mCons (mTup (mCons (mTup mNil) mNil)) (mCons (mC (.int 20)) (mCons (mC (.int 17)) (mCons (mC (.int 13)) (mCons (mTup (mCons (mC .non) (mCons (mC (.str "")) mNil))) mNil)))))))))) (gVar 6))
    (sSeq (sFor (srcRange1 (mB bLen (mCons (mVar 6) mNil))) (gVar 7) (sSeq (sDrop (mMeth isLst mExtend (mVar 5) (mCons (mLc (srcRange3 (mC (.int 0)) (mBin opAdd (mVar 7) (mC (.int 1))) (mC (.int 2))) (gVar 8) mYes (mTup (mCons (mBin opIx (mVar 6) (mVar 7)) (mCons (mBin opIx (mVar 6) (mVar 8)) mNil))) [8]) mNil)))
    sNil))
    (sSeq (sRet (mVar 5))
    sNil))))))))))
def b__law_pairs (F : FE) : S := G__law_pairs (F 13) (F 8)
def f__law_pairs : Fn := ⟨9, 2, b__law_pairs⟩
def G_law (c_is_collision c__law_is_both c__law_take c__law_base c__law_odd c__law_bend c__law_pairs c__law_tap : List D → Hpp → R D) : S :=
    (sSeq (sAsg (mCallV c__law_tap 1 0 [.pos 0] (mCons (mVar 0) mNil) mNil) (gVar 1))
    (sSeq (sFor (srcSeq (mTup (mCons (mCallV c__law_base 1 0 [.pos 0] (mCons (mVar 1) mNil) mNil) (mCons (mC (.int 2)) (mCons (mBin opAdd (mC (.int 3)) (mCallV c__law_take 2 0 [.pos 0, .pos 1] (mCons (mVar 1) (mCons (mC (.int 20)) mNil)) mNil)) mNil))))) (gVar 2) (sSeq (sAsg (mCallV c__law_pairs 2 0 [.pos 0, .pos 1] (mCons (mVar 1) (mCons (mVar 2) mNil)) mNil) (gVar 3))
    (sSeq (sFor (srcRange1 (mC (.int 6))) (gVar 4) (sSeq (sAsg (mCallV c__law_bend 3 0 [.pos 0, .pos 1, .pos 2] (mCons (mVar 1) (mCons (mBin opIx (mVar 3) (mCallV c__law_take 2 0 [.pos 0, .pos 1] (mCons (mVar 1) (mCons (mB bLen (mCons (mVar 3) mNil)) mNil)) mNil)) (mCons (mC (.int 4)) mNil))) mNil) (gVar 5))
    (sSeq (sAsg (mBin opAdd (mVar 3) (mLst (mCons (mVar 5) (mCons (mCallV c__law_bend 3 0 [.pos 0, .pos 1, .pos 2] (mCons (mVar 1) (mCons (mVar 5) (mCons (mC (.int 4)) mNil))) mNil) (mCons (mCallV c__law_odd 1 0 [.pos 0] (mCons (mVar 1) mNil) mNil) mNil))))) (gVar 3))
    sNil)))
    (sSeq (sFor (srcSeq (mVar 3)) (gVar 6) (sSeq (sAsg (mB bRepr (mCons (mVar 6) mNil)) (gVar 7))
    (sSeq (sIf (mOr (mBin cmpNe (mB bRepr (mCons (mCallV c_is_collision 1 1 [.pos 0, .kw 0] (mCons (mVar 6) mNil) (mCons (mVar 2) mNil)) mNil)) (mB bRepr (mCons (mCallV c__law_is_both 2 0 [.pos 0, .pos 1] (mCons (mVar 6) (mCons (mVar 2) mNil)) mNil) mNil))) (mBin cmpNe (mB bRepr (mCons (mVar 6) mNil)) (mVar 7))) (sSeq (sRet (mC (.bl false)))
    sNil) sNil)
    sNil)))
    sNil))))
    (sSeq (sFor (srcSeq (mTup (mCons (mTup (mCons (mC (.int 5)) (mCons (mC (.int 1000008)) mNil))) (mCons (mTup (mCons (mC (.int 5)) (mCons (mC (.int 15)) mNil))) (mCons (mTup (mCons (mC (.int 5)) (mCons (mC (.int 5)) mNil))) (mCons (mTup (mCons (mC (.str "a")) (mCons (mC (.str "a")) mNil))) mNil)))))) (gVar 6) (sSeq (sIf (mBin cmpNe (mB bRepr (mCons (mCallV c_is_collision 1 0 [.pos 0, .df (.int 1000003)] (mCons (mVar 6) mNil) mNil) mNil)) (mB bRepr (mCons (mCallV c__law_is_both 2 0 [.pos 0, .pos 1] (mCons (mVar 6) (mCons (mC (.int 1000003)) mNil)) mNil) mNil))) (sSeq (sRet (mC (.bl false)))
    sNil) sNil)
    sNil))
    (sSeq (sRet (mC (.bl true)))
    sNil))))
def b_law (F : FE) : S := G_law (F 6) (F 17) (F 8) (F 14) (F 9) (F 10) (F 18) (F 7)
def f_law : Fn := ⟨8, 1, b_law⟩
def pr : Nat → Option Fn
  | 0 => some f_is_number
  | 1 => some f_is_thing
  | 2 => some f_mix_of
  | 3 => some f_mark_of
  | 4 => some f_kind_of
  | 5 => some f_are_unlike
  | 6 => some f_is_collision
  | 7 => some f__law_tap
  | 8 => some f__law_take
  | 9 => some f__law_odd
  | 10 => some f__law_bend
  | 11 => some f__law_mix
  | 12 => some f__law_mark
  | 13 => some f__law_thing
  | 14 => some f__law_base
  | 15 => some f__law_is_number
  | 16 => some f__law_is_stuff
  | 17 => some f__law_is_both
  | 18 => some f__law_pairs
  | 19 => some f_law
  | _ => none
/-! ### each body is what the text turns into -/
theorem t_is_number (F : FE) : trSs tb F 60 ⟨i_is_number.N, i_is_number.scope, none⟩ i_is_number.body = some (b_is_number F) := by kernel_rfl
theorem s_is_number : FnScope i_is_number.N i_is_number.ps i_is_number.scope := ⟨rfl, rfl, rfl, by decide +kernel, rfl, by decide +kernel, by decide +kernel⟩
theorem t_is_thing (F : FE) : trSs tb F 60 ⟨i_is_thing.N, i_is_thing.scope, none⟩ i_is_thing.body = some (b_is_thing F) := by kernel_rfl
theorem s_is_thing : FnScope i_is_thing.N i_is_thing.ps i_is_thing.scope := ⟨rfl, rfl, rfl, by decide +kernel, rfl, by decide +kernel, by decide +kernel⟩
theorem t_mix_of (F : FE) : trSs tb F 60 ⟨i_mix_of.N, i_mix_of.scope, none⟩ i_mix_of.body = some (b_mix_of F) := by kernel_rfl
theorem s_mix_of : FnScope i_mix_of.N i_mix_of.ps i_mix_of.scope := ⟨rfl, rfl, rfl, by decide +kernel, rfl, by decide +kernel, by decide +kernel⟩
theorem t_mark_of (F : FE) : trSs tb F 60 ⟨i_mark_of.N, i_mark_of.scope, none⟩ i_mark_of.body = some (b_mark_of F) := by kernel_rfl
theorem s_mark_of : FnScope i_mark_of.N i_mark_of.ps i_mark_of.scope := ⟨rfl, rfl, rfl, by decide +kernel, rfl, by decide +kernel, by decide +kernel⟩
theorem t_kind_of (F : FE) : trSs tb F 60 ⟨i_kind_of.N, i_kind_of.scope, none⟩ i_kind_of.body = some (b_kind_of F) := by kernel_rfl
theorem s_kind_of : FnScope i_kind_of.N i_kind_of.ps i_kind_of.scope := ⟨rfl, rfl, rfl, by decide +kernel, rfl, by decide +kernel, by decide +kernel⟩
theorem t_are_unlike (F : FE) : trSs tb F 60 ⟨i_are_unlike.N, i_are_unlike.scope, none⟩ i_are_unlike.body = some (b_are_unlike F) := by kernel_rfl
theorem s_are_unlike : FnScope i_are_unlike.N i_are_unlike.ps i_are_unlike.scope := ⟨rfl, rfl, rfl, by decide +kernel, rfl, by decide +kernel, by decide +kernel⟩
theorem t_is_collision (F : FE) : trSs tb F 60 ⟨i_is_collision.N, i_is_collision.scope, none⟩ i_is_collision.body = some (b_is_collision F) := by kernel_rfl
theorem s_is_collision : FnScope i_is_collision.N i_is_collision.ps i_is_collision.scope := ⟨rfl, rfl, rfl, by decide +kernel, rfl, by decide +kernel, by decide +kernel⟩
theorem t__law_tap (F : FE) : trSs tb F 60 ⟨i__law_tap.N, i__law_tap.scope, none⟩ i__law_tap.body = some (b__law_tap F) := by kernel_rfl
theorem s__law_tap : FnScope i__law_tap.N i__law_tap.ps i__law_tap.scope := ⟨rfl, rfl, rfl, by decide +kernel, rfl, by decide +kernel, by decide +kernel⟩
theorem t__law_take (F : FE) : trSs tb F 60 ⟨i__law_take.N, i__law_take.scope, none⟩ i__law_take.body = some (b__law_take F) := by kernel_rfl
theorem s__law_take : FnScope i__law_take.N i__law_take.ps i__law_take.scope := ⟨rfl, rfl, rfl, by decide +kernel, rfl, by decide +kernel, by decide +kernel⟩
theorem t__law_odd (F : FE) : trSs tb F 60 ⟨i__law_odd.N, i__law_odd.scope, none⟩ i__law_odd.body = some (b__law_odd F) := by kernel_rfl
theorem s__law_odd : FnScope i__law_odd.N i__law_odd.ps i__law_odd.scope := ⟨rfl, rfl, rfl, by decide +kernel, rfl, by decide +kernel, by decide +kernel⟩
theorem t__law_bend (F : FE) : trSs tb F 60 ⟨i__law_bend.N, i__law_bend.scope, none⟩ i__law_bend.body = some (b__law_bend F) := by kernel_rfl
theorem s__law_bend : FnScope i__law_bend.N i__law_bend.ps i__law_bend.scope := ⟨rfl, rfl, rfl, by decide +kernel, rfl, by decide +kernel, by decide +kernel⟩
theorem t__law_mix (F : FE) : trSs tb F 60 ⟨i__law_mix.N, i__law_mix.scope, none⟩ i__law_mix.body = some (b__law_mix F) := by kernel_rfl
theorem s__law_mix : FnScope i__law_mix.N i__law_mix.ps i__law_mix.scope := ⟨rfl, rfl, rfl, by decide +kernel, rfl, by decide +kernel, by decide +kernel⟩
theorem t__law_mark (F : FE) : trSs tb F 60 ⟨i__law_mark.N, i__law_mark.scope, none⟩ i__law_mark.body = some (b__law_mark F) := by kernel_rfl
theorem s__law_mark : FnScope i__law_mark.N i__law_mark.ps i__law_mark.scope := ⟨rfl, rfl, rfl, by decide +kernel, rfl, by decide +kernel, by decide +kernel⟩
theorem t__law_thing (F : FE) : trSs tb F 60 ⟨i__law_thing.N, i__law_thing.scope, none⟩ i__law_thing.body = some (b__law_thing F) := by kernel_rfl
theorem s__law_thing : FnScope i__law_thing.N i__law_thing.ps i__law_thing.scope := ⟨rfl, rfl, rfl, by decide +kernel, rfl, by decide +kernel, by decide +kernel⟩
theorem t__law_base (F : FE) : trSs tb F 60 ⟨i__law_base.N, i__law_base.scope, none⟩ i__law_base.body = some (b__law_base F) := by kernel_rfl
theorem s__law_base : FnScope i__law_base.N i__law_base.ps i__law_base.scope := ⟨rfl, rfl, rfl, by decide +kernel, rfl, by decide +kernel, by decide +kernel⟩
theorem t__law_is_number (F : FE) : trSs tb F 60 ⟨i__law_is_number.N, i__law_is_number.scope, none⟩ i__law_is_number.body = some (b__law_is_number F) := by kernel_rfl
theorem s__law_is_number : FnScope i__law_is_number.N i__law_is_number.ps i__law_is_number.scope := ⟨rfl, rfl, rfl, by decide +kernel, rfl, by decide +kernel, by decide +kernel⟩
theorem t__law_is_stuff (F : FE) : trSs tb F 60 ⟨i__law_is_stuff.N, i__law_is_stuff.scope, none⟩ i__law_is_stuff.body = some (b__law_is_stuff F) := by kernel_rfl
theorem s__law_is_stuff : FnScope i__law_is_stuff.N i__law_is_stuff.ps i__law_is_stuff.scope := ⟨rfl, rfl, rfl, by decide +kernel, rfl, by decide +kernel, by decide +kernel⟩
theorem t__law_is_both (F : FE) : trSs tb F 60 ⟨i__law_is_both.N, i__law_is_both.scope, none⟩ i__law_is_both.body = some (b__law_is_both F) := by kernel_rfl
theorem s__law_is_both : FnScope i__law_is_both.N i__law_is_both.ps i__law_is_both.scope := ⟨rfl, rfl, rfl, by decide +kernel, rfl, by decide +kernel, by decide +kernel⟩
theorem t__law_pairs (F : FE) : trSs tb F 60 ⟨i__law_pairs.N, i__law_pairs.scope, none⟩ i__law_pairs.body = some (b__law_pairs F) := by kernel_rfl
theorem s__law_pairs : FnScope i__law_pairs.N i__law_pairs.ps i__law_pairs.scope := ⟨rfl, rfl, rfl, by decide +kernel, rfl, by decide +kernel, by decide +kernel⟩
theorem t_law (F : FE) : trSs tb F 60 ⟨i_law.N, i_law.scope, none⟩ i_law.body = some (b_law F) := by kernel_rfl
theorem s_law : FnScope i_law.N i_law.ps i_law.scope := ⟨rfl, rfl, rfl, by decide +kernel, rfl, by decide +kernel, by decide +kernel⟩
theorem turned : Turned tb pr := by
  intro i I h
  match i with
  | 0 => cases h; exact ⟨f_is_number, rfl, rfl, rfl, by decide, s_is_number, 60, t_is_number⟩
  | 1 => cases h; exact ⟨f_is_thing, rfl, rfl, rfl, by decide, s_is_thing, 60, t_is_thing⟩
  | 2 => cases h; exact ⟨f_mix_of, rfl, rfl, rfl, by decide, s_mix_of, 60, t_mix_of⟩
  | 3 => cases h; exact ⟨f_mark_of, rfl, rfl, rfl, by decide, s_mark_of, 60, t_mark_of⟩
  | 4 => cases h; exact ⟨f_kind_of, rfl, rfl, rfl, by decide, s_kind_of, 60, t_kind_of⟩
  | 5 => cases h; exact ⟨f_are_unlike, rfl, rfl, rfl, by decide, s_are_unlike, 60, t_are_unlike⟩
  | 6 => cases h; exact ⟨f_is_collision, rfl, rfl, rfl, by decide, s_is_collision, 60, t_is_collision⟩
  | 7 => cases h; exact ⟨f__law_tap, rfl, rfl, rfl, by decide, s__law_tap, 60, t__law_tap⟩
  | 8 => cases h; exact ⟨f__law_take, rfl, rfl, rfl, by decide, s__law_take, 60, t__law_take⟩
  | 9 => cases h; exact ⟨f__law_odd, rfl, rfl, rfl, by decide, s__law_odd, 60, t__law_odd⟩
  | 10 => cases h; exact ⟨f__law_bend, rfl, rfl, rfl, by decide, s__law_bend, 60, t__law_bend⟩
  | 11 => cases h; exact ⟨f__law_mix, rfl, rfl, rfl, by decide, s__law_mix, 60, t__law_mix⟩
  | 12 => cases h; exact ⟨f__law_mark, rfl, rfl, rfl, by decide, s__law_mark, 60, t__law_mark⟩
  | 13 => cases h; exact ⟨f__law_thing, rfl, rfl, rfl, by decide, s__law_thing, 60, t__law_thing⟩
  | 14 => cases h; exact ⟨f__law_base, rfl, rfl, rfl, by decide, s__law_base, 60, t__law_base⟩
  | 15 => cases h; exact ⟨f__law_is_number, rfl, rfl, rfl, by decide, s__law_is_number, 60, t__law_is_number⟩
  | 16 => cases h; exact ⟨f__law_is_stuff, rfl, rfl, rfl, by decide, s__law_is_stuff, 60, t__law_is_stuff⟩
  | 17 => cases h; exact ⟨f__law_is_both, rfl, rfl, rfl, by decide, s__law_is_both, 60, t__law_is_both⟩
  | 18 => cases h; exact ⟨f__law_pairs, rfl, rfl, rfl, by decide, s__law_pairs, 60, t__law_pairs⟩
  | 19 => cases h; exact ⟨f_law, rfl, rfl, rfl, by decide, s_law, 60, t_law⟩
  | _ + 20 => simp [tb] at h
abbrev n_is_number : Nat := 0
abbrev n_is_thing : Nat := 1
abbrev n_mix_of : Nat := 2
abbrev n_mark_of : Nat := 3
abbrev n_kind_of : Nat := 4
abbrev n_are_unlike : Nat := 5
abbrev n_is_collision : Nat := 6
abbrev n__law_tap : Nat := 7
abbrev n__law_take : Nat := 8
abbrev n__law_odd : Nat := 9
abbrev n__law_bend : Nat := 10
abbrev n__law_mix : Nat := 11
abbrev n__law_mark : Nat := 12
abbrev n__law_thing : Nat := 13
abbrev n__law_base : Nat := 14
abbrev n__law_is_number : Nat := 15
abbrev n__law_is_stuff : Nat := 16
abbrev n__law_is_both : Nat := 17
abbrev n__law_pairs : Nat := 18
abbrev n_law : Nat := 19
end Rf.Tq.K03
namespace Rf.Tq.K03
open PySem PySem.Spec L2
local macro_rules | `(tactic| walk_at "ex") => `(tactic| try simp (decide := true) only [x_ret, x_retN, x_asg, x_if, x_drop, x_nilS, x_for, x_var, x_c, x_un, x_bin, x_test, x_and, x_or, x_not, x_ifE, x_nil, x_cons, x_tup, x_lst, x_b, x_meth, x_oNone, x_oSome, x_slice, x_call, x_gVar, x_gSub, x_range1, x_lc, x_yes, x_rg1, wipeL,
  R.bind_ok, ok_bind, ok_ok, gather, optAll, List.map_cons, List.map_nil, List.getElem?_cons_zero, List.getElem?_cons_succ, List.set_cons_zero, List.set_cons_succ, Option.map_some, List.length_cons, List.length_nil,
  List.nil_append, List.cons_append, List.replicate, Nat.reduceAdd, Nat.reduceSub, and_self, if_true, if_false, true_and, and_true, Nat.reduceEqDiff, truth_bl, ofO_some, reduceCtorEq, decide_true, decide_false, Bool.false_eq_true, Bool.not_true, Bool.not_false, or_self, or_true, true_or, or_false, false_or,
  opAdd_int, opSub_int, cmpLt_int, cmpLe_int, cmpGt_int, cmpGe_int, cmpIs_non, cmpIsNot_non, isi_str, isi_non, isi_int, isi_tup, isi_bl, len_tup, ord_one, sizeLine_eq, Nat.reduceLeDiff, x_bk, x_aug, x_par, x_par3, tl_nil, tl_cons, x_tlNil, x_tlCons, x_gTup, x_gTupT, x_gStar1, ixt0, ixt1, ixt2, cmpEq_str, cmpNe_str, cmpEq_int, cmpNe_int, s_ff, s_lf, s_cf, s_cl, s_lc, s_fc, s_fl, cmpIs_bl, cmpIsNot_bl])
local macro_rules | `(tactic| walk_at "st") => `(tactic| (refine x_seq.mpr ?_; walk_at "ex"))
def PairsS (f : CF) : Prop := ∀ (T : Fz) (B : Hpp) (t c k : Nat) (A : Hpp) (b : Int), TapAt B t c → Tp B t c k A → t ∈ T.t → (∀ x ∈ T.t, x < B.length) → 2 ^ 200 ≤ T.b → k + 200 < 1000000 → 2 ≤ b → b ≤ 10 ^ 9 →
  Ok (f [.ref t, .int b] A) fun d A' => ∃ X j m, d = .ref j ∧ TapAt (B ++ X) t c ∧ Tp (B ++ X) t c (k + 161) A' ∧ A'[j]? = some (.lst m) ∧ B.length ≤ j ∧ 0 < m.length ∧ m.length ≤ 200 ∧ ∀ e ∈ m, Fr T A' 5 700 e
def texts : List D := [.str "", .str "a", .str "b", .str "aa", .str "ab", .str "z", .str "0", .str "~ ~", .non, .tup [], .tup [.int 0], .tup [.tup []], .int 20, .int 17, .int 13, .tup [.non, .str ""]]
theorem texts_fr {T : Fz} {A : Hpp} (hb : 2 ^ 200 ≤ T.b) : ∀ d ∈ texts, Fr T A 4 100 d := by
  intro d hd
  have key : (texts.all fun d => frB (2 ^ 200) 4 100 d) = true := by decide +kernel
  exact Fr.cst (List.all_eq_true.mp key d hd) hb
theorem rg_two : ∀ k : Nat, k < 16 → RgC 0 ((k : Int) + 1) 2 (Builtin.Range.rangeSize 0 ((k : Int) + 1) 2).toNat ∧ (Builtin.Range.rangeSize 0 ((k : Int) + 1) 2).toNat ≤ 8 := by decide +kernel
theorem src_two {L : Loc} {A : Hpp} {i : Nat} (hL : L[7]? = some (some (.int (i : Int)))) (hi : i < 16) : srcRange3 (mC (.int 0)) (mBin opAdd (mVar 7) (mC (.int 1))) (mC (.int 2)) L A = .ok (.its (rangeC 0 2 (Builtin.Range.rangeSize 0 ((i : Int) + 1) 2).toNat)) A := by
  have e : mBin opAdd (mVar 7) (mC (.int 1)) L A = .ok (.int ((i : Int) + 1)) A := by simp only [x_bin, x_var, hL, R.bind_ok, x_c, opAdd_int]
  rw [x_range3, x_c, R.bind_ok, e, R.bind_ok, x_c, R.bind_ok]
  exact if_pos (rg_two i hi).1
theorem pairs_ok {c_thing c_take : CF} (hth : ThB 3 c_thing) (ht : TakeS c_take) : PairsS (run 9 2 (G__law_pairs c_thing c_take)) := by
  intro T B t c k A b TB h htT hT hb hk b0 b1
  have htB := TB.ht
  have hcB := TB.hc
  have tn3 : TN 3 = 80 := rfl
  refine ok_run rfl ?_
  unfold G__law_pairs
  walk_at "st"
  refine Ok.mono (ht B t c k A 2000 TB h (by omega) (by decide) (by decide)) ?_
  rintro _ A1 ⟨n0, rfl, n1, n2, h1⟩
  walk_at "ex"
  refine Ok.mono (hth B t c _ A1 TB h1 (by omega)) ?_
  rintro one A2 ⟨h2, g1⟩
  walk_at "ex"
  refine Ok.mono (hth B t c _ A2 TB h2 (by omega)) ?_
  rintro other A3 ⟨h3, g2⟩
  walk_at "ex"
  have h3' : Tp B t c (k + 161) A3 := h3.mono (by omega)
  generalize hn : n0 - 999 = n
  have nb : n.natAbs ≤ 1000 := by omega
  have hb11 : 2 ^ 11 ≤ T.b := Nat.le_trans (by decide) hb
  have f1 : ∀ (T' : Fz) (A' : Hpp) (i : Nat), T'.b = T.b → 3 ≤ i → Fr T' A' i 309 one := fun T' A' i e hi => (g1.2 T' A' (by rw [e]; exact hb11)).mono hi (by decide)
  have f2 : ∀ (T' : Fz) (A' : Hpp) (i : Nat), T'.b = T.b → 3 ≤ i → Fr T' A' i 309 other := fun T' A' i e hi => (g2.2 T' A' (by rw [e]; exact hb11)).mono hi (by decide)
  have fi : ∀ (T' : Fz) (A' : Hpp) (i : Nat) (x : Int), T'.b = T.b → x.natAbs < 2 ^ 33 → Fr T' A' i 33 (.int x) := fun T' A' i x e hx => Fr.int (by rw [e]; omega) hx
  have p2 : ∀ (T' : Fz) (A' : Hpp) (i w1 w2 w3 : Nat) (x y : D), Fr T' A' i w1 x → Fr T' A' i w2 y → w1 + w2 + 2 ≤ w3 → Fr T' A' (i + 1) w3 (.tup [x, y]) := fun T' A' i w1 w2 w3 x y a b q => (Fr.tup (FrL.cons a (FrL.cons b FrL.nil))).mono (Nat.le_refl _) (by omega)
  have cst : ∀ (T' : Fz) (A' : Hpp) (d : D), T'.b = T.b → frB (2 ^ 200) 4 600 d = true → Fr T' A' 4 600 d := fun T' A' d e q => Fr.cst q (by rw [e]; exact hb)
  have cst5 : ∀ (T' : Fz) (A' : Hpp) (d : D), T'.b = T.b → frB (2 ^ 200) 4 600 d = true → Fr T' A' 5 700 d := fun T' A' d e q => (cst T' A' d e q).mono (by decide) (by decide)
  walk_at "st"
  rw [opMul_int (cmul_l (by decide) (by decide))]
  walk_at "ex"
  generalize hg1 : [D.tup [D.int n, D.int (n + b)], D.tup [D.int n, D.int (n + 7 * b)], D.tup [D.int n, D.int (n - b)], D.tup [D.int n, D.int n], D.tup [D.int n, D.int (n + 1)], D.tup [D.int n, D.int b], D.tup [one, other], D.tup [one, one]] = l1
  have e1 : l1.length = 8 := by subst hg1; rfl
  have N1 : Nr T B t c (k + 161) 5 700 (A3 ++ [HOb.lst l1]) A3.length l1 := by
    refine nr_start (X := []) (by rw [List.append_nil]; exact TB) (by rw [List.append_nil]; exact h3') fun e he => ?_
    subst hg1
    simp only [List.mem_cons, List.not_mem_nil, or_false] at he
    rcases he with rfl | rfl | rfl | rfl | rfl | rfl | rfl | rfl
    · exact p2 T A3 4 33 33 700 _ _ (fi _ _ _ _ rfl (by omega)) (fi _ _ _ _ rfl (by omega)) (by decide)
    · exact p2 T A3 4 33 33 700 _ _ (fi _ _ _ _ rfl (by omega)) (fi _ _ _ _ rfl (by omega)) (by decide)
    · exact p2 T A3 4 33 33 700 _ _ (fi _ _ _ _ rfl (by omega)) (fi _ _ _ _ rfl (by omega)) (by decide)
    · exact p2 T A3 4 33 33 700 _ _ (fi _ _ _ _ rfl (by omega)) (fi _ _ _ _ rfl (by omega)) (by decide)
    · exact p2 T A3 4 33 33 700 _ _ (fi _ _ _ _ rfl (by omega)) (fi _ _ _ _ rfl (by omega)) (by decide)
    · exact p2 T A3 4 33 33 700 _ _ (fi _ _ _ _ rfl (by omega)) (fi _ _ _ _ rfl (by omega)) (by decide)
    · exact p2 T A3 4 309 309 700 _ _ (f1 _ _ _ rfl (by decide)) (f2 _ _ _ rfl (by decide)) (by decide)
    · exact p2 T A3 4 309 309 700 _ _ (f1 _ _ _ rfl (by decide)) (f1 _ _ _ rfl (by decide)) (by decide)
  generalize A3 ++ [HOb.lst l1] = H1 at N1
  generalize A3.length = j1 at N1
  walk_at "st"
  obtain ⟨i2, a2, N2⟩ := nr_app (e := D.tup [other, one]) N1 htB hcB (p2 (wj T j1) H1 4 309 309 700 _ _ (f2 _ _ _ rfl (by decide)) (f1 _ _ _ rfl (by decide)) (by decide)) (by omega)
  rw [i2]
  walk_at "ex"
  rw [a2]
  walk_at "ex"
  generalize H1.set j1 (HOb.lst (l1 ++ [D.tup [other, one]])) = H2 at N2
  generalize hm2 : l1 ++ [D.tup [other, one]] = l2 at N2
  have e2 : l2.length = 9 := by rw [← hm2, List.length_append, List.length_singleton]; omega
  walk_at "st"
  generalize hs3 : [D.int n, D.int (n + b)] = s3
  have fs3 : ∀ A' : Hpp, FrL T A' 4 68 s3 := fun A' => by
    subst hs3
    exact (FrL.cons (fi T A' 4 n rfl (by omega)) (FrL.cons (fi T A' 4 (n + b) rfl (by omega)) FrL.nil)).mono (Nat.le_refl _) (by decide)
  have N2a := nr_side N2 (g := s3) (by subst hs3; rfl)
  have hlen2 : B.length ≤ H2.length := by
    obtain ⟨X, _, z, _⟩ := N2
    rw [tp_len z, List.length_append]; omega
  generalize hg3 : [D.tup [D.tup [D.int n, one], D.tup [D.int (n + b), one]], D.tup [D.tup [one, D.tup [D.int n]], D.tup [one, D.tup [D.int (n - b)]]], D.ref H2.length, D.tup [D.int n, D.int (n + b), D.int n], D.tup [D.int n]] = l3
  have e3 : l3.length = 5 := by subst hg3; rfl
  obtain ⟨a3, N3⟩ := nr_add N2a (g := l3) (fun e he => by
    subst hg3
    simp only [List.mem_cons, List.not_mem_nil, or_false] at he
    have one1 : ∀ x : Int, x.natAbs < 2 ^ 33 → Fr T (H2 ++ [HOb.lst s3]) 3 34 (.tup [.int x]) := fun x hx => (Fr.tup (n := 2) (FrL.cons (fi T _ 2 x rfl hx) FrL.nil)).mono (Nat.le_refl _) (by decide)
    rcases he with rfl | rfl | rfl | rfl | rfl
    · exact p2 T _ 4 346 346 700 _ _ (p2 T _ 3 33 309 346 _ _ (fi _ _ _ _ rfl (by omega)) (f1 _ _ _ rfl (by decide)) (by decide)) (p2 T _ 3 33 309 346 _ _ (fi _ _ _ _ rfl (by omega)) (f1 _ _ _ rfl (by decide)) (by decide)) (by decide)
    · exact p2 T _ 4 346 346 700 _ _ (p2 T _ 3 309 34 346 _ _ (f1 _ _ _ rfl (by decide)) (one1 _ (by omega)) (by decide)) (p2 T _ 3 309 34 346 _ _ (f1 _ _ _ rfl (by decide)) (one1 _ (by omega)) (by decide)) (by decide)
    · refine (Fr.ref (fun z => ?_) at_end (fs3 _)).mono (by decide) (by decide)
      have := hT _ z; omega
    · exact (Fr.tup (FrL.cons (fi T _ 4 n rfl (by omega)) (FrL.cons (fi T _ 4 (n + b) rfl (by omega)) (FrL.cons (fi T _ 4 n rfl (by omega)) FrL.nil)))).mono (by decide) (by decide)
    · exact (one1 n (by omega)).mono (by decide) (by decide)) (by omega)
  rw [a3]
  walk_at "ex"
  generalize H2 ++ [HOb.lst s3] ++ [HOb.lst l3] ++ [HOb.lst (l2 ++ l3)] = H3 at N3
  generalize (H2 ++ [HOb.lst s3] ++ [HOb.lst l3]).length = j3 at N3
  generalize hm3 : l2 ++ l3 = m3 at N3
  have e3' : m3.length = 14 := by rw [← hm3, List.length_append]; omega
  walk_at "st"
  obtain ⟨i4, a4, N4⟩ := nr_app (e := D.tup [D.int n, D.bl true]) N3 htB hcB (p2 (wj T j3) H3 4 33 1 700 _ _ (fi _ _ _ _ rfl (by omega)) Fr.bl (by decide)) (by omega)
  rw [i4]
  walk_at "ex"
  rw [a4]
  walk_at "ex"
  generalize H3.set j3 (HOb.lst (m3 ++ [D.tup [D.int n, D.bl true]])) = H4 at N4
  generalize hm4 : m3 ++ [D.tup [D.int n, D.bl true]] = m4 at N4
  have e4 : m4.length = 15 := by rw [← hm4, List.length_append, List.length_singleton]; omega
  walk_at "st"
  generalize hg5 : [D.tup [D.tup [D.int n, D.bl true], D.tup [D.int (n + b), D.bl true]], D.tup [D.non, D.non], D.tup [D.str (Str.ofString ""), D.str (Str.ofString "")], D.tup [D.tup [], D.tup [D.tup []]], D.tup [D.str (Str.ofString "1"), D.int 1], D.tup [D.int 0, D.non]] = l5
  have e5 : l5.length = 6 := by subst hg5; rfl
  obtain ⟨a5, N5⟩ := nr_add N4 (g := l5) (fun e he => by
    subst hg5
    simp only [List.mem_cons, List.not_mem_nil, or_false] at he
    rcases he with rfl | rfl | rfl | rfl | rfl | rfl
    · exact p2 T _ 4 36 36 700 _ _ (p2 T _ 3 33 1 36 _ _ (fi _ _ _ _ rfl (by omega)) Fr.bl (by decide)) (p2 T _ 3 33 1 36 _ _ (fi _ _ _ _ rfl (by omega)) Fr.bl (by decide)) (by decide)
    · exact cst5 _ _ _ rfl (by decide +kernel)
    · exact cst5 _ _ _ rfl (by decide +kernel)
    · exact cst5 _ _ _ rfl (by decide +kernel)
    · exact cst5 _ _ _ rfl (by decide +kernel)
    · exact cst5 _ _ _ rfl (by decide +kernel)) (by omega)
  rw [a5]
  walk_at "ex"
  generalize H4 ++ [HOb.lst l5] ++ [HOb.lst (m4 ++ l5)] = H5 at N5
  generalize (H4 ++ [HOb.lst l5]).length = j5 at N5
  generalize hm5 : m4 ++ l5 = m5 at N5
  have e5' : m5.length = 21 := by rw [← hm5, List.length_append]; omega
  walk_at "st"
  obtain ⟨i6, a6, N6⟩ := nr_app (e := D.tup [D.int 1, D.bl true]) N5 htB hcB (cst5 _ _ _ rfl (by decide +kernel)) (by omega)
  rw [i6]
  walk_at "ex"
  rw [a6]
  walk_at "ex"
  generalize H5.set j5 (HOb.lst (m5 ++ [D.tup [D.int 1, D.bl true]])) = H6 at N6
  generalize hm6 : m5 ++ [D.tup [D.int 1, D.bl true]] = m6 at N6
  have e6 : m6.length = 22 := by rw [← hm6, List.length_append, List.length_singleton]; omega
  walk_at "st"
  rw [add_lst at_end2 at_end (by rw [sizeLine_eq]; decide)]
  walk_at "ex"
  have N7 : Nr T B t c (k + 161) 5 700 (H6 ++ [HOb.lst [D.str (Str.ofString ""), D.str (Str.ofString "a"), D.str (Str.ofString "b"), D.str (Str.ofString "aa"), D.str (Str.ofString "ab"), D.str (Str.ofString "z"), D.str (Str.ofString "0"), D.str (Str.ofString "~ ~")]] ++ [HOb.lst [D.non, D.tup [], D.tup [D.int 0], D.tup [D.tup []], D.int 20, D.int 17, D.int 13, D.tup [D.non, D.str (Str.ofString "")]]] ++ [HOb.lst texts]) j5 m6 := nr_side (nr_side (nr_side N6 rfl) rfl) rfl
  have hq : (H6 ++ [HOb.lst [D.str (Str.ofString ""), D.str (Str.ofString "a"), D.str (Str.ofString "b"), D.str (Str.ofString "aa"), D.str (Str.ofString "ab"), D.str (Str.ofString "z"), D.str (Str.ofString "0"), D.str (Str.ofString "~ ~")]] ++ [HOb.lst [D.non, D.tup [], D.tup [D.int 0], D.tup [D.tup []], D.int 20, D.int 17, D.int 13, D.tup [D.non, D.str (Str.ofString "")]]] ++ [HOb.lst texts])[(H6 ++ [HOb.lst [D.str (Str.ofString ""), D.str (Str.ofString "a"), D.str (Str.ofString "b"), D.str (Str.ofString "aa"), D.str (Str.ofString "ab"), D.str (Str.ofString "z"), D.str (Str.ofString "0"), D.str (Str.ofString "~ ~")]] ++ [HOb.lst [D.non, D.tup [], D.tup [D.int 0], D.tup [D.tup []], D.int 20, D.int 17, D.int 13, D.tup [D.non, D.str (Str.ofString "")]]]).length]? = some (.lst texts) := at_end
  have hjq : j5 < (H6 ++ [HOb.lst [D.str (Str.ofString ""), D.str (Str.ofString "a"), D.str (Str.ofString "b"), D.str (Str.ofString "aa"), D.str (Str.ofString "ab"), D.str (Str.ofString "z"), D.str (Str.ofString "0"), D.str (Str.ofString "~ ~")]] ++ [HOb.lst [D.non, D.tup [], D.tup [D.int 0], D.tup [D.tup []], D.int 20, D.int 17, D.int 13, D.tup [D.non, D.str (Str.ofString "")]]]).length := by
    obtain ⟨_, _, _, _, z, _⟩ := N6
    have := (List.getElem?_eq_some_iff.mp z).1
    simp only [List.length_append]; omega
  rw [show ([D.str (Str.ofString ""), D.str (Str.ofString "a"), D.str (Str.ofString "b"), D.str (Str.ofString "aa"), D.str (Str.ofString "ab"), D.str (Str.ofString "z"), D.str (Str.ofString "0"), D.str (Str.ofString "~ ~"), D.non, D.tup [], D.tup [D.int 0], D.tup [D.tup []], D.int 20, D.int 17, D.int 13, D.tup [D.non, D.str (Str.ofString "")]] : List D) = texts from rfl]
  generalize (H6 ++ [HOb.lst [D.str (Str.ofString ""), D.str (Str.ofString "a"), D.str (Str.ofString "b"), D.str (Str.ofString "aa"), D.str (Str.ofString "ab"), D.str (Str.ofString "z"), D.str (Str.ofString "0"), D.str (Str.ofString "~ ~")]] ++ [HOb.lst [D.non, D.tup [], D.tup [D.int 0], D.tup [D.tup []], D.int 20, D.int 17, D.int 13, D.tup [D.non, D.str (Str.ofString "")]]]).length = q at hq hjq
  generalize H6 ++ [HOb.lst [D.str (Str.ofString ""), D.str (Str.ofString "a"), D.str (Str.ofString "b"), D.str (Str.ofString "aa"), D.str (Str.ofString "ab"), D.str (Str.ofString "z"), D.str (Str.ofString "0"), D.str (Str.ofString "~ ~")]] ++ [HOb.lst [D.non, D.tup [], D.tup [D.int 0], D.tup [D.tup []], D.int 20, D.int 17, D.int 13, D.tup [D.non, D.str (Str.ofString "")]]] ++ [HOb.lst texts] = H7 at N7 hq
  walk_at "st"
  rw [len_lst hq, show (texts.length : Int) = 16 from rfl]
  walk_at "ex"
  rw [show (Src.its (rangeD 0 (Int.toNat 16))).items = rangeD 0 (Int.toNat 16) from rfl]
  refine Ok.mono (for_ok (Q := fun o A' => ∃ m y7 y8, o = .nx [some (.ref t), some (.int b), some (.int n), some one, some other, some (.ref j5), some (.ref q), y7, y8] ∧ Nr T B t c (k + 161) 5 700 A' j5 m ∧ 0 < m.length ∧ m.length ≤ 200)
    (fun ds L A' => ∃ m y7 y8, L = [some (.ref t), some (.int b), some (.int n), some one, some other, some (.ref j5), some (.ref q), y7, y8] ∧ Nr T B t c (k + 161) 5 700 A' j5 m ∧ A'[q]? = some (.lst texts) ∧ 0 < m.length ∧ m.length + 8 * ds.length ≤ 150 ∧ ∀ d ∈ ds, ∃ i : Nat, d = .int (i : Int) ∧ i < 16)
    ?_ ?_ _ _ _ ⟨m6, _, _, rfl, N7, hq, by omega, by rw [range_len, e6]; decide, fun d hd => ?_⟩) ?_
  · rintro L A' ⟨m, y7, y8, rfl, N, _, hp, hl, _⟩
    exact ⟨rfl, m, y7, y8, rfl, N, hp, by simp only [List.length_nil] at hl; omega⟩
  · rintro d ds L A' ⟨m, y7, y8, rfl, N, hqA, hp, hl, hds⟩
    refine ⟨rfl, ?_⟩
    obtain ⟨i, rfl, hi⟩ := hds d (List.mem_cons_self ..)
    rw [List.length_cons] at hl
    obtain ⟨r1, r2⟩ := rg_two i hi
    have hAt : A'[j5]? = some (.lst m) := let ⟨_, _, _, _, z, _⟩ := N; z
    have hqlt : q < A'.length := (List.getElem?_eq_some_iff.mp hqA).1
    walk_at "ex"
    walk_at "st"
    rw [isl_at hAt]
    walk_at "ex"
    rw [src_two rfl hi]
    walk_at "ex"
    generalize hnn : (Builtin.Range.rangeSize 0 ((i : Int) + 1) 2).toNat = nn at r2
    rw [show (Src.its (rangeC 0 2 nn)).items = rangeC 0 2 nn from rfl]
    obtain ⟨ti, hti, hai, _⟩ := atI_get (l := texts) (i := (i : Int)) (by omega) (by show (i : Int) < 16; omega)
    have mem : ∀ d ∈ rangeC 0 2 nn, ∃ jj : Int, d = .int jj ∧ 0 ≤ jj ∧ jj < 16 := by
      intro d hd
      simp only [rangeC, List.mem_map, List.mem_range] at hd
      obtain ⟨a, ha, rfl⟩ := hd
      exact ⟨_, rfl, by omega, by omega⟩
    rw [lc_map (f := fun d => match d with | .int jj => .tup [ti, (atI texts jj).getD .non] | _ => .non) (fun _ => rfl) (rangeC 0 2 nn) [] (fun d hd acc => ?_) (by rw [sizeLine_eq]; simp [rangeC]; omega)]
    · walk_at "ex"
      generalize hext : (rangeC 0 2 nn).map (fun d => match d with | .int jj => D.tup [ti, (atI texts jj).getD .non] | _ => .non) = ext
      have lext : ext.length ≤ 8 := by rw [← hext]; simp [rangeC]; omega
      have fext : ∀ (T' : Fz) (A'' : Hpp), T'.b = T.b → ∀ e ∈ ext, Fr T' A'' 5 700 e := by
        intro T' A'' eb e he
        rw [← hext] at he
        obtain ⟨d, hd, rfl⟩ := List.mem_map.mp he
        obtain ⟨jj, rfl, q1, q2⟩ := mem d hd
        obtain ⟨tj, htj, haj, _⟩ := atI_get (l := texts) (i := jj) q1 (by show jj < 16; omega)
        have hb' : 2 ^ 200 ≤ T'.b := by rw [eb]; exact hb
        show Fr T' A'' 5 700 (.tup [ti, (atI texts jj).getD .non])
        rw [haj]
        exact p2 T' A'' 4 100 100 700 _ _ (texts_fr hb' _ hti) (texts_fr hb' _ htj) (by decide)
      have NS := nr_side N (g := ext) (low_all (fext T A' rfl))
      obtain ⟨_, ax, NX⟩ := nr_ext NS htB hcB at_end (fext (wj T j5) _ rfl) (by omega)
      rw [ax]
      walk_at "ex"
      refine ⟨m ++ ext, _, _, rfl, NX, ?_, by rw [List.length_append]; omega, by rw [List.length_append]; omega, fun d hd => hds d (List.mem_cons_of_mem _ hd)⟩
      rw [List.getElem?_set_ne (by omega), List.getElem?_append_left hqlt]
      exact hqA
    · obtain ⟨jj, rfl, q1, q2⟩ := mem d hd
      obtain ⟨tj, htj, haj, _⟩ := atI_get (l := texts) (i := jj) q1 (by show jj < 16; omega)
      have hqB : (A' ++ [HOb.lst acc])[q]? = some (.lst texts) := by rw [List.getElem?_append_left hqlt]; exact hqA
      walk_at "ex"
      rw [ixl hqB hai]
      walk_at "ex"
      rw [ixl hqB haj]
      walk_at "ex"
      show _ = R.ok (D.tup [ti, (atI texts jj).getD .non]) _
      rw [haj]
      rfl
  · simp only [rangeD, List.mem_map, List.mem_range] at hd
    obtain ⟨a, ha, rfl⟩ := hd
    exact ⟨a, by simp, ha⟩
  · rintro _ A8 ⟨m, y7, y8, rfl, N, hp, hl⟩
    walk_at "st"
    refine Ok.mono (nr_gc TB h hT N) ?_
    rintro d' A'' ⟨X', j', rfl, b1, b2, b3, b4, b5⟩
    exact ⟨X', j', m, rfl, b1, b2, b3, b4, hp, hl, b5⟩
end Rf.Tq.K03
namespace Rf.Tq.K03
open PySem PySem.Spec L2
local macro_rules | `(tactic| walk_at "ex") => `(tactic| try simp (decide := true) only [x_ret, x_retN, x_asg, x_if, x_drop, x_nilS, x_for, x_var, x_c, x_un, x_bin, x_test, x_and, x_or, x_not, x_ifE, x_nil, x_cons, x_tup, x_lst, x_b, x_meth, x_oNone, x_oSome, x_slice, x_call, x_gVar, x_gSub, x_range1, x_lc, x_yes, x_rg1, wipeL,
  R.bind_ok, ok_bind, ok_ok, gather, optAll, List.map_cons, List.map_nil, List.getElem?_cons_zero, List.getElem?_cons_succ, List.set_cons_zero, List.set_cons_succ, Option.map_some, List.length_cons, List.length_nil,
  List.nil_append, List.cons_append, List.replicate, Nat.reduceAdd, Nat.reduceSub, and_self, if_true, if_false, true_and, and_true, Nat.reduceEqDiff, truth_bl, ofO_some, reduceCtorEq, decide_true, decide_false, Bool.false_eq_true, Bool.not_true, Bool.not_false, or_self, or_true, true_or, or_false, false_or,
  opAdd_int, opSub_int, cmpLt_int, cmpLe_int, cmpGt_int, cmpGe_int, cmpIs_non, cmpIsNot_non, isi_str, isi_non, isi_int, isi_tup, isi_bl, len_tup, ord_one, sizeLine_eq, Nat.reduceLeDiff, x_bk, x_aug, x_par, x_par3, tl_nil, tl_cons, x_tlNil, x_tlCons, x_gTup, x_gTupT, x_gStar1, ixt0, ixt1, ixt2, cmpEq_str, cmpNe_str, cmpEq_int, cmpNe_int, s_ff, s_lf, s_cf, s_cl, s_lc, s_fc, s_fl, cmpIs_bl, cmpIsNot_bl])
local macro_rules | `(tactic| walk_at "st") => `(tactic| (refine x_seq.mpr ?_; walk_at "ex"))
def TT (g : Nat) : Fz := ⟨[1], 2 ^ 330 + g⟩
/-- the things, behind so many bends -/
structure Lw (g c k q : Nat) (l : List D) (B A : Hpp) : Prop where
  tap : TapAt B 1 c
  tp : Tp B 1 c k A
  q1 : q ≠ 1
  lst : B[q]? = some (.lst l)
  fr : ∀ d ∈ l, Fr (TT g) A (5 + 2 * g) (700 * 2 ^ g) d
theorem tt_le {g : Nat} (h : g ≤ 12) : (TT g).b ≤ 2 ^ 399 := by
  show 2 ^ 330 + g ≤ 2 ^ 399
  have : (2 : Nat) ^ 330 + 12 ≤ 2 ^ 399 := by decide
  omega
theorem tt_le4 {g : Nat} (h : g ≤ 12) : (TT g).b ≤ 2 ^ 400 := Nat.le_trans (tt_le h) (Nat.pow_le_pow_right (by decide) (by decide))
theorem tt_ge (g : Nat) : 2 ^ 200 ≤ (TT g).b := by
  show 2 ^ 200 ≤ 2 ^ 330 + g
  exact Nat.le_trans (Nat.pow_le_pow_right (by decide) (by decide)) (Nat.le_add_right _ _)
theorem tt_up {g : Nat} {A : Hpp} {d : D} (h : Fr (TT g) A (5 + 2 * g) (700 * 2 ^ g) d) : Fr (TT (g + 1)) A (5 + 2 * (g + 1)) (700 * 2 ^ (g + 1)) d :=
  Fr.to (T := TT g) (T' := TT (g + 1)) (by show 2 ^ 330 + g ≤ 2 ^ 330 + (g + 1); omega) (fun _ _ _ a b => ⟨a, b⟩) (by omega) (by rw [Nat.pow_succ]; omega) h
theorem mx_two {w : Nat} (h : 700 ≤ w) : max (2 * w) (w + 301) = 2 * w := by omega
theorem Lw.get {g c k q : Nat} {l : List D} {B A : Hpp} (h : Lw g c k q l B A) : A[q]? = some (.lst l) := by rw [tp_get h.tp h.q1]; exact h.lst
theorem Lw.ext {g c k k' q : Nat} {l : List D} {B X A A' : Hpp} (h : Lw g c k q l B A) (T' : TapAt (B ++ X) 1 c) (h' : Tp (B ++ X) 1 c k' A') : Lw g c k' q l (B ++ X) A' := by
  have qB : q < B.length := (List.getElem?_eq_some_iff.mp h.lst).1
  exact ⟨T', h', h.q1, by rw [List.getElem?_append_left qB]; exact h.lst, fun d hd => fr_tp (T := TT g) h.tap (by simp [TT]) h.tp h' (h.fr d hd)⟩
theorem Lw.tap' {g c k k' q : Nat} {l : List D} {B A A' : Hpp} (h : Lw g c k q l B A) (h' : Tp B 1 c k' A') : Lw g c k' q l B A' := by
  have := h.ext (X := []) (by rw [List.append_nil]; exact h.tap) (by rw [List.append_nil]; exact h')
  rw [List.append_nil] at this
  exact this
theorem plus {g c k q : Nat} {l m : List D} {B A : Hpp} (h : Lw g c k q l B A) (hm : ∀ d ∈ m, Fr (TT (g + 2)) A (5 + 2 * (g + 2)) (700 * 2 ^ (g + 2)) d) (hl : l.length + m.length ≤ 1000) :
    opAdd (.ref q) (.ref A.length) (A ++ [.lst m]) = .ok (.ref (A ++ [HOb.lst m]).length) (A ++ [.lst m] ++ [.lst (l ++ m)]) ∧ Lw (g + 2) c k (A ++ [HOb.lst m]).length (l ++ m) (B ++ [.lst m] ++ [.lst (l ++ m)]) (A ++ [.lst m] ++ [.lst (l ++ m)]) := by
  have ht := h.tap.ht
  have t1 := tapAt_fr h.tap (l := m) (by rw [← tp_len h.tp]; exact low_all hm)
  have k1 := (tp_app (X := [.lst m]) h.tap).mpr ⟨A, rfl, h.tp⟩
  have fa : ∀ d ∈ l ++ m, Fr (TT (g + 2)) A (5 + 2 * (g + 2)) (700 * 2 ^ (g + 2)) d := fun d hd => (List.mem_append.mp hd).elim (fun z => tt_up (tt_up (h.fr d z))) (hm d)
  have hq : (A ++ [HOb.lst m])[q]? = some (.lst l) := by
    rw [List.getElem?_append_left (List.getElem?_eq_some_iff.mp h.get).1]; exact h.get
  have fb : ∀ d ∈ l ++ m, Fr (TT (g + 2)) (A ++ [HOb.lst m]) (5 + 2 * (g + 2)) (700 * 2 ^ (g + 2)) d := fun d hd => fr_app (fa d hd)
  refine ⟨add_lst hq at_end (by rw [sizeLine_eq]; omega), tapAt_fr t1 (by rw [← tp_len k1]; exact low_all fb), (tp_app t1).mpr ⟨_, rfl, k1⟩, ?_, ?_, fun d hd => fr_app (fb d hd)⟩
  · rw [tp_len k1, List.length_append]; have := h.tap.ht; omega
  · rw [tp_len k1]; exact at_end
theorem repr_bl1 {x : Bool} {A : Hpp} : bRepr [.bl x] A = .ok (.str (PyData.bool x).shown) A := by
  have e : D.snap A deepest (.bl x) = some (.bool x) := rfl
  simp only [bRepr, e]
  refine if_pos ?_
  rw [sizeLine_eq]
  cases x <;> decide +kernel
theorem bends {c_bend c_odd c_take : CF} (hbd : BendS 4 c_bend) (hod : OddS c_odd) (ht : TakeS c_take) {q k c : Nat} {l : List D} {B A : Hpp} (h : Lw 0 c k q l B A) (h0 : 0 < l.length) (hl : l.length ≤ 300) (hk : k < 900000) {x0 x2 x4 x5 x6 x7 : Option D} :
    Ok (forLoop (.its (rangeD 0 (Int.toNat 6))) (gVar 4) (sSeq (sAsg (mCallV c_bend 3 0 [.pos 0, .pos 1, .pos 2] (mCons (mVar 1) (mCons (mBin opIx (mVar 3) (mCallV c_take 2 0 [.pos 0, .pos 1] (mCons (mVar 1) (mCons (mB bLen (mCons (mVar 3) mNil)) mNil)) mNil)) (mCons (mC (.int 4)) mNil))) mNil) (gVar 5))
    (sSeq (sAsg (mBin opAdd (mVar 3) (mLst (mCons (mVar 5) (mCons (mCallV c_bend 3 0 [.pos 0, .pos 1, .pos 2] (mCons (mVar 1) (mCons (mVar 5) (mCons (mC (.int 4)) mNil))) mNil) (mCons (mCallV c_odd 1 0 [.pos 0] (mCons (mVar 1) mNil) mNil) mNil))))) (gVar 3))
    sNil)) (rangeD 0 (Int.toNat 6)) [x0, some (.ref 1), x2, some (.ref q), x4, x5, x6, x7] A)
    fun o A' => ∃ q' B' l' y4 y5, Lw 12 c (k + 312) q' l' B' A' ∧ o = .nx [x0, some (.ref 1), x2, some (.ref q'), y4, y5, x6, x7] := by
  refine for_ok (fun ds L A' => ∃ g q' B' l' k' y4 y5, Lw g c k' q' l' B' A' ∧ g + 2 * ds.length = 12 ∧ 0 < l'.length ∧ l'.length + 3 * ds.length ≤ 400 ∧ k' + 52 * ds.length ≤ k + 312 ∧ L = [x0, some (.ref 1), x2, some (.ref q'), y4, y5, x6, x7]) ?_ ?_ _ _ _ ⟨0, q, B, l, k, _, _, h, by rw [range_len]; rfl, h0, by rw [range_len]; show l.length + 3 * 6 ≤ 400; omega, by rw [range_len]; exact Nat.le_refl _, rfl⟩
  · rintro L A' ⟨g, q', B', l', k', y4, y5, h', hg, _, _, h2, rfl⟩
    simp only [List.length_nil, Nat.mul_zero, Nat.add_zero] at hg h2
    subst hg
    exact ⟨rfl, q', B', l', y4, y5, ⟨h'.tap, h'.tp.mono h2, h'.q1, h'.lst, h'.fr⟩, rfl⟩
  · rintro e ds L A' ⟨g, q', B', l', k', y4, y5, h', hg, hp, hl', h2, rfl⟩
    rw [List.length_cons] at hg hl' h2
    have hg10 : g ≤ 10 := by omega
    refine ⟨rfl, ?_⟩
    have tB := h'.tap.ht
    have w0 : 2 ^ g ≤ 2 ^ 10 := Nat.pow_le_pow_right (by decide) hg10
    have w1 : 1 ≤ 2 ^ g := Nat.one_le_pow _ _ (by decide)
    have ww : 2 ^ (g + 1) = 2 * 2 ^ g := by rw [Nat.pow_succ]; omega
    have ww2 : 2 ^ (g + 2) = 4 * 2 ^ g := by rw [Nat.pow_succ, ww]; omega
    have in1 : ∀ g, (1 : Nat) ∈ (TT g).t := fun g => by simp [TT]
    have inl : ∀ (g : Nat) (B : Hpp), 1 < B.length → ∀ x ∈ (TT g).t, x < B.length := fun g B hB x hx => by simp only [TT, List.mem_singleton] at hx; omega
    walk_at "ex"
    walk_at "st"
    rw [len_lst h'.get]
    walk_at "ex"
    refine Ok.mono (ht B' 1 c k' A' l'.length h'.tap h'.tp (by omega) (by omega) (by omega)) ?_
    rintro _ A1 ⟨i, rfl, i1, i2, hk1⟩
    have L1 := h'.tap' hk1
    obtain ⟨d, hd, he, _⟩ := atI_get (l := l') i1 i2
    walk_at "ex"
    rw [ixl L1.get he]
    walk_at "ex"
    refine Ok.mono (hbd (TT g) B' 1 c _ A1 d (5 + 2 * g) (700 * 2 ^ g) L1.tap L1.tp (in1 g) (inl g B' tB) (L1.fr d hd) (by omega) (by omega) (tt_ge g) (tt_le (by omega)) (by omega)) ?_
    rintro d1 A2 ⟨X, TX, kX, f1⟩
    rw [mx_two (by omega)] at f1
    have f1' : Fr (TT (g + 1)) A2 (5 + 2 * (g + 1)) (700 * 2 ^ (g + 1)) d1 := f1.mono (by omega) (by omega)
    have L2 := L1.ext TX kX
    walk_at "ex"
    walk_at "st"
    refine Ok.mono (hbd (TT (g + 1)) (B' ++ X) 1 c _ A2 d1 (5 + 2 * (g + 1)) (700 * 2 ^ (g + 1)) TX kX (in1 _) (inl _ _ (by rw [List.length_append]; omega)) f1' (by omega) (by omega) (tt_ge _) (tt_le (by omega)) (by omega)) ?_
    rintro d2 A3 ⟨Y, TY, kY, f2⟩
    rw [mx_two (by omega)] at f2
    have f2' : Fr (TT (g + 2)) A3 (5 + 2 * (g + 2)) (700 * 2 ^ (g + 2)) d2 := f2.mono (by omega) (by omega)
    have L3 := L2.ext TY kY
    have f1b := fr_tp (T := TT (g + 1)) TX (in1 _) kX kY f1'
    walk_at "ex"
    refine Ok.mono (hod (TT (g + 2)) _ 1 c _ A3 TY kY (in1 _) (inl _ _ (by rw [List.length_append, List.length_append]; omega)) (tt_ge _) (by omega)) ?_
    rintro od A4 ⟨Z, TZ, kZ, f3⟩
    have L4 := L3.ext TZ kZ
    have f1c := fr_tp (T := TT (g + 1)) TY (in1 _) kY kZ f1b
    have f2c := fr_tp (T := TT (g + 2)) TY (in1 _) kY kZ f2'
    walk_at "ex"
    obtain ⟨a1, L5⟩ := plus L4 (m := [d1, d2, od]) (fun z hz => by
      simp only [List.mem_cons, List.not_mem_nil, or_false] at hz
      rcases hz with rfl | rfl | rfl
      · exact tt_up f1c
      · exact f2c
      · exact f3.mono (by omega) (by omega)) (by simp only [List.length_cons, List.length_nil]; omega)
    rw [a1]
    walk_at "ex"
    refine ⟨g + 2, _, _, _, _, _, _, L5, by omega, by rw [List.length_append]; omega, ?_, by omega, rfl⟩
    simp only [List.length_append, List.length_cons, List.length_nil]; omega
theorem judge {c_col c_both : CF} (hc : ColS c_col) (hb : ColS c_both) {k q c : Nat} {l : List D} {B A : Hpp} {b : Int} (b0 : 0 < b) (b1 : b ≤ 2 ^ 63) (h : Lw 12 c k q l B A) {x0 x1 x3 x4 x5 x6 x7 : Option D} :
    Ok (forLoop (.lst q l) (gVar 6) (sSeq (sAsg (mB bRepr (mCons (mVar 6) mNil)) (gVar 7))
    (sSeq (sIf (mOr (mBin cmpNe (mB bRepr (mCons (mCallV c_col 1 1 [.pos 0, .kw 0] (mCons (mVar 6) mNil) (mCons (mVar 2) mNil)) mNil)) (mB bRepr (mCons (mCallV c_both 2 0 [.pos 0, .pos 1] (mCons (mVar 6) (mCons (mVar 2) mNil)) mNil) mNil))) (mBin cmpNe (mB bRepr (mCons (mVar 6) mNil)) (mVar 7))) (sSeq (sRet (mC (.bl false)))
    sNil) sNil)
    sNil)) l [x0, x1, some (.int b), x3, x4, x5, x6, x7] A) fun o A' => A' = A ∧ ∃ y6 y7, o = .nx [x0, x1, some (.int b), x3, x4, x5, y6, y7] := by
  have still : Src.still A (.lst q l) = true := by
    simp only [Src.still]
    exact decide_eq_true (.inl h.get)
  refine for_ok (fun ds L A' => (∀ d ∈ ds, Fr (TT 12) A (5 + 2 * 12) (700 * 2 ^ 12) d) ∧ A' = A ∧ ∃ y6 y7, L = [x0, x1, some (.int b), x3, x4, x5, y6, y7]) ?_ ?_ _ _ _ ⟨h.fr, rfl, _, _, rfl⟩
  · rintro L A' ⟨_, rfl, y6, y7, rfl⟩
    exact ⟨still, rfl, _, _, rfl⟩
  · rintro d ds L A' ⟨hds, rfl, y6, y7, rfl⟩
    refine ⟨still, ?_⟩
    have hbt : (TT 12).b ≤ 2 ^ 400 := tt_le4 (Nat.le_refl _)
    have fd : Fr (TT 12) A' 40 3300000 d := (hds d (List.mem_cons_self ..)).mono (by decide) (by decide)
    obtain ⟨p, hp, hw⟩ := fd
    have rp : bRepr [d] A' = .ok (.str p.shown) A' := sn_repr hbt hp (by decide) hw
    walk_at "ex"
    walk_at "st"
    rw [rp]
    walk_at "ex"
    walk_at "st"
    rw [hc (TT 12) A' 3300000 d b ⟨p, hp, hw⟩ (Nat.le_refl _) hbt b0 b1]
    walk_at "ex"
    rw [repr_bl1]
    walk_at "ex"
    rw [hb (TT 12) A' 3300000 d b ⟨p, hp, hw⟩ (Nat.le_refl _) hbt b0 b1]
    walk_at "ex"
    rw [repr_bl1]
    walk_at "ex"
    rw [rp]
    walk_at "ex"
    exact ⟨fun e he => hds e (List.mem_cons_of_mem _ he), _, _, rfl⟩
theorem law_ok {c_col c_both c_take c_base c_odd c_bend c_pairs c_tap : CF} (hc : ColS c_col) (hb : ColS c_both) (ht : TakeS c_take) (hba : BaseS c_base) (hod : OddS c_odd) (hbd : BendS 4 c_bend) (hpa : PairsS c_pairs)
    (ns : List Int) (htap : ∃ B c, c_tap [.ref 0] [.rd (ns.map .int)] = .ok (.ref 1) B ∧ TapAt B 1 c ∧ Tp B 1 c 0 B ∧ B[0]? = some (.rd (ns.map .int))) :
    Ok (run 8 1 (G_law c_col c_both c_take c_base c_odd c_bend c_pairs c_tap) [.ref 0] [.rd (ns.map .int)]) fun d _ => d = .bl true := by
  obtain ⟨B, c, e1, T, hT, _⟩ := htap
  refine ok_run rfl ?_
  unfold G_law
  walk_at "st"
  rw [e1]
  walk_at "ex"
  walk_at "st"
  rw [x_srctup]
  walk_at "ex"
  refine Ok.mono (hba B 1 c 0 B T hT (by decide)) ?_
  rintro _ A1 ⟨h1, b, rfl, b0, b1⟩
  walk_at "ex"
  refine Ok.mono (ht B 1 c _ A1 20 T h1 (by decide) (by decide) (by decide)) ?_
  rintro _ A2 ⟨u, rfl, u0, u1, h2⟩
  walk_at "ex"
  rw [show (Src.its [D.int b, D.int 2, D.int (3 + u)]).items = [D.int b, D.int 2, D.int (3 + u)] from rfl]
  refine Ok.mono (for_ok (Q := fun o A => ∃ k B' y2 y3 y4 y5 y6 y7, TapAt B' 1 c ∧ Tp B' 1 c k A ∧ o = .nx [some (.ref 0), some (.ref 1), y2, y3, y4, y5, y6, y7])
    (fun ds L A => ∃ k B' y2 y3 y4 y5 y6 y7, TapAt B' 1 c ∧ Tp B' 1 c k A ∧ k + 500 * ds.length ≤ 3000 ∧ (∀ d ∈ ds, ∃ b : Int, d = .int b ∧ 2 ≤ b ∧ b ≤ 10 ^ 9) ∧ L = [some (.ref 0), some (.ref 1), y2, y3, y4, y5, y6, y7]) ?_ ?_ _ _ _ ⟨_, B, _, _, _, _, _, _, T, h2, by simp, fun d hd => ?_, rfl⟩) ?_
  · rintro L A ⟨k, B', y2, y3, y4, y5, y6, y7, TB, hB, _, _, rfl⟩
    exact ⟨rfl, k, B', y2, y3, y4, y5, y6, y7, TB, hB, rfl⟩
  · rintro d ds L A ⟨k, B', y2, y3, y4, y5, y6, y7, TB, hB, hk, hds, rfl⟩
    rw [List.length_cons] at hk
    obtain ⟨b, rfl, c0, c1⟩ := hds d (List.mem_cons_self ..)
    refine ⟨rfl, ?_⟩
    have tB := TB.ht
    walk_at "ex"
    walk_at "st"
    refine Ok.mono (hpa (TT 0) B' 1 c k A b TB hB (by simp [TT]) (fun x hx => by simp only [TT, List.mem_singleton] at hx; omega) (tt_ge 0) (by omega) c0 c1) ?_
    rintro _ A3 ⟨X, j, m, rfl, TX, kX, hj, jB, m0, ml, fm⟩
    have L0 : Lw 0 c (k + 161) j m (B' ++ X) A3 := ⟨TX, kX, by omega, by rw [← tp_get kX (by omega)]; exact hj, fun d hd => (fm d hd).mono (by decide) (by decide)⟩
    walk_at "ex"
    walk_at "st"
    rw [show (Src.its (rangeD 0 (Int.toNat 6))).items = rangeD 0 (Int.toNat 6) from rfl]
    refine Ok.mono (bends hbd hod ht L0 m0 (by omega) (by omega)) ?_
    rintro _ A4 ⟨q', B4, l', y4', y5', L4, rfl⟩
    walk_at "ex"
    walk_at "st"
    rw [src_lst rfl L4.get]
    walk_at "ex"
    rw [show (Src.lst q' l').items = l' from rfl]
    refine Ok.mono (judge hc hb (by omega) (by omega) L4) ?_
    rintro _ A5 ⟨rfl, y6', y7', rfl⟩
    walk_at "ex"
    exact ⟨_, B4, _, _, _, _, _, _, L4.tap, L4.tp, by omega, fun d hd => hds d (List.mem_cons_of_mem _ hd), rfl⟩
  · simp only [List.mem_cons, List.not_mem_nil, or_false] at hd
    rcases hd with rfl | rfl | rfl
    · exact ⟨_, rfl, b0, b1⟩
    · exact ⟨_, rfl, by decide, by decide⟩
    · exact ⟨_, rfl, by omega, by omega⟩
  rintro _ A6 ⟨k, B', y2, y3, y4, y5, y6, y7, TB, hB, rfl⟩
  walk_at "ex"
  walk_at "st"
  rw [x_srctup]
  walk_at "ex"
  generalize hc4 : [D.tup [D.int 5, D.int 1000008], D.tup [D.int 5, D.int 15], D.tup [D.int 5, D.int 5], D.tup [D.str (Str.ofString "a"), D.str (Str.ofString "a")]] = c4
  rw [show (Src.its c4).items = c4 from rfl]
  have f4 : ∀ d ∈ c4, Fr (TT 0) A6 40 3300000 d := by
    intro d hd
    have key : (c4.all fun d => frB (2 ^ 200) 4 600 d) = true := by subst hc4; decide +kernel
    exact (Fr.cst (List.all_eq_true.mp key d hd) (tt_ge 0)).mono (by decide) (by decide)
  refine Ok.mono (for_ok (Q := fun o A => ∃ L, o = .nx L)
    (fun ds L A => A = A6 ∧ (∀ d ∈ ds, Fr (TT 0) A6 40 3300000 d) ∧ ∃ y6 y7, L = [some (.ref 0), some (.ref 1), y2, y3, y4, y5, y6, y7]) ?_ ?_ _ _ _ ⟨rfl, f4, _, _, rfl⟩) ?_
  · rintro L A ⟨rfl, _, z6, z7, rfl⟩
    exact ⟨rfl, _, rfl⟩
  · rintro d ds L A ⟨rfl, hds, z6, z7, rfl⟩
    refine ⟨rfl, ?_⟩
    have fd := hds d (List.mem_cons_self ..)
    have hbt : (TT 0).b ≤ 2 ^ 400 := tt_le4 (by decide)
    walk_at "ex"
    walk_at "st"
    rw [hc (TT 0) A 3300000 d 1000003 fd (Nat.le_refl _) hbt (by decide) (by decide)]
    walk_at "ex"
    rw [repr_bl1]
    walk_at "ex"
    rw [hb (TT 0) A 3300000 d 1000003 fd (Nat.le_refl _) hbt (by decide) (by decide)]
    walk_at "ex"
    rw [repr_bl1]
    walk_at "ex"
    exact ⟨fun e he => hds e (List.mem_cons_of_mem _ he), _, _, rfl⟩
  rintro _ A7 ⟨L, rfl⟩
  walk_at "ex"
  walk_at "st"
  exact gc_bl fun _ => rfl
end Rf.Tq.K03
namespace Rf.Tq.K03
open PySem PySem.Spec L2
theorem lv_num (n : Nat) : NumS (FF pr (n + 1) n_is_number) := num_ok
theorem thingS_mono {k j : Nat} {c : CF} (h : ThingS k c) (hj : j ≤ k) : ThingS j c := fun d A h1 h2 h3 => h d A h1 h2 (Nat.le_trans h3 hj)
theorem lv_isthing : ∀ n : Nat, ThingS n (FF pr (n + 2) n_is_thing)
  | 0 => isthing_ok (lv_num 0) fun j h => absurd h (by omega)
  | n + 1 => isthing_ok (lv_num (n + 1)) fun j h => thingS_mono (lv_isthing n) (by omega)
theorem lv_mix (n : Nat) : MixS (FF pr (n + 1) n_mix_of) := mix_ok
theorem markS_mono {k j : Nat} {c : CF} (h : MarkS k c) (hj : j ≤ k) : MarkS j c := fun d b A h1 h2 h3 h4 => h d b A h1 (Nat.le_trans h2 hj) h3 h4
theorem lv_mark : ∀ n : Nat, MarkS n (FF pr (n + 2) n_mark_of)
  | 0 => mark_ok (lv_mix 0) fun j h => absurd h (by omega)
  | n + 1 => mark_ok (lv_mix (n + 1)) fun j h => markS_mono (lv_mark n) (by omega)
theorem lv_kind (n : Nat) : KindS (FF pr (n + 1) n_kind_of) := kind_ok
theorem unlikeS_mono {k j : Nat} {c : CF} (h : UnlikeS k c) (hj : j ≤ k) : UnlikeS j c := fun x y A h1 h2 h3 h4 h5 h6 => h x y A h1 h2 h3 h4 h5 (Nat.le_trans h6 hj)
theorem lv_unlike : ∀ n : Nat, UnlikeS n (FF pr (n + 2) n_are_unlike)
  | 0 => unlike_ok (lv_kind 0) fun j h => absurd h (by omega)
  | n + 1 => unlike_ok (lv_kind (n + 1)) fun j h => unlikeS_mono (lv_unlike n) (by omega)
theorem lv_col (n : Nat) : ColS (FF pr (n + 43) n_is_collision) := collision_ok (unlikeS_mono (lv_unlike (n + 40)) (by omega)) (markS_mono (lv_mark (n + 40)) (by omega)) (thingS_mono (lv_isthing (n + 40)) (by omega))
theorem lv_take (n : Nat) : TakeS (FF pr (n + 1) n__law_take) := take_ok
theorem lv_odd (n : Nat) : OddS (FF pr (n + 2) n__law_odd) := odd_ok (lv_take n)
theorem lv_bend : ∀ n j : Nat, j ≤ n → BendS j (FF pr (n + 3) n__law_bend)
  | 0, j, h => bend_ok (lv_odd 0) (lv_take 1) j fun i hi => absurd hi (by omega)
  | n + 1, j, h => bend_ok (lv_odd (n + 1)) (lv_take (n + 2)) j fun i hi => lv_bend n i (by omega)
theorem lv_lmix (n : Nat) : MixS (FF pr (n + 1) n__law_mix) := mix_ok
theorem lv_lmark : ∀ n : Nat, MarkS n (FF pr (n + 2) n__law_mark)
  | 0 => lmark_ok (lv_lmix 0) fun j h => absurd h (by omega)
  | n + 1 => lmark_ok (lv_lmix (n + 1)) fun j h => markS_mono (lv_lmark n) (by omega)
theorem lv_thing : ∀ n j : Nat, j ≤ n → ThB j (FF pr (n + 2) n__law_thing)
  | 0, j, h => thingb_ok (lv_take 0) j fun i hi => absurd hi (by omega)
  | n + 1, j, h => thingb_ok (lv_take (n + 1)) j fun i hi => lv_thing n i (by omega)
theorem lv_base (n : Nat) : BaseS (FF pr (n + 2) n__law_base) := base_ok (lv_take n)
theorem lv_lnum (n : Nat) : NumS (FF pr (n + 1) n__law_is_number) := lnum_ok
theorem lv_stuff : ∀ n k : Nat, k ≤ n → k ≤ 50 → StuffS k (FF pr (n + 2) n__law_is_stuff)
  | 0, k, h, h2 => stuff_ok (lv_lnum 0) h2 fun j hj => absurd hj (by omega)
  | n + 1, k, h, h2 => stuff_ok (lv_lnum (n + 1)) h2 fun j hj => lv_stuff n j (by omega) (by omega)
theorem lv_both (n : Nat) : ColS (FF pr (n + 43) n__law_is_both) := both_ok (markS_mono (lv_lmark (n + 40)) (by omega)) (lv_stuff (n + 40) 40 (by omega) (by decide))
theorem lv_pairs (n : Nat) : PairsS (FF pr (n + 6) n__law_pairs) := pairs_ok (lv_thing (n + 3) 3 (by omega)) (lv_take (n + 4))
theorem lv_law (ns : List Int) (h : ns.length ≤ sizeLine) : ∃ A', FF pr 60 n_law [.ref 0] [.rd (ns.map D.int)] = .ok (.bl true) A' := by
  obtain ⟨d, A', e, rfl⟩ := law_ok (lv_col 16) (lv_both 16) (lv_take 58) (lv_base 57) (lv_odd 57) (lv_bend 56 4 (by decide)) (lv_pairs 53) ns (tap_ok ns h)
  exact ⟨A', e⟩
end Rf.Tq.K03
namespace Rf.Tq.K03
open PySem PySem.Spec L2
section
variable {K : PySem.W.Frag}
theorem p0_1 {kV0 : Value} {dc0 pm0 cd0 ct0 : Value} {an0 : Option Addr} : BindOk K (PySem.W.fnOf i_is_number.name i_is_number.qual i_is_number.params i_is_number.body i_is_number.scope .none kV0 dc0 pm0 an0 cd0 ct0) i_is_number.ps 1 [] g0_1 := by
  intro s us ws X hu hw
  match us, hu, ws, hw with
  | [u0], _, [], _ => exact ⟨[u0], rfl, .of_eq rfl, ⟨_, _, rfl, rfl, rfl⟩⟩
theorem p1_1 {kV1 : Value} {dc1 pm1 cd1 ct1 : Value} {an1 : Option Addr} : BindOk K (PySem.W.fnOf i_is_thing.name i_is_thing.qual i_is_thing.params i_is_thing.body i_is_thing.scope .none kV1 dc1 pm1 an1 cd1 ct1) i_is_thing.ps 1 [] g1_1 := by
  intro s us ws X hu hw
  match us, hu, ws, hw with
  | [u0], _, [], _ => exact ⟨[u0], rfl, .of_eq rfl, ⟨_, _, rfl, rfl, rfl⟩⟩
theorem p2_3 {kV2 : Value} {dc2 pm2 cd2 ct2 : Value} {an2 : Option Addr} : BindOk K (PySem.W.fnOf i_mix_of.name i_mix_of.qual i_mix_of.params i_mix_of.body i_mix_of.scope .none kV2 dc2 pm2 an2 cd2 ct2) i_mix_of.ps 3 [] g2_3 := by
  intro s us ws X hu hw
  match us, hu, ws, hw with
  | [u0, u1, u2], _, [], _ => exact ⟨[u0, u1, u2], rfl, .of_eq rfl, ⟨_, _, rfl, rfl, ⟨_, _, rfl, rfl, ⟨_, _, rfl, rfl, rfl⟩⟩⟩⟩
theorem p3_1_base {D3 : Addr} {dc3 pm3 cd3 ct3 : Value} {an3 : Option Addr} : BindOk K (PySem.W.fnOf i_mark_of.name i_mark_of.qual i_mark_of.params i_mark_of.body i_mark_of.scope .none (.ref D3) dc3 pm3 an3 cd3 ct3) i_mark_of.ps 1 ["base"] g3_1_base := by
  intro s us ws X hu hw
  match us, hu, ws, hw with
  | [u0], _, [w0], _ => exact ⟨[u0, w0], rfl, .of_eq rfl, ⟨_, _, rfl, rfl, ⟨_, _, rfl, rfl, rfl⟩⟩⟩
theorem p5_2 {kV5 : Value} {dc5 pm5 cd5 ct5 : Value} {an5 : Option Addr} : BindOk K (PySem.W.fnOf i_are_unlike.name i_are_unlike.qual i_are_unlike.params i_are_unlike.body i_are_unlike.scope .none kV5 dc5 pm5 an5 cd5 ct5) i_are_unlike.ps 2 [] g5_2 := by
  intro s us ws X hu hw
  match us, hu, ws, hw with
  | [u0, u1], _, [], _ => exact ⟨[u0, u1], rfl, .of_eq rfl, ⟨_, _, rfl, rfl, ⟨_, _, rfl, rfl, rfl⟩⟩⟩
theorem p4_1 {kV4 : Value} {dc4 pm4 cd4 ct4 : Value} {an4 : Option Addr} : BindOk K (PySem.W.fnOf i_kind_of.name i_kind_of.qual i_kind_of.params i_kind_of.body i_kind_of.scope .none kV4 dc4 pm4 an4 cd4 ct4) i_kind_of.ps 1 [] g4_1 := by
  intro s us ws X hu hw
  match us, hu, ws, hw with
  | [u0], _, [], _ => exact ⟨[u0], rfl, .of_eq rfl, ⟨_, _, rfl, rfl, rfl⟩⟩
theorem p8_2 {kV8 : Value} {dc8 pm8 cd8 ct8 : Value} {an8 : Option Addr} : BindOk K (PySem.W.fnOf i__law_take.name i__law_take.qual i__law_take.params i__law_take.body i__law_take.scope .none kV8 dc8 pm8 an8 cd8 ct8) i__law_take.ps 2 [] g8_2 := by
  intro s us ws X hu hw
  match us, hu, ws, hw with
  | [u0, u1], _, [], _ => exact ⟨[u0, u1], rfl, .of_eq rfl, ⟨_, _, rfl, rfl, ⟨_, _, rfl, rfl, rfl⟩⟩⟩
theorem p9_1 {kV9 : Value} {dc9 pm9 cd9 ct9 : Value} {an9 : Option Addr} : BindOk K (PySem.W.fnOf i__law_odd.name i__law_odd.qual i__law_odd.params i__law_odd.body i__law_odd.scope .none kV9 dc9 pm9 an9 cd9 ct9) i__law_odd.ps 1 [] g9_1 := by
  intro s us ws X hu hw
  match us, hu, ws, hw with
  | [u0], _, [], _ => exact ⟨[u0], rfl, .of_eq rfl, ⟨_, _, rfl, rfl, rfl⟩⟩
theorem p10_3 {kV10 : Value} {dc10 pm10 cd10 ct10 : Value} {an10 : Option Addr} : BindOk K (PySem.W.fnOf i__law_bend.name i__law_bend.qual i__law_bend.params i__law_bend.body i__law_bend.scope .none kV10 dc10 pm10 an10 cd10 ct10) i__law_bend.ps 3 [] g10_3 := by
  intro s us ws X hu hw
  match us, hu, ws, hw with
  | [u0, u1, u2], _, [], _ => exact ⟨[u0, u1, u2], rfl, .of_eq rfl, ⟨_, _, rfl, rfl, ⟨_, _, rfl, rfl, ⟨_, _, rfl, rfl, rfl⟩⟩⟩⟩
theorem p11_3 {kV11 : Value} {dc11 pm11 cd11 ct11 : Value} {an11 : Option Addr} : BindOk K (PySem.W.fnOf i__law_mix.name i__law_mix.qual i__law_mix.params i__law_mix.body i__law_mix.scope .none kV11 dc11 pm11 an11 cd11 ct11) i__law_mix.ps 3 [] g11_3 := by
  intro s us ws X hu hw
  match us, hu, ws, hw with
  | [u0, u1, u2], _, [], _ => exact ⟨[u0, u1, u2], rfl, .of_eq rfl, ⟨_, _, rfl, rfl, ⟨_, _, rfl, rfl, ⟨_, _, rfl, rfl, rfl⟩⟩⟩⟩
theorem p12_2 {kV12 : Value} {dc12 pm12 cd12 ct12 : Value} {an12 : Option Addr} : BindOk K (PySem.W.fnOf i__law_mark.name i__law_mark.qual i__law_mark.params i__law_mark.body i__law_mark.scope .none kV12 dc12 pm12 an12 cd12 ct12) i__law_mark.ps 2 [] g12_2 := by
  intro s us ws X hu hw
  match us, hu, ws, hw with
  | [u0, u1], _, [], _ => exact ⟨[u0, u1], rfl, .of_eq rfl, ⟨_, _, rfl, rfl, ⟨_, _, rfl, rfl, rfl⟩⟩⟩
theorem p13_2 {kV13 : Value} {dc13 pm13 cd13 ct13 : Value} {an13 : Option Addr} : BindOk K (PySem.W.fnOf i__law_thing.name i__law_thing.qual i__law_thing.params i__law_thing.body i__law_thing.scope .none kV13 dc13 pm13 an13 cd13 ct13) i__law_thing.ps 2 [] g13_2 := by
  intro s us ws X hu hw
  match us, hu, ws, hw with
  | [u0, u1], _, [], _ => exact ⟨[u0, u1], rfl, .of_eq rfl, ⟨_, _, rfl, rfl, ⟨_, _, rfl, rfl, rfl⟩⟩⟩
theorem p15_1 {kV15 : Value} {dc15 pm15 cd15 ct15 : Value} {an15 : Option Addr} : BindOk K (PySem.W.fnOf i__law_is_number.name i__law_is_number.qual i__law_is_number.params i__law_is_number.body i__law_is_number.scope .none kV15 dc15 pm15 an15 cd15 ct15) i__law_is_number.ps 1 [] g15_1 := by
  intro s us ws X hu hw
  match us, hu, ws, hw with
  | [u0], _, [], _ => exact ⟨[u0], rfl, .of_eq rfl, ⟨_, _, rfl, rfl, rfl⟩⟩
theorem p16_1 {kV16 : Value} {dc16 pm16 cd16 ct16 : Value} {an16 : Option Addr} : BindOk K (PySem.W.fnOf i__law_is_stuff.name i__law_is_stuff.qual i__law_is_stuff.params i__law_is_stuff.body i__law_is_stuff.scope .none kV16 dc16 pm16 an16 cd16 ct16) i__law_is_stuff.ps 1 [] g16_1 := by
  intro s us ws X hu hw
  match us, hu, ws, hw with
  | [u0], _, [], _ => exact ⟨[u0], rfl, .of_eq rfl, ⟨_, _, rfl, rfl, rfl⟩⟩
theorem p6_1 {D6 : Addr} {dc6 pm6 cd6 ct6 : Value} {an6 : Option Addr} {tk5 : Tok} (h0 : PySem.W.nsIn K D6 "base" = some (some (.int 1000003 tk5))) : BindOk K (PySem.W.fnOf i_is_collision.name i_is_collision.qual i_is_collision.params i_is_collision.body i_is_collision.scope .none (.ref D6) dc6 pm6 an6 cd6 ct6) i_is_collision.ps 1 [] g6_1 := by
  intro s us ws X hu hw
  match us, hu, ws, hw with
  | [u0], _, [], _ => exact ⟨[u0, (.int 1000003 tk5)], rfl, L2.BindsTo.of_looks fun M => KwChain.looks (D := D6) (l := [("base", (.int 1000003 tk5))]) X (fun q hq => by simp only [List.mem_cons, List.not_mem_nil, or_false] at hq; rcases hq with rfl <;> assumption) ⟨_, _, _, _, _, _, rfl, rfl, rfl⟩, ⟨_, _, rfl, rfl, ⟨_, _, rfl, ⟨(V.int 1000003), ⟨_, rfl⟩, fun _ _ => rfl⟩, rfl⟩⟩⟩
theorem p17_2 {kV17 : Value} {dc17 pm17 cd17 ct17 : Value} {an17 : Option Addr} : BindOk K (PySem.W.fnOf i__law_is_both.name i__law_is_both.qual i__law_is_both.params i__law_is_both.body i__law_is_both.scope .none kV17 dc17 pm17 an17 cd17 ct17) i__law_is_both.ps 2 [] g17_2 := by
  intro s us ws X hu hw
  match us, hu, ws, hw with
  | [u0, u1], _, [], _ => exact ⟨[u0, u1], rfl, .of_eq rfl, ⟨_, _, rfl, rfl, ⟨_, _, rfl, rfl, rfl⟩⟩⟩
theorem p14_1 {kV14 : Value} {dc14 pm14 cd14 ct14 : Value} {an14 : Option Addr} : BindOk K (PySem.W.fnOf i__law_base.name i__law_base.qual i__law_base.params i__law_base.body i__law_base.scope .none kV14 dc14 pm14 an14 cd14 ct14) i__law_base.ps 1 [] g14_1 := by
  intro s us ws X hu hw
  match us, hu, ws, hw with
  | [u0], _, [], _ => exact ⟨[u0], rfl, .of_eq rfl, ⟨_, _, rfl, rfl, rfl⟩⟩
theorem p6_1_base {D6 : Addr} {dc6 pm6 cd6 ct6 : Value} {an6 : Option Addr} : BindOk K (PySem.W.fnOf i_is_collision.name i_is_collision.qual i_is_collision.params i_is_collision.body i_is_collision.scope .none (.ref D6) dc6 pm6 an6 cd6 ct6) i_is_collision.ps 1 ["base"] g6_1_base := by
  intro s us ws X hu hw
  match us, hu, ws, hw with
  | [u0], _, [w0], _ => exact ⟨[u0, w0], rfl, .of_eq rfl, ⟨_, _, rfl, rfl, ⟨_, _, rfl, rfl, rfl⟩⟩⟩
theorem p18_2 {kV18 : Value} {dc18 pm18 cd18 ct18 : Value} {an18 : Option Addr} : BindOk K (PySem.W.fnOf i__law_pairs.name i__law_pairs.qual i__law_pairs.params i__law_pairs.body i__law_pairs.scope .none kV18 dc18 pm18 an18 cd18 ct18) i__law_pairs.ps 2 [] g18_2 := by
  intro s us ws X hu hw
  match us, hu, ws, hw with
  | [u0, u1], _, [], _ => exact ⟨[u0, u1], rfl, .of_eq rfl, ⟨_, _, rfl, rfl, ⟨_, _, rfl, rfl, rfl⟩⟩⟩
theorem p7_1 {kV7 : Value} {dc7 pm7 cd7 ct7 : Value} {an7 : Option Addr} : BindOk K (PySem.W.fnOf i__law_tap.name i__law_tap.qual i__law_tap.params i__law_tap.body i__law_tap.scope .none kV7 dc7 pm7 an7 cd7 ct7) i__law_tap.ps 1 [] g7_1 := by
  intro s us ws X hu hw
  match us, hu, ws, hw with
  | [u0], _, [], _ => exact ⟨[u0], rfl, .of_eq rfl, ⟨_, _, rfl, rfl, rfl⟩⟩
end
theorem all_mk {l : PySem.W.OpenLaw} {w : World} {K : PySem.W.Frag} {h : Heap} {mg : Str → Option Value} {fa : Addr} (X : K.In h) (G : h.Ns mainGlobals mg) (hfa : mg "law" = some (.ref fa))
    {f0 : Addr} {od0 an0 : Option Addr} {sl0 : Array (Option Value)} {oc0 dc0 pm0 cd0 ct0 : Value}
    {kV0 : Value}
    {f1 : Addr} {od1 an1 : Option Addr} {sl1 : Array (Option Value)} {oc1 dc1 pm1 cd1 ct1 : Value}
    {kV1 : Value}
    {f2 : Addr} {od2 an2 : Option Addr} {sl2 : Array (Option Value)} {oc2 dc2 pm2 cd2 ct2 : Value}
    {kV2 : Value}
    {f3 : Addr} {od3 an3 : Option Addr} {sl3 : Array (Option Value)} {oc3 dc3 pm3 cd3 ct3 : Value}
    {D3 : Addr}
    {tk1 : Tok}
    {f4 : Addr} {od4 an4 : Option Addr} {sl4 : Array (Option Value)} {oc4 dc4 pm4 cd4 ct4 : Value}
    {kV4 : Value}
    {f5 : Addr} {od5 an5 : Option Addr} {sl5 : Array (Option Value)} {oc5 dc5 pm5 cd5 ct5 : Value}
    {kV5 : Value}
    {f6 : Addr} {od6 an6 : Option Addr} {sl6 : Array (Option Value)} {oc6 dc6 pm6 cd6 ct6 : Value}
    {D6 : Addr}
    {tk2 : Tok}
    {f7 : Addr} {od7 an7 : Option Addr} {sl7 : Array (Option Value)} {oc7 dc7 pm7 cd7 ct7 : Value}
    {kV7 : Value}
    {f8 : Addr} {od8 an8 : Option Addr} {sl8 : Array (Option Value)} {oc8 dc8 pm8 cd8 ct8 : Value}
    {kV8 : Value}
    {f9 : Addr} {od9 an9 : Option Addr} {sl9 : Array (Option Value)} {oc9 dc9 pm9 cd9 ct9 : Value}
    {kV9 : Value}
    {f10 : Addr} {od10 an10 : Option Addr} {sl10 : Array (Option Value)} {oc10 dc10 pm10 cd10 ct10 : Value}
    {kV10 : Value}
    {f11 : Addr} {od11 an11 : Option Addr} {sl11 : Array (Option Value)} {oc11 dc11 pm11 cd11 ct11 : Value}
    {kV11 : Value}
    {f12 : Addr} {od12 an12 : Option Addr} {sl12 : Array (Option Value)} {oc12 dc12 pm12 cd12 ct12 : Value}
    {kV12 : Value}
    {f13 : Addr} {od13 an13 : Option Addr} {sl13 : Array (Option Value)} {oc13 dc13 pm13 cd13 ct13 : Value}
    {kV13 : Value}
    {f14 : Addr} {od14 an14 : Option Addr} {sl14 : Array (Option Value)} {oc14 dc14 pm14 cd14 ct14 : Value}
    {kV14 : Value}
    {f15 : Addr} {od15 an15 : Option Addr} {sl15 : Array (Option Value)} {oc15 dc15 pm15 cd15 ct15 : Value}
    {kV15 : Value}
    {f16 : Addr} {od16 an16 : Option Addr} {sl16 : Array (Option Value)} {oc16 dc16 pm16 cd16 ct16 : Value}
    {kV16 : Value}
    {f17 : Addr} {od17 an17 : Option Addr} {sl17 : Array (Option Value)} {oc17 dc17 pm17 cd17 ct17 : Value}
    {kV17 : Value}
    {f18 : Addr} {od18 an18 : Option Addr} {sl18 : Array (Option Value)} {oc18 dc18 pm18 cd18 ct18 : Value}
    {kV18 : Value}
    {f19 : Addr} {od19 an19 : Option Addr} {sl19 : Array (Option Value)} {oc19 dc19 pm19 cd19 ct19 : Value}
    {kV19 : Value}
    {tk3 : Tok}
    {tk4 : Tok}
    (a0 : PySem.W.nsIn K mainGlobals i_is_number.name = some (some (.ref f0)))
    (l0 : K.lookup f0 = some ⟨oc0, od0, .func (PySem.W.fnOf i_is_number.name i_is_number.qual i_is_number.params i_is_number.body i_is_number.scope .none kV0 dc0 pm0 an0 cd0 ct0), sl0⟩)
    (c0 : PySem.W.codeIn K cd0 i_is_number.qual = true)
    (k0 : PySem.W.keepIn K (.ref f0) = true)
    (a1 : PySem.W.nsIn K mainGlobals i_is_thing.name = some (some (.ref f1)))
    (l1 : K.lookup f1 = some ⟨oc1, od1, .func (PySem.W.fnOf i_is_thing.name i_is_thing.qual i_is_thing.params i_is_thing.body i_is_thing.scope .none kV1 dc1 pm1 an1 cd1 ct1), sl1⟩)
    (c1 : PySem.W.codeIn K cd1 i_is_thing.qual = true)
    (k1 : PySem.W.keepIn K (.ref f1) = true)
    (a2 : PySem.W.nsIn K mainGlobals i_mix_of.name = some (some (.ref f2)))
    (l2 : K.lookup f2 = some ⟨oc2, od2, .func (PySem.W.fnOf i_mix_of.name i_mix_of.qual i_mix_of.params i_mix_of.body i_mix_of.scope .none kV2 dc2 pm2 an2 cd2 ct2), sl2⟩)
    (c2 : PySem.W.codeIn K cd2 i_mix_of.qual = true)
    (k2 : PySem.W.keepIn K (.ref f2) = true)
    (a3 : PySem.W.nsIn K mainGlobals i_mark_of.name = some (some (.ref f3)))
    (l3 : K.lookup f3 = some ⟨oc3, od3, .func (PySem.W.fnOf i_mark_of.name i_mark_of.qual i_mark_of.params i_mark_of.body i_mark_of.scope .none (.ref D3) dc3 pm3 an3 cd3 ct3), sl3⟩)
    (c3 : PySem.W.codeIn K cd3 i_mark_of.qual = true)
    (k3 : PySem.W.keepIn K (.ref f3) = true)
    (d3_0 : PySem.W.nsIn K D3 "base" = some (some (.int 1000003 tk1)))
    (a4 : PySem.W.nsIn K mainGlobals i_kind_of.name = some (some (.ref f4)))
    (l4 : K.lookup f4 = some ⟨oc4, od4, .func (PySem.W.fnOf i_kind_of.name i_kind_of.qual i_kind_of.params i_kind_of.body i_kind_of.scope .none kV4 dc4 pm4 an4 cd4 ct4), sl4⟩)
    (c4 : PySem.W.codeIn K cd4 i_kind_of.qual = true)
    (k4 : PySem.W.keepIn K (.ref f4) = true)
    (a5 : PySem.W.nsIn K mainGlobals i_are_unlike.name = some (some (.ref f5)))
    (l5 : K.lookup f5 = some ⟨oc5, od5, .func (PySem.W.fnOf i_are_unlike.name i_are_unlike.qual i_are_unlike.params i_are_unlike.body i_are_unlike.scope .none kV5 dc5 pm5 an5 cd5 ct5), sl5⟩)
    (c5 : PySem.W.codeIn K cd5 i_are_unlike.qual = true)
    (k5 : PySem.W.keepIn K (.ref f5) = true)
    (a6 : PySem.W.nsIn K mainGlobals i_is_collision.name = some (some (.ref f6)))
    (l6 : K.lookup f6 = some ⟨oc6, od6, .func (PySem.W.fnOf i_is_collision.name i_is_collision.qual i_is_collision.params i_is_collision.body i_is_collision.scope .none (.ref D6) dc6 pm6 an6 cd6 ct6), sl6⟩)
    (c6 : PySem.W.codeIn K cd6 i_is_collision.qual = true)
    (k6 : PySem.W.keepIn K (.ref f6) = true)
    (d6_0 : PySem.W.nsIn K D6 "base" = some (some (.int 1000003 tk2)))
    (a7 : PySem.W.nsIn K mainGlobals i__law_tap.name = some (some (.ref f7)))
    (l7 : K.lookup f7 = some ⟨oc7, od7, .func (PySem.W.fnOf i__law_tap.name i__law_tap.qual i__law_tap.params i__law_tap.body i__law_tap.scope .none kV7 dc7 pm7 an7 cd7 ct7), sl7⟩)
    (c7 : PySem.W.codeIn K cd7 i__law_tap.qual = true)
    (k7 : PySem.W.keepIn K (.ref f7) = true)
    (a8 : PySem.W.nsIn K mainGlobals i__law_take.name = some (some (.ref f8)))
    (l8 : K.lookup f8 = some ⟨oc8, od8, .func (PySem.W.fnOf i__law_take.name i__law_take.qual i__law_take.params i__law_take.body i__law_take.scope .none kV8 dc8 pm8 an8 cd8 ct8), sl8⟩)
    (c8 : PySem.W.codeIn K cd8 i__law_take.qual = true)
    (k8 : PySem.W.keepIn K (.ref f8) = true)
    (a9 : PySem.W.nsIn K mainGlobals i__law_odd.name = some (some (.ref f9)))
    (l9 : K.lookup f9 = some ⟨oc9, od9, .func (PySem.W.fnOf i__law_odd.name i__law_odd.qual i__law_odd.params i__law_odd.body i__law_odd.scope .none kV9 dc9 pm9 an9 cd9 ct9), sl9⟩)
    (c9 : PySem.W.codeIn K cd9 i__law_odd.qual = true)
    (k9 : PySem.W.keepIn K (.ref f9) = true)
    (a10 : PySem.W.nsIn K mainGlobals i__law_bend.name = some (some (.ref f10)))
    (l10 : K.lookup f10 = some ⟨oc10, od10, .func (PySem.W.fnOf i__law_bend.name i__law_bend.qual i__law_bend.params i__law_bend.body i__law_bend.scope .none kV10 dc10 pm10 an10 cd10 ct10), sl10⟩)
    (c10 : PySem.W.codeIn K cd10 i__law_bend.qual = true)
    (k10 : PySem.W.keepIn K (.ref f10) = true)
    (a11 : PySem.W.nsIn K mainGlobals i__law_mix.name = some (some (.ref f11)))
    (l11 : K.lookup f11 = some ⟨oc11, od11, .func (PySem.W.fnOf i__law_mix.name i__law_mix.qual i__law_mix.params i__law_mix.body i__law_mix.scope .none kV11 dc11 pm11 an11 cd11 ct11), sl11⟩)
    (c11 : PySem.W.codeIn K cd11 i__law_mix.qual = true)
    (k11 : PySem.W.keepIn K (.ref f11) = true)
    (a12 : PySem.W.nsIn K mainGlobals i__law_mark.name = some (some (.ref f12)))
    (l12 : K.lookup f12 = some ⟨oc12, od12, .func (PySem.W.fnOf i__law_mark.name i__law_mark.qual i__law_mark.params i__law_mark.body i__law_mark.scope .none kV12 dc12 pm12 an12 cd12 ct12), sl12⟩)
    (c12 : PySem.W.codeIn K cd12 i__law_mark.qual = true)
    (k12 : PySem.W.keepIn K (.ref f12) = true)
    (a13 : PySem.W.nsIn K mainGlobals i__law_thing.name = some (some (.ref f13)))
    (l13 : K.lookup f13 = some ⟨oc13, od13, .func (PySem.W.fnOf i__law_thing.name i__law_thing.qual i__law_thing.params i__law_thing.body i__law_thing.scope .none kV13 dc13 pm13 an13 cd13 ct13), sl13⟩)
    (c13 : PySem.W.codeIn K cd13 i__law_thing.qual = true)
    (k13 : PySem.W.keepIn K (.ref f13) = true)
    (a14 : PySem.W.nsIn K mainGlobals i__law_base.name = some (some (.ref f14)))
    (l14 : K.lookup f14 = some ⟨oc14, od14, .func (PySem.W.fnOf i__law_base.name i__law_base.qual i__law_base.params i__law_base.body i__law_base.scope .none kV14 dc14 pm14 an14 cd14 ct14), sl14⟩)
    (c14 : PySem.W.codeIn K cd14 i__law_base.qual = true)
    (k14 : PySem.W.keepIn K (.ref f14) = true)
    (a15 : PySem.W.nsIn K mainGlobals i__law_is_number.name = some (some (.ref f15)))
    (l15 : K.lookup f15 = some ⟨oc15, od15, .func (PySem.W.fnOf i__law_is_number.name i__law_is_number.qual i__law_is_number.params i__law_is_number.body i__law_is_number.scope .none kV15 dc15 pm15 an15 cd15 ct15), sl15⟩)
    (c15 : PySem.W.codeIn K cd15 i__law_is_number.qual = true)
    (k15 : PySem.W.keepIn K (.ref f15) = true)
    (a16 : PySem.W.nsIn K mainGlobals i__law_is_stuff.name = some (some (.ref f16)))
    (l16 : K.lookup f16 = some ⟨oc16, od16, .func (PySem.W.fnOf i__law_is_stuff.name i__law_is_stuff.qual i__law_is_stuff.params i__law_is_stuff.body i__law_is_stuff.scope .none kV16 dc16 pm16 an16 cd16 ct16), sl16⟩)
    (c16 : PySem.W.codeIn K cd16 i__law_is_stuff.qual = true)
    (k16 : PySem.W.keepIn K (.ref f16) = true)
    (a17 : PySem.W.nsIn K mainGlobals i__law_is_both.name = some (some (.ref f17)))
    (l17 : K.lookup f17 = some ⟨oc17, od17, .func (PySem.W.fnOf i__law_is_both.name i__law_is_both.qual i__law_is_both.params i__law_is_both.body i__law_is_both.scope .none kV17 dc17 pm17 an17 cd17 ct17), sl17⟩)
    (c17 : PySem.W.codeIn K cd17 i__law_is_both.qual = true)
    (k17 : PySem.W.keepIn K (.ref f17) = true)
    (a18 : PySem.W.nsIn K mainGlobals i__law_pairs.name = some (some (.ref f18)))
    (l18 : K.lookup f18 = some ⟨oc18, od18, .func (PySem.W.fnOf i__law_pairs.name i__law_pairs.qual i__law_pairs.params i__law_pairs.body i__law_pairs.scope .none kV18 dc18 pm18 an18 cd18 ct18), sl18⟩)
    (c18 : PySem.W.codeIn K cd18 i__law_pairs.qual = true)
    (k18 : PySem.W.keepIn K (.ref f18) = true)
    (a19 : PySem.W.nsIn K mainGlobals i_law.name = some (some (.ref f19)))
    (l19 : K.lookup f19 = some ⟨oc19, od19, .func (PySem.W.fnOf i_law.name i_law.qual i_law.params i_law.body i_law.scope .none kV19 dc19 pm19 an19 cd19 ct19), sl19⟩)
    (c19 : PySem.W.codeIn K cd19 i_law.qual = true)
    (k19 : PySem.W.keepIn K (.ref f19) = true)
    (q0 : PySem.W.nsIn K mainGlobals "TUPLE_START" = some (some (.int 13 tk3)))
    (q1 : PySem.W.nsIn K mainGlobals "TEXT_START" = some (some (.int 17 tk4)))
    (z0 : PySem.W.nsIn K mainGlobals "isinstance" = some none)
    (z1 : PySem.W.nsIn K mainGlobals "int" = some none)
    (z2 : PySem.W.nsIn K mainGlobals "bool" = some none)
    (z3 : PySem.W.nsIn K mainGlobals "str" = some none)
    (z4 : PySem.W.nsIn K mainGlobals "tuple" = some none)
    (z5 : PySem.W.nsIn K mainGlobals "all" = some none)
    (z6 : PySem.W.nsIn K mainGlobals "len" = some none)
    (z7 : PySem.W.nsIn K mainGlobals "ord" = some none)
    (z8 : PySem.W.nsIn K mainGlobals "any" = some none)
    (z9 : PySem.W.nsIn K mainGlobals "zip" = some none)
    (z10 : PySem.W.nsIn K mainGlobals "list" = some none)
    (z11 : PySem.W.nsIn K mainGlobals "range" = some none)
    (z12 : PySem.W.nsIn K mainGlobals "repr" = some none)
    : ∃ (fd : FuncData) (Fi : List D → Hpp → R D), (∀ (s : Shared) (u : Value), BindsTo s fd ⟨[u], []⟩ [("_law_script", u)]) ∧
        (∀ base : Heap, K.In base → base.Ns mainGlobals mg → FnG l.prog w K mg base 60 fa fd ["_law_script"] (spG K Fi)) ∧
        ∀ ns : List Int, ns.length ≤ 63 → ∃ A', Fi [.ref 0] [.rd (ns.map D.int)] = .ok (.bl true) A' := by
  have e := hfa.symm.trans (PySem.W.mg_of X G a19)
  obtain rfl : f19 = fa := by cases e; rfl
  let ad : Nat → Addr := fun i => match i with
    | 0 => f0
    | 1 => f1
    | 2 => f2
    | 3 => f3
    | 4 => f4
    | 5 => f5
    | 6 => f6
    | 7 => f7
    | 8 => f8
    | 9 => f9
    | 10 => f10
    | 11 => f11
    | 12 => f12
    | 13 => f13
    | 14 => f14
    | 15 => f15
    | 16 => f16
    | 17 => f17
    | 18 => f18
    | 19 => f19
    | _ => 0
  let fd : Nat → FuncData := fun i => match i with
    | 0 => PySem.W.fnOf i_is_number.name i_is_number.qual i_is_number.params i_is_number.body i_is_number.scope .none kV0 dc0 pm0 an0 cd0 ct0
    | 1 => PySem.W.fnOf i_is_thing.name i_is_thing.qual i_is_thing.params i_is_thing.body i_is_thing.scope .none kV1 dc1 pm1 an1 cd1 ct1
    | 2 => PySem.W.fnOf i_mix_of.name i_mix_of.qual i_mix_of.params i_mix_of.body i_mix_of.scope .none kV2 dc2 pm2 an2 cd2 ct2
    | 3 => PySem.W.fnOf i_mark_of.name i_mark_of.qual i_mark_of.params i_mark_of.body i_mark_of.scope .none (.ref D3) dc3 pm3 an3 cd3 ct3
    | 4 => PySem.W.fnOf i_kind_of.name i_kind_of.qual i_kind_of.params i_kind_of.body i_kind_of.scope .none kV4 dc4 pm4 an4 cd4 ct4
    | 5 => PySem.W.fnOf i_are_unlike.name i_are_unlike.qual i_are_unlike.params i_are_unlike.body i_are_unlike.scope .none kV5 dc5 pm5 an5 cd5 ct5
    | 6 => PySem.W.fnOf i_is_collision.name i_is_collision.qual i_is_collision.params i_is_collision.body i_is_collision.scope .none (.ref D6) dc6 pm6 an6 cd6 ct6
    | 7 => PySem.W.fnOf i__law_tap.name i__law_tap.qual i__law_tap.params i__law_tap.body i__law_tap.scope .none kV7 dc7 pm7 an7 cd7 ct7
    | 8 => PySem.W.fnOf i__law_take.name i__law_take.qual i__law_take.params i__law_take.body i__law_take.scope .none kV8 dc8 pm8 an8 cd8 ct8
    | 9 => PySem.W.fnOf i__law_odd.name i__law_odd.qual i__law_odd.params i__law_odd.body i__law_odd.scope .none kV9 dc9 pm9 an9 cd9 ct9
    | 10 => PySem.W.fnOf i__law_bend.name i__law_bend.qual i__law_bend.params i__law_bend.body i__law_bend.scope .none kV10 dc10 pm10 an10 cd10 ct10
    | 11 => PySem.W.fnOf i__law_mix.name i__law_mix.qual i__law_mix.params i__law_mix.body i__law_mix.scope .none kV11 dc11 pm11 an11 cd11 ct11
    | 12 => PySem.W.fnOf i__law_mark.name i__law_mark.qual i__law_mark.params i__law_mark.body i__law_mark.scope .none kV12 dc12 pm12 an12 cd12 ct12
    | 13 => PySem.W.fnOf i__law_thing.name i__law_thing.qual i__law_thing.params i__law_thing.body i__law_thing.scope .none kV13 dc13 pm13 an13 cd13 ct13
    | 14 => PySem.W.fnOf i__law_base.name i__law_base.qual i__law_base.params i__law_base.body i__law_base.scope .none kV14 dc14 pm14 an14 cd14 ct14
    | 15 => PySem.W.fnOf i__law_is_number.name i__law_is_number.qual i__law_is_number.params i__law_is_number.body i__law_is_number.scope .none kV15 dc15 pm15 an15 cd15 ct15
    | 16 => PySem.W.fnOf i__law_is_stuff.name i__law_is_stuff.qual i__law_is_stuff.params i__law_is_stuff.body i__law_is_stuff.scope .none kV16 dc16 pm16 an16 cd16 ct16
    | 17 => PySem.W.fnOf i__law_is_both.name i__law_is_both.qual i__law_is_both.params i__law_is_both.body i__law_is_both.scope .none kV17 dc17 pm17 an17 cd17 ct17
    | 18 => PySem.W.fnOf i__law_pairs.name i__law_pairs.qual i__law_pairs.params i__law_pairs.body i__law_pairs.scope .none kV18 dc18 pm18 an18 cd18 ct18
    | 19 => PySem.W.fnOf i_law.name i_law.qual i_law.params i_law.body i_law.scope .none kV19 dc19 pm19 an19 cd19 ct19
    | _ => PySem.W.fnOf i_is_number.name i_is_number.qual i_is_number.params i_is_number.body i_is_number.scope .none kV0 dc0 pm0 an0 cd0 ct0
  have W : World' tb K mg ad fd := by
    refine ⟨?_, ?_, ?_, ?_⟩
    · intro x hx
      simp only [tb, List.mem_cons, List.not_mem_nil, or_false] at hx
      rcases hx with rfl | rfl | rfl | rfl | rfl | rfl | rfl | rfl | rfl | rfl | rfl | rfl | rfl
      · exact PySem.W.mg_none_of X G z0
      · exact PySem.W.mg_none_of X G z1
      · exact PySem.W.mg_none_of X G z2
      · exact PySem.W.mg_none_of X G z3
      · exact PySem.W.mg_none_of X G z4
      · exact PySem.W.mg_none_of X G z5
      · exact PySem.W.mg_none_of X G z6
      · exact PySem.W.mg_none_of X G z7
      · exact PySem.W.mg_none_of X G z8
      · exact PySem.W.mg_none_of X G z9
      · exact PySem.W.mg_none_of X G z10
      · exact PySem.W.mg_none_of X G z11
      · exact PySem.W.mg_none_of X G z12
    · intro p hp
      simp only [tb, List.mem_cons, List.not_mem_nil, or_false] at hp
      rcases hp with rfl | rfl
      · exact ⟨(V.int 13), _, PySem.W.mg_of X G q0, ⟨_, rfl⟩, fun _ _ => rfl⟩
      · exact ⟨(V.int 17), _, PySem.W.mg_of X G q1, ⟨_, rfl⟩, fun _ _ => rfl⟩
    · intro i I h
      match i with
      | 0 => cases h; exact ⟨PySem.W.mg_of X G a0, k0, oc0, od0, _, _, dc0, pm0, an0, cd0, ct0, sl0, rfl, l0, c0⟩
      | 1 => cases h; exact ⟨PySem.W.mg_of X G a1, k1, oc1, od1, _, _, dc1, pm1, an1, cd1, ct1, sl1, rfl, l1, c1⟩
      | 2 => cases h; exact ⟨PySem.W.mg_of X G a2, k2, oc2, od2, _, _, dc2, pm2, an2, cd2, ct2, sl2, rfl, l2, c2⟩
      | 3 => cases h; exact ⟨PySem.W.mg_of X G a3, k3, oc3, od3, _, _, dc3, pm3, an3, cd3, ct3, sl3, rfl, l3, c3⟩
      | 4 => cases h; exact ⟨PySem.W.mg_of X G a4, k4, oc4, od4, _, _, dc4, pm4, an4, cd4, ct4, sl4, rfl, l4, c4⟩
      | 5 => cases h; exact ⟨PySem.W.mg_of X G a5, k5, oc5, od5, _, _, dc5, pm5, an5, cd5, ct5, sl5, rfl, l5, c5⟩
      | 6 => cases h; exact ⟨PySem.W.mg_of X G a6, k6, oc6, od6, _, _, dc6, pm6, an6, cd6, ct6, sl6, rfl, l6, c6⟩
      | 7 => cases h; exact ⟨PySem.W.mg_of X G a7, k7, oc7, od7, _, _, dc7, pm7, an7, cd7, ct7, sl7, rfl, l7, c7⟩
      | 8 => cases h; exact ⟨PySem.W.mg_of X G a8, k8, oc8, od8, _, _, dc8, pm8, an8, cd8, ct8, sl8, rfl, l8, c8⟩
      | 9 => cases h; exact ⟨PySem.W.mg_of X G a9, k9, oc9, od9, _, _, dc9, pm9, an9, cd9, ct9, sl9, rfl, l9, c9⟩
      | 10 => cases h; exact ⟨PySem.W.mg_of X G a10, k10, oc10, od10, _, _, dc10, pm10, an10, cd10, ct10, sl10, rfl, l10, c10⟩
      | 11 => cases h; exact ⟨PySem.W.mg_of X G a11, k11, oc11, od11, _, _, dc11, pm11, an11, cd11, ct11, sl11, rfl, l11, c11⟩
      | 12 => cases h; exact ⟨PySem.W.mg_of X G a12, k12, oc12, od12, _, _, dc12, pm12, an12, cd12, ct12, sl12, rfl, l12, c12⟩
      | 13 => cases h; exact ⟨PySem.W.mg_of X G a13, k13, oc13, od13, _, _, dc13, pm13, an13, cd13, ct13, sl13, rfl, l13, c13⟩
      | 14 => cases h; exact ⟨PySem.W.mg_of X G a14, k14, oc14, od14, _, _, dc14, pm14, an14, cd14, ct14, sl14, rfl, l14, c14⟩
      | 15 => cases h; exact ⟨PySem.W.mg_of X G a15, k15, oc15, od15, _, _, dc15, pm15, an15, cd15, ct15, sl15, rfl, l15, c15⟩
      | 16 => cases h; exact ⟨PySem.W.mg_of X G a16, k16, oc16, od16, _, _, dc16, pm16, an16, cd16, ct16, sl16, rfl, l16, c16⟩
      | 17 => cases h; exact ⟨PySem.W.mg_of X G a17, k17, oc17, od17, _, _, dc17, pm17, an17, cd17, ct17, sl17, rfl, l17, c17⟩
      | 18 => cases h; exact ⟨PySem.W.mg_of X G a18, k18, oc18, od18, _, _, dc18, pm18, an18, cd18, ct18, sl18, rfl, l18, c18⟩
      | 19 => cases h; exact ⟨PySem.W.mg_of X G a19, k19, oc19, od19, _, _, dc19, pm19, an19, cd19, ct19, sl19, rfl, l19, c19⟩
      | _ + 20 => simp [tb] at h
    · intro p hp
      simp only [tb, List.mem_cons, List.not_mem_nil, or_false] at hp
      rcases hp with rfl | rfl | rfl | rfl | rfl | rfl | rfl | rfl | rfl | rfl | rfl | rfl | rfl | rfl | rfl | rfl | rfl | rfl | rfl | rfl
      · intro I hI; cases hI; exact p0_1 
      · intro I hI; cases hI; exact p1_1 
      · intro I hI; cases hI; exact p2_3 
      · intro I hI; cases hI; exact p3_1_base 
      · intro I hI; cases hI; exact p5_2 
      · intro I hI; cases hI; exact p4_1 
      · intro I hI; cases hI; exact p8_2 
      · intro I hI; cases hI; exact p9_1 
      · intro I hI; cases hI; exact p10_3 
      · intro I hI; cases hI; exact p11_3 
      · intro I hI; cases hI; exact p12_2 
      · intro I hI; cases hI; exact p13_2 
      · intro I hI; cases hI; exact p15_1 
      · intro I hI; cases hI; exact p16_1 
      · intro I hI; cases hI; exact p6_1 d6_0
      · intro I hI; cases hI; exact p17_2 
      · intro I hI; cases hI; exact p14_1 
      · intro I hI; cases hI; exact p6_1_base 
      · intro I hI; cases hI; exact p18_2 
      · intro I hI; cases hI; exact p7_1 
  refine ⟨fd 19, FF pr 60 19, fun s u => .of_eq rfl, fun base _ _ => fnG_all (P := l.prog) (w := w) (base := base) W turned 60 19 i_law rfl, fun ns hn => lv_law ns (Nat.le_trans hn (by decide))⟩
end Rf.Tq.K03
open PySem PySem.W PyProof.Rows
set_option maxRecDepth 100000 in
set_option maxHeartbeats 0 in
theorem PySem.Challenge.cw_sealedrows_k03_collisions_judged_holds : PySem.Challenge.rw_sealedrows_k03_collisions_judged.Holds := by
  w_on; o_law; k_head; (case hw => w_witness2)
  k_fill
  refine Rf.walkG (l := PySem.Challenge.rw_sealedrows_k03_collisions_judged) (n := 63) (k := 60) (x := "_law_script") rfl (by decide) rfl ⟨rfl, by decide, by decide⟩ (fun w h Y => PySem.W.kIn_of Y) ?F
  case F =>
    intro w mg fa h KX G hmg
    refine' Rf.Tq.K03.all_mk KX G hmg ?a0 ?l0 ?c0 ?k0 ?a1 ?l1 ?c1 ?k1 ?a2 ?l2 ?c2 ?k2 ?a3 ?l3 ?c3 ?k3 ?d3_0 ?a4 ?l4 ?c4 ?k4 ?a5 ?l5 ?c5 ?k5 ?a6 ?l6 ?c6 ?k6 ?d6_0 ?a7 ?l7 ?c7 ?k7 ?a8 ?l8 ?c8 ?k8 ?a9 ?l9 ?c9 ?k9 ?a10 ?l10 ?c10 ?k10 ?a11 ?l11 ?c11 ?k11 ?a12 ?l12 ?c12 ?k12 ?a13 ?l13 ?c13 ?k13 ?a14 ?l14 ?c14 ?k14 ?a15 ?l15 ?c15 ?k15 ?a16 ?l16 ?c16 ?k16 ?a17 ?l17 ?c17 ?k17 ?a18 ?l18 ?c18 ?k18 ?a19 ?l19 ?c19 ?k19 ?q0 ?q1 ?z0 ?z1 ?z2 ?z3 ?z4 ?z5 ?z6 ?z7 ?z8 ?z9 ?z10 ?z11 ?z12
    (case a0 => k_is)
    (case l0 => k_is)
    (case c0 => k_is)
    (case k0 => k_is)
    (case a1 => k_is)
    (case l1 => k_is)
    (case c1 => k_is)
    (case k1 => k_is)
    (case a2 => k_is)
    (case l2 => k_is)
    (case c2 => k_is)
    (case k2 => k_is)
    (case a3 => k_is)
    (case l3 => k_is)
    (case c3 => k_is)
    (case k3 => k_is)
    (case d3_0 => k_is)
    (case a4 => k_is)
    (case l4 => k_is)
    (case c4 => k_is)
    (case k4 => k_is)
    (case a5 => k_is)
    (case l5 => k_is)
    (case c5 => k_is)
    (case k5 => k_is)
    (case a6 => k_is)
    (case l6 => k_is)
    (case c6 => k_is)
    (case k6 => k_is)
    (case d6_0 => k_is)
    (case a7 => k_is)
    (case l7 => k_is)
    (case c7 => k_is)
    (case k7 => k_is)
    (case a8 => k_is)
    (case l8 => k_is)
    (case c8 => k_is)
    (case k8 => k_is)
    (case a9 => k_is)
    (case l9 => k_is)
    (case c9 => k_is)
    (case k9 => k_is)
    (case a10 => k_is)
    (case l10 => k_is)
    (case c10 => k_is)
    (case k10 => k_is)
    (case a11 => k_is)
    (case l11 => k_is)
    (case c11 => k_is)
    (case k11 => k_is)
    (case a12 => k_is)
    (case l12 => k_is)
    (case c12 => k_is)
    (case k12 => k_is)
    (case a13 => k_is)
    (case l13 => k_is)
    (case c13 => k_is)
    (case k13 => k_is)
    (case a14 => k_is)
    (case l14 => k_is)
    (case c14 => k_is)
    (case k14 => k_is)
    (case a15 => k_is)
    (case l15 => k_is)
    (case c15 => k_is)
    (case k15 => k_is)
    (case a16 => k_is)
    (case l16 => k_is)
    (case c16 => k_is)
    (case k16 => k_is)
    (case a17 => k_is)
    (case l17 => k_is)
    (case c17 => k_is)
    (case k17 => k_is)
    (case a18 => k_is)
    (case l18 => k_is)
    (case c18 => k_is)
    (case k18 => k_is)
    (case a19 => k_is)
    (case l19 => k_is)
    (case c19 => k_is)
    (case k19 => k_is)
    (case q0 => k_is)
    (case q1 => k_is)
    (case z0 => k_is)
    (case z1 => k_is)
    (case z2 => k_is)
    (case z3 => k_is)
    (case z4 => k_is)
    (case z5 => k_is)
    (case z6 => k_is)
    (case z7 => k_is)
    (case z8 => k_is)
    (case z9 => k_is)
    (case z10 => k_is)
    (case z11 => k_is)
    (case z12 => k_is)
