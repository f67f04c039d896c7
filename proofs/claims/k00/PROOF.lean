import PyProof.Rows.All
import Wide.All
import OpenK.AllK
import Wide.FinOn
import HandS.ForMost
import HandS.ForExc
import HandS.Flow
import HandS.Defaults
import HandS.TryMany
import HandS.TupAny
import HandS.TupMul
import HandS.IsInst
import KE.DataAny
import HandS.RaiseMore
import HandS.Style
import HandS.Iter
import HandS.Comp
import KE.KExcSuper
import HandS.ExcSuper
import HandS.ExcInit
import HandS.NestedK
import HandS.ExcField
import HandS.ExcIs
import KE.KExcIs
import HandS.Zip
import KE.GoesMore
import KE.GoesZip
import KE.GoesEnum
import PyProof.EnumMake
import HandS.SortInts
import HandS.Text
import HandS.StrMore
import HandS.Replace
import HandS.Sort
import KE.SortData
import KE.DataMinKey
import HandS.SortKw
import KE.KDictZip
import PyProof.TupleOfGen
import HandS.Keys
import HandS.HeadHook2
import HandS.HeadEnd
import HandS.Head2
import HandS.Deep
import PyProof.ReprRoads
import PyProof.ReprBulk
import KE.DataMinMax
import HandS.More
import HandS.HotCalls
import PySem.Challenge.RW_blocksheal_k00_errors_and_limits
set_option Elab.async false
set_option linter.all false
set_option maxRecDepth 100000
set_option maxHeartbeats 4000000
/-! Bh, part 1: values, logical heap, outcomes, combinators. -/
namespace Bh
open PySem PySem.Spec PyProof.Rows L2
/-- a value of the evaluator: lists and dicts that nobody changes any more are values; what may be changed is a reference -/
inductive D where
  | non | bl (b : Bool) | int (i : Int) | str (x : PySem.Str) | tup (xs : List D) | lst (xs : List D) | dic (kvs : List (D × D)) | ref (n : Nat) | fn (n : Nat)
/-! ### equality of values as such (keys, and what the collector asks) -/
mutual
def D.beq : D → D → Bool
  | .non, .non => true
  | .bl a, .bl b => a == b
  | .int a, .int b => a == b
  | .str a, .str b => a == b
  | .tup a, .tup b => D.beqs a b
  | .lst a, .lst b => D.beqs a b
  | .dic a, .dic b => D.beqk a b
  | .ref a, .ref b => a == b
  | .fn a, .fn b => a == b
  | _, _ => false
def D.beqs : List D → List D → Bool
  | [], [] => true
  | a :: r, b :: s => D.beq a b && D.beqs r s
  | _, _ => false
def D.beqk : List (D × D) → List (D × D) → Bool
  | [], [] => true
  | (a, c) :: r, (b, d) :: s => D.beq a b && (D.beq c d && D.beqk r s)
  | _, _ => false
end
mutual
theorem D.beq_eq : ∀ a b : D, D.beq a b = true → a = b
  | .non, b, h => by cases b <;> first | rfl | (exact absurd h (by simp [D.beq]))
  | .bl x, b, h => by cases b <;> first | (simp [D.beq] at h; subst h; rfl) | (exact absurd h (by simp [D.beq]))
  | .int x, b, h => by cases b <;> first | (simp [D.beq] at h; subst h; rfl) | (exact absurd h (by simp [D.beq]))
  | .str x, b, h => by cases b <;> first | (simp [D.beq] at h; subst h; rfl) | (exact absurd h (by simp [D.beq]))
  | .tup x, b, h => by cases b <;> first | (simp only [D.beq] at h; rw [D.beqs_eq _ _ h]) | (exact absurd h (by simp [D.beq]))
  | .lst x, b, h => by cases b <;> first | (simp only [D.beq] at h; rw [D.beqs_eq _ _ h]) | (exact absurd h (by simp [D.beq]))
  | .dic x, b, h => by cases b <;> first | (simp only [D.beq] at h; rw [D.beqk_eq _ _ h]) | (exact absurd h (by simp [D.beq]))
  | .ref x, b, h => by cases b <;> first | (simp [D.beq] at h; subst h; rfl) | (exact absurd h (by simp [D.beq]))
  | .fn x, b, h => by cases b <;> first | (simp [D.beq] at h; subst h; rfl) | (exact absurd h (by simp [D.beq]))
theorem D.beqs_eq : ∀ a b : List D, D.beqs a b = true → a = b
  | [], [], _ => rfl
  | [], _ :: _, h => by simp [D.beqs] at h
  | _ :: _, [], h => by simp [D.beqs] at h
  | a :: r, b :: s, h => by
    simp only [D.beqs, Bool.and_eq_true] at h
    rw [D.beq_eq a b h.1, D.beqs_eq r s h.2]
theorem D.beqk_eq : ∀ a b : List (D × D), D.beqk a b = true → a = b
  | [], [], _ => rfl
  | [], _ :: _, h => by simp [D.beqk] at h
  | _ :: _, [], h => by simp [D.beqk] at h
  | (a, c) :: r, (b, d) :: s, h => by
    simp only [D.beqk, Bool.and_eq_true] at h
    rw [D.beq_eq a b h.1, D.beq_eq c d h.2.1, D.beqk_eq r s h.2.2]
end
mutual
theorem D.beq_refl : ∀ a : D, D.beq a a = true
  | .non => rfl
  | .bl x => by simp [D.beq]
  | .int x => by simp [D.beq]
  | .str x => by simp [D.beq]
  | .tup x => by simp only [D.beq]; exact D.beqs_refl x
  | .lst x => by simp only [D.beq]; exact D.beqs_refl x
  | .dic x => by simp only [D.beq]; exact D.beqk_refl x
  | .ref x => by simp [D.beq]
  | .fn x => by simp [D.beq]
theorem D.beqs_refl : ∀ a : List D, D.beqs a a = true
  | [] => rfl
  | a :: r => by simp only [D.beqs, D.beq_refl a, D.beqs_refl r, Bool.and_self]
theorem D.beqk_refl : ∀ a : List (D × D), D.beqk a a = true
  | [] => rfl
  | (a, b) :: r => by simp only [D.beqk, D.beq_refl a, D.beq_refl b, D.beqk_refl r, Bool.and_self]
end
instance : DecidableEq D := fun a b =>
  if h : D.beq a b = true then .isTrue (D.beq_eq a b h) else .isFalse fun e => h (e ▸ D.beq_refl a)
/-- an object that may be changed; lck: one that a loop walks; dead: one that has become a value -/
inductive LO where
  | lst (xs : List D) | dic (kvs : List (D × D)) | ins (c : Nat) (fs : List (Nat × D)) | lkL (xs : List D) | lkD (kvs : List (D × D)) | dead
  deriving DecidableEq
abbrev LH := List LO
inductive Out (α : Type) where
  | ok (a : α) (h : LH) | ex (c : Nat) (fs : List D) (h : LH) | bad
/-- a local: unset, a value, a list or dict that this def alone knows -/
inductive Sl where
  | no | v (d : D) | ol (xs : List D) | od (kvs : List (D × D)) | ex (c : Nat) (fs : List D)
  deriving DecidableEq
abbrev DSt := List Sl
inductive OutS where
  | nx (σ : DSt) (h : LH) | rt (d : D) (h : LH) | bk (σ : DSt) (h : LH) | ct (σ : DSt) (h : LH) | ex (c : Nat) (fs : List D) (σ : DSt) (h : LH) | bad
abbrev Calls := Nat → List D → LH → Out D
abbrev DE := Calls → DSt → LH → Out D
abbrev DEs := Calls → DSt → LH → Out (List D)
abbrev DT := Calls → DSt → LH → Out Bool
abbrev DS := Calls → DSt → LH → OutS
abbrev DG := Calls → D → DSt → LH → Out DSt
def Out.bind {α β : Type} (o : Out α) (f : α → LH → Out β) : Out β :=
  match o with
  | .ok a h => f a h
  | .ex c fs h => .ex c fs h
  | .bad => .bad
def optO {α : Type} (o : Option α) (h : LH) : Out α := match o with | some a => .ok a h | none => .bad
/-! ### values, by value -/
abbrev LIM : Nat := 16777216
def cutA {α : Type} (xs : List α) (lo hi : Option Int) : List α := (xs.drop (HT.sIx xs.length 0 lo)).take (HT.sIx xs.length xs.length hi - HT.sIx xs.length 0 lo)
/-- the items of a list, as it stands -/
def lstOf (h : LH) : D → Option (List D)
  | .lst xs => some xs
  | .ref n => match h[n]? with
    | some (.lst xs) => some xs
    | some (.lkL xs) => some xs
    | _ => none
  | _ => none
def seqOf (h : LH) : D → Option (List D)
  | .tup xs => some xs
  | d => lstOf h d
def dicOf (h : LH) : D → Option (List (D × D))
  | .dic kvs => some kvs
  | .ref n => match h[n]? with
    | some (.dic kvs) => some kvs
    | some (.lkD kvs) => some kvs
    | _ => none
  | _ => none
def isKey1 : D → Bool
  | .int _ => true
  | .str _ => true
  | _ => false
abbrev isKey : D → Bool := isKey1
def dget (kvs : List (D × D)) (k : D) : Option D := (kvs.find? fun p => decide (p.1 = k)).map (·.2)
def dput (kvs : List (D × D)) (k v : D) : List (D × D) :=
  if (kvs.any fun p => decide (p.1 = k)) = true then kvs.map (fun p => if p.1 = k then (p.1, v) else p) else kvs ++ [(k, v)]
def ddrop (kvs : List (D × D)) (k : D) : List (D × D) := kvs.filter fun p => decide (p.1 ≠ k)
/-- a value's truth -/
def truV (h : LH) : D → Option Bool
  | .non => some false
  | .bl b => some b
  | .int i => some (i != 0)
  | .str x => if x.length ≤ LIM then some (x.length != 0) else none
  | .tup xs => some (!xs.isEmpty)
  | .lst xs => some (!xs.isEmpty)
  | .dic kvs => some (!kvs.isEmpty)
  | .ref n => match h[n]? with
    | some (.lst xs) => some (!xs.isEmpty)
    | some (.lkL xs) => some (!xs.isEmpty)
    | some (.dic kvs) => some (!kvs.isEmpty)
    | some (.lkD kvs) => some (!kvs.isEmpty)
    | _ => none
  | .fn _ => none
def lenV (h : LH) : D → Option Int
  | .str x => if x.length ≤ LIM then some x.length else none
  | .tup xs => some xs.length
  | .lst xs => some xs.length
  | .dic kvs => some kvs.length
  | .ref n => match h[n]? with
    | some (.lst xs) => some xs.length
    | some (.lkL xs) => some xs.length
    | some (.dic kvs) => some kvs.length
    | some (.lkD kvs) => some kvs.length
    | _ => none
  | _ => none
def mapO {α β : Type} (f : α → Option β) : List α → Option (List β)
  | [] => some []
  | x :: r => (f x).bind fun a => (mapO f r).map (a :: ·)
def scaP : D → Option PyData
  | .non => some .none
  | .bl b => some (.bool b)
  | .int i => some (.int i)
  | .str x => if PyData.strOk x = true then some (.str x) else none
  | _ => none
/-- data as a whole, to be compared -/
def toP (h : LH) : Nat → D → Option PyData
  | 0, d => scaP d
  | n + 1, .tup xs => (mapO (toP h n) xs).map .tuple
  | n + 1, .lst xs => (mapO (toP h n) xs).map .list
  | n + 1, .ref r => match h[r]? with
    | some (.lst xs) => (mapO (toP h n) xs).map .list
    | some (.lkL xs) => (mapO (toP h n) xs).map .list
    | _ => none
  | _ + 1, d => scaP d
def deq (h : LH) (x y : D) : Option Bool := (toP h 40 x).bind fun a => (toP h 40 y).map fun b => PyData.eqv a b
/-- is x among the items -/
def memV (h : LH) (x : D) (ys : List D) : Option Bool := (toP h 40 x).bind fun a => (mapO (toP h 39) ys).map fun bs => bs.any fun b => PyData.eqv b a
/-! ### operators -/
def mulOk (i j : Int) : Bool := Nat.ble i.natAbs 9223372036854775808 || Nat.ble j.natAbs 9223372036854775808
def opV (h : LH) (op : Operator) (x y : D) : Option D :=
  match op, x, y with
  | .Add, .int i, .int j => some (.int (i + j))
  | .Add, .str a, .str b => if a.length + b.length ≤ LIM then some (.str (a ++ b)) else none
  | .Add, .tup a, .tup b => if a.length + b.length ≤ LIM then some (.tup (a ++ b)) else none
  | .Sub, .int i, .int j => some (.int (i - j))
  | .Mult, .int i, .int j => if mulOk i j = true then some (.int (i * j)) else none
  | .Mult, .tup a, .int k => if -(4611686018427387904) ≤ k ∧ k < 4611686018427387904 ∧ a.length * k.toNat ≤ 1000000 then some (.tup (List.replicate k.toNat a).flatten) else none
  | .FloorDiv, .int i, .int j => if 0 < j ∧ j < 1073741824 then some (.int (i / j)) else none
  | .Mod, .int i, .int j => if 0 < j then some (.int (i % j)) else none
  | .Pow, .int i, .int j => if 0 ≤ j ∧ j ≤ 1000000 ∧ i.natAbs < 18446744073709551616 then some (.int (i ^ j.toNat)) else none
  | _, _, _ => none
/-- operators whose value is a new list -/
def opL (h : LH) (op : Operator) (x y : D) : Option (List D) :=
  match op with
  | .Add => (lstOf h x).bind fun a => (lstOf h y).bind fun b => if a.length + b.length ≤ LIM then some (a ++ b) else none
  | .Mult => match y with
    | .int k => (lstOf h x).bind fun a => if -(4611686018427387904) ≤ k ∧ k < 4611686018427387904 ∧ a.length * k.toNat ≤ LIM then some (List.replicate k.toNat a).flatten else none
    | _ => none
  | _ => none
def cmpI (op : CmpOp) (i j : Int) : Option Bool :=
  match op with
  | .Lt => some (decide (i < j))
  | .LtE => some (decide (i ≤ j))
  | .Gt => some (decide (j < i))
  | .GtE => some (decide (j ≤ i))
  | _ => none
def inV (h : LH) (x y : D) : Option Bool :=
  match y with
  | .str b => match x with
    | .str a => if a.length = 1 then some (decide (a.cps.getD 0 0 ∈ b.cps.toList)) else none
    | _ => none
  | .tup ys => memV h x ys
  | .lst ys => memV h x ys
  | .dic kvs => if isKey x = true then some (dget kvs x).isSome else none
  | .ref n => match h[n]? with
    | some (.lst ys) => memV h x ys
    | some (.lkL ys) => memV h x ys
    | some (.dic kvs) => if isKey x = true then some (dget kvs x).isSome else none
    | some (.lkD kvs) => if isKey x = true then some (dget kvs x).isSome else none
    | _ => none
  | _ => none
def cmpV (h : LH) (op : CmpOp) (x y : D) : Option Bool :=
  match op with
  | .Eq => deq h x y
  | .NotEq => (deq h x y).map (!·)
  | .Is => match y with | .non => some (decide (x = .non)) | _ => none
  | .IsNot => match y with | .non => some (!decide (x = .non)) | _ => none
  | .In => inV h x y
  | .NotIn => (inV h x y).map (!·)
  | op => match x, y with
    | .int i, .int j => cmpI op i j
    | _, _ => none
/-- x[y] -/
def ixV (h : LH) (x y : D) : Option D :=
  match x, y with
  | .tup xs, .int i => L2.atI xs i
  | .lst xs, .int i => L2.atI xs i
  | .str z, .int i => if z.length ≤ LIM then (L2.atI z.cps.toList i).map fun c => .str ⟨#[c]⟩ else none
  | .dic kvs, k => if isKey k = true then dget kvs k else none
  | .ref n, k => match h[n]?, k with
    | some (.lst xs), .int i => L2.atI xs i
    | some (.lkL xs), .int i => L2.atI xs i
    | some (.dic kvs), k => if isKey k = true then dget kvs k else none
    | some (.lkD kvs), k => if isKey k = true then dget kvs k else none
    | _, _ => none
  | _, _ => none
/-- x[lo:hi] of a tuple, a text; of a list it is a new list: slL -/
def slV (x : D) (lo hi : Option Int) : Option D :=
  match x with
  | .tup xs => some (.tup (cutA xs lo hi))
  | .str z => if z.length ≤ LIM then some (.str (L2.cutS z lo hi)) else none
  | _ => none
/-- the items of a list that is not walked just now -/
def lstX (h : LH) : D → Option (List D)
  | .lst xs => some xs
  | .ref n => match h[n]? with
    | some (.lst xs) => some xs
    | _ => none
  | _ => none
def opLs (h : LH) (op : Operator) (x y : D) : Option D :=
  match op with
  | .Add => (lstX h x).bind fun a => (lstX h y).bind fun b => if a.length + b.length ≤ LIM then some (.lst (a ++ b)) else none
  | .Mult => match y with
    | .int k => (lstX h x).bind fun a => if -(4611686018427387904) ≤ k ∧ k < 4611686018427387904 ∧ a.length * k.toNat ≤ LIM then some (.lst (List.replicate k.toNat a).flatten) else none
    | _ => none
  | _ => none
def opW (h : LH) (op : Operator) (x y : D) : Option D :=
  match opV h op x y with
  | some r => some r
  | none => opLs h op x y
def slW (h : LH) (x : D) (lo hi : Option Int) : Option D :=
  match slV x lo hi with
  | some r => some r
  | none => (lstOf h x).map fun xs => .lst (cutA xs lo hi)
/-- truth of what is no dict -/
def truB (h : LH) : D → Option Bool
  | .dic _ => none
  | .ref n => match h[n]? with
    | some (.lst xs) => some (!xs.isEmpty)
    | some (.lkL xs) => some (!xs.isEmpty)
    | _ => none
  | d => truV h d
end Bh
/-! Bh, part 2: how values and the logical heap stand in HandS's heap. -/
namespace Bh
open PySem PySem.Spec PyProof.Rows L2
/-- what stays through a law: the written part, where defs and classes stand, the fields' names -/
structure Sta where
  K : PySem.W.Frag
  fa : Nat → Addr
  ca : Nat → Addr
  fld : Nat → PySem.Str
  fin : ∀ i j, fld i = fld j → i = j
  xf : Nat → List PySem.Str
  xq : Option (Addr × Value × Option Addr) := none
/-- within an except suite: the exception that is handled -/
abbrev Sta.wx (Z : Sta) (q : Option (Addr × Value × Option Addr)) : Sta := ⟨Z.K, Z.fa, Z.ca, Z.fld, Z.fin, Z.xf, q⟩
structure S3 where
  m : List Addr
  h : LH
  H : Hp
  pr : Addr → Prop
  xc : Option (Addr × Value × Option Addr)
def mutO : LO → Bool
  | .lst _ => true
  | .dic _ => true
  | .ins _ _ => true
  | _ => false
/-- an object of the logical heap that may be written stands at a -/
def Hm (s : S3) (a : Addr) : Prop := ∃ (i : Nat) (o : LO), s.h[i]? = some o ∧ mutO o = true ∧ s.m[i]? = some a
/-- .. or one that a def alone knows -/
def Mv (s : S3) (a : Addr) : Prop := Hm s a ∨ s.pr a
def keyD : Key → D
  | .inl i => .int i
  | .inr x => .str x
mutual
inductive RD (Z : Sta) (s : S3) : D → V → Prop
  | non : RD Z s .non .non
  | bl (b : Bool) : RD Z s (.bl b) (.bl b)
  | int (i : Int) : RD Z s (.int i) (.int i)
  | str (x : PySem.Str) : RD Z s (.str x) (.str x)
  | tup {a : Addr} {xs : List D} {vs : List V} : SqT Z.K s.H a vs → RDs Z s xs vs → RD Z s (.tup xs) (.ref a)
  | lst {a : Addr} {xs : List D} {vs : List V} : s.H a = some (.lst vs) → ¬ Mv s a → RDs Z s xs vs → RD Z s (.lst xs) (.ref a)
  | dic {a : Addr} {ks : List (D × D)} {kvs : List (Key × V)} : Rd s.H a (.dK kvs) → ¬ Mv s a → RDk Z s ks kvs → RD Z s (.dic ks) (.ref a)
  | ref {n : Nat} {a : Addr} : s.m[n]? = some a → RD Z s (.ref n) (.ref a)
  | fn (i : Nat) : RD Z s (.fn i) (.ref (Z.fa i))
inductive RDs (Z : Sta) (s : S3) : List D → List V → Prop
  | nil : RDs Z s [] []
  | cons {d : D} {v : V} {ds : List D} {vs : List V} : RD Z s d v → RDs Z s ds vs → RDs Z s (d :: ds) (v :: vs)
inductive RDk (Z : Sta) (s : S3) : List (D × D) → List (Key × V) → Prop
  | nil : RDk Z s [] []
  | cons {k : Key} {d : D} {v : V} {ds : List (D × D)} {vs : List (Key × V)} : RD Z s d v → RDk Z s ds vs → RDk Z s ((keyD k, d) :: ds) ((k, v) :: vs)
end
inductive RDf (Z : Sta) (s : S3) : List (Nat × D) → List (PySem.Str × V) → Prop
  | nil : RDf Z s [] []
  | cons {f : Nat} {d : D} {v : V} {ds : List (Nat × D)} {vs : List (PySem.Str × V)} : RD Z s d v → RDf Z s ds vs → RDf Z s ((f, d) :: ds) ((Z.fld f, v) :: vs)
def SqK (K : PySem.W.Frag) (a : Addr) (xs : List V) : Prop :=
  ∃ (o : Obj) (its : Array Value) (n : Nat), K.lookup a = some o ∧ o.cls = .type "list" ∧ o.dict = none ∧ o.data = .seq its n ∧ its.size ≤ sizeLine ∧ Vals xs its.toList
def RO (Z : Sta) (s : S3) (a : Addr) : LO → Prop
  | .lst xs => ∃ vs, s.H a = some (.lst vs) ∧ RDs Z s xs vs
  | .dic ks => ∃ kvs, s.H a = some (.dK kvs) ∧ RDk Z s ks kvs
  | .ins c fs => ∃ dx fs', s.H a = some (.ins (Z.ca c) dx fs') ∧ RDf Z s fs fs'
  | .lkL xs => ∃ vs, ((∃ o, s.H a = some (.frz o (.lst vs))) ∨ SqK Z.K a vs) ∧ RDs Z s xs vs
  | .lkD ks => ∃ o kvs, s.H a = some (.frz o (.dK kvs)) ∧ RDk Z s ks kvs
  | .dead => True
structure Ok3 (Z : Sta) (s : S3) : Prop where
  len : s.m.length = s.h.length
  inj : ∀ (i j : Nat) (a : Addr) (o o' : LO), s.h[i]? = some o → mutO o = true → s.h[j]? = some o' → mutO o' = true → s.m[i]? = some a → s.m[j]? = some a → i = j
  ob : ∀ (i : Nat) (o : LO), s.h[i]? = some o → ∃ a, s.m[i]? = some a ∧ RO Z s a o
  prd : ∀ a, s.pr a → ¬ Hm s a ∧ ((∃ vs, s.H a = some (.lst vs)) ∨ ∃ kvs, s.H a = some (.dK kvs))
theorem upd_dom {H : Hp} {p : Addr} {u : HO} : ∀ a o, H a = some o → ∃ o', upd H p u a = some o' := fun a o h => by
  by_cases e : a = p
  · subst e; exact ⟨u, upd_same⟩
  · exact ⟨o, by rw [upd_ne e]; exact h⟩
structure Le (s s' : S3) : Prop where
  pre : ∃ t, s'.m = s.m ++ t
  keep : ∀ a o, s.H a = some o → ¬ Hm s a → s'.H a = some o
  new : ∀ a, Hm s' a → Hm s a ∨ s.H a = none
  prs : s'.pr = s.pr
  xcs : s'.xc = s.xc
  dom : ∀ a o, s.H a = some o → ∃ o', s'.H a = some o'
/-- a step that may also change what a def alone knows -/
structure Lq (s s' : S3) : Prop where
  pre : ∃ t, s'.m = s.m ++ t
  keep : ∀ a o, s.H a = some o → ¬ Mv s a → s'.H a = some o
  new : ∀ a, Mv s' a → Mv s a ∨ s.H a = none
theorem Le.lq {s s' : S3} (l : Le s s') : Lq s s' := ⟨l.pre, fun a o h n => l.keep a o h fun z => n (.inl z), fun a q => by
  rcases q with q | q
  · rcases l.new a q with z | z
    · exact .inl (.inl z)
    · exact .inr z
  · rw [l.prs] at q
    exact .inl (.inr q)⟩
theorem Lq.nmv {s s' : S3} (l : Lq s s') {a : Addr} {o : HO} (h : s.H a = some o) (n : ¬ Mv s a) : ¬ Mv s' a := fun q => by
  rcases l.new a q with z | z
  · exact n z
  · rw [h] at z; cases z
theorem Lq.refl (s : S3) : Lq s s := ⟨⟨[], by simp⟩, fun _ _ h _ => h, fun _ h => .inl h⟩
theorem Lq.trans {s s1 s2 : S3} (a : Lq s s1) (b : Lq s1 s2) : Lq s s2 := by
  refine ⟨?_, fun x o h n => b.keep x o (a.keep x o h n) (a.nmv h n), fun x q => ?_⟩
  · obtain ⟨t, e⟩ := a.pre
    obtain ⟨u, e'⟩ := b.pre
    exact ⟨t ++ u, by rw [e', e, List.append_assoc]⟩
  · rcases b.new x q with z | z
    · exact a.new x z
    · by_cases m : Mv s x
      · exact .inl m
      · cases e : s.H x with
        | none => exact .inr rfl
        | some o => rw [a.keep x o e m] at z; cases z
theorem Lq.at {s s' : S3} (l : Lq s s') {n : Nat} {a : Addr} (h : s.m[n]? = some a) : s'.m[n]? = some a := by
  obtain ⟨t, e⟩ := l.pre
  rw [e, List.getElem?_append_left (List.getElem?_eq_some_iff.mp h).1]
  exact h
theorem Le.refl (s : S3) : Le s s := ⟨⟨[], by simp⟩, fun _ _ h _ => h, fun _ h => .inl h, rfl, rfl, fun _ o h => ⟨o, h⟩⟩
theorem Le.nhm {s s' : S3} (l : Le s s') {a : Addr} {o : HO} (h : s.H a = some o) (n : ¬ Hm s a) : ¬ Hm s' a := fun q => by
  rcases l.new a q with z | z
  · exact n z
  · rw [h] at z; cases z
theorem Le.nmv {s s' : S3} (l : Le s s') {a : Addr} {o : HO} (h : s.H a = some o) (n : ¬ Mv s a) : ¬ Mv s' a := fun q => by
  rcases q with q | q
  · exact l.nhm h (fun z => n (.inl z)) q
  · rw [l.prs] at q
    exact n (.inr q)
theorem Le.trans {s s1 s2 : S3} (a : Le s s1) (b : Le s1 s2) : Le s s2 := by
  refine ⟨?_, fun x o h n => b.keep x o (a.keep x o h n) (a.nhm h n), fun x q => ?_, by rw [b.prs, a.prs], by rw [b.xcs, a.xcs], fun x o h => by obtain ⟨o', h'⟩ := a.dom x o h; exact b.dom x o' h'⟩
  · obtain ⟨t, e⟩ := a.pre
    obtain ⟨u, e'⟩ := b.pre
    exact ⟨t ++ u, by rw [e', e, List.append_assoc]⟩
  · rcases b.new x q with z | z
    · exact a.new x z
    · by_cases m : Hm s x
      · exact .inl m
      · cases e : s.H x with
        | none => exact .inr rfl
        | some o => rw [a.keep x o e m] at z; cases z
theorem Le.at {s s' : S3} (l : Le s s') {n : Nat} {a : Addr} (h : s.m[n]? = some a) : s'.m[n]? = some a := by
  obtain ⟨t, e⟩ := l.pre
  rw [e, List.getElem?_append_left (List.getElem?_eq_some_iff.mp h).1]
  exact h
/-- what may be written is no tuple -/
theorem Ok3.mvK {Z : Sta} {s : S3} (ok : Ok3 Z s) {a : Addr} (m : Hm s a) : (∃ vs, s.H a = some (.lst vs)) ∨ (∃ kvs, s.H a = some (.dK kvs)) ∨ ∃ C dx fs, s.H a = some (.ins C dx fs) := by
  obtain ⟨i, o, ho, hm, ha⟩ := m
  obtain ⟨b, hb, r⟩ := ok.ob i o ho
  rw [ha] at hb
  cases hb
  cases o with
  | lst xs => obtain ⟨vs, e, _⟩ := r; exact .inl ⟨vs, e⟩
  | dic ks => obtain ⟨kvs, e, _⟩ := r; exact .inr (.inl ⟨kvs, e⟩)
  | ins c fs => obtain ⟨dx, fs', e, _⟩ := r; exact .inr (.inr ⟨_, dx, fs', e⟩)
  | _ => cases hm
theorem Ok3.mvS {Z : Sta} {s : S3} (ok : Ok3 Z s) {a : Addr} (m : Hm s a) : ∃ o, s.H a = some o := by
  rcases ok.mvK m with ⟨_, e⟩ | ⟨_, e⟩ | ⟨_, _, _, e⟩ <;> exact ⟨_, e⟩
theorem Ok3.mvA {Z : Sta} {s : S3} (ok : Ok3 Z s) {a : Addr} (m : Mv s a) : (∃ vs, s.H a = some (.lst vs)) ∨ (∃ kvs, s.H a = some (.dK kvs)) ∨ ∃ C dx fs, s.H a = some (.ins C dx fs) := by
  rcases m with m | m
  · exact ok.mvK m
  · rcases (ok.prd a m).2 with e | e
    · exact .inl e
    · exact .inr (.inl e)
theorem Ok3.prS {Z : Sta} {s : S3} (ok : Ok3 Z s) {a : Addr} (m : s.pr a) : ∃ o, s.H a = some o := by
  rcases (ok.prd a m).2 with ⟨_, e⟩ | ⟨_, e⟩ <;> exact ⟨_, e⟩
/-- .. and no locked thing -/
theorem Ok3.frz {Z : Sta} {s : S3} (ok : Ok3 Z s) {a : Addr} {o : Obj} {u : HO} (h : s.H a = some (.frz o u)) : ¬ Mv s a := fun m => by
  rcases ok.mvA m with ⟨_, e⟩ | ⟨_, e⟩ | ⟨_, _, _, e⟩ <;> (rw [h] at e; cases e)
theorem Ok3.tup {Z : Sta} {s : S3} (ok : Ok3 Z s) {a : Addr} {vs : List V} (h : s.H a = some (.tup vs)) : ¬ Mv s a := fun m => by
  rcases ok.mvA m with ⟨_, e⟩ | ⟨_, e⟩ | ⟨_, _, _, e⟩ <;> (rw [h] at e; cases e)
theorem SqT.lq {Z : Sta} {s s' : S3} (ok : Ok3 Z s) (l : Lq s s') {a : Addr} {vs : List V} (h : SqT Z.K s.H a vs) : SqT Z.K s'.H a vs := by
  rcases h with (h | ⟨o, h⟩) | h
  · exact .inl (.inl (l.keep a _ h (ok.tup h)))
  · exact .inl (.inr ⟨o, l.keep a _ h (ok.frz h)⟩)
  · exact .inr h
theorem Rd.lq {Z : Sta} {s s' : S3} (ok : Ok3 Z s) (l : Lq s s') {a : Addr} {u : HO} (h : Rd s.H a u) (n : ¬ Mv s a) : Rd s'.H a u := by
  rcases h with h | ⟨o, h⟩
  · exact .inl (l.keep a _ h n)
  · exact .inr ⟨o, l.keep a _ h n⟩
theorem Rd.some {H : Hp} {a : Addr} {u : HO} (h : Rd H a u) : ∃ o, H a = some o := by
  rcases h with h | ⟨o, h⟩ <;> exact ⟨_, h⟩
mutual
theorem RD.lq {Z : Sta} {s s' : S3} (ok : Ok3 Z s) (l : Lq s s') : ∀ {d : D} {v : V}, RD Z s d v → RD Z s' d v
  | _, _, .non => .non
  | _, _, .bl b => .bl b
  | _, _, .int i => .int i
  | _, _, .str x => .str x
  | _, _, .tup h r => .tup (SqT.lq ok l h) (RDs.lq ok l r)
  | _, _, .lst h n r => .lst (l.keep _ _ h n) (l.nmv h n) (RDs.lq ok l r)
  | _, _, .dic h n r => .dic (Rd.lq ok l h n) (by obtain ⟨o, e⟩ := Rd.some h; exact l.nmv e n) (RDk.lq ok l r)
  | _, _, .ref h => .ref (l.at h)
  | _, _, .fn i => .fn i
theorem RDs.lq {Z : Sta} {s s' : S3} (ok : Ok3 Z s) (l : Lq s s') : ∀ {ds : List D} {vs : List V}, RDs Z s ds vs → RDs Z s' ds vs
  | _, _, .nil => .nil
  | _, _, .cons a b => .cons (RD.lq ok l a) (RDs.lq ok l b)
theorem RDk.lq {Z : Sta} {s s' : S3} (ok : Ok3 Z s) (l : Lq s s') : ∀ {ds : List (D × D)} {vs : List (Key × V)}, RDk Z s ds vs → RDk Z s' ds vs
  | _, _, .nil => .nil
  | _, _, .cons a b => .cons (RD.lq ok l a) (RDk.lq ok l b)
end
theorem RDf.lq {Z : Sta} {s s' : S3} (ok : Ok3 Z s) (l : Lq s s') : ∀ {ds : List (Nat × D)} {vs : List (PySem.Str × V)}, RDf Z s ds vs → RDf Z s' ds vs
  | _, _, .nil => .nil
  | _, _, .cons a b => .cons (RD.lq ok l a) (RDf.lq ok l b)
theorem RD.le {Z : Sta} {s s' : S3} (ok : Ok3 Z s) (l : Le s s') {d : D} {v : V} (r : RD Z s d v) : RD Z s' d v := r.lq ok l.lq
theorem RDs.le {Z : Sta} {s s' : S3} (ok : Ok3 Z s) (l : Le s s') {d : List D} {v : List V} (r : RDs Z s d v) : RDs Z s' d v := r.lq ok l.lq
theorem RDk.le {Z : Sta} {s s' : S3} (ok : Ok3 Z s) (l : Le s s') {d : List (D × D)} {v : List (Key × V)} (r : RDk Z s d v) : RDk Z s' d v := r.lq ok l.lq
theorem RDf.le {Z : Sta} {s s' : S3} (ok : Ok3 Z s) (l : Le s s') {d : List (Nat × D)} {v : List (PySem.Str × V)} (r : RDf Z s d v) : RDf Z s' d v := r.lq ok l.lq
theorem SqT.le {Z : Sta} {s s' : S3} (ok : Ok3 Z s) (l : Le s s') {a : Addr} {vs : List V} (h : SqT Z.K s.H a vs) : SqT Z.K s'.H a vs := SqT.lq ok l.lq h
theorem RDs.length {Z : Sta} {s : S3} : ∀ {ds : List D} {vs : List V}, RDs Z s ds vs → ds.length = vs.length
  | _, _, .nil => rfl
  | _, _, .cons _ b => by rw [List.length_cons, List.length_cons, b.length]
theorem RDs.app {Z : Sta} {s : S3} : ∀ {ds es : List D} {vs us : List V}, RDs Z s ds vs → RDs Z s es us → RDs Z s (ds ++ es) (vs ++ us)
  | _, _, _, _, .nil, h => h
  | _, _, _, _, .cons a b, h => .cons a (b.app h)
theorem RDs.get {Z : Sta} {s : S3} : ∀ {ds : List D} {vs : List V} {i : Nat} {d : D}, RDs Z s ds vs → ds[i]? = some d → ∃ v, vs[i]? = some v ∧ RD Z s d v
  | _, _, _, _, .nil, h => by simp at h
  | _, _, 0, _, .cons a _, h => by simp at h; subst h; exact ⟨_, rfl, a⟩
  | _, _, i + 1, _, .cons _ b, h => by
    obtain ⟨v, e, r⟩ := b.get (i := i) (by simpa using h)
    exact ⟨v, by simpa using e, r⟩
theorem RDs.take {Z : Sta} {s : S3} : ∀ {ds : List D} {vs : List V} (n : Nat), RDs Z s ds vs → RDs Z s (ds.take n) (vs.take n)
  | _, _, 0, _ => .nil
  | _, _, _ + 1, .nil => .nil
  | _, _, n + 1, .cons a b => .cons a (b.take n)
theorem RDs.drop {Z : Sta} {s : S3} : ∀ {ds : List D} {vs : List V} (n : Nat), RDs Z s ds vs → RDs Z s (ds.drop n) (vs.drop n)
  | _, _, 0, h => h
  | _, _, _ + 1, .nil => .nil
  | _, _, n + 1, .cons _ b => b.drop n
theorem RDs.cut {Z : Sta} {s : S3} {ds : List D} {vs : List V} (r : RDs Z s ds vs) (lo hi : Option Int) : RDs Z s (cutA ds lo hi) (cutV vs lo hi) := by
  unfold cutA cutV
  rw [r.length]
  exact (r.drop _).take _
theorem RDs.flat {Z : Sta} {s : S3} {ds : List D} {vs : List V} (r : RDs Z s ds vs) : ∀ n : Nat, RDs Z s (List.replicate n ds).flatten (List.replicate n vs).flatten
  | 0 => .nil
  | n + 1 => by
    rw [List.replicate_succ, List.replicate_succ, List.flatten_cons, List.flatten_cons]
    exact r.app (r.flat n)
theorem RDs.set {Z : Sta} {s : S3} {d : D} {v : V} (q : RD Z s d v) : ∀ {ds : List D} {vs : List V} (n : Nat), RDs Z s ds vs → RDs Z s (ds.set n d) (vs.set n v)
  | _, _, _, .nil => .nil
  | _, _, 0, .cons _ b => .cons q b
  | _, _, n + 1, .cons a b => .cons a (RDs.set q n b)
theorem RDs.rev {Z : Sta} {s : S3} : ∀ {ds : List D} {vs : List V}, RDs Z s ds vs → RDs Z s ds.reverse vs.reverse
  | _, _, .nil => .nil
  | _, _, .cons a b => by
    rw [List.reverse_cons, List.reverse_cons]
    exact b.rev.app (.cons a .nil)
theorem RDs.erase {Z : Sta} {s : S3} : ∀ {ds : List D} {vs : List V} (n : Nat), RDs Z s ds vs → RDs Z s (ds.eraseIdx n) (vs.eraseIdx n)
  | _, _, _, .nil => .nil
  | _, _, 0, .cons _ b => b
  | _, _, n + 1, .cons a b => .cons a (b.erase n)
theorem RDs.nil_iff {Z : Sta} {s : S3} {ds : List D} {vs : List V} (r : RDs Z s ds vs) : ds.isEmpty = vs.isEmpty := by cases r <;> rfl
/-! ### steps of the state -/
theorem RO.lq {Z : Sta} {s s' : S3} (ok : Ok3 Z s) (l : Lq s s') {a : Addr} {o : LO} (r : RO Z s a o) (e : mutO o = true → s'.H a = s.H a) : RO Z s' a o := by
  cases o with
  | lst xs => obtain ⟨vs, h, q⟩ := r; exact ⟨vs, by rw [e rfl]; exact h, RDs.lq ok l q⟩
  | dic ks => obtain ⟨vs, h, q⟩ := r; exact ⟨vs, by rw [e rfl]; exact h, RDk.lq ok l q⟩
  | ins c fs => obtain ⟨dx, fs', h, q⟩ := r; exact ⟨dx, fs', by rw [e rfl]; exact h, RDf.lq ok l q⟩
  | lkL xs =>
    obtain ⟨vs, h, q⟩ := r
    refine ⟨vs, ?_, RDs.lq ok l q⟩
    rcases h with ⟨o, h⟩ | h
    · exact .inl ⟨o, l.keep _ _ h (ok.frz h)⟩
    · exact .inr h
  | lkD ks => obtain ⟨o, vs, h, q⟩ := r; exact ⟨o, vs, l.keep _ _ h (ok.frz h), RDk.lq ok l q⟩
  | dead => exact True.intro
theorem RO.le {Z : Sta} {s s' : S3} (ok : Ok3 Z s) (l : Le s s') {a : Addr} {o : LO} (r : RO Z s a o) (e : mutO o = true → s'.H a = s.H a) : RO Z s' a o := r.lq ok l.lq e
/-- a new object that is no part of the logical heap -/
theorem Le.tmp {s : S3} {p : Addr} {o : HO} (hp : s.H p = none) : Le s ⟨s.m, s.h, upd s.H p o, s.pr, s.xc⟩ :=
  ⟨⟨[], by simp⟩, fun a u h _ => by rw [show (S3.mk s.m s.h (upd s.H p o) s.pr s.xc).H a = upd s.H p o a from rfl, upd_ne (ne_of_none h hp)]; exact h, fun _ h => .inl h, rfl, rfl, upd_dom⟩
theorem prd_upd {Z : Sta} {s : S3} (ok : Ok3 Z s) {p : Addr} {o : HO} {a : Addr} (h : s.pr a) (ne : a ≠ p) : (∃ vs, upd s.H p o a = some (.lst vs)) ∨ ∃ kvs, upd s.H p o a = some (.dK kvs) := by
  rw [upd_ne ne]
  exact (ok.prd a h).2
theorem pr_ne {Z : Sta} {s : S3} (ok : Ok3 Z s) {p : Addr} (hp : s.H p = none) {a : Addr} (h : s.pr a) : a ≠ p := fun e => by
  obtain ⟨o, q⟩ := ok.prS h
  rw [e, hp] at q; cases q
theorem Ok3.tmp {Z : Sta} {s : S3} (ok : Ok3 Z s) {p : Addr} {o : HO} (hp : s.H p = none) : Ok3 Z ⟨s.m, s.h, upd s.H p o, s.pr, s.xc⟩ := by
  refine ⟨ok.len, ok.inj, fun i u hu => ?_, fun a h => ⟨(ok.prd a h).1, prd_upd ok h (pr_ne ok hp h)⟩⟩
  obtain ⟨a, ha, r⟩ := ok.ob i u hu
  refine ⟨a, ha, r.le ok (Le.tmp hp) fun hm => ?_⟩
  obtain ⟨ob, e⟩ := ok.mvS ⟨i, u, hu, hm, ha⟩
  exact upd_ne (ne_of_none e hp)
theorem nmv_tmp {Z : Sta} {s : S3} (ok : Ok3 Z s) {p : Addr} {o : HO} (hp : s.H p = none) : ¬ Mv ⟨s.m, s.h, upd s.H p o, s.pr, s.xc⟩ p := fun q => by
  rcases q with q | q
  · have q' : Hm s p := q
    obtain ⟨ob, e⟩ := ok.mvS q'
    rw [hp] at e; cases e
  · obtain ⟨o, e⟩ := ok.prS q
    rw [hp] at e; cases e
/-- a new object of the logical heap -/
def S3.push (s : S3) (p : Addr) (o : LO) (u : HO) : S3 := ⟨s.m ++ [p], s.h ++ [o], upd s.H p u, s.pr, s.xc⟩
theorem Le.push {Z : Sta} {s : S3} (ok : Ok3 Z s) {p : Addr} {o : LO} {u : HO} (hp : s.H p = none) : Le s (s.push p o u) := by
  refine ⟨⟨[p], rfl⟩, fun a v h _ => ?_, fun a q => ?_, rfl, rfl, upd_dom⟩
  · show upd s.H p u a = _
    rw [upd_ne (ne_of_none h hp)]
    exact h
  · obtain ⟨i, o', ho, hm, ha⟩ := q
    have ho : (s.h ++ [o])[i]? = some o' := ho
    have ha : (s.m ++ [p])[i]? = some a := ha
    by_cases hi : i < s.h.length
    · rw [List.getElem?_append_left hi] at ho
      rw [List.getElem?_append_left (by rw [ok.len]; exact hi)] at ha
      exact .inl ⟨i, o', ho, hm, ha⟩
    · rw [List.getElem?_append_right (by rw [ok.len]; omega)] at ha
      have : i - s.m.length = 0 := by
        have := (List.getElem?_eq_some_iff.mp ha).1
        simp at this
        omega
      rw [this] at ha
      simp at ha
      subst ha
      exact .inr hp
theorem Ok3.push {Z : Sta} {s : S3} (ok : Ok3 Z s) {p : Addr} {o : LO} {u : HO} (hp : s.H p = none) (hr : RO Z (s.push p o u) p o) : Ok3 Z (s.push p o u) := by
  have old : ∀ (i : Nat) (o' : LO), (s.h ++ [o])[i]? = some o' → (s.h[i]? = some o' ∧ i < s.h.length) ∨ (i = s.h.length ∧ o' = o) := fun i o' h => by
    by_cases hi : i < s.h.length
    · rw [List.getElem?_append_left hi] at h
      exact .inl ⟨h, hi⟩
    · rw [List.getElem?_append_right (by omega)] at h
      have : i - s.h.length = 0 := by
        have := (List.getElem?_eq_some_iff.mp h).1
        simp at this
        omega
      rw [this] at h
      simp at h
      exact .inr ⟨by omega, h.symm⟩
  have oldm : ∀ (i : Nat) (a : Addr), i < s.h.length → (s.m ++ [p])[i]? = some a → s.m[i]? = some a := fun i a hi h => by
    rw [List.getElem?_append_left (by rw [ok.len]; exact hi)] at h
    exact h
  have newm : ∀ (a : Addr), (s.m ++ [p])[s.h.length]? = some a → a = p := fun a h => by
    rw [List.getElem?_append_right (by rw [ok.len]; omega)] at h
    rw [ok.len] at h
    simp at h
    exact h.symm
  refine ⟨by show (s.m ++ [p]).length = (s.h ++ [o]).length; simp [ok.len], fun i j a o1 o2 h1 m1 h2 m2 a1 a2 => ?_, fun i o' ho => ?_, fun a h => ⟨fun q => ?_, prd_upd ok h (pr_ne ok hp h)⟩⟩
  · rcases old i o1 h1 with ⟨g1, l1⟩ | ⟨e1, z1⟩
    · have b1 := oldm i a l1 a1
      rcases old j o2 h2 with ⟨g2, l2⟩ | ⟨e2, z2⟩
      · exact ok.inj i j a o1 o2 g1 m1 g2 m2 b1 (oldm j a l2 a2)
      · subst e2
        have := newm a a2
        subst this
        obtain ⟨ob, e⟩ := ok.mvS ⟨i, o1, g1, m1, b1⟩
        rw [hp] at e; cases e
    · subst e1
      have := newm a a1
      subst this
      rcases old j o2 h2 with ⟨g2, l2⟩ | ⟨e2, z2⟩
      · obtain ⟨ob, e⟩ := ok.mvS ⟨j, o2, g2, m2, oldm j a l2 a2⟩
        rw [hp] at e; cases e
      · exact e2.symm
  · rcases old i o' ho with ⟨h1, l1⟩ | ⟨e1, z1⟩
    · obtain ⟨a, ha, r⟩ := ok.ob i o' h1
      refine ⟨a, by show (s.m ++ [p])[i]? = _; rw [List.getElem?_append_left (by rw [ok.len]; exact l1)]; exact ha, r.le ok (Le.push ok hp) fun hm => ?_⟩
      obtain ⟨ob, e⟩ := ok.mvS ⟨i, o', h1, hm, ha⟩
      exact upd_ne (ne_of_none e hp)
    · subst e1 z1
      exact ⟨p, by show (s.m ++ [p])[s.h.length]? = _; rw [← ok.len]; simp, hr⟩
  · rcases (Le.push ok hp).new a q with z | z
    · exact (ok.prd a h).1 z
    · obtain ⟨u, e⟩ := ok.prS h
      rw [z] at e; cases e
/-- an object of the logical heap is changed -/
def S3.put (s : S3) (i : Nat) (a : Addr) (o : LO) (u : HO) : S3 := ⟨s.m, s.h.set i o, upd s.H a u, s.pr, s.xc⟩
theorem Le.put {s : S3} {i : Nat} {a : Addr} {o o' : LO} {u : HO} (hi : s.h[i]? = some o) (hm : mutO o = true) (ha : s.m[i]? = some a) : Le s (s.put i a o' u) := by
  have mv : Hm s a := ⟨i, o, hi, hm, ha⟩
  refine ⟨⟨[], by simp [S3.put]⟩, fun b v h n => ?_, fun b q => ?_, rfl, rfl, upd_dom⟩
  · show upd s.H a u b = _
    rw [upd_ne (fun e : b = a => n (by rw [e]; exact mv))]
    exact h
  · obtain ⟨j, o2, ho, hm2, hb⟩ := q
    have ho : (s.h.set i o')[j]? = some o2 := ho
    by_cases e : i = j
    · subst e
      have hb : s.m[i]? = some b := hb
      rw [ha] at hb; cases hb
      exact .inl mv
    · rw [List.getElem?_set_ne e] at ho
      exact .inl ⟨j, o2, ho, hm2, hb⟩
theorem Ok3.put {Z : Sta} {s : S3} (ok : Ok3 Z s) {i : Nat} {a : Addr} {o o' : LO} {u : HO} (hi : s.h[i]? = some o) (hm : mutO o = true) (ha : s.m[i]? = some a) (hr : RO Z (s.put i a o' u) a o') : Ok3 Z (s.put i a o' u) := by
  have lt : i < s.h.length := (List.getElem?_eq_some_iff.mp hi).1
  have back : ∀ (j : Nat) (o2 : LO), (s.h.set i o')[j]? = some o2 → (i = j ∧ o2 = o') ∨ (i ≠ j ∧ s.h[j]? = some o2) := fun j o2 h => by
    by_cases e : i = j
    · subst e
      rw [List.getElem?_set_self lt] at h
      exact .inl ⟨rfl, (Option.some.inj h).symm⟩
    · rw [List.getElem?_set_ne e] at h
      exact .inr ⟨e, h⟩
  have mut' : ∀ (j : Nat) (o2 : LO), (s.h.set i o')[j]? = some o2 → mutO o2 = true → ∃ o3, s.h[j]? = some o3 ∧ mutO o3 = true := fun j o2 h m => by
    rcases back j o2 h with ⟨e, _⟩ | ⟨_, h⟩
    · subst e; exact ⟨o, hi, hm⟩
    · exact ⟨o2, h, m⟩
  refine ⟨by show s.m.length = (s.h.set i o').length; rw [List.length_set]; exact ok.len, fun j k b o1 o2 h1 m1 h2 m2 a1 a2 => ?_, fun j o2 ho => ?_, fun b h => ⟨fun q => ?_, prd_upd ok h fun e => (ok.prd b h).1 ⟨i, o, hi, hm, e ▸ ha⟩⟩⟩
  · obtain ⟨o3, h3, m3⟩ := mut' j o1 h1 m1
    obtain ⟨o4, h4, m4⟩ := mut' k o2 h2 m2
    exact ok.inj j k b o3 o4 h3 m3 h4 m4 a1 a2
  · rcases back j o2 ho with ⟨e, z⟩ | ⟨ne, h⟩
    · subst e z
      exact ⟨a, ha, hr⟩
    · obtain ⟨b, hb, r⟩ := ok.ob j o2 h
      refine ⟨b, hb, r.le ok (Le.put hi hm ha) fun hm2 => ?_⟩
      refine upd_ne fun e => ne ?_
      subst e
      exact ok.inj i j b o o2 hi hm h hm2 ha hb
  · rcases (Le.put (o' := o') (u := u) hi hm ha).new b q with z | z
    · exact (ok.prd b h).1 z
    · obtain ⟨u, e⟩ := ok.prS h
      rw [z] at e; cases e
/-- an object becomes a value, or is not needed any more -/
def S3.kill (s : S3) (i : Nat) : S3 := ⟨s.m, s.h.set i .dead, s.H, s.pr, s.xc⟩
theorem Le.kill {s : S3} {i : Nat} : Le s (s.kill i) := by
  refine ⟨⟨[], by simp [S3.kill]⟩, fun _ _ h _ => h, fun a q => ?_, rfl, rfl, fun _ o h => ⟨o, h⟩⟩
  obtain ⟨j, o2, ho, hm2, hb⟩ := q
  have ho : (s.h.set i .dead)[j]? = some o2 := ho
  by_cases e : i = j
  · subst e
    by_cases lt : i < s.h.length
    · rw [List.getElem?_set_self lt] at ho
      cases ho; cases hm2
    · rw [List.getElem?_eq_none (by simpa using lt)] at ho; cases ho
  · rw [List.getElem?_set_ne e] at ho
    exact .inl ⟨j, o2, ho, hm2, hb⟩
theorem kill_old {s : S3} {i j : Nat} {o : LO} (h : (s.h.set i .dead)[j]? = some o) : o = .dead ∨ (i ≠ j ∧ s.h[j]? = some o) := by
  by_cases e : i = j
  · subst e
    by_cases lt : i < s.h.length
    · rw [List.getElem?_set_self lt] at h
      exact .inl (Option.some.inj h).symm
    · rw [List.getElem?_eq_none (by simpa using lt)] at h; cases h
  · rw [List.getElem?_set_ne e] at h
    exact .inr ⟨e, h⟩
theorem Ok3.kill {Z : Sta} {s : S3} (ok : Ok3 Z s) (i : Nat) : Ok3 Z (s.kill i) := by
  refine ⟨by show s.m.length = (s.h.set i .dead).length; rw [List.length_set]; exact ok.len, fun j k b o1 o2 h1 m1 h2 m2 a1 a2 => ?_, fun j o2 ho => ?_, fun b h => ⟨fun q => ?_, (ok.prd b h).2⟩⟩
  · rcases kill_old h1 with e | ⟨_, h1⟩
    · subst e; cases m1
    rcases kill_old h2 with e | ⟨_, h2⟩
    · subst e; cases m2
    exact ok.inj j k b o1 o2 h1 m1 h2 m2 a1 a2
  · rcases kill_old ho with e | ⟨_, h⟩
    · subst e
      have lt : j < s.m.length := by
        have q : j < (s.h.set i .dead).length := (List.getElem?_eq_some_iff.mp ho).1
        rw [List.length_set] at q
        rw [ok.len]; exact q
      exact ⟨s.m[j], List.getElem?_eq_getElem lt, True.intro⟩
    · obtain ⟨b, hb, r⟩ := ok.ob j o2 h
      exact ⟨b, hb, r.le ok Le.kill fun _ => rfl⟩
  · rcases (Le.kill (s := s) (i := i)).new b q with z | z
    · exact (ok.prd b h).1 z
    · obtain ⟨u, e⟩ := ok.prS h
      rw [z] at e; cases e
theorem nmv_kill {Z : Sta} {s : S3} (ok : Ok3 Z s) {i : Nat} {a : Addr} {o : LO} (hi : s.h[i]? = some o) (hm : mutO o = true) (ha : s.m[i]? = some a) : ¬ Mv (s.kill i) a := fun q => by
  rcases q with ⟨j, o2, ho, hm2, hb⟩ | q
  · rcases kill_old ho with e | ⟨ne, h⟩
    · subst e; cases hm2
    · exact ne (ok.inj i j a o o2 hi hm h hm2 ha hb)
  · exact (ok.prd a q).1 ⟨i, o, hi, hm, ha⟩
/-- what a def alone knows is changed -/
theorem Lq.own {s : S3} {a : Addr} {u : HO} (h : s.pr a) : Lq s ⟨s.m, s.h, upd s.H a u, s.pr, s.xc⟩ :=
  ⟨⟨[], by simp⟩, fun b o e n => by rw [show (S3.mk s.m s.h (upd s.H a u) s.pr s.xc).H b = upd s.H a u b from rfl, upd_ne (fun z : b = a => n (.inr (z ▸ h)))]; exact e, fun _ q => .inl q⟩
theorem Ok3.own {Z : Sta} {s : S3} (ok : Ok3 Z s) {a : Addr} {u : HO} (h : s.pr a) (hu : (∃ vs, u = .lst vs) ∨ ∃ kvs, u = .dK kvs) : Ok3 Z ⟨s.m, s.h, upd s.H a u, s.pr, s.xc⟩ := by
  refine ⟨ok.len, ok.inj, fun i o ho => ?_, fun b hb => ⟨(ok.prd b hb).1, ?_⟩⟩
  · obtain ⟨b, hb, r⟩ := ok.ob i o ho
    refine ⟨b, hb, r.lq ok (Lq.own h) fun hm => ?_⟩
    exact upd_ne fun e : b = a => (ok.prd a h).1 ⟨i, o, ho, hm, e ▸ hb⟩
  · by_cases e : b = a
    · subst e
      show (∃ vs, upd s.H b u b = some (.lst vs)) ∨ ∃ kvs, upd s.H b u b = some (.dK kvs)
      rw [upd_same]
      rcases hu with ⟨vs, rfl⟩ | ⟨kvs, rfl⟩
      · exact .inl ⟨vs, rfl⟩
      · exact .inr ⟨kvs, rfl⟩
    · exact prd_upd ok hb e
/-- a new object that a def alone knows -/
theorem Lq.newO {s : S3} {p : Addr} {u : HO} (hp : s.H p = none) : Lq s ⟨s.m, s.h, upd s.H p u, fun a => s.pr a ∨ a = p, s.xc⟩ :=
  ⟨⟨[], by simp⟩, fun b o e n => by rw [show (S3.mk s.m s.h (upd s.H p u) (fun a => s.pr a ∨ a = p) s.xc).H b = upd s.H p u b from rfl, upd_ne (ne_of_none e hp)]; exact e, fun b q => by
    rcases q with q | q | q
    · exact .inl (.inl q)
    · exact .inl (.inr q)
    · subst q; exact .inr hp⟩
theorem Ok3.newO {Z : Sta} {s : S3} (ok : Ok3 Z s) {p : Addr} {u : HO} (hp : s.H p = none) (hu : (∃ vs, u = .lst vs) ∨ ∃ kvs, u = .dK kvs) : Ok3 Z ⟨s.m, s.h, upd s.H p u, fun a => s.pr a ∨ a = p, s.xc⟩ := by
  refine ⟨ok.len, ok.inj, fun i o ho => ?_, fun b hb => ?_⟩
  · obtain ⟨b, hb, r⟩ := ok.ob i o ho
    refine ⟨b, hb, r.lq ok (Lq.newO hp) fun hm => ?_⟩
    obtain ⟨ob, e⟩ := ok.mvS ⟨i, o, ho, hm, hb⟩
    exact upd_ne (ne_of_none e hp)
  · by_cases e : b = p
    · subst e
      refine ⟨fun q => ?_, ?_⟩
      · obtain ⟨ob, e⟩ := ok.mvS (show Hm s b from q)
        rw [hp] at e; cases e
      · show (∃ vs, upd s.H b u b = some (.lst vs)) ∨ ∃ kvs, upd s.H b u b = some (.dK kvs)
        rw [upd_same]
        rcases hu with ⟨vs, rfl⟩ | ⟨kvs, rfl⟩
        · exact .inl ⟨vs, rfl⟩
        · exact .inr ⟨kvs, rfl⟩
    · rcases hb with hb | hb
      · exact ⟨(ok.prd b hb).1, prd_upd ok hb e⟩
      · exact absurd hb e
/-- fewer protected -/
theorem Lq.less {s : S3} {pr : Addr → Prop} {xc : Option (Addr × Value × Option Addr)} (h : ∀ a, pr a → s.pr a) : Lq s ⟨s.m, s.h, s.H, pr, xc⟩ :=
  ⟨⟨[], by simp⟩, fun _ _ e _ => e, fun b q => by
    rcases q with q | q
    · exact .inl (.inl q)
    · exact .inl (.inr (h b q))⟩
theorem Ok3.less {Z : Sta} {s : S3} (ok : Ok3 Z s) {pr : Addr → Prop} {xc : Option (Addr × Value × Option Addr)} (h : ∀ a, pr a → s.pr a) : Ok3 Z ⟨s.m, s.h, s.H, pr, xc⟩ := by
  refine ⟨ok.len, ok.inj, fun i o ho => ?_, fun b hb => ok.prd b (h b hb)⟩
  obtain ⟨b, hb, r⟩ := ok.ob i o ho
  exact ⟨b, hb, r.lq ok (Lq.less h) fun _ => rfl⟩
mutual
theorem RD.wx {Z : Sta} {s : S3} {q : Option (Addr × Value × Option Addr)} : ∀ {d : D} {v : V}, RD Z s d v → RD (Z.wx q) s d v
  | _, _, .non => .non
  | _, _, .bl b => .bl b
  | _, _, .int i => .int i
  | _, _, .str x => .str x
  | _, _, .tup h r => .tup h r.wx
  | _, _, .lst h n r => .lst h n r.wx
  | _, _, .dic h n r => .dic h n r.wx
  | _, _, .ref h => .ref h
  | _, _, .fn i => .fn (Z := Z.wx q) i
theorem RDs.wx {Z : Sta} {s : S3} {q : Option (Addr × Value × Option Addr)} : ∀ {ds : List D} {vs : List V}, RDs Z s ds vs → RDs (Z.wx q) s ds vs
  | _, _, .nil => .nil
  | _, _, .cons a b => .cons a.wx b.wx
theorem RDk.wx {Z : Sta} {s : S3} {q : Option (Addr × Value × Option Addr)} : ∀ {ds : List (D × D)} {vs : List (Key × V)}, RDk Z s ds vs → RDk (Z.wx q) s ds vs
  | _, _, .nil => .nil
  | _, _, .cons a b => .cons a.wx b.wx
end
theorem RDf.wx {Z : Sta} {s : S3} {q : Option (Addr × Value × Option Addr)} : ∀ {ds : List (Nat × D)} {vs : List (PySem.Str × V)}, RDf Z s ds vs → RDf (Z.wx q) s ds vs
  | _, _, .nil => .nil
  | _, _, .cons a b => .cons (Z := Z.wx q) a.wx b.wx
theorem RO.wx {Z : Sta} {s : S3} {q : Option (Addr × Value × Option Addr)} {a : Addr} {o : LO} (h : RO Z s a o) : RO (Z.wx q) s a o := by
  cases o with
  | lst xs => obtain ⟨vs, h, r⟩ := h; exact ⟨vs, h, r.wx⟩
  | dic ks => obtain ⟨vs, h, r⟩ := h; exact ⟨vs, h, r.wx⟩
  | ins c fs => obtain ⟨dx, fs', h, r⟩ := h; exact ⟨dx, fs', h, r.wx⟩
  | lkL xs => obtain ⟨vs, h, r⟩ := h; exact ⟨vs, h, r.wx⟩
  | lkD ks => obtain ⟨o, vs, h, r⟩ := h; exact ⟨o, vs, h, r.wx⟩
  | dead => trivial
theorem Ok3.wx {Z : Sta} {s : S3} {q : Option (Addr × Value × Option Addr)} (h : Ok3 Z s) : Ok3 (Z.wx q) s := ⟨h.len, h.inj, fun i o ho => by obtain ⟨a, e, r⟩ := h.ob i o ho; exact ⟨a, e, r.wx⟩, h.prd⟩
end Bh
/-! Bh, part 3: readings from outcomes; the small expressions. -/
namespace Bh
open PySem PySem.Spec PyProof.Rows L2
/-- a value, or a list or dict that this def alone knows: what an operator looks at -/
def RDb (Z : Sta) (s : S3) (d : D) (v : V) : Prop := RD Z s d v ∨ ∃ a, v = .ref a ∧ s.pr a ∧ ((∃ xs vs, d = .lst xs ∧ s.H a = some (.lst vs) ∧ RDs Z s xs vs) ∨ ∃ ks kvs, d = .dic ks ∧ s.H a = some (.dK kvs) ∧ RDk Z s ks kvs)
theorem RD.b {Z : Sta} {s : S3} {d : D} {v : V} (r : RD Z s d v) : RDb Z s d v := .inl r
theorem RDb.flat {Z : Sta} {s : S3} {d : D} {v : V} (r : RDb Z s d v) : match d with | .lst _ => True | .dic _ => True | d => RD Z s d v := by
  rcases r with r | ⟨a, _, _, ⟨xs, vs, rfl, _⟩ | ⟨ks, kvs, rfl, _⟩⟩
  · cases d <;> first | exact r | trivial
  · trivial
  · trivial
theorem RDb.le {Z : Sta} {s s' : S3} {d : D} {v : V} (r : RDb Z s d v) (ok : Ok3 Z s) (l : Le s s') : RDb Z s' d v := by
  rcases r with r | ⟨a, rfl, hp, h⟩
  · exact .inl (r.le ok l)
  · refine .inr ⟨a, rfl, by rw [l.prs]; exact hp, ?_⟩
    rcases h with ⟨xs, vs, e, h, q⟩ | ⟨ks, kvs, e, h, q⟩
    · exact .inl ⟨xs, vs, e, l.keep a _ h (ok.prd a hp).1, q.le ok l⟩
    · exact .inr ⟨ks, kvs, e, l.keep a _ h (ok.prd a hp).1, q.le ok l⟩
def XD (Z : Sta) (s : S3) (c : Nat) (fs : List D) (cls : Value) (dd : Option Addr) : Prop :=
  ∃ dx fs', cls = .ref (Z.ca c) ∧ dd = some dx ∧ s.H dx = some (.xd fs') ∧ ∀ (i : Nat) f d, (Z.xf c)[i]? = some f → fs[i]? = some d → ∃ v, fs'.lookup f = some v ∧ RD Z s d v
theorem XD.lq {Z : Sta} {s s' : S3} {c : Nat} {fs : List D} {cls : Value} {dd : Option Addr} (h : XD Z s c fs cls dd) (ok : Ok3 Z s) (l : Lq s s') : XD Z s' c fs cls dd := by
  obtain ⟨dx, fs', e1, e2, e3, e4⟩ := h
  refine ⟨dx, fs', e1, e2, l.keep _ _ e3 (fun m => ?_), fun i f d h1 h2 => ?_⟩
  · rcases ok.mvA m with ⟨_, e⟩ | ⟨_, e⟩ | ⟨_, _, _, e⟩ <;> (rw [e3] at e; cases e)
  · obtain ⟨v, h3, r⟩ := e4 i f d h1 h2
    exact ⟨v, h3, r.lq ok l⟩
theorem XD.le {Z : Sta} {s s' : S3} {c : Nat} {fs : List D} {cls : Value} {dd : Option Addr} (h : XD Z s c fs cls dd) (ok : Ok3 Z s) (l : Le s s') : XD Z s' c fs cls dd := h.lq ok l.lq
def RSl (Z : Sta) (s : S3) : Sl → V → Prop
  | .no, _ => True
  | .v d, v => RD Z s d v
  | .ol xs, v => ∃ a, v = .ref a ∧ s.pr a ∧ ∃ vs, s.H a = some (.lst vs) ∧ RDs Z s xs vs
  | .od ks, v => ∃ a, v = .ref a ∧ s.pr a ∧ ∃ kvs, s.H a = some (.dK kvs) ∧ RDk Z s ks kvs
  | .ex c fs, v => ∃ a cls dd, v = .ref a ∧ Z.xq = some (a, cls, dd) ∧ XD Z s c fs cls dd
theorem RSl.le {Z : Sta} {s s' : S3} {sl : Sl} {v : V} (r : RSl Z s sl v) (ok : Ok3 Z s) (l : Le s s') : RSl Z s' sl v := by
  cases sl with
  | no => trivial
  | v d => exact RD.le ok l r
  | ol xs =>
    obtain ⟨a, e, hp, vs, h, q⟩ := r
    exact ⟨a, e, by rw [l.prs]; exact hp, vs, l.keep a _ h (ok.prd a hp).1, RDs.le ok l q⟩
  | od xs =>
    obtain ⟨a, e, hp, vs, h, q⟩ := r
    exact ⟨a, e, by rw [l.prs]; exact hp, vs, l.keep a _ h (ok.prd a hp).1, RDk.le ok l q⟩
  | ex c fs =>
    obtain ⟨a, cls, dd, e, h, x⟩ := r
    exact ⟨a, cls, dd, e, h, x.le ok l⟩
def RSt (Z : Sta) (s : S3) (σL : DSt) (σ : L2.St) : Prop := σL.length = σ.length ∧ ∀ (i : Nat) (sl : Sl), σL[i]? = some sl → sl ≠ .no → ∃ v, σ[i]? = some (some v) ∧ RSl Z s sl v
theorem RSt.le {Z : Sta} {s s' : S3} {σL : DSt} {σ : L2.St} (r : RSt Z s σL σ) (ok : Ok3 Z s) (l : Le s s') : RSt Z s' σL σ :=
  ⟨r.1, fun i d h n => let ⟨v, e, q⟩ := r.2 i d h n; ⟨v, e, q.le ok l⟩⟩
theorem RSt.set {Z : Sta} {s : S3} {σL : DSt} {σ : L2.St} (r : RSt Z s σL σ) {d : Sl} {v : V} (q : RSl Z s d v) (i : Nat) : RSt Z s (σL.set i d) (σ.set i (some v)) := by
  refine ⟨by rw [List.length_set, List.length_set]; exact r.1, fun j e h hn => ?_⟩
  by_cases hj : i = j
  · subst hj
    by_cases lt : i < σL.length
    · rw [List.getElem?_set_self lt] at h
      cases h
      exact ⟨v, List.getElem?_set_self (by rw [← r.1]; exact lt), q⟩
    · rw [List.getElem?_eq_none (by simpa using lt)] at h; cases h
  · rw [List.getElem?_set_ne hj] at h
    obtain ⟨u, e1, q1⟩ := r.2 j e h hn
    exact ⟨u, by rw [List.getElem?_set_ne hj]; exact e1, q1⟩
def PostV {α : Type} (Z : Sta) (s : S3) (o : Out α) (Q : α → S3 → Prop) (E : Nat → List D → S3 → Prop) : Prop :=
  match o with
  | .ok a h => ∀ s', s'.h = h → Le s s' → Ok3 Z s' → Q a s'
  | .ex c fs h => ∀ s', s'.h = h → Le s s' → Ok3 Z s' → E c fs s'
  | .bad => False
theorem PostV.back {α : Type} {Z : Sta} {s s1 : S3} {o : Out α} {Q : α → S3 → Prop} {E : Nat → List D → S3 → Prop} (h : PostV Z s o Q E) (l : Le s s1) : PostV Z s1 o Q E := by
  cases o with
  | ok a g => exact fun s' e l' k => h s' e (l.trans l') k
  | ex c fs g => exact fun s' e l' k => h s' e (l.trans l') k
  | bad => exact h
theorem PostV.mono {α : Type} {Z : Sta} {s : S3} {o : Out α} {Q Q' : α → S3 → Prop} {E E' : Nat → List D → S3 → Prop} (h : PostV Z s o Q E) (hq : ∀ a s', Le s s' → Ok3 Z s' → Q a s' → Q' a s')
    (he : ∀ c fs s', Le s s' → Ok3 Z s' → E c fs s' → E' c fs s') : PostV Z s o Q' E' := by
  cases o with
  | ok a g => exact fun s' e l' k => hq a s' l' k (h s' e l' k)
  | ex c fs g => exact fun s' e l' k => he c fs s' l' k (h s' e l' k)
  | bad => exact h
theorem PostV.bind {α β : Type} {Z : Sta} {s : S3} {o : Out α} {f : α → LH → Out β} {Q : β → S3 → Prop} {E : Nat → List D → S3 → Prop} (h : PostV Z s (o.bind f) Q E) :
    PostV Z s o (fun a s1 => PostV Z s1 (f a s1.h) Q E) E := by
  cases o with
  | ok a g =>
    intro s' e l' k
    subst e
    exact PostV.back h l'
  | ex c fs g => exact h
  | bad => exact h
/-- the values a value stands for -/
def QQ (Z : Sta) (Q : VK) : D → S3 → Prop := fun d s => ∀ v, RD Z s d v → Q v s.H
def EE (Z : Sta) (W : WX) (σ : L2.St) : Nat → List D → S3 → Prop := fun c fs s => ∀ cls dd, XD Z s c fs cls dd → W cls dd σ s.H
def QB (Z : Sta) (Q : VK) : D → S3 → Prop := fun d s => ∀ v, RDb Z s d v → Q v s.H
/-- an operand's reading -/
def tO (Z : Sta) (W : WX) (e : DSt → LH → Out D) : TE := fun σ H Q => ∃ s σL, s.H = H ∧ Ok3 Z s ∧ RSt Z s σL σ ∧ PostV Z s (e σL s.h) (QB Z Q) (EE Z W σ)
/-- an expression's reading, from its outcome -/
def tE (Z : Sta) (W : WX) (e : DSt → LH → Out D) : TE := fun σ H Q => ∃ s σL, s.H = H ∧ Ok3 Z s ∧ RSt Z s σL σ ∧ PostV Z s (e σL s.h) (QQ Z Q) (EE Z W σ)
def tEs (Z : Sta) (W : WX) (e : DSt → LH → Out (List D)) : TA := fun σ H Q => ∃ s σL, s.H = H ∧ Ok3 Z s ∧ RSt Z s σL σ ∧ PostV Z s (e σL s.h) (fun ds s' => ∀ vs, RDs Z s' ds vs → Q vs s'.H) (EE Z W σ)
def tB_ (Z : Sta) (W : WX) (e : DSt → LH → Out Bool) : TT := fun σ H Q => ∃ s σL, s.H = H ∧ Ok3 Z s ∧ RSt Z s σL σ ∧ PostV Z s (e σL s.h) (fun b s' => Q b s'.H) (EE Z W σ)
theorem _root_.L2.PE.imp {X : Cx} {e : Expr} {t t' : TE} (h : PE X e t) (i : ∀ σ H Q, t' σ H Q → t σ H Q) : PE X e t' := ⟨fun pins s σ H Q I q => h.run pins s σ H Q I (i σ H Q q)⟩
theorem _root_.L2.PT.imp {X : Cx} {e : Expr} {t t' : TT} (h : PT X e t) (i : ∀ σ H Q, t' σ H Q → t σ H Q) : PT X e t' := ⟨fun pins s σ H Q I q => h.run pins s σ H Q I (i σ H Q q)⟩
theorem _root_.L2.PW.imp {X : Cx} {e : Expr} {t t' : TT} (h : PW X e t) (i : ∀ σ H Q, t' σ H Q → t σ H Q) : PW X e t' := ⟨fun w pins s σ H Q I q => h.run w pins s σ H Q I (i σ H Q q)⟩
theorem _root_.L2.PA.imp {X : Cx} {e : List Expr} {t t' : TA} (h : PA X e t) (i : ∀ σ H Q, t' σ H Q → t σ H Q) : PA X e t' := ⟨fun p pins s σ H Q I q => h.run p pins s σ H Q I (i σ H Q q)⟩
theorem _root_.L2.PE.o {X : Cx} {Z : Sta} {W : WX} {e : Expr} {t : DSt → LH → Out D} (h : PE X e (tE Z W t)) : PE X e (tO Z W t) := h.imp fun σ H Q q => by
  obtain ⟨s, σL, e1, ok, rs, p⟩ := q
  exact ⟨s, σL, e1, ok, rs, p.mono (fun d s' _ _ q v r => q v r.b) fun _ _ _ _ _ q => q⟩
section
variable {Z : Sta} {W : WX} {σ : L2.St} {H : Hp}
/-- behind a first part: the state, the value, what is left to be done -/
theorem tE.bind {e : DSt → LH → Out D} {f : DSt → D → LH → Out D} {Q : VK} {Q' : VK} (h : tE Z W (fun σ h => (e σ h).bind fun d h1 => f σ d h1) σ H Q)
    (k : ∀ s σL d v, Ok3 Z s → RSt Z s σL σ → RD Z s d v → PostV Z s (f σL d s.h) (QQ Z Q) (EE Z W σ) → Q' v s.H) : tE Z W e σ H Q' := by
  obtain ⟨s, σL, e1, ok, rs, p⟩ := h
  exact ⟨s, σL, e1, ok, rs, p.bind.mono (fun d s' l k' q v r => k s' σL d v k' (rs.le ok l) r q) fun _ _ _ _ _ q => q⟩
/-- .. an operand, whatever is asked behind -/
theorem tO.bind {α : Type} {e : DSt → LH → Out D} {f : DSt → D → LH → Out α} {R : α → S3 → Prop} {Q' : VK} (h : ∃ s σL, s.H = H ∧ Ok3 Z s ∧ RSt Z s σL σ ∧ PostV Z s ((e σL s.h).bind fun d h1 => f σL d h1) R (EE Z W σ))
    (k : ∀ s σL d v, Ok3 Z s → RSt Z s σL σ → RDb Z s d v → PostV Z s (f σL d s.h) R (EE Z W σ) → Q' v s.H) : tO Z W e σ H Q' := by
  obtain ⟨s, σL, e1, ok, rs, p⟩ := h
  exact ⟨s, σL, e1, ok, rs, p.bind.mono (fun d s' l k' q v r => k s' σL d v k' (rs.le ok l) r q) fun _ _ _ _ _ q => q⟩
/-- the end of a part: a value known -/
theorem post_opt {s : S3} {o : Option D} {Q : VK} {E : Nat → List D → S3 → Prop} (h : PostV Z s (optO o s.h) (QQ Z Q) E) : ∃ d, o = some d ∧ ∀ s', s'.h = s.h → Le s s' → Ok3 Z s' → ∀ v, RD Z s' d v → Q v s'.H := by
  cases o with
  | none => exact h.elim
  | some d => exact ⟨d, rfl, h⟩
end
/-! ### names, constants -/
def bLit (d : D) : DE := fun _ _ h => .ok d h
def bVar (i : Nat) : DE := fun _ σ h => match σ[i]? with | some (.v d) => .ok d h | _ => .bad
def bVarO (i : Nat) : DE := fun _ σ h => match σ[i]? with | some (.v d) => .ok d h | some (.ol xs) => .ok (.lst xs) h | some (.od ks) => .ok (.dic ks) h | _ => .bad
section
variable {X : Cx} {Z : Sta} {W : WX} {c : Calls} {pos : Pos}
theorem tE_lit {d : D} {v : V} (h : ∀ s, RD Z s d v) (σ : L2.St) (H : Hp) (Q : VK) (t : tE Z W (bLit d c) σ H Q) : tC v σ H Q := by
  obtain ⟨s, σL, rfl, ok, _, p⟩ := t
  exact p s rfl (Le.refl s) ok v (h s)
theorem sd_int {i : Int} {j : Nat} : PE X (.Constant (.int i) j pos) (tE Z W (bLit (.int i) c)) := pe_int.imp (tE_lit fun _ => .int i)
theorem sd_bl {i : Bool} {j : Nat} : PE X (.Constant (.bool i) j pos) (tE Z W (bLit (.bl i) c)) := pe_bl.imp (tE_lit fun _ => .bl i)
theorem sd_non {j : Nat} : PE X (.Constant .none j pos) (tE Z W (bLit .non c)) := pe_non.imp (tE_lit fun _ => .non)
theorem sd_str {x : PySem.Str} {j : Nat} : PE X (.Constant (.str x) j pos) (tE Z W (bLit (.str x) c)) := pe_str.imp (tE_lit fun _ => .str x)
theorem sd_var {i : Nat} {x : PySem.Str} (hN : X.N[i]? = some x) (hv : Vis X.env.scope x) (hd : (x == ("__debug__" : PySem.Str)) = false) (hcd : (x == ("__classdict__" : PySem.Str)) = false) : PE X (.Name x pos) (tE Z W (bVar i c)) := by
  refine (pe_var hN hv hd hcd).imp fun σ H Q t => ?_
  obtain ⟨s, σL, rfl, ok, rs, p⟩ := t
  unfold bVar at p
  split at p
  · rename_i d e
    obtain ⟨v, ev, r⟩ := rs.2 i _ e (fun z => by cases z)
    exact ⟨v, ev, p s rfl (Le.refl s) ok v r⟩
  · exact p.elim
theorem so_var {i : Nat} {x : PySem.Str} (hN : X.N[i]? = some x) (hv : Vis X.env.scope x) (hd : (x == ("__debug__" : PySem.Str)) = false) (hcd : (x == ("__classdict__" : PySem.Str)) = false) : PE X (.Name x pos) (tO Z W (bVarO i c)) := by
  refine (pe_var hN hv hd hcd).imp fun σ H Q t => ?_
  obtain ⟨s, σL, rfl, ok, rs, p⟩ := t
  unfold bVarO at p
  split at p
  · rename_i d e
    obtain ⟨v, ev, r⟩ := rs.2 i _ e (fun z => by cases z)
    exact ⟨v, ev, p s rfl (Le.refl s) ok v (RD.b r)⟩
  · rename_i xs e
    obtain ⟨v, ev, a, e1, hp, vs, h1, h2⟩ := rs.2 i _ e (fun z => by cases z)
    exact ⟨v, ev, p s rfl (Le.refl s) ok v (.inr ⟨a, e1, hp, .inl ⟨xs, vs, rfl, h1, h2⟩⟩)⟩
  · rename_i xs e
    obtain ⟨v, ev, a, e1, hp, vs, h1, h2⟩ := rs.2 i _ e (fun z => by cases z)
    exact ⟨v, ev, p s rfl (Le.refl s) ok v (.inr ⟨a, e1, hp, .inr ⟨xs, vs, rfl, h1, h2⟩⟩)⟩
  · exact p.elim
theorem sd_glob {x : PySem.Str} {d : D} {v : V} {u : Value} (hg : Gl X x) (hm : X.mg x = some u) (r : RelV v u) (hr : ∀ s, RD Z s d v) (hd : (x == ("__debug__" : PySem.Str)) = false) : PE X (.Name x pos) (tE Z W (bLit d c)) :=
  (pe_glob hg hm r hd).imp (tE_lit hr)
end
/-! ### operators -/
def bBin (op : Operator) (a b : DE) : DE := fun c σ h => (a c σ h).bind fun x h1 => (b c σ h1).bind fun y h2 => optO (opV h2 op x y) h2
def bNeg (a : DE) : DE := fun c σ h => (a c σ h).bind fun x h1 => match x with | .int i => .ok (.int (-i)) h1 | _ => .bad
section
variable {X : Cx} {Z : Sta} {W : WX} {c : Calls} {pos : Pos}
/-- by value: some rule of the hand layer holds for these two values -/
def rBin (Z : Sta) (f : LH → D → D → Option D) : R2 := fun x y H Q => ∃ s d e r, s.H = H ∧ Ok3 Z s ∧ RDb Z s d x ∧ RDb Z s e y ∧ f s.h d e = some r ∧ ∀ s', s'.h = s.h → Le s s' → Ok3 Z s' → ∀ v, RD Z s' r v → Q v s'.H
theorem sd_bin {op : Operator} {a b : Expr} {ea eb : DE} (ho : OpR X (binaryOp op) (rBin Z fun h x y => opV h op x y)) (ha : PE X a (tO Z W (ea c))) (hb : PE X b (tO Z W (eb c))) : PE X (.BinOp a op b pos) (tE Z W (bBin op ea eb c)) := by
  refine (pe_op ho ha hb).imp fun σ H Q t => ?_
  refine tO.bind (e := ea c) (f := fun σ x h1 => (eb c σ h1).bind fun y h2 => optO (opV h2 op x y) h2) t fun s σL d v ok rs r p => ?_
  refine ⟨s, σL, rfl, ok, rs, p.bind.mono (fun e s' l k q u ru => ?_) fun _ _ _ _ _ q => q⟩
  obtain ⟨z, ez, hz⟩ := post_opt q
  exact ⟨s', d, e, z, rfl, k, r.le ok l, ru, ez, hz⟩
theorem sd_neg {a : Expr} {ea : DE} (ha : PE X a (tE Z W (ea c))) : PE X (.UnaryOp .USub a pos) (tE Z W (bNeg ea c)) := by
  refine (pe_un un_neg ha).imp fun σ H Q t => ?_
  refine tE.bind (e := ea c) (f := fun σ x h1 => match x with | .int i => .ok (.int (-i)) h1 | _ => .bad) t fun s σL d v ok rs r p => ?_
  cases d with
  | int i => cases r; exact ⟨i, rfl, p s rfl (Le.refl s) ok _ (.int _)⟩
  | _ => exact p.elim
theorem lim_eq : sizeLine = LIM := sizeLine_eq
theorem mulOk_ok {i j : Int} (h : mulOk i j = true) : CMul i j := by
  unfold mulOk at h
  rw [Bool.or_eq_true] at h
  rcases h with h | h
  · have := Nat.le_of_ble_eq_true h
    exact .inl ⟨by omega, by omega⟩
  · have := Nat.le_of_ble_eq_true h
    exact .inr ⟨by omega, by omega⟩
theorem op_any_add (hK : Z.K = X.K) : OpR X (binaryOp .Add) (rBin Z fun h x y => opV h .Add x y) := by
  intro pins s σ H x y v u Q I rx ry h
  obtain ⟨s3, d, e, r, rfl, ok, rd, re, hf, k⟩ := h
  cases d with
  | int i =>
    cases e with
    | int j =>
      cases rd.flat; cases re.flat
      cases hf
      exact op_add pins s σ _ _ _ v u Q I rx ry ⟨i, j, rfl, rfl, k s3 rfl (Le.refl _) ok _ (.int _)⟩
    | _ => cases hf
  | str a =>
    cases e with
    | str b =>
      cases rd.flat; cases re.flat
      simp only [opV] at hf
      split at hf
      · rename_i hl
        cases hf
        exact op_add_str pins s σ _ _ _ v u Q I rx ry ⟨a, b, rfl, rfl, by rw [lim_eq]; exact hl, k s3 rfl (Le.refl _) ok _ (.str _)⟩
      · cases hf
    | _ => cases hf
  | tup xs =>
    cases e with
    | tup ys =>
      simp only [opV] at hf
      split at hf
      · rename_i hl
        cases hf
        cases rd.flat with
        | @tup a _ vs h1 r1 =>
          cases re.flat with
          | @tup b _ us h2 r2 =>
            refine op_catA pins s σ _ _ _ v u Q I rx ry ⟨a, b, vs, us, rfl, rfl, hK ▸ h1, hK ▸ h2, by rw [lim_eq, ← r1.length, ← r2.length]; exact hl, fun z => ?_, fun _ z => ?_, fun z1 z2 p hp => ?_⟩
            · subst z
              cases r1
              exact k s3 rfl (Le.refl _) ok _ (.tup h2 r2)
            · subst z
              cases r2
              refine k s3 rfl (Le.refl _) ok _ (.tup h1 ?_)
              rw [List.append_nil]
              exact r1
            · have l := Le.tmp (o := .tup (vs ++ us)) hp
              exact k ⟨s3.m, s3.h, upd s3.H p (.tup (vs ++ us)), s3.pr, s3.xc⟩ rfl l (ok.tmp hp) _ (.tup (SqT.of upd_same) ((r1.app r2).le ok l))
      · cases hf
    | _ => cases hf
  | _ => cases e <;> cases hf
end
end Bh
/-! Bh, part 4: a tuple times any int. -/
namespace Bh
open PySem PySem.Spec PyProof.Rows L2
theorem tupmul_same (l : Addr) (its : Array Value) (n : Nat) (dd : Option Addr) (sl : Array (Option Value)) (k : Int) (u : Tok) (c0 : (decide (k < -(2 ^ 63)) || decide (k ≥ 2 ^ 63)) = false) (c1 : (its.isEmpty || k == 1) = true) :
    Meets (Builtin.«tuple.__mul__» ⟨[.ref l, .int k u], []⟩) (fun _ R s => s.heap.get? l = some { cls := .type "tuple", dict := dd, data := .seq its n, slots := sl } ∧ R (.ok (.ret (Value.ref l))) s) :=
  .of_wp fun prog w A R s h => by
    obtain ⟨hp, g, d, tk, os⟩ := s
    obtain ⟨hl, h⟩ := h
    have f1 := AutoSeq1.idx_int
    wp_walk using wpAny_loadPart' hl
    repeat (first
      | (refine wpAny_ite_false (decide_eq_false (by rw [c0]; exact Bool.false_ne_true)) ?_; wp_walk using wpAny_loadPart' hl)
      | (refine wpAny_ite_true (decide_eq_true c1) ?_; wp_walk using wpAny_loadPart' hl))
    exact ⟨_, rfl, h⟩
theorem tupmul_none (l : Addr) (its : Array Value) (n : Nat) (dd : Option Addr) (sl : Array (Option Value)) (k : Int) (u : Tok) (c0 : (decide (k < -(2 ^ 63)) || decide (k ≥ 2 ^ 63)) = false) (c1 : (its.isEmpty || k == 1) = false) (c2 : (decide (k ≤ 0) || its.isEmpty) = true) :
    Meets (Builtin.«tuple.__mul__» ⟨[.ref l, .int k u], []⟩) (fun _ R s => s.heap.get? l = some { cls := .type "tuple", dict := dd, data := .seq its n, slots := sl } ∧
      R (.ok (.ret (Value.ref s.heap.objs.size))) { s with heap := s.heap.push { cls := Value.type "tuple", data := Data.seq #[] }, toks := s.toks }) :=
  .of_wp fun prog w A R s h => by
    obtain ⟨hp, g, d, tk, os⟩ := s
    obtain ⟨hl, h⟩ := h
    have f1 := AutoSeq1.idx_int
    have hsz : (#[] : Array Value).size ≤ sizeLine := by show 0 ≤ sizeLine; decide
    wp_walk using wpAny_loadPart' hl
    repeat (first
      | (refine wpAny_ite_false (decide_eq_false (by rw [c0]; exact Bool.false_ne_true)) ?_; wp_walk using wpAny_loadPart' hl)
      | (refine wpAny_ite_false (decide_eq_false (by rw [c1]; exact Bool.false_ne_true)) ?_; wp_walk using wpAny_loadPart' hl)
      | (refine wpAny_ite_true (decide_eq_true c2) ?_; wp_walk using wpAny_loadPart' hl)
      | (refine wpAny_ite_false (decide_eq_false (Nat.not_lt.mpr hsz)) ?_; wp_walk using wpAny_loadPart' hl))
    exact ⟨_, rfl, h⟩
/-- t * k -/
def rRepA (K : PySem.W.Frag) : R2 := fun x y H Q => ∃ l k xs, x = .ref l ∧ y = .int k ∧ SqT K H l xs ∧ -(2 ^ 62) ≤ k ∧ k < 2 ^ 62 ∧ xs.length * k.toNat ≤ 1000000 ∧
  ((xs = [] ∨ k = 1) → Q (.ref l) H) ∧ (¬ (xs = [] ∨ k = 1) → ∀ p, H p = none → Q (.ref p) (upd H p (.tup (List.replicate k.toNat xs).flatten)))
section
variable {X : Cx}
theorem op_repA : OpR X (binaryOp .Mult) (rRepA X.K) := by
  intro pins s σ H x y v u Q I rx ry h
  obtain ⟨l, k, xs, rfl, rfl, hT, h1, h2, hz, q1, q2⟩ := h
  cases rx
  obtain ⟨t, rfl⟩ := ry
  obtain ⟨its, r, ⟨⟨cls, dd, data, sl⟩, ho, hc, n, hd⟩, hs⟩ := I.tuple hT
  simp only at hc hd
  subst hc hd
  have hle : its.length = xs.length := r.length.symm
  have c0 : (decide (k < -(2 ^ 63)) || decide (k ≥ 2 ^ 63)) = false := by
    rw [decide_eq_false (by omega), decide_eq_false (by omega)] <;> rfl
  have go : ∀ {Q' : Value → Shared → Prop}, wpAny (model X.prog X.w) X.A (call (.builtin "tuple.__mul__") [.ref l, .int k t]) Q' X.xe s → wpAny (model X.prog X.w) X.A (binaryOp .Mult (.ref l) (.int k t)) Q' X.xe s := fun hcall =>
    wpAny_binaryOp_repeat_ref (T := "tuple") (U := "int") (by decide) ⟨_, ho, rfl⟩ (fun s' => typeIs_int s' k t) noFill_tuple_mul F.fills_int_mul F.slot_int_rmul repeat_tuple F.slot_int_index.lookup
      (call_meets F.slot_int_rmul (typeIs_int s k t) F.entry_int_rmul (F.args_int_rmul_2 _ _) (int_rmul_tuple k t l its.toArray n dd sl) ⟨ho, rfl, ⟨_, ho, rfl⟩, hcall⟩)
  by_cases hz0 : xs = [] ∨ k = 1
  · have c1 : (its.toArray.isEmpty || k == 1) = true := by
      rcases hz0 with e | e
      · subst e
        cases r
        rfl
      · subst e
        simp
    exact go (call_meets F.slot_tuple_mul ⟨_, ho, rfl⟩ F.entry_tuple_mul (F.args_tuple_mul_2 _ _) (tupmul_same l its.toArray n dd sl k t c0 c1) ⟨ho, .ref l, H, I, rfl, q1 hz0⟩)
  · have hn : its ≠ [] := fun e => hz0 (.inl (by
      rw [e] at hle
      exact List.eq_nil_of_length_eq_zero hle.symm))
    have hi : its.toArray.isEmpty = false := by
      cases its with
      | nil => exact absurd rfl hn
      | cons a b => rfl
    have c1 : (its.toArray.isEmpty || k == 1) = false := by
      rw [hi, Bool.false_or]
      exact beq_eq_false_iff_ne.mpr fun e => hz0 (.inr e)
    have flen : (List.replicate k.toNat its).flatten.length ≤ sizeLine := by
      rw [PyProof.Rows.lm_len_rep_flat, hle, lim_eq, Nat.mul_comm]
      exact Nat.le_trans hz (by decide)
    have flen' : (List.replicate k.toNat xs).flatten.length ≤ sizeLine := by
      rw [PyProof.Rows.lm_len_rep_flat, lim_eq, Nat.mul_comm]
      exact Nat.le_trans hz (by decide)
    by_cases hk : k ≤ 0
    · have c2 : (decide (k ≤ 0) || its.toArray.isEmpty) = true := by rw [decide_eq_true hk] <;> rfl
      refine go (call_meets F.slot_tuple_mul ⟨_, ho, rfl⟩ F.entry_tuple_mul (F.args_tuple_mul_2 _ _) (tupmul_none l its.toArray n dd sl k t c0 c1 c2) ⟨ho, ?_⟩)
      have e0 : k.toNat = 0 := by omega
      have q3 := q2 hz0 s.heap.objs.size (I.hok.fresh (Nat.le_refl _))
      rw [e0] at q3
      refine ⟨.ref s.heap.objs.size, _, I.laid (t' := s.toks) (o := .tup (List.replicate 0 xs).flatten) (fun b ob q => Heap.get?_push_of_some _ q) (Nat.le_refl _) ?_, rfl, q3⟩
      exact ⟨Nat.zero_le _, [], .nil, IsTup.new _ #[]⟩
    · have hk2 : 2 ≤ k := by
        have : ¬ k = 1 := fun e => hz0 (.inr e)
        omega
      have c2 : (decide (k ≤ 0) || its.toArray.isEmpty) = false := by
        rw [hi, Bool.or_false]
        exact decide_eq_false hk
      have hm : ((its.toArray.size : Nat) : Int) * k ≤ 1000000 := by
        rw [List.size_toArray, hle]
        have e : k = ((k.toNat : Nat) : Int) := by omega
        rw [e, ← Int.natCast_mul]
        exact Int.ofNat_le.mpr hz
      have c4 : Builtin.Tuple.tupleTooMany (((its.toArray.size : Nat) : Int) * k) = false := by
        unfold Builtin.Tuple.tupleTooMany
        rw [sizeLine_eq]
        exact decide_eq_false (by omega)
      refine go (call_meets F.slot_tuple_mul ⟨_, ho, rfl⟩ F.entry_tuple_mul (F.args_tuple_mul_2 _ _) (tuple_mulW l its.toArray n dd sl k t c0 c1 c2 (by omega) c4 (by rw [size_rep, List.size_toArray]; exact flen)) ⟨ho, ?_⟩)
      rw [size_rep]
      refine ⟨.ref s.heap.objs.size, _, I.laid (t' := s.toks) (o := .tup (List.replicate k.toNat xs).flatten) (fun b ob q => Heap.get?_push_of_some _ q) (Nat.le_refl _) ?_, rfl, q2 hz0 _ (I.hok.fresh (Nat.le_refl _))⟩
      exact ⟨flen', _, r.rep k.toNat, IsTup.new _ _⟩
end
section
variable {X : Cx} {Z : Sta}
theorem op_any_sub : OpR X (binaryOp .Sub) (rBin Z fun h x y => opV h .Sub x y) := by
  intro pins s σ H x y v u Q I rx ry h
  obtain ⟨s3, d, e, r, rfl, ok, rd, re, hf, k⟩ := h
  cases d with
  | int i =>
    cases e with
    | int j =>
      cases rd.flat; cases re.flat
      cases hf
      exact op_sub pins s σ _ _ _ v u Q I rx ry ⟨i, j, rfl, rfl, k s3 rfl (Le.refl _) ok _ (.int _)⟩
    | _ => cases hf
  | _ => cases e <;> cases hf
theorem op_any_mul (hK : Z.K = X.K) : OpR X (binaryOp .Mult) (rBin Z fun h x y => opV h .Mult x y) := by
  intro pins s σ H x y v u Q I rx ry h
  obtain ⟨s3, d, e, r, rfl, ok, rd, re, hf, k⟩ := h
  cases d with
  | int i =>
    cases e with
    | int j =>
      cases rd.flat; cases re.flat
      simp only [opV] at hf
      split at hf
      · rename_i hm
        cases hf
        exact op_mul pins s σ _ _ _ v u Q I rx ry ⟨i, j, rfl, rfl, mulOk_ok hm, k s3 rfl (Le.refl _) ok _ (.int _)⟩
      · cases hf
    | _ => cases hf
  | tup xs =>
    cases e with
    | int j =>
      cases re.flat
      simp only [opV] at hf
      split at hf
      · rename_i hm
        cases hf
        cases rd.flat with
        | @tup a _ vs h1 r1 =>
          refine op_repA pins s σ _ _ _ v u Q I rx ry ⟨a, j, vs, rfl, rfl, hK ▸ h1, hm.1, hm.2.1, by rw [← r1.length]; exact hm.2.2, fun z => ?_, fun z p hp => ?_⟩
          · refine k s3 rfl (Le.refl _) ok _ (.tup h1 ?_)
            rcases z with z | z
            · subst z
              cases r1
              have e0 : (List.replicate j.toNat ([] : List D)).flatten = [] := by simp
              rw [e0]
              exact .nil
            · subst z
              simpa using r1
          · have l := Le.tmp (o := .tup (List.replicate j.toNat vs).flatten) hp
            exact k ⟨s3.m, s3.h, upd s3.H p (.tup (List.replicate j.toNat vs).flatten), s3.pr, s3.xc⟩ rfl l (ok.tmp hp) _ (.tup (SqT.of upd_same) ((r1.flat _).le ok l))
      · cases hf
    | _ => cases hf
  | _ => cases e <;> cases hf
theorem op_any_fdiv : OpR X (binaryOp .FloorDiv) (rBin Z fun h x y => opV h .FloorDiv x y) := by
  intro pins s σ H x y v u Q I rx ry h
  obtain ⟨s3, d, e, r, rfl, ok, rd, re, hf, k⟩ := h
  cases d with
  | int i =>
    cases e with
    | int j =>
      cases rd.flat; cases re.flat
      simp only [opV] at hf
      split at hf
      · rename_i hm
        cases hf
        exact op_fdiv pins s σ _ _ _ v u Q I rx ry ⟨i, j, rfl, rfl, hm, k s3 rfl (Le.refl _) ok _ (.int _)⟩
      · cases hf
    | _ => cases hf
  | _ => cases e <;> cases hf
theorem op_any_mod : OpR X (binaryOp .Mod) (rBin Z fun h x y => opV h .Mod x y) := by
  intro pins s σ H x y v u Q I rx ry h
  obtain ⟨s3, d, e, r, rfl, ok, rd, re, hf, k⟩ := h
  cases d with
  | int i =>
    cases e with
    | int j =>
      cases rd.flat; cases re.flat
      simp only [opV] at hf
      split at hf
      · rename_i hm
        cases hf
        exact op_mod pins s σ _ _ _ v u Q I rx ry ⟨i, j, rfl, rfl, hm, k s3 rfl (Le.refl _) ok _ (.int _)⟩
      · cases hf
    | _ => cases hf
  | _ => cases e <;> cases hf
theorem op_any_pow : OpR X (binaryOp .Pow) (rBin Z fun h x y => opV h .Pow x y) := by
  intro pins s σ H x y v u Q I rx ry h
  obtain ⟨s3, d, e, r, rfl, ok, rd, re, hf, k⟩ := h
  cases d with
  | int i =>
    cases e with
    | int j =>
      cases rd.flat; cases re.flat
      simp only [opV] at hf
      split at hf
      · rename_i hm
        cases hf
        exact op_pow pins s σ _ _ _ v u Q I rx ry ⟨i, j, rfl, rfl, hm, k s3 rfl (Le.refl _) ok _ (.int _)⟩
      · cases hf
    | _ => cases hf
  | _ => cases e <;> cases hf
def opOk : Operator → Bool
  | .Add => true
  | .Sub => true
  | .Mult => true
  | .FloorDiv => true
  | .Mod => true
  | .Pow => true
  | _ => false
theorem op_any {op : Operator} (hK : Z.K = X.K) (h : opOk op = true) : OpR X (binaryOp op) (rBin Z fun h x y => opV h op x y) := by
  cases op with
  | Add => exact op_any_add hK
  | Sub => exact op_any_sub
  | Mult => exact op_any_mul hK
  | FloorDiv => exact op_any_fdiv
  | Mod => exact op_any_mod
  | Pow => exact op_any_pow
  | _ => cases h
end
end Bh
/-! Bh, part 5: comparisons, truth, length, items, slices. -/
namespace Bh
open PySem PySem.Spec PyProof.Rows L2
section
variable {Z : Sta} {s : S3}
theorem scaP_ok {d : D} {p : PyData} {v : V} (h : scaP d = some p) (r : RD Z s d v) : Dp Z.K s.H v p ∧ p.canLay0 = true ∧ p.depth = 0 := by
  cases d with
  | non => cases h; cases r; exact ⟨.non, rfl, rfl⟩
  | bl b => cases h; cases r; exact ⟨.bl b, rfl, rfl⟩
  | int i => cases h; cases r; exact ⟨.int i, rfl, rfl⟩
  | str x =>
    simp only [scaP] at h
    split at h
    · rename_i hx
      cases h; cases r
      exact ⟨.str x, hx, rfl⟩
    · cases h
  | _ => cases h
theorem toPs_ok {n : Nat} (ih : ∀ {d : D} {p : PyData} {v : V}, toP s.h n d = some p → RD Z s d v → Dp Z.K s.H v p ∧ p.canLay0 = true ∧ p.depth ≤ n) :
    ∀ {ds : List D} {ps : List PyData} {vs : List V}, mapO (toP s.h n) ds = some ps → RDs Z s ds vs → DpAll Z.K s.H vs ps ∧ PyData.canLayAll0 ps = true ∧ PyData.depthAll ps ≤ n
  | [], _, _, h, r => by cases h; cases r; exact ⟨.nil, rfl, Nat.zero_le _⟩
  | d :: ds, ps, _, h, r => by
    cases r with
    | cons r1 r2 =>
      simp only [mapO] at h
      cases e1 : toP s.h n d with
      | none => rw [e1] at h; cases h
      | some p =>
        rw [e1] at h
        simp only [Option.bind_some] at h
        cases e2 : mapO (toP s.h n) ds with
        | none => rw [e2] at h; cases h
        | some qs =>
          rw [e2] at h
          cases h
          obtain ⟨a1, a2, a3⟩ := ih e1 r1
          obtain ⟨b1, b2, b3⟩ := toPs_ok ih e2 r2
          refine ⟨.cons a1 b1, ?_, ?_⟩
          · simp only [PyData.canLayAll0, a2, b2, Bool.and_self]
          · simp only [PyData.depthAll]
            omega
theorem SqK.sql {K : PySem.W.Frag} {H : Hp} {a : Addr} {vs : List V} (h : (∃ o, H a = some (.frz o (.lst vs))) ∨ SqK K a vs) : SqL K H a vs := by
  rcases h with ⟨o, h⟩ | h
  · exact .inl (.inr ⟨o, h⟩)
  · exact .inr h
/-- the items of a list, by value -/
theorem lst_at (ok : Ok3 Z s) {d : D} {xs : List D} {v : V} (h : lstOf s.h d = some xs) (r : RDb Z s d v) : ∃ a vs, v = .ref a ∧ SqL Z.K s.H a vs ∧ RDs Z s xs vs := by
  rcases r with r | ⟨a, rfl, _, ⟨ys, vs, rfl, h1, h2⟩ | ⟨ks, kvs, rfl, _⟩⟩
  rotate_left
  · cases h
    exact ⟨a, vs, rfl, SqL.of h1, h2⟩
  · cases h
  cases d with
  | lst ys =>
    cases h
    cases r with
    | @lst a _ vs h1 h2 h3 => exact ⟨a, vs, rfl, SqL.of h1, h3⟩
  | ref n =>
    cases r with
    | @ref _ a hm =>
      simp only [lstOf] at h
      split at h
      · rename_i ys e
        cases h
        obtain ⟨b, hb, vs, h1, h2⟩ := ok.ob n _ e
        rw [hm] at hb; cases hb
        exact ⟨a, vs, rfl, SqL.of h1, h2⟩
      · rename_i ys e
        cases h
        obtain ⟨b, hb, vs, h1, h2⟩ := ok.ob n _ e
        rw [hm] at hb; cases hb
        exact ⟨a, vs, rfl, SqK.sql h1, h2⟩
      · cases h
  | _ => cases h
theorem toP_ok (ok : Ok3 Z s) : ∀ {n : Nat} {d : D} {p : PyData} {v : V}, toP s.h n d = some p → RD Z s d v → Dp Z.K s.H v p ∧ p.canLay0 = true ∧ p.depth ≤ n
  | 0, d, p, v, h, r => by
    obtain ⟨a, b, c⟩ := scaP_ok (show scaP d = some p from h) r
    exact ⟨a, b, by omega⟩
  | n + 1, d, p, v, h, r => by
    have sc : ∀ d : D, scaP d = some p → RD Z s d v → Dp Z.K s.H v p ∧ p.canLay0 = true ∧ p.depth ≤ n + 1 := fun d h r => by
      obtain ⟨a, b, c⟩ := scaP_ok h r
      exact ⟨a, b, by omega⟩
    have lsd : ∀ (xs : List D) (a : Addr) (vs : List V), (mapO (toP s.h n) xs).map PyData.list = some p → SqL Z.K s.H a vs → RDs Z s xs vs → Dp Z.K s.H (.ref a) p ∧ p.canLay0 = true ∧ p.depth ≤ n + 1 := fun xs a vs h h1 h2 => by
      cases e : mapO (toP s.h n) xs with
      | none => rw [e] at h; cases h
      | some ps =>
        rw [e] at h
        cases h
        obtain ⟨b1, b2, b3⟩ := toPs_ok (fun h r => toP_ok ok h r) e h2
        exact ⟨.lst h1 b1, b2, by simp only [PyData.depth]; omega⟩
    cases d with
    | tup xs =>
      cases r with
      | @tup a _ vs h1 h2 =>
        simp only [toP] at h
        cases e : mapO (toP s.h n) xs with
        | none => rw [e] at h; cases h
        | some ps =>
          rw [e] at h
          cases h
          obtain ⟨b1, b2, b3⟩ := toPs_ok (fun h r => toP_ok ok h r) e h2
          exact ⟨.tup h1 b1, b2, by simp only [PyData.depth]; omega⟩
    | lst xs =>
      obtain ⟨a, vs, rfl, h1, h2⟩ := lst_at ok (d := .lst xs) rfl r.b
      exact lsd xs a vs h h1 h2
    | ref k =>
      simp only [toP] at h
      split at h
      · rename_i xs e
        obtain ⟨a, vs, rfl, h1, h2⟩ := lst_at ok (d := .ref k) (xs := xs) (by simp only [lstOf, e]) r.b
        exact lsd xs a vs h h1 h2
      · rename_i xs e
        obtain ⟨a, vs, rfl, h1, h2⟩ := lst_at ok (d := .ref k) (xs := xs) (by simp only [lstOf, e]) r.b
        exact lsd xs a vs h h1 h2
      · cases h
    | non => exact sc .non h r
    | bl b => exact sc (.bl b) h r
    | int b => exact sc (.int b) h r
    | str b => exact sc (.str b) h r
    | dic b => exact sc (.dic b) h r
    | fn b => exact sc (.fn b) h r
theorem toP_okb (ok : Ok3 Z s) {n : Nat} {d : D} {p : PyData} {v : V} (h : toP s.h n d = some p) (r : RDb Z s d v) : Dp Z.K s.H v p ∧ p.canLay0 = true ∧ p.depth ≤ n := by
  rcases r with r | ⟨a, rfl, _, ⟨ys, vs, rfl, h1, h2⟩ | ⟨ks, kvs, rfl, _⟩⟩
  · exact toP_ok ok h r
  · cases n with
    | zero => cases h
    | succ n =>
      simp only [toP] at h
      cases e : mapO (toP s.h n) ys with
      | none => rw [e] at h; cases h
      | some ps =>
        rw [e] at h
        cases h
        obtain ⟨b1, b2, b3⟩ := toPs_ok (fun h r => toP_ok ok h r) e h2
        exact ⟨.lst (SqL.of h1) b1, b2, by simp only [PyData.depth]; omega⟩
  · cases n <;> cases h
theorem shaped_of {p : PyData} {n : Nat} (h1 : p.canLay0 = true) (h2 : p.depth ≤ n) (hn : n ≤ 64) : SeqAt.shaped p = true := by
  unfold SeqAt.shaped
  rw [h1, decide_eq_true (Nat.le_trans h2 hn)] <;> rfl
end
section
variable {X : Cx} {Z : Sta} {W : WX} {c : Calls} {pos : Pos}
/-- a comparison by value -/
def rCmp (Z : Sta) (f : LH → D → D → Option Bool) : R2 := fun x y H Q => ∃ s d e r, s.H = H ∧ Ok3 Z s ∧ RDb Z s d x ∧ RDb Z s e y ∧ f s.h d e = some r ∧ Q (.bl r) s.H
theorem cmp_eq (hK : Z.K = X.K) (hu : X.A.units + 65 < cLine) : OpR X (compareOp .Eq) (rCmp Z deq) := by
  intro pins s σ H x y v u Q I rx ry h
  obtain ⟨s3, d, e, r, rfl, ok, rd, re, hf, q⟩ := h
  unfold deq at hf
  cases e1 : toP s3.h 40 d with
  | none => rw [e1] at hf; cases hf
  | some p =>
    cases e2 : toP s3.h 40 e with
    | none => rw [e1, e2] at hf; cases hf
    | some p2 =>
      rw [e1, e2] at hf
      cases hf
      obtain ⟨a1, a2, a3⟩ := toP_okb ok e1 rd
      obtain ⟨b1, b2, b3⟩ := toP_okb ok e2 re
      exact op_eqD (by omega) pins s σ _ _ _ v u Q I rx ry ⟨p, p2, hK ▸ a1, hK ▸ b1, shaped_of a2 a3 (by decide), shaped_of b2 b3 (by decide), q⟩
theorem cmp_ne (hK : Z.K = X.K) (hu : X.A.units + 65 < cLine) : OpR X (compareOp .NotEq) (rCmp Z fun h x y => (deq h x y).map (!·)) := by
  intro pins s σ H x y v u Q I rx ry h
  obtain ⟨s3, d, e, r, rfl, ok, rd, re, hf, q⟩ := h
  dsimp only at hf
  unfold deq at hf
  cases e1 : toP s3.h 40 d with
  | none => rw [e1] at hf; cases hf
  | some p =>
    cases e2 : toP s3.h 40 e with
    | none => rw [e1, e2] at hf; cases hf
    | some p2 =>
      rw [e1, e2] at hf
      cases hf
      obtain ⟨a1, a2, a3⟩ := toP_okb ok e1 rd
      obtain ⟨b1, b2, b3⟩ := toP_okb ok e2 re
      exact op_neD (by omega) pins s σ _ _ _ v u Q I rx ry ⟨p, p2, hK ▸ a1, hK ▸ b1, shaped_of a2 a3 (by decide), shaped_of b2 b3 (by decide), q⟩
theorem is_non {s : S3} {d : D} {x : V} (r : RDb Z s d x) : decide (x = .non) = decide (d = .non) := by
  rcases r with r | ⟨a, rfl, _, ⟨ys, vs, rfl, h1, h2⟩ | ⟨ks, kvs, rfl, _⟩⟩
  · cases r <;> simp
  · simp
  · simp
theorem cmp_is : OpR X (compareOp .Is) (rCmp Z fun h x y => cmpV h .Is x y) := by
  intro pins s σ H x y v u Q I rx ry h
  obtain ⟨s3, d, e, r, rfl, ok, rd, re, hf, q⟩ := h
  cases e with
  | non =>
    cases re.flat
    simp only [cmpV] at hf
    cases hf
    exact op_isN pins s σ _ _ _ v u Q I rx ry ⟨rfl, by rw [is_non rd]; exact q⟩
  | _ => cases hf
theorem cmp_isnot : OpR X (compareOp .IsNot) (rCmp Z fun h x y => cmpV h .IsNot x y) := by
  intro pins s σ H x y v u Q I rx ry h
  obtain ⟨s3, d, e, r, rfl, ok, rd, re, hf, q⟩ := h
  cases e with
  | non =>
    cases re.flat
    simp only [cmpV] at hf
    cases hf
    exact op_notN pins s σ _ _ _ v u Q I rx ry ⟨rfl, by rw [is_non rd]; exact q⟩
  | _ => cases hf
/-- an order of ints -/
theorem cmp_ord {op : CmpOp} {g : Int → Int → Bool} (ho : OpR X (compareOp op) (rI0 fun i j => .bl (g i j))) (hg : ∀ h x y, cmpV h op x y = match x, y with | .int i, .int j => some (g i j) | _, _ => none) : OpR X (compareOp op) (rCmp Z fun h x y => cmpV h op x y) := by
  intro pins s σ H x y v u Q I rx ry h
  obtain ⟨s3, d, e, r, rfl, ok, rd, re, hf, q⟩ := h
  dsimp only at hf
  rw [hg] at hf
  split at hf
  · cases rd.flat; cases re.flat
    cases hf
    exact ho pins s σ _ _ _ v u Q I rx ry ⟨_, _, rfl, rfl, q⟩
  · cases hf
theorem cmp_lt : OpR X (compareOp .Lt) (rCmp Z fun h x y => cmpV h .Lt x y) := cmp_ord op_lt fun h x y => by cases x <;> cases y <;> rfl
theorem cmp_le : OpR X (compareOp .LtE) (rCmp Z fun h x y => cmpV h .LtE x y) := cmp_ord op_le fun h x y => by cases x <;> cases y <;> rfl
theorem cmp_gt : OpR X (compareOp .Gt) (rCmp Z fun h x y => cmpV h .Gt x y) := cmp_ord op_gt fun h x y => by cases x <;> cases y <;> rfl
theorem cmp_ge : OpR X (compareOp .GtE) (rCmp Z fun h x y => cmpV h .GtE x y) := cmp_ord op_ge fun h x y => by cases x <;> cases y <;> rfl
end
end Bh
/-! Bh, part 6: membership, truth, length, items, slices. -/
namespace Bh
open PySem PySem.Spec PyProof.Rows L2
section
variable {Z : Sta} {s : S3}
theorem keyD_inj {a b : Key} (h : keyD a = keyD b) : a = b := by
  cases a <;> cases b <;> simp [keyD] at h <;> first | (subst h; rfl) | cases h
theorem key_of1 {x : D} (h : isKey1 x = true) : ∃ k, x = keyD k := by
  cases x with
  | int i => exact ⟨.inl i, rfl⟩
  | str z => exact ⟨.inr z, rfl⟩
  | _ => cases h
theorem RDb.key {k : Key} {v : V} (r : RDb Z s (keyD k) v) : v = kV k := by
  cases k with
  | inl i => cases r.flat; rfl
  | inr x => cases r.flat; rfl
theorem RDk.get {ks : List (D × D)} {kvs : List (Key × V)} (r : RDk Z s ks kvs) (k : Key) : (dget ks (keyD k) = none → valV kvs k = none) ∧ ∀ d, dget ks (keyD k) = some d → ∃ v, valV kvs k = some v ∧ RD Z s d v := by
  match r with
  | .nil => exact ⟨fun _ => rfl, fun d h => by cases h⟩
  | .cons (k := k2) (d := d2) (v := v2) (ds := ds) (vs := vs) r1 r2 =>
    have ih := RDk.get r2 k
    by_cases e : k2 = k
    · subst e
      have e1 : dget ((keyD k2, d2) :: ds) (keyD k2) = some d2 := by simp [dget]
      have e2 : valV ((k2, v2) :: vs) k2 = some v2 := valV_pos rfl
      refine ⟨fun h => ?_, fun d h => ?_⟩
      · rw [e1] at h; cases h
      · rw [e1] at h; cases h; exact ⟨v2, e2, r1⟩
    · have e1 : dget ((keyD k2, d2) :: ds) (keyD k) = dget ds (keyD k) := by
        have ne : ¬ keyD k2 = keyD k := fun q => e (keyD_inj q)
        simp [dget, ne]
      have e2 : valV ((k2, v2) :: vs) k = valV vs k := valV_neg e
      rw [e1, e2]
      exact ih
theorem RDk.length {ks : List (D × D)} {kvs : List (Key × V)} (r : RDk Z s ks kvs) : ks.length = kvs.length := by
  match r with
  | .nil => rfl
  | .cons r1 r2 => rw [List.length_cons, List.length_cons, RDk.length r2]
theorem RDk.empty {ks : List (D × D)} {kvs : List (Key × V)} (r : RDk Z s ks kvs) : ks.isEmpty = kvs.isEmpty := by
  match r with
  | .nil => rfl
  | .cons _ _ => rfl
/-- the rows of a dict, by value -/
theorem dic_at (ok : Ok3 Z s) {d : D} {ks : List (D × D)} {v : V} (h : dicOf s.h d = some ks) (r : RDb Z s d v) : ∃ a kvs, v = .ref a ∧ Rd s.H a (.dK kvs) ∧ RDk Z s ks kvs := by
  rcases r with r | ⟨a, rfl, _, ⟨ys, vs, rfl, h1, h2⟩ | ⟨ks, kvs, rfl, h1, h2⟩⟩
  rotate_left
  · cases h
  · cases h
    exact ⟨a, kvs, rfl, .inl h1, h2⟩
  cases d with
  | dic ys =>
    cases h
    cases r with
    | @dic a _ vs h1 h2 h3 => exact ⟨a, vs, rfl, h1, h3⟩
  | ref n =>
    cases r with
    | @ref _ a hm =>
      simp only [dicOf] at h
      split at h
      · rename_i ys e
        cases h
        obtain ⟨b, hb, vs, h1, h2⟩ := ok.ob n _ e
        rw [hm] at hb; cases hb
        exact ⟨a, vs, rfl, .inl h1, h2⟩
      · rename_i ys e
        cases h
        obtain ⟨b, hb, o, vs, h1, h2⟩ := ok.ob n _ e
        rw [hm] at hb; cases hb
        exact ⟨a, vs, rfl, .inr ⟨o, h1⟩, h2⟩
      · cases h
  | _ => cases h
theorem dget_at (ok : Ok3 Z s) {d k : D} {ks : List (D × D)} {v u : V} (h : dicOf s.h d = some ks) (hk : isKey k = true) (r : RDb Z s d v) (rk : RDb Z s k u) : ∃ a o, v = .ref a ∧ DGet s.H a u o ∧ (dget ks k).isSome = o.isSome ∧ ∀ e, dget ks k = some e → ∃ w, o = some w ∧ RD Z s e w := by
  obtain ⟨a, kvs, rfl, h1, h2⟩ := dic_at ok h r
  obtain ⟨key, rfl⟩ := key_of1 hk
  have := rk.key
  subst this
  have g := h2.get key
  refine ⟨a, valV kvs key, rfl, .inl ⟨kvs, key, h1, rfl, rfl⟩, ?_, g.2⟩
  cases e : dget ks (keyD key) with
  | none => rw [g.1 e] <;> rfl
  | some d2 => obtain ⟨w, ew, _⟩ := g.2 d2 e; rw [ew] <;> rfl
theorem memV_some {h : LH} {x : D} {ys : List D} {r : Bool} (e : memV h x ys = some r) : ∃ p bs, toP h 40 x = some p ∧ mapO (toP h 39) ys = some bs ∧ r = bs.any fun b => PyData.eqv b p := by
  unfold memV at e
  cases e1 : toP h 40 x with
  | none => rw [e1] at e; cases e
  | some p =>
    cases e2 : mapO (toP h 39) ys with
    | none => rw [e1, e2] at e; cases e
    | some bs => rw [e1, e2] at e; cases e; exact ⟨p, bs, rfl, rfl, rfl⟩
end
section
variable {X : Cx} {Z : Sta} {W : WX} {c : Calls} {pos : Pos}
def rInT (K : PySem.W.Frag) (neg : Bool) : R2 := fun x y H Q => ∃ (d : PyData) (ds : List PyData), Dp K H x d ∧ (Dp K H y (.list ds) ∨ Dp K H y (.tuple ds)) ∧ d.canLay0 = true ∧ d.depth ≤ 40 ∧ PyData.canLayAll0 ds = true ∧ Q (.bl (if neg then !ds.any fun z => PyData.eqv z d else ds.any fun z => PyData.eqv z d)) H
theorem op_inT (hu : X.A.units + 65 < cLine) : OpR X (compareOp .In) (rInT X.K false) := by
  intro pins s σ H x y v u Q I rx ry h
  obtain ⟨d, ds, hd, he, c1, c2, c3, q⟩ := h
  obtain ⟨as, r1⟩ := Dp.reads I d x v hd rx
  have hr : X.A.units + 1 + min (PyData.depthAll ds) d.depth < cLine := by
    have := Nat.min_le_right (PyData.depthAll ds) d.depth
    omega
  rcases he with he | he
  · obtain ⟨bs, r2⟩ := Dp.reads I (.list ds) y u he ry
    exact SeqAt.in_list_reads r2 r1 c3 c1 hr ⟨.bl _, H, I, rfl, q⟩
  · obtain ⟨bs, r2⟩ := Dp.reads I (.tuple ds) y u he ry
    exact SeqAt.in_tuple_reads r2 r1 c3 c1 hr ⟨.bl _, H, I, rfl, q⟩
theorem op_notInT (hu : X.A.units + 65 < cLine) : OpR X (compareOp .NotIn) (rInT X.K true) := by
  intro pins s σ H x y v u Q I rx ry h
  obtain ⟨d, ds, hd, he, c1, c2, c3, q⟩ := h
  obtain ⟨as, r1⟩ := Dp.reads I d x v hd rx
  have hr : X.A.units + 1 + min (PyData.depthAll ds) d.depth < cLine := by
    have := Nat.min_le_right (PyData.depthAll ds) d.depth
    omega
  rcases he with he | he
  · obtain ⟨bs, r2⟩ := Dp.reads I (.list ds) y u he ry
    exact SeqAt.notIn_list_reads r2 r1 c3 c1 hr ⟨.bl _, H, I, rfl, q⟩
  · obtain ⟨bs, r2⟩ := Dp.reads I (.tuple ds) y u he ry
    exact SeqAt.notIn_tuple_reads r2 r1 c3 c1 hr ⟨.bl _, H, I, rfl, q⟩
/-- the ways in which x in y may be answered -/
theorem inV_cases {s3 : S3} (hK : Z.K = X.K) (ok : Ok3 Z s3) {d e : D} {r : Bool} {x y : V} (hf : inV s3.h d e = some r) (rd : RDb Z s3 d x) (re : RDb Z s3 e y) :
    (∃ cp z, x = .str ⟨#[cp]⟩ ∧ y = .str z ∧ r = decide (cp ∈ z.cps.toList)) ∨ (∃ (p : PyData) (ds : List PyData), Dp X.K s3.H x p ∧ (Dp X.K s3.H y (.list ds) ∨ Dp X.K s3.H y (.tuple ds)) ∧ p.canLay0 = true ∧ p.depth ≤ 40 ∧ PyData.canLayAll0 ds = true ∧ r = ds.any fun z => PyData.eqv z p) ∨
    ∃ a o, y = .ref a ∧ DGet s3.H a x o ∧ r = o.isSome := by
  have mem : ∀ (ys : List D) (a : Addr) (vs : List V), memV s3.h d ys = some r → y = .ref a → SqL Z.K s3.H a vs ∨ SqT Z.K s3.H a vs → RDs Z s3 ys vs → (∃ (p : PyData) (ds : List PyData), Dp X.K s3.H x p ∧ (Dp X.K s3.H y (.list ds) ∨ Dp X.K s3.H y (.tuple ds)) ∧ p.canLay0 = true ∧ p.depth ≤ 40 ∧ PyData.canLayAll0 ds = true ∧ r = ds.any fun z => PyData.eqv z p) := fun ys a vs hm hy hs rs => by
    obtain ⟨p, bs, e1, e2, e3⟩ := memV_some hm
    obtain ⟨a1, a2, a3⟩ := toP_okb ok e1 rd
    obtain ⟨b1, b2, b3⟩ := toPs_ok (fun h r => toP_ok ok h r) e2 rs
    subst hy
    refine ⟨p, bs, hK ▸ a1, ?_, a2, a3, b2, e3⟩
    rcases hs with hs | hs
    · exact .inl (.lst (hK ▸ hs) (hK ▸ b1))
    · exact .inr (.tup (hK ▸ hs) (hK ▸ b1))
  have dic : ∀ (ks : List (D × D)), dicOf s3.h e = some ks → (if isKey d = true then some (dget ks d).isSome else none) = some r → ∃ a o, y = .ref a ∧ DGet s3.H a x o ∧ r = o.isSome := fun ks h1 h2 => by
    split at h2
    · rename_i hk
      obtain ⟨a, o, e1, e2, e3, _⟩ := dget_at ok h1 hk re rd
      exact ⟨a, o, e1, e2, by rw [← e3]; exact (Option.some.inj h2).symm⟩
    · cases h2
  cases e with
  | str b =>
    cases d with
    | str a =>
      simp only [inV] at hf
      split at hf
      · rename_i hl
        cases rd.flat; cases re.flat
        refine .inl ?_
        obtain ⟨⟨cps⟩⟩ := a
        cases cps with
        | nil => cases hl
        | cons cp t =>
          cases t with
          | nil => exact ⟨cp, b, rfl, rfl, (Option.some.inj hf).symm⟩
          | cons _ _ => exact absurd hl (by simp [PySem.Str.length])
      · cases hf
    | _ => cases hf
  | tup ys =>
    cases re.flat with
    | @tup a _ vs h1 h2 => exact .inr (.inl (mem ys a vs hf rfl (.inr h1) h2))
  | lst ys =>
    obtain ⟨a, vs, e1, h1, h2⟩ := lst_at ok (d := .lst ys) rfl re
    exact .inr (.inl (mem ys a vs hf e1 (.inl h1) h2))
  | dic ks => exact .inr (.inr (dic ks rfl hf))
  | ref n =>
    simp only [inV] at hf
    split at hf
    · rename_i ys e
      obtain ⟨a, vs, e1, h1, h2⟩ := lst_at ok (d := .ref n) (xs := ys) (by simp only [lstOf, e]) re
      exact .inr (.inl (mem ys a vs hf e1 (.inl h1) h2))
    · rename_i ys e
      obtain ⟨a, vs, e1, h1, h2⟩ := lst_at ok (d := .ref n) (xs := ys) (by simp only [lstOf, e]) re
      exact .inr (.inl (mem ys a vs hf e1 (.inl h1) h2))
    · rename_i ks e
      exact .inr (.inr (dic ks (by simp only [dicOf, e]) hf))
    · rename_i ks e
      exact .inr (.inr (dic ks (by simp only [dicOf, e]) hf))
    · cases hf
  | _ => cases hf
theorem cmp_in (hK : Z.K = X.K) (hu : X.A.units + 65 < cLine) : OpR X (compareOp .In) (rCmp Z fun h x y => cmpV h .In x y) := by
  intro pins s σ H x y v u Q I rx ry h
  obtain ⟨s3, d, e, r, rfl, ok, rd, re, hf, q⟩ := h
  rcases inV_cases hK ok hf rd re with ⟨cp, z, rfl, rfl, rfl⟩ | ⟨p, ds, h1, h2, h3, h4, h5, rfl⟩ | ⟨a, o, rfl, g, rfl⟩
  · exact op_in_sign pins s σ _ _ _ v u Q I rx ry ⟨cp, z, rfl, rfl, q⟩
  · exact op_inT hu pins s σ _ _ _ v u Q I rx ry ⟨p, ds, h1, h2, h3, h4, h5, q⟩
  · cases ry
    exact d_in (by omega) I g rx fun s' I' => ⟨.bl _, _, I', rfl, q⟩
theorem cmp_notIn (hK : Z.K = X.K) (hu : X.A.units + 65 < cLine) : OpR X (compareOp .NotIn) (rCmp Z fun h x y => cmpV h .NotIn x y) := by
  intro pins s σ H x y v u Q I rx ry h
  obtain ⟨s3, d, e, r, rfl, ok, rd, re, hf, q⟩ := h
  have hf : (inV s3.h d e).map (!·) = some r := hf
  cases e1 : inV s3.h d e with
  | none => rw [e1] at hf; cases hf
  | some r0 =>
    rw [e1] at hf
    cases hf
    rcases inV_cases hK ok e1 rd re with ⟨cp, z, rfl, rfl, rfl⟩ | ⟨p, ds, h1, h2, h3, h4, h5, rfl⟩ | ⟨a, o, rfl, g, rfl⟩
    · exact op_notIn_sign pins s σ _ _ _ v u Q I rx ry ⟨cp, z, rfl, rfl, q⟩
    · exact op_notInT hu pins s σ _ _ _ v u Q I rx ry ⟨p, ds, h1, h2, h3, h4, h5, q⟩
    · cases ry
      exact d_notIn (by omega) I g rx fun s' I' => ⟨.bl _, _, I', rfl, q⟩
theorem cmp_any {op : CmpOp} (hK : Z.K = X.K) (hu : X.A.units + 65 < cLine) : OpR X (compareOp op) (rCmp Z fun h x y => cmpV h op x y) := by
  cases op with
  | Eq => exact cmp_eq hK hu
  | NotEq => exact cmp_ne hK hu
  | Lt => exact cmp_lt
  | LtE => exact cmp_le
  | Gt => exact cmp_gt
  | GtE => exact cmp_ge
  | Is => exact cmp_is
  | IsNot => exact cmp_isnot
  | In => exact cmp_in hK hu
  | NotIn => exact cmp_notIn hK hu
/-! ### truth, length -/
def rTru (Z : Sta) (x : V) (H : Hp) (Q : Bool → Hp → Prop) : Prop := ∃ s d b, s.H = H ∧ Ok3 Z s ∧ RDb Z s d x ∧ truV s.h d = some b ∧ Q b s.H
theorem tru_any (hK : Z.K = X.K) : TruR X (rTru Z) := by
  intro pins s σ H x v Q I rx h
  obtain ⟨s3, d, b, rfl, ok, rd, hf, q⟩ := h
  have lst : ∀ (ys : List D) (a : Addr) (vs : List V), x = .ref a → SqL Z.K s3.H a vs → RDs Z s3 ys vs → b = !ys.isEmpty → wpAny (model X.prog X.w) X.A (truthy v) (TP X pins σ Q) X.xe s := fun ys a vs e1 h1 h2 e2 => by
    subst e1 e2
    exact tru_ok pins s σ _ _ v Q I rx ⟨_, .inl ⟨vs, hK ▸ h1, by rw [h2.nil_iff]⟩, q⟩
  have dic : ∀ (ks : List (D × D)), dicOf s3.h d = some ks → b = !ks.isEmpty → wpAny (model X.prog X.w) X.A (truthy v) (TP X pins σ Q) X.xe s := fun ks h1 h2 => by
    obtain ⟨a, kvs, rfl, g1, g2⟩ := dic_at ok h1 rd
    subst h2
    cases rx
    rw [g2.empty] at q
    exact d_truth I g1 fun s' I' => ⟨_, I', q⟩
  cases d with
  | non => cases rd.flat; cases hf; exact tru_ok pins s σ _ _ v Q I rx ⟨_, rfl, q⟩
  | bl k => cases rd.flat; cases hf; exact tru_ok pins s σ _ _ v Q I rx ⟨_, rfl, q⟩
  | int i => cases rd.flat; cases hf; exact tru_ok pins s σ _ _ v Q I rx ⟨_, rfl, q⟩
  | str z =>
    cases rd.flat
    simp only [truV] at hf
    split at hf
    · rename_i hz
      cases hf
      have e : ((z.length : Int) != 0) = (z.length != 0) := by
        by_cases e0 : z.length = 0
        · rw [e0] <;> rfl
        · have e1 : ((z.length : Int) != 0) = true := by simpa using (show ¬ (z.length : Int) = 0 by omega)
          have e2 : (z.length != 0) = true := by simpa using e0
          rw [e1, e2]
      exact tru_ok pins s σ _ _ v Q I rx ⟨_, ⟨by rw [lim_eq]; exact hz, e.symm⟩, q⟩
    · cases hf
  | tup ys =>
    cases rd.flat with
    | @tup a _ vs h1 h2 =>
      cases hf
      exact tru_ok pins s σ _ _ v Q I rx ⟨_, .inr (.inl ⟨vs, hK ▸ h1, by rw [h2.nil_iff]⟩), q⟩
  | lst ys =>
    obtain ⟨a, vs, e1, h1, h2⟩ := lst_at ok (d := .lst ys) rfl rd
    exact lst ys a vs e1 h1 h2 (Option.some.inj hf).symm
  | dic ks => exact dic ks rfl (Option.some.inj hf).symm
  | ref n =>
    simp only [truV] at hf
    split at hf
    · rename_i ys e
      obtain ⟨a, vs, e1, h1, h2⟩ := lst_at ok (d := .ref n) (xs := ys) (by simp only [lstOf, e]) rd
      exact lst ys a vs e1 h1 h2 (Option.some.inj hf).symm
    · rename_i ys e
      obtain ⟨a, vs, e1, h1, h2⟩ := lst_at ok (d := .ref n) (xs := ys) (by simp only [lstOf, e]) rd
      exact lst ys a vs e1 h1 h2 (Option.some.inj hf).symm
    · rename_i ks e
      exact dic ks (by simp only [dicOf, e]) (Option.some.inj hf).symm
    · rename_i ks e
      exact dic ks (by simp only [dicOf, e]) (Option.some.inj hf).symm
    · cases hf
  | fn i => cases hf
/-- a built-in of values: one argument -/
def rB1 (Z : Sta) (f : LH → D → Option D) : List V → Hp → VK → Prop := fun xs H Q => ∃ x s d r, xs = [x] ∧ s.H = H ∧ Ok3 Z s ∧ RDb Z s d x ∧ f s.h d = some r ∧ ∀ s', s'.h = s.h → Le s s' → Ok3 Z s' → ∀ v, RD Z s' r v → Q v s'.H
theorem call_lenV (hK : Z.K = X.K) : CallR X (.builtin "len") (rB1 Z fun h d => (lenV h d).map .int) := by
  intro pins s σ H xs us Q I rx h
  obtain ⟨x, s3, d, r, rfl, rfl, ok, rd, hf, k⟩ := h
  have hf : (lenV s3.h d).map D.int = some r := hf
  obtain ⟨u, rfl, rx1⟩ := vals1 rx
  cases e0 : lenV s3.h d with
  | none => rw [e0] at hf; cases hf
  | some n =>
    rw [e0] at hf
    cases hf
    have q := k s3 rfl (Le.refl _) ok (.int n) (.int n)
    have lst : ∀ (ys : List D) (a : Addr) (vs : List V), x = .ref a → SqL Z.K s3.H a vs → RDs Z s3 ys vs → n = (ys.length : Int) → wpAny (model X.prog X.w) X.A (call (.builtin "len") [u]) (EP X pins σ Q) X.xe s := fun ys a vs e1 h1 h2 e2 => by
      subst e1 e2
      exact call_len pins s σ _ [.ref a] [u] Q I (.cons rx1 .nil) ⟨.ref a, vs.length, rfl, .inl ⟨vs, hK ▸ h1, rfl⟩, by rw [← h2.length]; exact q⟩
    have dic : ∀ (ks : List (D × D)), dicOf s3.h d = some ks → n = (ks.length : Int) → wpAny (model X.prog X.w) X.A (call (.builtin "len") [u]) (EP X pins σ Q) X.xe s := fun ks h1 h2 => by
      obtain ⟨a, kvs, rfl, g1, g2⟩ := dic_at ok h1 rd
      subst h2
      cases rx1
      rw [g2.length] at q
      exact d_len I g1 fun t s' I' => ⟨.int kvs.length, _, I', ⟨t, rfl⟩, q⟩
    cases d with
    | str z =>
      cases rd.flat
      simp only [lenV] at e0
      split at e0
      · rename_i hz
        cases e0
        exact call_len pins s σ _ [.str z] [u] Q I (.cons rx1 .nil) ⟨.str z, z.length, rfl, ⟨by rw [lim_eq]; exact hz, rfl⟩, q⟩
      · cases e0
    | tup ys =>
      cases rd.flat with
      | @tup a _ vs h1 h2 =>
        cases e0
        exact call_len pins s σ _ [.ref a] [u] Q I (.cons rx1 .nil) ⟨.ref a, vs.length, rfl, .inr ⟨vs, hK ▸ h1, rfl⟩, by rw [← h2.length]; exact q⟩
    | lst ys =>
      obtain ⟨a, vs, e1, h1, h2⟩ := lst_at ok (d := .lst ys) rfl rd
      exact lst ys a vs e1 h1 h2 (Option.some.inj e0).symm
    | dic ks => exact dic ks rfl (Option.some.inj e0).symm
    | ref m =>
      simp only [lenV] at e0
      split at e0
      · rename_i ys e
        obtain ⟨a, vs, e1, h1, h2⟩ := lst_at ok (d := .ref m) (xs := ys) (by simp only [lstOf, e]) rd
        exact lst ys a vs e1 h1 h2 (Option.some.inj e0).symm
      · rename_i ys e
        obtain ⟨a, vs, e1, h1, h2⟩ := lst_at ok (d := .ref m) (xs := ys) (by simp only [lstOf, e]) rd
        exact lst ys a vs e1 h1 h2 (Option.some.inj e0).symm
      · rename_i ks e
        exact dic ks (by simp only [dicOf, e]) (Option.some.inj e0).symm
      · rename_i ks e
        exact dic ks (by simp only [dicOf, e]) (Option.some.inj e0).symm
      · cases e0
    | _ => cases e0
/-! ### items, slices -/
def rIxDic : R2 := fun x y H Q => ∃ a v, x = .ref a ∧ DGet H a y (some v) ∧ Q v H
theorem ix_dic (hu : X.A.units + 1 < cLine) : IxR X rIxDic := by
  intro value slice pins s σ H x y v u Q I rx ry h hs
  obtain ⟨a, z, rfl, g, q⟩ := h
  cases rx
  have hT := dict_typeIs I g
  unfold subscriptTail
  refine wpAny_bind ?_
  rw [getitemInPython_of_ne hT.not_modules]
  refine wpAny_bind (wpAny_specialOf hT PySem.F.slot_dict_getitem.lookup ?_)
  have fin : wpAny (model X.prog X.w) X.A (subscripted slice false (.ref a) u) (fun r s₃ => wpAny (model X.prog X.w) X.A (letTemporaryGo value (.ref a) r >>= fun _ => pure r) (EP X pins σ Q) X.xe s₃) X.xe s := by
    rw [hs]
    exact wpAny_operating (d_getItem hu I g ry fun w' s3 I3 rw' => wpAny_bind (wpAny_letTemporaryGo (wpAny_pure ⟨z, H, I3, rw', q⟩)))
  first
    | exact wpAny_pure (wpAny_bind fin)
    | exact wpAny_bind (wpAny_pure (wpAny_bind fin))
    | exact wpAny_bind fin
theorem RDs.atI {s : S3} {ds : List D} {vs : List V} {i : Int} {d : D} (r : RDs Z s ds vs) (h : L2.atI ds i = some d) : ∃ v, L2.atI vs i = some v ∧ RD Z s d v := by
  unfold L2.atI at h ⊢
  rw [← r.length]
  cases e : ixN ds.length i with
  | none => rw [e] at h; cases h
  | some j =>
    rw [e] at h
    exact r.get h
theorem ix_any (hK : Z.K = X.K) (hu : X.A.units + 1 < cLine) : IxR X (rBin Z fun h x y => ixV h x y) := by
  intro value slice pins s σ H x y v u Q I rx ry h hs
  obtain ⟨s3, d, e, r, rfl, ok, rd, re, hf, k⟩ := h
  have go := k s3 rfl (Le.refl _) ok
  have hf : ixV s3.h d e = some r := hf
  have lst : ∀ (ys : List D) (i : Int) (a : Addr) (vs : List V), x = .ref a → e = .int i → SqL Z.K s3.H a vs → RDs Z s3 ys vs → L2.atI ys i = some r → wpAny (model X.prog X.w) X.A (subscriptTail value slice v u) (EP X pins σ Q) X.xe s := fun ys i a vs e1 e2 h1 h2 h3 => by
    subst e1 e2
    cases re.flat
    obtain ⟨w, ew, rw'⟩ := h2.atI h3
    exact ix_list value slice pins s σ _ _ _ v u Q I rx ry ⟨a, vs, i, w, rfl, rfl, hK ▸ h1, ew, go w rw'⟩ hs
  have dic : ∀ (ks : List (D × D)), dicOf s3.h d = some ks → (if isKey e = true then dget ks e else none) = some r → wpAny (model X.prog X.w) X.A (subscriptTail value slice v u) (EP X pins σ Q) X.xe s := fun ks h1 h2 => by
    split at h2
    · rename_i hk
      obtain ⟨a, o, e1, e2, e3, e4⟩ := dget_at ok h1 hk rd re
      obtain ⟨w, ew, rw'⟩ := e4 r h2
      subst e1 ew
      exact ix_dic hu value slice pins s σ _ _ _ v u Q I rx ry ⟨a, w, rfl, e2, go w rw'⟩ hs
    · cases h2
  cases d with
  | tup ys =>
    cases e with
    | int i =>
      cases rd.flat with
      | @tup a _ vs h1 h2 =>
        cases re.flat
        obtain ⟨w, ew, rw'⟩ := h2.atI hf
        exact ix_tup value slice pins s σ _ _ _ v u Q I rx ry ⟨a, vs, i, w, rfl, rfl, hK ▸ h1, ew, go w rw'⟩ hs
    | _ => cases hf
  | lst ys =>
    cases e with
    | int i =>
      obtain ⟨a, vs, e1, h1, h2⟩ := lst_at ok (d := .lst ys) rfl rd
      exact lst ys i a vs e1 rfl h1 h2 hf
    | _ => cases hf
  | str z =>
    cases e with
    | int i =>
      cases rd.flat; cases re.flat
      simp only [ixV] at hf
      split at hf
      · rename_i hz
        cases e1 : L2.atI z.cps.toList i with
        | none => rw [e1] at hf; cases hf
        | some cp =>
          rw [e1] at hf
          cases hf
          exact ix_str value slice pins s σ _ _ _ v u Q I rx ry ⟨z, i, cp, rfl, rfl, by rw [lim_eq]; exact hz, e1, go _ (.str _)⟩ hs
      · cases hf
    | _ => cases hf
  | dic ks => exact dic ks rfl (by cases e <;> exact hf)
  | ref n =>
    simp only [ixV] at hf
    split at hf
    · rename_i ys i e1 _
      obtain ⟨a, vs, e2, h1, h2⟩ := lst_at ok (d := .ref n) (xs := ys) (by simp only [lstOf, e1]) rd
      exact lst ys i a vs e2 rfl h1 h2 hf
    · rename_i ys i e1 _
      obtain ⟨a, vs, e2, h1, h2⟩ := lst_at ok (d := .ref n) (xs := ys) (by simp only [lstOf, e1]) rd
      exact lst ys i a vs e2 rfl h1 h2 hf
    · rename_i ks e1 _
      exact dic ks (by simp only [dicOf, e1]) hf
    · rename_i ks e1 _
      exact dic ks (by simp only [dicOf, e1]) hf
    · cases hf
  | _ => cases e <;> cases hf
/-- slices whose value is no new list -/
def rSl (Z : Sta) : V → Option Int → Option Int → Hp → VK → Prop := fun x lo hi H Q => ∃ s d r, s.H = H ∧ Ok3 Z s ∧ RDb Z s d x ∧ slV d lo hi = some r ∧ ∀ s', s'.h = s.h → Le s s' → Ok3 Z s' → ∀ v, RD Z s' r v → Q v s'.H
theorem sl_any (hK : Z.K = X.K) : SlR X (rSl Z) := by
  intro pins s σ H x v vl vu lo hi sl Q I rx hs pl pu h
  obtain ⟨s3, d, r, rfl, ok, rd, hf, k⟩ := h
  cases d with
  | tup ys =>
    cases hf
    cases rd.flat with
    | @tup a _ vs h1 h2 =>
      refine sl_tupA pins s σ _ _ v vl vu lo hi sl Q I rx hs pl pu ⟨a, vs, rfl, hK ▸ h1, fun e => ?_, fun _ p hp => ?_⟩
      · refine k s3 rfl (Le.refl _) ok _ (.tup h1 ?_)
        have : cutA ys lo hi = ys := by
          unfold cutA
          rw [h2.length, e.1, e.2, List.drop_zero, Nat.sub_zero]
          exact List.take_of_length_le (by rw [h2.length]; exact Nat.le_refl _)
        rw [this]
        exact h2
      · have l := Le.tmp (o := .tup (cutV vs lo hi)) hp
        exact k ⟨s3.m, s3.h, upd s3.H p (.tup (cutV vs lo hi)), s3.pr, s3.xc⟩ rfl l (ok.tmp hp) _ (.tup (SqT.of upd_same) ((h2.cut lo hi).le ok l))
  | str z =>
    simp only [slV] at hf
    split at hf
    · rename_i hz
      cases hf; cases rd.flat
      exact sl_str pins s σ _ _ v vl vu lo hi sl Q I rx hs pl pu ⟨z, rfl, by rw [lim_eq]; exact hz, k s3 rfl (Le.refl _) ok _ (.str _)⟩
    · cases hf
  | _ => cases hf
end
end Bh
/-! Bh, part 7: operators on lists; tests, displays, items, slices as expressions. -/
namespace Bh
open PySem PySem.Spec PyProof.Rows L2
section
variable {X : Cx} {Z : Sta} {W : WX} {c : Calls} {pos : Pos}
theorem lstX_at {s : S3} (ok : Ok3 Z s) {d : D} {xs : List D} {v : V} (h : lstX s.h d = some xs) (r : RDb Z s d v) : ∃ a vs, v = .ref a ∧ s.H a = some (.lst vs) ∧ RDs Z s xs vs := by
  rcases r with r | ⟨a, rfl, _, ⟨ys, vs, rfl, h1, h2⟩ | ⟨ks, kvs, rfl, _⟩⟩
  · cases d with
    | lst ys =>
      cases h
      cases r with
      | @lst a _ vs h1 h2 h3 => exact ⟨a, vs, rfl, h1, h3⟩
    | ref n =>
      cases r with
      | @ref _ a hm =>
        simp only [lstX] at h
        split at h
        · rename_i ys e
          cases h
          obtain ⟨b, hb, vs, h1, h2⟩ := ok.ob n _ e
          rw [hm] at hb; cases hb
          exact ⟨a, vs, rfl, h1, h2⟩
        · cases h
    | _ => cases h
  · cases h
    exact ⟨a, vs, rfl, h1, h2⟩
  · cases h
/-- a new list -/
theorem RD.newL {s : S3} (ok : Ok3 Z s) {p : Addr} {xs : List D} {vs : List V} (hp : s.H p = none) (r : RDs Z s xs vs) : RD Z ⟨s.m, s.h, upd s.H p (.lst vs), s.pr, s.xc⟩ (.lst xs) (.ref p) :=
  .lst upd_same (nmv_tmp ok hp) (r.le ok (Le.tmp hp))
theorem op_anyL (op : Operator) : OpR X (binaryOp op) (rBin Z fun h x y => opLs h op x y) := by
  intro pins s σ H x y v u Q I rx ry h
  obtain ⟨s3, d, e, r, rfl, ok, rd, re, hf, k⟩ := h
  have hf : opLs s3.h op d e = some r := hf
  cases op with
  | Add =>
    simp only [opLs] at hf
    cases e1 : lstX s3.h d with
    | none => rw [e1] at hf; cases hf
    | some xs =>
      cases e2 : lstX s3.h e with
      | none => rw [e1, e2] at hf; cases hf
      | some ys =>
        rw [e1, e2] at hf
        simp only [Option.bind_some] at hf
        split at hf
        · rename_i hl
          cases hf
          obtain ⟨a, vs, rfl, h1, h2⟩ := lstX_at ok e1 rd
          obtain ⟨b, us, rfl, g1, g2⟩ := lstX_at ok e2 re
          refine op_cat pins s σ _ _ _ v u Q I rx ry ⟨a, b, vs, us, rfl, rfl, h1, g1, by rw [lim_eq, ← h2.length, ← g2.length]; exact hl, fun p hp => ?_⟩
          exact k ⟨s3.m, s3.h, upd s3.H p (.lst (vs ++ us)), s3.pr, s3.xc⟩ rfl (Le.tmp hp) (ok.tmp hp) _ (RD.newL ok hp (h2.app g2))
        · cases hf
  | Mult =>
    cases e with
    | int j =>
      simp only [opLs] at hf
      cases e1 : lstX s3.h d with
      | none => rw [e1] at hf; cases hf
      | some xs =>
        rw [e1] at hf
        simp only [Option.bind_some] at hf
        split at hf
        · rename_i hl
          cases hf
          cases re.flat
          obtain ⟨a, vs, rfl, h1, h2⟩ := lstX_at ok e1 rd
          refine op_rep pins s σ _ _ _ v u Q I rx ry ⟨a, j, vs, rfl, rfl, h1, by omega, by omega, by rw [lim_eq, ← h2.length]; exact hl.2.2, fun p hp => ?_⟩
          exact k ⟨s3.m, s3.h, upd s3.H p (.lst (List.replicate j.toNat vs).flatten), s3.pr, s3.xc⟩ rfl (Le.tmp hp) (ok.tmp hp) _ (RD.newL ok hp (h2.flat _))
        · cases hf
    | _ => cases hf
  | _ => cases hf
theorem op_all {op : Operator} (hK : Z.K = X.K) (ho : opOk op = true) : OpR X (binaryOp op) (rBin Z fun h x y => opW h op x y) := by
  intro pins s σ H x y v u Q I rx ry h
  obtain ⟨s3, d, e, r, hH, ok, rd, re, hf, k⟩ := h
  have hf : opW s3.h op d e = some r := hf
  unfold opW at hf
  split at hf
  · rename_i r' e1
    cases hf
    exact op_any hK ho pins s σ H x y v u Q I rx ry ⟨s3, d, e, r, hH, ok, rd, re, e1, k⟩
  · exact op_anyL op pins s σ H x y v u Q I rx ry ⟨s3, d, e, r, hH, ok, rd, re, hf, k⟩
theorem sl_lists (hK : Z.K = X.K) {x : V} : SlR X (fun x lo hi H Q => ∃ s d xs, s.H = H ∧ Ok3 Z s ∧ RDb Z s d x ∧ lstOf s.h d = some xs ∧ ∀ s', s'.h = s.h → Le s s' → Ok3 Z s' → ∀ v, RD Z s' (.lst (cutA xs lo hi)) v → Q v s'.H) := by
  intro pins s σ H x v vl vu lo hi sl Q I rx hs pl pu h
  obtain ⟨s3, d, xs, rfl, ok, rd, hf, k⟩ := h
  obtain ⟨a, vs, rfl, h1, h2⟩ := lst_at ok hf rd
  refine sl_list pins s σ _ _ v vl vu lo hi sl Q I rx hs pl pu ⟨a, vs, rfl, hK ▸ h1, fun p hp => ?_⟩
  exact k ⟨s3.m, s3.h, upd s3.H p (.lst (cutV vs lo hi)), s3.pr, s3.xc⟩ rfl (Le.tmp hp) (ok.tmp hp) _ (RD.newL ok hp (h2.cut lo hi))
def rSlW (Z : Sta) : V → Option Int → Option Int → Hp → VK → Prop := fun x lo hi H Q => ∃ s d r, s.H = H ∧ Ok3 Z s ∧ RDb Z s d x ∧ slW s.h d lo hi = some r ∧ ∀ s', s'.h = s.h → Le s s' → Ok3 Z s' → ∀ v, RD Z s' r v → Q v s'.H
theorem sl_all (hK : Z.K = X.K) : SlR X (rSlW Z) := by
  intro pins s σ H x v vl vu lo hi sl Q I rx hs pl pu h
  obtain ⟨s3, d, r, hH, ok, rd, hf, k⟩ := h
  unfold slW at hf
  split at hf
  · rename_i r' e1
    cases hf
    exact sl_any hK pins s σ H x v vl vu lo hi sl Q I rx hs pl pu ⟨s3, d, r, hH, ok, rd, e1, k⟩
  · cases e2 : lstOf s3.h d with
    | none => rw [e2] at hf; cases hf
    | some xs =>
      rw [e2] at hf
      cases hf
      exact sl_lists (x := x) hK pins s σ H x v vl vu lo hi sl Q I rx hs pl pu ⟨s3, d, xs, hH, ok, rd, e2, k⟩
end
/-! ### combinators -/
def bBinW (op : Operator) (a b : DE) : DE := fun c σ h => (a c σ h).bind fun x h1 => (b c σ h1).bind fun y h2 => optO (opW h2 op x y) h2
def bCmp (op : CmpOp) (a b : DE) : DT := fun c σ h => (a c σ h).bind fun x h1 => (b c σ h1).bind fun y h2 => optO (cmpV h2 op x y) h2
def bChain (o1 o2 : CmpOp) (a b d : DE) : DT := fun c σ h => (a c σ h).bind fun x h1 => (b c σ h1).bind fun y h2 => (optO (cmpV h2 o1 x y) h2).bind fun k h3 =>
  if k = true then (d c σ h3).bind fun z h4 => optO (cmpV h4 o2 y z) h4 else .ok false h3
def bTru (a : DE) : DT := fun c σ h => (a c σ h).bind fun x h1 => optO (truV h1 x) h1
def bNotT (a : DT) : DT := fun c σ h => (a c σ h).bind fun k h1 => .ok (!k) h1
def bAndT (a b : DT) : DT := fun c σ h => (a c σ h).bind fun k h1 => if k = true then b c σ h1 else .ok false h1
def bOrT (a b : DT) : DT := fun c σ h => (a c σ h).bind fun k h1 => if k = true then .ok true h1 else b c σ h1
def bBl (t : DT) : DE := fun c σ h => (t c σ h).bind fun k h1 => .ok (.bl k) h1
def bAndV (a b : DE) : DE := fun c σ h => (a c σ h).bind fun x h1 => (optO (truB h1 x) h1).bind fun k h2 => if k = true then b c σ h2 else .ok x h2
def bOrV (a b : DE) : DE := fun c σ h => (a c σ h).bind fun x h1 => (optO (truB h1 x) h1).bind fun k h2 => if k = true then .ok x h2 else b c σ h2
def bNotV (a : DE) : DE := fun c σ h => (a c σ h).bind fun x h1 => (optO (truB h1 x) h1).bind fun k h2 => .ok (.bl (!k)) h2
def bIf (t : DT) (a b : DE) : DE := fun c σ h => (t c σ h).bind fun k h1 => if k = true then a c σ h1 else b c σ h1
def bNil : DEs := fun _ _ h => .ok [] h
def bCons (a : DE) (r : DEs) : DEs := fun c σ h => (a c σ h).bind fun x h1 => (r c σ h1).bind fun xs h2 => .ok (x :: xs) h2
def bTup (r : DEs) : DE := fun c σ h => (r c σ h).bind fun xs h1 => .ok (.tup xs) h1
def bLstV (r : DEs) : DE := fun c σ h => (r c σ h).bind fun xs h1 => .ok (.lst xs) h1
def bIx (a b : DE) : DE := fun c σ h => (a c σ h).bind fun x h1 => (b c σ h1).bind fun y h2 => optO (ixV h2 x y) h2
abbrev DO := Calls → DSt → LH → Out (Option Int)
def bNoPart : DO := fun _ _ h => .ok none h
def bPart (a : DE) : DO := fun c σ h => (a c σ h).bind fun x h1 => match x with | .int i => .ok (some i) h1 | _ => .bad
def bSlice (a : DE) (lo hi : DO) : DE := fun c σ h => (a c σ h).bind fun x h1 => (lo c σ h1).bind fun l h2 => (hi c σ h2).bind fun u h3 => optO (slW h3 x l u) h3
def tPO (Z : Sta) (W : WX) (e : DSt → LH → Out (Option Int)) : TO := fun σ H Q => ∃ s σL, s.H = H ∧ Ok3 Z s ∧ RSt Z s σL σ ∧ PostV Z s (e σL s.h) (fun o s' => Q o s'.H) (EE Z W σ)
section
variable {X : Cx} {Z : Sta} {W : WX} {c : Calls} {pos : Pos}
theorem post_optB {α : Type} {s : S3} {o : Option α} {R : α → S3 → Prop} {E : Nat → List D → S3 → Prop} (h : PostV Z s (optO o s.h) R E) : ∃ d, o = some d ∧ ∀ s', s'.h = s.h → Le s s' → Ok3 Z s' → R d s' := by
  cases o with
  | none => exact h.elim
  | some d => exact ⟨d, rfl, h⟩
theorem sd_binW {op : Operator} {a b : Expr} {ea eb : DE} (hK : Z.K = X.K) (hop : opOk op = true) (ha : PE X a (tO Z W (ea c))) (hb : PE X b (tO Z W (eb c))) : PE X (.BinOp a op b pos) (tE Z W (bBinW op ea eb c)) := by
  refine (pe_op (op_all hK hop) ha hb).imp fun σ H Q t => ?_
  refine tO.bind (e := ea c) (f := fun σ x h1 => (eb c σ h1).bind fun y h2 => optO (opW h2 op x y) h2) t fun s σL d v ok rs r p => ?_
  refine ⟨s, σL, rfl, ok, rs, p.bind.mono (fun e s' l k q u ru => ?_) fun _ _ _ _ _ q => q⟩
  obtain ⟨z, ez, hz⟩ := post_opt q
  exact ⟨s', d, e, z, rfl, k, r.le ok l, ru, ez, hz⟩
/-- a comparison's two operands -/
theorem tO_cmp {op : CmpOp} {ea eb : DE} {σ : L2.St} {H : Hp} {Q : VK} {R : Bool → S3 → Prop} (t : ∃ s σL, s.H = H ∧ Ok3 Z s ∧ RSt Z s σL σ ∧ PostV Z s (bCmp op ea eb c σL s.h) R (EE Z W σ)) (hR : ∀ b s, Ok3 Z s → R b s → Q (.bl b) s.H) :
    tOp (rCmp Z fun h x y => cmpV h op x y) (tO Z W (ea c)) (tO Z W (eb c)) σ H Q := by
  refine tO.bind (e := ea c) (f := fun σ x h1 => (eb c σ h1).bind fun y h2 => optO (cmpV h2 op x y) h2) t fun s σL d v ok rs r p => ?_
  refine ⟨s, σL, rfl, ok, rs, p.bind.mono (fun e s' l k q u ru => ?_) fun _ _ _ _ _ q => q⟩
  obtain ⟨z, ez, hz⟩ := post_optB q
  exact ⟨s', d, e, z, rfl, k, r.le ok l, ru, ez, hR z s' k (hz s' rfl (Le.refl _) k)⟩
theorem sd_cmp {op : CmpOp} {a b : Expr} {ea eb : DE} (hK : Z.K = X.K) (hu : X.A.units + 65 < cLine) (hm : behindInMarks op b = false) (ha : PE X a (tO Z W (ea c))) (hb : PE X b (tO Z W (eb c))) : PE X (.Compare a [op] [b] pos) (tE Z W (bBl (bCmp op ea eb) c)) := by
  refine (pe_cmpR (cmp_any hK hu) ha hb hm).imp fun σ H Q t => ?_
  obtain ⟨s, σL, e1, ok, rs, p⟩ := t
  exact tO_cmp ⟨s, σL, e1, ok, rs, p.bind⟩ fun b s' ok' q => q s' rfl (Le.refl _) ok' _ (.bl b)
theorem st_cmp {op : CmpOp} {a b : Expr} {ea eb : DE} (hK : Z.K = X.K) (hu : X.A.units + 65 < cLine) (hm : behindInMarks op b = false) (ha : PE X a (tO Z W (ea c))) (hb : PE X b (tO Z W (eb c))) : PT X (.Compare a [op] [b] pos) (tB_ Z W (bCmp op ea eb c)) := by
  refine (pt_cmpR (cmp_any hK hu) ha hb hm).imp fun σ H Q t => ?_
  exact tO_cmp t fun b s' ok' q => ⟨b, rfl, q⟩
theorem tO_chain {o1 o2 : CmpOp} {ea eb ed : DE} {σ : L2.St} {H : Hp} {Q : VK} {R : Bool → S3 → Prop} (t : ∃ s σL, s.H = H ∧ Ok3 Z s ∧ RSt Z s σL σ ∧ PostV Z s (bChain o1 o2 ea eb ed c σL s.h) R (EE Z W σ)) (hR : ∀ b s, Ok3 Z s → R b s → Q (.bl b) s.H) :
    tChain (rCmp Z fun h x y => cmpV h o1 x y) (rCmp Z fun h x y => cmpV h o2 x y) (tO Z W (ea c)) (tO Z W (eb c)) (tO Z W (ed c)) σ H Q := by
  refine tO.bind (e := ea c) (f := fun σ x h1 => (eb c σ h1).bind fun y h2 => (optO (cmpV h2 o1 x y) h2).bind fun k h3 => if k = true then (ed c σ h3).bind fun z h4 => optO (cmpV h4 o2 y z) h4 else .ok false h3) t fun s σL d v ok rs r p => ?_
  refine ⟨s, σL, rfl, ok, rs, p.bind.mono (fun e s1 l1 ok1 q u ru => ?_) fun _ _ _ _ _ q => q⟩
  obtain ⟨k, ek, hk⟩ := post_optB q.bind
  have g := hk s1 rfl (Le.refl _) ok1
  refine ⟨s1, d, e, k, rfl, ok1, r.le ok l1, ru, ek, k, rfl, ?_⟩
  cases k with
  | false => exact hR false s1 ok1 (g s1 rfl (Le.refl _) ok1)
  | true =>
    refine ⟨s1, σL, rfl, ok1, rs.le ok l1, (PostV.bind (o := ed c σL s1.h) g).mono (fun z s2 l2 ok2 q2 w rw' => ?_) fun _ _ _ _ _ q => q⟩
    obtain ⟨k2, ek2, hk2⟩ := post_optB q2
    exact ⟨s2, e, z, k2, rfl, ok2, ru.le ok1 l2, rw', ek2, hR k2 s2 ok2 (hk2 s2 rfl (Le.refl _) ok2)⟩
theorem sd_chain {o1 o2 : CmpOp} {a b d : Expr} {ea eb ed : DE} (hK : Z.K = X.K) (hu : X.A.units + 65 < cLine) (hm : lastMarks [o1, o2] [b, d] = false) (ha : PE X a (tO Z W (ea c))) (hb : PE X b (tO Z W (eb c))) (hd : PE X d (tO Z W (ed c))) :
    PE X (.Compare a [o1, o2] [b, d] pos) (tE Z W (bBl (bChain o1 o2 ea eb ed) c)) := by
  refine (pe_chain (cmp_any hK hu) (cmp_any hK hu) ha hb hd hm).imp fun σ H Q t => ?_
  obtain ⟨s, σL, e1, ok, rs, p⟩ := t
  exact tO_chain ⟨s, σL, e1, ok, rs, p.bind⟩ fun b s' ok' q => q s' rfl (Le.refl _) ok' _ (.bl b)
theorem st_chain {o1 o2 : CmpOp} {a b d : Expr} {ea eb ed : DE} (hK : Z.K = X.K) (hu : X.A.units + 65 < cLine) (hm : lastMarks [o1, o2] [b, d] = false) (ha : PE X a (tO Z W (ea c))) (hb : PE X b (tO Z W (eb c))) (hd : PE X d (tO Z W (ed c))) :
    PT X (.Compare a [o1, o2] [b, d] pos) (tB_ Z W (bChain o1 o2 ea eb ed c)) := by
  refine (pt_chain (cmp_any hK hu) (cmp_any hK hu) ha hb hd hm).imp fun σ H Q t => ?_
  exact tO_chain t fun b s' ok' q => ⟨b, rfl, q⟩
/-! ### truth -/
theorem pt_truthR {r : V → Hp → (Bool → Hp → Prop) → Prop} {a : Expr} {ta : TE} (hr : TruR X r) (ha : PE X a ta) (he : ∀ whole, isTrue a X.env whole = (do let v ← whole; standAt a.pos; holding [v] (truthy v))) : PT X a (fun σ H Q => ta σ H fun x H' => r x H' Q) :=
  ⟨fun pins s σ _ Q I h => isTrue_plain (thn (ha.run pins s σ _ _ I h) fun v s1 ⟨x, H1, I1, r1, q1⟩ => hr pins s1 σ H1 x v Q I1 r1 q1) (he _)⟩
theorem st_tru {a : Expr} {ea : DE} (hK : Z.K = X.K) (ha : PE X a (tO Z W (ea c))) (he : ∀ whole, isTrue a X.env whole = (do let v ← whole; standAt a.pos; holding [v] (truthy v))) : PT X a (tB_ Z W (bTru ea c)) := by
  refine (pt_truthR (tru_any (Z := Z) hK) ha he).imp fun σ H Q t => ?_
  refine tO.bind (e := ea c) (f := fun σ x h1 => optO (truV h1 x) h1) t fun s σL d v ok rs r p => ?_
  obtain ⟨k, ek, hk⟩ := post_optB p
  exact ⟨s, d, k, rfl, ok, r, ek, hk s rfl (Le.refl _) ok⟩
theorem tB_bind {α : Type} {e : DSt → LH → Out Bool} {f : DSt → Bool → LH → Out α} {R : α → S3 → Prop} {Q' : Bool → Hp → Prop} {σ : L2.St} {H : Hp} (h : ∃ s σL, s.H = H ∧ Ok3 Z s ∧ RSt Z s σL σ ∧ PostV Z s ((e σL s.h).bind fun d h1 => f σL d h1) R (EE Z W σ))
    (k : ∀ s σL d, Ok3 Z s → RSt Z s σL σ → PostV Z s (f σL d s.h) R (EE Z W σ) → Q' d s.H) : tB_ Z W e σ H Q' := by
  obtain ⟨s, σL, e1, ok, rs, p⟩ := h
  exact ⟨s, σL, e1, ok, rs, p.bind.mono (fun d s' l k' q => k s' σL d k' (rs.le ok l) q) fun _ _ _ _ _ q => q⟩
theorem st_not {a : Expr} {ea : DT} (ha : PT X a (tB_ Z W (ea c))) : PT X (.UnaryOp .Not a pos) (tB_ Z W (bNotT ea c)) := by
  refine (pt_not ha).imp fun σ H Q t => ?_
  refine tB_bind (e := ea c) (f := fun _ k h1 => .ok (!k) h1) t fun s σL d ok rs p => ?_
  exact p s rfl (Le.refl _) ok
theorem tAnd_ok {ea eb : DT} {σ : L2.St} {H : Hp} {Q : Bool → Hp → Prop} (t : tB_ Z W (bAndT ea eb c) σ H Q) : tAnd (tB_ Z W (ea c)) (tB_ Z W (eb c)) σ H Q := by
  refine tB_bind (e := ea c) (f := fun σ k h1 => if k = true then eb c σ h1 else .ok false h1) t fun s σL d ok rs p => ?_
  cases d with
  | false => exact p s rfl (Le.refl _) ok
  | true => exact ⟨s, σL, rfl, ok, rs, p⟩
theorem tOr_ok {ea eb : DT} {σ : L2.St} {H : Hp} {Q : Bool → Hp → Prop} (t : tB_ Z W (bOrT ea eb c) σ H Q) : tOr (tB_ Z W (ea c)) (tB_ Z W (eb c)) σ H Q := by
  refine tB_bind (e := ea c) (f := fun σ k h1 => if k = true then .ok true h1 else eb c σ h1) t fun s σL d ok rs p => ?_
  cases d with
  | true => exact p s rfl (Le.refl _) ok
  | false => exact ⟨s, σL, rfl, ok, rs, p⟩
theorem sw_and1 {a : Expr} {ea : DT} (ha : PT X a (tB_ Z W (ea c))) : PW X (.BoolOp .And [a] pos) (tB_ Z W (ea c)) := pw_and1 ha
theorem sw_or1 {a : Expr} {ea : DT} (ha : PT X a (tB_ Z W (ea c))) : PW X (.BoolOp .Or [a] pos) (tB_ Z W (ea c)) := pw_or1 ha
theorem sw_and {a b : Expr} {r : List Expr} {ea eb : DT} (ha : PT X a (tB_ Z W (ea c))) (hb : PW X (.BoolOp .And (b :: r) pos) (tB_ Z W (eb c))) : PW X (.BoolOp .And (a :: b :: r) pos) (tB_ Z W (bAndT ea eb c)) := (pw_and ha hb).imp fun _ _ _ t => tAnd_ok t
theorem sw_or {a b : Expr} {r : List Expr} {ea eb : DT} (ha : PT X a (tB_ Z W (ea c))) (hb : PW X (.BoolOp .Or (b :: r) pos) (tB_ Z W (eb c))) : PW X (.BoolOp .Or (a :: b :: r) pos) (tB_ Z W (bOrT ea eb c)) := (pw_or ha hb).imp fun _ _ _ t => tOr_ok t
/-! ### and, or, not as values -/
theorem truB_ok {s : S3} (hK : Z.K = X.K) (ok : Ok3 Z s) {d : D} {b : Bool} {x : V} (h : truB s.h d = some b) (r : RD Z s d x) : TruV X.K x s.H b := by
  have lst : ∀ (ys : List D), lstOf s.h d = some ys → b = !ys.isEmpty → TruV X.K x s.H b := fun ys h1 h2 => by
    obtain ⟨a, vs, rfl, g1, g2⟩ := lst_at ok h1 r.b
    subst h2
    exact .inl ⟨vs, hK ▸ g1, by rw [g2.nil_iff]⟩
  cases d with
  | non => cases r; cases h; rfl
  | bl k => cases r; cases h; rfl
  | int i => cases r; cases h; rfl
  | str z =>
    cases r
    simp only [truB, truV] at h
    split at h
    · rename_i hz
      cases h
      have e : ((z.length : Int) != 0) = (z.length != 0) := by
        by_cases e0 : z.length = 0
        · rw [e0] <;> rfl
        · have e1 : ((z.length : Int) != 0) = true := by simpa using (show ¬ (z.length : Int) = 0 by omega)
          have e2 : (z.length != 0) = true := by simpa using e0
          rw [e1, e2]
      exact ⟨by rw [lim_eq]; exact hz, e.symm⟩
    · cases h
  | tup ys =>
    cases r with
    | @tup a _ vs h1 h2 =>
      cases h
      exact .inr (.inl ⟨vs, hK ▸ h1, by rw [h2.nil_iff]⟩)
  | lst ys => exact lst ys rfl (Option.some.inj h).symm
  | ref n =>
    simp only [truB] at h
    split at h
    · rename_i ys e
      exact lst ys (by simp only [lstOf, e]) (Option.some.inj h).symm
    · rename_i ys e
      exact lst ys (by simp only [lstOf, e]) (Option.some.inj h).symm
    · cases h
  | _ => cases h
theorem sd_orV {a b : Expr} {r : List Expr} {ea eb : DE} (hK : Z.K = X.K) (ha : PE X a (tE Z W (ea c))) (hb : PE X (.BoolOp .Or (b :: r) pos) (tE Z W (eb c))) : PE X (.BoolOp .Or (a :: b :: r) pos) (tE Z W (bOrV ea eb c)) := by
  refine (pe_orT ha hb).imp fun σ H Q t => ?_
  refine tE.bind (e := ea c) (f := fun σ x h1 => (optO (truB h1 x) h1).bind fun k h2 => if k = true then .ok x h2 else eb c σ h2) t fun s σL d v ok rs r p => ?_
  obtain ⟨k, ek, hk⟩ := post_optB p.bind
  have g := hk s rfl (Le.refl _) ok
  refine ⟨k, truB_ok hK ok ek r, ?_⟩
  cases k with
  | true => exact g s rfl (Le.refl _) ok v r
  | false => exact ⟨s, σL, rfl, ok, rs, g⟩
theorem sd_andV {a b : Expr} {r : List Expr} {ea eb : DE} (hK : Z.K = X.K) (ha : PE X a (tE Z W (ea c))) (hb : PE X (.BoolOp .And (b :: r) pos) (tE Z W (eb c))) : PE X (.BoolOp .And (a :: b :: r) pos) (tE Z W (bAndV ea eb c)) := by
  refine (pe_andT ha hb).imp fun σ H Q t => ?_
  refine tE.bind (e := ea c) (f := fun σ x h1 => (optO (truB h1 x) h1).bind fun k h2 => if k = true then eb c σ h2 else .ok x h2) t fun s σL d v ok rs r p => ?_
  obtain ⟨k, ek, hk⟩ := post_optB p.bind
  have g := hk s rfl (Le.refl _) ok
  refine ⟨k, truB_ok hK ok ek r, ?_⟩
  cases k with
  | false => exact g s rfl (Le.refl _) ok v r
  | true => exact ⟨s, σL, rfl, ok, rs, g⟩
theorem sd_notV {a : Expr} {ea : DE} (hK : Z.K = X.K) (ha : PE X a (tE Z W (ea c))) : PE X (.UnaryOp .Not a pos) (tE Z W (bNotV ea c)) := by
  refine (pe_notT ha).imp fun σ H Q t => ?_
  refine tE.bind (e := ea c) (f := fun σ x h1 => (optO (truB h1 x) h1).bind fun k h2 => .ok (.bl (!k)) h2) t fun s σL d v ok rs r p => ?_
  obtain ⟨k, ek, hk⟩ := post_optB p.bind
  have g := hk s rfl (Le.refl _) ok
  exact ⟨k, truB_ok hK ok ek r, g s rfl (Le.refl _) ok _ (.bl _)⟩
theorem sd_one {op : BoolOp} {a : Expr} {ea : DE} (ha : PE X a (tE Z W (ea c))) : PE X (.BoolOp op [a] pos) (tE Z W (ea c)) := pe_one ha
theorem sd_if {t a b : Expr} {et : DT} {ea eb : DE} (ht : PT X t (tB_ Z W (et c))) (ha : PE X a (tE Z W (ea c))) (hb : PE X b (tE Z W (eb c))) : PE X (.IfExp t a b pos) (tE Z W (bIf et ea eb c)) := by
  refine (pe_ifExp ht ha hb).imp fun σ H Q q => ?_
  refine tB_bind (e := et c) (f := fun σ k h1 => if k = true then ea c σ h1 else eb c σ h1) q fun s σL d ok rs p => ?_
  cases d with
  | false => exact ⟨s, σL, rfl, ok, rs, p⟩
  | true => exact ⟨s, σL, rfl, ok, rs, p⟩
/-! ### displays -/
theorem sa_nil : PA X [] (tEs Z W (bNil c)) := pa_nil.imp fun σ H Q t => by
  obtain ⟨s, σL, rfl, ok, _, p⟩ := t
  exact p s rfl (Le.refl _) ok [] .nil
theorem sa_cons {a : Expr} {r : List Expr} {ea : DE} {er : DEs} (hs : starEach (a :: r) X.env = (false, eval a X.env) :: starEach r X.env) (ha : PE X a (tE Z W (ea c))) (hr : PA X r (tEs Z W (er c))) : PA X (a :: r) (tEs Z W (bCons ea er c)) := by
  refine (pa_cons ha hr hs).imp fun σ H Q t => ?_
  obtain ⟨s, σL, e1, ok, rs, p⟩ := t
  refine ⟨s, σL, e1, ok, rs, p.bind.mono (fun d s1 l1 ok1 q v rv => ?_) fun _ _ _ _ _ q => q⟩
  refine ⟨s1, σL, rfl, ok1, rs.le ok l1, (PostV.bind (o := er c σL s1.h) q).mono (fun ds s2 l2 ok2 q2 vs rvs => ?_) fun _ _ _ _ _ q => q⟩
  exact q2 s2 rfl (Le.refl _) ok2 _ (.cons (rv.le ok1 l2) rvs)
/-- so many items -/
def Ln (n : Nat) (e : DEs) : Prop := ∀ c σ h, match e c σ h with | .ok xs _ => xs.length = n | _ => True
theorem Ln.nil : Ln 0 bNil := fun _ _ _ => rfl
theorem Ln.cons {a : DE} {r : DEs} {n : Nat} (h : Ln n r) : Ln (n + 1) (bCons a r) := fun c σ h0 => by
  unfold bCons Out.bind
  cases a c σ h0 with
  | ok x h1 =>
    have q := h c σ h1
    simp only
    cases e : r c σ h1 with
    | ok xs h2 => rw [e] at q; simp only at q ⊢; rw [List.length_cons, q]
    | ex _ _ _ => trivial
    | bad => trivial
  | ex _ _ _ => trivial
  | bad => trivial
theorem PostV.ln {α : Type} {s : S3} {n : Nat} {e : DEs} {σ : DSt} {R : List D → S3 → Prop} {E : Nat → List D → S3 → Prop} (hn : Ln n e) (h : PostV Z s (e c σ s.h) R E) : PostV Z s (e c σ s.h) (fun xs s' => xs.length = n ∧ R xs s') E := by
  have q := hn c σ s.h
  cases e2 : e c σ s.h with
  | ok xs h2 => rw [e2] at q h; exact fun s' a b d => ⟨q, h s' a b d⟩
  | ex _ _ _ => rw [e2] at h; exact h
  | bad => rw [e2] at h; exact h
theorem sd_tup {es : List Expr} {k : Nat} {er : DEs} {n : Nat} (hn : Ln n er) (hl : n ≤ 1000) (hr : PA X es (tEs Z W (er c))) : PE X (.Tuple es k pos) (tE Z W (bTup er c)) := by
  refine (pe_tup hr).imp fun σ H Q t => ?_
  obtain ⟨s, σL, e1, ok, rs, p⟩ := t
  refine ⟨s, σL, e1, ok, rs, (PostV.ln (α := Nat) hn p.bind).mono (fun ds s1 l1 ok1 q vs rv => ?_) fun _ _ _ _ _ q => q⟩
  refine ⟨by rw [lim_eq, ← rv.length, q.1]; exact Nat.le_trans hl (by decide), fun pp hp => ?_⟩
  exact q.2 ⟨s1.m, s1.h, upd s1.H pp (.tup vs), s1.pr, s1.xc⟩ rfl (Le.tmp hp) (ok1.tmp hp) _ (.tup (SqT.of upd_same) (rv.le ok1 (Le.tmp hp)))
/-- a new list's reading -/
def tN (Z : Sta) (W : WX) (e : DSt → LH → Out (List D)) : TE := fun σ H Q => ∃ s σL, s.H = H ∧ Ok3 Z s ∧ RSt Z s σL σ ∧ PostV Z s (e σL s.h) (fun ds s' => ∀ vs, RDs Z s' ds vs → ∀ p, s'.H p = none → Q (.ref p) (upd s'.H p (.lst vs))) (EE Z W σ)
theorem sn_lst {es : List Expr} {er : DEs} {n : Nat} (hn : Ln n er) (hl : n ≤ 1000) (hr : PA X es (tEs Z W (er c))) : PE X (.List es pos) (tN Z W (er c)) := by
  refine (pe_lst hr).imp fun σ H Q t => ?_
  obtain ⟨s, σL, e1, ok, rs, p⟩ := t
  refine ⟨s, σL, e1, ok, rs, (PostV.ln (α := Nat) hn p).mono (fun ds s1 l1 ok1 q vs rv => ?_) fun _ _ _ _ _ q => q⟩
  exact ⟨by rw [lim_eq, ← rv.length, q.1]; exact Nat.le_trans hl (by decide), fun pp hp => q.2 vs rv pp hp⟩
/-- a new list as a value -/
theorem sd_new {e : Expr} {er : DEs} (h : PE X e (tN Z W (er c))) : PE X e (tE Z W (bLstV er c)) := h.imp fun σ H Q t => by
  obtain ⟨s, σL, e1, ok, rs, p⟩ := t
  refine ⟨s, σL, e1, ok, rs, p.bind.mono (fun ds s1 l1 ok1 q vs rv pp hp => ?_) fun _ _ _ _ _ q => q⟩
  exact q ⟨s1.m, s1.h, upd s1.H pp (.lst vs), s1.pr, s1.xc⟩ rfl (Le.tmp hp) (ok1.tmp hp) _ (RD.newL ok1 hp rv)
/-- .. as an object of the logical heap -/
def bLstR (r : DEs) : DE := fun c σ h => (r c σ h).bind fun xs h1 => .ok (.ref h1.length) (h1 ++ [.lst xs])
theorem sd_newR {e : Expr} {er : DEs} (h : PE X e (tN Z W (er c))) : PE X e (tE Z W (bLstR er c)) := h.imp fun σ H Q t => by
  obtain ⟨s, σL, e1, ok, rs, p⟩ := t
  refine ⟨s, σL, e1, ok, rs, p.bind.mono (fun ds s1 l1 ok1 q vs rv pp hp => ?_) fun _ _ _ _ _ q => q⟩
  have l := Le.push (o := .lst ds) (u := .lst vs) ok1 hp
  have k := ok1.push (o := .lst ds) (u := .lst vs) hp ⟨vs, upd_same, rv.le ok1 l⟩
  exact q (s1.push pp (.lst ds) (.lst vs)) rfl l k _ (.ref (by show (s1.m ++ [pp])[s1.h.length]? = some pp; rw [← ok1.len]; simp))
/-! ### items and slices -/
theorem sd_ix {a b : Expr} {ea eb : DE} (hK : Z.K = X.K) (hu : X.A.units + 65 < cLine) (hs : PlainIx b) (ha : PE X a (tO Z W (ea c))) (hb : PE X b (tO Z W (eb c))) : PE X (.Subscript a b pos) (tE Z W (bIx ea eb c)) := by
  refine (pe_ix (ix_any hK (by omega)) ha hb hs).imp fun σ H Q t => ?_
  refine tO.bind (e := ea c) (f := fun σ x h1 => (eb c σ h1).bind fun y h2 => optO (ixV h2 x y) h2) t fun s σL d v ok rs r p => ?_
  refine ⟨s, σL, rfl, ok, rs, p.bind.mono (fun e s' l k q u ru => ?_) fun _ _ _ _ _ q => q⟩
  obtain ⟨z, ez, hz⟩ := post_opt q
  exact ⟨s', d, e, z, rfl, k, r.le ok l, ru, ez, hz⟩
theorem so_none : PO X none (tPO Z W (bNoPart c)) := ⟨fun pins s σ H Q I t => po_none.run pins s σ H Q I (by
  obtain ⟨s, σL, rfl, ok, rs, p⟩ := t
  exact p s rfl (Le.refl _) ok)⟩
theorem so_some {a : Expr} {ea : DE} (ha : PE X a (tE Z W (ea c))) : PO X (some a) (tPO Z W (bPart ea c)) := ⟨fun pins s σ H Q I t => (po_some ha).run pins s σ H Q I (by
  obtain ⟨s, σL, rfl, ok, rs, p⟩ := t
  refine ⟨s, σL, rfl, ok, rs, p.bind.mono (fun d s1 l1 ok1 q v r => ?_) fun _ _ _ _ _ q => q⟩
  cases d with
  | int i => cases r; exact ⟨i, rfl, q s1 rfl (Le.refl _) ok1⟩
  | _ => exact q.elim)⟩
theorem sd_slice {a : Expr} {lo hi : Option Expr} {ea : DE} {el eh : DO} {p2 : Pos} (hK : Z.K = X.K) (ha : PE X a (tO Z W (ea c))) (hl : PO X lo (tPO Z W (el c))) (hh : PO X hi (tPO Z W (eh c))) : PE X (.Subscript a (.Slice lo hi none p2) pos) (tE Z W (bSlice ea el eh c)) := by
  refine (pe_slice (sl_all hK) ha hl hh).imp fun σ H Q t => ?_
  refine tO.bind (e := ea c) (f := fun σ x h1 => (el c σ h1).bind fun l h2 => (eh c σ h2).bind fun u h3 => optO (slW h3 x l u) h3) t fun s σL d v ok rs r p => ?_
  refine ⟨s, σL, rfl, ok, rs, p.bind.mono (fun o1 s1 l1 ok1 q1 => ?_) fun _ _ _ _ _ q => q⟩
  refine ⟨s1, σL, rfl, ok1, rs.le ok l1, (PostV.bind (o := eh c σL s1.h) q1).mono (fun o2 s2 l2 ok2 q2 => ?_) fun _ _ _ _ _ q => q⟩
  obtain ⟨z, ez, hz⟩ := post_opt q2
  exact ⟨s2, d, z, rfl, ok2, (r.le ok l1).le ok1 l2, ez, hz⟩
end
end Bh
/-! Bh, part 8: built-ins. -/
namespace Bh
open PySem PySem.Spec PyProof.Rows L2
/-! ### values -/
def absD : D → Option D
  | .int i => some (.int (if i < 0 then -i else i))
  | _ => none
def intD : D → Option D
  | .int i => some (.int i)
  | .bl k => some (.int (if k then 1 else 0))
  | _ => none
def strD : D → Option D
  | .int i => if i.natAbs.log2 < 1920 then some (.str (toString i)) else none
  | .str x => some (.str x)
  | _ => none
def tupD (h : LH) (d : D) : Option D := (seqOf h d).map .tup
/-- truth of a flat value -/
def truF : D → Option Bool
  | .non => some false
  | .bl b => some b
  | .int i => some (i != 0)
  | _ => none
def anyD (h : LH) (d : D) : Option D := (seqOf h d).bind fun xs => (mapO truF xs).map fun bs => .bl (bs.any id)
def allD (h : LH) (d : D) : Option D := (seqOf h d).bind fun xs => (mapO truF xs).map fun bs => .bl (bs.all id)
def intF : D → Option Int
  | .int i => some i
  | _ => none
def sumD (h : LH) (d : D) : Option D := (lstOf h d).bind fun xs => (mapO intF xs).map fun ns => .int ns.sum
def minD : D → D → Option D
  | .int i, .int j => some (.int (if j < i then j else i))
  | _, _ => none
def maxD : D → D → Option D
  | .int i, .int j => some (.int (if j > i then j else i))
  | _, _ => none
inductive Ty where
  | int | bool | str | tuple | list | dict
  deriving DecidableEq
def tyS : Ty → String
  | .int => "int" | .bool => "bool" | .str => "str" | .tuple => "tuple" | .list => "list" | .dict => "dict"
def isD (t : Ty) : D → Option D
  | .non => some (.bl false)
  | .bl _ => some (.bl (decide (t = .bool ∨ t = .int)))
  | .int _ => some (.bl (decide (t = .int)))
  | .str _ => some (.bl (decide (t = .str)))
  | .tup _ => some (.bl (decide (t = .tuple)))
  | .lst _ => some (.bl (decide (t = .list)))
  | .dic _ => some (.bl (decide (t = .dict)))
  | _ => none
def bB1 (f : LH → D → Option D) (a : DE) : DE := fun c σ h => (a c σ h).bind fun x h1 => optO (f h1 x) h1
def bB2 (f : LH → D → D → Option D) (a b : DE) : DE := fun c σ h => (a c σ h).bind fun x h1 => (b c σ h1).bind fun y h2 => optO (f h2 x y) h2
section
variable {X : Cx} {Z : Sta} {W : WX} {c : Calls} {pos : Pos}
def rB2 (Z : Sta) (f : LH → D → D → Option D) : List V → Hp → VK → Prop := fun xs H Q => ∃ x y s d e r, xs = [x, y] ∧ s.H = H ∧ Ok3 Z s ∧ RDb Z s d x ∧ RDb Z s e y ∧ f s.h d e = some r ∧ ∀ s', s'.h = s.h → Le s s' → Ok3 Z s' → ∀ v, RD Z s' r v → Q v s'.H
theorem seq_at {s : S3} (ok : Ok3 Z s) {d : D} {xs : List D} {v : V} (h : seqOf s.h d = some xs) (r : RDb Z s d v) : ∃ a vs, v = .ref a ∧ (SqL Z.K s.H a vs ∨ SqT Z.K s.H a vs) ∧ RDs Z s xs vs := by
  have lst : ∀ d, lstOf s.h d = some xs → RDb Z s d v → ∃ a vs, v = .ref a ∧ (SqL Z.K s.H a vs ∨ SqT Z.K s.H a vs) ∧ RDs Z s xs vs := fun d h r => by
    obtain ⟨a, vs, e, h1, h2⟩ := lst_at ok h r
    exact ⟨a, vs, e, .inl h1, h2⟩
  cases d with
  | tup ys =>
    cases h
    cases r.flat with
    | @tup a _ vs h1 h2 => exact ⟨a, vs, rfl, .inr h1, h2⟩
  | lst ys => exact lst (.lst ys) h r
  | ref n => exact lst (.ref n) h r
  | _ => cases h
theorem cr_abs : CallR X (.builtin "abs") (rB1 Z fun _ d => absD d) := by
  intro pins s σ H xs us Q I rx h
  obtain ⟨x, s3, d, r, rfl, rfl, ok, rd, hf, k⟩ := h
  cases d with
  | int i =>
    cases rd.flat; cases hf
    exact call_abs pins s σ _ _ us Q I rx ⟨i, rfl, k s3 rfl (Le.refl _) ok _ (.int _)⟩
  | _ => cases hf
theorem cr_int : CallR X (.type "int") (rB1 Z fun _ d => intD d) := by
  intro pins s σ H xs us Q I rx h
  obtain ⟨x, s3, d, r, rfl, rfl, ok, rd, hf, k⟩ := h
  cases d with
  | int i =>
    cases rd.flat; cases hf
    exact call_int1 pins s σ _ _ us Q I rx (.inl ⟨i, rfl, k s3 rfl (Le.refl _) ok _ (.int _)⟩)
  | bl i =>
    cases rd.flat; cases hf
    exact call_int1 pins s σ _ _ us Q I rx (.inr ⟨i, rfl, k s3 rfl (Le.refl _) ok _ (.int _)⟩)
  | _ => cases hf
theorem cr_str : CallR X (.type "str") (rB1 Z fun _ d => strD d) := by
  intro pins s σ H xs us Q I rx h
  obtain ⟨x, s3, d, r, rfl, rfl, ok, rd, hf, k⟩ := h
  cases d with
  | int i =>
    cases rd.flat
    have hf : strD (.int i) = some r := hf
    simp only [strD] at hf
    split at hf
    · rename_i hl
      cases hf
      exact call_str_int pins s σ _ _ us Q I rx ⟨i, rfl, hl, k s3 rfl (Le.refl _) ok _ (.str _)⟩
    · cases hf
  | str i =>
    cases rd.flat; cases hf
    exact SkE.call_str_str pins s σ _ _ us Q I rx ⟨i, rfl, k s3 rfl (Le.refl _) ok _ (.str _)⟩
  | _ => cases hf
theorem cr_tuple (hK : Z.K = X.K) : CallR X (.type "tuple") (rB1 Z tupD) := by
  intro pins s σ H xs us Q I rx h
  obtain ⟨x, s3, d, r, rfl, rfl, ok, rd, hf, k⟩ := h
  have hf : (seqOf s3.h d).map D.tup = some r := hf
  cases e : seqOf s3.h d with
  | none => rw [e] at hf; cases hf
  | some ys =>
    rw [e] at hf
    cases hf
    obtain ⟨a, vs, rfl, h1, h2⟩ := seq_at ok e rd
    rcases h1 with h1 | h1
    · refine call_tuple_of pins s σ _ _ us Q I rx ⟨a, vs, rfl, .inl ⟨hK ▸ h1, fun p hp => ?_⟩⟩
      have l := Le.tmp (o := .tup vs) hp
      exact k ⟨s3.m, s3.h, upd s3.H p (.tup vs), s3.pr, s3.xc⟩ rfl l (ok.tmp hp) _ (.tup (SqT.of upd_same) (h2.le ok l))
    · exact call_tuple_of pins s σ _ _ us Q I rx ⟨a, vs, rfl, .inr ⟨hK ▸ h1, k s3 rfl (Le.refl _) ok _ (.tup h1 h2)⟩⟩
theorem truF_ok {s : S3} : ∀ {ds : List D} {bs : List Bool} {vs : List V}, mapO truF ds = some bs → RDs Z s ds vs → ∃ ps, DpAll Z.K s.H vs ps ∧ PyData.plainAll ps = true ∧ (∀ p ∈ ps, p.fits63) ∧ ps.map PyData.truthy = bs
  | [], _, _, h, r => by cases h; cases r; exact ⟨[], .nil, rfl, (fun _ h => by cases h), rfl⟩
  | d :: ds, bs, _, h, r => by
    cases r with
    | @cons _ v _ vs r1 r2 =>
      simp only [mapO] at h
      cases e1 : truF d with
      | none => rw [e1] at h; cases h
      | some b =>
        rw [e1] at h
        simp only [Option.bind_some] at h
        cases e2 : mapO truF ds with
        | none => rw [e2] at h; cases h
        | some cs =>
          rw [e2] at h
          cases h
          obtain ⟨ps, a1, a2, a3, a4⟩ := truF_ok e2 r2
          have one : ∃ p, Dp Z.K s.H v p ∧ p.plain = true ∧ p.fits63 ∧ p.truthy = b := by
            cases d with
            | non => cases e1; cases r1; exact ⟨.none, .non, rfl, trivial, rfl⟩
            | bl k => cases e1; cases r1; exact ⟨.bool _, .bl _, rfl, trivial, rfl⟩
            | int i => cases e1; cases r1; exact ⟨.int i, .int i, rfl, trivial, rfl⟩
            | _ => cases e1
          obtain ⟨p, b1, b2, b3, b4⟩ := one
          refine ⟨p :: ps, .cons b1 a1, by rw [PyData.plainAll, b2, a2] <;> rfl, fun q hq => ?_, by rw [List.map_cons, a4, b4]⟩
          rcases List.mem_cons.mp hq with rfl | hq
          · exact b3
          · exact a3 q hq
theorem any_map_id {α : Type} (f : α → Bool) : ∀ l : List α, (l.map f).any id = l.any f
  | [] => rfl
  | a :: r => by rw [List.map_cons, List.any_cons, List.any_cons, any_map_id f r] <;> rfl
theorem all_map_id {α : Type} (f : α → Bool) : ∀ l : List α, (l.map f).all id = l.all f
  | [] => rfl
  | a :: r => by rw [List.map_cons, List.all_cons, List.all_cons, all_map_id f r] <;> rfl
theorem cr_anyD (hK : Z.K = X.K) (hc : X.calm = true) : CallR X (.builtin "any") (rB1 Z anyD) := by
  intro pins s σ H xs us Q I rx h
  obtain ⟨x, s3, d, r, rfl, rfl, ok, rd, hf, k⟩ := h
  unfold anyD at hf
  cases e : seqOf s3.h d with
  | none => rw [e] at hf; cases hf
  | some ys =>
    rw [e] at hf
    simp only [Option.bind_some] at hf
    cases e2 : mapO truF ys with
    | none => rw [e2] at hf; cases hf
    | some bs =>
      rw [e2] at hf
      cases hf
      obtain ⟨a, vs, rfl, h1, h2⟩ := seq_at ok e rd
      obtain ⟨ps, q1, q2, q3, q4⟩ := truF_ok e2 h2
      have fin := k s3 rfl (Le.refl _) ok _ (.bl (bs.any id))
      rw [← q4, any_map_id] at fin
      rw [Vals.ref1 rx]
      rcases h1 with h1 | h1
      · obtain ⟨its, rv, hl, _⟩ := I.list (hK ▸ h1)
        obtain ⟨as, hr⟩ := Dp.readsAll I ps vs its (hK ▸ q1) rv
        exact PySem.W.any_list_data (I.ok.hd hc) hl.isList hr q2 q3 fun h' tk hk => ⟨.bl _, _, I.kept hk, rfl, fin⟩
      · obtain ⟨its, rv, ⟨o, ho, hcl, n, hdt⟩, _⟩ := I.tuple (hK ▸ h1)
        obtain ⟨as, hr⟩ := Dp.readsAll I ps vs its (hK ▸ q1) rv
        exact PySem.W.any_tuple_data (I.ok.hd hc) ⟨o, ho, hcl, n, hdt⟩ hr q2 q3 fun h' tk hk => ⟨.bl _, _, I.kept hk, rfl, fin⟩
theorem cr_allD (hK : Z.K = X.K) (hc : X.calm = true) : CallR X (.builtin "all") (rB1 Z allD) := by
  intro pins s σ H xs us Q I rx h
  obtain ⟨x, s3, d, r, rfl, rfl, ok, rd, hf, k⟩ := h
  unfold allD at hf
  cases e : seqOf s3.h d with
  | none => rw [e] at hf; cases hf
  | some ys =>
    rw [e] at hf
    simp only [Option.bind_some] at hf
    cases e2 : mapO truF ys with
    | none => rw [e2] at hf; cases hf
    | some bs =>
      rw [e2] at hf
      cases hf
      obtain ⟨a, vs, rfl, h1, h2⟩ := seq_at ok e rd
      obtain ⟨ps, q1, q2, q3, q4⟩ := truF_ok e2 h2
      have fin := k s3 rfl (Le.refl _) ok _ (.bl (bs.all id))
      rw [← q4, all_map_id] at fin
      rw [Vals.ref1 rx]
      rcases h1 with h1 | h1
      · obtain ⟨its, rv, hl, _⟩ := I.list (hK ▸ h1)
        obtain ⟨as, hr⟩ := Dp.readsAll I ps vs its (hK ▸ q1) rv
        exact PySem.W.all_list_data (I.ok.hd hc) hl.isList hr q2 q3 fun h' tk hk => ⟨.bl _, _, I.kept hk, rfl, fin⟩
      · obtain ⟨its, rv, ⟨o, ho, hcl, n, hdt⟩, _⟩ := I.tuple (hK ▸ h1)
        obtain ⟨as, hr⟩ := Dp.readsAll I ps vs its (hK ▸ q1) rv
        exact PySem.W.all_tuple_data (I.ok.hd hc) ⟨o, ho, hcl, n, hdt⟩ hr q2 q3 fun h' tk hk => ⟨.bl _, _, I.kept hk, rfl, fin⟩
theorem intF_ok {s : S3} : ∀ {ds : List D} {ns : List Int} {vs : List V}, mapO intF ds = some ns → RDs Z s ds vs → vs = ns.map V.int
  | [], _, _, h, r => by cases h; cases r; rfl
  | d :: ds, ns, _, h, r => by
    cases r with
    | cons r1 r2 =>
      simp only [mapO] at h
      cases e1 : intF d with
      | none => rw [e1] at h; cases h
      | some b =>
        rw [e1] at h
        simp only [Option.bind_some] at h
        cases e2 : mapO intF ds with
        | none => rw [e2] at h; cases h
        | some cs =>
          rw [e2] at h
          cases h
          have := intF_ok e2 r2
          subst this
          cases d with
          | int i => cases e1; cases r1; rfl
          | _ => cases e1
theorem cr_sumD (hK : Z.K = X.K) (hc : X.calm = true) : CallR X (.builtin "sum") (rB1 Z sumD) := by
  intro pins s σ H xs us Q I rx h
  obtain ⟨x, s3, d, r, rfl, rfl, ok, rd, hf, k⟩ := h
  unfold sumD at hf
  cases e : lstOf s3.h d with
  | none => rw [e] at hf; cases hf
  | some ys =>
    rw [e] at hf
    simp only [Option.bind_some] at hf
    cases e2 : mapO intF ys with
    | none => rw [e2] at hf; cases hf
    | some ns =>
      rw [e2] at hf
      cases hf
      obtain ⟨a, vs, rfl, h1, h2⟩ := lst_at ok e rd
      have := intF_ok e2 h2
      subst this
      exact cr_sum hc pins s σ _ _ us Q I rx ⟨a, ns, rfl, hK ▸ h1, k s3 rfl (Le.refl _) ok _ (.int _)⟩
theorem cr_min2 (hc : X.calm = true) : CallR X (.builtin "min") (rB2 Z fun _ x y => minD x y) := by
  intro pins s σ H xs us Q I rx h
  obtain ⟨x, y, s3, d, e, r, rfl, rfl, ok, rd, re, hf, k⟩ := h
  cases d with
  | int i =>
    cases e with
    | int j =>
      cases rd.flat; cases re.flat; cases hf
      exact call_min2 hc pins s σ _ _ us Q I rx ⟨i, j, rfl, k s3 rfl (Le.refl _) ok _ (.int _)⟩
    | _ => cases hf
  | _ => cases hf
theorem cr_max2 (hc : X.calm = true) : CallR X (.builtin "max") (rB2 Z fun _ x y => maxD x y) := by
  intro pins s σ H xs us Q I rx h
  obtain ⟨x, y, s3, d, e, r, rfl, rfl, ok, rd, re, hf, k⟩ := h
  cases d with
  | int i =>
    cases e with
    | int j =>
      cases rd.flat; cases re.flat; cases hf
      exact call_max2 hc pins s σ _ _ us Q I rx ⟨i, j, rfl, k s3 rfl (Le.refl _) ok _ (.int _)⟩
    | _ => cases hf
  | _ => cases hf
/-- isinstance(x, T), T a built-in type -/
def rIs (Z : Sta) (t : Ty) : List V → Hp → VK → Prop := fun xs H Q => ∃ x s d r, xs = [x, .ty (tyS t)] ∧ s.H = H ∧ Ok3 Z s ∧ RDb Z s d x ∧ isD t d = some r ∧ ∀ s', s'.h = s.h → Le s s' → Ok3 Z s' → ∀ v, RD Z s' r v → Q v s'.H
theorem cr_isi (hK : Z.K = X.K) (t : Ty) : CallR X (.builtin "isinstance") (rIs Z t) := by
  intro pins s σ H xs us Q I rx h
  obtain ⟨x, s3, d, r, rfl, rfl, ok, rd, hf, k⟩ := h
  have go : ∀ (n : String) (b : Bool), TyX X.K s3.H x (.type n) → kitB n (tyS t) = some b → r = .bl b → wpAny (model X.prog X.w) X.A (call (.builtin "isinstance") us) (EP X pins σ Q) X.xe s := fun n b h1 h2 h3 => by
    subst h3
    exact call_isi pins s σ _ _ us Q I rx ⟨x, _, .type n, .type (tyS t), b, rfl, .ty _, h1, kit_ty h2, k s3 rfl (Le.refl _) ok _ (.bl b)⟩
  cases d with
  | non => cases rd.flat; exact go "NoneType" false (.base .non) (by cases t <;> decide +kernel) (Option.some.inj hf).symm
  | bl i => cases rd.flat; exact go "bool" (decide (t = .bool ∨ t = .int)) (.base (.bl _)) (by cases t <;> decide +kernel) (Option.some.inj hf).symm
  | int i => cases rd.flat; exact go "int" (decide (t = .int)) (.base (.int _)) (by cases t <;> decide +kernel) (Option.some.inj hf).symm
  | str i => cases rd.flat; exact go "str" (decide (t = .str)) (.base (.str _)) (by cases t <;> decide +kernel) (Option.some.inj hf).symm
  | tup ys =>
    cases rd.flat with
    | @tup a _ vs h1 h2 =>
      refine go "tuple" (decide (t = .tuple)) ?_ (by cases t <;> decide +kernel) (Option.some.inj hf).symm
      rcases h1 with (h1 | ⟨o, h1⟩) | ⟨o, its, n, h1, h3, _⟩
      · exact .base (.tup h1)
      · exact .fTuple h1
      · exact .kTuple (hK ▸ h1) h3
  | lst ys =>
    obtain ⟨a, vs, rfl, h1, h2⟩ := lstX_at ok (d := .lst ys) rfl rd
    exact go "list" (decide (t = .list)) (.base (.lst h1)) (by cases t <;> decide +kernel) (Option.some.inj hf).symm
  | dic ks =>
    obtain ⟨a, kvs, rfl, h1, h2⟩ := dic_at ok (d := .dic ks) rfl rd
    refine go "dict" (decide (t = .dict)) ?_ (by cases t <;> decide +kernel) (Option.some.inj hf).symm
    rcases h1 with h1 | ⟨o, h1⟩
    · exact .base (.dK h1)
    · exact .fDict h1
  | _ => cases hf
/-! ### calls of built-ins -/
theorem tO_b1 {f : LH → D → Option D} {ea : DE} {σ : L2.St} {H : Hp} {Q : VK} (t : tE Z W (bB1 f ea c) σ H Q) : tCB (rB1 Z f) (tCons (tO Z W (ea c)) tNil) σ H Q := by
  refine tO.bind (e := ea c) (f := fun σ x h1 => optO (f h1 x) h1) t fun s σL d v ok rs r p => ?_
  obtain ⟨z, ez, hz⟩ := post_opt p
  exact ⟨v, s, d, z, rfl, rfl, ok, r, ez, hz⟩
theorem sd_b1 {x : PySem.Str} {id : String} {p : Pos} {a : Expr} {f : LH → D → Option D} {ea : DE} (hb : CallR X (.builtin id) (rB1 Z f)) (hg : Gl X x) (hm : X.mg x = none) (hv : bootBuiltins x = some (.builtin id)) (hn : x ≠ "__name__") (hdb : (x == ("__debug__" : PySem.Str)) = false)
    (he : starEach [a] X.env = [(false, eval a X.env)]) (hpl : (backTo pos (starEach [] X.env)).any (·.1) = false) (ha : PE X a (tO Z W (ea c))) : PE X (.Call (.Name x p) [a] [] pos) (tE Z W (bB1 f ea c)) :=
  (pe_callB hb hg hm hv (pa_cons ha pa_nil he) hn hdb he hpl).imp fun σ H Q t => tO_b1 t
theorem sd_t1 {x : PySem.Str} {id : String} {p : Pos} {a : Expr} {f : LH → D → Option D} {ea : DE} (hb : CallR X (.type id) (rB1 Z f)) (hg : Gl X x) (hm : X.mg x = none) (hv : bootBuiltins x = some (.type id)) (hn : x ≠ "__name__") (hdb : (x == ("__debug__" : PySem.Str)) = false)
    (he : starEach [a] X.env = [(false, eval a X.env)]) (hpl : (backTo pos (starEach [] X.env)).any (·.1) = false) (ha : PE X a (tO Z W (ea c))) : PE X (.Call (.Name x p) [a] [] pos) (tE Z W (bB1 f ea c)) :=
  (pe_callTy hb hg hm hv (pa_cons ha pa_nil he) hn hdb he hpl).imp fun σ H Q t => tO_b1 t
theorem sd_b2 {x : PySem.Str} {id : String} {p : Pos} {a b : Expr} {f : LH → D → D → Option D} {ea eb : DE} (hb : CallR X (.builtin id) (rB2 Z f)) (hg : Gl X x) (hm : X.mg x = none) (hv : bootBuiltins x = some (.builtin id)) (hn : x ≠ "__name__") (hdb : (x == ("__debug__" : PySem.Str)) = false)
    (he : starEach [a, b] X.env = (false, eval a X.env) :: starEach [b] X.env) (he2 : starEach [b] X.env = [(false, eval b X.env)]) (hpl : (backTo pos (starEach [b] X.env)).any (·.1) = false) (ha : PE X a (tO Z W (ea c))) (hbb : PE X b (tO Z W (eb c))) : PE X (.Call (.Name x p) [a, b] [] pos) (tE Z W (bB2 f ea eb c)) := by
  refine (pe_callB hb hg hm hv (pa_cons ha (pa_cons hbb pa_nil he2) he) hn hdb he hpl).imp fun σ H Q t => ?_
  refine tO.bind (e := ea c) (f := fun σ x h1 => (eb c σ h1).bind fun y h2 => optO (f h2 x y) h2) t fun s σL d v ok rs r p => ?_
  refine ⟨s, σL, rfl, ok, rs, p.bind.mono (fun e s' l k q u ru => ?_) fun _ _ _ _ _ q => q⟩
  obtain ⟨z, ez, hz⟩ := post_opt q
  exact ⟨v, u, s', d, e, z, rfl, rfl, k, r.le ok l, ru, ez, hz⟩
theorem sd_isi {x y : PySem.Str} {p p2 : Pos} {a : Expr} {t : Ty} {ea : DE} (hK : Z.K = X.K) (hg : Gl X x) (hm : X.mg x = none) (hv : bootBuiltins x = some (.builtin "isinstance")) (hn : x ≠ "__name__") (hdb : (x == ("__debug__" : PySem.Str)) = false)
    (hg2 : Gl X y) (hm2 : X.mg y = none) (hv2 : bootBuiltins y = some (.type (tyS t))) (hn2 : y ≠ "__name__") (hdb2 : (y == ("__debug__" : PySem.Str)) = false)
    (he : starEach [a, .Name y p2] X.env = (false, eval a X.env) :: starEach [.Name y p2] X.env) (he2 : starEach [.Name y p2] X.env = [(false, eval (.Name y p2) X.env)]) (hpl : (backTo pos (starEach [.Name y p2] X.env)).any (·.1) = false) (ha : PE X a (tO Z W (ea c))) :
    PE X (.Call (.Name x p) [a, .Name y p2] [] pos) (tE Z W (bB1 (fun _ d => isD t d) ea c)) := by
  have hty : PE X (.Name y p2) (tC (.ty (tyS t))) := pe_bltn hg2 hm2 hv2 rfl hn2 hdb2
  refine (pe_callB (cr_isi (Z := Z) hK t) hg hm hv (pa_cons ha (pa_cons hty pa_nil he2) he) hn hdb he hpl).imp fun σ H Q q => ?_
  refine tO.bind (e := ea c) (f := fun σ x h1 => optO (isD t x) h1) q fun s σL d v ok rs r p => ?_
  obtain ⟨z, ez, hz⟩ := post_opt p
  exact ⟨v, s, d, z, rfl, rfl, ok, r, ez, hz⟩
end
end Bh
/-! Bh, part 9: calls of defs and methods, making, fields. -/
namespace Bh
open PySem PySem.Spec PyProof.Rows L2
/-- a def's promise: what the evaluator says of it -/
def spF (Z : Sta) (c : Calls) (n ar : Nat) : Sp := fun vs H Q E => ∃ s ds, s.H = H ∧ Ok3 Z s ∧ RDs Z s ds vs ∧ ds.length = ar ∧ PostV Z s (c n ds s.h) (QQ Z Q) (fun cc fs s' => ∀ cls dd, XD Z s' cc fs cls dd → E cls dd s'.H)
def bCall (n : Nat) (er : DEs) : DE := fun c σ h => (er c σ h).bind fun xs h1 => c n xs h1
/-- the methods of the classes -/
abbrev MT := Nat → Nat → Option Nat
def insC (h : LH) : D → Option (Nat × Nat)
  | .ref n => match h[n]? with
    | some (.ins k _) => some (n, k)
    | _ => none
  | _ => none
def bMeth (mt : Nat → Option Nat) (a : DE) (er : DEs) : DE := fun c σ h => (a c σ h).bind fun x h1 => match insC h1 x with
  | some (_, k) => match mt k with
    | some f => (er c σ h1).bind fun xs h2 => c f (x :: xs) h2
    | none => .bad
  | none => .bad
def bMake (k n : Nat) (er : DEs) : DE := fun c σ h => (er c σ h).bind fun xs h1 => (c n (.ref h1.length :: xs) (h1 ++ [.ins k []])).bind fun r h2 => match r with
  | .non => .ok (.ref h1.length) h2
  | _ => .bad
def fldV (na : Nat → Bool) (h : LH) (f : Nat) : D → Option D
  | .ref n => match h[n]? with
    | some (.ins k fs) => if na k = true then fs.lookup f else none
    | _ => none
  | _ => none
def bFld (na : Nat → Bool) (f : Nat) (a : DE) : DE := fun c σ h => (a c σ h).bind fun x h1 => optO (fldV na h1 f x) h1
def putFd (f : Nat) (d : D) : List (Nat × D) → List (Nat × D)
  | [] => [(f, d)]
  | (g, x) :: r => if g = f then (g, d) :: r else (g, x) :: putFd f d r
theorem RDf.get {Z : Sta} {s : S3} : ∀ {fs : List (Nat × D)} {vs : List (PySem.Str × V)} {f : Nat} {d : D}, RDf Z s fs vs → fs.lookup f = some d → ∃ v, vs.lookup (Z.fld f) = some v ∧ RD Z s d v
  | _, _, _, _, .nil, h => by cases h
  | _, _, f, d, .cons (f := g) (d := d2) (v := v2) (ds := ds) (vs := vs) r1 r2, h => by
    rw [List.lookup_cons] at h ⊢
    by_cases e : f = g
    · subst e
      simp at h
      subst h
      exact ⟨v2, by simp, r1⟩
    · have e2 : (f == g) = false := by simpa using e
      have e3 : (Z.fld f == Z.fld g) = false := by
        rw [beq_eq_false_iff_ne]
        exact fun q => e (Z.fin _ _ q)
      rw [e2] at h
      rw [e3]
      exact RDf.get r2 h
theorem RDf.none {Z : Sta} {s : S3} {m : PySem.Str} (hm : ∀ f, Z.fld f ≠ m) : ∀ {fs : List (Nat × D)} {vs : List (PySem.Str × V)}, RDf Z s fs vs → vs.lookup m = none
  | _, _, .nil => rfl
  | _, _, .cons (f := g) r1 r2 => by
    rw [List.lookup_cons]
    have e3 : (m == Z.fld g) = false := by
      rw [beq_eq_false_iff_ne]
      exact fun q => hm g q.symm
    rw [e3]
    exact RDf.none hm r2
theorem RDf.put {Z : Sta} {s : S3} {f : Nat} {d : D} {v : V} (q : RD Z s d v) : ∀ {fs : List (Nat × D)} {vs : List (PySem.Str × V)}, RDf Z s fs vs → RDf Z s (putFd f d fs) (putF (Z.fld f) v vs)
  | _, _, .nil => .cons q .nil
  | _, _, .cons (f := g) (d := d2) (v := v2) (ds := ds) (vs := vs) r1 r2 => by
    unfold putFd putF
    by_cases e : g = f
    · subst e
      rw [if_pos rfl, if_pos rfl]
      exact .cons q r2
    · rw [if_neg e, if_neg (fun z => e (Z.fin _ _ z))]
      exact .cons r1 (RDf.put q r2)
theorem RDf.length {Z : Sta} {s : S3} : ∀ {fs : List (Nat × D)} {vs : List (PySem.Str × V)}, RDf Z s fs vs → fs.length = vs.length
  | _, _, .nil => rfl
  | _, _, .cons _ b => by rw [List.length_cons, List.length_cons, b.length]
section
variable {X : Cx} {Z : Sta} {W : WX} {c : Calls} {pos p apos : Pos}
theorem insC_at {s : S3} (ok : Ok3 Z s) {d : D} {n k : Nat} {v : V} (h : insC s.h d = some (n, k)) (r : RD Z s d v) : d = .ref n ∧ ∃ a dx fs fs', v = .ref a ∧ s.m[n]? = some a ∧ s.h[n]? = some (.ins k fs) ∧ s.H a = some (.ins (Z.ca k) dx fs') ∧ RDf Z s fs fs' := by
  cases d with
  | ref i =>
    cases r with
    | @ref _ a hm =>
      simp only [insC] at h
      split at h
      · rename_i k2 fs e
        cases h
        obtain ⟨b, hb, dx, fs', h1, h2⟩ := ok.ob _ _ e
        rw [hm] at hb; cases hb
        exact ⟨rfl, a, dx, fs, fs', rfl, hm, e, h1, h2⟩
      · cases h
  | _ => cases h
/-- a def's table entry -/
structure DefOk (X : Cx) (Z : Sta) (c : Calls) (lev n ar : Nat) : Prop where
  ok : ∃ fd ps, ps.length = ar ∧ FnOk X.prog X.w X.K X.mg X.base (L2.CX X.prog X.w) lev (Z.fa n) fd ps (spF Z c n ar) ∧ Binds X.K fd ps []
  kp : PySem.W.keepIn X.K (.ref (Z.fa n)) = true
theorem spF_of {n ar : Nat} {s : S3} {ds : List D} {Q : VK} {σ : L2.St} (ok : Ok3 Z s) (hl : ds.length = ar) (q : PostV Z s (c n ds s.h) (QQ Z Q) (EE Z W σ)) : ∀ vs, RDs Z s ds vs → spF Z c n ar vs s.H Q (WE W σ) := fun vs r => ⟨s, ds, rfl, ok, r, hl, q⟩
theorem sd_call {lev n ar : Nat} {x : PySem.Str} {e : Expr} {es : List Expr} {er : DEs} (F : DefOk X Z c lev n ar) (hr : Room lev X.A) (hg : Gl X x) (hm : X.mg x = some (.ref (Z.fa n))) (tk : Takes X W) (hn : Ln ar er) (ha : PA X (e :: es) (tEs Z W (er c)))
    (hdb : (x == ("__debug__" : PySem.Str)) = false) (he : starEach (e :: es) X.env = (false, eval e X.env) :: starEach es X.env) (hpl : (backTo pos (starEach es X.env)).any (·.1) = false) : PE X (.Call (.Name x p) (e :: es) [] pos) (tE Z W (bCall n er c)) := by
  obtain ⟨⟨fd, ps, _, F, hb⟩, hk⟩ := F
  refine (pe_callS F hr hg hm hk hb (fun σ => passAt tk σ) ha hdb he hpl).imp fun σ H Q t => ?_
  obtain ⟨s, σL, e1, ok, rs, q⟩ := t
  refine ⟨s, σL, e1, ok, rs, (PostV.ln (α := Nat) hn q.bind).mono (fun ds s1 l1 ok1 q1 => ?_) fun _ _ _ _ _ q => q⟩
  exact spF_of ok1 q1.1 q1.2
theorem sd_call0 {lev n : Nat} {x : PySem.Str} (F : DefOk X Z c lev n 0) (hr : Room lev X.A) (hg : Gl X x) (hm : X.mg x = some (.ref (Z.fa n))) (tk : Takes X W) (hdb : (x == ("__debug__" : PySem.Str)) = false) :
    PE X (.Call (.Name x p) [] [] pos) (tE Z W (bCall n bNil c)) := by
  obtain ⟨⟨fd, ps, _, F, hb⟩, hk⟩ := F
  refine ⟨fun pins sh σ H Q I t => ?_⟩
  obtain ⟨s, σL, rfl, ok, rs, q⟩ := t
  have q1 : PostV Z s (c n [] s.h) (QQ Z Q) (EE Z W σ) := q
  refine wpAny_Call_Name_kw (ld_glob I hg hm ?_ hdb)
  exact PySem.W.callWith_K0 I.kIn hk (run_fnS (us := []) (E := WE W) F hr hb (passAt tk σ) I .nil (spF_of ok rfl q1 [] .nil))
/-! ### methods -/
/-- a method's facts: of each class that has it -/
structure MethOk (X : Cx) (Z : Sta) (c : Calls) (lev ar : Nat) (m : PySem.Str) (mt : Nat → Option Nat) : Prop where
  fld : ∀ f, Z.fld f ≠ m
  cls : ∀ k f, mt k = some f → Cls X.K (Z.ca k) ∧ Meth X.K (Z.ca k) m (Z.fa f) ∧ DefOk X Z c lev f (ar + 1)
theorem sd_meth {pl : Sem Bool} {lev ar : Nat} {m : PySem.Str} {mt : Nat → Option Nat} {o e : Expr} {es : List Expr} {eo : DE} {er : DEs} (M : MethOk X Z c lev ar m mt) (hr : Room lev X.A) (tk : Takes X W) (hn : Ln ar er) (ho : PE X o (tE Z W (eo c))) (ha : PA X (e :: es) (tEs Z W (er c)))
    (hst : starEach (e :: es) X.env = (false, eval e X.env) :: starEach es X.env) (hpl : (backTo pos (starEach es X.env)).any (·.1) = false)
    (ht : eval (.Call (.Attribute o m apos) (e :: es) [] pos) X.env = (do
      let ov ← eval o X.env
      standAt apos.atName
      let (f, first) ← holding [ov] (getMethod ov m pl)
      callWith pos f first (backTo pos (starEach (e :: es) X.env)) (backToKw pos (keywordEach [] X.env)))) :
    PE X (.Call (.Attribute o m apos) (e :: es) [] pos) (tE Z W (bMeth mt eo er c)) := by
  refine ⟨fun pins sh σ H Q I t => ?_⟩
  obtain ⟨s, σL, e1, ok, rs, q⟩ := t
  refine PySem.W.methodCall_KW (pl := pl) (thn (ho.run pins sh σ H (fun v H1 => ∃ s1 d, s1.H = H1 ∧ Ok3 Z s1 ∧ RSt Z s1 σL σ ∧ RD Z s1 d v ∧ PostV Z s1 (match insC s1.h d with
    | some (_, k) => match mt k with
      | some f => (er c σL s1.h).bind fun xs h2 => c f (d :: xs) h2
      | none => .bad
    | none => .bad) (QQ Z Q) (EE Z W σ)) I ⟨s, σL, e1, ok, rs, q.bind.mono (fun d s1 l1 ok1 q1 v rv => ⟨s1, d, rfl, ok1, rs.le ok l1, rv, q1⟩) fun _ _ _ _ _ q => q⟩) fun u s1 ⟨x, H1, I1, rx, s3, d, eh, ok3, rs3, rd, q3⟩ => ?_) ht
  subst eh
  cases ei : insC s3.h d with
  | none => rw [ei] at q3; exact q3.elim
  | some nk =>
    obtain ⟨n, k⟩ := nk
    rw [ei] at q3
    simp only at q3
    cases em : mt k with
    | none => rw [em] at q3; exact q3.elim
    | some f =>
      rw [em] at q3
      simp only at q3
      obtain ⟨rfl, a, dx, fs, fs', rfl, hm, hh, hH, hf⟩ := insC_at ok3 ei rd
      obtain ⟨cl, me, ⟨fd, ps, _, F, hb⟩, hk⟩ := M.cls k f em
      obtain rfl : u = Value.ref a := rx
      refine getmeth_ok I1 hH cl me (hf.none M.fld) ?_
      refine PySem.W.callWith_K (first := [.ref a]) (h₀ := X.base) I.ok.mod.kin me.kp (thn (ha.run pos pins s1 σ s3.H (fun vs H2 => spF Z c f (ar + 1) (.ref a :: vs) H2 Q (WE W σ)) I1 ?_) fun us s2 ⟨vs, H2, I2, r, q2⟩ => ⟨I2.kIn, ?_⟩) hst hpl
      · refine ⟨s3, σL, rfl, ok3, rs3, (PostV.ln (α := Nat) hn q3.bind).mono (fun ds s4 l4 ok4 q4 vs rvs => ?_) fun _ _ _ _ _ q => q⟩
        exact spF_of ok4 (by rw [List.length_cons, q4.1]) q4.2 _ (.cons (.ref (l4.at hm)) rvs)
      · exact run_fnS (us := .ref a :: us) (vs := .ref a :: vs) (E := WE W) F hr hb (passAt tk σ) I2 (.cons rfl r) q2
theorem sd_meth0 {pl : Sem Bool} {lev : Nat} {m : PySem.Str} {mt : Nat → Option Nat} {o : Expr} {eo : DE} (M : MethOk X Z c lev 0 m mt) (hr : Room lev X.A) (tk : Takes X W) (ho : PE X o (tE Z W (eo c)))
    (ht : eval (.Call (.Attribute o m apos) [] [] pos) X.env = (do
      let ov ← eval o X.env
      standAt apos.atName
      let (f, first) ← holding [ov] (getMethod ov m pl)
      callWith pos f first (backTo pos (starEach [] X.env)) (backToKw pos (keywordEach [] X.env)))) :
    PE X (.Call (.Attribute o m apos) [] [] pos) (tE Z W (bMeth mt eo bNil c)) := by
  refine ⟨fun pins sh σ H Q I t => ?_⟩
  obtain ⟨s, σL, e1, ok, rs, q⟩ := t
  refine PySem.W.methodCall_KW (pl := pl) (thn (ho.run pins sh σ H (fun v H1 => ∃ s1 d, s1.H = H1 ∧ Ok3 Z s1 ∧ RSt Z s1 σL σ ∧ RD Z s1 d v ∧ PostV Z s1 (match insC s1.h d with
    | some (_, k) => match mt k with
      | some f => c f [d] s1.h
      | none => .bad
    | none => .bad) (QQ Z Q) (EE Z W σ)) I ⟨s, σL, e1, ok, rs, q.bind.mono (fun d s1 l1 ok1 q1 v rv => ⟨s1, d, rfl, ok1, rs.le ok l1, rv, q1⟩) fun _ _ _ _ _ q => q⟩) fun u s1 ⟨x, H1, I1, rx, s3, d, eh, ok3, rs3, rd, q3⟩ => ?_) ht
  subst eh
  cases ei : insC s3.h d with
  | none => rw [ei] at q3; exact q3.elim
  | some nk =>
    obtain ⟨n, k⟩ := nk
    rw [ei] at q3
    simp only at q3
    cases em : mt k with
    | none => rw [em] at q3; exact q3.elim
    | some f =>
      rw [em] at q3
      simp only at q3
      obtain ⟨rfl, a, dx, fs, fs', rfl, hm, hh, hH, hf⟩ := insC_at ok3 ei rd
      obtain ⟨cl, me, ⟨fd, ps, _, F, hb⟩, hk⟩ := M.cls k f em
      obtain rfl : u = Value.ref a := rx
      refine getmeth_ok I1 hH cl me (hf.none M.fld) ?_
      exact PySem.W.callWith_K0 (first := [.ref a]) I1.kIn me.kp (run_fnS (us := [.ref a]) (vs := [.ref a]) (E := WE W) F hr hb (passAt tk σ) I1 (.cons rfl .nil) (spF_of ok3 rfl q3 _ (.cons (.ref hm) .nil)))
/-! ### making -/
theorem run_makeS {lev : Nat} {C f : Addr} {fd : FuncData} {ps : List PySem.Str} {sp : Sp} {E : XK} {pins : List (Addr × Obj)} {σ : L2.St} {H : Hp} {s : Shared} {Q : VK} {us : List Value} {vs : List V} (M : Mk X.K C f) (F : FnOk X.prog X.w X.K X.mg X.base (L2.CX X.prog X.w) lev f fd ps sp) (hr : Room (lev + 1) X.A) (hb : Binds X.K fd ps [])
    (hx : PassesAt (L2.CX X.prog X.w) X σ E) (I : L2.Inv X pins σ H s) (r : Vals vs us)
    (h : ∀ x dx, H x = none → H dx = none → dx ≠ x → sp (.ref x :: vs) (upd (upd H dx (.own x)) x (.ins C dx [])) (fun v H2 => v = .non ∧ Q (.ref x) H2) E) :
    wpAny (model X.prog X.w) X.A (call (.ref C) us) (EP X pins σ Q) X.xe s := by
  have hq := h (s.heap.objs.size + 1) s.heap.objs.size (I.hok.fresh (Nat.le_succ _)) (I.hok.fresh (Nat.le_refl _)) (Nat.ne_of_lt (Nat.lt_succ_self _))
  have I2 := Inv.made (C := C) I
  have r2 : Vals (V.ref (s.heap.objs.size + 1) :: vs) (Value.ref (s.heap.objs.size + 1) :: us) := .cons rfl r
  have hl : (Value.ref (s.heap.objs.size + 1) :: us).length = ps.length := by
    have e := r2.length
    rw [F.len _ _ _ _ hq] at e
    exact e.symm
  have b := hb _ (Value.ref (s.heap.objs.size + 1) :: us) I2.kIn (by rw [List.append_nil]; exact hl)
  rw [List.append_nil] at b
  refine wpAny_call (make_map (f := f) I.kIn M.makes M.init (beq_iff_eq.mp M.fn) (codeAny_mono (F.run _ X.stack _ _ ⟨Value.ref (s.heap.objs.size + 1) :: us, []⟩ (Value.ref (s.heap.objs.size + 1) :: us) _ _ E (hr.make C us [])
    (I2.env0.make C us []) b r2 hq) fun r s' hq' => ?_))
  cases r with
  | error e => exact hx pins _ _ e s' I2 hq'
  | ok fl =>
    cases fl with
    | ret u =>
      obtain ⟨v, H', I3, rv, ev, q3⟩ := I2.after hq'
      subst ev
      exact ⟨rv, ⟨V.ref (s.heap.objs.size + 1), H', I3, rfl, q3⟩⟩
    | next => exact False.elim hq'
    | brk => exact False.elim hq'
    | cont => exact False.elim hq'
/-- a class that is made by its __init__ -/
structure MakeOk (X : Cx) (Z : Sta) (c : Calls) (lev k n ar : Nat) : Prop where
  mkk : Mk X.K (Z.ca k) (Z.fa n)
  df : DefOk X Z c lev n (ar + 1)
theorem make_post {k n ar : Nat} {s : S3} {ds : List D} {vs : List V} {Q : VK} {σ : L2.St} (ok : Ok3 Z s) (hl : ds.length = ar) (r : RDs Z s ds vs) (q : PostV Z s ((c n (.ref s.h.length :: ds) (s.h ++ [.ins k []])).bind fun r h2 => match r with | .non => .ok (.ref s.h.length) h2 | _ => .bad) (QQ Z Q) (EE Z W σ)) :
    ∀ x dx, s.H x = none → s.H dx = none → dx ≠ x → spF Z c n (ar + 1) (.ref x :: vs) (upd (upd s.H dx (.own x)) x (.ins (Z.ca k) dx [])) (fun v H2 => v = .non ∧ Q (.ref x) H2) (WE W σ) := fun x dx hx hdx ne => by
  have l1 := Le.tmp (s := s) (o := .own x) hdx
  have ok1 := ok.tmp (o := .own x) hdx
  have hx1 : upd s.H dx (.own x) x = none := by rw [upd_ne (fun e : x = dx => ne e.symm)]; exact hx
  have l2 := Le.push (s := ⟨s.m, s.h, upd s.H dx (.own x), s.pr, s.xc⟩) (o := .ins k []) (u := .ins (Z.ca k) dx []) ok1 hx1
  have ok2 := ok1.push (s := ⟨s.m, s.h, upd s.H dx (.own x), s.pr, s.xc⟩) (o := .ins k []) (u := .ins (Z.ca k) dx []) hx1 ⟨dx, [], upd_same, .nil⟩
  have l := l1.trans l2
  have e0 : ((⟨s.m, s.h, upd s.H dx (.own x), s.pr, s.xc⟩ : S3).push x (.ins k []) (.ins (Z.ca k) dx [])).m[s.h.length]? = some x := by
    show (s.m ++ [x])[s.h.length]? = some x
    rw [← ok.len]; simp
  refine ⟨_, .ref s.h.length :: ds, rfl, ok2, .cons (.ref e0) (r.le ok l), by rw [List.length_cons, hl], ?_⟩
  refine (PostV.back q.bind l).mono (fun d s3 l3 ok3 q3 v rv => ?_) fun _ _ _ _ _ q => q
  cases d with
  | non =>
    cases rv
    exact ⟨rfl, q3 s3 rfl (Le.refl _) ok3 _ (.ref (l3.at e0))⟩
  | _ => exact q3.elim
theorem sd_make {lev k n ar : Nat} {x : PySem.Str} {e : Expr} {es : List Expr} {er : DEs} (M : MakeOk X Z c lev k n ar) (hr : Room (lev + 1) X.A) (hg : Gl X x) (hm : X.mg x = some (.ref (Z.ca k))) (tk : Takes X W) (hn : Ln ar er) (ha : PA X (e :: es) (tEs Z W (er c)))
    (hdb : (x == ("__debug__" : PySem.Str)) = false) (he : starEach (e :: es) X.env = (false, eval e X.env) :: starEach es X.env) (hpl : (backTo pos (starEach es X.env)).any (·.1) = false) : PE X (.Call (.Name x p) (e :: es) [] pos) (tE Z W (bMake k n er c)) := by
  obtain ⟨mk, ⟨fd, ps, _, F, hb⟩, hk⟩ := M
  refine ⟨fun pins sh σ H Q I t => ?_⟩
  obtain ⟨s, σL, e1, ok, rs, q⟩ := t
  refine wpAny_Call_Name_kw (ld_glob I hg hm ?_ hdb)
  refine PySem.W.callWith_K (h₀ := X.base) I.ok.mod.kin mk.kp (thn (ha.run pos pins sh σ H (fun vs H1 => ∀ x dx, H1 x = none → H1 dx = none → dx ≠ x → spF Z c n (ar + 1) (.ref x :: vs) (upd (upd H1 dx (.own x)) x (.ins (Z.ca k) dx [])) (fun v H2 => v = .non ∧ Q (.ref x) H2) (WE W σ)) I ?_) fun us s1 ⟨vs, H1, I1, r, q⟩ => ⟨I1.kIn, ?_⟩) he hpl
  · exact ⟨s, σL, e1, ok, rs, (PostV.ln (α := Nat) hn q.bind).mono (fun ds s1 l1 ok1 q1 vs rv => make_post ok1 q1.1 rv q1.2) fun _ _ _ _ _ q => q⟩
  · exact run_makeS mk F hr hb (passAt tk σ) I1 r q
theorem sd_make0 {lev k n : Nat} {x : PySem.Str} (M : MakeOk X Z c lev k n 0) (hr : Room (lev + 1) X.A) (hg : Gl X x) (hm : X.mg x = some (.ref (Z.ca k))) (tk : Takes X W) (hdb : (x == ("__debug__" : PySem.Str)) = false) :
    PE X (.Call (.Name x p) [] [] pos) (tE Z W (bMake k n bNil c)) := by
  obtain ⟨mk, ⟨fd, ps, _, F, hb⟩, hk⟩ := M
  refine ⟨fun pins sh σ H Q I t => ?_⟩
  obtain ⟨s, σL, rfl, ok, rs, q⟩ := t
  refine wpAny_Call_Name_kw (ld_glob I hg hm ?_ hdb)
  exact PySem.W.callWith_K0 I.kIn mk.kp (run_makeS (us := []) mk F hr hb (passAt tk σ) I .nil (make_post ok rfl .nil q))
/-! ### fields -/
structure FldOk (X : Cx) (Z : Sta) (f : Nat) (na : Nat → Bool) : Prop where
  ok : ∀ k, na k = true → Cls X.K (Z.ca k) ∧ NoAttr X.K (Z.ca k) (Z.fld f)
theorem sd_fld {f : Nat} {na : Nat → Bool} {o : Expr} {m : PySem.Str} {eo : DE} (hm : Z.fld f = m) (F : FldOk X Z f na) (ho : PE X o (tE Z W (eo c))) (hb : attributeBase o m X.env (eval o X.env) = eval o X.env) : PE X (.Attribute o m pos) (tE Z W (bFld na f eo c)) := by
  subst hm
  refine (pe_fld ho hb).imp fun σ H Q t => ?_
  refine tE.bind (e := eo c) (f := fun σ x h1 => optO (fldV na h1 f x) h1) t fun s σL d v ok rs r p => ?_
  obtain ⟨z, ez, hz⟩ := post_opt p
  cases d with
  | ref n =>
    simp only [fldV] at ez
    split at ez
    · rename_i k fs e
      split at ez
      · rename_i hna
        have ei : insC s.h (.ref n) = some (n, k) := by simp only [insC, e]
        obtain ⟨_, a, dx, fs2, fs', rfl, hm, hh, hH, hf⟩ := insC_at ok ei r
        rw [e] at hh
        cases hh
        obtain ⟨v2, hl, rv⟩ := hf.get ez
        exact ⟨a, Z.ca k, dx, fs', v2, rfl, hH, (F.ok k hna).1, (F.ok k hna).2, hl, hz s rfl (Le.refl _) ok v2 rv⟩
      · cases ez
    · cases ez
  | _ => cases ez
end
end Bh
/-! Bh, part 10: statements. -/
namespace Bh
open PySem PySem.Spec PyProof.Rows L2
def isOwn : Sl → Bool
  | .ol _ => true
  | .od _ => true
  | _ => false
/-- from a def's begin on -/
structure Fr (s0 s : S3) : Prop where
  pre : ∃ t, s.m = s0.m ++ t
  keep : ∀ a o, s0.H a = some o → ¬ Hm s0 a → s.H a = some o
  new : ∀ a, Hm s a → Hm s0 a ∨ s0.H a = none
  pr1 : ∀ a, s0.pr a → s.pr a
  pr2 : ∀ a, s.pr a → s0.pr a ∨ s0.H a = none
  dom : ∀ a o, s0.H a = some o → ∃ o', s.H a = some o'
  old : ∀ a, s0.pr a → ∃ o, s0.H a = some o
theorem Fr.refl {Z : Sta} {s : S3} (ok : Ok3 Z s) : Fr s s := ⟨⟨[], by simp⟩, fun _ _ h _ => h, fun _ h => .inl h, fun _ h => h, fun _ h => .inl h, fun _ o h => ⟨o, h⟩, fun _ h => ok.prS h⟩
theorem Fr.nhm {s0 s : S3} (f : Fr s0 s) {a : Addr} {o : HO} (h : s0.H a = some o) (n : ¬ Hm s0 a) : ¬ Hm s a := fun q => by
  rcases f.new a q with z | z
  · exact n z
  · rw [h] at z; cases z
theorem Fr.le {s0 s s' : S3} (f : Fr s0 s) (l : Le s s') : Fr s0 s' := by
  refine ⟨?_, fun a o h n => l.keep a o (f.keep a o h n) (f.nhm h n), fun a q => ?_, fun a q => by rw [l.prs]; exact f.pr1 a q, fun a q => by rw [l.prs] at q; exact f.pr2 a q, fun a o h => by obtain ⟨o', h'⟩ := f.dom a o h; exact l.dom a o' h', f.old⟩
  · obtain ⟨t, e⟩ := f.pre
    obtain ⟨u, e'⟩ := l.pre
    exact ⟨t ++ u, by rw [e', e, List.append_assoc]⟩
  · rcases l.new a q with z | z
    · exact f.new a z
    · by_cases m : Hm s0 a
      · exact .inl m
      · cases e : s0.H a with
        | none => exact .inr rfl
        | some o => rw [f.keep a o e m] at z; cases z
/-- a def's state: its slots, since its begin -/
structure Lc (Z : Sta) (s0 s : S3) (σL : DSt) (σ : L2.St) : Prop where
  rs : RSt Z s σL σ
  fr : Fr s0 s
  fresh : ∀ (i : Nat) (sl : Sl) (a : Addr), σL[i]? = some sl → isOwn sl = true → σ[i]? = some (some (.ref a)) → s0.H a = none
  inj : ∀ (i j : Nat) (sl sl' : Sl) (a : Addr), σL[i]? = some sl → isOwn sl = true → σL[j]? = some sl' → isOwn sl' = true → σ[i]? = some (some (.ref a)) → σ[j]? = some (some (.ref a)) → i = j
theorem Lc.le {Z : Sta} {s0 s s' : S3} {σL : DSt} {σ : L2.St} (c : Lc Z s0 s σL σ) (ok : Ok3 Z s) (l : Le s s') : Lc Z s0 s' σL σ := ⟨c.rs.le ok l, c.fr.le l, c.fresh, c.inj⟩
theorem set_cases {α : Type} {l : List α} {i j : Nat} {a b : α} (h : (l.set i a)[j]? = some b) : (i = j ∧ b = a ∧ i < l.length) ∨ (i ≠ j ∧ l[j]? = some b) := by
  by_cases e : i = j
  · subst e
    by_cases lt : i < l.length
    · rw [List.getElem?_set_self lt] at h
      exact .inl ⟨rfl, (Option.some.inj h).symm, lt⟩
    · rw [List.getElem?_eq_none (by simpa using lt)] at h; cases h
  · rw [List.getElem?_set_ne e] at h
    exact .inr ⟨e, h⟩
theorem Lc.setv {Z : Sta} {s0 s : S3} {σL : DSt} {σ : L2.St} (c : Lc Z s0 s σL σ) {d : D} {v : V} (q : RD Z s d v) (i : Nat) : Lc Z s0 s (σL.set i (.v d)) (σ.set i (some v)) := by
  refine ⟨c.rs.set (d := .v d) q i, c.fr, fun j sl a h ho hv => ?_, fun j k sl sl' a h1 o1 h2 o2 v1 v2 => ?_⟩
  · rcases set_cases h with ⟨_, e, _⟩ | ⟨ne, h⟩
    · subst e; cases ho
    · rw [List.getElem?_set_ne ne] at hv
      exact c.fresh j sl a h ho hv
  · rcases set_cases h1 with ⟨_, e, _⟩ | ⟨n1, h1⟩
    · subst e; cases o1
    · rcases set_cases h2 with ⟨_, e, _⟩ | ⟨n2, h2⟩
      · subst e; cases o2
      · rw [List.getElem?_set_ne n1] at v1
        rw [List.getElem?_set_ne n2] at v2
        exact c.inj j k sl sl' a h1 o1 h2 o2 v1 v2
def PostS (Z : Sta) (s0 : S3) (W : WX) (s : S3) (o : OutS) (D : Ends) : Prop :=
  match o with
  | .nx σL h => ∀ s' σ', s'.h = h → Lq s s' → s'.xc = s.xc → Ok3 Z s' → Lc Z s0 s' σL σ' → D.nx σ' s'.H
  | .bk σL h => ∀ s' σ', s'.h = h → Lq s s' → s'.xc = s.xc → Ok3 Z s' → Lc Z s0 s' σL σ' → D.bk σ' s'.H
  | .ct σL h => ∀ s' σ', s'.h = h → Lq s s' → s'.xc = s.xc → Ok3 Z s' → Lc Z s0 s' σL σ' → D.ct σ' s'.H
  | .rt d h => ∀ s' v, s'.h = h → Ok3 Z s' → Fr s0 s' → RD Z s' d v → D.rt v s'.H
  | .ex c fs σL h => ∀ s' σ' cls dd, s'.h = h → Lq s s' → s'.xc = s.xc → Ok3 Z s' → Lc Z s0 s' σL σ' → XD Z s' c fs cls dd → W cls dd σ' s'.H
  | .bad => False
theorem PostS.back {Z : Sta} {s0 s s1 : S3} {W : WX} {o : OutS} {D : Ends} (h : PostS Z s0 W s o D) (l : Lq s s1) (x : s1.xc = s.xc) : PostS Z s0 W s1 o D := by
  cases o with
  | nx σ g => exact fun s' σ' e l' x' => h s' σ' e (l.trans l') (x'.trans x)
  | bk σ g => exact fun s' σ' e l' x' => h s' σ' e (l.trans l') (x'.trans x)
  | ct σ g => exact fun s' σ' e l' x' => h s' σ' e (l.trans l') (x'.trans x)
  | rt d g => exact h
  | ex c fs σ g => exact fun s' σ' cls dd e l' x' => h s' σ' cls dd e (l.trans l') (x'.trans x)
  | bad => exact h
def tS (Z : Sta) (s0 : S3) (W : WX) (e : DSt → LH → OutS) : TS := fun D σ H => ∃ s σL, s.H = H ∧ Ok3 Z s ∧ Lc Z s0 s σL σ ∧ PostS Z s0 W s (e σL s.h) D
def Out.toS {α : Type} (o : Out α) (σ : DSt) (f : α → LH → OutS) : OutS := match o with
  | .ok a h => f a h
  | .ex c fs h => .ex c fs σ h
  | .bad => .bad
theorem PostS.toS {α : Type} {Z : Sta} {s0 s : S3} {W : WX} {o : Out α} {f : α → LH → OutS} {D : Ends} {σL : DSt} {σ : L2.St} (lc : Lc Z s0 s σL σ) (ok : Ok3 Z s) (h : PostS Z s0 W s (o.toS σL f) D) : PostV Z s o (fun a s1 => PostS Z s0 W s1 (f a s1.h) D) (EE Z W σ) := by
  cases o with
  | ok a g => intro s' e l' k; subst e; exact PostS.back h l'.lq l'.xcs
  | ex c fs g => intro s' e l' k cls dd x; exact h s' σ cls dd e l'.lq l'.xcs k (lc.le ok l') x
  | bad => exact h
theorem _root_.L2.PS.imp {X : Cx} {e : Stmt} {t t' : TS} (h : PS X e t) (i : ∀ D σ H, t' D σ H → t D σ H) : PS X e t' := ⟨fun pins s σ H D I q => h.run pins s σ H D I (i D σ H q)⟩
theorem _root_.L2.PSs.imp {X : Cx} {e : List Stmt} {t t' : TS} (h : PSs X e t) (i : ∀ D σ H, t' D σ H → t D σ H) : PSs X e t' := ⟨fun pins s σ H D I q => h.run pins s σ H D I (i D σ H q)⟩
/-! ### combinators -/
def bSkip : DS := fun _ σ h => .nx σ h
def bSeq (a b : DS) : DS := fun c σ h => match a c σ h with
  | .nx σ' h' => b c σ' h'
  | o => o
def bEx (e : DE) : DS := fun c σ h => (e c σ h).toS σ fun _ h1 => .nx σ h1
def bSet (i : Nat) (e : DE) : DS := fun c σ h => (e c σ h).toS σ fun d h1 => .nx (σ.set i (.v d)) h1
def bSetL (i : Nat) (e : DEs) : DS := fun c σ h => (e c σ h).toS σ fun xs h1 => .nx (σ.set i (.ol xs)) h1
def bRet (e : DE) : DS := fun c σ h => (e c σ h).toS σ fun d h1 => .rt d h1
def bRetN : DS := fun _ _ h => .rt .non h
def bIfS (t : DT) (a b : DS) : DS := fun c σ h => (t c σ h).toS σ fun k h1 => if k = true then a c σ h1 else b c σ h1
/-- what a def alone knows becomes a value -/
def frzSl : Sl → Sl
  | .ol xs => .v (.lst xs)
  | .od ks => .v (.dic ks)
  | s => s
def bFrz (i : Nat) : DS := fun _ σ h => .nx (match σ[i]? with | some sl => σ.set i (frzSl sl) | none => σ) h
section
variable {X : Cx} {Z : Sta} {s0 : S3} {W : WX} {c : Calls} {pos p : Pos}
/-- an expression's way into a statement -/
theorem tS.expr {e : DSt → LH → Out D} {k : DSt → D → LH → OutS} {D : Ends} {σ : L2.St} {H : Hp} {Q : VK} (h : tS Z s0 W (fun σ h => (e σ h).toS σ fun d h1 => k σ d h1) D σ H)
    (q : ∀ s σL d v, Ok3 Z s → Lc Z s0 s σL σ → RD Z s d v → PostS Z s0 W s (k σL d s.h) D → Q v s.H) : tE Z W e σ H Q := by
  obtain ⟨s, σL, e1, ok, lc, p⟩ := h
  exact ⟨s, σL, e1, ok, lc.rs, (p.toS lc ok).mono (fun d s' l k' q' v r => q s' σL d v k' (lc.le ok l) r q') fun _ _ _ _ _ q => q⟩
theorem ss_skip : PSs X [] (tS Z s0 W (bSkip c)) := pss_nil.imp fun D σ H t => by
  obtain ⟨s, σL, rfl, ok, lc, p⟩ := t
  exact p s σ rfl (Lq.refl s) rfl ok lc
theorem PostS.seq {a b : DS} {D : Ends} {σL : DSt} {s : S3} (p : PostS Z s0 W s (bSeq a b c σL s.h) D) : PostS Z s0 W s (a c σL s.h) { D with nx := tS Z s0 W (b c) D } := by
  unfold bSeq at p
  cases e : a c σL s.h with
  | nx σ' h' => rw [e] at p; intro s' σ2 e1 l x ok lc; subst e1; exact ⟨s', σ', rfl, ok, lc, PostS.back p l x⟩
  | rt d h' => rw [e] at p; exact p
  | bk σ' h' => rw [e] at p; exact p
  | ct σ' h' => rw [e] at p; exact p
  | ex _ _ _ _ => rw [e] at p; exact p
  | bad => rw [e] at p; exact p
theorem ss_cons {st : Stmt} {rest : List Stmt} {a b : DS} (h1 : PS X st (tS Z s0 W (a c))) (h2 : PSs X rest (tS Z s0 W (b c))) : PSs X (st :: rest) (tS Z s0 W (bSeq a b c)) := (pss_cons h1 h2).imp fun D σ H t => by
  obtain ⟨s, σL, e1, ok, lc, p⟩ := t
  exact ⟨s, σL, e1, ok, lc, p.seq⟩
theorem ss_one {st : Stmt} {a : DS} (h1 : PS X st (tS Z s0 W (a c))) : PSs X [st] (tS Z s0 W (a c)) := pss_one h1
theorem ss_pass : PS X (.Pass pos) (tS Z s0 W (bSkip c)) := ps_pass.imp fun D σ H t => by
  obtain ⟨s, σL, rfl, ok, lc, p⟩ := t
  exact p s σ rfl (Lq.refl s) rfl ok lc
theorem ss_doc {x : PySem.Str} {j : Nat} : PS X (.Expr (.Constant (.str x) j p) pos) (tS Z s0 W (bSkip c)) := ps_doc.imp fun D σ H t => by
  obtain ⟨s, σL, rfl, ok, lc, p⟩ := t
  exact p s σ rfl (Lq.refl s) rfl ok lc
theorem ss_expr {e : Expr} {ee : DE} (he : PE X e (tE Z W (ee c))) (hs : swapsWith e none pos.line X.env = pure false) : PS X (.Expr e pos) (tS Z s0 W (bEx ee c)) := (ps_expr he hs).imp fun D σ H t =>
  tS.expr (k := fun σ _ h1 => .nx σ h1) t fun s σL d v ok lc r p => p s σ rfl (Lq.refl s) rfl ok lc
theorem ss_set {i : Nat} {x : PySem.Str} {e : Expr} {ee : DE} (hN : X.N.Nodup) (hi : X.N[i]? = some x) (hx : Loc X.env.scope x) (he : PE X e (tE Z W (ee c))) (hs : swapsWith e (some (.Name x p)) pos.line X.env = pure false) (hf : X.fn x = true ∨ X.env.scope.names.lookup x = some .local) :
    PS X (.Assign [.Name x p] e pos) (tS Z s0 W (bSet i ee c)) := (ps_set hN hi hx he hs hf).imp fun D σ H t =>
  tS.expr (k := fun σ d h1 => .nx (σ.set i (.v d)) h1) t fun s σL d v ok lc r p => p s _ rfl (Lq.refl s) rfl ok (lc.setv r i)
/-- a new list or dict that the def alone knows, in slot i -/
theorem Lc.newO {s : S3} {σL : DSt} {σ : L2.St} (lc : Lc Z s0 s σL σ) (ok : Ok3 Z s) {p : Addr} {u : HO} {sl : Sl} (hp : s.H p = none) (i : Nat) (hsl : isOwn sl = true) (hr : RSl Z ⟨s.m, s.h, upd s.H p u, fun a => s.pr a ∨ a = p, s.xc⟩ sl (.ref p)) :
    Lc Z s0 ⟨s.m, s.h, upd s.H p u, fun a => s.pr a ∨ a = p, s.xc⟩ (σL.set i sl) (σ.set i (some (.ref p))) := by
  have l := Lq.newO (u := u) hp
  have hp0 : s0.H p = none := by
    cases e : s0.H p with
    | none => rfl
    | some o => obtain ⟨o', e'⟩ := lc.fr.dom p o e; rw [e'] at hp; cases hp
  have there : ∀ (j : Nat) (sl' : Sl), σL[j]? = some sl' → isOwn sl' = true → ∀ a, σ[j]? = some (some (V.ref a)) → s.pr a := fun j sl' h ho a hv => by
    obtain ⟨v, e1, r⟩ := lc.rs.2 j sl' h (fun z => by subst z; cases ho)
    rw [e1] at hv
    cases hv
    cases sl' with
    | ol xs => obtain ⟨b, e2, hb, _⟩ := r; cases e2; exact hb
    | od xs => obtain ⟨b, e2, hb, _⟩ := r; cases e2; exact hb
    | _ => cases ho
  refine ⟨?_, ⟨lc.fr.pre, fun a o h n => ?_, fun a q => lc.fr.new a q, fun a q => .inl (lc.fr.pr1 a q), fun a q => ?_, fun a o h => ?_, lc.fr.old⟩, fun j sl' a h ho hv => ?_, fun j k sl1 sl2 a h1 o1 h2 o2 v1 v2 => ?_⟩
  · have old : RSt Z ⟨s.m, s.h, upd s.H p u, fun a => s.pr a ∨ a = p, s.xc⟩ σL σ := ⟨lc.rs.1, fun j sl' h hn => by
      obtain ⟨v, e1, r⟩ := lc.rs.2 j sl' h hn
      refine ⟨v, e1, ?_⟩
      cases sl' with
      | no => trivial
      | v d => exact RD.lq ok l r
      | ol xs =>
        obtain ⟨b, e2, hb, vs, h3, q⟩ := r
        exact ⟨b, e2, .inl hb, vs, (upd_ne (ne_of_none h3 hp)).trans h3, RDs.lq ok l q⟩
      | od xs =>
        obtain ⟨b, e2, hb, vs, h3, q⟩ := r
        exact ⟨b, e2, .inl hb, vs, (upd_ne (ne_of_none h3 hp)).trans h3, RDk.lq ok l q⟩
      | ex c fs =>
        obtain ⟨b, cls, dd, e2, h3, x⟩ := r
        exact ⟨b, cls, dd, e2, h3, x.lq ok l⟩⟩
    exact old.set hr i
  · show upd s.H p u a = _
    rw [upd_ne (ne_of_none h hp0)]
    exact lc.fr.keep a o h n
  · rcases q with q | q
    · exact lc.fr.pr2 a q
    · subst q; exact .inr hp0
  · obtain ⟨o', h'⟩ := lc.fr.dom a o h
    exact upd_dom a o' h'
  · rcases set_cases h with ⟨e, _, lt⟩ | ⟨ne, h⟩
    · subst e
      rw [List.getElem?_set_self (by rw [← lc.rs.1]; exact lt)] at hv
      cases hv
      exact hp0
    · rw [List.getElem?_set_ne ne] at hv
      exact lc.fresh j sl' a h ho hv
  · rcases set_cases h1 with ⟨e1, _, lt⟩ | ⟨n1, h1⟩
    · rcases set_cases h2 with ⟨e2, _, _⟩ | ⟨n2, h2⟩
      · rw [← e1, ← e2]
      · subst e1
        rw [List.getElem?_set_self (by rw [← lc.rs.1]; exact lt)] at v1
        cases v1
        rw [List.getElem?_set_ne n2] at v2
        exact absurd rfl (pr_ne ok hp (there k sl2 h2 o2 _ v2))
    · rw [List.getElem?_set_ne n1] at v1
      rcases set_cases h2 with ⟨e2, _, lt⟩ | ⟨n2, h2⟩
      · subst e2
        rw [List.getElem?_set_self (by rw [← lc.rs.1]; exact lt)] at v2
        cases v2
        exact absurd rfl (pr_ne ok hp (there j sl1 h1 o1 _ v1))
      · rw [List.getElem?_set_ne n2] at v2
        exact lc.inj j k sl1 sl2 a h1 o1 h2 o2 v1 v2
end
end Bh
/-! Bh, part 11: what holds of the trees as such. -/
namespace Bh
open PySem PySem.Spec PyProof.Rows L2
def plainE : Expr → Bool
  | .Starred .. => false
  | .Slice .. => false
  | _ => true
theorem star_cons {e : Expr} {es : List Expr} {env : Env} (h : plainE e = true) : starEach (e :: es) env = (false, eval e env) :: starEach es env := by
  cases e <;> first | rfl | cases h
theorem star_any {es : List Expr} {env : Env} {pos : Pos} (h : es.all plainE = true) : (backTo pos (starEach es env)).any (·.1) = false := by
  induction es with
  | nil => rfl
  | cons e es ih =>
    rw [List.all_cons, Bool.and_eq_true] at h
    rw [star_cons h.1]
    show (false || (backTo pos (starEach es env)).any (·.1)) = false
    rw [Bool.false_or]
    exact ih h.2
theorem star_few {es : List Expr} {env : Env} {pos : Pos} (h : es.all plainE = true) (hl : es.length < 30) : ((backTo pos (starEach es env)).all (fun x => !x.1) && (backToKw pos (keywordEach [] env)).all (fun x => x.1.isSome)
      && decide (es.length + ([] : List Keyword).length + (if ([] : List Keyword).isEmpty then 0 else 1) < 30)) = true := by
  have h1 : (backTo pos (starEach es env)).all (fun x => !x.1) = true := by
    clear hl
    induction es with
    | nil => rfl
    | cons e es ih =>
      rw [List.all_cons, Bool.and_eq_true] at h
      rw [star_cons h.1]
      show (true && (backTo pos (starEach es env)).all (fun x => !x.1)) = true
      rw [Bool.true_and]
      exact ih h.2
  rw [h1]
  simp [keywordEach, backToKw]
  exact hl
def plainT : Expr → Bool
  | .UnaryOp .Not _ _ => false
  | .BoolOp .. => false
  | .IfExp .. => false
  | .Compare .. => false
  | _ => true
theorem true_plain {e : Expr} {env : Env} (h : plainT e = true) : ∀ whole, isTrue e env whole = (do let v ← whole; standAt e.pos; holding [v] (truthy v)) := by
  intro whole
  cases e with
  | UnaryOp op a p => cases op <;> first | rfl | cases h
  | BoolOp => cases h
  | IfExp => cases h
  | Compare => cases h
  | _ => rfl
def plainB : Expr → Bool
  | .Call (.Name id _) [] [] _ => !(id == ("super" : PySem.Str))
  | _ => true
theorem base_plain {o : Expr} {m : PySem.Str} {env : Env} (h : plainB o = true) : attributeBase o m env (eval o env) = eval o env := by
  cases o with
  | Call f args kws pos =>
    cases f with
    | Name id p =>
      cases args with
      | nil =>
        cases kws with
        | nil =>
          unfold attributeBase
          have e : (id != ("super" : PySem.Str)) = true := by
            simp only [plainB] at h
            simpa [bne] using h
          simp only [e, Bool.true_or, if_true]
          try rfl
        | cons _ _ => rfl
      | cons _ _ => rfl
    | _ => rfl
  | _ => rfl
theorem ix_plain {i : Expr} (h : plainE i = true) : PlainIx i := by
  intro o v
  cases i <;> first | rfl | cases h
theorem asg_sub {o i : Expr} {env : Env} {pos : Pos} (h : plainE i = true) : ∀ v, assign (.Subscript o i pos) env v = (do
      let ov ← holding [v] (eval o env)
      let iv ← holding [v, ov] (eval i env)
      standAt pos
      holding [v, ov, iv] (setItem ov iv v)
      release [v, ov, iv] []) := by
  intro v
  first | rfl | (cases i <;> first | rfl | cases h)
def noComp : Expr → Bool
  | .ListComp .. => false
  | .SetComp .. => false
  | .DictComp .. => false
  | _ => true
theorem swaps_no {e : Expr} {t : Option Expr} {n : Nat} {env : Env} (h : noComp e = true) : swapsWith e t n env = pure false := by
  cases e <;> first | rfl | cases h
theorem swaps_sole {t e : Expr} {n : Nat} {env : Env} (h : noComp e = true) : swapsWithSole [t] e n env = pure false := swaps_no h
theorem folded_no {e : Expr} {env : Env} (h : ∀ a b c, e ≠ .Set a b c) : ∀ x, foldedSetIterable e env x = pure x := by
  intro x
  cases e <;> first | rfl | exact absurd rfl (h _ _ _)
def noSet : Expr → Bool
  | .Set .. => false
  | _ => true
theorem folded_ok {e : Expr} {env : Env} (h : noSet e = true) : ∀ x, foldedSetIterable e env x = pure x := folded_no fun a b c z => by subst z; cases h
theorem behind_ok {e : Expr} {op : CmpOp} (h : noSet e = true) : behindInMarks op e = false := by cases e <;> first | rfl | cases h
theorem last_ok {o1 o2 : CmpOp} {a b : Expr} (h : noSet b = true) : lastMarks [o1, o2] [a, b] = false := by
  show behindInMarks o2 b = false
  exact behind_ok h
theorem stores_one {t : Expr} {e : Expr} {env : Env} (h : (match t with | .Tuple .. => false | .List .. => false | _ => true) = true) : swappedStores [t] e env = pure none := by
  cases t <;> first | rfl | cases h
theorem stores_val {t : Expr} {e : Expr} {env : Env} (h : (match e with | .Tuple .. => false | _ => true) = true) : swappedStores [t] e env = pure none := by
  cases t <;> cases e <;> first | rfl | cases h
theorem asg_each {t : Expr} {env : Env} (h : plainE t = true) : (assignEach [t] env).map (·.2) = [assign t env] := by
  cases t <;> first | rfl | cases h
theorem form_ok {es : List Expr} {env : Env} {pos : Pos} (h : es.all plainE = true) (hl : es.length < 30) : methodCallForm (es.length + 0) (backTo pos (starEach es env)) (backToKw pos (keywordEach [] env)) = true := by
  have q := star_few (env := env) (pos := pos) h hl
  exact q
theorem meth_eval {o : Expr} {m : PySem.Str} {es : List Expr} {env : Env} {apos pos : Pos} (h : plainB o = true) (hes : es.all plainE = true) (hl : es.length < 30) (hline : (apos.endLine == pos.line) = true) :
    eval (.Call (.Attribute o m apos) es [] pos) env = (do
      let ov ← eval o env
      standAt apos.atName
      let (f, first) ← holding [ov] (getMethod ov m (do return (← importBound o env).getD true))
      callWith pos f first (backTo pos (starEach es env)) (backToKw pos (keywordEach [] env))) := by
  have e1 : eval (.Call (.Attribute o m apos) es [] pos) env = (do
      let ov ← attributeBase o m env (eval o env)
      standAt apos.atName
      methodCall o m apos pos env ov (es.length + 0) (backTo pos (starEach es env)) (backToKw pos (keywordEach [] env))) := by rfl
  rw [e1, base_plain h]
  have e2 : ∀ ov, methodCall o m apos pos env ov (es.length + 0) (backTo pos (starEach es env)) (backToKw pos (keywordEach [] env)) = (do
      let (f, first) ← holding [ov] (getMethod ov m (do return (← importBound o env).getD true))
      callWith pos f first (backTo pos (starEach es env)) (backToKw pos (keywordEach [] env))) := fun ov => by
    unfold methodCall
    rw [form_ok hes hl]
    have e3 : methodCallPos true o env apos pos = pure pos := by
      unfold methodCallPos
      rw [hline]
      rfl
    rw [e3]
    rfl
  simp only [e2]
end Bh
/-! Bh, part 12: statements, on. -/
namespace Bh
open PySem PySem.Spec PyProof.Rows L2
section
variable {X : Cx} {Z : Sta} {s0 : S3} {W : WX} {c : Calls} {pos p apos : Pos}
theorem ss_setL {i : Nat} {x : PySem.Str} {e : Expr} {er : DEs} (hN : X.N.Nodup) (hi : X.N[i]? = some x) (hx : Loc X.env.scope x) (he : PE X e (tN Z W (er c))) (hs : swapsWith e (some (.Name x p)) pos.line X.env = pure false) (hf : X.fn x = true ∨ X.env.scope.names.lookup x = some .local) :
    PS X (.Assign [.Name x p] e pos) (tS Z s0 W (bSetL i er c)) := (ps_set hN hi hx he hs hf).imp fun D σ H t => by
  obtain ⟨s, σL, e1, ok, lc, q⟩ := t
  refine ⟨s, σL, e1, ok, lc.rs, (q.toS lc ok).mono (fun ds s1 l1 ok1 q1 vs rv pp hp => ?_) fun _ _ _ _ _ q => q⟩
  have l := Lq.newO (u := .lst vs) hp
  refine q1 ⟨s1.m, s1.h, upd s1.H pp (.lst vs), fun a => s1.pr a ∨ a = pp, s1.xc⟩ _ rfl l rfl (ok1.newO hp (.inl ⟨vs, rfl⟩)) ((lc.le ok l1).newO ok1 hp i rfl ?_)
  exact ⟨pp, rfl, .inr rfl, vs, upd_same, rv.lq ok1 l⟩
theorem ss_ret {e : Expr} {ee : DE} (he : PE X e (tE Z W (ee c))) : PS X (.Return (some e) pos) (tS Z s0 W (bRet ee c)) := (ps_ret he).imp fun D σ H t =>
  tS.expr (k := fun σ d h1 => .rt d h1) t fun s σL d v ok lc r q => q s v rfl ok lc.fr r
theorem ss_retN : PS X (.Return none pos) (tS Z s0 W (bRetN c)) := ps_retN.imp fun D σ H t => by
  obtain ⟨s, σL, rfl, ok, lc, q⟩ := t
  exact q s .non rfl ok lc.fr .non
theorem ss_if {t : Expr} {a b : List Stmt} {et : DT} {ea eb : DS} (ht : PT X t (tB_ Z W (et c))) (ha : PSs X a (tS Z s0 W (ea c))) (hb : PSs X b (tS Z s0 W (eb c))) : PS X (.If t a b pos) (tS Z s0 W (bIfS et ea eb c)) := (ps_if ht ha hb).imp fun D σ H q => by
  obtain ⟨s, σL, e1, ok, lc, q⟩ := q
  refine ⟨s, σL, e1, ok, lc.rs, (q.toS lc ok).mono (fun k s1 l1 ok1 q1 => ?_) fun _ _ _ _ _ q => q⟩
  cases k with
  | true => exact ⟨s1, σL, rfl, ok1, lc.le ok l1, q1⟩
  | false => exact ⟨s1, σL, rfl, ok1, lc.le ok l1, q1⟩
/-- fewer protected: what is not of slot i alone stays -/
theorem RSl.less {s : S3} {sl : Sl} {v : V} (r : RSl Z s sl v) (ok : Ok3 Z s) {a : Addr} (ha : ∀ b, v = .ref b → isOwn sl = true → b ≠ a) : RSl Z ⟨s.m, s.h, s.H, fun b => s.pr b ∧ b ≠ a, s.xc⟩ sl v := by
  have l : Lq s ⟨s.m, s.h, s.H, fun b => s.pr b ∧ b ≠ a, s.xc⟩ := Lq.less fun _ h => h.1
  cases sl with
  | no => trivial
  | v d => exact RD.lq ok l r
  | ol xs =>
    obtain ⟨b, e, hb, vs, h, q⟩ := r
    exact ⟨b, e, ⟨hb, ha b e rfl⟩, vs, h, RDs.lq ok l q⟩
  | od xs =>
    obtain ⟨b, e, hb, vs, h, q⟩ := r
    exact ⟨b, e, ⟨hb, ha b e rfl⟩, vs, h, RDk.lq ok l q⟩
  | ex c fs =>
    obtain ⟨b, cls, dd, e, h, x⟩ := r
    exact ⟨b, cls, dd, e, h, x.lq ok l⟩
theorem Lc.frz {s : S3} {σL : DSt} {σ : L2.St} (lc : Lc Z s0 s σL σ) (ok : Ok3 Z s) {i : Nat} {sl : Sl} (hi : σL[i]? = some sl) : ∃ s', s'.h = s.h ∧ s'.H = s.H ∧ s'.xc = s.xc ∧ Lq s s' ∧ Ok3 Z s' ∧ Lc Z s0 s' (σL.set i (frzSl sl)) σ := by
  cases ho : isOwn sl with
  | false =>
    have e1 : frzSl sl = sl := by cases sl <;> first | rfl | cases ho
    have e2 : σL.set i (frzSl sl) = σL := by
      rw [e1]
      apply List.ext_getElem?
      intro j
      by_cases e : i = j
      · subst e
        rw [List.getElem?_set_self (List.getElem?_eq_some_iff.mp hi).1, hi]
      · rw [List.getElem?_set_ne e]
    rw [e2]
    exact ⟨s, rfl, rfl, rfl, Lq.refl s, ok, lc⟩
  | true =>
    have hn : sl ≠ .no := fun z => by subst z; cases ho
    obtain ⟨v, ev, r⟩ := lc.rs.2 i sl hi hn
    have hv : ∃ a, v = .ref a ∧ s.pr a := by
      cases sl with
      | ol xs => obtain ⟨a, e, hp, _⟩ := r; exact ⟨a, e, hp⟩
      | od xs => obtain ⟨a, e, hp, _⟩ := r; exact ⟨a, e, hp⟩
      | _ => cases ho
    obtain ⟨a, rfl, hpa⟩ := hv
    have l : Lq s ⟨s.m, s.h, s.H, fun b => s.pr b ∧ b ≠ a, s.xc⟩ := Lq.less fun _ h => h.1
    have fr0 := lc.fresh i sl a hi ho ev
    have nmv : ¬ Mv (⟨s.m, s.h, s.H, fun b => s.pr b ∧ b ≠ a, s.xc⟩ : S3) a := fun q => by
      rcases q with q | q
      · exact (ok.prd a hpa).1 q
      · exact q.2 rfl
    refine ⟨⟨s.m, s.h, s.H, fun b => s.pr b ∧ b ≠ a, s.xc⟩, rfl, rfl, rfl, l, ok.less fun _ h => h.1, ⟨⟨by rw [List.length_set]; exact lc.rs.1, fun j sl' h hn' => ?_⟩, ⟨lc.fr.pre, lc.fr.keep, lc.fr.new, fun b hb => ⟨lc.fr.pr1 b hb, fun e => ?_⟩, fun b hb => lc.fr.pr2 b hb.1, lc.fr.dom, lc.fr.old⟩, fun j sl' b h ho' hv' => ?_, fun j k sl1 sl2 b h1 o1 h2 o2 v1 v2 => ?_⟩⟩
    · rcases set_cases h with ⟨e, e2, _⟩ | ⟨ne, h⟩
      · subst e e2
        refine ⟨_, ev, ?_⟩
        cases sl with
        | ol xs =>
          obtain ⟨b, e, hb, vs, h3, q⟩ := r
          cases e
          exact RD.lst h3 nmv (RDs.lq ok l q)
        | od xs =>
          obtain ⟨b, e, hb, vs, h3, q⟩ := r
          cases e
          exact RD.dic (.inl h3) nmv (RDk.lq ok l q)
        | _ => cases ho
      · obtain ⟨w, ew, rw'⟩ := lc.rs.2 j sl' h hn'
        refine ⟨w, ew, rw'.less ok fun b eb ho2 e => ?_⟩
        subst eb e
        exact ne (lc.inj i j sl sl' b hi ho h ho2 ev ew)
    · subst e
      obtain ⟨o, ho'⟩ := lc.fr.old b hb
      rw [fr0] at ho'; cases ho'
    · rcases set_cases h with ⟨e, e2, _⟩ | ⟨ne, h⟩
      · subst e2; cases sl <;> cases ho'
      · exact lc.fresh j sl' b h ho' hv'
    · rcases set_cases h1 with ⟨e, e2, _⟩ | ⟨n1, h1⟩
      · subst e2; cases sl <;> cases o1
      · rcases set_cases h2 with ⟨e, e2, _⟩ | ⟨n2, h2⟩
        · subst e2; cases sl <;> cases o2
        · exact lc.inj j k sl1 sl2 b h1 o1 h2 o2 v1 v2
theorem ss_frz {i : Nat} {sts : List Stmt} {b : DS} (h : PSs X sts (tS Z s0 W (b c))) : PSs X sts (tS Z s0 W (bSeq (bFrz i) b c)) := h.imp fun D σ H t => by
  obtain ⟨s, σL, rfl, ok, lc, p⟩ := t
  unfold bSeq bFrz at p
  cases e : σL[i]? with
  | none => rw [e] at p; exact ⟨s, σL, rfl, ok, lc, p⟩
  | some sl =>
    rw [e] at p
    obtain ⟨s', e1, e2, e3, l, ok', lc'⟩ := lc.frz ok e
    refine ⟨s', _, e2, ok', lc', ?_⟩
    rw [e1]
    exact PostS.back p l e3
/-- what slot i alone knows is changed -/
theorem Lc.upd {s : S3} {σL : DSt} {σ : L2.St} (lc : Lc Z s0 s σL σ) (ok : Ok3 Z s) {i : Nat} {sl sl' : Sl} {a : Addr} {u : HO} (hi : σL[i]? = some sl) (ho : isOwn sl = true) (hv : σ[i]? = some (some (.ref a))) (hp : s.pr a) (ho' : isOwn sl' = true)
    (hr : RSl Z ⟨s.m, s.h, upd s.H a u, s.pr, s.xc⟩ sl' (.ref a)) : Lc Z s0 ⟨s.m, s.h, upd s.H a u, s.pr, s.xc⟩ (σL.set i sl') σ := by
  have l := Lq.own (u := u) hp
  have fr0 := lc.fresh i sl a hi ho hv
  refine ⟨⟨by rw [List.length_set]; exact lc.rs.1, fun j sl2 h hn => ?_⟩, ⟨lc.fr.pre, fun b o h n => ?_, lc.fr.new, lc.fr.pr1, lc.fr.pr2, fun b o h => ?_, lc.fr.old⟩, fun j sl2 b h ho2 hv2 => ?_, fun j k sl1 sl2 b h1 o1 h2 o2 v1 v2 => ?_⟩
  · rcases set_cases h with ⟨e, e2, _⟩ | ⟨ne, h⟩
    · subst e e2
      exact ⟨_, hv, hr⟩
    · obtain ⟨w, ew, rw'⟩ := lc.rs.2 j sl2 h hn
      refine ⟨w, ew, ?_⟩
      cases sl2 with
      | no => trivial
      | v d => exact RD.lq ok l rw'
      | ol xs =>
        obtain ⟨b, e2, hb, vs, h3, q⟩ := rw'
        subst e2
        exact ⟨b, rfl, hb, vs, (upd_ne fun e : b = a => ne (lc.inj i j sl (.ol xs) a hi ho h rfl hv (e ▸ ew))).trans h3, RDs.lq ok l q⟩
      | od xs =>
        obtain ⟨b, e2, hb, vs, h3, q⟩ := rw'
        subst e2
        exact ⟨b, rfl, hb, vs, (upd_ne fun e : b = a => ne (lc.inj i j sl (.od xs) a hi ho h rfl hv (e ▸ ew))).trans h3, RDk.lq ok l q⟩
      | ex c fs =>
        obtain ⟨b, cls, dd, e2, h3, x⟩ := rw'
        exact ⟨b, cls, dd, e2, h3, x.lq ok l⟩
  · exact (upd_ne fun e : b = a => by rw [e, fr0] at h; cases h).trans (lc.fr.keep b o h n)
  · obtain ⟨o', h'⟩ := lc.fr.dom b o h
    exact upd_dom b o' h'
  · rcases set_cases h with ⟨e, e2, _⟩ | ⟨ne, h⟩
    · subst e
      rw [hv] at hv2; cases hv2
      exact fr0
    · exact lc.fresh j sl2 b h ho2 hv2
  · rcases set_cases h1 with ⟨e, e2, _⟩ | ⟨n1, h1⟩
    · subst e
      rcases set_cases h2 with ⟨e, _, _⟩ | ⟨n2, h2⟩
      · exact e
      · rw [hv] at v1; cases v1
        exact lc.inj i k sl sl2 a hi ho h2 o2 hv v2
    · rcases set_cases h2 with ⟨e, _, _⟩ | ⟨n2, h2⟩
      · subst e
        rw [hv] at v2; cases v2
        exact lc.inj j i sl1 sl a h1 o1 hi ho v1 hv
      · exact lc.inj j k sl1 sl2 b h1 o1 h2 o2 v1 v2
/-! ### x.append(e), x a list that the def alone knows -/
def bAppO (i : Nat) (e : DE) : DS := fun c σ h => match σ[i]? with
  | some (.ol xs) => (e c σ h).toS σ fun d h1 => if xs.length < LIM then .nx (σ.set i (.ol (xs ++ [d]))) h1 else .bad
  | _ => .bad
theorem ss_appO {i : Nat} {x : PySem.Str} {e : Expr} {ee : DE} (hN : X.N[i]? = some x) (hv : Vis X.env.scope x) (hd : (x == ("__debug__" : PySem.Str)) = false) (hcd : (x == ("__classdict__" : PySem.Str)) = false) (hx : plainE e = true) (hline : (apos.endLine == p.line) = true) (he : PE X e (tE Z W (ee c))) :
    PS X (.Expr (.Call (.Attribute (.Name x pos) "append" apos) [e] [] p) p) (tS Z s0 W (bAppO i ee c)) := by
  have hs := star_cons (es := []) (env := X.env) hx
  refine (ps_expr (pe_bm PySem.F.plainAttrs_list PySem.F.slot_list_append PySem.F.type_list_append mt_append (pe_var (pos := pos) hN hv hd hcd) (pa_cons he pa_nil hs) rfl (star_few (es := [e]) (by simp [hx]) (by show 1 < 30; decide)) hline hs rfl) rfl).imp fun D σ H t => ?_
  obtain ⟨s, σL, rfl, ok, lc, q⟩ := t
  unfold bAppO at q
  split at q
  · rename_i xs ei
    obtain ⟨v, ev, a, e1, hp, vs, h1, h2⟩ := lc.rs.2 i _ ei (fun z => by cases z)
    subst e1
    refine ⟨_, ev, .inl ⟨rfl, vs, SqL.of h1⟩, s, σL, rfl, ok, lc.rs, (q.toS lc ok).mono (fun d s1 l1 ok1 q1 w rw' => ?_) fun _ _ _ _ _ q => q⟩
    split at q1
    · rename_i hl
      have h1' : s1.H a = some (.lst vs) := l1.keep a _ h1 (ok.prd a hp).1
      have hp' : s1.pr a := by rw [l1.prs]; exact hp
      have l := Lq.own (u := .lst (vs ++ [w])) hp'
      refine ⟨a, vs, w, rfl, rfl, h1', by rw [lim_eq, ← h2.length]; exact hl, ?_⟩
      refine q1 ⟨s1.m, s1.h, upd s1.H a (.lst (vs ++ [w])), s1.pr, s1.xc⟩ σ rfl l rfl (ok1.own hp' (.inl ⟨_, rfl⟩)) ((lc.le ok l1).upd ok1 ei rfl ev hp' rfl ?_)
      exact ⟨a, rfl, hp', _, upd_same, ((h2.le ok l1).app (.cons rw' .nil)).lq ok1 l⟩
    · exact q1.elim
  · exact q.elim
end
end Bh
/-! Bh, part 13: what may be changed: lists, dicts, fields; targets. -/
namespace Bh
open PySem PySem.Spec PyProof.Rows L2
section
variable {X : Cx} {Z : Sta} {s0 : S3} {W : WX} {c : Calls} {pos p apos : Pos}
theorem putL {s : S3} (ok : Ok3 Z s) {n : Nat} {o : LO} {a : Addr} {ys : List D} {us : List V} (hi : s.h[n]? = some o) (hm : mutO o = true) (ha : s.m[n]? = some a) (r : RDs Z s ys us) : Le s (s.put n a (.lst ys) (.lst us)) ∧ Ok3 Z (s.put n a (.lst ys) (.lst us)) := by
  have l := Le.put (o' := .lst ys) (u := .lst us) hi hm ha
  exact ⟨l, ok.put hi hm ha ⟨us, upd_same, r.le ok l⟩⟩
theorem putD {s : S3} (ok : Ok3 Z s) {n : Nat} {o : LO} {a : Addr} {ys : List (D × D)} {us : List (Key × V)} (hi : s.h[n]? = some o) (hm : mutO o = true) (ha : s.m[n]? = some a) (r : RDk Z s ys us) : Le s (s.put n a (.dic ys) (.dK us)) ∧ Ok3 Z (s.put n a (.dic ys) (.dK us)) := by
  have l := Le.put (o' := .dic ys) (u := .dK us) hi hm ha
  exact ⟨l, ok.put hi hm ha ⟨us, upd_same, r.le ok l⟩⟩
def isLst (h : LH) : D → Option Nat
  | .ref n => match h[n]? with
    | some (.lst _) => some n
    | _ => none
  | _ => none
theorem isLst_at {s : S3} (ok : Ok3 Z s) {d : D} {n : Nat} {v : V} (h : isLst s.h d = some n) (r : RD Z s d v) : d = .ref n ∧ ∃ a xs vs, v = .ref a ∧ s.m[n]? = some a ∧ s.h[n]? = some (.lst xs) ∧ s.H a = some (.lst vs) ∧ RDs Z s xs vs := by
  cases d with
  | ref i =>
    cases r with
    | @ref _ a hm =>
      simp only [isLst] at h
      split at h
      · rename_i xs e
        cases h
        obtain ⟨b, hb, vs, h1, h2⟩ := ok.ob _ _ e
        rw [hm] at hb; cases hb
        exact ⟨rfl, a, xs, vs, rfl, hm, e, h1, h2⟩
      · cases h
  | _ => cases h
theorem ref_lst {s : S3} (ok : Ok3 Z s) {n : Nat} {a : Addr} {xs : List D} (hm : s.m[n]? = some a) (hh : s.h[n]? = some (.lst xs)) : ∃ vs, s.H a = some (.lst vs) ∧ RDs Z s xs vs := by
  obtain ⟨b, hb, vs, h1, h2⟩ := ok.ob _ _ hh
  rw [hm] at hb; cases hb
  exact ⟨vs, h1, h2⟩
theorem ref_dic {s : S3} (ok : Ok3 Z s) {n : Nat} {a : Addr} {xs : List (D × D)} (hm : s.m[n]? = some a) (hh : s.h[n]? = some (.dic xs)) : ∃ vs, s.H a = some (.dK vs) ∧ RDk Z s xs vs := by
  obtain ⟨b, hb, vs, h1, h2⟩ := ok.ob _ _ hh
  rw [hm] at hb; cases hb
  exact ⟨vs, h1, h2⟩
/-- o.append(e), an object of the logical heap -/
def bAppR (o e : DE) : DE := fun c σ h => (o c σ h).bind fun x h1 => match isLst h1 x with
  | some n => (e c σ h1).bind fun d h2 => match h2[n]? with
    | some (.lst xs) => if xs.length < LIM then .ok .non (h2.set n (.lst (xs ++ [d]))) else .bad
    | _ => .bad
  | none => .bad
theorem sd_appR {o e : Expr} {eo ee : DE} (hb : plainB o = true) (hx : plainE e = true) (hline : (apos.endLine == pos.line) = true) (ho : PE X o (tE Z W (eo c))) (he : PE X e (tE Z W (ee c))) : PE X (.Call (.Attribute o "append" apos) [e] [] pos) (tE Z W (bAppR eo ee c)) := by
  have hs := star_cons (es := []) (env := X.env) hx
  refine (pe_bm PySem.F.plainAttrs_list PySem.F.slot_list_append PySem.F.type_list_append mt_append ho (pa_cons he pa_nil hs) (base_plain hb) (star_few (es := [e]) (by simp [hx]) (by show 1 < 30; decide)) hline hs rfl).imp fun σ H Q t => ?_
  refine tE.bind (e := eo c) (f := fun σ x h1 => match isLst h1 x with
    | some n => (ee c σ h1).bind fun d h2 => match h2[n]? with
      | some (.lst xs) => if xs.length < LIM then .ok .non (h2.set n (.lst (xs ++ [d]))) else .bad
      | _ => .bad
    | none => .bad) t fun s σL d v ok rs r q => ?_
  cases el : isLst s.h d with
  | none => rw [el] at q; exact q.elim
  | some n =>
    rw [el] at q
    obtain ⟨rfl, a, xs, vs, rfl, hm, hh, hH, hr⟩ := isLst_at ok el r
    refine ⟨.inl ⟨rfl, vs, SqL.of hH⟩, s, σL, rfl, ok, rs, (PostV.bind (o := ee c σL s.h) q).mono (fun d2 s1 l1 ok1 q1 w rw' => ?_) fun _ _ _ _ _ q => q⟩
    split at q1
    · rename_i ys e1
      split at q1
      · rename_i hl
        have hm1 := l1.at hm
        obtain ⟨us, g1, g2⟩ := ref_lst ok1 hm1 e1
        obtain ⟨l2, ok2⟩ := putL ok1 e1 rfl hm1 (g2.app (.cons rw' .nil))
        exact ⟨a, us, w, rfl, rfl, g1, by rw [lim_eq, ← g2.length]; exact hl, q1 _ rfl l2 ok2 .non .non⟩
      · exact q1.elim
    · exact q1.elim
/-! ### stores -/
def rSetA : V → V → V → Hp → (Hp → Prop) → Prop := fun o i v H Q => rSetL o i v H Q ∨ ∃ a H', o = .ref a ∧ DPut H a i v H' ∧ Q H'
theorem set_any (hu : X.A.units + 1 < cLine) : PSet X rSetA := by
  intro pins s σ H o i v ov iv u Q I ro ri rv h
  rcases h with h | ⟨a, H', rfl, g, q⟩
  · exact set_list pins s σ H o i v ov iv u Q I ro ri rv h
  · cases ro
    exact d_setItem hu I g ri rv fun s' I' => ⟨H', I', q⟩
/-- a place of a list or dict is stored -/
def setX (h : LH) (n : Nat) (y d : D) : Option LH :=
  match h[n]? with
  | some (.lst xs) => match y with
    | .int k => (ixN xs.length k).map fun j => h.set n (.lst (xs.set j d))
    | _ => none
  | some (.dic ks) => if isKey y = true ∧ ks.length < LIM then some (h.set n (.dic (dput ks y d))) else none
  | _ => none
theorem keyD_dec {a b : Key} : (keyD a = keyD b) ↔ a = b := ⟨keyD_inj, fun h => by rw [h]⟩
theorem RDk.anyK {s : S3} (k : Key) {ks : List (D × D)} {kvs : List (Key × V)} (r : RDk Z s ks kvs) : (ks.any fun p => decide (p.1 = keyD k)) = kvs.any fun p => decide (p.1 = k) := by
  match r with
  | .nil => rfl
  | .cons r1 r2 =>
    rw [List.any_cons, List.any_cons, RDk.anyK k r2]
    congr 1
    simp [keyD_dec]
theorem RDk.repl {s : S3} {k : Key} {d : D} {v : V} (q : RD Z s d v) {ks : List (D × D)} {kvs : List (Key × V)} (r : RDk Z s ks kvs) : RDk Z s (ks.map fun p => if p.1 = keyD k then (p.1, d) else p) (kvs.map fun p => if p.1 = k then (p.1, v) else p) := by
  match r with
  | .nil => exact .nil
  | .cons (k := k2) r1 r2 =>
    rw [List.map_cons, List.map_cons]
    by_cases e : k2 = k
    · subst e
      rw [if_pos rfl, if_pos rfl]
      exact .cons q (RDk.repl q r2)
    · rw [if_neg e, if_neg (fun z => e (keyD_inj z))]
      exact .cons r1 (RDk.repl q r2)
theorem RDk.app {s : S3} {es : List (D × D)} {us : List (Key × V)} (q : RDk Z s es us) {ks : List (D × D)} {kvs : List (Key × V)} (r : RDk Z s ks kvs) : RDk Z s (ks ++ es) (kvs ++ us) := by
  match r with
  | .nil => exact q
  | .cons r1 r2 => exact .cons r1 (RDk.app q r2)
theorem RDk.put {s : S3} {k : Key} {d : D} {v : V} (q : RD Z s d v) {ks : List (D × D)} {kvs : List (Key × V)} (r : RDk Z s ks kvs) : RDk Z s (dput ks (keyD k) d) (putK kvs k v) := by
  unfold dput putK
  rw [r.anyK k]
  split
  · exact r.repl q
  · exact RDk.app (.cons q .nil) r
theorem setX_ok {s : S3} (ok : Ok3 Z s) {n : Nat} {a : Addr} {y d : D} {u v : V} {h' : LH} (hm : s.m[n]? = some a) (h : setX s.h n y d = some h') (ry : RDb Z s y u) (rd : RD Z s d v) {Q : Hp → Prop} (q : ∀ s', s'.h = h' → Le s s' → Ok3 Z s' → Q s'.H) : rSetA (.ref a) u v s.H Q := by
  unfold setX at h
  split at h
  · rename_i xs e
    split at h
    · rename_i k
      cases ry.flat
      cases ej : ixN xs.length k with
      | none => rw [ej] at h; cases h
      | some j =>
        rw [ej] at h
        cases h
        obtain ⟨vs, g1, g2⟩ := ref_lst ok hm e
        obtain ⟨l2, ok2⟩ := putL ok e rfl hm (RDs.set rd j g2)
        exact .inl ⟨a, vs, k, j, rfl, rfl, g1, by rw [← g2.length]; exact ej, q _ rfl l2 ok2⟩
    · cases h
  · rename_i ks e
    split at h
    · rename_i hk
      cases h
      obtain ⟨key, rfl⟩ := key_of1 hk.1
      have := ry.key
      subst this
      obtain ⟨vs, g1, g2⟩ := ref_dic ok hm e
      obtain ⟨l2, ok2⟩ := putD ok e rfl hm (RDk.put (k := key) rd g2)
      exact .inr ⟨a, _, rfl, .inl ⟨vs, key, g1, rfl, by rw [lim_eq, ← g2.length]; exact hk.2, rfl⟩, q _ rfl l2 ok2⟩
    · cases h
  · cases h
def bSetIx (o i e : DE) : DS := fun c σ h => (e c σ h).toS σ fun d h1 => (o c σ h1).toS σ fun x h2 => (i c σ h2).toS σ fun y h3 => match x with
  | .ref n => match setX h3 n y d with
    | some h4 => .nx σ h4
    | none => .bad
  | _ => .bad
theorem ss_setIx {o i e : Expr} {eo ei ee : DE} (hu : X.A.units + 65 < cLine) (hi : plainE i = true) (hsw : noComp e = true) (ho : PE X o (tE Z W (eo c))) (hix : PE X i (tO Z W (ei c))) (he : PE X e (tE Z W (ee c))) : PS X (.Assign [.Subscript o i p] e pos) (tS Z s0 W (bSetIx eo ei ee c)) := by
  refine (ps_asg he (pg_sub ho hix (set_any (by omega)) (asg_sub hi)) (swaps_sole hsw) (by first | rfl | (cases e <;> rfl)) rfl).imp fun D σ H t => ?_
  refine tS.expr (e := ee c) (k := fun σ d h1 => (eo c σ h1).toS σ fun x h2 => (ei c σ h2).toS σ fun y h3 => match x with
    | .ref n => match setX h3 n y d with
      | some h4 => .nx σ h4
      | none => .bad
    | _ => .bad) t fun s σL d v ok lc rd q => ?_
  refine ⟨s, σL, rfl, ok, lc.rs, (q.toS lc ok).mono (fun x s1 l1 ok1 q1 xv rx => ?_) fun _ _ _ _ _ q => q⟩
  refine ⟨s1, σL, rfl, ok1, (lc.le ok l1).rs, (q1.toS (lc.le ok l1) ok1).mono (fun y s2 l2 ok2 q2 yv ry => ?_) fun _ _ _ _ _ q => q⟩
  split at q2
  · rename_i n
    have rx2 := RD.le ok1 l2 rx
    cases rx2 with
    | ref hm =>
      split at q2
      · rename_i h4 e4
        exact setX_ok ok2 hm e4 ry ((rd.le ok l1).le ok1 l2) fun s3 e3 l3 ok3 => q2 s3 σ e3 l3.lq l3.xcs ok3 (((lc.le ok l1).le ok1 l2).le ok2 l3)
      · exact q2.elim
  · exact q2.elim
/-! ### fields -/
def setFd (na : Nat → Bool) (h : LH) (f : Nat) (x d : D) : Option LH :=
  match x with
  | .ref n => match h[n]? with
    | some (.ins k fs) => if na k = true ∧ fs.length < 1000 then some (h.set n (.ins k (putFd f d fs))) else none
    | _ => none
  | _ => none
def bSetF (na : Nat → Bool) (f : Nat) (o e : DE) : DS := fun c σ h => (e c σ h).toS σ fun d h1 => (o c σ h1).toS σ fun x h2 => match setFd na h2 f x d with
  | some h3 => .nx σ h3
  | none => .bad
theorem setFd_ok {s : S3} (ok : Ok3 Z s) {na : Nat → Bool} {f : Nat} (F : FldOk X Z f na) {x d : D} {xv v : V} {h' : LH} (h : setFd na s.h f x d = some h') (rx : RD Z s x xv) (rd : RD Z s d v) {Q : Hp → Prop} (q : ∀ s', s'.h = h' → Le s s' → Ok3 Z s' → Q s'.H) :
    ∃ a C dx fs, (∃ n k, insC s.h x = some (n, k) ∧ C = Z.ca k) ∧ xv = .ref a ∧ s.H a = some (.ins C dx fs) ∧ Cls X.K C ∧ NoAttr X.K C (Z.fld f) ∧ fs.length < 1000 ∧ Q (upd s.H a (.ins C dx (putF (Z.fld f) v fs))) := by
  unfold setFd at h
  split at h
  · rename_i n
    split at h
    · rename_i k fs e
      split at h
      · rename_i hk
        cases h
        have ei : insC s.h (.ref n) = some (n, k) := by simp only [insC, e]
        obtain ⟨_, a, dx, fs2, fs', rfl, hm, hh, hH, hf⟩ := insC_at ok ei rx
        rw [e] at hh
        cases hh
        have l := Le.put (o' := .ins k (putFd f d fs)) (u := .ins (Z.ca k) dx (putF (Z.fld f) v fs')) e rfl hm
        have ok2 := ok.put (o' := .ins k (putFd f d fs)) (u := .ins (Z.ca k) dx (putF (Z.fld f) v fs')) e rfl hm ⟨dx, _, upd_same, RDf.put (rd.le ok l) (hf.le ok l)⟩
        exact ⟨a, Z.ca k, dx, fs', ⟨n, k, ei, rfl⟩, rfl, hH, (F.ok k hk.1).1, (F.ok k hk.1).2, by rw [← hf.length]; exact hk.2, q _ rfl l ok2⟩
      · cases h
    · cases h
  · cases h
theorem ss_setF {f : Nat} {na : Nat → Bool} {m : PySem.Str} {o e : Expr} {eo ee : DE} (hm : Z.fld f = m) (F : FldOk X Z f na) (hsw : noComp e = true) (ho : PE X o (tE Z W (eo c))) (he : PE X e (tE Z W (ee c))) : PS X (.Assign [.Attribute o m p] e pos) (tS Z s0 W (bSetF na f eo ee c)) := by
  subst hm
  refine (ps_fld ho he (swaps_no hsw)).imp fun D σ H t => ?_
  refine tS.expr (e := ee c) (k := fun σ d h1 => (eo c σ h1).toS σ fun x h2 => match setFd na h2 f x d with
    | some h3 => .nx σ h3
    | none => .bad) t fun s σL d v ok lc rd q => ?_
  refine ⟨s, σL, rfl, ok, lc.rs, (q.toS lc ok).mono (fun x s1 l1 ok1 q1 xv rx => ?_) fun _ _ _ _ _ q => q⟩
  split at q1
  · rename_i h3 e3
    obtain ⟨a, C, dx, fs, _, h⟩ := setFd_ok (X := X) (Q := fun H' => D.nx σ H') ok1 F e3 rx (rd.le ok l1) fun s2 e2 l2 ok2 => q1 s2 σ e2 l2.lq l2.xcs ok2 ((lc.le ok l1).le ok1 l2)
    exact ⟨a, C, dx, fs, h⟩
  · exact q1.elim
def augI (op : Operator) (i j : Int) : Option Int :=
  match op with
  | .Add => some (i + j)
  | .Sub => some (i - j)
  | .Mult => if mulOk i j = true then some (i * j) else none
  | .FloorDiv => if 0 < j ∧ j < 1073741824 then some (i / j) else none
  | _ => none
theorem iop_ok {op : Operator} {i j r : Int} (h : augI op i j = some r) : OpR X (inplaceOp op) (fun x y H Q => x = .int i ∧ y = .int j ∧ Q (.int r) H) := by
  intro pins s σ H x y v u Q I rx ry hh
  obtain ⟨rfl, rfl, q⟩ := hh
  cases op with
  | Add => cases h; exact iop_add pins s σ H _ _ v u Q I rx ry ⟨i, j, rfl, rfl, q⟩
  | Sub => cases h; exact iop_sub pins s σ H _ _ v u Q I rx ry ⟨i, j, rfl, rfl, q⟩
  | Mult =>
    simp only [augI] at h
    split at h
    · rename_i hm; cases h; exact iop_mul pins s σ H _ _ v u Q I rx ry ⟨i, j, rfl, rfl, mulOk_ok hm, q⟩
    · cases h
  | FloorDiv =>
    simp only [augI] at h
    split at h
    · rename_i hm; cases h; exact iop_fdiv pins s σ H _ _ v u Q I rx ry ⟨i, j, rfl, rfl, hm, q⟩
    · cases h
  | _ => cases h
def rAug (op : Operator) : V → V → Hp → VK → Prop := fun x y H Q => ∃ i j r, x = .int i ∧ y = .int j ∧ augI op i j = some r ∧ Q (.int r) H
theorem iop_all (op : Operator) : OpR X (inplaceOp op) (rAug op) := by
  intro pins s σ H x y v u Q I rx ry hh
  obtain ⟨i, j, r, e1, e2, h, q⟩ := hh
  exact iop_ok h pins s σ H x y v u Q I rx ry ⟨e1, e2, q⟩
def bAugF (na : Nat → Bool) (f : Nat) (op : Operator) (o e : DE) : DS := fun c σ h => (o c σ h).toS σ fun x h1 => match fldV na h1 f x with
  | some (.int i) => (e c σ h1).toS σ fun y h2 => match y with
    | .int j => match augI op i j with
      | some r => if insC h2 x = insC h1 x then match setFd na h2 f x (.int r) with
        | some h3 => .nx σ h3
        | none => .bad
        else .bad
      | none => .bad
    | _ => .bad
  | _ => .bad
theorem fldV_ok {s : S3} (ok : Ok3 Z s) {na : Nat → Bool} {f : Nat} (F : FldOk X Z f na) {x d : D} {xv : V} (h : fldV na s.h f x = some d) (rx : RD Z s x xv) : ∃ n k a dx fs v, x = .ref n ∧ insC s.h x = some (n, k) ∧ s.m[n]? = some a ∧ xv = .ref a ∧ s.H a = some (.ins (Z.ca k) dx fs) ∧ Cls X.K (Z.ca k) ∧ NoAttr X.K (Z.ca k) (Z.fld f) ∧ fs.lookup (Z.fld f) = some v ∧ RD Z s d v := by
  unfold fldV at h
  split at h
  · rename_i n
    split at h
    · rename_i k fs e
      split at h
      · rename_i hna
        have ei : insC s.h (.ref n) = some (n, k) := by simp only [insC, e]
        obtain ⟨_, a, dx, fs2, fs', rfl, hm, hh, hH, hf⟩ := insC_at ok ei rx
        rw [e] at hh
        cases hh
        obtain ⟨v2, hl, rv⟩ := hf.get h
        exact ⟨n, k, a, dx, fs', v2, rfl, ei, hm, rfl, hH, (F.ok k hna).1, (F.ok k hna).2, hl, rv⟩
      · cases h
    · cases h
  · cases h
end
end Bh
/-! Bh, part 14: augmented stores, targets. -/
namespace Bh
open PySem PySem.Spec PyProof.Rows L2
def swNames (env : Env) (ts : List Expr) : List PySem.Str := ts.filterMap fun
    | .Name id pos => if env.kindOf id == some .local && pos.line == (ts.head?.map (·.pos.line)).getD 0 then some id else none
    | _ => none
def swQ (env : Env) (ts vs : List Expr) : Nat :=
  if (!(ts.length == 2 || ts.length == 3) || vs.length != ts.length || env.blockKind != .function) = true then 0
  else if (vs.any fun | .Starred .. => true | _ => false) = true then 0
  else if ((swNames env ts).length != ts.length || (swNames env ts).eraseDups.length != (swNames env ts).length) = true then 0
  else if vs.all (foldedForSure 8) = true then 0
  else if vs.all (constantsAlone 8) = true then 2 else 1
theorem sw_eq {env : Env} {ts vs : List Expr} {k k2 : Nat} {p p2 : Pos} : swappedStores [.Tuple ts k p] (.Tuple vs k2 p2) env = (if swQ env ts vs = 0 then pure none else if swQ env ts vs = 1 then pure (some (swNames env ts)) else (do unsupported "assign.tuple-of-constant-expressions:order-of-the-stores"; return some (swNames env ts))) := by
  unfold swQ
  unfold swappedStores
  show (if (!(ts.length == 2 || ts.length == 3) || vs.length != ts.length || env.blockKind != .function) = true then _ else _) = _
  split
  · rfl
  · show (if (vs.any fun | .Starred .. => true | _ => false) = true then _ else _) = _
    split
    · rfl
    · show (if ((swNames env ts).length != ts.length || (swNames env ts).eraseDups.length != (swNames env ts).length) = true then _ else _) = _
      split
      · rfl
      · show (if vs.all (foldedForSure 8) = true then _ else _) = _
        split
        · rfl
        · show (if vs.all (constantsAlone 8) = true then _ else _) = _
          split
          · rfl
          · rfl
/-- targets -/
inductive Tg where
  | nm (i : Nat) | tp (ts : List Tg)
mutual
def bindT : Tg → D → DSt → Option DSt
  | .nm i, d, σ => some (σ.set i (.v d))
  | .tp ts, d, σ => match d with
    | .tup xs => bindTs ts xs σ
    | .lst xs => bindTs ts xs σ
    | _ => none
def bindTs : List Tg → List D → DSt → Option DSt
  | [], [], σ => some σ
  | t :: ts, x :: xs, σ => match bindT t x σ with
    | some σ' => bindTs ts xs σ'
    | none => none
  | _, _, _ => none
end
section
variable {X : Cx} {Z : Sta} {s0 : S3} {W : WX} {c : Calls} {pos p apos : Pos}
/-- a target's reading; P: what holds of the slots -/
def tGP (Z : Sta) (P : S3 → DSt → L2.St → Prop) (t : Tg) : TG := fun v σ H Q => ∃ s σL d σL', s.H = H ∧ Ok3 Z s ∧ P s σL σ ∧ RD Z s d v ∧ bindT t d σL = some σL' ∧ ∀ σ', P s σL' σ' → Q σ' H
def tGPs (Z : Sta) (P : S3 → DSt → L2.St → Prop) (t : List Tg) : TGs := fun vs σ H Q => ∃ s σL ds σL', s.H = H ∧ Ok3 Z s ∧ P s σL σ ∧ RDs Z s ds vs ∧ bindTs t ds σL = some σL' ∧ ∀ σ', P s σL' σ' → Q σ' H
abbrev tG (Z : Sta) (s0 : S3) (t : Tg) : TG := tGP Z (Lc Z s0) t
abbrev tGs (Z : Sta) (s0 : S3) (t : List Tg) : TGs := tGPs Z (Lc Z s0) t
variable {P : S3 → DSt → L2.St → Prop}
theorem _root_.L2.PG.imp {X : Cx} {e : Expr} {t t' : TG} (h : PG X e t) (i : ∀ v σ H Q, t' v σ H Q → t v σ H Q) : PG X e t' := ⟨fun pins s σ H v u Q I r q => h.run pins s σ H v u Q I r (i v σ H Q q)⟩
theorem _root_.L2.PGs.imp {X : Cx} {e : List Expr} {t t' : TGs} (h : PGs X e t) (i : ∀ v σ H Q, t' v σ H Q → t v σ H Q) : PGs X e t' := ⟨fun pins s σ H v u Q I r q => h.run pins s σ H v u Q I r (i v σ H Q q)⟩
theorem _root_.L2.PG.or {X : Cx} {e : Expr} {t t' : TG} (h : PG X e t) (h' : PG X e t') : PG X e (fun v σ H Q => t v σ H Q ∨ t' v σ H Q) := ⟨fun pins s σ H v u Q I r q => q.elim (h.run pins s σ H v u Q I r) (h'.run pins s σ H v u Q I r)⟩
theorem sg_nameP {i : Nat} {x : PySem.Str} (hP : ∀ s σL σ d v, P s σL σ → RD Z s d v → P s (σL.set i (.v d)) (σ.set i (some v))) (hN : X.N.Nodup) (hi : X.N[i]? = some x) (hx : Loc X.env.scope x) (hf : X.fn x = true ∨ X.env.scope.names.lookup x = some .local) : PG X (.Name x p) (tGP Z P (.nm i)) := (pg_name hN hi hx hf).imp fun v σ H Q t => by
  obtain ⟨s, σL, d, σL', rfl, ok, lc, r, e, q⟩ := t
  cases e
  exact q _ (hP _ _ _ _ _ lc r)
theorem sg_name {i : Nat} {x : PySem.Str} (hN : X.N.Nodup) (hi : X.N[i]? = some x) (hx : Loc X.env.scope x) (hf : X.fn x = true ∨ X.env.scope.names.lookup x = some .local) : PG X (.Name x p) (tG Z s0 (.nm i)) :=
  sg_nameP (fun _ _ _ _ _ lc r => lc.setv r i) hN hi hx hf
theorem sgs_nil : PGs X [] (tGPs Z P []) := pgs_nil.imp fun v σ H Q t => by
  obtain ⟨s, σL, ds, σL', rfl, ok, lc, r, e, q⟩ := t
  cases r with
  | nil => cases e; exact ⟨rfl, q _ lc⟩
  | cons _ _ => cases e
theorem sgs_cons {e : Expr} {es : List Expr} {t : Tg} {ts : List Tg} (hx : plainE e = true) (h1 : PG X e (tGP Z P t)) (h2 : PGs X es (tGPs Z P ts)) : PGs X (e :: es) (tGPs Z P (t :: ts)) := by
  refine (pgs_cons h1 h2 (by cases e <;> first | rfl | cases hx)).imp fun vs σ H Q q => ?_
  obtain ⟨s, σL, ds, σL', rfl, ok, lc, r, e, q⟩ := q
  cases r with
  | nil => cases e
  | @cons d v ds vs r1 r2 =>
    simp only [bindTs] at e
    split at e
    · rename_i σ1 e1
      exact ⟨v, vs, rfl, s, σL, d, σ1, rfl, ok, lc, r1, e1, fun σ' lc' => ⟨s, σ1, ds, σL', rfl, ok, lc', r2, e, q⟩⟩
    · cases e
theorem bindTs_len : ∀ {ts : List Tg} {ds : List D} {σ σ' : DSt}, bindTs ts ds σ = some σ' → ds.length = ts.length
  | [], [], _, _, _ => rfl
  | t :: ts, d :: ds, σ, σ', h => by
    simp only [bindTs] at h
    split at h
    · rw [List.length_cons, List.length_cons, bindTs_len h]
    · cases h
  | [], _ :: _, _, _, h => by cases h
  | _ :: _, [], _, _, h => by cases h
theorem sg_tup {es : List Expr} {k : Nat} {ts : List Tg} (hK : Z.K = X.K) (hc : X.calm = true) (hl : es.length = ts.length) (hx : es.all plainE = true) (h : PGs X es (tGPs Z P ts)) : PG X (.Tuple es k p) (tGP Z P (.tp ts)) := by
  have hn : ∀ es : List Expr, es.all plainE = true → (assignEach es X.env).length = es.length ∧ (assignEach es X.env).findIdx? (·.1) = none := fun es => by
    induction es with
    | nil => exact fun _ => ⟨rfl, rfl⟩
    | cons e es ih =>
      intro hx
      rw [List.all_cons, Bool.and_eq_true] at hx
      obtain ⟨i1, i2⟩ := ih hx.2
      have e0 : assignEach (e :: es) X.env = (false, assign e X.env) :: assignEach es X.env := by cases e <;> first | rfl | cases hx.1
      rw [e0]
      exact ⟨by rw [List.length_cons, List.length_cons, i1], by rw [List.findIdx?_cons, i2] <;> rfl⟩
  obtain ⟨n1, n2⟩ := hn es hx
  refine ((pg_tup hc h rfl n2).or (pg_lst hc h rfl n2)).imp fun v σ H Q t => ?_
  obtain ⟨s, σL, d, σL', rfl, ok, lc, r, e, q⟩ := t
  cases d with
  | tup xs =>
    cases r with
    | @tup a _ vs g1 g2 => exact .inl ⟨a, vs, rfl, hK ▸ g1, by rw [n1, ← g2.length, hl]; exact bindTs_len e, s, σL, xs, σL', rfl, ok, lc, g2, e, q⟩
  | lst xs =>
    obtain ⟨a, vs, rfl, g1, g2⟩ := lst_at ok (d := .lst xs) rfl r.b
    exact .inr ⟨a, vs, rfl, hK ▸ g1, by rw [n1, ← g2.length, hl]; exact bindTs_len e, s, σL, xs, σL', rfl, ok, lc, g2, e, q⟩
  | _ => cases e
def bAsgG (t : Tg) (e : DE) : DS := fun c σ h => (e c σ h).toS σ fun d h1 => match bindT t d σ with
  | some σ' => .nx σ' h1
  | none => .bad
theorem ss_asgG {tg e : Expr} {t : Tg} {ee : DE} (hg : PG X tg (tG Z s0 t)) (he : PE X e (tE Z W (ee c))) (hs : swapsWithSole [tg] e pos.line X.env = pure false) (hw : swappedStores [tg] e X.env = pure none) (h1 : (assignEach [tg] X.env).map (·.2) = [assign tg X.env]) :
    PS X (.Assign [tg] e pos) (tS Z s0 W (bAsgG t ee c)) := (ps_asg he hg hs hw h1).imp fun D σ H q => by
  refine tS.expr (e := ee c) (k := fun σ d h1 => match bindT t d σ with
    | some σ' => .nx σ' h1
    | none => .bad) q fun s σL d v ok lc r p => ?_
  split at p
  · rename_i σ' e1
    exact ⟨s, σL, d, σ', rfl, ok, lc, r, e1, fun σ2 lc2 => p s σ2 rfl (Lq.refl s) rfl ok lc2⟩
  · exact p.elim
/-- a, b = x, y -/
def setAll : DSt → List Nat → List D → DSt
  | σ, i :: is, x :: xs => setAll (σ.set i (.v x)) is xs
  | σ, _, _ => σ
def bPar (is : List Nat) (er : DEs) : DS := fun c σ h => (er c σ h).toS σ fun xs h1 => .nx (setAll σ is xs) h1
theorem ss_par {i j : Nat} {x y : PySem.Str} {a b : Expr} {px py pt p2 : Pos} {kt k2 : Nat} {er : DEs} (hc : X.calm = true) (hN : X.N.Nodup) (hi : X.N[i]? = some x) (hj : X.N[j]? = some y) (hij : i ≠ j) (hx : X.env.scope.names.lookup x = some .local) (hy : X.env.scope.names.lookup y = some .local)
    (hn : Ln 2 er) (ha : PA X [a, b] (tEs Z W (er c))) (hw : swappedStores [.Tuple [.Name x px, .Name y py] kt pt] (.Tuple [a, b] k2 p2) X.env = pure (some [x, y])) :
    PS X (.Assign [.Tuple [.Name x px, .Name y py] kt pt] (.Tuple [a, b] k2 p2) pos) (tS Z s0 W (bPar [i, j] er c)) := (ps_par hc hN hi hj hij hx hy ha hw rfl).imp fun D σ H t => by
  obtain ⟨s, σL, e1, ok, lc, q⟩ := t
  refine ⟨s, σL, e1, ok, lc.rs, (PostV.ln (α := Nat) hn (q.toS lc ok)).mono (fun ds s1 l1 ok1 q1 vs rv => ?_) fun _ _ _ _ _ q => q⟩
  obtain ⟨q0, q1⟩ := q1
  match ds, vs, rv, q0 with
  | [d1, d2], _, .cons r1 (.cons r2 .nil), _ => exact ⟨_, _, rfl, q1 s1 _ rfl (Lq.refl _) rfl ok1 (((lc.le ok l1).setv r1 i).setv r2 j)⟩
theorem ss_par3 {i j l : Nat} {x y z : PySem.Str} {a b d : Expr} {px py pz pt p2 : Pos} {kt k2 : Nat} {er : DEs} (hc : X.calm = true) (hN : X.N.Nodup) (hi : X.N[i]? = some x) (hj : X.N[j]? = some y) (hl : X.N[l]? = some z) (hij : i ≠ j) (hil : i ≠ l) (hjl : j ≠ l) (hx : X.env.scope.names.lookup x = some .local) (hy : X.env.scope.names.lookup y = some .local) (hz : X.env.scope.names.lookup z = some .local)
    (hn : Ln 3 er) (ha : PA X [a, b, d] (tEs Z W (er c))) (hw : swappedStores [.Tuple [.Name x px, .Name y py, .Name z pz] kt pt] (.Tuple [a, b, d] k2 p2) X.env = pure (some [x, y, z])) :
    PS X (.Assign [.Tuple [.Name x px, .Name y py, .Name z pz] kt pt] (.Tuple [a, b, d] k2 p2) pos) (tS Z s0 W (bPar [i, j, l] er c)) := (ps_par3 hc hN hi hj hl hij hil hjl hx hy hz ha hw rfl).imp fun D σ H t => by
  obtain ⟨s, σL, e1, ok, lc, q⟩ := t
  refine ⟨s, σL, e1, ok, lc.rs, (PostV.ln (α := Nat) hn (q.toS lc ok)).mono (fun ds s1 l1 ok1 q1 vs rv => ?_) fun _ _ _ _ _ q => q⟩
  obtain ⟨q0, q1⟩ := q1
  match ds, vs, rv, q0 with
  | [d1, d2, d3], _, .cons r1 (.cons r2 (.cons r3 .nil)), _ => exact ⟨_, _, _, rfl, q1 s1 _ rfl (Lq.refl _) rfl ok1 ((((lc.le ok l1).setv r1 i).setv r2 j).setv r3 l)⟩
/-- x op= e, ints -/
def bAug (i : Nat) (op : Operator) (e : DE) : DS := fun c σ h => match σ[i]? with
  | some (.v (.int k)) => (e c σ h).toS σ fun y h1 => match y with
    | .int j => match augI op k j with
      | some r => .nx (σ.set i (.v (.int r))) h1
      | none => .bad
    | _ => .bad
  | _ => .bad
theorem ss_aug {i : Nat} {x : PySem.Str} {e : Expr} {op : Operator} {ee : DE} (hN : X.N.Nodup) (hi : X.N[i]? = some x) (hx : Loc X.env.scope x) (he : PE X e (tE Z W (ee c))) (hf : X.fn x = true ∨ X.env.scope.names.lookup x = some .local) : PS X (.AugAssign (.Name x p) op e pos) (tS Z s0 W (bAug i op ee c)) := by
  have hip : PIp X op (rAug op) := fun pins s σ H a b v u Q I ra rb h => iop_all op pins s σ H a b v u Q I ra rb h
  refine (ps_aug hN hi hx he hip hf).imp fun D σ H t => ?_
  obtain ⟨s, σL, rfl, ok, lc, q⟩ := t
  unfold bAug at q
  split at q
  · rename_i k ei
    obtain ⟨v, ev, r⟩ := lc.rs.2 i _ ei (fun z => by cases z)
    cases r
    refine ⟨_, ev, s, σL, rfl, ok, lc.rs, (q.toS lc ok).mono (fun d s1 l1 ok1 q1 w rw' => ?_) fun _ _ _ _ _ q => q⟩
    split at q1
    · rename_i j
      split at q1
      · rename_i r er
        cases rw'
        exact ⟨k, j, r, rfl, rfl, er, q1 s1 _ rfl (Lq.refl _) rfl ok1 ((lc.le ok l1).setv (.int r) i)⟩
      · exact q1.elim
    · exact q1.elim
  · exact q.elim
theorem ss_augF {f : Nat} {na : Nat → Bool} {op : Operator} {m : PySem.Str} {o e : Expr} {eo ee : DE} (hm : Z.fld f = m) (F : FldOk X Z f na) (ho : PE X o (tE Z W (eo c))) (he : PE X e (tE Z W (ee c))) : PS X (.AugAssign (.Attribute o m p) op e pos) (tS Z s0 W (bAugF na f op eo ee c)) := by
  subst hm
  have hip : InOp X op (rAug op) := fun pins s σ H a b v u Q I ra rb h => iop_all op pins s σ H a b v u Q I ra rb h
  refine (ps_fldaug ho he hip).imp fun D σ H t => ?_
  refine tS.expr (e := eo c) (k := fun σ x h1 => match fldV na h1 f x with
    | some (.int i) => (ee c σ h1).toS σ fun y h2 => match y with
      | .int j => match augI op i j with
        | some r => if insC h2 x = insC h1 x then match setFd na h2 f x (.int r) with
          | some h3 => .nx σ h3
          | none => .bad
          else .bad
        | none => .bad
      | _ => .bad
    | _ => .bad) t fun s σL x xv ok lc rx q => ?_
  split at q
  · rename_i i ef
    obtain ⟨n, k, a, dx, fs, v, rfl, hin, hm, rfl, hH, hcl, hna, hl, rv⟩ := fldV_ok (X := X) ok F ef rx
    cases rv
    refine ⟨a, _, dx, fs, _, rfl, hH, hcl, hna, hl, s, σL, rfl, ok, lc.rs, (q.toS lc ok).mono (fun y s1 l1 ok1 q1 w rw' => ?_) fun _ _ _ _ _ q => q⟩
    split at q1
    · rename_i j
      split at q1
      · rename_i r er
        cases rw'
        split at q1
        · rename_i hins
          split at q1
          · rename_i h3 e3
            have rx1 : RD Z s1 (.ref n) (.ref a) := .ref (l1.at hm)
            obtain ⟨a2, C2, dx2, fs2, ⟨n2, k2, e5, e6⟩, ea, hH2, _, _, hlen, hq⟩ := setFd_ok (X := X) (Q := fun H' => D.nx σ H') ok1 F e3 rx1 (.int r) fun s2 e2 l2 ok2 => q1 s2 σ e2 l2.lq l2.xcs ok2 ((lc.le ok l1).le ok1 l2)
            cases ea
            rw [hins, hin] at e5
            cases e5
            subst e6
            exact ⟨i, j, r, rfl, rfl, er, dx2, fs2, hH2, hlen, hq⟩
          · exact q1.elim
        · exact q1.elim
      · exact q1.elim
    · exact q1.elim
  · exact q.elim
end
end Bh
/-! Bh, part 15: what is walked; for. -/
namespace Bh
open PySem PySem.Spec PyProof.Rows L2
/-- what is walked: its items; what must stay meanwhile -/
abbrev Src := List D × List (Nat × LO)
abbrev DI := Calls → DSt → LH → Out Src
def gdOk (gs : List (Nat × LO)) (h : LH) : Bool := gs.all fun p => decide (h[p.1]? = some p.2)
section
variable {X : Cx} {Z : Sta} {s0 : S3} {W : WX} {c : Calls} {pos p apos : Pos} {tg : Expr}
/-- an iterator's promise: from s1 on it gives these items, as long as the guards hold -/
structure SrcOk (Z : Sta) (s1 : S3) (J : It) (items : List D) (G : S3 → Prop) : Prop where
  go : ∀ (i : Nat) (d : D) (s : S3), Lq s1 s → Ok3 Z s → G s → items[i]? = some d → J.go i s.H ∧ ∀ x H', J.yld i s.H x H' → ∃ s', s'.H = H' ∧ s'.h = s.h ∧ Le s s' ∧ Ok3 Z s' ∧ RD Z s' d x
  stop : ∀ s, Lq s1 s → Ok3 Z s → G s → J.stop items.length s.H
def tI (Z : Sta) (W : WX) (e : DSt → LH → Out Src) : TI := fun σ H R => ∃ s σL, s.H = H ∧ Ok3 Z s ∧ RSt Z s σL σ ∧ PostV Z s (e σL s.h) (fun r s1 => ∀ J, SrcOk Z s1 J r.1 (fun s => gdOk r.2 s.h = true) → R J s1.H) (EE Z W σ)
theorem _root_.L2.PI.imp {X : Cx} {tg e : Expr} {t t' : TI} (h : PI X tg e t) (i : ∀ σ H R, t' σ H R → t σ H R) : PI X tg e t' := ⟨fun pins s σ H R I q => h.run pins s σ H R I (i σ H R q)⟩
/-- the turns -/
def forL (gs : List (Nat × LO)) (t : Tg) (body : DSt → LH → OutS) : List D → DSt → LH → OutS
  | [], σ, h => if gdOk gs h = true then .nx σ h else .bad
  | x :: xs, σ, h => if gdOk gs h = true then match bindT t x σ with
      | some σ1 => match body σ1 h with
        | .nx σ2 h2 => forL gs t body xs σ2 h2
        | .ct σ2 h2 => forL gs t body xs σ2 h2
        | .bk σ2 h2 => .nx σ2 h2
        | o => o
      | none => .bad
    else .bad
def bFor (t : Tg) (src : DI) (body : DS) : DS := fun c σ h => (src c σ h).toS σ fun r h1 => forL r.2 t (body c) r.1 σ h1
theorem ss_for {iter : Expr} {body : List Stmt} {t : Tg} {ei : DI} {eb : DS} (hp : PassesOwn (model X.prog X.w) X.A X.env X.xe) (hc : X.calm = true) (hs : ∀ x, foldedSetIterable iter X.env x = pure x) (hi : PI X tg iter (tI Z W (ei c))) (hg : PG X tg (tG Z s0 t)) (hb : PSs X body (tS Z s0 W (eb c))) :
    PS X (.For tg iter body [] pos) (tS Z s0 W (bFor t ei eb c)) := by
  refine (ps_for hp hc hi hg hb hs).imp fun D σ H q => ?_
  obtain ⟨s, σL, e1, ok, lc, q⟩ := q
  refine ⟨s, σL, e1, ok, lc.rs, (q.toS lc ok).mono (fun r s1 l1 ok1 q1 J SO => ?_) fun _ _ _ _ _ q => q⟩
  obtain ⟨items, gs⟩ := r
  have lc1 := lc.le ok l1
  refine ⟨fun i m σ' H' => m = items.length - i ∧ i ≤ items.length ∧ ∃ s2 σL2, s2.H = H' ∧ Ok3 Z s2 ∧ Lc Z s0 s2 σL2 σ' ∧ Lq s1 s2 ∧ PostS Z s0 W s2 (forL gs t (eb c) (items.drop i) σL2 s2.h) D,
    ⟨items.length, rfl, Nat.zero_le _, s1, σL, rfl, ok1, lc1, Lq.refl _, q1⟩, ?_⟩
  rintro i m σ' H' ⟨rfl, hi, s2, σL2, rfl, ok2, lc2, l2, p2⟩
  cases hd : items[i]? with
  | none =>
    have hge : items.length ≤ i := by
      rcases Nat.lt_or_ge i items.length with h | h
      · rw [List.getElem?_eq_getElem h] at hd; cases hd
      · exact h
    have hi' : i = items.length := Nat.le_antisymm hi hge
    subst hi'
    rw [List.drop_length] at p2
    unfold forL at p2
    split at p2
    · rename_i hgd
      exact .inl ⟨SO.stop s2 l2 ok2 hgd, p2 s2 σ' rfl (Lq.refl _) rfl ok2 lc2⟩
    · exact p2.elim
  | some d =>
    have hlt : i < items.length := (List.getElem?_eq_some_iff.mp hd).1
    have hdrop : items.drop i = d :: items.drop (i + 1) := by
      rw [List.drop_eq_getElem_cons hlt]
      rw [List.getElem?_eq_getElem hlt] at hd
      cases hd
      rfl
    rw [hdrop] at p2
    unfold forL at p2
    split at p2
    · rename_i hgd
      obtain ⟨g1, g2⟩ := SO.go i d s2 l2 ok2 hgd hd
      refine .inr ⟨g1, fun σ3 H3 => i + 1 ≤ items.length ∧ ∃ s3 σL3, s3.H = H3 ∧ Ok3 Z s3 ∧ Lc Z s0 s3 σL3 σ3 ∧ Lq s1 s3 ∧ PostS Z s0 W s3 (forL gs t (eb c) (items.drop (i + 1)) σL3 s3.h) D, fun σ3 H3 n => ?_, fun x H3 hy => ?_⟩
      · exact ⟨items.length - (i + 1), by omega, rfl, n.1, n.2⟩
      · obtain ⟨s3, rfl, e3, l3, ok3, r3⟩ := g2 x H3 hy
        split at p2
        · rename_i σ1 eb1
          refine ⟨s3, σL2, d, σ1, rfl, ok3, lc2.le ok2 l3, r3, eb1, fun σ4 lc4 => ?_⟩
          refine ⟨s3, σ1, rfl, ok3, lc4, ?_⟩
          rw [e3]
          have p3 := PostS.back (s1 := s3) p2 l3.lq l3.xcs
          cases eo : eb c σ1 s2.h with
          | nx σ5 h5 =>
            rw [eo] at p3
            intro s5 σ6 e5 l5 x5 ok5 lc5
            subst e5
            exact ⟨hlt, s5, σ5, rfl, ok5, lc5, (l2.trans l3.lq).trans l5, PostS.back p3 l5 x5⟩
          | ct σ5 h5 =>
            rw [eo] at p3
            intro s5 σ6 e5 l5 x5 ok5 lc5
            subst e5
            exact ⟨hlt, s5, σ5, rfl, ok5, lc5, (l2.trans l3.lq).trans l5, PostS.back p3 l5 x5⟩
          | bk σ5 h5 => rw [eo] at p3; exact p3
          | rt d5 h5 => rw [eo] at p3; exact p3
          | ex c5 f5 σ5 h5 => rw [eo] at p3; exact p3
          | bad => rw [eo] at p3; exact p3
        · exact p2.elim
    · exact p2.elim
/-! ### a list, a tuple -/
def gdX (gs : List (Nat × LO)) : S3 → Prop := fun s => gdOk gs s.h = true
theorem gd_one {n : Nat} {o : LO} {h : LH} (g : gdOk [(n, o)] h = true) : h[n]? = some o := by
  simpa [gdOk] using g
theorem get_none_ge {α : Type} {l : List α} {i : Nat} (h : l.length ≤ i) : l[i]? = none := List.getElem?_eq_none h
theorem src_list {s1 : S3} {a : Addr} {xs : List D} {gs : List (Nat × LO)} (hs : ∀ s, Lq s1 s → Ok3 Z s → gdOk gs s.h = true → ∃ vs, SqL Z.K s.H a vs ∧ RDs Z s xs vs) : SrcOk Z s1 (Itl Z.K a) xs (gdX gs) where
  go := fun i d s l ok g hd => by
    obtain ⟨vs, h1, h2⟩ := hs s l ok g
    obtain ⟨v, hv, r⟩ := h2.get hd
    refine ⟨⟨vs, v, h1, hv⟩, fun x H' hy => ?_⟩
    obtain ⟨rfl, hy⟩ := hy
    have := hy vs h1
    rw [hv] at this
    cases this
    exact ⟨s, rfl, rfl, Le.refl _, ok, r⟩
  stop := fun s l ok g => by
    obtain ⟨vs, h1, h2⟩ := hs s l ok g
    exact ⟨vs, h1, by rw [h2.length]; exact Nat.le_refl _⟩
theorem src_tup {s1 : S3} {a : Addr} {xs : List D} {gs : List (Nat × LO)} (hs : ∀ s, Lq s1 s → Ok3 Z s → gdOk gs s.h = true → ∃ vs, SqT Z.K s.H a vs ∧ RDs Z s xs vs) : SrcOk Z s1 (Itt Z.K a) xs (gdX gs) where
  go := fun i d s l ok g hd => by
    obtain ⟨vs, h1, h2⟩ := hs s l ok g
    obtain ⟨v, hv, r⟩ := h2.get hd
    refine ⟨⟨vs, v, h1, hv⟩, fun x H' hy => ?_⟩
    obtain ⟨rfl, hy⟩ := hy
    have := hy vs h1
    rw [hv] at this
    cases this
    exact ⟨s, rfl, rfl, Le.refl _, ok, r⟩
  stop := fun s l ok g => by
    obtain ⟨vs, h1, h2⟩ := hs s l ok g
    exact ⟨vs, h1, by rw [h2.length]; exact Nat.le_refl _⟩
/-- what a value's walk is: items and guards -/
def srcV (h : LH) : D → Option Src
  | .tup xs => some (xs, [])
  | .lst xs => some (xs, [])
  | .ref n => match h[n]? with
    | some (.lst xs) => some (xs, [(n, .lst xs)])
    | some (.lkL xs) => some (xs, [(n, .lkL xs)])
    | _ => none
  | _ => none
def isTupD : D → Bool
  | .tup _ => true
  | _ => false
/-- the value at each later state -/
theorem srcV_at {s1 : S3} (ok1 : Ok3 Z s1) {d : D} {xs : List D} {gs : List (Nat × LO)} {v : V} (h : srcV s1.h d = some (xs, gs)) (r : RD Z s1 d v) : ∃ a, v = .ref a ∧
    ∀ s, Lq s1 s → Ok3 Z s → gdOk gs s.h = true → ∃ vs, (if isTupD d = true then SqT Z.K s.H a vs else SqL Z.K s.H a vs) ∧ RDs Z s xs vs := by
  cases d with
  | tup ys =>
    cases h
    cases r with
    | @tup a _ vs h1 h2 => exact ⟨a, rfl, fun s l ok g => ⟨vs, SqT.lq ok1 l h1, h2.lq ok1 l⟩⟩
  | lst ys =>
    cases h
    cases r with
    | @lst a _ vs h1 h2 h3 => exact ⟨a, rfl, fun s l ok g => ⟨vs, SqL.of (l.keep a _ h1 h2), h3.lq ok1 l⟩⟩
  | ref n =>
    cases r with
    | @ref _ a hm =>
      simp only [srcV] at h
      split at h
      · rename_i ys e
        cases h
        refine ⟨a, rfl, fun s l ok g => ?_⟩
        obtain ⟨vs, h1, h2⟩ := ref_lst ok (l.at hm) (gd_one g)
        exact ⟨vs, SqL.of h1, h2⟩
      · rename_i ys e
        cases h
        refine ⟨a, rfl, fun s l ok g => ?_⟩
        obtain ⟨b, hb, vs, h1, h2⟩ := ok.ob n _ (gd_one g)
        rw [l.at hm] at hb; cases hb
        exact ⟨vs, SqK.sql h1, h2⟩
      · cases h
  | _ => cases h
def iSeq (K : PySem.W.Frag) (te : TE) : TI := fun σ H R => te σ H fun x H1 => ∃ a, x = .ref a ∧ (((∃ xs, SqL K H1 a xs) ∧ R (Itl K a) H1) ∨ ((∃ xs, SqT K H1 a xs) ∧ R (Itt K a) H1))
theorem pi_seq {e : Expr} {te : TE} (he : PE X e te) : PI X tg e (iSeq X.K te) := ⟨fun pins s σ H R I h => thn (he.run pins s σ H _ I h) fun v s1 ⟨x, H1, I1, r1, a, e, q⟩ => by
  subst e
  cases r1
  have fresh : ∀ b ∈ [s1.heap.objs.size], FpOk X pins H1 b := fun b hb => by
    cases List.mem_singleton.mp hb
    exact I1.fpOk (Nat.le_refl _) (I1.hok.fresh (Nat.le_refl _))
  rcases q with ⟨⟨xs, hq⟩, q⟩ | ⟨⟨xs, hq⟩, q⟩
  · obtain ⟨its, rv, pl, hz⟩ := I1.list hq
    exact wpAny_pyIter_list pl.isList ⟨_, _, _, _, H1, rfl, I1.kept (t' := s1.toks) fun b o e => Heap.get?_push_of_some _ e, turn_list a _, ⟨_, Heap.get?_push_size _ rfl, rfl, rfl⟩, fresh, q⟩
  · obtain ⟨its, rv, pl, hz⟩ := I1.tuple hq
    exact wpAny_pyIter_tuple (show s1.heap.IsTuple a its.toArray from pl) ⟨_, _, _, _, H1, rfl, I1.kept (t' := s1.toks) fun b o e => Heap.get?_push_of_some _ e, turn_tuple a _, ⟨_, Heap.get?_push_size _ rfl, rfl, rfl⟩, fresh, q⟩⟩
def bIter (a : DE) : DI := fun c σ h => (a c σ h).bind fun x h1 => optO (srcV h1 x) h1
theorem si_seq {e : Expr} {ee : DE} (hK : Z.K = X.K) (he : PE X e (tE Z W (ee c))) : PI X tg e (tI Z W (bIter ee c)) := (pi_seq he).imp fun σ H R t => by
  obtain ⟨s, σL, e1, ok, rs, q⟩ := t
  refine ⟨s, σL, e1, ok, rs, q.bind.mono (fun d s1 l1 ok1 q1 v rv => ?_) fun _ _ _ _ _ q => q⟩
  obtain ⟨⟨xs, gs⟩, es, hk⟩ := post_optB q1
  obtain ⟨a, rfl, hs⟩ := srcV_at ok1 es rv
  have fin := hk s1 rfl (Le.refl _) ok1
  have g0 : gdOk gs s1.h = true := by
    cases d with
    | ref n =>
      simp only [srcV] at es
      split at es
      · rename_i ys e; cases es; simp [gdOk, e]
      · rename_i ys e; cases es; simp [gdOk, e]
      · cases es
    | tup ys => cases es; rfl
    | lst ys => cases es; rfl
    | _ => cases es
  obtain ⟨vs0, h0, _⟩ := hs s1 (Lq.refl _) ok1 g0
  cases ht : isTupD d with
  | true =>
    simp only [ht, if_true] at hs h0
    exact ⟨a, rfl, .inr ⟨⟨vs0, hK ▸ h0⟩, hK ▸ fin _ (src_tup hs)⟩⟩
  | false =>
    simp only [ht, Bool.false_eq_true, if_false] at hs h0
    exact ⟨a, rfl, .inl ⟨⟨vs0, hK ▸ h0⟩, hK ▸ fin _ (src_list hs)⟩⟩
/-! ### range -/
def rngL (lo : Int) : Nat → List D
  | 0 => []
  | n + 1 => .int lo :: rngL (lo + 1) n
theorem rngL_len : ∀ (n : Nat) (lo : Int), (rngL lo n).length = n
  | 0, _ => rfl
  | n + 1, lo => by rw [rngL, List.length_cons, rngL_len n]
theorem rngL_get : ∀ (n : Nat) (lo : Int) (i : Nat) (d : D), (rngL lo n)[i]? = some d → i < n ∧ d = .int (lo + i)
  | 0, _, _, _, h => by cases h
  | n + 1, lo, 0, d, h => by
    simp [rngL] at h
    subst h
    exact ⟨Nat.succ_pos _, by simp⟩
  | n + 1, lo, i + 1, d, h => by
    rw [rngL, List.getElem?_cons_succ] at h
    obtain ⟨h1, h2⟩ := rngL_get n (lo + 1) i d h
    refine ⟨by omega, ?_⟩
    rw [h2]
    congr 1
    omega
theorem src_rng {s1 : S3} {lo : Int} {n : Nat} : SrcOk Z s1 (Itr lo n) (rngL lo n) (gdX []) where
  go := fun i d s l ok g hd => by
    obtain ⟨h1, rfl⟩ := rngL_get n lo i d hd
    exact ⟨h1, fun x H' hy => ⟨s, hy.1.symm, rfl, Le.refl _, ok, by rw [hy.2]; exact .int _⟩⟩
  stop := fun s l ok g => by
    rw [rngL_len]
    exact Nat.le_refl n
def rngOk (i : Int) : Bool := Nat.ble i.natAbs 2305843009213693952
theorem rngOk_lt {i : Int} (h : rngOk i = true) : -(2 ^ 62) ≤ i ∧ i < 2 ^ 62 := by
  have := Nat.le_of_ble_eq_true h
  omega
def bRng1 (a : DE) : DI := fun c σ h => (a c σ h).bind fun x h1 => match x with
  | .int j => if rngOk j = true then .ok (rngL 0 j.toNat, []) h1 else .bad
  | _ => .bad
def bRng2 (a b : DE) : DI := fun c σ h => (a c σ h).bind fun x h1 => (b c σ h1).bind fun y h2 => match x, y with
  | .int i, .int j => if rngOk i = true ∧ rngOk j = true then .ok (rngL i (j - i).toNat, []) h2 else .bad
  | _, _ => .bad
theorem si_rng1 {a : Expr} {ea : DE} (hg : Gl X "range") (hm : X.mg "range" = none) (hs : starEach [a] X.env = [(false, eval a X.env)]) (ha : PE X a (tE Z W (ea c))) : PI X tg (.Call (.Name "range" p) [a] [] pos) (tI Z W (bRng1 ea c)) :=
  (pi_range1 hg hm (pa_cons ha pa_nil hs) hs).imp fun σ H R t => by
    obtain ⟨s, σL, e1, ok, rs, q⟩ := t
    refine ⟨s, σL, e1, ok, rs, q.bind.mono (fun d s1 l1 ok1 q1 v rv => ?_) fun _ _ _ _ _ q => q⟩
    split at q1
    · rename_i j
      split at q1
      · rename_i hj
        cases rv
        have hj := rngOk_lt hj
        exact ⟨j, rfl, hj.1, hj.2, q1 s1 rfl (Le.refl _) ok1 _ src_rng⟩
      · exact q1.elim
    · exact q1.elim
theorem si_rng2 {a b : Expr} {ea eb : DE} (hg : Gl X "range") (hm : X.mg "range" = none) (hs : starEach [a, b] X.env = [(false, eval a X.env), (false, eval b X.env)]) (hs2 : starEach [b] X.env = [(false, eval b X.env)]) (ha : PE X a (tE Z W (ea c))) (hb : PE X b (tE Z W (eb c))) :
    PI X tg (.Call (.Name "range" p) [a, b] [] pos) (tI Z W (bRng2 ea eb c)) :=
  (pi_range2 hg hm (pa_cons ha (pa_cons hb pa_nil hs2) (by rw [hs, hs2])) hs hs2).imp fun σ H R t => by
    obtain ⟨s, σL, e1, ok, rs, q⟩ := t
    refine ⟨s, σL, e1, ok, rs, q.bind.mono (fun d s1 l1 ok1 q1 v rv => ?_) fun _ _ _ _ _ q => q⟩
    refine ⟨s1, σL, rfl, ok1, rs.le ok l1, (PostV.bind (o := eb c σL s1.h) q1).mono (fun e s2 l2 ok2 q2 w rw' => ?_) fun _ _ _ _ _ q => q⟩
    split at q2
    · rename_i i j
      split at q2
      · rename_i hj
        cases rv; cases rw'
        have h1 := rngOk_lt hj.1
        have h2 := rngOk_lt hj.2
        exact ⟨i, j, rfl, ⟨h1.1, h1.2, h2.1, h2.2⟩, q2 s2 rfl (Le.refl _) ok2 _ src_rng⟩
      · exact q2.elim
    · exact q2.elim
end
end Bh
/-! Bh, part 16: comprehensions. -/
namespace Bh
open PySem PySem.Spec PyProof.Rows L2
/-- the slots that a block has of its own, unset -/
def wipeS (σ : DSt) : List Nat → DSt
  | [] => σ
  | v :: vs => (wipeS σ vs).set v .no
theorem set_comm' {α : Type} (l : List α) {i j : Nat} (a b : α) (h : i ≠ j) : (l.set i a).set j b = (l.set j b).set i a := List.set_comm a b h
theorem wipe_set {σ : L2.St} {i : Nat} {x : Option V} : ∀ {vs : List Nat}, i ∈ vs → wipe (σ.set i x) vs = wipe σ vs
  | [], h => by cases h
  | v :: vs, h => by
    unfold wipe
    by_cases e : i ∈ vs
    · rw [wipe_set e]
    · have hv : i = v := by
        rcases List.mem_cons.mp h with h | h
        · exact h
        · exact absurd h e
      subst hv
      have out : ∀ {vs : List Nat} {σ : L2.St}, i ∉ vs → wipe (σ.set i x) vs = (wipe σ vs).set i x := fun {vs} => by
        induction vs with
        | nil => intro σ _; rfl
        | cons w ws ih =>
          intro σ hn
          rw [List.mem_cons, not_or] at hn
          unfold wipe
          rw [ih hn.2, List.set_comm _ _ hn.1]
      rw [out e, List.set_set]
theorem wipe_wipe {σ : L2.St} {vs : List Nat} : wipe (wipe σ vs) vs = wipe σ vs := by
  have h : ∀ {ws : List Nat}, (∀ i ∈ ws, i ∈ vs) → wipe (wipe σ ws) vs = wipe σ vs := fun {ws} => by
    induction ws with
    | nil => intro _; rfl
    | cons w ws ih =>
      intro hs
      show wipe ((wipe σ ws).set w none) vs = wipe σ vs
      rw [wipe_set (hs w List.mem_cons_self)]
      exact ih fun i hi => hs i (List.mem_cons_of_mem _ hi)
  exact h fun _ hi => hi
theorem wipeS_length {σ : DSt} : ∀ vs : List Nat, (wipeS σ vs).length = σ.length
  | [] => rfl
  | v :: vs => by unfold wipeS; rw [List.length_set, wipeS_length vs]
theorem RSt.wipe {Z : Sta} {s : S3} {σL : DSt} {σ : L2.St} (r : RSt Z s σL σ) : ∀ vs : List Nat, RSt Z s (wipeS σL vs) (L2.wipe σ vs)
  | [] => r
  | v :: vs => by
    have ih := RSt.wipe r vs
    unfold wipeS L2.wipe
    refine ⟨by rw [List.length_set, List.length_set]; exact ih.1, fun i sl h hn => ?_⟩
    rcases set_cases h with ⟨_, e, _⟩ | ⟨ne, h⟩
    · exact absurd e hn
    · rw [List.getElem?_set_ne ne]
      exact ih.2 i sl h hn
/-- a step that may change what stands at D, a list that nobody knows -/
structure LeD (D : Addr) (s s' : S3) : Prop where
  pre : ∃ t, s'.m = s.m ++ t
  keep : ∀ a o, s.H a = some o → ¬ Hm s a → a ≠ D → s'.H a = some o
  new : ∀ a, Hm s' a → Hm s a ∨ s.H a = none
  prs : s'.pr = s.pr
  xcs : s'.xc = s.xc
  dom : ∀ a o, s.H a = some o → ∃ o', s'.H a = some o'
theorem Le.d {s s' : S3} (l : Le s s') (D : Addr) : LeD D s s' := ⟨l.pre, fun a o h n _ => l.keep a o h n, l.new, l.prs, l.xcs, l.dom⟩
theorem LeD.refl (D : Addr) (s : S3) : LeD D s s := (Le.refl s).d D
theorem LeD.trans {D : Addr} {s s1 s2 : S3} (a : LeD D s s1) (b : LeD D s1 s2) : LeD D s s2 := by
  have nh : ∀ x o, s.H x = some o → ¬ Hm s x → ¬ Hm s1 x := fun x o h n q => by
    rcases a.new x q with z | z
    · exact n z
    · rw [h] at z; cases z
  refine ⟨?_, fun x o h n e => b.keep x o (a.keep x o h n e) (nh x o h n) e, fun x q => ?_, by rw [b.prs, a.prs], by rw [b.xcs, a.xcs], fun x o h => by obtain ⟨o', h'⟩ := a.dom x o h; exact b.dom x o' h'⟩
  · obtain ⟨t, e⟩ := a.pre
    obtain ⟨u, e'⟩ := b.pre
    exact ⟨t ++ u, by rw [e', e, List.append_assoc]⟩
  · rcases b.new x q with z | z
    · exact a.new x z
    · cases e : s.H x with
      | none => exact .inr rfl
      | some o => obtain ⟨o', h'⟩ := a.dom x o e; rw [h'] at z; cases z
theorem LeD.lq {D : Addr} {s s' : S3} (l : LeD D s s') (hp : s.pr D) : Lq s s' := ⟨l.pre, fun a o h n => l.keep a o h (fun z => n (.inl z)) fun e => n (.inr (e ▸ hp)), fun a q => by
  rcases q with q | q
  · rcases l.new a q with z | z
    · exact .inl (.inl z)
    · exact .inr z
  · rw [l.prs] at q
    exact .inl (.inr q)⟩
/-- the state without what stands at D -/
def S3.forget (s : S3) (D : Addr) : S3 := ⟨s.m, s.h, fun b => if b = D then none else s.H b, fun a => s.pr a ∧ a ≠ D, s.xc⟩
section
variable {X : Cx} {Z : Sta} {s0 : S3} {W : WX} {c : Calls} {pos p apos : Pos} {tg : Expr}
theorem Lq.forget {s : S3} {D : Addr} (hp : s.pr D) : Lq s (s.forget D) := ⟨⟨[], by simp [S3.forget]⟩, fun a o h n => by
    show (if a = D then none else s.H a) = some o
    rw [if_neg (fun e : a = D => n (.inr (e ▸ hp)))]
    exact h, fun a q => by
    rcases q with q | q
    · exact .inl (.inl q)
    · exact .inl (.inr q.1)⟩
theorem Ok3.forget {s : S3} (ok : Ok3 Z s) {D : Addr} (hp : s.pr D) : Ok3 Z (s.forget D) := by
  have ne : ∀ a, Hm s a → a ≠ D := fun a m e => (ok.prd D hp).1 (e ▸ m)
  refine ⟨ok.len, ok.inj, fun i o ho => ?_, fun a ha => ⟨(ok.prd a ha.1).1, ?_⟩⟩
  · obtain ⟨b, hb, r⟩ := ok.ob i o ho
    refine ⟨b, hb, r.lq ok (Lq.forget hp) fun hm => ?_⟩
    show (if b = D then none else s.H b) = s.H b
    rw [if_neg (ne b ⟨i, o, ho, hm, hb⟩)]
  · show (∃ vs, (if a = D then none else s.H a) = some (.lst vs)) ∨ ∃ kvs, (if a = D then none else s.H a) = some (.dK kvs)
    rw [if_neg ha.2]
    exact (ok.prd a ha.1).2
theorem forget_upd {s : S3} {D : Addr} {o : HO} (h : s.H D = some o) : upd (s.forget D).H D o = s.H := by
  funext b
  by_cases e : b = D
  · subst e
    rw [upd_same, h]
  · rw [upd_ne e]
    show (if b = D then none else s.H b) = s.H b
    rw [if_neg e]
/-- from before the block to behind it -/
theorem Le.block {s1 s2 : S3} {D : Addr} {o : HO} (hD : s1.H D = none) (ok1 : Ok3 Z s1) (l : LeD D ⟨s1.m, s1.h, upd s1.H D o, fun a => s1.pr a ∨ a = D, s1.xc⟩ s2) : Le s1 (s2.forget D) := by
  refine ⟨l.pre, fun a u h n => ?_, fun a q => ?_, ?_, l.xcs, fun a u h => ?_⟩
  · have ne := ne_of_none h hD
    show (if a = D then none else s2.H a) = some u
    rw [if_neg ne]
    exact l.keep a u ((upd_ne ne).trans h) n ne
  · rcases l.new a q with z | z
    · exact .inl z
    · cases e : s1.H a with
      | none => exact .inr rfl
      | some u => rw [show (S3.mk s1.m s1.h (upd s1.H D o) (fun a => s1.pr a ∨ a = D) s1.xc).H a = upd s1.H D o a from rfl, upd_ne (ne_of_none e hD), e] at z; cases z
  · funext a
    show (s2.pr a ∧ a ≠ D) = s1.pr a
    rw [l.prs]
    apply propext
    constructor
    · rintro ⟨h | h, n⟩
      · exact h
      · exact absurd h n
    · intro h
      exact ⟨.inl h, pr_ne ok1 hD h⟩
  · have ne := ne_of_none h hD
    obtain ⟨u', h'⟩ := l.dom a u ((upd_ne ne).trans h)
    exact ⟨u', by show (if a = D then none else s2.H a) = some u'; rw [if_neg ne]; exact h'⟩
/-! ### [e for t in src if q] -/
/-- the items that the block makes; an error is none of its ways -/
def lcL (gs : List (Nat × LO)) (t : Tg) (q : DSt → LH → Out Bool) (e : DSt → LH → Out D) (σ : DSt) : List D → List D → LH → Out (List D)
  | [], acc, h => if gdOk gs h = true then .ok acc h else .bad
  | x :: xs, acc, h => if gdOk gs h = true then match bindT t x σ with
      | some σ1 => match q σ1 h with
        | .ok b h1 => if b = true then match e σ1 h1 with
            | .ok y h2 => if acc.length < LIM then lcL gs t q e σ xs (acc ++ [y]) h2 else .bad
            | _ => .bad
          else lcL gs t q e σ xs acc h1
        | _ => .bad
      | none => .bad
    else .bad
def bLc (vs : List Nat) (t : Tg) (src : DI) (q : DT) (e : DE) : DEs := fun c σ h => (src c σ h).bind fun r h1 => lcL r.2 t (q c) (e c) (wipeS σ vs) r.1 [] h1
abbrev W0 : WX := fun _ _ _ _ => False
/-- the slots in a block: the block's own ones may change -/
def PB (Z : Sta) (vs : List Nat) (σ0 : L2.St) (s : S3) (σL : DSt) (σ : L2.St) : Prop := RSt Z s σL σ ∧ wipe σ vs = σ0
mutual
def Tg.inn (vs : List Nat) : Tg → Bool
  | .nm i => decide (i ∈ vs)
  | .tp ts => Tg.inns vs ts
def Tg.inns (vs : List Nat) : List Tg → Bool
  | [] => true
  | t :: ts => t.inn vs && Tg.inns vs ts
end
theorem PostV.noEx {α : Type} {s : S3} {o : Out α} {Q : α → S3 → Prop} {E : Nat → List D → S3 → Prop} (h : match o with | .ok a g => ∀ s', s'.h = g → Le s s' → Ok3 Z s' → Q a s' | _ => False) : PostV Z s o Q E := by
  cases o with
  | ok a g => exact h
  | ex _ _ _ => exact h.elim
  | bad => exact h
theorem lc_ok {vs : List Nat} {t : Tg} {eq : DT} {ee : DE} {J : It} {σL : DSt} {σ : L2.St} {s1 : S3} {items : List D} {gs : List (Nat × LO)} {Q : VK} {g : TG}
    (hg : ∀ v H R, tGP Z (PB Z vs (L2.wipe σ vs)) t v (L2.wipe σ vs) H R → g v (L2.wipe σ vs) H R) (ok1 : Ok3 Z s1) (rs : RSt Z s1 σL σ) (SO : SrcOk Z s1 J items (gdX gs))
    (p : PostV Z s1 (lcL gs t (eq c) (ee c) (wipeS σL vs) items [] s1.h) (fun ds s' => ∀ us, RDs Z s' ds us → ∀ p, s'.H p = none → Q (.ref p) (upd s'.H p (.lst us))) (EE Z W σ)) :
    ∀ D, s1.H D = none → ∃ Wf : Nat → Nat → Hp → Prop, (∃ m, Wf 0 m (upd s1.H D (.lst []))) ∧ ∀ i m H, Wf i m H →
      (J.stop i H ∧ Q (.ref D) H) ∨ (J.go i H ∧ ∃ Nx : Hp → Prop, (∀ H', Nx H' → ∃ m', m' < m ∧ Wf (i + 1) m' H') ∧ ∀ x H', J.yld i H x H' → g x (wipe σ vs) H' fun σ2 H2 => wipe σ2 vs = wipe σ vs ∧ tB_ Z W0 (eq c) σ2 H2 fun b H3 =>
        if b = true then tE Z W0 (ee c) σ2 H3 fun y H4 => ∃ acc, H4 D = some (.lst acc) ∧ acc.length < sizeLine ∧ Nx (upd H4 D (.lst (acc ++ [y]))) else Nx H3) := by
  intro D hD
  have lN := Lq.newO (s := s1) (u := .lst []) hD
  have okN := ok1.newO (p := D) (u := .lst []) hD (.inl ⟨[], rfl⟩)
  -- the state at a turn
  let sN : S3 := ⟨s1.m, s1.h, upd s1.H D (.lst []), fun a => s1.pr a ∨ a = D, s1.xc⟩
  have prD : sN.pr D := .inr rfl
  let At : Nat → Hp → Prop := fun i H => ∃ s acc us, s.H = H ∧ Ok3 Z s ∧ LeD D sN s ∧ s.H D = some (.lst us) ∧ RDs Z s acc us ∧
    PostV Z s1 (lcL gs t (eq c) (ee c) (wipeS σL vs) (items.drop i) acc s.h) (fun ds s' => ∀ us, RDs Z s' ds us → ∀ p, s'.H p = none → Q (.ref p) (upd s'.H p (.lst us))) (EE Z W σ)
  refine ⟨fun i m H => m = items.length - i ∧ i ≤ items.length ∧ At i H, ⟨items.length, rfl, Nat.zero_le _, sN, [], [], rfl, okN, LeD.refl D sN, upd_same, .nil, p⟩, ?_⟩
  rintro i m H ⟨rfl, hi, s, acc, us, rfl, ok, l, hDs, rA, pp⟩
  have lq1 : Lq s1 s := lN.trans (l.lq prD)
  cases hd : items[i]? with
  | none =>
    have hge : items.length ≤ i := by
      rcases Nat.lt_or_ge i items.length with h | h
      · rw [List.getElem?_eq_getElem h] at hd; cases hd
      · exact h
    have hi' : i = items.length := Nat.le_antisymm hi hge
    subst hi'
    rw [List.drop_length] at pp
    unfold lcL at pp
    split at pp
    · rename_i hgd
      refine .inl ⟨SO.stop s lq1 ok hgd, ?_⟩
      have prS : s.pr D := by rw [l.prs]; exact prD
      have q := pp (s.forget D) rfl (Le.block hD ok1 l) (ok.forget prS) us (rA.lq ok (Lq.forget prS)) D (by show (if D = D then none else s.H D) = none; rw [if_pos rfl])
      rw [forget_upd hDs] at q
      exact q
    · exact pp.elim
  | some d =>
    have hlt : i < items.length := (List.getElem?_eq_some_iff.mp hd).1
    have hdrop : items.drop i = d :: items.drop (i + 1) := by
      rw [List.drop_eq_getElem_cons hlt]
      rw [List.getElem?_eq_getElem hlt] at hd
      cases hd
      rfl
    rw [hdrop] at pp
    unfold lcL at pp
    split at pp
    · rename_i hgd
      obtain ⟨g1, g2⟩ := SO.go i d s lq1 ok hgd hd
      refine .inr ⟨g1, At (i + 1), fun H' n => ⟨items.length - (i + 1), by omega, rfl, hlt, n⟩, fun x H' hy => ?_⟩
      obtain ⟨s3, rfl, e3, l3, ok3, r3⟩ := g2 x H' hy
      split at pp
      · rename_i σ1 eb
        have l4 := l.trans (l3.d D)
        have prS3 : s3.pr D := by rw [l4.prs]; exact prD
        have rs3 : RSt Z s3 (wipeS σL vs) (wipe σ vs) := by
          have q : RSt Z s3 σL σ := ⟨rs.1, fun j sl h hn => by
            obtain ⟨v, e1, r⟩ := rs.2 j sl h hn
            have lq3 : Lq s1 s3 := lN.trans (l4.lq prD)
            refine ⟨v, e1, ?_⟩
            cases sl with
            | no => trivial
            | v d => exact RD.lq ok1 lq3 r
            | ol xs =>
              obtain ⟨b, e2, hb, ws, h3, q⟩ := r
              have ne := ne_of_none h3 hD
              exact ⟨b, e2, by rw [l4.prs]; exact .inl hb, ws, l4.keep b _ ((upd_ne ne).trans h3) (ok1.prd b hb).1 ne, RDs.lq ok1 lq3 q⟩
            | od xs =>
              obtain ⟨b, e2, hb, ws, h3, q⟩ := r
              have ne := ne_of_none h3 hD
              exact ⟨b, e2, by rw [l4.prs]; exact .inl hb, ws, l4.keep b _ ((upd_ne ne).trans h3) (ok1.prd b hb).1 ne, RDk.lq ok1 lq3 q⟩
            | ex c fs =>
              obtain ⟨b, cls, dd, e2, h3, x⟩ := r
              exact ⟨b, cls, dd, e2, h3, x.lq ok1 lq3⟩⟩
          exact q.wipe vs
        refine hg _ _ _ ⟨s3, wipeS σL vs, d, σ1, rfl, ok3, ⟨rs3, wipe_wipe⟩, r3, eb, fun σ2 pb => ?_⟩
        obtain ⟨rs4, hw⟩ := pb
        refine ⟨hw, s3, σ1, rfl, ok3, rs4, ?_⟩
        rw [e3]
        cases eo : eq c σ1 s.h with
        | ok b h1 =>
          rw [eo] at pp
          simp only at pp
          intro s5 e5 l5 ok5
          subst e5
          have l6 := l4.trans (l5.d D)
          have rA5 : RDs Z s5 acc us := (rA.le ok l3).le ok3 l5
          have hD5 : s5.H D = some (.lst us) := l5.keep D _ (l3.keep D _ hDs (ok.prd D (by rw [l.prs]; exact prD)).1) (ok3.prd D prS3).1
          cases b with
          | true =>
            rw [if_pos rfl]
            rw [if_pos rfl] at pp
            refine ⟨s5, σ1, rfl, ok5, rs4.le ok3 l5, ?_⟩
            cases ee2 : ee c σ1 s5.h with
            | ok y h2 =>
              rw [ee2] at pp
              simp only at pp
              intro s6 e6 l7 ok6 w rw'
              subst e6
              split at pp
              · rename_i hl
                have l8 := l6.trans (l7.d D)
                have prS6 : s6.pr D := by rw [l8.prs]; exact prD
                have hD6 : s6.H D = some (.lst us) := l7.keep D _ hD5 (ok5.prd D (by rw [l6.prs]; exact prD)).1
                have rA6 := rA5.le ok5 l7
                have lO := Lq.own (u := .lst (us ++ [w])) prS6
                refine ⟨us, hD6, by rw [lim_eq, ← rA6.length]; exact hl, ⟨s6.m, s6.h, upd s6.H D (.lst (us ++ [w])), s6.pr, s6.xc⟩, acc ++ [y], us ++ [w], rfl, ok6.own prS6 (.inl ⟨_, rfl⟩), ?_, upd_same, (rA6.app (.cons rw' .nil)).lq ok6 lO, pp⟩
                exact l8.trans ⟨⟨[], by simp⟩, fun a o h n ne => (upd_ne ne).trans h, fun a q => .inl q, rfl, rfl, upd_dom⟩
              · exact pp.elim
            | ex _ _ _ => rw [ee2] at pp; exact pp.elim
            | bad => rw [ee2] at pp; exact pp.elim
          | false =>
            rw [if_neg (by decide)]
            rw [if_neg (by decide)] at pp
            exact ⟨s5, acc, us, rfl, ok5, l6, hD5, rA5, pp⟩
        | ex _ _ _ => rw [eo] at pp; exact pp.elim
        | bad => rw [eo] at pp; exact pp.elim
      · exact pp.elim
    · exact pp.elim
/-- the block's target -/
def gB (Z : Sta) (vs : List Nat) (t : Tg) : TG := fun v σ H R => tGP Z (PB Z vs (L2.wipe σ vs)) t v σ H R
theorem gB_ok {X : Cx} {vs : List Nat} {t : Tg} (h : ∀ σ0, PG X tg (tGP Z (PB Z vs σ0) t)) : PG X tg (gB Z vs t) := ⟨fun pins s σ H v u Q I r q => (h (L2.wipe σ vs)).run pins s σ H v u Q I r q⟩
theorem PB.setv {vs : List Nat} {σ0 : L2.St} {i : Nat} (hi : i ∈ vs) : ∀ s σL σ d v, PB Z vs σ0 s σL σ → RD Z s d v → PB Z vs σ0 s (σL.set i (.v d)) (σ.set i (some v)) := fun s σL σ d v h r =>
  ⟨h.1.set (d := .v d) r i, by rw [wipe_set hi]; exact h.2⟩
abbrev Blk (X : Cx) (scope : Scope) (s : Shared) (H : Hp) (C : Addr) (cl : List (PySem.Str × Addr)) (fp : List Addr) : Cx := X.blk s H scope (compEnvC scope cl C X.env) fp
theorem sn_lc {elt iter : Expr} {ifs : List Expr} {scope : Scope} {own : List (PySem.Str × Nat)} {t : Tg} {ei : DI} {eq : DT} {ee : DE} (hc : X.calm = true) (hN : X.N.Nodup) (hi : PI X tg iter (tI Z W (ei c))) (ok : BlkOk X.N X.env.scope scope own)
    (hg : ∀ s H C cl fp σ0, PG (Blk X scope s H C cl fp) tg (tGP Z (PB Z (own.map (·.2)) σ0) t)) (ht : ∀ s H C cl fp, PTs (Blk X scope s H C cl fp) ifs (tB_ Z W0 (eq c))) (he : ∀ s H C cl fp, PE (Blk X scope s H C cl fp) elt (tE Z W0 (ee c))) (hs : ∀ x, foldedSetIterable iter X.env x = pure x) :
    PE X (.ListComp elt [⟨tg, iter, ifs, 0⟩] scope pos) (tN Z W (bLc (own.map (·.2)) t ei eq ee c)) := by
  refine (pe_lc hc hN hi ok (fun s H C cl fp => gB_ok (hg s H C cl fp)) ht he hs).imp fun σ H Q q => ?_
  obtain ⟨s, σL, e1, ok1, rs, p⟩ := q
  refine ⟨s, σL, e1, ok1, rs, p.bind.mono (fun r s1 l1 ok1' q1 J SO => ?_) fun _ _ _ _ _ q => q⟩
  exact lc_ok (g := gB Z (own.map (·.2)) t) (fun v H R h => by show tGP Z (PB Z _ (L2.wipe (L2.wipe σ _) _)) t v (L2.wipe σ _) H R; rw [wipe_wipe]; exact h) ok1' (rs.le ok1 l1) SO q1
/-- x = [..] on one line -/
theorem ss_lcS {i : Nat} {y : PySem.Str} {py : Pos} {elt iter : Expr} {ifs : List Expr} {scope : Scope} {own : List (PySem.Str × Nat)} {t : Tg} {ei : DI} {eq : DT} {ee : DE} {spos : Pos} (hc : X.calm = true) (hN : X.N.Nodup) (hy : X.N[i]? = some y) (hyl : X.env.scope.names.lookup y = some .local)
    (hsw : swapsWith (.ListComp elt [⟨tg, iter, ifs, 0⟩] scope pos) (some (.Name y py)) spos.line X.env = pure true) (hi : PI X tg iter (tI Z W (ei c))) (ok : BlkOk X.N X.env.scope scope own)
    (hg : ∀ s H C cl fp σ0, PG (Blk X scope s H C cl fp) tg (tGP Z (PB Z (own.map (·.2)) σ0) t)) (ht : ∀ s H C cl fp, PTs (Blk X scope s H C cl fp) ifs (tB_ Z W0 (eq c))) (he : ∀ s H C cl fp, PE (Blk X scope s H C cl fp) elt (tE Z W0 (ee c))) (hs : ∀ x, foldedSetIterable iter X.env x = pure x) :
    PS X (.Assign [.Name y py] (.ListComp elt [⟨tg, iter, ifs, 0⟩] scope pos) spos) (tAsg (tN Z W (bLc (own.map (·.2)) t ei eq ee c)) (gName i)) := by
  refine (ps_setLc hc hN hy hyl hsw hi ok (fun s H C cl fp => gB_ok (hg s H C cl fp)) ht he hs).imp fun D σ H q => ?_
  obtain ⟨s, σL, e1, ok1, rs, p⟩ := q
  refine ⟨s, σL, e1, ok1, rs, p.bind.mono (fun r s1 l1 ok1' q1 J SO => ?_) fun _ _ _ _ _ q => q⟩
  exact lc_ok (Q := fun x H1 => gName i x σ H1 D.nx) (g := gB Z (own.map (·.2)) t) (fun v H R h => by show tGP Z (PB Z _ (L2.wipe (L2.wipe σ _) _)) t v (L2.wipe σ _) H R; rw [wipe_wipe]; exact h) ok1' (rs.le ok1 l1) SO q1
theorem asg_v {i : Nat} {st : Stmt} {er : DEs} (h : PS X st (tAsg (tN Z W (er c)) (gName i))) : PS X st (tS Z s0 W (bSet i (bLstV er) c)) := h.imp fun D σ H t => by
  obtain ⟨s, σL, e1, ok, lc, q⟩ := t
  refine ⟨s, σL, e1, ok, lc.rs, ?_⟩
  have q' := q.toS lc ok
  refine (PostV.bind (o := er c σL s.h) (f := fun xs h1 => .ok (Bh.D.lst xs) h1) q').mono (fun ds s1 l1 ok1 q1 vs rv pp hp => ?_) fun _ _ _ _ _ q => q
  have q2 := q1 ⟨s1.m, s1.h, upd s1.H pp (.lst vs), s1.pr, s1.xc⟩ rfl (Le.tmp hp) (ok1.tmp hp)
  exact q2 _ (σ.set i (some (.ref pp))) rfl (Lq.refl _) rfl (ok1.tmp hp) (((lc.le ok l1).le ok1 (Le.tmp hp)).setv (RD.newL ok1 hp rv) i)
theorem asg_o {i : Nat} {st : Stmt} {er : DEs} (h : PS X st (tAsg (tN Z W (er c)) (gName i))) : PS X st (tS Z s0 W (bSetL i er c)) := h.imp fun D σ H t => by
  obtain ⟨s, σL, e1, ok, lc, q⟩ := t
  refine ⟨s, σL, e1, ok, lc.rs, (q.toS lc ok).mono (fun ds s1 l1 ok1 q1 vs rv pp hp => ?_) fun _ _ _ _ _ q => q⟩
  have l := Lq.newO (u := .lst vs) hp
  refine q1 ⟨s1.m, s1.h, upd s1.H pp (.lst vs), fun a => s1.pr a ∨ a = pp, s1.xc⟩ _ rfl l rfl (ok1.newO hp (.inl ⟨vs, rfl⟩)) ((lc.le ok l1).newO ok1 hp i rfl ?_)
  exact ⟨pp, rfl, .inr rfl, vs, upd_same, rv.lq ok1 l⟩
theorem asg_r {i : Nat} {st : Stmt} {er : DEs} (h : PS X st (tAsg (tN Z W (er c)) (gName i))) : PS X st (tS Z s0 W (bSet i (bLstR er) c)) := h.imp fun D σ H t => by
  obtain ⟨s, σL, e1, ok, lc, q⟩ := t
  refine ⟨s, σL, e1, ok, lc.rs, ?_⟩
  have q' := q.toS lc ok
  refine (PostV.bind (o := er c σL s.h) (f := fun xs h1 => .ok (Bh.D.ref h1.length) (h1 ++ [.lst xs])) q').mono (fun ds s1 l1 ok1 q1 vs rv pp hp => ?_) fun _ _ _ _ _ q => q
  have l := Le.push (o := .lst ds) (u := .lst vs) ok1 hp
  have k := ok1.push (o := .lst ds) (u := .lst vs) hp ⟨vs, upd_same, rv.le ok1 l⟩
  have q2 := q1 (s1.push pp (.lst ds) (.lst vs)) rfl l k
  have r0 : RD Z (s1.push pp (.lst ds) (.lst vs)) (.ref s1.h.length) (.ref pp) := .ref (by show (s1.m ++ [pp])[s1.h.length]? = some pp; rw [← ok1.len]; simp)
  exact q2 _ (σ.set i (some (.ref pp))) rfl (Lq.refl _) rfl k (((lc.le ok l1).le ok1 l).setv r0 i)
theorem pts_yes : PTs X [] (tB_ Z W0 ((fun _ _ h => .ok true h : DT) c)) := ⟨fun pins s σ H Q I t => pts_nil.run pins s σ H Q I (by
  obtain ⟨s, σL, rfl, ok, rs, p⟩ := t
  exact p s rfl (Le.refl _) ok)⟩
end
end Bh
/-! Bh, part 17: an exception's __init__ that says super().__init__(..). -/
namespace Bh
open PySem PySem.Spec PyProof.Rows L2 PySem.W PySem.Calls
section
variable {prog : Program} {w : World} {A : Around} {E : Value → Shared → Prop} {h : Heap} {g : Array GenState} {d : Drawn} {t : Nat} {os : OsState}
variable {nm q : PySem.Str} {C N : Addr} {bs bm : List Value} {hdct : Bool} {sn : List PySem.Str} {sub : List Value} {ab : Bool} {col : Option Bool} {dd : Option Addr} {k0 k1 k2 k3 k5 : Option Value}
theorem call_mwV {u e t0 : Addr} {rest : List Value} {Q : Value → Shared → Prop}
    (hC : h.get? C = some (excClassObj nm q C N bs bm hdct sn sub ab col dd k0 k1 k2 k3 k5 "ValueError.__new__")) (he : h.get? e = some (HandSPX.excO C t0)) (hu : h.get? u = some (kxs_mw "ValueError.__init__" e)) (hrest : rest.length ≤ sizeLine)
    (hq : ∀ h' t1, (∀ b o, b ≠ e → h.get? b = some o → h'.get? b = some o) → h'.get? e = some (HandSPX.excO C t1) → Q .none ⟨h', g, d, t, os⟩) :
    wpAny (model prog w) A (call (.ref u) rest) Q E ⟨h, g, d, t, os⟩ := by
  refine wpAny_call (codeAny_of_tree ?_)
  show wpAny _ A.in1 (callAny (.ref u) ⟨rest, []⟩) _ _ _
  simp only [callAny]
  refine wpAny_bind (wpAny_load hu ?_)
  simp only [kxs_mw, show (Value.type "method-wrapper" == Value.type "method" || Value.type "method-wrapper" == Value.type "builtin_function_or_method" || Value.type "method-wrapper" == Value.type "method-wrapper") = true by decide, if_true]
  refine W.KFB.if_so (by decide) ?_
  refine wpAny_bind (ESX.check_bound F.excBase_ValueError hC he rfl ?_)
  refine wpAny_bind (wpAny_pure (wpAny_pure ?_))
  refine ⟨Code.quiet_builtin _ (by decide +kernel), codeAny_builtin F.excBase_ValueError.initEntry ?_⟩
  rw [Around.under_plainId F.excBase_ValueError.init.plain _]
  wp_walk
  refine hq _ h.objs.size (fun b o hb ho => ?_) ?_
  · rw [Heap.get?_update_other _ _ (Ne.symm hb)]
    exact Heap.get?_push_of_some _ ho
  · rw [Heap.get?_update_self _ (Heap.get?_push_of_some _ he) rfl]
    rfl
end
/-- what a def says super().__init__(..) with -/
structure SupOk (X : Cx) (f cda cc D : Addr) (me : PySem.Str) : Prop where
  ks : X.env.kindOf "super" = some .globalImplicit
  kc : X.env.kindOf "__class__" = some .free
  fu : X.env.func = some f
  lf : ∃ oc od fd osl ar, X.K.lookup f = some ⟨oc, od, .func fd, osl⟩ ∧ (fd.params.posonlyargs ++ fd.params.args).head? = some ar ∧ ar.arg = me
  co : X.env.code = .ref cda
  cd : ∃ cl cdd vs ccs file tf, X.K.lookup cda = some ⟨cl, cdd, .fields vs, ccs⟩ ∧ vs[2]? = some (.str file tf) ∧ ((X.prog.main.file : PySem.Str) == file) = true
  ce : X.env.cells.lookup ("__class__" : PySem.Str) = some cc
  lc : ∃ cl cld csl, X.K.lookup cc = some ⟨cl, cld, .cell (some (.ref D)), csl⟩
  cD : ∃ cdD, clsIn X.K D = some cdD
  mg : X.mg "super" = none
  top : (X.prog.main.scope.names.lookup ("super" : PySem.Str)).isSome = false
  tp : nsIn X.K cStatics "thirdparty.any" = some none
/-- .. and an exception of the class at C under it -/
structure SupC (K : PySem.W.Frag) (C D : Addr) : Prop where
  sub : mroIn K C (.ref D) = some true
  al : ∃ cd, clsIn K C = some cd ∧ alongIn K "__init__" ((cd.mro.dropWhile (· != .ref D)).drop 1) = some (some (.builtin "ValueError.__init__"))
  ve : mroIn K C (.type "ValueError") = some true
section
variable {X : Cx} {pins : List (Addr × Obj)} {σ : L2.St} {H : Hp} {s : Shared} {f cda cc D C a : Addr} {me : PySem.Str}
theorem super_at {body : List Stmt} {p0 p1 apos pos : Pos} {e : Expr} {es : List Expr} {t : TA} (S : SupOk X f cda cc D me) (SC : SupC X.K C D) (T : OexC X.K C) (I : L2.Inv X pins σ H s) (h0 : X.N[0]? = some me) (hl0 : X.env.scope.names.lookup me = some .local) (s0 : σ[0]? = some (some (V.ref a)))
    (ea : H a = some (exo a C none)) (ha : PA X (e :: es) t) (ht : t σ H fun vs H1 => H1 = H ∧ vs.length ≤ 1000) (he : starEach (e :: es) X.env = (false, eval e X.env) :: starEach es X.env) (hpl : (backTo pos (starEach es X.env)).any (·.1) = false)
    (hme : eval (.Call (.Attribute (.Call (.Name "super" p0) [] [] p1) "__init__" apos) (e :: es) [] pos) X.env = (do
      let ov ← attributeBase (.Call (.Name "super" p0) [] [] p1) "__init__" X.env (eval (.Call (.Name "super" p0) [] [] p1) X.env)
      standAt apos.atName
      let (f, first) ← holding [ov] (getMethod ov "__init__" (do return (← importBound (.Call (.Name "super" p0) [] [] p1) X.env).getD true))
      callWith pos f first (backTo pos (starEach (e :: es) X.env)) [])) :
    _root_.PySem.wpAt (model X.prog X.w) X.A (.func body X.env) (eval (.Call (.Attribute (.Call (.Name "super" p0) [] [] p1) "__init__" apos) (e :: es) [] pos) X.env) (fun _ s' => L2.Inv X pins σ H s') X.xe s := by
  obtain ⟨oc, od, fd, osl, ar, lf, hp, har⟩ := S.lf
  obtain ⟨cl, cdd, vs, ccs, file, tf, lcd, hvs, hfile⟩ := S.cd
  obtain ⟨cl2, cld, csl, lcc⟩ := S.lc
  obtain ⟨cdD, hD⟩ := S.cD
  obtain ⟨cdC, hC, hal⟩ := SC.al
  have KX := I.kIn
  obtain ⟨oD, hD1, hD2⟩ : ∃ oD, s.heap.get? D = some oD ∧ oD.data = .cls cdD := by
    unfold clsIn at hD
    split at hD
    · rename_i c d cd' sl ho
      cases hD
      exact ⟨_, KX _ _ ho, rfl⟩
    · cases hD
  obtain ⟨t1, hae⟩ := exo_at I.hok ea
  obtain ⟨m, hn, hl⟩ := I.loc
  obtain ⟨u, ru, lu⟩ := hl 0 me (.ref a) h0 s0 (.inl hl0)
  obtain rfl : u = Value.ref a := ru
  have hkself : X.env.kindOf me = some .local := hl0
  have hm : m me = some (.ref a) := by
    rcases lu with ⟨_, z⟩ | ⟨z, _⟩
    · exact z
    · rcases z with z | z <;> (rw [hkself] at z; cases z)
  refine ks_wpAt_MethodCall ?_ hme
  refine ks_wpAt_super_base (f := f) (cc := cda) (file := file) S.ks S.kc (by decide) S.fu (KX _ _ lf) rfl hp S.co (KX _ _ lcd) rfl hvs hfile S.top ?_
  obtain ⟨mb, b1, b2⟩ := I.mod.blt
  refine ks_loadName_global I.ok.kind S.ks (loadGlobal_builtin (by rw [I.ok.glob]; exact I.mod.glob.keeps I.bk) S.mg (by rw [I.ok.blt]; exact b1.keeps I.bk) ((b2 "super" (by decide)).trans (by decide +kernel)) ⟨rfl, ?_⟩)
  refine wpAny_loadName_free I.ok.kind S.kc S.ce ⟨_, KX _ _ lcc, rfl⟩ ?_
  rw [har]
  refine wpAny_loadName_local I.ok.kind hkself hn hm ?_
  refine ks_wpAny_isType_cls hD1 hD2 ⟨rfl, ?_⟩
  obtain ⟨hp', g, dr, tk, os⟩ := s
  refine ks_wpAny_call_super hD1 hD2 hae rfl (fun c z => by cases z) (looks_mroIn KX SC.sub) (fun h1 hso k1 => ?_)
  have I1 : L2.Inv X pins σ H ⟨h1, g, dr, tk, os⟩ := I.kept (t' := tk) k1
  have KX1 := I1.kIn
  have hae1 := k1 _ _ hae
  have hne : a ≠ C := ks_ne (x := a) (C := C) (odx := none) KX1 ⟨hae1, rfl, rfl, trivial⟩ hC
  have Lt : Looks (model X.prog X.w) h1 (typeOf (.ref a)) (.ref C) := fun A Q E s k q => wpAny_typeOf_ref (k _ _ hae1) q
  refine kxs_getMethod kxs_ValueError hso (looks_opaque KX1 S.tp) (l₀ := cdC.mro) (fun A Q E s k q => wpAny_bind ((looks_clsIn KX1 hC) A _ E s k (wpAny_pure q))) rfl KX1 hal (Lt.andThen (looks_mroIn KX1 SC.ve)) hne (by decide) ?_
  have k2 : ∀ b o, h1.get? b = some o → (h1.push (kxs_mw "ValueError.__init__" a)).get? b = some o := fun b o e => Heap.get?_push_of_some _ e
  have I2 : L2.Inv X pins σ H ⟨h1.push (kxs_mw "ValueError.__init__" a), g, dr, tk + 1, os⟩ := I1.kept (t' := tk + 1) k2
  have hu2 : (h1.push (kxs_mw "ValueError.__init__" a)).get? h1.objs.size = some (kxs_mw "ValueError.__init__" a) := Heap.get?_push_size _ rfl
  have hf : ∀ b ∈ [h1.objs.size], FpOk X pins H b := fun b hb => by
    cases List.mem_singleton.mp hb
    exact I1.fpOk (Nat.le_refl _) (I1.hok.fresh (Nat.le_refl _))
  have I3 := I2.pinned hf (fun b hb => by cases List.mem_singleton.mp hb; exact ⟨_, hu2, fun v z => by cases z⟩)
  have hpin : (h1.objs.size, kxs_mw "ValueError.__init__" a) ∈ pinsAt [h1.objs.size] (h1.push (kxs_mw "ValueError.__init__" a)) := mem_pinsAt List.mem_cons_self hu2
  have hev := ha.run pos _ _ σ H _ I3 ht
  rw [he] at hev ⊢
  refine kxs_callWith (i := "ValueError.__init__") (x := a) (by show (false || (backTo pos (starEach es X.env)).any (·.1)) = false; rw [hpl] <;> rfl) (evalArgs_plain (thn hev fun us s4 ⟨ws, H4, I4, r4, eH, hlen⟩ => ?_))
  subst eH
  have hu4 : s4.heap.get? h1.objs.size = some (kxs_mw "ValueError.__init__" a) := (I4.pin _ (List.mem_append_right _ (List.mem_append_right _ hpin))).1
  refine ⟨hu4, ?_⟩
  obtain ⟨nm, q, N, bs, bm, sn, sub, ab, col, dd, k0, k1, k2, k3, k5, hCo, hbm⟩ := T.cls
  obtain ⟨t4, hae4⟩ := exo_at I4.hok ea
  obtain ⟨h4, g4, d4, tk4, os4⟩ := s4
  have hus : us.length ≤ sizeLine := by
    rw [← Paired.length r4, sizeLine_eq]
    omega
  refine call_mwV (I4.kIn _ _ hCo) hae4 hu4 hus (fun h' t5 k5 hx => ?_)
  have J := I4.unpinned.write (t' := tk4) (x := a) (e := a) (o := exo a C none) (by rw [ea]; exact True.intro) (.inl rfl) k5 ⟨_, hx⟩ (exo_ok hx)
  have eu : upd H4 a (exo a C none) = H4 := by
    funext b
    by_cases hb : b = a
    · rw [hb, upd_same, ea]
    · rw [upd_ne hb]
  rw [eu] at J
  exact J
end
/-- the facts of such a def in the written part -/
structure SupF (P : Program) (K : PySem.W.Frag) (mg : PySem.Str → Option Value) (f cc D : Addr) (F : NdefX.NF) (N ps : List PySem.Str) (me : PySem.Str) : Prop where
  lk : ∃ oc od dV kV doc pm an ct osl, K.lookup f = some ⟨oc, od, .func (fnX F.name F.qual F.params F.body F.scope F.cl dV kV doc pm an (.ref F.c) ct), osl⟩
  hcd : codeIn K (.ref F.c) F.qual = true
  cl : F.cl = [(("__class__" : PySem.Str), cc)]
  S : NdefX.NScope N ps ["__class__"] F.scope
  ks : F.scope.names.lookup ("super" : PySem.Str) = some .globalImplicit
  hp : ∃ ar, (F.params.posonlyargs ++ F.params.args).head? = some ar ∧ ar.arg = me
  cd : ∃ cl cdd vs ccs file tf, K.lookup F.c = some ⟨cl, cdd, .fields vs, ccs⟩ ∧ vs[2]? = some (.str file tf) ∧ ((P.main.file : PySem.Str) == file) = true
  lc : ∃ cl cld csl, K.lookup cc = some ⟨cl, cld, .cell (some (.ref D)), csl⟩
  cD : ∃ cdD, clsIn K D = some cdD
  mg : mg "super" = none
  top : (P.main.scope.names.lookup ("super" : PySem.Str)).isSome = false
  tp : nsIn K cStatics "thirdparty.any" = some none
  n0 : N[0]? = some me
  l0 : F.scope.names.lookup me = some .local
/-- what such a def promises: from an exception just made, one with these fields -/
def spSup (K : PySem.W.Frag) (D : Addr) (n : Nat) (fs : List V → List (PySem.Str × V)) : Sp := fun vs H Q E => ∃ (a C : Addr) (ws : List V), vs = .ref a :: ws ∧ ws.length = n ∧ OexC K C ∧ SupC K C D ∧ (∀ p ∈ fs ws, findIn K (.ref C) p.1 = some none) ∧ H a = some (exo a C none) ∧
  ∀ d H', H d = none → d ≠ a → H' a = some (exo a C (some d)) → H' d = some (exd d (fs ws)) → (∀ b, b ≠ a → b ≠ d → H' b = H b) → Q .non H'
section
variable {P : Program} {w : World} {K : PySem.W.Frag} {mg : PySem.Str → Option Value} {base : Heap} {CX : CXT} {k : Nat} {f cc D : Addr} {F : NdefX.NF} {N ps : List PySem.Str} {me : PySem.Str}
theorem sup_env {A : Around} {outer : List Env} {s : Shared} {H : Hp} {E : XK} (S : SupF P K mg f cc D F N ps me) : SupOk (NdefX.ncx CX P w K mg base N F f A outer s H E) f F.c cc D me := by
  obtain ⟨oc, od, dV, kV, doc, pm, an, ct, osl, lk⟩ := S.lk
  obtain ⟨ar, hp, har⟩ := S.hp
  refine ⟨S.ks, S.S.frk _ List.mem_cons_self, rfl, ⟨oc, od, _, osl, ar, lk, hp, har⟩, rfl, S.cd, ?_, S.lc, S.cD, S.mg, S.top, S.tp⟩
  show F.cl.lookup _ = _
  rw [S.cl]
  rfl
theorem fn_sup {n : Nat} (hn : n + 1 = ps.length) {e : Expr} {es : List Expr} {rest : List Stmt} {p0 p1 apos pos pos2 : Pos} {fs : List V → List (PySem.Str × V)} (S : SupF P K mg f cc D F N ps me) (hb : F.body = .Expr (.Call (.Attribute (.Call (.Name "super" p0) [] [] p1) "__init__" apos) (e :: es) [] pos) pos2 :: rest)
    (he : ∀ env, starEach (e :: es) env = (false, eval e env) :: starEach es env) (hpl : ∀ env, (backTo pos (starEach es env)).any (·.1) = false)
    (hme : ∀ env, eval (.Call (.Attribute (.Call (.Name "super" p0) [] [] p1) "__init__" apos) (e :: es) [] pos) env = (do
      let ov ← attributeBase (.Call (.Name "super" p0) [] [] p1) "__init__" env (eval (.Call (.Name "super" p0) [] [] p1) env)
      standAt apos.atName
      let (f, first) ← holding [ov] (getMethod ov "__init__" (do return (← importBound (.Call (.Name "super" p0) [] [] p1) env).getD true))
      callWith pos f first (backTo pos (starEach (e :: es) env)) []))
    (hargs : ∀ A outer s H E, ∃ t, PA (NdefX.ncx CX P w K mg base N F f A outer s H E) (e :: es) t ∧ ∀ (ws : List V) (a : Addr) (H : Hp), ws.length + 1 = ps.length → t (NdefX.startF N (.ref a :: ws) [none]) H fun vs H1 => H1 = H ∧ vs.length ≤ 1000)
    (hrest : ∀ A outer s H E, ∃ t, PSs (NdefX.ncx CX P w K mg base N F f A outer s H E) rest t ∧ ∀ (Q : VK) (a C : Addr) (ws : List V) (H : Hp), ws.length + 1 = ps.length → OexC K C → (∀ p ∈ fs ws, findIn K (.ref C) p.1 = some none) → H a = some (exo a C none) →
      (∀ d H', H d = none → d ≠ a → H' a = some (exo a C (some d)) → H' d = some (exd d (fs ws)) → (∀ b, b ≠ a → b ≠ d → H' b = H b) → Q .non H') → t { nx := fun _ H' => Q .non H', rt := Q } (NdefX.startF N (.ref a :: ws) [none]) H) :
    ∃ fd oc od osl, K.lookup f = some ⟨oc, od, .func fd, osl⟩ ∧ fd.params = F.params ∧ FnOk P w K mg base CX (k + 1) f fd ps (spSup K D n fs) := by
  obtain ⟨oc, od, dV, kV, doc, pm, an, ct, osl, lk⟩ := S.lk
  refine ⟨_, oc, od, osl, lk, rfl, fun vs H Q E h => ?_, fun A outer s H args us vs Q E hr e0 hbind r hsp => ?_⟩
  · obtain ⟨a, C, ws, rfl, hl, _⟩ := h
    rw [List.length_cons]
    omega
  · obtain ⟨a, C, ws, rfl, hl, T, SC, hf, ha, q⟩ := hsp
    have hl1 : (V.ref a :: ws).length = ps.length := by rw [List.length_cons, hl, hn]
    have KX : K.In s.heap := e0.mod.kin.keeps fun b o e => (e0.bs b o e).1
    have lim : s.heap.NoLimit := e0.mod.nolimit.keeps fun b o e => (e0.bs b o e).1
    obtain ⟨cl2, cld, csl, lcc⟩ := S.lc
    have C1 : NdefX.CellsAt F.cl ["__class__"] [none] s.heap H := by
      have hcc : s.heap.get? cc = some ⟨cl2, cld, .cell (some (.ref D)), csl⟩ := KX _ _ lcc
      have hb1 : base.get? cc = some ⟨cl2, cld, .cell (some (.ref D)), csl⟩ := e0.mod.kin _ _ lcc
      rw [S.cl]
      refine ⟨rfl, fun y c e => ?_, fun x y c e1 e2 => ?_, fun i y e => ?_⟩
      · by_cases hy : y = ("__class__" : PySem.Str)
        · subst hy
          simp [List.lookup] at e
          subst e
          exact ⟨(e0.bs _ _ hb1).2, _, _, hcc, rfl⟩
        · have : (y == ("__class__" : PySem.Str)) = false := by simpa using hy
          simp [List.lookup, this] at e
      · have one : ∀ y, List.lookup y [(("__class__" : PySem.Str), cc)] = some c → y = ("__class__" : PySem.Str) := fun y e => by
          by_cases hy : y = ("__class__" : PySem.Str)
          · exact hy
          · have : (y == ("__class__" : PySem.Str)) = false := by simpa using hy
            simp [List.lookup, this] at e
        rw [one x e1, one y e2]
      · match i, e with
        | 0, e =>
          have : y = ("__class__" : PySem.Str) := by simpa using e.symm
          subst this
          exact ⟨cc, by simp [List.lookup], fun v z => by simp at z⟩
        | i + 1, e => simp at e
    refine codeAny_call_function hr.depth (KX _ _ lk) rfl S.S.co S.S.gen rfl (codeRec_of KX S.hcd) (hbind _ _ _ _ ?_)
    refine wpAny_newFunctionEnv S.S.nocell (fun ⟨n, _⟩ hy => S.S.par n (List.of_mem_zip hy).1) (fun h₁ hns hsb => ⟨lim.fresh _ hsb, ?_⟩) S.S.kind
    have kp : ∀ b o, s.heap.get? b = some o → h₁.get? b = some o := fun b o e => hsb.extBut b o (Nat.ne_of_lt (Heap.lt_size e)) (Heap.get?_push_of_some _ e)
    have I : L2.Inv (NdefX.ncx CX P w K mg base N F f A outer s H E) [] (NdefX.startF N (.ref a :: ws) [none]) H { s with heap := h₁, toks := s.toks + (ps.zip us).length } := NdefX.inv_startN S.S hr.hd e0 hl1 r C1 hns kp
    show codeAny _ _ (.func F.body (NdefX.envF F f s.heap.objs.size)) _ _
    rw [hb]
    refine ks_codeAny_funcAt ?_
    refine ks_wpAt_execs_cons ?_
    obtain ⟨ta, ha1, ha2⟩ := hargs A outer s H E
    have hsw : swapsWith (.Call (.Attribute (.Call (.Name "super" p0) [] [] p1) "__init__" apos) (e :: es) [] pos) none pos2.line (NdefX.envF F f s.heap.objs.size) = pure false := rfl
    refine ks_wpAt_Expr_any (_root_.PySem.wpAt_mono (super_at (sup_env S) SC T I S.n0 S.l0 (by rfl) ha ha1 (ha2 ws a H (by rw [List.length_cons] at hl1; exact hl1)) (he _) (hpl _) (hme _)) (fun v s1 I1 => ?_) fun e s' hh => hh) I.quiet hsw
    refine _root_.PySem.wpAt_of_wpAny ?_
    obtain ⟨tr, hr1, hr2⟩ := hrest A outer s H E
    have hq := hr2 Q a C ws H (by rw [List.length_cons] at hl1; exact hl1) T hf ha q
    refine wpAny_mono (hr1.run [] s1 _ H _ I1 hq) (fun fl s' hs => ?_) fun e s' hs => hs
    have fin : ∀ {σ' : L2.St} {H' : Hp} {v : V} {u : Value}, L2.Inv (NdefX.ncx CX P w K mg base N F f A outer s H E) [] σ' H' s' → L2.RelV v u → Q v H' → CE outer P w H s Q u s' :=
      fun {σ' H' v u} J rv q => ⟨v, H', J.os, J.bare, J.base, J.hok, rv, q⟩
    cases fl with
    | ret u =>
      obtain ⟨v, σ', H', J, rv, q⟩ := hs
      exact fin J rv q
    | next =>
      obtain ⟨σ', H', J, q⟩ := hs
      exact fin (v := V.non) (u := Value.none) J rfl q
    | brk =>
      obtain ⟨_, _, _, q⟩ := hs
      exact False.elim q
    | cont =>
      obtain ⟨_, _, _, q⟩ := hs
      exact False.elim q
end
end Bh
/-! Bh, part 18: raise, try. -/
namespace Bh
open PySem PySem.Spec PyProof.Rows L2
/-- an own exception that may be raised -/
structure ExOk (X : Cx) (Z : Sta) (lev k n : Nat) : Prop where
  T : OexC X.K (Z.ca k)
  ini : ∃ fI D fd ps fs, PySem.W.findIn X.K (.ref (Z.ca k)) "__init__" = some (some (.ref fI)) ∧ PySem.W.typeIn X.K (.ref fI) = some (.type "function") ∧ FnOk X.prog X.w X.K X.mg X.base (L2.CX X.prog X.w) lev fI fd ps (spSup X.K D n fs) ∧ Binds X.K fd ps [] ∧ SupC X.K (Z.ca k) D ∧
    (∀ ws : List V, ws.length = n → ∀ p ∈ fs ws, PySem.W.findIn X.K (.ref (Z.ca k)) p.1 = some none) ∧ (∀ ws : List V, ws.length = n → ∀ (i : Nat) (f : PySem.Str), (Z.xf k)[i]? = some f → (fs ws).lookup f = ws[i]?)
def bRaise (k : Nat) (er : DEs) : DS := fun c σ h => (er c σ h).toS σ fun ds h1 => .ex k ds σ h1
section
variable {X : Cx} {Z : Sta} {s0 : S3} {W : WX} {c : Calls} {pos p apos : Pos}
theorem passes_no {P : Program} {w : World} : Passes (L2.CX X.prog X.w) X (fun _ _ _ => False) := fun pins σ H s e s' I h => by
  obtain ⟨a, B, H', cls, d, _, _, _, _, _, _, _, z⟩ := h
  exact z.elim
theorem ss_raise {lev k n : Nat} {x : PySem.Str} {e : Expr} {es : List Expr} {er : DEs} (hc : X.calm = true) (tk : Takes X W) (M : ExOk X Z lev k n) (hr : Room (lev + 1) X.A) (hg : Gl X x) (hm : X.mg x = some (.ref (Z.ca k))) (hn : Ln n er) (hn1 : n ≤ 1000) (ha : PA X (e :: es) (tEs Z W (er c)))
    (hdb : (x == ("__debug__" : PySem.Str)) = false) (he : starEach (e :: es) X.env = (false, eval e X.env) :: starEach es X.env) (hpl : (backTo p (starEach es X.env)).any (·.1) = false) :
    PS X (.Raise (some (.Call (.Name x apos) (e :: es) [] p)) none pos) (tS Z s0 W (bRaise k er c)) := by
  obtain ⟨fI, D, fd, ps, fs, iC, tI, F1, hb, SC, hf1, hf2⟩ := M.ini
  refine (ps_raise hc tk (pmk_oex (dvs := []) (ds := []) M.T iC tI F1 hr hb .nil (passes_no (P := X.prog) (w := X.w)) hg hm ha hdb he hpl)).imp fun E σ H t => ?_
  obtain ⟨s, σL, e1, ok, lc, q⟩ := t
  refine ⟨s, σL, e1, ok, lc.rs, (PostV.ln (α := Nat) hn (q.toS lc ok)).mono (fun ds s1 l1 ok1 q1 vs rv => ?_) fun _ _ _ _ _ q => q⟩
  obtain ⟨q0, q1⟩ := q1
  have hvl : vs.length = n := by rw [← rv.length, q0]
  refine ⟨by omega, fun a hna => ?_⟩
  rw [List.append_nil]
  refine ⟨a, Z.ca k, vs, rfl, hvl, M.T, SC, hf1 vs hvl, upd_same, fun d H2 hd hda h1 h2 h3 => ⟨rfl, d, fs vs, h1, h2, ?_, ?_⟩⟩
  · rw [upd_ne hda] at hd
    exact hd
  · have hd1 : s1.H d = none := by rw [upd_ne hda] at hd; exact hd
    have eH : upd (del H2 a) d (.xd (fs vs)) = upd s1.H d (.xd (fs vs)) := by
      funext b
      by_cases hb : b = d
      · subst hb
        rw [upd_same, upd_same]
      · rw [upd_ne hb, upd_ne hb]
        by_cases hba : b = a
        · subst hba
          rw [del_same, hna]
        · rw [del_ne hba, h3 b hba hb, upd_ne hba]
    rw [eH]
    have l := Le.tmp (o := .xd (fs vs)) hd1
    refine q1 ⟨s1.m, s1.h, upd s1.H d (.xd (fs vs)), s1.pr, s1.xc⟩ σ (.ref (Z.ca k)) (some d) rfl l.lq rfl (ok1.tmp hd1) ((lc.le ok l1).le ok1 l) ⟨d, fs vs, rfl, rfl, upd_same, fun i f dd hi hdd => ?_⟩
    obtain ⟨v, hv, rv2⟩ := rv.get hdd
    exact ⟨v, by rw [hf2 vs hvl i f hi, hv], rv2.le ok1 l⟩
/-! ### try: body, except C1 as n: suite, .. -/
/-- what the clauses catch -/
def wManyAs (K : PySem.W.Frag) (Wout : WX) (D : Ends) : List (Value × Option Nat × (Addr → Value → Option Addr → TS)) → WX
  | [] => Wout
  | (c, i, ts) :: r => fun cls d σ H => ∃ b, PySem.W.exmOne K cls c = some b ∧ (b = true → ∀ a, H a = none → match i with
      | none => ts a cls d D σ H
      | some i => ts a cls d { nx := fun σ' H' => D.nx (σ'.set i none) H', rt := D.rt, bk := fun σ' H' => D.bk (σ'.set i none) H', ct := fun σ' H' => D.ct (σ'.set i none) H' } (σ.set i (some (.ref a))) H) ∧
      (b = false → wManyAs K Wout D r cls d σ H)
inductive HdsAs (X : Cx) : List ExceptHandler → List (Value × Option Nat × (Addr → Value → Option Addr → TS)) → Prop
  | nil : HdsAs X [] []
  | cons {x : PySem.Str} {c : Value} {ts : Addr → Value → Option Addr → TS} {b₀ : Stmt} {suite : List Stmt} {np pos' : Pos} {hds : List ExceptHandler} {l : List (Value × Option Nat × (Addr → Value → Option Addr → TS))} (hc : Names X x c)
      (hsu : ∀ (a : Addr) (oe : Obj) (cls : Value) (d : Option Addr) (pn : List (Addr × Obj)), Zc cls d oe → (∃ vs, oe.data = .fields vs) → PSs (X.suite a ((a, oe) :: pn)) (b₀ :: suite) (ts a cls d)) (r : HdsAs X hds l) :
      HdsAs X (.ExceptHandler (some (.Name x np)) none (b₀ :: suite) pos' :: hds) ((c, none, ts) :: l)
  | as_ {x n : PySem.Str} {i : Nat} {c : Value} {ts : Addr → Value → Option Addr → TS} {b₀ : Stmt} {suite : List Stmt} {np pos' : Pos} {hds : List ExceptHandler} {l : List (Value × Option Nat × (Addr → Value → Option Addr → TS))} (hc : Names X x c) (hN : X.N.Nodup) (hi : X.N[i]? = some n) (hln : X.env.kindOf n = some .local)
      (hsu : ∀ (a : Addr) (oe : Obj) (cls : Value) (d : Option Addr) (pn : List (Addr × Obj)), Zc cls d oe → (∃ vs, oe.data = .fields vs) → PSs (X.suite a ((a, oe) :: pn)) (b₀ :: suite) (ts a cls d)) (r : HdsAs X hds l) :
      HdsAs X (.ExceptHandler (some (.Name x np)) (some n) (b₀ :: suite) pos' :: hds) ((c, some i, ts) :: l)
theorem ps_try_asM {body : List Stmt} {h₀ : ExceptHandler} {hds : List ExceptHandler} {l : List (Value × Option Nat × (Addr → Value → Option Addr → TS))} {tb : WX → TS} {Wout : WX} (hs : X.stack = X.env :: X.outer) (hf : X.env.frame = some X.env.locals) (tk : Takes X Wout)
    (hb : ∀ (W : WX) (pn : List (Addr × Obj)) (xe : Value → Shared → Prop), Takes (X.tr pn xe) W → PassesOwn (model X.prog X.w) X.A X.env xe → PSs (X.tr pn xe) body (tb W))
    (hh : HdsAs X (h₀ :: hds) l) : PS X (.Try body (h₀ :: hds) [] [] pos) (fun D σ H => tb (wManyAs X.K Wout D l) D σ H) := by
  refine ⟨fun pins s σ H D I hw0 => ?_⟩
  have ok := I.ok
  have hfr : X.A.frames = some (X.env :: X.outer) := by rw [ok.frames, hs]
  refine wpAny_Try_except ?_
  refine wpAny_mono ((hb (wManyAs X.K Wout D l) (X.pn ++ pins) (fun e s₁ => wpAny (model X.prog X.w) X.A (noteFrame e X.env) (fun _ s₂ => wpAny (model X.prog X.w) X.A (setFlight e none) (fun _ s₃ =>
    wpAny (model X.prog X.w) X.A (handleBy e X.env (h₀ :: hds)) (SP X pins D) X.xe s₃) X.xe s₂) X.xe s₁) (fun u s' xx => ?_) PassesOwn.looking).run [] s σ H D (I.toTry _) hw0) (fun f s1 hsp => ?_) (fun e s1 he => he)
  · obtain ⟨a, B, sI, pins', σ', H', cls, d, rfl, J', nb, up, sky, na, os, ag, w⟩ := xx
    have J : L2.Inv X pins σ' H' sI := J'.ofTry ok
    have sky' : Sky B (X.env :: X.outer) a (Zc cls d) X.env.locals s'.heap := by rw [← hs]; exact sky
    show wpAny (model X.prog X.w) X.A (noteFrame (.ref a) X.env) _ _ _
    refine Sky.land Zc.steady hfr hf sky' fun h3 fl3 up3 => ?_
    have J3 : L2.Inv X pins σ' H' { s' with heap := h3 } := J.landed nb fl3.1 (up.trans up3) os ag
    obtain ⟨oe3, vs3, he3, hz3, hd3⟩ := fl3.there
    have nfr : a ∉ frs (X.env :: X.outer) := fun hm => by
      obtain ⟨_, o', e', hnf⟩ := fl3.2.2.1.mem hm
      rw [he3] at e'; cases e'
      exact hnf _ hd3
    have nL : a ≠ X.env.locals := fun z => nfr (List.mem_filterMap.mpr ⟨X.env, List.mem_cons_self, by rw [hf, z]⟩)
    have nF : a ∉ X.fs := fun hm => by
      obtain ⟨e, he, q⟩ := List.mem_filterMap.mp hm
      exact nfr (List.mem_filterMap.mpr ⟨e, List.mem_cons_of_mem _ he, q⟩)
    have S3 := J3.suite he3 hd3 na nL nF
    have go : ∀ {hds' : List ExceptHandler} {l' : List (Value × Option Nat × (Addr → Value → Option Addr → TS))}, HdsAs X hds' l' → wManyAs X.K Wout D l' cls d σ' H' →
        wpAny (model X.prog X.w) X.A (handleBy (.ref a) X.env hds') (SP X pins D) X.xe { s' with heap := h3 } := by
      intro hds' l' hk
      induction hk with
      | nil =>
        intro w
        refine wpAny_handleBy_nil ?_
        obtain ⟨k1, k2, k3, oe, vs, T, oT, ts', he, hz, hd, h1, hr⟩ := id fl3
        unfold PySem.passOn
        refine wpAny_bind (wpAny_field he hd h1 ?_)
        rw [if_neg (show ¬ ((Value.ref T == Value.none) = true) from by simp)]
        have fin : wpAny (model X.prog X.w) X.A (setFlight (.ref a) X.env.frame) (fun _ s4 => wpAny (model X.prog X.w) X.A (throw (.ref a) : Sem Flow) (SP X pins D) X.xe s4) X.xe { s' with heap := h3 } := by
          rw [hf]
          refine HandSPX.setFlight_upZ fl3 fun h4 hh4 up4 => wpAny_throw (tk _ _ ?_)
          exact ⟨a, B, sI, pins, σ', H', cls, d, rfl, J, nb, (up.trans up3).trans up4, .inr (.inr (by rw [hs]; exact hh4)), na, os, ag, w⟩
        first
          | exact wpAny_bind (wpAny_pure (wpAny_bind fin))
          | exact wpAny_bind fin
      | @cons x c ts b₀ suite np pos' hds2 l2 hc hsu r ih =>
        intro w
        obtain ⟨b, hb1, hyes, hno⟩ := w
        refine wpAny_handleBy_cons (codeAny_handlers_test ?_) (by intro q; cases q)
        have LT : PySem.W.Looks (model X.prog X.w) h3 (typeOf (.ref a)) cls := fun A Q E s k q => wpAny_typeOf_ref (k _ _ he3) (by rw [hz3.1]; exact q)
        have LM := PySem.W.exm_one (M := model X.prog X.w) (J3.kIn) LT hb1
        have test : ∀ {Q : Value → Shared → Prop} {E : Value → Shared → Prop}, Q c { s' with heap := h3 } → wpAny (model X.prog X.w) (X.A.mark (some (.ref a))) (eval (.Name x np) X.env) Q E { s' with heap := h3 } := fun {Q E} q => by
          obtain ⟨hg, hdbg, hm | ⟨hm, hv, hnn⟩⟩ := hc
          · exact ld_glob (X := X.suite a ((a, oe3) :: (X.pn ++ pins))) S3 hg hm q hdbg
          · exact ld_blt (X := X.suite a ((a, oe3) :: (X.pn ++ pins))) S3 hg hm hv q hnn hdbg
        refine test (LM.here ?_)
        cases b with
        | true =>
          refine codeAny_handlers_suite ?_
          refine HandSPX.lands_againZ fl3 fun h4 fl4 up4 => ?_
          have J4 : L2.Inv X pins σ' H' { s' with heap := h4 } := J.landed nb fl4.1 ((up.trans up3).trans up4) os ag
          obtain ⟨oe4, vs4, he4, hz4, hd4⟩ := fl4.there
          have S4 := J4.suite he4 hd4 na nL nF
          refine wpAny_mono ((hsu a oe4 cls d (X.pn ++ pins) hz4 ⟨_, hd4⟩).run [] _ _ H' _ S4 (hyes rfl a na)) (fun f s6 hsp => ?_) (fun _ _ z => False.elim z)
          cases f with
          | next => obtain ⟨σ6, H6, S6, q6⟩ := hsp; exact ⟨_, _, S6.unsuite ok, q6⟩
          | brk => obtain ⟨σ6, H6, S6, q6⟩ := hsp; exact ⟨_, _, S6.unsuite ok, q6⟩
          | cont => obtain ⟨σ6, H6, S6, q6⟩ := hsp; exact ⟨_, _, S6.unsuite ok, q6⟩
          | ret u => obtain ⟨v6, σ6, H6, S6, r6, q6⟩ := hsp; exact ⟨_, _, _, S6.unsuite ok, r6, q6⟩
        | false => exact ih (hno rfl)
      | @as_ x n i c ts b₀ suite np pos' hds2 l2 hc hN hi hln hsu r ih =>
        intro w
        obtain ⟨b, hb1, hyes, hno⟩ := w
        refine wpAny_handleBy_cons (codeAny_handlers_test ?_) (by intro q; cases q)
        have LT : PySem.W.Looks (model X.prog X.w) h3 (typeOf (.ref a)) cls := fun A Q E s k q => wpAny_typeOf_ref (k _ _ he3) (by rw [hz3.1]; exact q)
        have LM := PySem.W.exm_one (M := model X.prog X.w) (J3.kIn) LT hb1
        have test : ∀ {Q : Value → Shared → Prop} {E : Value → Shared → Prop}, Q c { s' with heap := h3 } → wpAny (model X.prog X.w) (X.A.mark (some (.ref a))) (eval (.Name x np) X.env) Q E { s' with heap := h3 } := fun {Q E} q => by
          obtain ⟨hg, hdbg, hm | ⟨hm, hv, hnn⟩⟩ := hc
          · exact ld_glob (X := X.suite a ((a, oe3) :: (X.pn ++ pins))) S3 hg hm q hdbg
          · exact ld_blt (X := X.suite a ((a, oe3) :: (X.pn ++ pins))) S3 hg hm hv q hnn hdbg
        refine test (LM.here ?_)
        cases b with
        | true =>
          refine codeAny_handlers_suite_as ?_
          refine HandSPX.lands_againZ fl3 fun h4 fl4 up4 => ?_
          have J4 : L2.Inv X pins σ' H' { s' with heap := h4 } := J.landed nb fl4.1 ((up.trans up3).trans up4) os ag
          obtain ⟨oe4, vs4, he4, hz4, hd4⟩ := fl4.there
          have S4 := J4.suite he4 hd4 na nL nF
          refine store_ok (X := X.suite a ((a, oe4) :: (X.pn ++ pins))) (v := .ref a) S4 hN hi (.inl hln) rfl (fun s5 S5 => ?_) (.inr hln)
          refine wpAny_mono ((hsu a oe4 cls d (X.pn ++ pins) hz4 ⟨_, hd4⟩).run [] s5 _ H' _ S5 (hyes rfl a na)) (fun f s6 hsp => ?_) (fun _ _ z => False.elim z)
          have end_ : ∀ {σ6 : L2.St} {H6 : Hp} {Q : Shared → Prop}, L2.Inv (X.suite a ((a, oe4) :: (X.pn ++ pins))) [] σ6 H6 s6 → (∀ s7, L2.Inv X pins (σ6.set i none) H6 s7 → Q s7) →
              wpAny (model X.prog X.w) X.A (do bindName X.env n .none; unbindBehindTheSuite X.env n pos') (fun _ s7 => Q s7) X.xe s6 := fun {σ6 H6 Q} S6 hq => gone_ok (S6.unsuite ok) hN hi hln hq
          cases f with
          | next => obtain ⟨σ6, H6, S6, q6⟩ := hsp; exact end_ S6 fun s7 J7 => ⟨_, _, J7, q6⟩
          | brk => obtain ⟨σ6, H6, S6, q6⟩ := hsp; exact end_ S6 fun s7 J7 => ⟨_, _, J7, q6⟩
          | cont => obtain ⟨σ6, H6, S6, q6⟩ := hsp; exact end_ S6 fun s7 J7 => ⟨_, _, J7, q6⟩
          | ret u => obtain ⟨v6, σ6, H6, S6, r6, q6⟩ := hsp; exact end_ S6 fun s7 J7 => ⟨_, _, _, J7, r6, q6⟩
        | false => exact ih (hno rfl)
    exact go hh w
  · cases f with
    | next => obtain ⟨σ', H', J', q⟩ := hsp; exact wpAny_execs_nil ⟨σ', H', J'.ofTry ok, q⟩
    | brk => obtain ⟨σ', H', J', q⟩ := hsp; exact ⟨σ', H', J'.ofTry ok, q⟩
    | cont => obtain ⟨σ', H', J', q⟩ := hsp; exact ⟨σ', H', J'.ofTry ok, q⟩
    | ret u => obtain ⟨v, σ', H', J', r, q⟩ := hsp; exact ⟨v, σ', H', J'.ofTry ok, r, q⟩
end
end Bh
/-! Bh, part 19: try. -/
namespace Bh
open PySem PySem.Spec PyProof.Rows L2
def clrEx : Sl → Sl
  | .ex _ _ => .no
  | s => s
abbrev HdL := List (Nat × Option Nat × DS)
def handleL (known : Nat → Bool) (sub : Nat → Nat → Bool) (c : Calls) (k : Nat) (fs : List D) (σ : DSt) (h : LH) : HdL → OutS
  | [] => .ex k fs σ h
  | (j, i, es) :: r => if known k = true then (if sub k j = true then (match i with
      | some i => match es c (σ.set i (.ex k fs)) h with
        | .nx σ2 h2 => .nx ((σ2.map clrEx).set i .no) h2
        | .rt d h2 => .rt d h2
        | _ => .bad
      | none => match es c σ h with
        | .nx σ2 h2 => .nx (σ2.map clrEx) h2
        | .rt d h2 => .rt d h2
        | _ => .bad)
      else handleL known sub c k fs σ h r) else .bad
def bTry (known : Nat → Bool) (sub : Nat → Nat → Bool) (body : DS) (hl : HdL) : DS := fun c σ h => match body c σ h with
  | .ex k fs σ1 h1 => handleL known sub c k fs σ1 h1 hl
  | o => o
section
variable {X : Cx} {Z : Sta} {s0 : S3} {W : WX} {c : Calls} {pos p apos : Pos}
theorem XD.wx {s : S3} {q : Option (Addr × Value × Option Addr)} {k : Nat} {fs : List D} {cls : Value} {dd : Option Addr} (h : XD Z s k fs cls dd) : XD (Z.wx q) s k fs cls dd := by
  obtain ⟨dx, fs', e1, e2, e3, e4⟩ := h
  exact ⟨dx, fs', e1, e2, e3, fun i f d h1 h2 => by obtain ⟨v, h3, r⟩ := e4 i f d h1 h2; exact ⟨v, h3, r.wx⟩⟩
theorem RSl.wx {s : S3} {q : Option (Addr × Value × Option Addr)} {sl : Sl} {v : V} (hq : Z.xq = none) (r : RSl Z s sl v) : RSl (Z.wx q) s sl v := by
  cases sl with
  | no => trivial
  | v d => exact RD.wx r
  | ol xs => obtain ⟨a, e, hp, vs, h, r⟩ := r; exact ⟨a, e, hp, vs, h, r.wx⟩
  | od xs => obtain ⟨a, e, hp, vs, h, r⟩ := r; exact ⟨a, e, hp, vs, h, r.wx⟩
  | ex k fs => obtain ⟨a, cls, dd, e, h, x⟩ := r; rw [hq] at h; cases h
theorem Lc.wx {s : S3} {q : Option (Addr × Value × Option Addr)} {σL : DSt} {σ : L2.St} (hq : Z.xq = none) (lc : Lc Z s0 s σL σ) : Lc (Z.wx q) s0 s σL σ :=
  ⟨⟨lc.rs.1, fun i sl h hn => by obtain ⟨v, e, r⟩ := lc.rs.2 i sl h hn; exact ⟨v, e, r.wx hq⟩⟩, lc.fr, lc.fresh, lc.inj⟩
theorem RD.unwx {s : S3} {q : Option (Addr × Value × Option Addr)} {d : D} {v : V} (r : RD (Z.wx q) s d v) : RD Z s d v := RD.wx (Z := Z.wx q) (q := Z.xq) r
theorem RDs.unwx {s : S3} {q : Option (Addr × Value × Option Addr)} {d : List D} {v : List V} (r : RDs (Z.wx q) s d v) : RDs Z s d v := RDs.wx (Z := Z.wx q) (q := Z.xq) r
theorem RDk.unwx {s : S3} {q : Option (Addr × Value × Option Addr)} {d : List (D × D)} {v : List (Key × V)} (r : RDk (Z.wx q) s d v) : RDk Z s d v := RDk.wx (Z := Z.wx q) (q := Z.xq) r
theorem Ok3.unwx {s : S3} {q : Option (Addr × Value × Option Addr)} (r : Ok3 (Z.wx q) s) : Ok3 Z s := Ok3.wx (Z := Z.wx q) (q := Z.xq) r
/-- a slot that is no owner is stored -/
theorem Lc.setN {s : S3} {σL : DSt} {σ : L2.St} (c : Lc Z s0 s σL σ) {sl : Sl} {v : V} (ho : isOwn sl = false) (q : RSl Z s sl v) (i : Nat) : Lc Z s0 s (σL.set i sl) (σ.set i (some v)) := by
  refine ⟨c.rs.set q i, c.fr, fun j sl' a h ho' hv => ?_, fun j k sl1 sl2 a h1 o1 h2 o2 v1 v2 => ?_⟩
  · rcases set_cases h with ⟨_, e, _⟩ | ⟨ne, h⟩
    · subst e; rw [ho] at ho'; cases ho'
    · rw [List.getElem?_set_ne ne] at hv
      exact c.fresh j sl' a h ho' hv
  · rcases set_cases h1 with ⟨_, e, _⟩ | ⟨n1, h1⟩
    · subst e; rw [ho] at o1; cases o1
    · rcases set_cases h2 with ⟨_, e, _⟩ | ⟨n2, h2⟩
      · subst e; rw [ho] at o2; cases o2
      · rw [List.getElem?_set_ne n1] at v1
        rw [List.getElem?_set_ne n2] at v2
        exact c.inj j k sl1 sl2 a h1 o1 h2 o2 v1 v2
theorem own_clr {sl : Sl} (h : isOwn (clrEx sl) = true) : clrEx sl = sl ∧ isOwn sl = true := by
  cases sl <;> first | exact ⟨rfl, h⟩ | cases h
/-- behind a suite -/
theorem Lc.clr {s : S3} {q : Option (Addr × Value × Option Addr)} {σL : DSt} {σ : L2.St} (lc : Lc (Z.wx q) s0 s σL σ) : Lc Z s0 s (σL.map clrEx) σ := by
  have at_ : ∀ {i : Nat} {sl : Sl}, (σL.map clrEx)[i]? = some sl → ∃ sl', σL[i]? = some sl' ∧ sl = clrEx sl' := fun {i sl} h => by
    rw [List.getElem?_map] at h
    cases e : σL[i]? with
    | none => rw [e] at h; cases h
    | some sl' => rw [e] at h; cases h; exact ⟨sl', rfl, rfl⟩
  refine ⟨⟨by rw [List.length_map]; exact lc.rs.1, fun i sl h hn => ?_⟩, lc.fr, fun i sl a h ho hv => ?_, fun i j sl1 sl2 a h1 o1 h2 o2 v1 v2 => ?_⟩
  · obtain ⟨sl', h', e⟩ := at_ h
    cases sl' with
    | no => subst e; exact absurd rfl hn
    | ex k fs => subst e; exact absurd rfl hn
    | v d =>
      subst e
      obtain ⟨v, e1, r⟩ := lc.rs.2 i _ h' (fun z => by cases z)
      exact ⟨v, e1, RD.unwx r⟩
    | ol xs =>
      subst e
      obtain ⟨v, e1, a, e2, hp, vs, h3, r⟩ := lc.rs.2 i _ h' (fun z => by cases z)
      exact ⟨v, e1, a, e2, hp, vs, h3, RDs.unwx r⟩
    | od xs =>
      subst e
      obtain ⟨v, e1, a, e2, hp, vs, h3, r⟩ := lc.rs.2 i _ h' (fun z => by cases z)
      exact ⟨v, e1, a, e2, hp, vs, h3, RDk.unwx r⟩
  · obtain ⟨sl', h', e⟩ := at_ h
    subst e
    obtain ⟨e, o⟩ := own_clr ho
    exact lc.fresh i sl' a h' o hv
  · obtain ⟨t1, g1, e1⟩ := at_ h1
    obtain ⟨t2, g2, e2⟩ := at_ h2
    subst e1 e2
    exact lc.inj i j t1 t2 a g1 (own_clr o1).2 g2 (own_clr o2).2 v1 v2
theorem Lc.unset {s : S3} {σL : DSt} {σ : L2.St} (lc : Lc Z s0 s σL σ) (i : Nat) : Lc Z s0 s (σL.set i .no) (σ.set i none) := by
  refine ⟨⟨by rw [List.length_set, List.length_set]; exact lc.rs.1, fun j sl h hn => ?_⟩, lc.fr, fun j sl a h ho hv => ?_, fun j k sl1 sl2 a h1 o1 h2 o2 v1 v2 => ?_⟩
  · rcases set_cases h with ⟨_, e, _⟩ | ⟨ne, h⟩
    · exact absurd e hn
    · obtain ⟨v, e, r⟩ := lc.rs.2 j sl h hn
      exact ⟨v, by rw [List.getElem?_set_ne ne]; exact e, r⟩
  · rcases set_cases h with ⟨_, e, _⟩ | ⟨ne, h⟩
    · subst e; cases ho
    · rw [List.getElem?_set_ne ne] at hv
      exact lc.fresh j sl a h ho hv
  · rcases set_cases h1 with ⟨_, e, _⟩ | ⟨n1, h1⟩
    · subst e; cases o1
    · rcases set_cases h2 with ⟨_, e, _⟩ | ⟨n2, h2⟩
      · subst e; cases o2
      · rw [List.getElem?_set_ne n1] at v1
        rw [List.getElem?_set_ne n2] at v2
        exact lc.inj j k sl1 sl2 a h1 o1 h2 o2 v1 v2
/-- the clauses and what they mean -/
inductive HdOk (X : Cx) (Z : Sta) (s0 : S3) (c : Calls) (known : Nat → Bool) (sub : Nat → Nat → Bool) : List ExceptHandler → HdL → Prop
  | nil : HdOk X Z s0 c known sub [] []
  | cons {x : PySem.Str} {j : Nat} {es : DS} {b₀ : Stmt} {suite : List Stmt} {np pos' : Pos} {hds : List ExceptHandler} {l : HdL} (hc : Names X x (.ref (Z.ca j))) (hx : ∀ k, known k = true → PySem.W.exmOne X.K (.ref (Z.ca k)) (.ref (Z.ca j)) = some (sub k j))
      (hsu : ∀ (a : Addr) (oe : Obj) (cls : Value) (d : Option Addr) (pn : List (Addr × Obj)), Zc cls d oe → (∃ vs, oe.data = .fields vs) → PSs (X.suite a ((a, oe) :: pn)) (b₀ :: suite) (tS (Z.wx (some (a, cls, d))) s0 W0 (es c))) (r : HdOk X Z s0 c known sub hds l) :
      HdOk X Z s0 c known sub (.ExceptHandler (some (.Name x np)) none (b₀ :: suite) pos' :: hds) ((j, none, es) :: l)
  | as_ {x n : PySem.Str} {i j : Nat} {es : DS} {b₀ : Stmt} {suite : List Stmt} {np pos' : Pos} {hds : List ExceptHandler} {l : HdL} (hc : Names X x (.ref (Z.ca j))) (hx : ∀ k, known k = true → PySem.W.exmOne X.K (.ref (Z.ca k)) (.ref (Z.ca j)) = some (sub k j))
      (hN : X.N.Nodup) (hi : X.N[i]? = some n) (hln : X.env.kindOf n = some .local)
      (hsu : ∀ (a : Addr) (oe : Obj) (cls : Value) (d : Option Addr) (pn : List (Addr × Obj)), Zc cls d oe → (∃ vs, oe.data = .fields vs) → PSs (X.suite a ((a, oe) :: pn)) (b₀ :: suite) (tS (Z.wx (some (a, cls, d))) s0 W0 (es c))) (r : HdOk X Z s0 c known sub hds l) :
      HdOk X Z s0 c known sub (.ExceptHandler (some (.Name x np)) (some n) (b₀ :: suite) pos' :: hds) ((j, some i, es) :: l)
def hdTs (Z : Sta) (s0 : S3) (c : Calls) : HdL → List (Value × Option Nat × (Addr → Value → Option Addr → TS))
  | [] => []
  | (j, i, es) :: r => (.ref (Z.ca j), i, fun a cls d => tS (Z.wx (some (a, cls, d))) s0 W0 (es c)) :: hdTs Z s0 c r
theorem HdOk.as {known : Nat → Bool} {sub : Nat → Nat → Bool} {hds : List ExceptHandler} {l : HdL} (h : HdOk X Z s0 c known sub hds l) : HdsAs X hds (hdTs Z s0 c l) := by
  induction h with
  | nil => exact .nil
  | cons hc hx hsu r ih => exact .cons hc hsu ih
  | as_ hc hx hN hi hln hsu r ih => exact .as_ hc hN hi hln hsu ih
theorem hd_ok {known : Nat → Bool} {sub : Nat → Nat → Bool} {hds : List ExceptHandler} {l : HdL} (hq : Z.xq = none) (hh : HdOk X Z s0 c known sub hds l) {D : Ends} {k : Nat} {fs : List Bh.D} {σL : DSt} {σ : L2.St} {s : S3} {dd : Option Addr} {cls : Value} (ok : Ok3 Z s) (lc : Lc Z s0 s σL σ) (xd : XD Z s k fs cls dd)
    (hp : PostS Z s0 W s (handleL known sub c k fs σL s.h l) D) : wManyAs X.K W D (hdTs Z s0 c l) cls dd σ s.H := by
  have ec : cls = .ref (Z.ca k) := by obtain ⟨_, _, e, _⟩ := xd; exact e
  induction hh with
  | nil => exact hp s σ cls dd rfl (Lq.refl _) rfl ok lc xd
  | @cons x j es b₀ suite np pos' hds l hc hx hsu r ih =>
    unfold handleL at hp
    split at hp
    · rename_i hk
      refine ⟨sub k j, by rw [ec]; exact hx k hk, fun hb a hna => ?_, fun hb => ?_⟩
      · rw [if_pos hb] at hp
        refine ⟨s, σL, rfl, ok.wx, lc.wx hq, ?_⟩
        simp only at hp
        cases eo : es c σL s.h with
        | nx σ2 h2 => rw [eo] at hp; intro s2 σ2' e l x ok2 lc2; exact hp s2 σ2' e l x (Ok3.unwx ok2) lc2.clr
        | rt d h2 => rw [eo] at hp; intro s2 v e ok2 fr r; exact hp s2 v e (Ok3.unwx ok2) fr (RD.unwx r)
        | bk _ _ => rw [eo] at hp; exact hp.elim
        | ct _ _ => rw [eo] at hp; exact hp.elim
        | ex _ _ _ _ => rw [eo] at hp; exact hp.elim
        | bad => rw [eo] at hp; exact hp.elim
      · rw [if_neg (by rw [hb]; decide)] at hp
        exact ih hp
    · exact hp.elim
  | @as_ x n i j es b₀ suite np pos' hds l hc hx hN hi hln hsu r ih =>
    unfold handleL at hp
    split at hp
    · rename_i hk
      refine ⟨sub k j, by rw [ec]; exact hx k hk, fun hb a hna => ?_, fun hb => ?_⟩
      · rw [if_pos hb] at hp
        refine ⟨s, σL.set i (.ex k fs), rfl, ok.wx, (lc.wx hq).setN (sl := .ex k fs) (v := .ref a) rfl (show RSl _ _ (.ex k fs) (.ref a) from ⟨a, cls, dd, rfl, rfl, xd.wx⟩) i, ?_⟩
        simp only at hp
        cases eo : es c (σL.set i (.ex k fs)) s.h with
        | nx σ2 h2 => rw [eo] at hp; intro s2 σ2' e l x ok2 lc2; exact hp s2 (σ2'.set i none) e l x (Ok3.unwx ok2) (lc2.clr.unset i)
        | rt d h2 => rw [eo] at hp; intro s2 v e ok2 fr r; exact hp s2 v e (Ok3.unwx ok2) fr (RD.unwx r)
        | bk _ _ => rw [eo] at hp; exact hp.elim
        | ct _ _ => rw [eo] at hp; exact hp.elim
        | ex _ _ _ _ => rw [eo] at hp; exact hp.elim
        | bad => rw [eo] at hp; exact hp.elim
      · rw [if_neg (by rw [hb]; decide)] at hp
        exact ih hp
    · exact hp.elim
theorem ss_try {known : Nat → Bool} {sub : Nat → Nat → Bool} {body : List Stmt} {h₀ : ExceptHandler} {hds : List ExceptHandler} {l : HdL} {eb : DS} (hq : Z.xq = none) (hs : X.stack = X.env :: X.outer) (hf : X.env.frame = some X.env.locals) (tk : Takes X W)
    (hb : ∀ (W' : WX) (pn : List (Addr × Obj)) (xe : Value → Shared → Prop), Takes (X.tr pn xe) W' → PassesOwn (model X.prog X.w) X.A X.env xe → PSs (X.tr pn xe) body (tS Z s0 W' (eb c))) (hh : HdOk X Z s0 c known sub (h₀ :: hds) l) :
    PS X (.Try body (h₀ :: hds) [] [] pos) (tS Z s0 W (bTry known sub eb l c)) := by
  refine (ps_try_asM (tb := fun W' => tS Z s0 W' (eb c)) hs hf tk hb hh.as).imp fun D σ H t => ?_
  obtain ⟨s, σL, rfl, ok, lc, p⟩ := t
  refine ⟨s, σL, rfl, ok, lc, ?_⟩
  unfold bTry at p
  cases e : eb c σL s.h with
  | nx _ _ => rw [e] at p; exact p
  | bk _ _ => rw [e] at p; exact p
  | ct _ _ => rw [e] at p; exact p
  | rt _ _ => rw [e] at p; exact p
  | bad => rw [e] at p; exact p
  | ex k fs σ1 h1 =>
    rw [e] at p
    intro s' σ' cls dd e1 l1 x1 ok1 lc1 xd
    subst e1
    exact hd_ok (W := W) hq hh ok1 lc1 xd (PostS.back p l1 x1)
/-! ### in an except suite -/
/-- e.f of the exception that is handled -/
def exF (fsx : Nat → List PySem.Str) (f : PySem.Str) (σ : DSt) (i : Nat) : Option D :=
  match σ[i]? with
  | some (.ex k fs) => match (fsx k).findIdx? (· == f) with
    | some j => fs[j]?
    | none => none
  | _ => none
def bExF (fsx : Nat → List PySem.Str) (known : Nat → Bool) (f : PySem.Str) (i : Nat) : DE := fun _ σ h => match σ[i]? with
  | some (.ex k _) => if known k = true then optO (exF fsx f σ i) h else .bad
  | _ => .bad
theorem sd_exF {a : Addr} {oe : Obj} {cls : Value} {d : Option Addr} {pn : List (Addr × Obj)} {known : Nat → Bool} {i : Nat} {x f : PySem.Str} {W' : WX} (hq : Z.xq = some (a, cls, d)) (hz : Zc cls d oe) (hf : ∃ vs, oe.data = .fields vs)
    (F : ∀ k, known k = true → XfC X.K (Z.ca k) ∧ PySem.W.findIn X.K (.ref (Z.ca k)) f = some none) (hN : X.N[i]? = some x) (hv : Vis X.env.scope x) (hd : (x == ("__debug__" : PySem.Str)) = false) (hcd : (x == ("__classdict__" : PySem.Str)) = false) :
    PE (X.suite a ((a, oe) :: pn)) (.Attribute (.Name x apos) f pos) (tE Z W' (bExF Z.xf known f i c)) := ⟨fun pins sh σ H Q I t => by
  obtain ⟨s, σL, rfl, ok, rs, p⟩ := t
  unfold bExF at p
  split at p
  · rename_i k fs ei
    split at p
    · rename_i hk
      obtain ⟨dv, ed, hp⟩ := post_opt p
      obtain ⟨v, ev, a', cls', dd', e1, e2, dx, fs', e3, e4, e5, e6⟩ := rs.2 i _ ei (fun z => by cases z)
      rw [hq] at e2
      cases e2
      subst e1 e3
      simp only [exF, ei] at ed
      split at ed
      · rename_i j ej
        obtain ⟨hj, hjf, _⟩ := List.findIdx?_eq_some_iff_getElem.mp ej
        have hxf : (Z.xf k)[j]? = some f := by
          rw [List.getElem?_eq_getElem hj]
          rw [beq_iff_eq] at hjf
          rw [hjf]
        obtain ⟨w, hw, rw'⟩ := e6 j f dv hxf ed
        obtain ⟨T, hno⟩ := F k hk
        have pv : PE (X.suite a ((a, oe) :: pn)) (.Name x apos) (tVar i) := pe_var hN hv hd hcd
        have px := pe_xf (pos := pos) T hno hz hf pv rfl
        exact px.run pins sh σ _ Q I ⟨_, ev, rfl, rfl, dx, fs', w, e4, e5, hw, hp s rfl (Le.refl _) ok w rw'⟩
      · cases ed
    · exact p.elim
  · exact p.elim⟩
/-- isinstance(e, C) -/
def bExIs (known : Nat → Bool) (sub : Nat → Nat → Bool) (j i : Nat) : DE := fun _ σ h => match σ[i]? with
  | some (.ex k _) => if known k = true then .ok (.bl (sub k j)) h else .bad
  | _ => .bad
end
end Bh
/-! Bh, part 20: isinstance of the exception that is handled. -/
namespace Bh
open PySem PySem.Spec PyProof.Rows L2
/-- what an own exception class must say -/
structure XiC (K : PySem.W.Frag) (D : Addr) : Prop where
  hg : PySem.W.findIn K (.ref D) "__getattribute__" = some (some (.builtin "BaseException.__getattribute__"))
  hk : PySem.W.findIn K (.ref D) "__getattr__" = some none
  hs : PySem.W.subIn K (.ref D) (.type "BaseException") = some true
  hc : (PySem.W.clsIn K D).isSome = true
  ha : PySem.W.findIn K (.ref D) "__class__" = some (some (.builtin "object.__class__"))
  hn : PySem.W.specialIn K (.builtin "object.__class__") "__get__" = some (some (.builtin "getset_descriptor.__get__"))
  ht : PySem.W.takesIn K (.builtin "object.__class__") = some true
  hm : PySem.W.mroIn K D (.type "object") = some true
def xiB (K : PySem.W.Frag) (D : Addr) : Bool := decide (PySem.W.findIn K (.ref D) "__getattribute__" = some (some (.builtin "BaseException.__getattribute__"))) && (decide (PySem.W.findIn K (.ref D) "__getattr__" = some none) && (decide (PySem.W.subIn K (.ref D) (.type "BaseException") = some true) && ((PySem.W.clsIn K D).isSome
  && (decide (PySem.W.findIn K (.ref D) "__class__" = some (some (.builtin "object.__class__"))) && (decide (PySem.W.specialIn K (.builtin "object.__class__") "__get__" = some (some (.builtin "getset_descriptor.__get__"))) && (decide (PySem.W.takesIn K (.builtin "object.__class__") = some true) && decide (PySem.W.mroIn K D (.type "object") = some true)))))))
theorem xiB_ok {K : PySem.W.Frag} {D : Addr} (h : xiB K D = true) : XiC K D := by
  unfold xiB at h
  simp only [Bool.and_eq_true, decide_eq_true_eq] at h
  obtain ⟨h1, h2, h3, h4, h5, h6, h7, h8⟩ := h
  exact ⟨h1, h2, h3, h4, h5, h6, h7, h8⟩
/-- isinstance(e, c), e the exception of the suite -/
def rIx (K : PySem.W.Frag) (D a : Addr) (dx : Option Addr) : List V → Hp → VK → Prop := fun xs H Q => ∃ (c : V) (cv : Value) (b : Bool) (dd : Addr) (fs : List (PySem.Str × V)), xs = [.ref a, c] ∧ (∀ u, RelV c u → u = cv) ∧ PySem.W.kitOne K (.ref D) cv = some b ∧ dx = some dd ∧ H dd = some (.xd fs) ∧ Q (.bl b) H
theorem cr_ix {X : Cx} {a D : Addr} {oe : Obj} {dx : Option Addr} {pn : List (Addr × Obj)} (C : XiC X.K D) (hz : Zc (.ref D) dx oe) (hf : ∃ vs, oe.data = .fields vs) : CallR (X.suite a ((a, oe) :: pn)) (.builtin "isinstance") (rIx X.K D a dx) := by
  intro pins s σ H xs us Q I r h
  obtain ⟨c, cv, b, dd, fs, rfl, hcv, e, rfl, hH, q⟩ := h
  cases r with
  | cons rx rr =>
    cases rr with
    | cons rt rr =>
      cases rr
      cases rx
      have ec := hcv _ rt
      subst ec
      obtain ⟨hget, _⟩ := I.pin (a, oe) (List.mem_append.mpr (.inl List.mem_cons_self))
      obtain ⟨vs, hv⟩ := hf
      have hx : ObjOk X.prog X.w H s.heap dd (.xd fs) := I.hok dd _ hH
      obtain ⟨mA, hns, hr⟩ := hx
      obtain ⟨od, ho, hl⟩ := lookIn_ns hns
      have J : PySem.W.InstAt s.heap a oe D (some od) := ⟨hget, hz.1, by unfold PySem.W.notCls; rw [hv] <;> rfl, by rw [hz.2]; exact ho⟩
      exact PySem.W.kia_one (PySem.W.kitx_exc C.hc C.hg C.hk C.hs C.ha C.hn C.ht C.hm) I.kIn J e (fun z => nomatch z) fun tk => ⟨.bl b, H, I.kept (t' := tk) fun _ _ z => z, rfl, q⟩
section
variable {X : Cx} {Z : Sta} {s0 : S3} {W : WX} {c : Calls} {pos p p2 p3 : Pos}
theorem sd_exIs {a : Addr} {oe : Obj} {cls : Value} {d : Option Addr} {pn : List (Addr × Obj)} {known : Nat → Bool} {sub : Nat → Nat → Bool} {i j : Nat} {x y xi : PySem.Str} {W' : WX} (hq : Z.xq = some (a, cls, d)) (hz : Zc cls d oe) (hf : ∃ vs, oe.data = .fields vs)
    (F : ∀ k, known k = true → XiC X.K (Z.ca k) ∧ PySem.W.kitOne X.K (.ref (Z.ca k)) (.ref (Z.ca j)) = some (sub k j)) (hN : X.N[i]? = some x) (hv : Vis X.env.scope x) (hd : (x == ("__debug__" : PySem.Str)) = false) (hcd : (x == ("__classdict__" : PySem.Str)) = false)
    (hg : Gl X xi) (hm : X.mg xi = none) (hbi : bootBuiltins xi = some (.builtin "isinstance")) (hn : xi ≠ "__name__") (hdb : (xi == ("__debug__" : PySem.Str)) = false) (hg2 : Gl X y) (hm2 : X.mg y = some (.ref (Z.ca j))) (hdb2 : (y == ("__debug__" : PySem.Str)) = false) :
    PE (X.suite a ((a, oe) :: pn)) (.Call (.Name xi p) [.Name x p2, .Name y p3] [] pos) (tE Z W' (bExIs known sub j i c)) := ⟨fun pins sh σ H Q I t => by
  obtain ⟨s, σL, rfl, ok, rs, pp⟩ := t
  unfold bExIs at pp
  split at pp
  · rename_i k fs ei
    split at pp
    · rename_i hk
      obtain ⟨v, ev, a', cls', dd', e1, e2, dx, fs', e3, e4, e5, e6⟩ := rs.2 i _ ei (fun z => by cases z)
      rw [hq] at e2
      cases e2
      subst e1 e3
      obtain ⟨C, hkit⟩ := F k hk
      have pv : PE (X.suite a ((a, oe) :: pn)) (.Name x p2) (tVar i) := pe_var hN hv hd hcd
      have pc : PE (X.suite a ((a, oe) :: pn)) (.Name y p3) (tC (.ref (Z.ca j))) := pe_glob (X := X.suite a ((a, oe) :: pn)) hg2 hm2 rfl hdb2
      have px := pe_callB (pos := pos) (p := p) (cr_ix C hz hf) (X := X.suite a ((a, oe) :: pn)) hg hm hbi (pa_cons pv (pa_cons pc pa_nil rfl) rfl) hn hdb
      exact px.run pins sh σ _ Q I ⟨_, ev, .ref (Z.ca j), .ref (Z.ca j), sub k j, dx, fs', rfl, fun u h => h, hkit, e4, e5, pp s rfl (Le.refl _) ok _ (.bl _)⟩
    · exact pp.elim
  · exact pp.elim⟩
end
end Bh
/-! Bh, part 21: zip of lists, tuples and texts in any mix. -/
namespace Bh
open PySem PySem.Spec PyProof.Rows L2
/-- what may be gone through beside another one -/
inductive Sk where
  | l (a : Addr)
  | t (a : Addr)
  | s (x : PySem.Str)
def signsV (x : PySem.Str) : List V := x.cps.toList.map fun c => .str ⟨#[c]⟩
def SqS (K : PySem.W.Frag) (H : Hp) : Sk → List V → Prop
  | .l a, xs => SqL K H a xs
  | .t a, xs => SqT K H a xs
  | .s x, xs => xs = signsV x
def fpS (it : Addr) : Sk → List Addr
  | .l a => [it, a]
  | .t a => [it, a]
  | .s _ => [it]
def ItS (h : Heap) (it : Addr) : Sk → Nat → Prop
  | .l a, k => h.IsListIter it a k
  | .t a, k => h.IsTupleIter it a k
  | .s x, k => ∃ t, h.IsStrIter it (strIterType x) x t k
theorem ItS.at {h h' : Heap} {it : Addr} : ∀ {q : Sk} {k : Nat}, ItS h it q k → (∀ o, h.get? it = some o → h'.get? it = some o) → ItS h' it q k
  | .l _, _, st, k => Heap.IsListIter.at st k
  | .t _, _, st, k => Heap.IsTupleIter.at st k
  | .s _, _, ⟨t, st⟩, k => by
    obtain ⟨o, h1, h2⟩ := st
    exact ⟨t, o, k o h1, h2⟩
theorem ItS.obj {h : Heap} {it : Addr} : ∀ {q : Sk} {k : Nat}, ItS h it q k → ∃ o, h.get? it = some o ∧ ∀ v, o.data ≠ .cell v
  | .l _, _, st => by obtain ⟨o, e, _, d⟩ := st; exact ⟨o, e, fun v q => by rw [d] at q; cases q⟩
  | .t _, _, st => by obtain ⟨o, e, _, d⟩ := st; exact ⟨o, e, fun v q => by rw [d] at q; cases q⟩
  | .s _, _, ⟨t, st⟩ => by obtain ⟨o, e, _, d⟩ := st; exact ⟨o, e, fun v q => by rw [d] at q; cases q⟩
theorem vals_getR : ∀ {xs : List V} {us : List Value}, Vals xs us → ∀ {i : Nat} {u : Value}, us[i]? = some u → ∃ v, xs[i]? = some v ∧ RelV v u
  | _, _, .nil, i, u, h => by cases h
  | _, _, .cons r rr, 0, u, h => by cases h; exact ⟨_, rfl, r⟩
  | _, _, .cons r rr, i + 1, u, h => vals_getR rr (i := i) (by simpa using h)
/-- the draws of an iterator, as its things stand now -/
theorem draws_of {X : Cx} {pins : List (Addr × Obj)} {σ : L2.St} {H : Hp} {s : Shared} {it : Addr} (I : Inv X pins σ H s) {A : Around} (hh : A.handled = none) : ∀ {q : Sk} {xs : List V} {k : Nat}, SqS X.K H q xs → it ∉ (fpS it q).tail → ItS s.heap it q k →
    ∃ (P : Nat → Value → Prop) (St : Nat → Heap → Prop), Draws X.prog X.w A it (fpS it q) xs.length P St ∧ St k s.heap ∧ (∀ j h, St j h → ItS h it q j) ∧ ∀ j u, P j u → ∃ v, xs[j]? = some v ∧ RelV v u
  | .l a, xs, k, hq, hn, st => by
    obtain ⟨its, rv, p, _⟩ := I.list hq
    have hl : its.toArray.size = xs.length := by rw [List.size_toArray]; exact rv.length.symm
    exact ⟨fun i v => its.toArray[i]? = some v, fun i h => h.IsListIter it a i ∧ h.IsList a its.toArray, by rw [← hl]; exact Draws.list hh it a (fun e => hn (by simp [fpS, e])) its.toArray, ⟨st, p.isList⟩, fun j h z => z.1, fun j u z => vals_getR rv (by simpa using z)⟩
  | .t a, xs, k, hq, hn, st => by
    obtain ⟨its, rv, p, _⟩ := I.tuple hq
    have hl : its.toArray.size = xs.length := by rw [List.size_toArray]; exact rv.length.symm
    exact ⟨fun i v => its.toArray[i]? = some v, fun i h => h.IsTupleIter it a i ∧ h.IsTuple a its.toArray, by rw [← hl]; exact Draws.tuple hh it a (fun e => hn (by simp [fpS, e])) its.toArray, ⟨st, p⟩, fun j h z => z.1, fun j u z => vals_getR rv (by simpa using z)⟩
  | .s x, xs, k, hq, hn, ⟨t, st⟩ => by
    have hq : xs = signsV x := hq
    subst hq
    have hl : x.cps.size = (signsV x).length := by simp [signsV]
    refine ⟨fun i v => ∃ c u, x.cps[i]? = some c ∧ v = .str ⟨#[c]⟩ u, fun i h => h.IsStrIter it (strIterType x) x t i, by rw [← hl]; exact Draws.text hh it x t, st, fun j h z => ⟨t, z⟩, fun j u z => ?_⟩
    obtain ⟨c, u', h1, h2⟩ := z
    exact ⟨.str ⟨#[c]⟩, by simp [signsV, h1], u', h2⟩
/-- zip's turns -/
def ItzS (K : PySem.W.Frag) (a b : Sk) : It :=
  ⟨fun i H => ∃ (xs ys : List V) (x y : V), SqS K H a xs ∧ SqS K H b ys ∧ xs[i]? = some x ∧ ys[i]? = some y,
    fun i H v H' => ∃ T x y, v = .ref T ∧ H T = none ∧ H' = upd H T (.tup [x, y]) ∧ (∀ xs, SqS K H a xs → xs[i]? = some x) ∧ ∀ ys, SqS K H b ys → ys[i]? = some y,
    fun i H => ∃ xs ys : List V, SqS K H a xs ∧ SqS K H b ys ∧ i ≤ xs.length ∧ i ≤ ys.length ∧ (i = xs.length ∨ i = ys.length)⟩
theorem sqs_inj {X : Cx} {pins : List (Addr × Obj)} {σ : L2.St} {H : Hp} {s : Shared} (I : Inv X pins σ H s) : ∀ {q : Sk} {xs ys : List V}, SqS X.K H q xs → SqS X.K H q ys → xs = ys
  | .l _, _, _, h1, h2 => I.list_inj h1 h2
  | .t _, _, _, h1, h2 => I.tuple_inj h1 h2
  | .s _, _, _, h1, h2 => Eq.trans (show _ = _ from h1) (Eq.symm (show _ = _ from h2))
structure ZsApart (z TI TO i1 i2 : Addr) (a b : Sk) : Prop where
  sep : ZipSep2 z TI TO i1 i2 (fpS i1 a) (fpS i2 b)
  n1 : i1 ∉ (fpS i1 a).tail
  n2 : i2 ∉ (fpS i2 b).tail
theorem turn_zipS {P : Program} {w : World} {K : PySem.W.Frag} {elts : List Expr} {kk : Nat} {tpos : Pos} {z TI TO i1 i2 : Addr} {a b : Sk} (D : ZsApart z TI TO i1 i2 a b) :
    Turn P w K (.Tuple elts kk tpos) (ItzS K a b) [z, TI, TO, i1, i2] z (fun i h => IsZip h z TI TO .none ∧ IsTupOf2 h TI (.ref i1) (.ref i2) ∧ (∃ x y, IsTupOf2 h TO x y) ∧ ItS h i1 a i ∧ ItS h i2 b i) where
  mem := by simp
  obj := fun i h st c hc => by
    obtain ⟨hz, hTI, ⟨x, y, hTO⟩, h1, h2⟩ := st
    have e' : c = z ∨ c = TI ∨ c = TO ∨ c = i1 ∨ c = i2 := by simpa using hc
    rcases e' with q | q | q | q | q
    · rw [q]; exact ⟨_, hz, fun v q => nomatch q⟩
    · rw [q]; exact ⟨_, hTI, fun v q => nomatch q⟩
    · rw [q]; exact ⟨_, hTO, fun v q => nomatch q⟩
    · rw [q]; exact h1.obj
    · rw [q]; exact h2.obj
  keep := fun i h h' st k => by
    obtain ⟨hz, hTI, ⟨x, y, hTO⟩, h1, h2⟩ := st
    exact ⟨k z (by simp) _ hz, k TI (by simp) _ hTI, ⟨x, y, k TO (by simp) _ hTO⟩, h1.at fun o q => k i1 (by simp) o q, h2.at fun o q => k i2 (by simp) o q⟩
  item := by
    intro X hP hw hK hc i pins s σ H E I hf st hg
    subst hP hw hK
    obtain ⟨hz, hTI, ⟨x0, y0, hTO⟩, h1, h2⟩ := st
    obtain ⟨xs, ys, x, y, hqx, hqy, hx, hy⟩ := hg
    have hA : X.A.in1.handled = none := show X.A.handled = none from I.ok.hd hc
    obtain ⟨P1, St1, D1, t1, k1, r1⟩ := draws_of I hA hqx D.n1 h1
    obtain ⟨P2, St2, D2, t2, k2, r2⟩ := draws_of I hA hqy D.n2 h2
    have hlx : i < xs.length := (List.getElem?_eq_some_iff.mp hx).1
    have hly : i < ys.length := (List.getElem?_eq_some_iff.mp hy).1
    have hzl : z < s.heap.objs.size := Heap.lt_size hz
    have S := D.sep
    refine wpAny_pyNext_zipD2_item S D1 D2 hz hTI hTO t1 t2 hlx hly fun u u2 h' tk y1 y2 z' TO' t1' t2' hT hsz hk => ?_
    obtain ⟨v1, e1, ru⟩ := r1 i u y1
    obtain ⟨v2, e2, ru2⟩ := r2 i u2 y2
    rw [hx] at e1
    rw [hy] at e2
    cases e1
    cases e2
    refine ⟨_, rfl, wpAny_letOwnedTupleGo_zip (s := { s with heap := h', toks := tk }) z' fun h'' z'' sb => ?_⟩
    have hT2 : h''.get? s.heap.objs.size = some { cls := .type "tuple", data := .seq #[u, u2] } := (sb.2 _ (Nat.ne_of_gt hzl)).trans hT
    have new : ObjOk X.prog X.w (upd H s.heap.objs.size (.tup [x, y])) h'' s.heap.objs.size (.tup [x, y]) :=
      ⟨by show 2 ≤ sizeLine; decide, [u, u2], .cons ru (.cons ru2 .nil), ⟨_, hT2, rfl, _, rfl⟩⟩
    have I1 : Inv X pins σ (upd H s.heap.objs.size (.tup [x, y])) { s with heap := h'', toks := tk } :=
      I.turnedNew (t' := tk) (ch := [z, TI, TO, i1, i2]) (fun c o hb q => (sb.2 c (fun q' => hb (by simp [q']))).trans (hk c o (fun q' => hb (by simp [q'])) (fun q' => hb (by simp [q'])) (fun q' => hb (by simp [q'])) (fun q' => hb (by simp [q'])) q)) hf (Nat.le_refl _) new
    refine ⟨.ref s.heap.objs.size, _, I1, rfl, ⟨_, x, y, rfl, I.hok.fresh (Nat.le_refl _), rfl, fun l hl => by rw [sqs_inj I hl hqx]; exact hx, fun l hl => by rw [sqs_inj I hl hqy]; exact hy⟩, ⟨z'', ?_, ⟨u, u2, ?_⟩, ?_, ?_⟩, fun c hcm => ?_⟩
    · exact (sb.2 _ S.TIz).trans (hk _ _ S.TIz S.TITO S.TIi1 S.TIi2 hTI)
    · exact (sb.2 _ S.TOz).trans TO'
    · exact (k1 _ _ t1').at fun o q => (sb.2 _ S.zi1.symm).trans q
    · exact (k2 _ _ t2').at fun o q => (sb.2 _ S.zi2.symm).trans q
    · have hlt : c < s.heap.objs.size := by
        have e' : c = z ∨ c = TI ∨ c = TO ∨ c = i1 ∨ c = i2 := by simpa using hcm
        rcases e' with q | q | q | q | q
        · rw [q]; exact hzl
        · rw [q]; exact Heap.lt_size hTI
        · rw [q]; exact Heap.lt_size hTO
        · rw [q]; obtain ⟨_, e1, _⟩ := h1.obj; exact Heap.lt_size e1
        · rw [q]; obtain ⟨_, e2, _⟩ := h2.obj; exact Heap.lt_size e2
      rw [upd_ne (Nat.ne_of_lt hlt)]
      exact (hf c hcm).1
  done := by
    intro X hP hw hK hc i pins s σ H E I hf st hg
    subst hP hw hK
    obtain ⟨hz, hTI, ⟨x0, y0, hTO⟩, h1, h2⟩ := st
    obtain ⟨xs, ys, hqx, hqy, le1, le2, hend⟩ := hg
    have hA : X.A.in1.handled = none := show X.A.handled = none from I.ok.hd hc
    obtain ⟨P1, St1, D1, t1, k1, r1⟩ := draws_of I hA hqx D.n1 h1
    obtain ⟨P2, St2, D2, t2, k2, r2⟩ := draws_of I hA hqy D.n2 h2
    exact wpAny_pyNext_zipD2_end D.sep D1 D2 hz hTI hTO t1 t2 le1 le2 hend fun h' tk hk => ⟨rfl, I.turnedL (t' := tk) (ch := [z, TI, TO, i1, i2]) (fun c o hb q =>
      hk c o (fun q' => hb (by simp [q'])) (fun q' => hb (by simp [q'])) (fun q' => hb (by simp [q'])) (fun q' => hb (by simp [q'])) q) hf⟩
  self := fun A i s Q E st h => wpAny_pyIter_zip st.1 h
/-- the value of a kind -/
def vS : Sk → V
  | .l a => .ref a
  | .t a => .ref a
  | .s x => .str x
theorem begins_of {X : Cx} {pins : List (Addr × Obj)} {σ : L2.St} {H : Hp} {s : Shared} (I : Inv X pins σ H s) : ∀ {q : Sk} {xs : List V} {u : Value}, SqS X.K H q xs → RelV (vS q) u →
    ∃ (o : Obj) (B : Heap → Prop), Begins u o B ∧ B s.heap ∧ (∀ b ∈ (fpS 0 q).tail, b < s.heap.objs.size) ∧ ∀ h it, h.get? it = some o → ItS h it q 0
  | .l a, xs, u, hq, r => by
    obtain ⟨its, rv, p, _⟩ := I.list hq
    have e : u = .ref a := r
    subst e
    exact ⟨_, _, begins_list a its.toArray, p.isList, fun b hb => by simp [fpS] at hb; subst hb; exact p.lt, fun h it e => ⟨_, e, rfl, rfl⟩⟩
  | .t a, xs, u, hq, r => by
    obtain ⟨its, rv, p, _⟩ := I.tuple hq
    have e : u = .ref a := r
    subst e
    exact ⟨_, _, begins_tuple a its.toArray, p, fun b hb => by simp [fpS] at hb; subst hb; obtain ⟨o, ho, _⟩ := id p; exact Heap.lt_size ho, fun h it e => ⟨_, e, rfl, rfl⟩⟩
  | .s x, xs, u, hq, r => by
    obtain ⟨t, e⟩ := r
    subst e
    exact ⟨_, _, begins_text x t, trivial, fun b hb => by simp [fpS] at hb, fun h it e => ⟨t, _, e, rfl, rfl⟩⟩
def iZipS (K : PySem.W.Frag) (ta : TA) : TI := fun σ H R => ta σ H fun vs H1 => ∃ a b xs ys, vs = [vS a, vS b] ∧ SqS K H1 a xs ∧ SqS K H1 b ys ∧ R (ItzS K a b) H1
theorem fpS_eq (it : Addr) (q : Sk) : fpS it q = it :: (fpS 0 q).tail := by cases q <;> rfl
theorem pi_zipS {X : Cx} {e e2 : Expr} {ta : TA} {p pos tpos : Pos} {elts : List Expr} {kk : Nat} (hg : Gl X "zip") (hm : X.mg "zip" = none) (ha : PA X [e, e2] ta)
    (hs : starEach [e, e2] X.env = (false, eval e X.env) :: starEach [e2] X.env) (hpl : (backTo pos (starEach [e2] X.env)).any (·.1) = false) :
    PI X (.Tuple elts kk tpos) (.Call (.Name "zip" p) [e, e2] [] pos) (iZipS X.K ta) := by
  refine ⟨fun pins s σ H R I h => ?_⟩
  refine Call_ (ld_blt I hg hm PyProof.Rows.boot_zip (PyProof.Rows.callWith_type1 (thn (ha.run pos pins s σ H _ I h) fun us s1 ⟨vs, H1, I1, r1, q1⟩ => ?_) hs hpl))
  obtain ⟨a, b, xs, ys, ex, h1, h2, q⟩ := q1
  subst ex
  cases r1 with
  | cons r rr =>
    cases rr with
    | cons r' rr =>
      cases rr
      obtain ⟨o1, B1, b1, y1, l1, t1⟩ := begins_of I1 h1 r
      obtain ⟨o2, B2, b2, y2, l2, t2⟩ := begins_of I1 h2 r'
      have fresh5 : ∀ c, c ∈ [s1.heap.objs.size + 4, s1.heap.objs.size + 2, s1.heap.objs.size + 3, s1.heap.objs.size, s1.heap.objs.size + 1] → FpOk X pins H1 c := fun c hcm => by
        have e' : c = s1.heap.objs.size + 4 ∨ c = s1.heap.objs.size + 2 ∨ c = s1.heap.objs.size + 3 ∨ c = s1.heap.objs.size ∨ c = s1.heap.objs.size + 1 := by simpa using hcm
        have hle : s1.heap.objs.size ≤ c := by
          rcases e' with z | z | z | z | z
          · rw [z]; exact Nat.le_add_right _ _
          · rw [z]; exact Nat.le_add_right _ _
          · rw [z]; exact Nat.le_add_right _ _
          · rw [z]; exact Nat.le_refl _
          · rw [z]; exact Nat.le_add_right _ _
        exact I1.fpOk hle (I1.hok.fresh hle)
      refine zip_begins2 b1 b2 y1 y2 fun h' hz hTI hTO g1 g2 hsz hk => wpAny_pyIter_zip hz ?_
      have I2 : Inv X pins σ H1 { s1 with heap := h' } := I1.kept (t' := s1.toks) hk
      have sp := zip_sep2 l1 l2
      rw [← fpS_eq, ← fpS_eq] at sp
      have n1 : s1.heap.objs.size ∉ (fpS s1.heap.objs.size a).tail := by
        rw [fpS_eq]; intro z; exact Nat.lt_irrefl _ (l1 _ z)
      have n2 : s1.heap.objs.size + 1 ∉ (fpS (s1.heap.objs.size + 1) b).tail := by
        rw [fpS_eq]; intro z; exact Nat.lt_irrefl _ (Nat.lt_of_succ_lt (l2 _ z))
      exact ⟨s1.heap.objs.size + 4, [s1.heap.objs.size + 4, s1.heap.objs.size + 2, s1.heap.objs.size + 3, s1.heap.objs.size, s1.heap.objs.size + 1], _, _, H1, rfl, I2, turn_zipS ⟨sp, n1, n2⟩, ⟨hz, hTI, ⟨_, _, hTO⟩, t1 _ _ g1, t2 _ _ g2⟩, fresh5, q⟩
end Bh
/-! Bh, part 22: zip of two values. -/
namespace Bh
open PySem PySem.Spec PyProof.Rows L2
def signsD (x : PySem.Str) : List D := x.cps.toList.map fun c => .str ⟨#[c]⟩
/-- what a value's walk is, texts too -/
def srcW (h : LH) : D → Option Src
  | .str x => some (signsD x, [])
  | d => srcV h d
def bZip (er : DEs) : DI := fun c σ h => (er c σ h).bind fun ds h1 => match ds with
  | [d1, d2] => match srcW h1 d1, srcW h1 d2 with
    | some (xs, g1), some (ys, g2) => .ok ((xs.zip ys).map fun p => .tup [p.1, p.2], g1 ++ g2) h1
    | _, _ => .bad
  | _ => .bad
theorem gdOk_app {g1 g2 : List (Nat × LO)} {h : LH} : gdOk (g1 ++ g2) h = true ↔ gdOk g1 h = true ∧ gdOk g2 h = true := by
  simp [gdOk, List.all_append]
section
variable {X : Cx} {Z : Sta} {s0 : S3} {W : WX} {c : Calls} {pos p tpos : Pos}
theorem rds_signs {s : S3} (x : PySem.Str) : RDs Z s (signsD x) (signsV x) := by
  unfold signsD signsV
  generalize x.cps.toList = l
  induction l with
  | nil => exact .nil
  | cons a l ih => exact .cons (.str _) ih
theorem srcW_at {s1 : S3} (ok1 : Ok3 Z s1) {d : D} {xs : List D} {gs : List (Nat × LO)} {v : V} (h : srcW s1.h d = some (xs, gs)) (r : RD Z s1 d v) : ∃ q, v = vS q ∧
    ∀ s, Lq s1 s → Ok3 Z s → gdOk gs s.h = true → ∃ vs, SqS Z.K s.H q vs ∧ RDs Z s xs vs := by
  have go : srcV s1.h d = some (xs, gs) → ∃ q, v = vS q ∧ ∀ s, Lq s1 s → Ok3 Z s → gdOk gs s.h = true → ∃ vs, SqS Z.K s.H q vs ∧ RDs Z s xs vs := fun h => by
    obtain ⟨a, rfl, hs⟩ := srcV_at ok1 h r
    split at hs
    · exact ⟨.t a, rfl, hs⟩
    · exact ⟨.l a, rfl, hs⟩
  cases d with
  | str x =>
    cases h
    cases r
    exact ⟨.s x, rfl, fun s l ok g => ⟨signsV x, rfl, rds_signs x⟩⟩
  | non => exact go h
  | bl _ => exact go h
  | int _ => exact go h
  | tup _ => exact go h
  | lst _ => exact go h
  | dic _ => exact go h
  | ref _ => exact go h
  | fn _ => exact go h
theorem srcW_gd {h : LH} {d : D} {xs : List D} {gs : List (Nat × LO)} (es : srcW h d = some (xs, gs)) : gdOk gs h = true := by
  cases d with
  | ref n =>
    simp only [srcW, srcV] at es
    split at es
    · rename_i ys e; cases es; simp [gdOk, e]
    · rename_i ys e; cases es; simp [gdOk, e]
    · cases es
  | tup ys => cases es; rfl
  | lst ys => cases es; rfl
  | str x => cases es; rfl
  | _ => cases es
theorem src_zip {s1 : S3} {a b : Sk} {xs ys : List D} {g1 g2 : List (Nat × LO)} (h1 : ∀ s, Lq s1 s → Ok3 Z s → gdOk g1 s.h = true → ∃ vs, SqS Z.K s.H a vs ∧ RDs Z s xs vs) (h2 : ∀ s, Lq s1 s → Ok3 Z s → gdOk g2 s.h = true → ∃ vs, SqS Z.K s.H b vs ∧ RDs Z s ys vs) :
    SrcOk Z s1 (ItzS Z.K a b) ((xs.zip ys).map fun p => .tup [p.1, p.2]) (gdX (g1 ++ g2)) where
  go := fun i d s l ok g hd => by
    obtain ⟨ga, gb⟩ := gdOk_app.mp g
    obtain ⟨vs, q1, r1⟩ := h1 s l ok ga
    obtain ⟨us, q2, r2⟩ := h2 s l ok gb
    rw [List.getElem?_map] at hd
    cases hz : (xs.zip ys)[i]? with
    | none => rw [hz] at hd; cases hd
    | some pr =>
      rw [hz] at hd
      cases hd
      obtain ⟨e1, e2⟩ := List.getElem?_zip_eq_some.mp hz
      obtain ⟨v, hv, rv⟩ := r1.get e1
      obtain ⟨u, hu, ru⟩ := r2.get e2
      refine ⟨⟨vs, us, v, u, q1, q2, hv, hu⟩, fun x H' hy => ?_⟩
      obtain ⟨T, v', u', rfl, hT, rfl, k1, k2⟩ := hy
      have e1' := k1 vs q1
      rw [hv] at e1'
      cases e1'
      have e2' := k2 us q2
      rw [hu] at e2'
      cases e2'
      have l2 : Le s ⟨s.m, s.h, upd s.H T (.tup [v, u]), s.pr, s.xc⟩ := Le.tmp hT
      exact ⟨⟨s.m, s.h, upd s.H T (.tup [v, u]), s.pr, s.xc⟩, rfl, rfl, l2, ok.tmp hT, .tup (SqT.of upd_same) (.cons (rv.le ok l2) (.cons (ru.le ok l2) .nil))⟩
  stop := fun s l ok g => by
    obtain ⟨ga, gb⟩ := gdOk_app.mp g
    obtain ⟨vs, q1, r1⟩ := h1 s l ok ga
    obtain ⟨us, q2, r2⟩ := h2 s l ok gb
    have l1 := r1.length
    have l2 := r2.length
    refine ⟨vs, us, q1, q2, ?_⟩
    rw [List.length_map, List.length_zip, l1, l2]
    omega
theorem si_zip {e e2 : Expr} {elts : List Expr} {kk : Nat} {er : DEs} (hK : Z.K = X.K) (hg : Gl X "zip") (hm : X.mg "zip" = none) (ha : PA X [e, e2] (tEs Z W (er c)))
    (hs : starEach [e, e2] X.env = (false, eval e X.env) :: starEach [e2] X.env) (hpl : (backTo pos (starEach [e2] X.env)).any (·.1) = false) : PI X (.Tuple elts kk tpos) (.Call (.Name "zip" p) [e, e2] [] pos) (tI Z W (bZip er c)) :=
  (pi_zipS hg hm ha hs hpl).imp fun σ H R t => by
    obtain ⟨s, σL, e1, ok, rs, q⟩ := t
    refine ⟨s, σL, e1, ok, rs, q.bind.mono (fun ds s1 l1 ok1 q1 vs rv => ?_) fun _ _ _ _ _ q => q⟩
    split at q1
    · rename_i d1 d2
      split at q1
      · rename_i xs g1 ys g2 es1 es2
        cases rv with
        | cons ra rr =>
          cases rr with
          | cons rb rr =>
            cases rr
            obtain ⟨a, rfl, ha⟩ := srcW_at ok1 es1 ra
            obtain ⟨b, rfl, hb⟩ := srcW_at ok1 es2 rb
            obtain ⟨va, qa, _⟩ := ha s1 (Lq.refl _) ok1 (srcW_gd es1)
            obtain ⟨vb, qb, _⟩ := hb s1 (Lq.refl _) ok1 (srcW_gd es2)
            rw [hK] at qa qb
            refine ⟨a, b, va, vb, rfl, qa, qb, ?_⟩
            rw [← hK]
            exact q1 s1 rfl (Le.refl _) ok1 _ (src_zip ha hb)
      · exact q1.elim
    · exact q1.elim
end
end Bh
/-! Bh, part 23: enumerate of a list, a tuple, a text. -/
namespace Bh
open PySem PySem.Spec PyProof.Rows L2
open AutoSeq1 (wpAny_loadPart')
abbrev itT (a : Addr) : Obj := { cls := .type "tuple_iterator", data := .fields #[.ref a, .int 0 0] }
abbrev enT (N : Nat) : Obj := { cls := .type "enumerate", data := .fields #[.none, .bool false, .ref N, rawInt 0, .none, .none] }
theorem new_enumT (a : Addr) (ts : Array Value) (k : Nat) (dq : Option Addr) (sq : Array (Option Value)) :
    Meets (Builtin.«enumerate.__new__» ⟨[.type "enumerate", .ref a], []⟩) (fun _ R s => s.heap.get? a = some { cls := .type "tuple", dict := dq, data := .seq ts k, slots := sq } ∧
      R (.ok (.ret (.ref (s.heap.push (itT a)).objs.size))) { s with heap := (s.heap.push (itT a)).push (enT s.heap.objs.size) }) :=
  .of_wp fun prog w A R s hyp => by
    obtain ⟨hp, g, d, tk, os⟩ := s
    obtain ⟨ha, fin⟩ := hyp
    have hsub := sub_enumerate
    have tup : Heap.IsTuple (Shared.heap ⟨hp, g, d, tk, os⟩) a ts := ⟨_, ha, rfl, k, rfl⟩
    wp_walk using wpAny_loadPart' ha
    refine wpAny_stack_any fun st => wpAny_pure ?_
    split
    · rename_i c _ _ _ _ _
      cases (c == Value.type "enumerate")
      · wp_walk using wpAny_loadPart' ha, wpAny_pyIter_tuple tup
        exact ⟨_, rfl, fin⟩
      · wp_walk using wpAny_loadPart' ha, wpAny_pyIter_tuple tup
        exact ⟨_, rfl, fin⟩
    · wp_walk using wpAny_loadPart' ha, wpAny_pyIter_tuple tup
      exact ⟨_, rfl, fin⟩
section
variable {prog : Program} {w : World} {A : Around} {E : Value → Shared → Prop} {s : Shared}
theorem call_enumT {a : Addr} {ts : Array Value} {Q : Value → Shared → Prop} (tup : s.heap.IsTuple a ts)
    (fin : ∀ h', IsEnum h' (s.heap.objs.size + 1) s.heap.objs.size 0 .none → h'.IsTupleIter s.heap.objs.size a 0 → (∀ b o, s.heap.get? b = some o → h'.get? b = some o) → Q (.ref (s.heap.objs.size + 1)) { s with heap := h' }) :
    wpAny (model prog w) A (call (.type "enumerate") [.ref a]) Q E s := by
  obtain ⟨⟨c, dq, dt, sq⟩, ha, e1, k, e2⟩ := tup
  have e1 : c = .type "tuple" := e1
  have e2 : dt = .seq ts k := e2
  subst e1 e2
  refine callType_new F.called_enumerate (by decide) (F.typeCall_enumerate_1 _) (F.newCall_enumerate_1 _) (fun obj => F.args_object_init_2 obj _) F.entry_enumerate_new (new_enumT a ts k dq sq) ⟨ha, ?_⟩
  have size1 : (s.heap.push (itT a)).objs.size = s.heap.objs.size + 1 := Heap.size_push ..
  show _ ∧ _
  rw [size1]
  have en : IsEnum ((s.heap.push (itT a)).push (enT s.heap.objs.size)) (s.heap.objs.size + 1) s.heap.objs.size 0 .none := by
    have q := Heap.get?_push_size (s.heap.push (itT a)) (o := enT s.heap.objs.size) rfl
    rw [size1] at q
    exact q
  exact ⟨⟨_, en, rfl⟩, fin _ en ⟨_, Heap.get?_push_of_some _ (Heap.get?_push_size _ rfl), rfl, rfl⟩ fun b o q => Heap.get?_push_of_some _ (Heap.get?_push_of_some _ q)⟩
/-- enumerate(v), of whatever kind -/
theorem call_enumS {X : Cx} {pins : List (Addr × Obj)} {σ : L2.St} {H : Hp} {A : Around} {E : Value → Shared → Prop} {s : Shared} (I : Inv X pins σ H s) {Q : Value → Shared → Prop} : ∀ {q : Sk} {xs : List V} {u : Value}, SqS X.K H q xs → RelV (vS q) u →
    (∀ h', IsEnum h' (s.heap.objs.size + 1) s.heap.objs.size 0 .none → ItS h' s.heap.objs.size q 0 → (∀ b o, s.heap.get? b = some o → h'.get? b = some o) → Q (.ref (s.heap.objs.size + 1)) { s with heap := h' }) →
    (∀ b ∈ (fpS 0 q).tail, b < s.heap.objs.size) ∧ wpAny (model X.prog X.w) A (call (.type "enumerate") [u]) Q E s
  | .l a, xs, u, hq, r, k => by
    obtain ⟨its, rv, p, _⟩ := I.list hq
    have e : u = .ref a := r
    subst e
    exact ⟨fun b hb => by simp [fpS] at hb; subst hb; exact p.lt, call_enumerate_list p.isList fun h' he hit _ hk => k h' he hit hk⟩
  | .t a, xs, u, hq, r, k => by
    obtain ⟨its, rv, p, _⟩ := I.tuple hq
    have e : u = .ref a := r
    subst e
    exact ⟨fun b hb => by simp [fpS] at hb; subst hb; obtain ⟨o, ho, _⟩ := id p; exact Heap.lt_size ho, call_enumT p fun h' he hit hk => k h' he hit hk⟩
  | .s x, xs, u, hq, r, k => by
    obtain ⟨t, e⟩ := r
    subst e
    exact ⟨fun b hb => by simp [fpS] at hb, call_enumerate_str fun h' he hit _ hk => k h' he ⟨t, hit⟩ hk⟩
end
/-- the turns of enumerate -/
def IteS (K : PySem.W.Frag) (a : Sk) : It :=
  ⟨fun i H => ∃ (xs : List V) (x : V), SqS K H a xs ∧ xs[i]? = some x,
    fun i H v H' => ∃ T x, v = .ref T ∧ H T = none ∧ H' = upd H T (.tup [.int (i : Nat), x]) ∧ ∀ xs, SqS K H a xs → xs[i]? = some x,
    fun i H => ∃ xs : List V, SqS K H a xs ∧ i = xs.length⟩
theorem turn_enumS {P : Program} {w : World} {K : PySem.W.Frag} {elts : List Expr} {kk : Nat} {tpos : Pos} {e it : Addr} {a : Sk} (hef : e ∉ fpS it a) (n1 : it ∉ (fpS it a).tail) :
    Turn P w K (.Tuple elts kk tpos) (IteS K a) [e, it] e (fun i h => (∃ old, IsEnum h e it ((i : Nat) : Int) old) ∧ ItS h it a i) where
  mem := by simp
  obj := fun i h st b hb => by
    obtain ⟨⟨old, he⟩, hit⟩ := st
    have e' : b = e ∨ b = it := by simpa using hb
    rcases e' with z | z
    · rw [z]; exact ⟨_, he, fun v q => nomatch q⟩
    · rw [z]; exact hit.obj
  keep := fun i h h' st k => let ⟨⟨old, he⟩, hi⟩ := st; ⟨⟨old, k e (by simp) _ he⟩, hi.at fun o q => k it (by simp) o q⟩
  item := by
    intro X hP hw hK hc i pins s σ H E I hf st hg
    subst hP hw hK
    obtain ⟨⟨old, he⟩, hit⟩ := st
    obtain ⟨xs, x, hq, hx⟩ := hg
    have hA : X.A.in1.handled = none := show X.A.handled = none from I.ok.hd hc
    obtain ⟨P1, St1, D1, t1, k1, r1⟩ := draws_of I hA hq n1 hit
    have hlt : i < xs.length := (List.getElem?_eq_some_iff.mp hx).1
    have hne : e ≠ it := fun z => hef (by rw [fpS_eq, z]; exact List.mem_cons_self ..)
    have hel : e < s.heap.objs.size := Heap.lt_size he
    have hil : it < s.heap.objs.size := by obtain ⟨_, q, _⟩ := hit.obj; exact Heap.lt_size q
    refine wpAny_pyNext_enum_itemC D1 he t1 hlt hne hef fun u h' tk y1 ho t1' hT hsz hk => ?_
    obtain ⟨v1, e1, ru⟩ := r1 i u y1
    rw [hx] at e1
    cases e1
    refine ⟨_, rfl, wpAny_letOwnedTupleGo_enum (s := { s with heap := h', toks := tk + 1 }) ho fun h'' he' sb => ?_⟩
    have hT2 : h''.get? s.heap.objs.size = some { cls := .type "tuple", data := .seq #[.int i tk, u] } := (sb.2 _ (Nat.ne_of_gt hel)).trans hT
    have new : ObjOk X.prog X.w (upd H s.heap.objs.size (.tup [.int (i : Nat), x])) h'' s.heap.objs.size (.tup [.int (i : Nat), x]) :=
      ⟨by show 2 ≤ sizeLine; decide, [.int i tk, u], .cons ⟨_, rfl⟩ (.cons ru .nil), ⟨_, hT2, rfl, _, rfl⟩⟩
    have I1 : Inv X pins σ (upd H s.heap.objs.size (.tup [.int (i : Nat), x])) { s with heap := h'', toks := tk + 1 } :=
      I.turnedNew (ch := [e, it]) (fun b ob hb q => (sb.2 b (fun z => hb (by simp [z]))).trans (hk b ob (fun z => hb (by simp [z])) (fun z => hb (by simp [z])) q)) hf (Nat.le_refl _) new
    refine ⟨.ref s.heap.objs.size, _, I1, rfl, ⟨_, x, rfl, I.hok.fresh (Nat.le_refl _), rfl, fun ys hy => by rw [sqs_inj I hy hq]; exact hx⟩, ⟨⟨u, ?_⟩, (k1 _ _ t1').at fun o q => (sb.2 it (Ne.symm hne)).trans q⟩, fun b hb => ?_⟩
    · have e1 : ((i + 1 : Nat) : Int) = (i : Int) + 1 := by omega
      rw [e1]; exact he'
    · have hb' : b < s.heap.objs.size := by
        have e' : b = e ∨ b = it := by simpa using hb
        rcases e' with z | z
        · rw [z]; exact hel
        · rw [z]; exact hil
      rw [upd_ne (Nat.ne_of_lt hb')]
      exact (hf b hb).1
  done := by
    intro X hP hw hK hc i pins s σ H E I hf st hg
    subst hP hw hK
    obtain ⟨⟨old, he⟩, hit⟩ := st
    obtain ⟨xs, hq, hx⟩ := hg
    subst hx
    have hA : X.A.in1.handled = none := show X.A.handled = none from I.ok.hd hc
    obtain ⟨P1, St1, D1, t1, k1, r1⟩ := draws_of I hA hq n1 hit
    obtain ⟨f0, f1, f2, f3, f4, f5⟩ := hf it (by simp)
    exact wpAny_pyNext_enum_endD D1 he t1 fun h' eb => ⟨rfl, I.turned (t' := s.toks) (fun b o hb q => eb b o hb q) f0 f1 f3 f4 f5⟩
  self := fun A i s Q E st h => let ⟨⟨_, he⟩, _⟩ := st; wpAny_pyIter_enum he h
def iEnumS (K : PySem.W.Frag) (ta : TA) : TI := fun σ H R => ta σ H fun vs H1 => ∃ a xs, vs = [vS a] ∧ SqS K H1 a xs ∧ R (IteS K a) H1
theorem pi_enumS {X : Cx} {e : Expr} {ta : TA} {p pos tpos : Pos} {elts : List Expr} {kk : Nat} (hg : Gl X "enumerate") (hm : X.mg "enumerate" = none) (ha : PA X [e] ta) (hs : starEach [e] X.env = [(false, eval e X.env)]) :
    PI X (.Tuple elts kk tpos) (.Call (.Name "enumerate" p) [e] [] pos) (iEnumS X.K ta) := by
  refine ⟨fun pins s σ H R I h => ?_⟩
  refine Call_ (ld_blt I hg hm boot_enumerate (PyProof.Rows.callWith_type1 (thn (ha.run pos pins s σ H _ I h) fun us s1 ⟨vs, H1, I1, r1, q1⟩ => ?_) hs rfl))
  obtain ⟨a, xs, ex, hq, q⟩ := q1
  subst ex
  cases r1 with
  | cons r rr =>
    cases rr
    refine (call_enumS I1 hq r fun h' he hit hk => wpAny_pyIter_enum he ?_).2
    have lt : ∀ b ∈ (fpS 0 a).tail, b < s1.heap.objs.size := (call_enumS (Q := fun _ _ => True) (A := X.A) (E := fun _ _ => True) I1 hq r fun _ _ _ _ => trivial).1
    have I2 : Inv X pins σ H1 { s1 with heap := h' } := I1.kept (t' := s1.toks) hk
    have n1 : s1.heap.objs.size ∉ (fpS s1.heap.objs.size a).tail := by rw [fpS_eq]; intro z; exact Nat.lt_irrefl _ (lt _ z)
    have n2 : s1.heap.objs.size + 1 ∉ fpS s1.heap.objs.size a := by
      rw [fpS_eq]
      intro z
      rcases List.mem_cons.mp z with z | z
      · exact Nat.succ_ne_self _ z
      · exact Nat.lt_irrefl _ (Nat.lt_of_succ_lt (lt _ z))
    refine ⟨s1.heap.objs.size + 1, [s1.heap.objs.size + 1, s1.heap.objs.size], _, _, H1, rfl, I2, turn_enumS n2 n1, ⟨⟨.none, he⟩, hit⟩, fun b hb => ?_, q⟩
    have e' : b = s1.heap.objs.size + 1 ∨ b = s1.heap.objs.size := by simpa using hb
    have hle : s1.heap.objs.size ≤ b := by
      rcases e' with z | z
      · rw [z]; exact Nat.le_add_right _ _
      · rw [z]; exact Nat.le_refl _
    exact I1.fpOk hle (I1.hok.fresh hle)
/-! ### over data -/
def numd : Nat → List D → List D
  | _, [] => []
  | i, x :: xs => .tup [.int i, x] :: numd (i + 1) xs
theorem numd_get : ∀ {xs : List D} {i k : Nat} {d : D}, (numd k xs)[i]? = some d → ∃ x, xs[i]? = some x ∧ d = .tup [.int ((k + i : Nat) : Int), x]
  | [], i, k, d, h => by simp [numd] at h
  | x :: xs, 0, k, d, h => by simp [numd] at h; exact ⟨x, rfl, h.symm⟩
  | x :: xs, i + 1, k, d, h => by
    obtain ⟨y, e1, e2⟩ := numd_get (xs := xs) (i := i) (k := k + 1) (by simpa [numd] using h)
    exact ⟨y, by simpa using e1, by rw [e2, show k + 1 + i = k + (i + 1) by omega]⟩
theorem numd_len : ∀ {xs : List D} {k : Nat}, (numd k xs).length = xs.length
  | [], _ => rfl
  | x :: xs, k => by simp [numd, numd_len]
def bEnum (a : DEs) : DI := fun c σ h => (a c σ h).bind fun ds h1 => match ds with
  | [d] => match srcW h1 d with
    | some (xs, g) => .ok (numd 0 xs, g) h1
    | none => .bad
  | _ => .bad
section
variable {X : Cx} {Z : Sta} {s0 : S3} {W : WX} {c : Calls} {pos p tpos : Pos}
theorem src_enum {s1 : S3} {a : Sk} {xs : List D} {g1 : List (Nat × LO)} (h1 : ∀ s, Lq s1 s → Ok3 Z s → gdOk g1 s.h = true → ∃ vs, SqS Z.K s.H a vs ∧ RDs Z s xs vs) :
    SrcOk Z s1 (IteS Z.K a) (numd 0 xs) (gdX g1) where
  go := fun i d s l ok g hd => by
    obtain ⟨vs, q1, r1⟩ := h1 s l ok g
    obtain ⟨x, hx, rfl⟩ := numd_get hd
    obtain ⟨v, hv, rv⟩ := r1.get hx
    refine ⟨⟨vs, v, q1, hv⟩, fun y H' hy => ?_⟩
    obtain ⟨T, v', rfl, hT, rfl, k1⟩ := hy
    have e1' := k1 vs q1
    rw [hv] at e1'
    cases e1'
    have l2 : Le s ⟨s.m, s.h, upd s.H T (.tup [.int (i : Nat), v]), s.pr, s.xc⟩ := Le.tmp hT
    refine ⟨⟨s.m, s.h, upd s.H T (.tup [.int (i : Nat), v]), s.pr, s.xc⟩, rfl, rfl, l2, ok.tmp hT, .tup (SqT.of upd_same) (.cons ?_ (.cons (rv.le ok l2) .nil))⟩
    rw [Nat.zero_add]
    exact .int _
  stop := fun s l ok g => by
    obtain ⟨vs, q1, r1⟩ := h1 s l ok g
    exact ⟨vs, q1, by rw [numd_len, r1.length]⟩
theorem si_enum {e : Expr} {elts : List Expr} {kk : Nat} {er : DEs} (hK : Z.K = X.K) (hg : Gl X "enumerate") (hm : X.mg "enumerate" = none) (ha : PA X [e] (tEs Z W (er c))) (hs : starEach [e] X.env = [(false, eval e X.env)]) :
    PI X (.Tuple elts kk tpos) (.Call (.Name "enumerate" p) [e] [] pos) (tI Z W (bEnum er c)) :=
  (pi_enumS hg hm ha hs).imp fun σ H R t => by
    obtain ⟨s, σL, e1, ok, rs, q⟩ := t
    refine ⟨s, σL, e1, ok, rs, q.bind.mono (fun ds s1 l1 ok1 q1 vs rv => ?_) fun _ _ _ _ _ q => q⟩
    split at q1
    · rename_i d
      split at q1
      · rename_i xs g es
        cases rv with
        | cons ra rr =>
          cases rr
          obtain ⟨a, rfl, ha⟩ := srcW_at ok1 es ra
          obtain ⟨va, qa, _⟩ := ha s1 (Lq.refl _) ok1 (srcW_gd es)
          rw [hK] at qa
          refine ⟨a, va, rfl, qa, ?_⟩
          rw [← hK]
          exact q1 s1 rfl (Le.refl _) ok1 _ (src_enum ha)
      · exact q1.elim
    · exact q1.elim
end
end Bh
/-! Bh, part 24: a list, a tuple or a text gone through. -/
namespace Bh
open PySem PySem.Spec PyProof.Rows L2
/-- the iterator of a kind -/
def itOf (K : PySem.W.Frag) : Sk → It
  | .l a => Itl K a
  | .t a => Itt K a
  | .s x => Its x
def iSeqW (K : PySem.W.Frag) (te : TE) : TI := fun σ H R => te σ H fun v H1 => ∃ q xs, v = vS q ∧ SqS K H1 q xs ∧ R (itOf K q) H1
def bIterW (a : DE) : DI := fun c σ h => (a c σ h).bind fun x h1 => optO (srcW h1 x) h1
section
variable {X : Cx} {Z : Sta} {s0 : S3} {W : WX} {c : Calls} {pos p apos : Pos} {tg : Expr}
theorem pi_seqW {e : Expr} {te : TE} (he : PE X e te) : PI X tg e (iSeqW X.K te) := ⟨fun pins s σ H R I h => thn (he.run pins s σ H _ I h) fun v s1 ⟨y, H1, I1, r1, q, xs, ev, hq, fin⟩ => by
  subst ev
  have fresh : ∀ b ∈ [s1.heap.objs.size], FpOk X pins H1 b := fun b hb => by
    cases List.mem_singleton.mp hb
    exact I1.fpOk (Nat.le_refl _) (I1.hok.fresh (Nat.le_refl _))
  cases q with
  | l a =>
    obtain ⟨its, rv, pl, hz⟩ := I1.list hq
    cases (show v = .ref a from r1)
    exact wpAny_pyIter_list pl.isList ⟨_, _, _, _, H1, rfl, I1.kept (t' := s1.toks) fun b o z => Heap.get?_push_of_some _ z, turn_list a _, ⟨_, Heap.get?_push_size _ rfl, rfl, rfl⟩, fresh, fin⟩
  | t a =>
    obtain ⟨its, rv, pl, hz⟩ := I1.tuple hq
    cases (show v = .ref a from r1)
    exact wpAny_pyIter_tuple (show s1.heap.IsTuple a its.toArray from pl) ⟨_, _, _, _, H1, rfl, I1.kept (t' := s1.toks) fun b o z => Heap.get?_push_of_some _ z, turn_tuple a _, ⟨_, Heap.get?_push_size _ rfl, rfl, rfl⟩, fresh, fin⟩
  | s x =>
    obtain ⟨t, rfl⟩ := r1
    cases ha : x.cps.all (· < 128)
    · exact wpAny_pyIter_wide ha (pi_one (tk := s1.toks) I1 _ (turn_str _ x t "str_iterator" (.inr rfl)) ⟨_, Heap.get?_push_size _ rfl, rfl, rfl⟩ fin)
    · exact wpAny_pyIter_ascii ha (pi_one (tk := s1.toks) I1 _ (turn_str _ x t "str_ascii_iterator" (.inl rfl)) ⟨_, Heap.get?_push_size _ rfl, rfl, rfl⟩ fin)⟩
theorem src_str {s1 : S3} (x : PySem.Str) : SrcOk Z s1 (Its x) (signsD x) (gdX []) where
  go := fun i d s l ok g hd => by
    unfold signsD at hd
    rw [List.getElem?_map] at hd
    cases e : x.cps.toList[i]? with
    | none => rw [e] at hd; cases hd
    | some ch =>
      rw [e] at hd
      cases hd
      have hx : x.cps[i]? = some ch := by simpa using e
      refine ⟨(Array.getElem?_eq_some_iff.mp hx).1, fun y H' hy => ?_⟩
      obtain ⟨rfl, c2, h2, rfl⟩ := hy
      rw [hx] at h2
      cases h2
      exact ⟨s, rfl, rfl, Le.refl _, ok, .str _⟩
  stop := fun s l ok g => by
    show x.cps.size ≤ (signsD x).length
    simp [signsD]
theorem srcS_ok {s1 : S3} (ok1 : Ok3 Z s1) {d : D} {xs : List D} {gs : List (Nat × LO)} {v : V} (es : srcW s1.h d = some (xs, gs)) (r : RD Z s1 d v) : ∃ q ys, v = vS q ∧ SqS Z.K s1.H q ys ∧ SrcOk Z s1 (itOf Z.K q) xs (gdX gs) := by
  obtain ⟨q, rfl, hs⟩ := srcW_at ok1 es r
  obtain ⟨vs, hq, _⟩ := hs s1 (Lq.refl _) ok1 (srcW_gd es)
  refine ⟨q, vs, rfl, hq, ?_⟩
  cases q with
  | l a => exact src_list hs
  | t a => exact src_tup hs
  | s x =>
    cases r
    cases es
    exact src_str x
theorem si_seqW {e : Expr} {ee : DE} (hK : Z.K = X.K) (he : PE X e (tE Z W (ee c))) : PI X tg e (tI Z W (bIterW ee c)) := (pi_seqW he).imp fun σ H R t => by
  obtain ⟨s, σL, e1, ok, rs, q⟩ := t
  refine ⟨s, σL, e1, ok, rs, q.bind.mono (fun d s1 l1 ok1 q1 v rv => ?_) fun _ _ _ _ _ q => q⟩
  obtain ⟨⟨xs, gs⟩, es, hk⟩ := post_optB q1
  have fin := hk s1 rfl (Le.refl _) ok1
  obtain ⟨k, ys, rfl, hq, so⟩ := srcS_ok ok1 es rv
  rw [hK] at hq
  refine ⟨k, ys, rfl, hq, ?_⟩
  rw [← hK]
  exact fin _ so
end
end Bh
/-! Bh, part 25: new lists: list(x), sorted(x) of ints. -/
namespace Bh
open PySem PySem.Spec PyProof.Rows L2
abbrev DN := Calls → DSt → LH → Out (List D)
def bLs (a : DE) : DN := fun c σ h => (a c σ h).bind fun x h1 => optO ((srcV h1 x).map (·.1)) h1
section
variable {X : Cx} {Z : Sta} {s0 : S3} {W : WX} {c : Calls} {pos p apos : Pos}
theorem sn_list {x : PySem.Str} {a : Expr} {ea : DE} (hK : Z.K = X.K) (hg : Gl X x) (hm : X.mg x = none) (hv : bootBuiltins x = some (.type "list")) (hn : x ≠ "__name__") (hdb : (x == ("__debug__" : PySem.Str)) = false)
    (hs : starEach [a] X.env = [(false, eval a X.env)]) (ha : PE X a (tE Z W (ea c))) : PE X (.Call (.Name x p) [a] [] pos) (tN Z W (bLs ea c)) :=
  (pe_callTy call_list_of hg hm hv (pa_cons ha pa_nil hs) hn hdb hs).imp fun σ H Q t => by
    obtain ⟨s, σL, e1, ok, rs, q⟩ := t
    refine ⟨s, σL, e1, ok, rs, q.bind.mono (fun d s1 l1 ok1 q1 v rv => ?_) fun _ _ _ _ _ q => q⟩
    obtain ⟨items, ei, hk⟩ := post_optB q1
    have fin := hk s1 rfl (Le.refl _) ok1
    cases es : srcV s1.h d with
    | none => rw [es] at ei; cases ei
    | some r =>
      obtain ⟨xs, gs⟩ := r
      rw [es] at ei
      cases ei
      obtain ⟨a', rfl, hs'⟩ := srcV_at ok1 es rv
      have g0 : gdOk gs s1.h = true := srcW_gd (d := d) (by
        cases d with
        | str x => cases es
        | _ => exact es)
      obtain ⟨vs, h1, h2⟩ := hs' s1 (Lq.refl _) ok1 g0
      refine ⟨a', vs, rfl, ?_, fun l hl => fin vs h2 l hl⟩
      rw [← hK]
      split at h1
      · exact .inr h1
      · exact .inl h1
end
end Bh
/-! Bh, part 26: a call of what an expression gives. -/
namespace Bh
open PySem PySem.Spec PyProof.Rows L2
def bCallX (al : Nat → Bool) (ef : DE) (er : DEs) : DE := fun c σ h => (ef c σ h).bind fun f h1 => match f with
  | .fn n => if al n = true then (er c σ h1).bind fun ds h2 => c n ds h2 else .bad
  | _ => .bad
section
variable {X : Cx} {Z : Sta} {s0 : S3} {W : WX} {c : Calls} {pos p apos : Pos}
theorem sd_callX {al : Nat → Bool} {lev ar : Nat} {fe e : Expr} {es : List Expr} {ef : DE} {er : DEs} (F : ∀ n, al n = true → DefOk X Z c lev n ar) (hr : Room lev X.A) (tk : Takes X W) (hn : Ln ar er) (hf : PE X fe (tE Z W (ef c))) (ha : PA X (e :: es) (tEs Z W (er c)))
    (he : starEach (e :: es) X.env = (false, eval e X.env) :: starEach es X.env) (hpl : (backTo pos (starEach es X.env)).any (·.1) = false)
    (hc : eval (.Call fe (e :: es) [] pos) X.env = (do callWith pos (← eval fe X.env) [] (backTo pos (starEach (e :: es) X.env)) (backToKw pos (keywordEach [] X.env)))) :
    PE X (.Call fe (e :: es) [] pos) (tE Z W (bCallX al ef er c)) := ⟨fun pins sh σ H Q I t => by
  obtain ⟨s, σL, rfl, ok, rs, q⟩ := t
  refine Call_ (thn (hf.run pins sh σ s.H (fun v H1 => ∃ s1 d, s1.H = H1 ∧ Ok3 Z s1 ∧ RSt Z s1 σL σ ∧ RD Z s1 d v ∧ PostV Z s1 (match d with
    | .fn n => if al n = true then (er c σL s1.h).bind fun ds h2 => c n ds h2 else .bad
    | _ => .bad) (QQ Z Q) (EE Z W σ)) I ⟨s, σL, rfl, ok, rs, q.bind.mono (fun d s1 l1 ok1 q1 v rv => ⟨s1, d, rfl, ok1, rs.le ok l1, rv, q1⟩) fun _ _ _ _ _ q => q⟩) fun u sh1 ⟨x, H1, I1, rx, s1, d, eh, ok1, rs1, rd, q1⟩ => ?_) hc
  subst eh
  cases d with
  | fn n =>
    simp only at q1
    split at q1
    · rename_i hal
      cases rd
      cases (show u = .ref (Z.fa n) from rx)
      obtain ⟨⟨fd, ps, _, G, hb⟩, hk⟩ := F n hal
      refine PySem.W.callWith_K (h₀ := X.base) I1.ok.mod.kin hk (thn (ha.run pos pins sh1 σ s1.H (fun vs H2 => spF Z c n ar vs H2 Q (WE W σ)) I1 ?_) fun us s2 ⟨vs, H2, I2, r, q2⟩ => ⟨I2.kIn, ?_⟩) he hpl
      · exact ⟨s1, σL, rfl, ok1, rs1, (PostV.ln (α := Nat) hn q1.bind).mono (fun ds s3 l3 ok3 q3 => spF_of ok3 q3.1 q3.2) fun _ _ _ _ _ q => q⟩
      · exact run_fnS G hr hb (passAt tk σ) I2 r q2
    · exact q1.elim
  | _ => exact q1.elim⟩
end
end Bh
/-! Bh, part 27: while. -/
namespace Bh
open PySem PySem.Spec PyProof.Rows L2
/-- at most so many turns -/
def whileL (t : DSt → LH → Out Bool) (body : DSt → LH → OutS) : Nat → DSt → LH → OutS
  | 0, _, _ => .bad
  | n + 1, σ, h => (t σ h).toS σ fun b h1 => if b = true then match body σ h1 with
      | .nx σ2 h2 => whileL t body n σ2 h2
      | .ct σ2 h2 => whileL t body n σ2 h2
      | .bk σ2 h2 => .nx σ2 h2
      | o => o
    else .nx σ h1
def bWhile (n : Nat) (t : DT) (body : DS) : DS := fun c σ h => whileL (t c) (body c) n σ h
section
variable {X : Cx} {Z : Sta} {s0 : S3} {W : WX} {c : Calls} {pos p apos : Pos}
theorem ss_while {n : Nat} {e : Expr} {body : List Stmt} {et : DT} {eb : DS} (hp : PassesOwn (model X.prog X.w) X.A X.env X.xe) (ht : PT X e (tB_ Z W (et c))) (hb : PSs X body (tS Z s0 W (eb c))) :
    PS X (.While e body [] pos) (tS Z s0 W (bWhile n et eb c)) := by
  refine (ps_while hp ht hb).imp fun D σ H q => ?_
  obtain ⟨s, σL, e1, ok, lc, q⟩ := q
  subst e1
  refine ⟨fun m σ' H' => ∃ s2 σL2, s2.H = H' ∧ Ok3 Z s2 ∧ Lc Z s0 s2 σL2 σ' ∧ PostS Z s0 W s2 (whileL (et c) (eb c) m σL2 s2.h) D, ⟨n, s, σL, rfl, ok, lc, q⟩, ?_⟩
  rintro m σ' H' ⟨s2, σL2, rfl, ok2, lc2, p2⟩
  cases m with
  | zero => exact p2.elim
  | succ m =>
    unfold whileL at p2
    refine ⟨s2, σL2, rfl, ok2, lc2.rs, (p2.toS lc2 ok2).mono (fun b s3 l3 ok3 q3 => ?_) fun _ _ _ _ _ q => q⟩
    have lc3 := lc2.le ok2 l3
    cases b with
    | false =>
      simp only [Bool.false_eq_true, if_false] at q3 ⊢
      exact q3 s3 σ' rfl (Lq.refl _) rfl ok3 lc3
    | true =>
      simp only [if_true] at q3 ⊢
      refine ⟨fun σ4 H4 => ∃ s4 σL4, s4.H = H4 ∧ Ok3 Z s4 ∧ Lc Z s0 s4 σL4 σ4 ∧ PostS Z s0 W s4 (whileL (et c) (eb c) m σL4 s4.h) D, fun σ4 H4 nx => ⟨m, Nat.lt_succ_self m, nx⟩, s3, σL2, rfl, ok3, lc3, ?_⟩
      cases eo : eb c σL2 s3.h with
      | nx σ5 h5 =>
        rw [eo] at q3
        intro s5 σ6 e5 l5 x5 ok5 lc5
        subst e5
        exact ⟨s5, σ5, rfl, ok5, lc5, PostS.back q3 l5 x5⟩
      | ct σ5 h5 =>
        rw [eo] at q3
        intro s5 σ6 e5 l5 x5 ok5 lc5
        subst e5
        exact ⟨s5, σ5, rfl, ok5, lc5, PostS.back q3 l5 x5⟩
      | bk σ5 h5 => rw [eo] at q3; exact q3
      | rt d5 h5 => rw [eo] at q3; exact q3
      | ex c5 f5 σ5 h5 => rw [eo] at q3; exact q3
      | bad => rw [eo] at q3; exact q3
end
end Bh
/-! Bh, part 28: methods of texts with one argument. -/
namespace Bh
open PySem PySem.Spec PyProof.Rows L2
def bM1 (f : LH → PySem.Str → D → Option D) (a b : DE) : DE := fun c σ h => (a c σ h).bind fun x h1 => match x with
  | .str z => (b c σ h1).bind fun y h2 => optO (f h2 z y) h2
  | _ => .bad
/-- a method's rule over data -/
def M1Ok (Z : Sta) (r : V → List V → Hp → VK → Prop) (f : LH → PySem.Str → D → Option D) : Prop :=
  ∀ (s : S3) (z : PySem.Str) (e g : D) (u : V) (Q : VK), Ok3 Z s → RDb Z s e u → f s.h z e = some g → (∀ s', s'.h = s.h → Le s s' → Ok3 Z s' → ∀ w, RD Z s' g w → Q w s'.H) → r (.str z) [u] s.H Q
def textsOf : List D → Option (List PySem.Str)
  | [] => some []
  | .str x :: r => (textsOf r).map (x :: ·)
  | _ :: _ => none
def fSplit (_ : LH) (z : PySem.Str) : D → Option D
  | .str b => if (b.length == 0) = false ∧ z.length + 2 ≤ LIM then some (.lst ((Txt.split z b).map .str)) else none
  | _ => none
def fFind (_ : LH) (z : PySem.Str) : D → Option D
  | .str b => some (.int (Txt.find z b))
  | _ => none
def fIndex (_ : LH) (z : PySem.Str) : D → Option D
  | .str b => match Builtin.Str.occurrences z b 0 z.length 1 with
    | i :: _ => some (.int (i : Nat))
    | [] => none
  | _ => none
def fJoin (h : LH) (z : PySem.Str) (d : D) : Option D := (seqOf h d).bind fun xs => (textsOf xs).bind fun ys => if (ys.map (·.length)).sum + ys.length * z.length ≤ 16777216 then some (.str (Txt.join z ys)) else none
section
variable {X : Cx} {Z : Sta} {s0 : S3} {W : WX} {c : Calls} {pos p apos : Pos}
theorem sd_m1 {o e : Expr} {m : PySem.Str} {r : V → List V → Hp → VK → Prop} {f : LH → PySem.Str → D → Option D} {eo ee : DE} (hr : M1Ok Z r f) (hp : ∀ {to te : TE}, PE X o to → PE X e te → PE X (.Call (.Attribute o m apos) [e] [] pos) (tM1 r to te)) (ho : PE X o (tE Z W (eo c))) (he : PE X e (tO Z W (ee c))) :
    PE X (.Call (.Attribute o m apos) [e] [] pos) (tE Z W (bM1 f eo ee c)) := (hp ho he).imp fun σ H Q t => by
  obtain ⟨s, σL, rfl, ok, rs, q⟩ := t
  refine ⟨s, σL, rfl, ok, rs, q.bind.mono (fun d s1 l1 ok1 q1 v rv => ?_) fun _ _ _ _ _ q => q⟩
  split at q1
  · rename_i z
    cases rv
    refine ⟨⟨z, rfl⟩, s1, σL, rfl, ok1, rs.le ok l1, (PostV.bind (o := ee c σL s1.h) q1).mono (fun e' s2 l2 ok2 q2 u ru => ?_) fun _ _ _ _ _ q => q⟩
    obtain ⟨g, eg, hg⟩ := post_opt q2
    exact hr s2 z e' g u Q ok2 ru eg hg
  · exact q1.elim
theorem rds_texts {s : S3} : ∀ xs : List PySem.Str, RDs Z s (xs.map .str) (xs.map V.str)
  | [] => .nil
  | x :: xs => .cons (.str x) (rds_texts xs)
theorem textsOf_ok {s : S3} {xs : List D} {ys : List PySem.Str} {vs : List V} (h : textsOf xs = some ys) (r : RDs Z s xs vs) : vs = ys.map V.str := by
  induction xs generalizing ys vs with
  | nil => cases h; cases r; rfl
  | cons d xs ih =>
    cases r with
    | cons r1 r2 =>
      cases d with
      | str x =>
        cases e : textsOf xs with
        | none => simp [textsOf, e] at h
        | some zs =>
          simp [textsOf, e] at h
          subst h
          cases r1
          rw [ih e r2]
          rfl
      | _ => cases h
theorem m_split : M1Ok Z (fun x xs H Q => ∃ a b, x = .str a ∧ xs = [.str b] ∧ (b.length == 0) = false ∧ a.length + 2 ≤ sizeLine ∧ rNewStrs (Txt.split a b) H Q) fSplit := fun s z e g u Q ok ru ef k => by
  cases e with
  | str b =>
    simp only [fSplit] at ef
    split at ef
    · rename_i hh
      cases ef
      · have ru : RD Z s (.str b) u := ru.flat
        cases ru
        exact ⟨z, b, rfl, rfl, hh.1, by rw [lim_eq]; exact hh.2, fun p hp => k ⟨s.m, s.h, upd s.H p (.lst ((Txt.split z b).map V.str)), s.pr, s.xc⟩ rfl (Le.tmp hp) (ok.tmp hp) _ (RD.newL ok hp (rds_texts _))⟩
    · cases ef
  | _ => cases ef
theorem m_find : M1Ok Z (fun x xs H Q => ∃ a b, x = .str a ∧ xs = [.str b] ∧ Q (.int (Txt.find a b)) H) fFind := fun s z e g u Q ok ru ef k => by
  cases e with
  | str b =>
    cases ef
    have ru : RD Z s (.str b) u := ru.flat
    cases ru
    exact ⟨z, b, rfl, rfl, k s rfl (Le.refl _) ok _ (.int _)⟩
  | _ => cases ef
theorem m_index : M1Ok Z (fun x xs H Q => ∃ a b i rest, x = .str a ∧ xs = [.str b] ∧ Builtin.Str.occurrences a b 0 a.length 1 = i :: rest ∧ Q (.int (i : Nat)) H) fIndex := fun s z e g u Q ok ru ef k => by
  cases e with
  | str b =>
    simp only [fIndex] at ef
    split at ef
    · rename_i i rest eo
      cases ef
      have ru : RD Z s (.str b) u := ru.flat
      cases ru
      exact ⟨z, b, i, rest, rfl, rfl, eo, k s rfl (Le.refl _) ok _ (.int _)⟩
    · cases ef
  | _ => cases ef
theorem m_join (hK : Z.K = X.K) : M1Ok Z (fun x xs H Q => ∃ a p, ∃ ys : List PySem.Str, x = .str a ∧ xs = [.ref p] ∧ (SqL X.K H p (ys.map V.str) ∨ SqT X.K H p (ys.map V.str)) ∧ (ys.map (·.length)).sum + ys.length * a.length ≤ 16777216 ∧ Q (.str (Txt.join a ys)) H) fJoin := fun s z e g u Q ok ru ef k => by
  unfold fJoin at ef
  cases es : seqOf s.h e with
  | none => rw [es] at ef; cases ef
  | some xs =>
    rw [es] at ef
    simp only [Option.bind_some] at ef
    cases et : textsOf xs with
    | none => rw [et] at ef; cases ef
    | some ys =>
      rw [et] at ef
      simp only [Option.bind_some] at ef
      split at ef
      · rename_i hh
        cases ef
        obtain ⟨a, vs, rfl, hq, rv⟩ := seq_at ok es ru
        have ev := textsOf_ok et rv
        subst ev
        rw [hK] at hq
        exact ⟨z, a, ys, rfl, rfl, hq, hh, k s rfl (Le.refl _) ok _ (.str _)⟩
      · cases ef
end
end Bh
/-! Bh, part 29: text.find(t, i). -/
namespace Bh
open PySem PySem.Spec PyProof.Rows L2
def bFind3 (a b d : DE) : DE := fun c σ h => (a c σ h).bind fun x h1 => match x with
  | .str z => (b c σ h1).bind fun y h2 => (d c σ h2).bind fun w h3 => match y, w with
    | .str t, .int i => .ok (.int (Txt.find3 z t i)) h3
    | _, _ => .bad
  | _ => .bad
section
variable {X : Cx} {Z : Sta} {s0 : S3} {W : WX} {c : Calls} {pos p apos : Pos}
theorem sd_find3 {o e g : Expr} {eo ee eg : DE} (ho : PE X o (tE Z W (eo c))) (he : PE X e (tE Z W (ee c))) (hg : PE X g (tE Z W (eg c)))
    (hs : starEach [e, g] X.env = [(false, eval e X.env), (false, eval g X.env)]) (hb : attributeBase o "find" X.env (eval o X.env) = eval o X.env) (hl : (apos.endLine == pos.line) = true) :
    PE X (.Call (.Attribute o "find" apos) [e, g] [] pos) (tE Z W (bFind3 eo ee eg c)) := ⟨fun pins sh σ H Q I t => by
  obtain ⟨s, σL, rfl, ok, rs, q⟩ := t
  refine PySem.Call_method2 hb hs hl (thn (ho.run pins sh σ s.H (fun v H1 => ∃ s1 z, s1.H = H1 ∧ Ok3 Z s1 ∧ RSt Z s1 σL σ ∧ v = .str z ∧ PostV Z s1 ((ee c σL s1.h).bind fun y h2 => (eg c σL h2).bind fun w h3 => match y, w with
    | .str t, .int i => .ok (.int (Txt.find3 z t i)) h3
    | _, _ => .bad) (QQ Z Q) (EE Z W σ)) I ⟨s, σL, rfl, ok, rs, q.bind.mono (fun d s1 l1 ok1 q1 v rv => ?_) fun _ _ _ _ _ q => q⟩) fun v s1 ⟨x, H1, I1, r1, s2, z, eh, ok2, rs2, ev, q2⟩ => ?_)
  · split at q1
    · rename_i z
      cases rv
      exact ⟨s1, z, rfl, ok1, rs.le ok l1, rfl, q1⟩
    · exact q1.elim
  · subst eh
    subst ev
    obtain ⟨t, rfl⟩ := _root_.id r1
    refine ⟨"str", _, F.plainAttrs_str, F.slot_str_find, F.type_str_find, typeIs_str _ _ _, (fun _ e => nomatch e), Calls.callWith_builtin rfl (Calls.evalArgs_plain (Calls.spliced_cons ?_))⟩
    refine thn (he.run pins s1 σ s2.H (fun v H1 => ∃ s3 d, s3.H = H1 ∧ Ok3 Z s3 ∧ RSt Z s3 σL σ ∧ RD Z s3 d v ∧ PostV Z s3 ((eg c σL s3.h).bind fun w h3 => match d, w with
      | .str t, .int i => .ok (.int (Txt.find3 z t i)) h3
      | _, _ => .bad) (QQ Z Q) (EE Z W σ)) I1 ⟨s2, σL, rfl, ok2, rs2, q2.bind.mono (fun d s3 l3 ok3 q3 v rv => ⟨s3, d, rfl, ok3, rs2.le ok2 l3, rv, q3⟩) fun _ _ _ _ _ q => q⟩) fun u s3 ⟨y, H3, I3, r3, s4, d, eh, ok4, rs4, rd4, q4⟩ => Calls.spliced_cons ?_
    subst eh
    refine thn (hg.run pins s3 σ s4.H (fun v H1 => ∃ s5 b i, s5.H = H1 ∧ Ok3 Z s5 ∧ y = .str b ∧ v = .int i ∧ PostV Z s5 (.ok (.int (Txt.find3 z b i)) s5.h) (QQ Z Q) (EE Z W σ)) I3 ⟨s4, σL, rfl, ok4, rs4, q4.bind.mono (fun w s5 l5 ok5 q5 v rv => ?_) fun _ _ _ _ _ q => q⟩) fun u2 s5 ⟨y2, H5, I5, r5, s6, b, i, eh, ok6, e1, e2, q6⟩ => ?_
    · split at q5
      · rename_i b i
        cases rv
        cases rd4
        exact ⟨s5, b, i, rfl, ok5, rfl, rfl, q5⟩
      · exact q5.elim
    · subst eh e1 e2
      exact Calls.spliced_nil (mt_find3 pins s5 σ s6.H _ [.str b, .int i] _ [u, u2] Q I5 r1 (.cons r3 (.cons r5 .nil)) ⟨z, b, i, rfl, rfl, q6 s6 rfl (Le.refl _) ok6 _ (.int _)⟩)⟩
end
end Bh
/-! Bh, part 30: comprehensions of two clauses. -/
namespace Bh
open PySem PySem.Spec PyProof.Rows L2
def lc2L (gs : List (Nat × LO)) (t : Tg) (q : DSt → LH → Out Bool) (src1 : DSt → LH → Out Src) (vs1 : List Nat) (t1 : Tg) (q1 : DSt → LH → Out Bool) (e : DSt → LH → Out D) (σ : DSt) : List D → List D → LH → Out (List D)
  | [], acc, h => if gdOk gs h = true then .ok acc h else .bad
  | x :: xs, acc, h => if gdOk gs h = true then match bindT t x σ with
      | some σ1 => match q σ1 h with
        | .ok b h1 => if b = true then match src1 σ1 h1 with
            | .ok r1 h2 => match lcL r1.2 t1 q1 e (wipeS σ1 vs1) r1.1 acc h2 with
              | .ok acc' h3 => lc2L gs t q src1 vs1 t1 q1 e σ xs acc' h3
              | _ => .bad
            | _ => .bad
          else lc2L gs t q src1 vs1 t1 q1 e σ xs acc h1
        | _ => .bad
      | none => .bad
    else .bad
def bLc2 (vs : List Nat) (t : Tg) (src : DI) (q : DT) (vs1 : List Nat) (t1 : Tg) (src1 : DI) (q1 : DT) (e : DE) : DEs := fun c σ h => (src c σ h).bind fun r h1 => lc2L r.2 t (q c) (src1 c) vs1 t1 (q1 c) (e c) (wipeS σ vs) r.1 [] h1
mutual
theorem bind_own : ∀ {t : Tg} {d : D} {σ σ' : DSt} {i : Nat} {sl : Sl}, bindT t d σ = some σ' → σ'[i]? = some sl → isOwn sl = true → σ[i]? = some sl
  | .nm j, d, σ, σ', i, sl, h, e, o => by
    simp only [bindT, Option.some.injEq] at h
    subst h
    rcases set_cases e with ⟨_, q, _⟩ | ⟨_, q⟩
    · subst q; cases o
    · exact q
  | .tp ts, d, σ, σ', i, sl, h, e, o => by
    cases d with
    | tup xs => exact binds_own (ts := ts) (xs := xs) h e o
    | lst xs => exact binds_own (ts := ts) (xs := xs) h e o
    | _ => cases h
theorem binds_own : ∀ {ts : List Tg} {xs : List D} {σ σ' : DSt} {i : Nat} {sl : Sl}, bindTs ts xs σ = some σ' → σ'[i]? = some sl → isOwn sl = true → σ[i]? = some sl
  | [], [], σ, σ', i, sl, h, e, o => by cases h; exact e
  | t :: ts, x :: xs, σ, σ', i, sl, h, e, o => by
    simp only [bindTs] at h
    split at h
    · rename_i σ2 e2
      exact bind_own e2 (binds_own h e o) o
    · cases h
  | [], _ :: _, _, _, _, _, h, _, _ => by cases h
  | _ :: _, [], _, _, _, _, h, _, _ => by cases h
end
theorem wipeS_own {σ : DSt} {i : Nat} {sl : Sl} : ∀ {vs : List Nat}, (wipeS σ vs)[i]? = some sl → isOwn sl = true → i ∉ vs ∧ σ[i]? = some sl
  | [], h, _ => ⟨by simp, h⟩
  | v :: vs, h, o => by
    unfold wipeS at h
    rcases set_cases h with ⟨_, q, _⟩ | ⟨ne, q⟩
    · subst q; cases o
    · obtain ⟨n, e⟩ := wipeS_own (vs := vs) q o
      refine ⟨fun m => ?_, e⟩
      rcases List.mem_cons.mp m with m | m
      · exact ne m.symm
      · exact n m
section
variable {X : Cx} {Z : Sta} {s0 : S3} {W : WX} {c : Calls} {pos p apos : Pos} {tg tg1 : Expr}
/-- the slots through a step that may change what stands at D -/
theorem RSt.led {s s' : S3} {σL : DSt} {σ : L2.St} {D : Addr} (rs : RSt Z s σL σ) (ok : Ok3 Z s) (hp : s.pr D) (nd : ∀ (i : Nat) (sl : Sl), σL[i]? = some sl → isOwn sl = true → σ[i]? ≠ some (some (V.ref D))) (l : LeD D s s') : RSt Z s' σL σ := ⟨rs.1, fun j sl h hn => by
  obtain ⟨v, e1, r⟩ := rs.2 j sl h hn
  refine ⟨v, e1, ?_⟩
  cases sl with
  | no => trivial
  | v d => exact RD.lq ok (l.lq hp) r
  | ol xs =>
    obtain ⟨b, e2, hb, ws, h3, q⟩ := r
    have ne : b ≠ D := fun z => nd j _ h rfl (by rw [e1, e2, z])
    exact ⟨b, e2, by rw [l.prs]; exact hb, ws, l.keep b _ h3 (ok.prd b hb).1 ne, RDs.lq ok (l.lq hp) q⟩
  | od xs =>
    obtain ⟨b, e2, hb, ws, h3, q⟩ := r
    have ne : b ≠ D := fun z => nd j _ h rfl (by rw [e1, e2, z])
    exact ⟨b, e2, by rw [l.prs]; exact hb, ws, l.keep b _ h3 (ok.prd b hb).1 ne, RDk.lq ok (l.lq hp) q⟩
  | ex c fs =>
    obtain ⟨b, cls, dd, e2, h3, x⟩ := r
    exact ⟨b, cls, dd, e2, h3, x.lq ok (l.lq hp)⟩⟩
theorem lc2_ok {vs vs1 : List Nat} {t t1 : Tg} {eq eq1 : DT} {ei1 : DI} {ee : DE} {J : It} {σL : DSt} {σ : L2.St} {s1 : S3} {items : List D} {gs : List (Nat × LO)} {Q : VK} {g : TG}
    (hg : ∀ v H R, tGP Z (PB Z vs (L2.wipe σ vs)) t v (L2.wipe σ vs) H R → g v (L2.wipe σ vs) H R) (ok1 : Ok3 Z s1) (rs : RSt Z s1 σL σ) (SO : SrcOk Z s1 J items (gdX gs))
    (p : PostV Z s1 (lc2L gs t (eq c) (ei1 c) vs1 t1 (eq1 c) (ee c) (wipeS σL vs) items [] s1.h) (fun ds s' => ∀ us, RDs Z s' ds us → ∀ p, s'.H p = none → Q (.ref p) (upd s'.H p (.lst us))) (EE Z W σ)) :
    ∀ D, s1.H D = none → ∃ Wf : Nat → Nat → Hp → Prop, (∃ m, Wf 0 m (upd s1.H D (.lst []))) ∧ ∀ i m H, Wf i m H →
      (J.stop i H ∧ Q (.ref D) H) ∨ (J.go i H ∧ ∃ Nx : Hp → Prop, (∀ H', Nx H' → ∃ m', m' < m ∧ Wf (i + 1) m' H') ∧ ∀ x H', J.yld i H x H' → g x (wipe σ vs) H' fun σ2 H2 => wipe σ2 vs = wipe σ vs ∧ tB_ Z W0 (eq c) σ2 H2 fun b H3 =>
        if b = true then tI Z W0 (ei1 c) σ2 H3 fun J1 H4 => ∃ W1 : Nat → Nat → Hp → Prop, (∃ m, W1 0 m H4) ∧ ∀ j k H, W1 j k H →
          (J1.stop j H ∧ Nx H) ∨ (J1.go j H ∧ ∃ Nx1 : Hp → Prop, (∀ H', Nx1 H' → ∃ k', k' < k ∧ W1 (j + 1) k' H') ∧ ∀ x H', J1.yld j H x H' → gB Z vs1 t1 x (wipe σ2 vs1) H' fun σ3 H5 => wipe σ3 vs1 = wipe σ2 vs1 ∧ tB_ Z W0 (eq1 c) σ3 H5 fun b H6 =>
            if b = true then tE Z W0 (ee c) σ3 H6 fun y H7 => ∃ acc, H7 D = some (.lst acc) ∧ acc.length < sizeLine ∧ Nx1 (upd H7 D (.lst (acc ++ [y]))) else Nx1 H6)
        else Nx H3) := by
  intro D hD
  have lN := Lq.newO (s := s1) (u := .lst []) hD
  have okN := ok1.newO (p := D) (u := .lst []) hD (.inl ⟨[], rfl⟩)
  let sN : S3 := ⟨s1.m, s1.h, upd s1.H D (.lst []), fun a => s1.pr a ∨ a = D, s1.xc⟩
  have prN : sN.pr D := .inr rfl
  -- the slots ahead of the block, with D there
  have ndσ : ∀ (i : Nat) (sl : Sl), σL[i]? = some sl → isOwn sl = true → σ[i]? ≠ some (some (V.ref D)) := fun i sl h o e => by
    obtain ⟨v, e1, r⟩ := rs.2 i sl h (fun z => by subst z; cases o)
    rw [e] at e1
    cases e1
    cases sl with
    | ol xs => obtain ⟨b, e2, hb, ws, h3, _⟩ := r; cases e2; rw [hD] at h3; cases h3
    | od xs => obtain ⟨b, e2, hb, ws, h3, _⟩ := r; cases e2; rw [hD] at h3; cases h3
    | _ => cases o
  have rsN : RSt Z sN σL σ := ⟨rs.1, fun j sl h hn => by
    obtain ⟨v, e1, r⟩ := rs.2 j sl h hn
    refine ⟨v, e1, ?_⟩
    cases sl with
    | no => trivial
    | v d => exact RD.lq ok1 lN r
    | ol xs => obtain ⟨b, e2, hb, ws, h3, q⟩ := r; exact ⟨b, e2, .inl hb, ws, (upd_ne (ne_of_none h3 hD)).trans h3, RDs.lq ok1 lN q⟩
    | od xs => obtain ⟨b, e2, hb, ws, h3, q⟩ := r; exact ⟨b, e2, .inl hb, ws, (upd_ne (ne_of_none h3 hD)).trans h3, RDk.lq ok1 lN q⟩
    | ex c fs => obtain ⟨b, cls, dd, e2, h3, x⟩ := r; exact ⟨b, cls, dd, e2, h3, x.lq ok1 lN⟩⟩
  let Fin : List Bh.D → S3 → Prop := fun ds s' => ∀ us, RDs Z s' ds us → ∀ p, s'.H p = none → Q (.ref p) (upd s'.H p (.lst us))
  let rest : List Bh.D → List Bh.D → LH → Out (List Bh.D) := fun xs acc h => lc2L gs t (eq c) (ei1 c) vs1 t1 (eq1 c) (ee c) (wipeS σL vs) xs acc h
  let At : Nat → Hp → Prop := fun i H => ∃ s acc us, s.H = H ∧ Ok3 Z s ∧ LeD D sN s ∧ s.H D = some (.lst us) ∧ RDs Z s acc us ∧ PostV Z s1 (rest (items.drop i) acc s.h) Fin (EE Z W σ)
  refine ⟨fun i m H => m = items.length - i ∧ i ≤ items.length ∧ At i H, ⟨items.length, rfl, Nat.zero_le _, sN, [], [], rfl, okN, LeD.refl D sN, upd_same, .nil, p⟩, ?_⟩
  rintro i m H ⟨rfl, hi, s, acc, us, rfl, ok, l, hDs, rA, pp⟩
  have lq1 : Lq s1 s := lN.trans (l.lq prN)
  cases hd : items[i]? with
  | none =>
    have hge : items.length ≤ i := by
      rcases Nat.lt_or_ge i items.length with h | h
      · rw [List.getElem?_eq_getElem h] at hd; cases hd
      · exact h
    have hi' : i = items.length := Nat.le_antisymm hi hge
    subst hi'
    rw [List.drop_length] at pp
    unfold rest lc2L at pp
    split at pp
    · rename_i hgd
      refine .inl ⟨SO.stop s lq1 ok hgd, ?_⟩
      have prS : s.pr D := by rw [l.prs]; exact prN
      have q := pp (s.forget D) rfl (Le.block hD ok1 l) (ok.forget prS) us (rA.lq ok (Lq.forget prS)) D (by show (if D = D then none else s.H D) = none; rw [if_pos rfl])
      rw [forget_upd hDs] at q
      exact q
    · exact pp.elim
  | some d =>
    have hlt : i < items.length := (List.getElem?_eq_some_iff.mp hd).1
    have hdrop : items.drop i = d :: items.drop (i + 1) := by
      rw [List.drop_eq_getElem_cons hlt]
      rw [List.getElem?_eq_getElem hlt] at hd
      cases hd
      rfl
    rw [hdrop] at pp
    unfold rest lc2L at pp
    split at pp
    · rename_i hgd
      obtain ⟨g1, g2⟩ := SO.go i d s lq1 ok hgd hd
      refine .inr ⟨g1, At (i + 1), fun H' n => ⟨items.length - (i + 1), by omega, rfl, hlt, n⟩, fun x H' hy => ?_⟩
      obtain ⟨s3, rfl, e3, l3, ok3, r3⟩ := g2 x H' hy
      split at pp
      · rename_i σ1 eb
        have l4 := l.trans (l3.d D)
        have prS3 : s3.pr D := by rw [l4.prs]; exact prN
        have rs3 : RSt Z s3 (wipeS σL vs) (wipe σ vs) := (rsN.led okN prN ndσ l4).wipe vs
        refine hg _ _ _ ⟨s3, wipeS σL vs, d, σ1, rfl, ok3, ⟨rs3, wipe_wipe⟩, r3, eb, fun σ2 pb => ?_⟩
        obtain ⟨rs4, hw⟩ := pb
        have nd1 : ∀ (i : Nat) (sl : Sl), σ1[i]? = some sl → isOwn sl = true → σ2[i]? ≠ some (some (V.ref D)) := fun i sl h o e => by
          obtain ⟨hn, h0⟩ := wipeS_own (bind_own eb h o) o
          refine ndσ i sl h0 o ?_
          rw [← wipe_out (σ := σ) hn, ← hw, wipe_out hn]
          exact e
        refine ⟨hw, s3, σ1, rfl, ok3, rs4, ?_⟩
        rw [e3]
        cases eo : eq c σ1 s.h with
        | ok b h1 =>
          rw [eo] at pp
          simp only at pp
          intro s5 e5 l5 ok5
          subst e5
          have l6 := l4.trans (l5.d D)
          have rA5 : RDs Z s5 acc us := (rA.le ok l3).le ok3 l5
          have prS5 : s5.pr D := by rw [l6.prs]; exact prN
          have hD5 : s5.H D = some (.lst us) := l5.keep D _ (l3.keep D _ hDs (ok.prd D (by rw [l.prs]; exact prN)).1) (ok3.prd D prS3).1
          have rs5 := rs4.le ok3 l5
          cases b with
          | true =>
            rw [if_pos rfl]
            rw [if_pos rfl] at pp
            refine ⟨s5, σ1, rfl, ok5, rs5, ?_⟩
            cases es1 : ei1 c σ1 s5.h with
            | ok r1 h2 =>
              rw [es1] at pp
              simp only at pp
              obtain ⟨items1, gs1⟩ := r1
              intro s6 e6 l7 ok6 J1 SO1
              subst e6
              have l8 := l6.trans (l7.d D)
              have prS6 : s6.pr D := by rw [l8.prs]; exact prN
              have hD6 : s6.H D = some (.lst us) := l7.keep D _ hD5 (ok5.prd D prS5).1
              have rA6 := rA5.le ok5 l7
              have rs6 := rs5.le ok5 l7
              let Cont : Out (List Bh.D) → Prop := fun o => match o with
                | .ok acc' h3 => PostV Z s1 (rest (items.drop (i + 1)) acc' h3) Fin (EE Z W σ)
                | _ => False
              have cont0 : Cont (lcL gs1 t1 (eq1 c) (ee c) (wipeS σ1 vs1) items1 acc s6.h) := by
                show match lcL gs1 t1 (eq1 c) (ee c) (wipeS σ1 vs1) items1 acc s6.h with
                  | .ok acc' h3 => PostV Z s1 (rest (items.drop (i + 1)) acc' h3) Fin (EE Z W σ)
                  | _ => False
                cases el : lcL gs1 t1 (eq1 c) (ee c) (wipeS σ1 vs1) items1 acc s6.h with
                | ok acc' h3 => rw [el] at pp; exact pp
                | ex _ _ _ => rw [el] at pp; exact pp.elim
                | bad => rw [el] at pp; exact pp.elim
              let At1 : Nat → Hp → Prop := fun j H => ∃ s acc us, s.H = H ∧ Ok3 Z s ∧ LeD D s6 s ∧ s.H D = some (.lst us) ∧ RDs Z s acc us ∧ Cont (lcL gs1 t1 (eq1 c) (ee c) (wipeS σ1 vs1) (items1.drop j) acc s.h)
              refine ⟨fun j k H => k = items1.length - j ∧ j ≤ items1.length ∧ At1 j H, ⟨items1.length, rfl, Nat.zero_le _, s6, acc, us, rfl, ok6, LeD.refl D s6, hD6, rA6, cont0⟩, ?_⟩
              rintro j k H ⟨rfl, hj, s, acc, us, rfl, ok, la, hDs, rA, pp1⟩
              have lqa : Lq s6 s := la.lq prS6
              have prS : s.pr D := by rw [la.prs]; exact prS6
              cases hd1 : items1[j]? with
              | none =>
                have hge : items1.length ≤ j := by
                  rcases Nat.lt_or_ge j items1.length with h | h
                  · rw [List.getElem?_eq_getElem h] at hd1; cases hd1
                  · exact h
                have hj' : j = items1.length := Nat.le_antisymm hj hge
                subst hj'
                rw [List.drop_length] at pp1
                unfold lcL at pp1
                split at pp1
                · rename_i hgd1
                  exact .inl ⟨SO1.stop s lqa ok hgd1, s, acc, us, rfl, ok, l8.trans la, hDs, rA, pp1⟩
                · exact pp1.elim
              | some d1 =>
                have hlt1 : j < items1.length := (List.getElem?_eq_some_iff.mp hd1).1
                have hdrop1 : items1.drop j = d1 :: items1.drop (j + 1) := by
                  rw [List.drop_eq_getElem_cons hlt1]
                  rw [List.getElem?_eq_getElem hlt1] at hd1
                  cases hd1
                  rfl
                rw [hdrop1] at pp1
                unfold lcL at pp1
                split at pp1
                · rename_i hgd1
                  obtain ⟨k1, k2⟩ := SO1.go j d1 s lqa ok hgd1 hd1
                  refine .inr ⟨k1, At1 (j + 1), fun H' n => ⟨items1.length - (j + 1), by omega, rfl, hlt1, n⟩, fun x H' hy => ?_⟩
                  obtain ⟨s3', rfl, e3', l3', ok3', r3'⟩ := k2 x H' hy
                  split at pp1
                  · rename_i σ3 eb1
                    have lb := la.trans (l3'.d D)
                    have prb : s3'.pr D := by rw [lb.prs]; exact prS6
                    have rsb : RSt Z s3' (wipeS σ1 vs1) (wipe σ2 vs1) := (rs6.led ok6 prS6 nd1 lb).wipe vs1
                    show tGP Z (PB Z vs1 (L2.wipe (L2.wipe σ2 vs1) vs1)) t1 x (L2.wipe σ2 vs1) s3'.H _
                    rw [wipe_wipe]
                    refine ⟨s3', wipeS σ1 vs1, d1, σ3, rfl, ok3', ⟨rsb, wipe_wipe⟩, r3', eb1, fun σ4 pb => ?_⟩
                    obtain ⟨rs7, hw1⟩ := pb
                    refine ⟨hw1, s3', σ3, rfl, ok3', rs7, ?_⟩
                    rw [e3']
                    cases eo1 : eq1 c σ3 s.h with
                    | ok b h1 =>
                      rw [eo1] at pp1
                      simp only at pp1
                      intro s8 e8 l9 ok8
                      subst e8
                      have lc_ := lb.trans (l9.d D)
                      have rA8 : RDs Z s8 acc us := (rA.le ok l3').le ok3' l9
                      have hD8 : s8.H D = some (.lst us) := l9.keep D _ (l3'.keep D _ hDs (ok.prd D prS).1) (ok3'.prd D prb).1
                      cases b with
                      | true =>
                        rw [if_pos rfl]
                        rw [if_pos rfl] at pp1
                        refine ⟨s8, σ3, rfl, ok8, rs7.le ok3' l9, ?_⟩
                        cases ee2 : ee c σ3 s8.h with
                        | ok y h2 =>
                          rw [ee2] at pp1
                          simp only at pp1
                          intro s9 e9 l10 ok9 w rw'
                          subst e9
                          split at pp1
                          · rename_i hl
                            have ld := lc_.trans (l10.d D)
                            have prS9 : s9.pr D := by rw [ld.prs]; exact prS6
                            have hD9 : s9.H D = some (.lst us) := l10.keep D _ hD8 (ok8.prd D (by rw [lc_.prs]; exact prS6)).1
                            have rA9 := rA8.le ok8 l10
                            have lO := Lq.own (u := .lst (us ++ [w])) prS9
                            refine ⟨us, hD9, by rw [lim_eq, ← rA9.length]; exact hl, ⟨s9.m, s9.h, upd s9.H D (.lst (us ++ [w])), s9.pr, s9.xc⟩, acc ++ [y], us ++ [w], rfl, ok9.own prS9 (.inl ⟨_, rfl⟩), ?_, upd_same, (rA9.app (.cons rw' .nil)).lq ok9 lO, pp1⟩
                            exact ld.trans ⟨⟨[], by simp⟩, fun a o h n ne => (upd_ne ne).trans h, fun a q => .inl q, rfl, rfl, upd_dom⟩
                          · exact pp1.elim
                        | ex _ _ _ => rw [ee2] at pp1; exact pp1.elim
                        | bad => rw [ee2] at pp1; exact pp1.elim
                      | false =>
                        rw [if_neg (by decide)]
                        rw [if_neg (by decide)] at pp1
                        exact ⟨s8, acc, us, rfl, ok8, lc_, hD8, rA8, pp1⟩
                    | ex _ _ _ => rw [eo1] at pp1; exact pp1.elim
                    | bad => rw [eo1] at pp1; exact pp1.elim
                  · exact pp1.elim
                · exact pp1.elim
            | ex _ _ _ => rw [es1] at pp; exact pp.elim
            | bad => rw [es1] at pp; exact pp.elim
          | false =>
            rw [if_neg (by decide)]
            rw [if_neg (by decide)] at pp
            exact ⟨s5, acc, us, rfl, ok5, l6, hD5, rA5, pp⟩
        | ex _ _ _ => rw [eo] at pp; exact pp.elim
        | bad => rw [eo] at pp; exact pp.elim
      · exact pp.elim
    · exact pp.elim
end
end Bh
/-! Bh, part 31: comprehensions of two clauses, as values and in assignments. -/
namespace Bh
open PySem PySem.Spec PyProof.Rows L2
section
variable {X : Cx} {Z : Sta} {s0 : S3} {W : WX} {c : Calls} {pos p apos : Pos} {tg tg1 : Expr}
theorem sn_lc2 {elt iter iter1 : Expr} {ifs ifs1 : List Expr} {scope : Scope} {own : List (PySem.Str × Nat)} {vs1 : List Nat} {t t1 : Tg} {ei ei1 : DI} {eq eq1 : DT} {ee : DE} (hc : X.calm = true) (hN : X.N.Nodup) (hi : PI X tg iter (tI Z W (ei c))) (ok : BlkOk X.N X.env.scope scope own) (hv : ∀ i ∈ vs1, i ∈ own.map (·.2))
    (hg : ∀ s H C cl fp σ0, PG (Blk X scope s H C cl fp) tg (tGP Z (PB Z (own.map (·.2)) σ0) t)) (ht : ∀ s H C cl fp, PTs (Blk X scope s H C cl fp) ifs (tB_ Z W0 (eq c)))
    (hi1 : ∀ s H C cl fp, PI (Blk X scope s H C cl fp) tg1 iter1 (tI Z W0 (ei1 c))) (hg1 : ∀ s H C cl fp σ0, PG (Blk X scope s H C cl fp) tg1 (tGP Z (PB Z vs1 σ0) t1)) (ht1 : ∀ s H C cl fp, PTs (Blk X scope s H C cl fp) ifs1 (tB_ Z W0 (eq1 c)))
    (he : ∀ s H C cl fp, PE (Blk X scope s H C cl fp) elt (tE Z W0 (ee c))) (hs : ∀ x, foldedSetIterable iter X.env x = pure x) (hs1 : ∀ env x, foldedSetIterable iter1 env x = pure x) :
    PE X (.ListComp elt [⟨tg, iter, ifs, 0⟩, ⟨tg1, iter1, ifs1, 0⟩] scope pos) (tN Z W (bLc2 (own.map (·.2)) t ei eq vs1 t1 ei1 eq1 ee c)) := by
  refine (pe_lc2 hc hN hi ok hv (fun s H C cl fp => gB_ok (hg s H C cl fp)) ht hi1 (fun s H C cl fp => gB_ok (hg1 s H C cl fp)) ht1 he hs hs1).imp fun σ H Q q => ?_
  obtain ⟨s, σL, e1, ok1, rs, p⟩ := q
  refine ⟨s, σL, e1, ok1, rs, p.bind.mono (fun r s1 l1 ok1' q1 J SO => ?_) fun _ _ _ _ _ q => q⟩
  exact lc2_ok (g := gB Z (own.map (·.2)) t) (fun v H R h => by show tGP Z (PB Z _ (L2.wipe (L2.wipe σ _) _)) t v (L2.wipe σ _) H R; rw [wipe_wipe]; exact h) ok1' (rs.le ok1 l1) SO q1
theorem ss_lc2S {i : Nat} {y : PySem.Str} {py : Pos} {elt iter iter1 : Expr} {ifs ifs1 : List Expr} {scope : Scope} {own : List (PySem.Str × Nat)} {vs1 : List Nat} {t t1 : Tg} {ei ei1 : DI} {eq eq1 : DT} {ee : DE} {spos : Pos} (hc : X.calm = true) (hN : X.N.Nodup) (hy : X.N[i]? = some y) (hyl : X.env.scope.names.lookup y = some .local)
    (hsw : swapsWith (.ListComp elt [⟨tg, iter, ifs, 0⟩, ⟨tg1, iter1, ifs1, 0⟩] scope pos) (some (.Name y py)) spos.line X.env = pure true) (hi : PI X tg iter (tI Z W (ei c))) (ok : BlkOk X.N X.env.scope scope own) (hv : ∀ i ∈ vs1, i ∈ own.map (·.2))
    (hg : ∀ s H C cl fp σ0, PG (Blk X scope s H C cl fp) tg (tGP Z (PB Z (own.map (·.2)) σ0) t)) (ht : ∀ s H C cl fp, PTs (Blk X scope s H C cl fp) ifs (tB_ Z W0 (eq c)))
    (hi1 : ∀ s H C cl fp, PI (Blk X scope s H C cl fp) tg1 iter1 (tI Z W0 (ei1 c))) (hg1 : ∀ s H C cl fp σ0, PG (Blk X scope s H C cl fp) tg1 (tGP Z (PB Z vs1 σ0) t1)) (ht1 : ∀ s H C cl fp, PTs (Blk X scope s H C cl fp) ifs1 (tB_ Z W0 (eq1 c)))
    (he : ∀ s H C cl fp, PE (Blk X scope s H C cl fp) elt (tE Z W0 (ee c))) (hs : ∀ x, foldedSetIterable iter X.env x = pure x) (hs1 : ∀ env x, foldedSetIterable iter1 env x = pure x) :
    PS X (.Assign [.Name y py] (.ListComp elt [⟨tg, iter, ifs, 0⟩, ⟨tg1, iter1, ifs1, 0⟩] scope pos) spos) (tAsg (tN Z W (bLc2 (own.map (·.2)) t ei eq vs1 t1 ei1 eq1 ee c)) (gName i)) := by
  refine (ps_setLc2 hc hN hy hyl hsw hi ok hv (fun s H C cl fp => gB_ok (hg s H C cl fp)) ht hi1 (fun s H C cl fp => gB_ok (hg1 s H C cl fp)) ht1 he hs hs1).imp fun D σ H q => ?_
  obtain ⟨s, σL, e1, ok1, rs, p⟩ := q
  refine ⟨s, σL, e1, ok1, rs, p.bind.mono (fun r s1 l1 ok1' q1 J SO => ?_) fun _ _ _ _ _ q => q⟩
  exact lc2_ok (Q := fun x H1 => gName i x σ H1 D.nx) (g := gB Z (own.map (·.2)) t) (fun v H R h => by show tGP Z (PB Z _ (L2.wipe (L2.wipe σ _) _)) t v (L2.wipe σ _) H R; rw [wipe_wipe]; exact h) ok1' (rs.le ok1 l1) SO q1
end
end Bh
/-! Bh, part 32: range with a step; int of a text. -/
namespace Bh
open PySem PySem.Spec PyProof.Rows L2
def stepL (lo k : Int) : Nat → List D
  | 0 => []
  | n + 1 => .int lo :: stepL (lo + k) k n
theorem stepL_len : ∀ (n : Nat) (lo k : Int), (stepL lo k n).length = n
  | 0, _, _ => rfl
  | n + 1, lo, k => by rw [stepL, List.length_cons, stepL_len n]
theorem stepL_get : ∀ (n : Nat) (lo k : Int) (i : Nat) (d : D), (stepL lo k n)[i]? = some d → i < n ∧ d = .int (lo + (i : Nat) * k)
  | 0, _, _, _, _, h => by cases h
  | n + 1, lo, k, 0, d, h => by
    simp [stepL] at h
    subst h
    exact ⟨Nat.succ_pos _, by simp⟩
  | n + 1, lo, k, i + 1, d, h => by
    rw [stepL, List.getElem?_cons_succ] at h
    obtain ⟨h1, h2⟩ := stepL_get n (lo + k) k i d h
    refine ⟨by omega, ?_⟩
    rw [h2]
    congr 1
    push_cast
    rw [Int.add_mul]
    omega
/-- range(i, j, k) -/
def bRng3 (er : DEs) : DI := fun c σ h => (er c σ h).bind fun ds h1 => match ds with
  | [.int i, .int j, .int k] => if k ≠ 0 ∧ k.natAbs < 1073741824 ∧ Builtin.Range.small i j k = true ∧ 0 ≤ Builtin.Range.rangeSize i j k then .ok (stepL i k (Builtin.Range.rangeSize i j k).toNat, []) h1 else .bad
  | _ => .bad
/-- int(x), of a text too -/
def intT : D → Option D
  | .str x => if x.length ≤ 640 then (PySem.intText? x).map .int else none
  | d => intD d
section
variable {X : Cx} {Z : Sta} {s0 : S3} {W : WX} {c : Calls} {pos p apos : Pos} {tg : Expr}
theorem src_step {s1 : S3} {lo k : Int} {n : Nat} : SrcOk Z s1 (Itc lo k n) (stepL lo k n) (gdX []) where
  go := fun i d s l ok g hd => by
    obtain ⟨h1, rfl⟩ := stepL_get n lo k i d hd
    exact ⟨h1, fun x H' hy => ⟨s, hy.1.symm, rfl, Le.refl _, ok, by rw [hy.2]; exact .int _⟩⟩
  stop := fun s l ok g => by
    rw [stepL_len]
    exact Nat.le_refl n
theorem si_rng3 {a b d : Expr} {er : DEs} (hg : Gl X "range") (hm : X.mg "range" = none) (ha : PA X [a, b, d] (tEs Z W (er c))) (hs : starEach [a, b, d] X.env = (false, eval a X.env) :: starEach [b, d] X.env) (hpl : (backTo pos (starEach [b, d] X.env)).any (·.1) = false) :
    PI X tg (.Call (.Name "range" p) [a, b, d] [] pos) (tI Z W (bRng3 er c)) :=
  (pi_range3 hg hm ha hs hpl).imp fun σ H R t => by
    obtain ⟨s, σL, e1, ok, rs, q⟩ := t
    refine ⟨s, σL, e1, ok, rs, q.bind.mono (fun ds s1 l1 ok1 q1 vs rv => ?_) fun _ _ _ _ _ q => q⟩
    split at q1
    · rename_i i j k
      split at q1
      · rename_i hh
        cases rv with
        | cons r1 rv =>
          cases rv with
          | cons r2 rv =>
            cases rv with
            | cons r3 rv =>
              cases rv
              cases r1
              cases r2
              cases r3
              exact ⟨i, j, k, _, rfl, ⟨hh.1, hh.2.1, hh.2.2.1, (Int.toNat_of_nonneg hh.2.2.2).symm⟩, q1 s1 rfl (Le.refl _) ok1 _ src_step⟩
      · exact q1.elim
    · exact q1.elim
theorem cr_intT : CallR X (.type "int") (rB1 Z fun _ d => intT d) := by
  intro pins s σ H xs us Q I rx h
  obtain ⟨x, s3, d, r, rfl, rfl, ok, rd, hf, k⟩ := h
  have go : intD d = some r → wpAny (model X.prog X.w) X.A (call (.type "int") us) (EP X pins σ Q) X.xe s := fun hf => cr_int (Z := Z) pins s σ _ _ us Q I rx ⟨x, s3, d, r, rfl, rfl, ok, rd, hf, k⟩
  cases d with
  | str z =>
    have hf : (if z.length ≤ 640 then (PySem.intText? z).map Bh.D.int else none) = some r := hf
    split at hf
    · rename_i hl
      cases e : PySem.intText? z with
      | none => rw [e] at hf; cases hf
      | some n =>
        rw [e] at hf
        cases hf
        have rd : RD Z s3 (.str z) x := rd.flat
        cases rd
        exact call_int_str pins s σ _ _ us Q I rx ⟨z, n, rfl, e, hl, k s3 rfl (Le.refl _) ok _ (.int _)⟩
    · cases hf
  | non => exact go hf
  | bl _ => exact go hf
  | int _ => exact go hf
  | tup _ => exact go hf
  | lst _ => exact go hf
  | dic _ => exact go hf
  | ref _ => exact go hf
  | fn _ => exact go hf
end
end Bh
/-! Bh, part 33: a def of the text keeps what the evaluator says. -/
namespace Bh
open PySem PySem.Spec PyProof.Rows L2
def startS (n : Nat) (ds : List D) : DSt := ds.map .v ++ List.replicate (n - ds.length) .no
def runS (n : Nat) (ev : DSt → LH → OutS) (ds : List D) (h : LH) : Out D := match ev (startS n ds) h with
  | .nx _ h' => .ok .non h'
  | .rt d h' => .ok d h'
  | .ex k fs _ h' => .ex k fs h'
  | _ => .bad
section
variable {Z : Sta}
/-- what is left behind a def: its own lists are nobody's -/
def S3.out (s s0 : S3) : S3 := ⟨s.m, s.h, s.H, s0.pr, s0.xc⟩
theorem out_lq {s0 s : S3} (fr : Fr s0 s) : Lq s (s.out s0) := ⟨⟨[], by simp [S3.out]⟩, fun a o h _ => h, fun a q => by
  rcases q with q | q
  · exact .inl (.inl q)
  · exact .inl (.inr (fr.pr1 a q))⟩
theorem out_le {s0 s : S3} (fr : Fr s0 s) : Le s0 (s.out s0) := ⟨fr.pre, fr.keep, fr.new, rfl, rfl, fr.dom⟩
theorem out_ok {s0 s : S3} (ok : Ok3 Z s) (fr : Fr s0 s) : Ok3 Z (s.out s0) := by
  refine ⟨ok.len, ok.inj, fun i o ho => ?_, fun a ha => ok.prd a (fr.pr1 a ha)⟩
  obtain ⟨b, hb, r⟩ := ok.ob i o ho
  exact ⟨b, hb, r.lq ok (out_lq fr) fun _ => rfl⟩
theorem rst_start {s : S3} {N : List PySem.Str} : ∀ {ds : List D} {vs : List V}, RDs Z s ds vs → RSt Z s (startS N.length ds) (start N vs) := fun {ds vs} r => by
  have hl := r.length
  refine ⟨by simp [startS, L2.start, hl], fun i sl h hn => ?_⟩
  unfold startS at h
  by_cases hi : i < ds.length
  · rw [List.getElem?_append_left (by simpa using hi), List.getElem?_map] at h
    rw [List.getElem?_eq_getElem hi] at h
    cases h
    obtain ⟨v, hv, rv⟩ := r.get (List.getElem?_eq_getElem hi)
    refine ⟨v, ?_, rv⟩
    unfold L2.start
    rw [List.getElem?_append_left (by simpa [← hl] using hi), List.getElem?_map, hv]
    rfl
  · rw [List.getElem?_append_right (by simpa using Nat.le_of_not_lt hi)] at h
    have e := List.eq_of_mem_replicate (List.mem_of_getElem? h)
    exact absurd e hn
theorem startS_own {n : Nat} {ds : List D} {i : Nat} {sl : Sl} (h : (startS n ds)[i]? = some sl) (o : isOwn sl = true) : False := by
  unfold startS at h
  by_cases hi : i < ds.length
  · rw [List.getElem?_append_left (by simpa using hi), List.getElem?_map, List.getElem?_eq_getElem hi] at h
    cases h
    cases o
  · rw [List.getElem?_append_right (by simpa using Nat.le_of_not_lt hi)] at h
    have e := List.eq_of_mem_replicate (List.mem_of_getElem? h)
    subst e
    cases o
theorem lc_start {s : S3} (ok : Ok3 Z s) {N : List PySem.Str} {ds : List D} {vs : List V} (r : RDs Z s ds vs) : Lc Z s s (startS N.length ds) (start N vs) :=
  ⟨rst_start r, Fr.refl ok, fun i sl a h o _ => (startS_own h o).elim, fun i j sl sl' a h o _ _ _ _ => (startS_own h o).elim⟩
section
variable {P : Program} {w : World} {K : PySem.W.Frag} {mg : PySem.Str → Option Value} {base : Heap} {x qual : PySem.Str} {params : Arguments} {body : List Stmt} {scope : Scope} {f : Addr} {fd : FuncData} {N ps : List PySem.Str} {k n : Nat} {c c' : Calls}
abbrev Xof (P : Program) (w : World) (K : PySem.W.Frag) (mg : PySem.Str → Option Value) (base : Heap) (N : List PySem.Str) (qual : PySem.Str) (scope : Scope) (f : Addr) (cdv : Value) (A : Around) (outer : List Env) (s : Shared) (H : Hp) (E : XK) : Cx := cxOf (L2.CX P w) P w K mg base N qual scope f cdv A outer s H E
/-- THE RULE of a def, by its body -/
theorem fn_body {ev : DS} {dvs : List V} {kws : List (PySem.Str × V)} (F : FunD K x qual params body scope dvs kws f fd) (S : FnScope N ps scope) (hc : ∀ ds h, ds.length = ps.length → c' n ds h = runS N.length (ev c) ds h)
    (hb : ∀ (cdv : Value) (A : Around) (outer : List Env) (s : Shared) (H : Hp) (E : XK) (s0 : S3), Room k (A.deeper (envOfC qual scope s.heap.objs.size f cdv)) → PSs (Xof P w K mg base N qual scope f cdv A outer s H E) body (tS Z s0 (fun cls d _ H' => E cls d H') (ev c))) :
    FnOk P w K mg base (L2.CX P w) (k + 1) f fd ps (spF Z c' n ps.length) := by
  refine F.ok S (fun vs H Q E h => ?_) fun cdv A outer s H vs Q E hr h => ?_
  · obtain ⟨s, ds, _, _, r, hl, _⟩ := h
    rw [← r.length]
    exact hl
  · obtain ⟨s3, ds, rfl, ok, r, hl, p⟩ := h
    rw [hc ds s3.h hl] at p
    refine ⟨_, hb cdv A outer s s3.H E s3 hr, s3, startS N.length ds, rfl, ok, lc_start ok r, ?_⟩
    unfold runS at p
    cases e : ev c (startS N.length ds) s3.h with
    | nx σL h' =>
      rw [e] at p
      intro s' σ' e1 _ _ ok' lc'
      exact p (s'.out s3) e1 (out_le lc'.fr) (out_ok ok' lc'.fr) _ .non
    | rt d h' =>
      rw [e] at p
      intro s' v e1 ok' fr rv
      exact p (s'.out s3) e1 (out_le fr) (out_ok ok' fr) _ (rv.lq ok' (out_lq fr))
    | ex cc fs σL h' =>
      rw [e] at p
      intro s' σ' cls dd e1 _ _ ok' lc' xd
      exact p (s'.out s3) e1 (out_le lc'.fr) (out_ok ok' lc'.fr) cls dd (xd.lq ok' (out_lq lc'.fr))
    | bk _ _ => rw [e] at p; exact p.elim
    | ct _ _ => rw [e] at p; exact p.elim
    | bad => rw [e] at p; exact p.elim
theorem takes_x {cdv : Value} {A : Around} {outer : List Env} {s : Shared} {H : Hp} {E : XK} : Takes (Xof P w K mg base N qual scope f cdv A outer s H E) (fun cls d _ H' => E cls d H') := takes_of rfl rfl rfl rfl
theorem passes_x {cdv : Value} {A : Around} {outer : List Env} {s : Shared} {H : Hp} {E : XK} : PassesOwn (model P w) (Xof P w K mg base N qual scope f cdv A outer s H E).A (Xof P w K mg base N qual scope f cdv A outer s H E).env (Xof P w K mg base N qual scope f cdv A outer s H E).xe :=
  passes_of (X := Xof P w K mg base N qual scope f cdv A outer s H E) (K := fun e s'' => L2.CX P w outer H s E e s'') rfl
end
end
end Bh
/-! Bh, part 34: all defs of a program, by the depth of calls. -/
namespace Bh
open PySem PySem.Spec PyProof.Rows L2
/-- the defs: slots, parameters, body -/
abbrev Prog := Nat → Option (Nat × Nat × DS)
def Cf (p : Prog) : Nat → Calls
  | 0 => fun _ _ _ => .bad
  | k + 1 => fun n ds h => match p n with
    | some (N, _, ev) => runS N (ev (Cf p k)) ds h
    | none => .bad
section
variable {Z : Sta} {P : Program} {w : World} {K : PySem.W.Frag} {mg : PySem.Str → Option Value} {base : Heap}
/-- a def's entry, with what its calls may go to -/
structure DefC (P : Program) (w : World) (K : PySem.W.Frag) (mg : PySem.Str → Option Value) (base : Heap) (Z : Sta) (c : Calls) (lev n ar : Nat) : Prop where
  ok : ∃ fd ps, ps.length = ar ∧ FnOk P w K mg base (L2.CX P w) lev (Z.fa n) fd ps (spF Z c n ar) ∧ Binds K fd ps []
  kp : PySem.W.keepIn K (.ref (Z.fa n)) = true
theorem DefC.of {X : Cx} {c : Calls} {lev n ar : Nat} (D : DefC X.prog X.w X.K X.mg X.base Z c lev n ar) : DefOk X Z c lev n ar := ⟨D.ok, D.kp⟩
/-- one def's text, found behind the top -/
structure TextOk (P : Program) (w : World) (K : PySem.W.Frag) (mg : PySem.Str → Option Value) (base : Heap) (Z : Sta) (p : Prog) (n : Nat) : Prop where
  ex : ∀ N ar ev, p n = some (N, ar, ev) → ∃ (x qual : PySem.Str) (params : Arguments) (body : List Stmt) (scope : Scope) (fd : FuncData) (Ns ps : List PySem.Str), FunD K x qual params body scope [] [] (Z.fa n) fd ∧ FnScope Ns ps scope ∧ Ns.length = N ∧ ps.length = ar ∧ Binds K fd ps [] ∧
    ∀ (c : Calls) (lev : Nat), 2 ≤ lev → (∀ m N' ar' ev', p m = some (N', ar', ev') → DefC P w K mg base Z c lev m ar') →
      ∀ (cdv : Value) (A : Around) (outer : List Env) (s : Shared) (H : Hp) (E : XK) (s0 : S3), Room (lev + 1) (A.deeper (envOfC qual scope s.heap.objs.size (Z.fa n) cdv)) → PSs (Xof P w K mg base Ns qual scope (Z.fa n) cdv A outer s H E) body (tS Z s0 (fun cls d _ H' => E cls d H') (ev c))
  kp : ∀ q, p n = some q → PySem.W.keepIn K (.ref (Z.fa n)) = true
theorem all_ok {p : Prog} (T : ∀ n, TextOk P w K mg base Z p n) : ∀ k n N ar ev, p n = some (N, ar, ev) → DefC P w K mg base Z (Cf p k) (2 * k + 2) n ar
  | 0, n, N, ar, ev, e => by
    obtain ⟨x, qual, params, body, scope, fd, Ns, ps, F, S, h1, h2, hb, _⟩ := (T n).ex N ar ev e
    refine ⟨⟨fd, ps, h2, ⟨fun vs H Q E h => ?_, fun A outer s H args us vs Q E _ _ _ _ h => ?_⟩, hb⟩, (T n).kp _ e⟩
    · obtain ⟨s, ds, _, _, r, hl, _⟩ := h
      rw [← r.length, hl, h2]
    · obtain ⟨s, ds, _, _, _, _, z⟩ := h
      exact z.elim
  | k + 1, n, N, ar, ev, e => by
    obtain ⟨x, qual, params, body, scope, fd, Ns, ps, F, S, h1, h2, hb, hbody⟩ := (T n).ex N ar ev e
    subst h1 h2
    refine ⟨⟨fd, ps, rfl, fn_body (k := 2 * k + 3) (c := Cf p k) (c' := Cf p (k + 1)) F S (fun ds h _ => ?_) (fun cdv A outer s H E s0 hr => hbody (Cf p k) (2 * k + 2) (by omega) (fun m N' ar' ev' e' => all_ok T k m N' ar' ev' e') cdv A outer s H E s0 hr), hb⟩, (T n).kp _ e⟩
    show (match p n with
      | some (N, _, ev) => runS N (ev (Cf p k)) ds h
      | none => .bad) = _
    rw [e]
end
end Bh
/-! Bh, part 35: the rules with their side conditions filled in. -/
namespace Bh
open PySem PySem.Spec PyProof.Rows L2
/-- what all rules ask of a context -/
structure Ct (X : Cx) (Z : Sta) (W : WX) : Prop where
  hK : Z.K = X.K
  hu : X.A.units + 65 < cLine
  tk : Takes X W
  hN : X.N.Nodup
def noTup : Expr → Bool
  | .Tuple .. => false
  | _ => true
theorem stores_val2 {t : Expr} {e : Expr} {env : Env} (h : noTup e = true) : swappedStores [t] e env = pure none := by
  cases t <;> cases e <;> first | rfl | cases h
/-- an own exception, told apart from a context -/
structure ExP (P : Program) (w : World) (K : PySem.W.Frag) (mg : PySem.Str → Option Value) (base : Heap) (Z : Sta) (lev k n : Nat) : Prop where
  T : OexC K (Z.ca k)
  ini : ∃ fI D fd ps fs, PySem.W.findIn K (.ref (Z.ca k)) "__init__" = some (some (.ref fI)) ∧ PySem.W.typeIn K (.ref fI) = some (.type "function") ∧ FnOk P w K mg base (L2.CX P w) lev fI fd ps (spSup K D n fs) ∧ Binds K fd ps [] ∧ SupC K (Z.ca k) D ∧
    (∀ ws : List V, ws.length = n → ∀ p ∈ fs ws, PySem.W.findIn K (.ref (Z.ca k)) p.1 = some none) ∧ (∀ ws : List V, ws.length = n → ∀ (i : Nat) (f : PySem.Str), (Z.xf k)[i]? = some f → (fs ws).lookup f = ws[i]?)
theorem ExP.of {X : Cx} {Z : Sta} {lev k n : Nat} (h : ExP X.prog X.w X.K X.mg X.base Z lev k n) : ExOk X Z lev k n := ⟨h.T, h.ini⟩
theorem names_g {X : Cx} {x : PySem.Str} {c : Value} (hg : Gl X x) (hd : (x == ("__debug__" : PySem.Str)) = false) (hm : X.mg x = some c) : Names X x c := ⟨hg, hd, .inl hm⟩
theorem units_of {A : Around} {k : Nat} (r : Room k A) : A.units + 65 < cLine := by have := r.un; omega
section
variable {X : Cx} {Z : Sta} {s0 : S3} {W : WX} {c : Calls} {pos p p2 : Pos}
theorem takes_no {X : Cx} : Takes X W0 := fun u s' ⟨_, _, _, _, _, _, _, _, _, _, _, _, _, _, _, _, w⟩ => w.elim
theorem Ct.blk (C : Ct X Z W) {scope : Scope} (s : Shared) (H : Hp) (Ca : Addr) (cl : List (PySem.Str × Addr)) (fp : List Addr) : Ct (Blk X scope s H Ca cl fp) Z W0 := ⟨C.hK, C.hu, takes_no, C.hN⟩
theorem Ct.tr (C : Ct X Z W) {W' : WX} {pn : List (Addr × Obj)} {xe : Value → Shared → Prop} (tk : Takes (X.tr pn xe) W') : Ct (X.tr pn xe) Z W' := ⟨C.hK, C.hu, tk, C.hN⟩
theorem Ct.suite (C : Ct X Z W) (a : Addr) (pn : List (Addr × Obj)) (q : Option (Addr × Value × Option Addr)) : Ct (X.suite a pn) (Z.wx q) W0 := ⟨C.hK, C.hu, takes_no, C.hN⟩
theorem wVar (C : Ct X Z W) (i : Nat) {x : PySem.Str} (hN : X.N[i]? = some x := by rfl) (hv : Vis X.env.scope x := by first | exact .inl rfl | exact .inr (.inl rfl) | exact .inr (.inr rfl)) (hd : (x == ("__debug__" : PySem.Str)) = false := by rfl) (hcd : (x == ("__classdict__" : PySem.Str)) = false := by rfl) : PE X (.Name x pos) (tE Z W (bVar i c)) := sd_var hN hv hd hcd
theorem wVarO (C : Ct X Z W) (i : Nat) {x : PySem.Str} (hN : X.N[i]? = some x := by rfl) (hv : Vis X.env.scope x := by first | exact .inl rfl | exact .inr (.inl rfl) | exact .inr (.inr rfl)) (hd : (x == ("__debug__" : PySem.Str)) = false := by rfl) (hcd : (x == ("__classdict__" : PySem.Str)) = false := by rfl) : PE X (.Name x pos) (tO Z W (bVarO i c)) := so_var hN hv hd hcd
theorem wGlI (C : Ct X Z W) {x : PySem.Str} {i : Int} (m : ∃ t, X.mg x = some (.int i t)) (hg : Gl X x := by rfl) (hd : (x == ("__debug__" : PySem.Str)) = false := by rfl) : PE X (.Name x pos) (tE Z W (bLit (.int i) c)) := by
  obtain ⟨t, m⟩ := m
  exact sd_glob (v := .int i) hg m ⟨t, rfl⟩ (fun _ => .int i) hd
theorem wGlS (C : Ct X Z W) {x z : PySem.Str} (m : ∃ t, X.mg x = some (.str z t)) (hg : Gl X x := by rfl) (hd : (x == ("__debug__" : PySem.Str)) = false := by rfl) : PE X (.Name x pos) (tE Z W (bLit (.str z) c)) := by
  obtain ⟨t, m⟩ := m
  exact sd_glob (v := .str z) hg m ⟨t, rfl⟩ (fun _ => .str z) hd
theorem wGlD (C : Ct X Z W) {x : PySem.Str} {d : D} (m : ∃ a, X.mg x = some (.ref a) ∧ ∀ s, RD Z s d (.ref a)) (hg : Gl X x := by rfl) (hd : (x == ("__debug__" : PySem.Str)) = false := by rfl) : PE X (.Name x pos) (tE Z W (bLit d c)) := by
  obtain ⟨a, m, r⟩ := m
  exact sd_glob (v := .ref a) hg m rfl r hd
theorem wBin (C : Ct X Z W) {op : Operator} {a b : Expr} {ea eb : DE} (ha : PE X a (tO Z W (ea c))) (hb : PE X b (tO Z W (eb c))) (hop : opOk op = true := by rfl) : PE X (.BinOp a op b pos) (tE Z W (bBinW op ea eb c)) := sd_binW C.hK hop ha hb
theorem wNeg (C : Ct X Z W) {a : Expr} {ea : DE} (ha : PE X a (tE Z W (ea c))) : PE X (.UnaryOp .USub a pos) (tE Z W (bNeg ea c)) := sd_neg ha
theorem wCmp (C : Ct X Z W) {op : CmpOp} {a b : Expr} {ea eb : DE} (ha : PE X a (tO Z W (ea c))) (hb : PE X b (tO Z W (eb c))) (h : noSet b = true := by rfl) : PE X (.Compare a [op] [b] pos) (tE Z W (bBl (bCmp op ea eb) c)) := sd_cmp C.hK C.hu (behind_ok h) ha hb
theorem wCmpT (C : Ct X Z W) {op : CmpOp} {a b : Expr} {ea eb : DE} (ha : PE X a (tO Z W (ea c))) (hb : PE X b (tO Z W (eb c))) (h : noSet b = true := by rfl) : PT X (.Compare a [op] [b] pos) (tB_ Z W (bCmp op ea eb c)) := st_cmp C.hK C.hu (behind_ok h) ha hb
theorem wCh (C : Ct X Z W) {o1 o2 : CmpOp} {a b d : Expr} {ea eb ed : DE} (ha : PE X a (tO Z W (ea c))) (hb : PE X b (tO Z W (eb c))) (hd : PE X d (tO Z W (ed c))) (h : noSet d = true := by rfl) : PE X (.Compare a [o1, o2] [b, d] pos) (tE Z W (bBl (bChain o1 o2 ea eb ed) c)) := sd_chain C.hK C.hu (last_ok h) ha hb hd
theorem wChT (C : Ct X Z W) {o1 o2 : CmpOp} {a b d : Expr} {ea eb ed : DE} (ha : PE X a (tO Z W (ea c))) (hb : PE X b (tO Z W (eb c))) (hd : PE X d (tO Z W (ed c))) (h : noSet d = true := by rfl) : PT X (.Compare a [o1, o2] [b, d] pos) (tB_ Z W (bChain o1 o2 ea eb ed c)) := st_chain C.hK C.hu (last_ok h) ha hb hd
theorem wTru (C : Ct X Z W) {a : Expr} {ea : DE} (ha : PE X a (tO Z W (ea c))) (h : plainT a = true := by rfl) : PT X a (tB_ Z W (bTru ea c)) := st_tru C.hK ha (true_plain h)
theorem wNot (C : Ct X Z W) {a : Expr} {ea : DT} (ha : PT X a (tB_ Z W (ea c))) : PT X (.UnaryOp .Not a pos) (tB_ Z W (bNotT ea c)) := st_not ha
theorem wNotV (C : Ct X Z W) {a : Expr} {ea : DE} (ha : PE X a (tE Z W (ea c))) : PE X (.UnaryOp .Not a pos) (tE Z W (bNotV ea c)) := sd_notV C.hK ha
theorem wOrV (C : Ct X Z W) {a b : Expr} {r : List Expr} {ea eb : DE} (ha : PE X a (tE Z W (ea c))) (hb : PE X (.BoolOp .Or (b :: r) pos) (tE Z W (eb c))) : PE X (.BoolOp .Or (a :: b :: r) pos) (tE Z W (bOrV ea eb c)) := sd_orV C.hK ha hb
theorem wAndV (C : Ct X Z W) {a b : Expr} {r : List Expr} {ea eb : DE} (ha : PE X a (tE Z W (ea c))) (hb : PE X (.BoolOp .And (b :: r) pos) (tE Z W (eb c))) : PE X (.BoolOp .And (a :: b :: r) pos) (tE Z W (bAndV ea eb c)) := sd_andV C.hK ha hb
theorem wNil : PA X [] (tEs Z W (bNil c)) := sa_nil
theorem wCons {a : Expr} {r : List Expr} {ea : DE} {er : DEs} (ha : PE X a (tE Z W (ea c))) (hr : PA X r (tEs Z W (er c))) (h : plainE a = true := by rfl) : PA X (a :: r) (tEs Z W (bCons ea er c)) := sa_cons (star_cons h) ha hr
theorem wTup {es : List Expr} {k : Nat} {er : DEs} {n : Nat} (hn : Ln n er) (hr : PA X es (tEs Z W (er c))) (hl : n ≤ 1000 := by decide) : PE X (.Tuple es k pos) (tE Z W (bTup er c)) := sd_tup hn hl hr
theorem wLst {es : List Expr} {er : DEs} {n : Nat} (hn : Ln n er) (hr : PA X es (tEs Z W (er c))) (hl : n ≤ 1000 := by decide) : PE X (.List es pos) (tN Z W (er c)) := sn_lst hn hl hr
theorem wIx (C : Ct X Z W) {a b : Expr} {ea eb : DE} (ha : PE X a (tO Z W (ea c))) (hb : PE X b (tO Z W (eb c))) (h : plainE b = true := by rfl) : PE X (.Subscript a b pos) (tE Z W (bIx ea eb c)) := sd_ix C.hK C.hu (ix_plain h) ha hb
theorem wSl (C : Ct X Z W) {a : Expr} {lo hi : Option Expr} {ea : DE} {el eh : DO} {p2 : Pos} (ha : PE X a (tO Z W (ea c))) (hl : PO X lo (tPO Z W (el c))) (hh : PO X hi (tPO Z W (eh c))) : PE X (.Subscript a (.Slice lo hi none p2) pos) (tE Z W (bSlice ea el eh c)) := sd_slice C.hK ha hl hh
theorem wB1 (C : Ct X Z W) {x : PySem.Str} {id : String} {a : Expr} {f : LH → D → Option D} {ea : DE} (hb : CallR X (.builtin id) (rB1 Z f)) (hm : X.mg x = none) (ha : PE X a (tO Z W (ea c))) (hg : Gl X x := by rfl) (hv : bootBuiltins x = some (.builtin id) := by rfl) (hn : x ≠ "__name__" := by decide) (hdb : (x == ("__debug__" : PySem.Str)) = false := by rfl)
    (he : plainE a = true := by rfl) : PE X (.Call (.Name x p) [a] [] pos) (tE Z W (bB1 f ea c)) := sd_b1 hb hg hm hv hn hdb (star_cons he) rfl ha
theorem wT1 (C : Ct X Z W) {x : PySem.Str} {id : String} {a : Expr} {f : LH → D → Option D} {ea : DE} (hb : CallR X (.type id) (rB1 Z f)) (hm : X.mg x = none) (ha : PE X a (tO Z W (ea c))) (hg : Gl X x := by rfl) (hv : bootBuiltins x = some (.type id) := by rfl) (hn : x ≠ "__name__" := by decide) (hdb : (x == ("__debug__" : PySem.Str)) = false := by rfl)
    (he : plainE a = true := by rfl) : PE X (.Call (.Name x p) [a] [] pos) (tE Z W (bB1 f ea c)) := sd_t1 hb hg hm hv hn hdb (star_cons he) rfl ha
theorem wB2 (C : Ct X Z W) {x : PySem.Str} {id : String} {a b : Expr} {f : LH → D → D → Option D} {ea eb : DE} (hb : CallR X (.builtin id) (rB2 Z f)) (hm : X.mg x = none) (ha : PE X a (tO Z W (ea c))) (hbb : PE X b (tO Z W (eb c))) (hg : Gl X x := by rfl) (hv : bootBuiltins x = some (.builtin id) := by rfl) (hn : x ≠ "__name__" := by decide) (hdb : (x == ("__debug__" : PySem.Str)) = false := by rfl)
    (he : plainE a = true := by rfl) (he2 : plainE b = true := by rfl) : PE X (.Call (.Name x p) [a, b] [] pos) (tE Z W (bB2 f ea eb c)) := sd_b2 hb hg hm hv hn hdb (star_cons he) (star_cons he2) (star_any (by rw [List.all_cons, he2]; rfl)) ha hbb
theorem wIsi (C : Ct X Z W) {x y : PySem.Str} {a : Expr} {ea : DE} (t : Ty) (hm : X.mg x = none) (hm2 : X.mg y = none) (ha : PE X a (tO Z W (ea c))) (hg : Gl X x := by rfl) (hv : bootBuiltins x = some (.builtin "isinstance") := by rfl) (hn : x ≠ "__name__" := by decide) (hdb : (x == ("__debug__" : PySem.Str)) = false := by rfl)
    (hg2 : Gl X y := by rfl) (hv2 : bootBuiltins y = some (.type (tyS t)) := by rfl) (hn2 : y ≠ "__name__" := by decide) (hdb2 : (y == ("__debug__" : PySem.Str)) = false := by rfl) (he : plainE a = true := by rfl) :
    PE X (.Call (.Name x p) [a, .Name y p2] [] pos) (tE Z W (bB1 (fun _ d => isD t d) ea c)) := sd_isi C.hK hg hm hv hn hdb hg2 hm2 hv2 hn2 hdb2 (star_cons he) rfl rfl ha
theorem wCall (C : Ct X Z W) {lev n ar : Nat} (hr : Room (lev + 1) X.A) {x : PySem.Str} {e : Expr} {es : List Expr} {er : DEs} (F : DefOk X Z c lev n ar) (hm : X.mg x = some (.ref (Z.fa n))) (hn : Ln ar er) (ha : PA X (e :: es) (tEs Z W (er c)))
    (hg : Gl X x := by rfl) (hdb : (x == ("__debug__" : PySem.Str)) = false := by rfl) (he : (e :: es).all plainE = true := by rfl) : PE X (.Call (.Name x p) (e :: es) [] pos) (tE Z W (bCall n er c)) := by
  have h := he
  rw [List.all_cons, Bool.and_eq_true] at h
  exact sd_call F (hr.mono (Nat.le_succ _)) hg hm C.tk hn ha hdb (star_cons h.1) (star_any h.2)
theorem wCall0 (C : Ct X Z W) {lev n : Nat} (hr : Room (lev + 1) X.A) {x : PySem.Str} (F : DefOk X Z c lev n 0) (hm : X.mg x = some (.ref (Z.fa n))) (hg : Gl X x := by rfl) (hdb : (x == ("__debug__" : PySem.Str)) = false := by rfl) : PE X (.Call (.Name x p) [] [] pos) (tE Z W (bCall n bNil c)) :=
  sd_call0 F (hr.mono (Nat.le_succ _)) hg hm C.tk hdb
theorem wRaise (C : Ct X Z W) {lev k n : Nat} (hr : Room (lev + 1) X.A) {x : PySem.Str} {e : Expr} {es : List Expr} {er : DEs} {apos : Pos} (M : ExOk X Z lev k n) (hm : X.mg x = some (.ref (Z.ca k))) (hn : Ln n er) (ha : PA X (e :: es) (tEs Z W (er c))) (hc : X.calm = true := by rfl) (hn1 : n ≤ 1000 := by decide)
    (hg : Gl X x := by rfl) (hdb : (x == ("__debug__" : PySem.Str)) = false := by rfl) (he : (e :: es).all plainE = true := by rfl) : PS X (.Raise (some (.Call (.Name x apos) (e :: es) [] p)) none pos) (tS Z s0 W (bRaise k er c)) := by
  have h := he
  rw [List.all_cons, Bool.and_eq_true] at h
  exact ss_raise hc C.tk M hr hg hm hn hn1 ha hdb (star_cons h.1) (star_any h.2)
/-! ### statements -/
theorem wSet (C : Ct X Z W) (i : Nat) {x : PySem.Str} {e : Expr} {ee : DE} (he : PE X e (tE Z W (ee c))) (hi : X.N[i]? = some x := by rfl) (hx : Loc X.env.scope x := by first | exact .inl rfl | exact .inr rfl) (hs : noComp e = true := by rfl) (hf : X.fn x = true ∨ X.env.scope.names.lookup x = some .local := by first | exact .inl rfl | exact .inr rfl) : PS X (.Assign [.Name x p] e pos) (tS Z s0 W (bSet i ee c)) := ss_set C.hN hi hx he (swaps_no hs) hf
theorem wSetL (C : Ct X Z W) (i : Nat) {x : PySem.Str} {e : Expr} {er : DEs} (he : PE X e (tN Z W (er c))) (hi : X.N[i]? = some x := by rfl) (hx : Loc X.env.scope x := by first | exact .inl rfl | exact .inr rfl) (hs : noComp e = true := by rfl) (hf : X.fn x = true ∨ X.env.scope.names.lookup x = some .local := by first | exact .inl rfl | exact .inr rfl) : PS X (.Assign [.Name x p] e pos) (tS Z s0 W (bSetL i er c)) := ss_setL C.hN hi hx he (swaps_no hs) hf
theorem wEx (C : Ct X Z W) {e : Expr} {ee : DE} (he : PE X e (tE Z W (ee c))) (hs : noComp e = true := by rfl) : PS X (.Expr e pos) (tS Z s0 W (bEx ee c)) := ss_expr he (swaps_no hs)
theorem wAppO (C : Ct X Z W) (i : Nat) {x : PySem.Str} {e : Expr} {ee : DE} {apos : Pos} (he : PE X e (tE Z W (ee c))) (hN : X.N[i]? = some x := by rfl) (hv : Vis X.env.scope x := by first | exact .inl rfl | exact .inr (.inl rfl) | exact .inr (.inr rfl)) (hd : (x == ("__debug__" : PySem.Str)) = false := by rfl) (hcd : (x == ("__classdict__" : PySem.Str)) = false := by rfl) (hx : plainE e = true := by rfl) (hl : (apos.endLine == p.line) = true := by rfl) :
    PS X (.Expr (.Call (.Attribute (.Name x pos) "append" apos) [e] [] p) p) (tS Z s0 W (bAppO i ee c)) := ss_appO hN hv hd hcd hx hl he
theorem wAppR (C : Ct X Z W) {o e : Expr} {eo ee : DE} {apos : Pos} (ho : PE X o (tE Z W (eo c))) (he : PE X e (tE Z W (ee c))) (hb : plainB o = true := by rfl) (hx : plainE e = true := by rfl) (hl : (apos.endLine == pos.line) = true := by rfl) : PE X (.Call (.Attribute o "append" apos) [e] [] pos) (tE Z W (bAppR eo ee c)) := sd_appR hb hx hl ho he
theorem wSetIx (C : Ct X Z W) {o i e : Expr} {eo ei ee : DE} (ho : PE X o (tE Z W (eo c))) (hix : PE X i (tO Z W (ei c))) (he : PE X e (tE Z W (ee c))) (hi : plainE i = true := by rfl) (hs : noComp e = true := by rfl) : PS X (.Assign [.Subscript o i p] e pos) (tS Z s0 W (bSetIx eo ei ee c)) := ss_setIx C.hu hi hs ho hix he
theorem wgN (C : Ct X Z W) (i : Nat) {x : PySem.Str} (hi : X.N[i]? = some x := by rfl) (hx : Loc X.env.scope x := by first | exact .inl rfl | exact .inr rfl) (hf : X.fn x = true ∨ X.env.scope.names.lookup x = some .local := by first | exact .inl rfl | exact .inr rfl) : PG X (.Name x p) (tG Z s0 (.nm i)) := sg_name C.hN hi hx hf
theorem wgB (C : Ct X Z W) (i : Nat) {σ0 : L2.St} {vs : List Nat} {x : PySem.Str} (hm : i ∈ vs := by decide) (hi : X.N[i]? = some x := by rfl) (hx : Loc X.env.scope x := by first | exact .inl rfl | exact .inr rfl) (hf : X.fn x = true ∨ X.env.scope.names.lookup x = some .local := by first | exact .inl rfl | exact .inr rfl) : PG X (.Name x p) (tGP Z (PB Z vs σ0) (.nm i)) := sg_nameP (fun s σL σ d v h r => ⟨h.1.set (d := .v d) r i, by rw [wipe_set hm]; exact h.2⟩) C.hN hi hx hf
theorem wAsgG (C : Ct X Z W) {tg e : Expr} {t : Tg} {ee : DE} (hg : PG X tg (tG Z s0 t)) (he : PE X e (tE Z W (ee c))) (hs : noComp e = true := by rfl) (hw : noTup e = true := by rfl) (h1 : plainE tg = true := by rfl) : PS X (.Assign [tg] e pos) (tS Z s0 W (bAsgG t ee c)) := ss_asgG hg he (swaps_sole hs) (stores_val2 hw) (asg_each h1)
theorem wFor (C : Ct X Z W) {tg iter : Expr} {body : List Stmt} {t : Tg} {ei : DI} {eb : DS} (hp : PassesOwn (model X.prog X.w) X.A X.env X.xe) (hi : PI X tg iter (tI Z W (ei c))) (hg : PG X tg (tG Z s0 t)) (hb : PSs X body (tS Z s0 W (eb c))) (hc : X.calm = true := by rfl) (hs : noSet iter = true := by rfl) :
    PS X (.For tg iter body [] pos) (tS Z s0 W (bFor t ei eb c)) := ss_for hp hc (folded_ok hs) hi hg hb
theorem wPar {i j : Nat} (C : Ct X Z W) {x y : PySem.Str} {a b : Expr} {px py pt p2 : Pos} {kt k2 : Nat} {er : DEs} (hn : Ln 2 er) (ha : PA X [a, b] (tEs Z W (er c))) (hw : swappedStores [.Tuple [.Name x px, .Name y py] kt pt] (.Tuple [a, b] k2 p2) X.env = pure (some [x, y]) := by rw [sw_eq]; rfl) (hc : X.calm = true := by rfl) (hi : X.N[i]? = some x := by rfl) (hj : X.N[j]? = some y := by rfl) (hij : i ≠ j := by decide) (hx : X.env.scope.names.lookup x = some .local := by rfl) (hy : X.env.scope.names.lookup y = some .local := by rfl) :
    PS X (.Assign [.Tuple [.Name x px, .Name y py] kt pt] (.Tuple [a, b] k2 p2) pos) (tS Z s0 W (bPar [i, j] er c)) := ss_par hc C.hN hi hj hij hx hy hn ha hw
theorem wPar3 {i j l : Nat} (C : Ct X Z W) {x y z : PySem.Str} {a b d : Expr} {px py pz pt p2 : Pos} {kt k2 : Nat} {er : DEs} (hn : Ln 3 er) (ha : PA X [a, b, d] (tEs Z W (er c))) (hw : swappedStores [.Tuple [.Name x px, .Name y py, .Name z pz] kt pt] (.Tuple [a, b, d] k2 p2) X.env = pure (some [x, y, z]) := by rw [sw_eq]; rfl) (hc : X.calm = true := by rfl) (hi : X.N[i]? = some x := by rfl) (hj : X.N[j]? = some y := by rfl) (hl : X.N[l]? = some z := by rfl) (hij : i ≠ j := by decide) (hil : i ≠ l := by decide) (hjl : j ≠ l := by decide) (hx : X.env.scope.names.lookup x = some .local := by rfl) (hy : X.env.scope.names.lookup y = some .local := by rfl) (hz : X.env.scope.names.lookup z = some .local := by rfl) :
    PS X (.Assign [.Tuple [.Name x px, .Name y py, .Name z pz] kt pt] (.Tuple [a, b, d] k2 p2) pos) (tS Z s0 W (bPar [i, j, l] er c)) := ss_par3 hc C.hN hi hj hl hij hil hjl hx hy hz hn ha hw
theorem wAug (C : Ct X Z W) (i : Nat) {x : PySem.Str} {e : Expr} {op : Operator} {ee : DE} (he : PE X e (tE Z W (ee c))) (hi : X.N[i]? = some x := by rfl) (hx : Loc X.env.scope x := by first | exact .inl rfl | exact .inr rfl) (hf : X.fn x = true ∨ X.env.scope.names.lookup x = some .local := by first | exact .inl rfl | exact .inr rfl) : PS X (.AugAssign (.Name x p) op e pos) (tS Z s0 W (bAug i op ee c)) := ss_aug C.hN hi hx he hf
/-! ### what a for goes through -/
theorem wI1 (C : Ct X Z W) {tg a : Expr} {ea : DE} (hm : X.mg "range" = none) (ha : PE X a (tE Z W (ea c))) (hg : Gl X "range" := by rfl) (he : plainE a = true := by rfl) : PI X tg (.Call (.Name "range" p) [a] [] pos) (tI Z W (bRng1 ea c)) := si_rng1 hg hm (star_cons he) ha
theorem wI2 (C : Ct X Z W) {tg a b : Expr} {ea eb : DE} (hm : X.mg "range" = none) (ha : PE X a (tE Z W (ea c))) (hb : PE X b (tE Z W (eb c))) (hg : Gl X "range" := by rfl) (he : plainE a = true := by rfl) (he2 : plainE b = true := by rfl) : PI X tg (.Call (.Name "range" p) [a, b] [] pos) (tI Z W (bRng2 ea eb c)) := si_rng2 hg hm (by rw [star_cons he, star_cons he2]; rfl) (star_cons he2) ha hb
theorem wI3 (C : Ct X Z W) {tg a b d : Expr} {er : DEs} (hm : X.mg "range" = none) (ha : PA X [a, b, d] (tEs Z W (er c))) (hg : Gl X "range" := by rfl) (he : plainE a = true := by rfl) (he2 : [b, d].all plainE = true := by rfl) : PI X tg (.Call (.Name "range" p) [a, b, d] [] pos) (tI Z W (bRng3 er c)) := si_rng3 hg hm ha (star_cons he) (star_any he2)
theorem wIz (C : Ct X Z W) {e e2 : Expr} {elts : List Expr} {kk : Nat} {er : DEs} {tpos : Pos} (hm : X.mg "zip" = none) (ha : PA X [e, e2] (tEs Z W (er c))) (hg : Gl X "zip" := by rfl) (he : plainE e = true := by rfl) (he2 : [e2].all plainE = true := by rfl) : PI X (.Tuple elts kk tpos) (.Call (.Name "zip" p) [e, e2] [] pos) (tI Z W (bZip er c)) := si_zip C.hK hg hm ha (star_cons he) (star_any he2)
theorem wIe (C : Ct X Z W) {e : Expr} {elts : List Expr} {kk : Nat} {er : DEs} {tpos : Pos} (hm : X.mg "enumerate" = none) (ha : PA X [e] (tEs Z W (er c))) (hg : Gl X "enumerate" := by rfl) (he : plainE e = true := by rfl) : PI X (.Tuple elts kk tpos) (.Call (.Name "enumerate" p) [e] [] pos) (tI Z W (bEnum er c)) := si_enum C.hK hg hm ha (star_cons he)
theorem wIs (C : Ct X Z W) {tg e : Expr} {ee : DE} (he : PE X e (tE Z W (ee c))) : PI X tg e (tI Z W (bIterW ee c)) := si_seqW C.hK he
theorem wListN (C : Ct X Z W) {x : PySem.Str} {a : Expr} {ea : DE} (hm : X.mg x = none) (ha : PE X a (tE Z W (ea c))) (hg : Gl X x := by rfl) (hv : bootBuiltins x = some (.type "list") := by rfl) (hn : x ≠ "__name__" := by decide) (hdb : (x == ("__debug__" : PySem.Str)) = false := by rfl) (he : plainE a = true := by rfl) : PE X (.Call (.Name x p) [a] [] pos) (tN Z W (bLs ea c)) := sn_list C.hK hg hm hv hn hdb (star_cons he) ha
theorem wPts1 {a : Expr} {q : DT} (h : PT X a (tB_ Z W (q c))) : PTs X [a] (tB_ Z W (q c)) := pts_one h
end
end Bh
namespace Bh
open PySem PySem.Spec PyProof.Rows L2
def bInR (x : DE) (er : DEs) : DT := fun c σ h => (x c σ h).bind fun d h1 => (er c σ h1).bind fun ds h2 => match d, ds with
  | .int v, [.int a, .int b] => if rngOk a = true ∧ rngOk b = true then .ok (decide (a ≤ v ∧ v < b)) h2 else .bad
  | _, _ => .bad
section
variable {X : Cx} {Z : Sta} {s0 : S3} {W : WX} {c : Calls} {pos p p2 : Pos}
theorem wInRT (C : Ct X Z W) {e a b : Expr} {ea : DE} {er : DEs} (hm : X.mg "range" = none) (hx : PE X e (tE Z W (ea c))) (ha : PA X [a, b] (tEs Z W (er c))) (hg : Gl X "range" := by rfl) (he : plainE a = true := by rfl) (he2 : [b].all plainE = true := by rfl) : PT X (.Compare e [.In] [.Call (.Name "range" p) [a, b] [] p2] pos) (tB_ Z W (bInR ea er c)) := by
  refine (pt_cmpR op_in_rng hx (pe_callTy cr_range2 hg hm rfl ha (by decide) rfl (star_cons he) (star_any he2)) rfl).imp fun σ H Q t => ?_
  obtain ⟨s, σL, e1, ok, rs, q⟩ := t
  refine ⟨s, σL, e1, ok, rs, q.bind.mono (fun d s1 l1 ok1 q1 v rv => ?_) fun _ _ _ _ _ q => q⟩
  refine ⟨s1, σL, rfl, ok1, rs.le ok l1, (PostV.bind (o := er c σL s1.h) q1).mono (fun ds s2 l2 ok2 q2 vs rvs => ?_) fun _ _ _ _ _ q => q⟩
  split at q2
  · rename_i v a b
    split at q2
    · cases rv
      cases rvs with
      | cons r1 rr =>
        cases rr with
        | cons r2 rr =>
          cases rr
          cases r1; cases r2
          refine ⟨a, b, rfl, fun pp hp => ⟨v, pp, a, b, rfl, rfl, upd_same, _, rfl, ?_⟩⟩
          have l := Le.tmp (o := .rng a b) hp
          exact q2 ⟨s2.m, s2.h, upd s2.H pp (.rng a b), s2.pr, s2.xc⟩ rfl l (ok2.tmp hp)
    · exact q2.elim
  · exact q2.elim
theorem wInR (C : Ct X Z W) {e a b : Expr} {ea : DE} {er : DEs} (hm : X.mg "range" = none) (hx : PE X e (tE Z W (ea c))) (ha : PA X [a, b] (tEs Z W (er c))) (hg : Gl X "range" := by rfl) (he : plainE a = true := by rfl) (he2 : [b].all plainE = true := by rfl) : PE X (.Compare e [.In] [.Call (.Name "range" p) [a, b] [] p2] pos) (tE Z W (bBl (bInR ea er) c)) := by
  refine (pe_cmpR op_in_rng hx (pe_callTy cr_range2 hg hm rfl ha (by decide) rfl (star_cons he) (star_any he2)) rfl).imp fun σ H Q t => ?_
  obtain ⟨s, σL, e1, ok, rs, q⟩ := t
  have q := q.bind
  unfold bInR at q
  refine ⟨s, σL, e1, ok, rs, q.bind.mono (fun d s1 l1 ok1 q1 v rv => ?_) fun _ _ _ _ _ q => q⟩
  refine ⟨s1, σL, rfl, ok1, rs.le ok l1, (PostV.bind (o := er c σL s1.h) q1).mono (fun ds s2 l2 ok2 q2 vs rvs => ?_) fun _ _ _ _ _ q => q⟩
  split at q2
  · rename_i v a b
    split at q2
    · cases rv
      cases rvs with
      | cons r1 rr =>
        cases rr with
        | cons r2 rr =>
          cases rr
          cases r1; cases r2
          refine ⟨a, b, rfl, fun pp hp => ⟨v, pp, a, b, rfl, rfl, upd_same, ?_⟩⟩
          have l := Le.tmp (o := .rng a b) hp
          exact q2 ⟨s2.m, s2.h, upd s2.H pp (.rng a b), s2.pr, s2.xc⟩ rfl l (ok2.tmp hp) ⟨s2.m, s2.h, upd s2.H pp (.rng a b), s2.pr, s2.xc⟩ rfl (Le.refl _) (ok2.tmp hp) _ (.bl _)
    · exact q2.elim
  · exact q2.elim
end
end Bh
namespace Bh
open PySem PySem.Spec PyProof.Rows L2
def okSort (ps : List PyData) : Bool := (ps.all fun d => ps.all fun e => PySem.W.alike d e) && ((ps.all fun d => match d with | .tuple (_ :: _) => true | _ => false) || ps.all fun d => match d with | .none => false | .tuple _ => false | _ => true)
def sortD (h : LH) (d : D) : Option D := (lstOf h d).bind fun xs => (mapO (toP h 30) xs).bind fun ps => if okSort ps = true then some (.lst (((xs.zip ps).mergeSort (PySem.W.dataLe false (·.2))).map (·.1))) else none
theorem okSort_ok {ps : List PyData} (h : okSort ps = true) : PySem.W.AllAlike ps ∧ PySem.W.Sortable ps := by
  unfold okSort at h
  rw [Bool.and_eq_true, Bool.or_eq_true] at h
  obtain ⟨h1, h2⟩ := h
  refine ⟨fun d hd e he => List.all_eq_true.mp (List.all_eq_true.mp h1 d hd) e he, ?_⟩
  rcases h2 with h2 | h2
  · refine .inl fun d hd => ?_
    have z := List.all_eq_true.mp h2 d hd
    split at z
    · exact ⟨_, _, rfl⟩
    · cases z
  · refine .inr fun d hd => ?_
    have z := List.all_eq_true.mp h2 d hd
    split at z
    · cases z
    · cases z
    · rename_i h3 h4
      exact ⟨h3, h4⟩
theorem mapO_len {α β : Type} {f : α → Option β} : ∀ {xs : List α} {ys : List β}, mapO f xs = some ys → ys.length = xs.length
  | [], _, h => by cases h; rfl
  | x :: xs, _, h => by
    simp only [mapO] at h
    cases e1 : f x with
    | none => rw [e1] at h; cases h
    | some y =>
      rw [e1] at h
      cases e2 : mapO f xs with
      | none => rw [e2] at h; cases h
      | some ys => rw [e2] at h; cases h; rw [List.length_cons, List.length_cons, mapO_len e2]
section
variable {X : Cx} {Z : Sta} {s0 : S3} {W : WX} {c : Calls} {pos p p2 : Pos}
theorem each_of {s : S3} {pins : List (Addr × Obj)} {σ : L2.St} {sh : Shared} (hK : Z.K = X.K) (ok : Ok3 Z s) (I : L2.Inv X pins σ s.H sh) : ∀ {xs : List D} {ps : List PyData} {vs : List V} {us : List Value}, mapO (toP s.h 30) xs = some ps → RDs Z s xs vs → Vals vs us →
    PySem.W.EachIs (fun u (b : D × PyData) => ∃ v, RelV v u ∧ RD Z s b.1 v) us (xs.zip ps) ∧ PySem.W.EachIs (fun u (b : D × PyData) => ∃ as, Reads sh.heap u b.2 as) us (xs.zip ps) ∧ ∀ b ∈ xs.zip ps, b.2.depth ≤ 30
  | [], _, _, _, h, r, rv => by cases h; cases r; cases rv; exact ⟨.nil, .nil, fun b hb => by simp at hb⟩
  | x :: xs, _, _, _, h, r, rv => by
    simp only [mapO] at h
    cases e1 : toP s.h 30 x with
    | none => rw [e1] at h; cases h
    | some y =>
      rw [e1] at h
      cases e2 : mapO (toP s.h 30) xs with
      | none => rw [e2] at h; cases h
      | some ys =>
        rw [e2] at h; cases h
        cases r with
        | cons r1 r2 =>
          cases rv with
          | cons v1 v2 =>
            obtain ⟨a1, a2, a3⟩ := each_of hK ok I e2 r2 v2
            obtain ⟨b1, b2, b3⟩ := toP_ok ok e1 r1
            rw [hK] at b1
            refine ⟨.cons ⟨_, v1, r1⟩ a1, .cons (Dp.reads I _ _ _ b1 v1) a2, fun b hb => ?_⟩
            rcases List.mem_cons.mp hb with rfl | hb
            · exact b3
            · exact a3 b hb
theorem of_each {s : S3} : ∀ {us : List Value} {bs : List (D × PyData)}, PySem.W.EachIs (fun u (b : D × PyData) => ∃ v, RelV v u ∧ RD Z s b.1 v) us bs → ∃ vs, Vals vs us ∧ RDs Z s (bs.map (·.1)) vs
  | _, _, .nil => ⟨[], .nil, .nil⟩
  | _, _, .cons ⟨v, h1, h2⟩ t => by
    obtain ⟨vs, a, b⟩ := of_each t
    exact ⟨v :: vs, .cons h1 a, .cons h2 b⟩
theorem cr_sortD (hK : Z.K = X.K) (hu : X.A.units + 65 < cLine) : CallR X (.builtin "sorted") (rB1 Z sortD) := by
  intro pins s σ H xs us Q I rx h
  obtain ⟨x, s3, d, r, rfl, rfl, ok, rd, hf, k⟩ := h
  unfold sortD at hf
  cases e1 : lstOf s3.h d with
  | none => rw [e1] at hf; cases hf
  | some ys =>
    rw [e1] at hf
    simp only [Option.bind_some] at hf
    cases e2 : mapO (toP s3.h 30) ys with
    | none => rw [e2] at hf; cases hf
    | some ps =>
      rw [e2] at hf
      simp only [Option.bind_some] at hf
      split at hf
      · rename_i hs
        cases hf
        obtain ⟨hal, hso⟩ := okSort_ok hs
        obtain ⟨a, vs, rfl, h1, h2⟩ := lst_at ok e1 rd
        obtain ⟨its, rv, hl, hz⟩ := I.list (hK ▸ h1)
        obtain ⟨u, rfl, ru⟩ := vals1 rx
        obtain rfl : u = Value.ref a := ru
        obtain ⟨a1, a2, a3⟩ := each_of hK ok I e2 h2 rv
        have hm : (ys.zip ps).map (·.2) = ps := by
          rw [List.map_snd_zip]
          rw [mapO_len e2]
          exact Nat.le_refl _
        refine PySem.W.sorted_data (enc := fun b : D × PyData => b.2) hl.isList a1 a2 (by rw [hm]; exact hal) (by rw [hm]; exact hso) (by rw [List.length_zip, mapO_len e2, Nat.min_self, h2.length]; exact hz) (fun b hb => by have := a3 b hb; omega) fun out hlen he => ?_
        obtain ⟨ws, w1, w2⟩ := of_each he
        obtain ⟨n, hn⟩ := PyProof.Rows.sortedAll_at s.heap its out.toArray
        have hd : s3.H (s.heap.objs.size + 1) = none := I.hok.fresh (Nat.le_succ _)
        have l := Le.tmp (o := .lst ws) hd
        have hwl : ws.length ≤ sizeLine := by
          rw [w1.length, hlen, List.length_zip, mapO_len e2, Nat.min_self, h2.length]
          exact hz
        refine ⟨.ref (s.heap.objs.size + 1), upd s3.H (s.heap.objs.size + 1) (.lst ws), I.laid (t' := s.toks) (fun b u hb => PyProof.Rows.sortedAll_old hb) (Nat.le_succ _) ⟨hwl, out, n, w1, hn⟩, rfl, ?_⟩
        exact k ⟨s3.m, s3.h, upd s3.H (s.heap.objs.size + 1) (.lst ws), s3.pr, s3.xc⟩ rfl l (ok.tmp hd) _ (RD.newL ok hd w2)
      · cases hf
end
end Bh
namespace Bh
open PySem PySem.Spec PyProof.Rows L2
def isTup : D → Bool
  | .tup _ => true
  | _ => false
/-- max(rows, key=f): f leaves the heap as it is -/
def keyV (c : Calls) (k : Nat) (h : LH) (d : D) : Option Int := match c k [d] h with
  | .ok (.int i) h' => if h' = h then some i else none
  | _ => none
def maxKV (f : D → Option Int) (xs : List D) : Option D := (mapO f xs).bind fun ks => xs[argBest (fun i j => decide (ks.getD i 0 > ks.getD j 0)) (xs.length - 1)]?
def bMaxK (k : Nat) (a : DE) : DE := fun c σ h => (a c σ h).bind fun x h1 => match x with
  | .lst (y :: ys) => if (y :: ys).all isTup = true then optO (maxKV (keyV c k h1) (y :: ys)) h1 else .bad
  | _ => .bad
theorem keyV_some {c : Calls} {k : Nat} {h : LH} {d : D} {i : Int} (e : keyV c k h d = some i) : c k [d] h = .ok (.int i) h := by
  unfold keyV at e
  split at e
  · rename_i j h' e2
    split at e
    · rename_i e3
      cases e
      rw [e2, e3]
    · cases e
  · cases e
theorem mapO_get {α β : Type} {f : α → Option β} : ∀ {xs : List α} {ys : List β} {i : Nat} {x : α}, mapO f xs = some ys → xs[i]? = some x → ∃ y, ys[i]? = some y ∧ f x = some y
  | [], _, _, _, _, h => by simp at h
  | x :: xs, _, i, _, h, hx => by
    simp only [mapO] at h
    cases e1 : f x with
    | none => rw [e1] at h; cases h
    | some y =>
      rw [e1] at h
      cases e2 : mapO f xs with
      | none => rw [e2] at h; cases h
      | some ys =>
        rw [e2] at h; cases h
        cases i with
        | zero => simp at hx; subst hx; exact ⟨y, rfl, e1⟩
        | succ i =>
          obtain ⟨z, a, b⟩ := mapO_get (i := i) e2 (by simpa using hx)
          exact ⟨z, by simpa using a, b⟩
theorem vals_inj : ∀ {vs : List V} {us ws : List Value}, Vals vs us → Vals vs ws → (∀ v ∈ vs, ∃ a, v = V.ref a) → us = ws
  | _, _, _, .nil, .nil, _ => rfl
  | v :: vs, _, _, .cons r1 t1, .cons r2 t2, h => by
    obtain ⟨a, rfl⟩ := h v List.mem_cons_self
    cases r1; cases r2
    rw [vals_inj t1 t2 fun x hx => h x (List.mem_cons_of_mem _ hx)]
theorem vals_get : ∀ {vs : List V} {us : List Value} {i : Nat} {u : Value}, Vals vs us → us[i]? = some u → ∃ v, vs[i]? = some v ∧ RelV v u
  | _, _, _, _, .nil, h => by simp at h
  | _, _, 0, _, .cons r _, h => by simp at h; subst h; exact ⟨_, rfl, r⟩
  | _, _, i + 1, _, .cons _ t, h => by
    obtain ⟨v, a, b⟩ := vals_get (i := i) t (by simpa using h)
    exact ⟨v, by simpa using a, b⟩
theorem tups_refs {Z : Sta} {s : S3} : ∀ {xs : List D} {vs : List V}, RDs Z s xs vs → xs.all isTup = true → ∀ v ∈ vs, ∃ a, v = V.ref a
  | _, _, .nil, _, _, h => by simp at h
  | _, _, .cons r t, ha, v, hv => by
    rw [List.all_cons, Bool.and_eq_true] at ha
    rcases List.mem_cons.mp hv with rfl | hv
    · cases r with
      | tup => exact ⟨_, rfl⟩
      | _ => exact absurd ha.1 (by simp [isTup])
    · exact tups_refs t ha.2 v hv
/-- the context within a built-in -/
abbrev inX (X : Cx) (E : Value → Shared → Prop) : Cx := { X with A := X.A.in1, xe := E }
section
variable {X : Cx} {Z : Sta} {s0 : S3} {W : WX} {c : Calls} {pos p p2 : Pos}
theorem inX_ok {E : Value → Shared → Prop} (ok : X.Ok) : (inX X E).Ok := ⟨ok.mod, ok.kind, ok.glob, ok.blt, ok.above, ok.inj, ok.has, ok.cab, ok.hd, ok.frames, ok.stk, ok.exf, ok.bs, ok.bsz, ok.noex, ok.exfs, ok.funs, ok.frf⟩
theorem of_inX {E : Value → Shared → Prop} (ok : (inX X E).Ok) : X.Ok := ⟨ok.mod, ok.kind, ok.glob, ok.blt, ok.above, ok.inj, ok.has, ok.cab, ok.hd, ok.frames, ok.stk, ok.exf, ok.bs, ok.bsz, ok.noex, ok.exfs, ok.funs, ok.frf⟩
theorem inv_in {E : Value → Shared → Prop} {pins pins' : List (Addr × Obj)} {σ : L2.St} {H : Hp} {s : Shared} (I : L2.Inv X pins σ H s) (hp : ∀ q ∈ pins', s.heap.get? q.1 = some q.2 ∧ FpOk X pins H q.1 ∧ ∀ v, q.2.data ≠ .cell v) : L2.Inv (inX X E) (pins' ++ pins) σ H s :=
  ⟨inX_ok I.ok, I.os, I.bare, I.base, I.loc, I.cell, I.free, I.freeC, fun q hq => by
    rcases List.mem_append.mp hq with h | h
    · exact I.pin q (List.mem_append.mpr (.inl h))
    · rcases List.mem_append.mp h with h | h
      · obtain ⟨h1, h2, h3⟩ := hp q h
        exact ⟨h1, h2.1, h2.2.1, h2.2.2.1, h3⟩
      · exact I.pin q (List.mem_append.mpr (.inr h)), I.hok, I.len⟩
theorem inv_out {E : Value → Shared → Prop} {pins pins' : List (Addr × Obj)} {σ : L2.St} {H : Hp} {s : Shared} (I : L2.Inv (inX X E) (pins' ++ pins) σ H s) : L2.Inv X pins σ H s :=
  ⟨of_inX I.ok, I.os, I.bare, I.base, I.loc, I.cell, I.free, I.freeC, fun q hq => by
    rcases List.mem_append.mp hq with h | h
    · exact I.pin q (List.mem_append.mpr (.inl h))
    · exact I.pin q (List.mem_append.mpr (.inr (List.mem_append.mpr (.inr h)))), I.hok, I.len⟩
end
end Bh
namespace Bh
open PySem PySem.Spec PyProof.Rows L2
section
variable {X : Cx} {Z : Sta} {s0 : S3} {W : WX} {c : Calls} {pos p p2 : Pos}
theorem ev_of_ex {E' : Value → Shared → Prop} {pins : List (Addr × Obj)} {σ : L2.St} {Q : VK} {u : Value} {s : Shared} (h : EP (inX X E') pins σ Q u s) : ∃ v H', L2.Inv (inX X E') pins σ H' s ∧ RelV v u ∧ Q v H' := h
theorem cr_maxK {k lev : Nat} (hK : Z.K = X.K) (hc : X.calm = true) (hr : Room (lev + 1) X.A) (F : DefOk X Z c lev k 1) :
    CallRK X (.builtin "max") [Str.ofString "key"] (fun xs zs H Q => ∃ s y ys v r, xs = [v] ∧ zs = [.ref (Z.fa k)] ∧ s.H = H ∧ Ok3 Z s ∧ RD Z s (.lst (y :: ys)) v ∧ (y :: ys).all isTup = true ∧ maxKV (keyV c k s.h) (y :: ys) = some r ∧ ∀ s', s'.h = s.h → Le s s' → Ok3 Z s' → ∀ v, RD Z s' r v → Q v s'.H) := by
  intro pins s σ H xs zs us ws Q I rx rz h
  obtain ⟨s3, y, ys, x, r, rfl, rfl, rfl, ok, rd, hall, hm, q⟩ := h
  obtain ⟨u, rfl, ru⟩ := vals1 rx
  obtain ⟨g, rfl, rg⟩ := vals1 rz
  have eg : g = Value.ref (Z.fa k) := rg
  subst eg
  cases rd with
  | @lst l _ vs hl hnm rs =>
  have eu : u = Value.ref l := ru
  subst eu
  obtain ⟨its, rv, hli, hz⟩ := I.list (xs := vs) (a := l) (SqL.of hl)
  obtain ⟨⟨fd, ps, _, FF, hb⟩, hk⟩ := F
  have hrefs := tups_refs rs hall
  unfold maxKV at hm
  cases ek : mapO (keyV c k s3.h) (y :: ys) with
  | none => rw [ek] at hm; cases hm
  | some ks =>
  rw [ek] at hm
  simp only [Option.bind_some] at hm
  have hlen : its.length = (y :: ys).length := by rw [← rv.length, rs.length]
  show wpAny _ _ (call (.builtin "max") [.ref l] [(Str.ofString "key", .ref (Z.fa k))]) _ _ _
  refine call_max_walkK (PySem.W.iter_listW (A := X.A.in1) (I.ok.hd hc) hli.isList fun s₂ e2 W0' st hfp hw hkp => ?_)
  have Iok : ∀ {H' : Hp}, H' s.heap.objs.size = none → FpOk X pins H' s.heap.objs.size := fun hn => I.fpOk (Nat.le_refl _) hn
  have hs2 : s₂.heap.objs.size = s.heap.objs.size + 1 := by rw [e2]; exact Heap.size_push _ _
  have Sok : ∀ {H' : Hp}, H' s₂.heap.objs.size = none → FpOk X pins H' s₂.heap.objs.size := fun hn => I.fpOk (by omega) hn
  have I2 : L2.Inv X pins σ s3.H s₂ := by
    subst e2
    exact I.turnedL (t' := s.toks) (ch := []) (fun b o _ e => Heap.get?_push_of_some _ e) (fun b hb => by simp at hb)
  refine ⟨s.heap.objs.size, _, _, _, _, _, _, fun s' => ∃ sx : S3, sx.h = s3.h ∧ Le s3 sx ∧ Ok3 Z sx ∧ L2.Inv X pins σ sx.H s' ∧ sx.H s.heap.objs.size = none ∧ sx.H s₂.heap.objs.size = none, fun i kv _ => ∃ t, kv = .int (ks.getD i 0) t, fun i j => decide (ks.getD i 0 > ks.getD j 0), rfl, W0', st, hfp, by simp [hlen], ⟨?keep, ?keepV, ?turn, ?cmp⟩, ?j0, ?fin⟩
  case j0 => exact ⟨s3, rfl, Le.refl _, ok, I2, I.hok.fresh (Nat.le_refl _), I.hok.fresh (by omega)⟩
  case fin =>
    intro v s' hP hJ
    obtain ⟨sx, eh, lx, okx, Ix, _, _⟩ := hJ
    have hP : its.toArray[argBest (fun i j => decide (ks.getD i 0 > ks.getD j 0)) (its.toArray.size - 1)]? = some v := hP
    simp only [List.size_toArray, List.getElem?_toArray, hlen] at hP
    obtain ⟨w, hw1, hw2⟩ := vals_get rv hP
    obtain ⟨w', hw', rw'⟩ := rs.get hm
    rw [hw1] at hw'
    cases hw'
    exact ⟨w, sx.H, Ix, hw2, q sx eh lx okx w (rw'.le ok lx)⟩
  case keep =>
    rintro s1 s2' ⟨sx, eh, lx, okx, Ix, h1, h2⟩ m
    refine ⟨sx, eh, lx, okx, ?_, h1, h2⟩
    obtain ⟨hp, g, d, tk, os⟩ := s2'
    have m1 : g = s1.gens := m.gens
    have m2 : d = s1.drawn := m.drawn
    have m3 : os = s1.os := m.os
    subst m1 m2 m3
    exact Ix.turnedL (t' := tk) (ch := [s₂.heap.objs.size, s.heap.objs.size]) (fun b o hb e => m.heap b o hb e) (fun b hb => by
      rcases List.mem_cons.mp hb with rfl | hb
      · exact Sok h2
      · rw [List.mem_singleton.mp hb]; exact Iok h1)
  case keepV => exact fun i kv s1 s2' h _ => h
  case cmp =>
    rintro i j ki kj s1 Q' E' _ ⟨t, rfl⟩ ⟨u, rfl⟩ hq
    exact PySem.P.gt_int (a := ks.getD i 0) (b := ks.getD j 0) hq
  case turn =>
    rintro i v s1 o Q' E' hi hP ⟨sx, eh, lx, okx, Ix, h1, h2⟩ ⟨hit, _⟩ hS hcont
    have hP : its.toArray[i]? = some v := hP
    simp only [List.getElem?_toArray] at hP
    obtain ⟨w, hw1, hw2⟩ := vals_get rv hP
    have hilt : i < (y :: ys).length := by rw [← hlen]; exact (List.getElem?_eq_some_iff.mp hP).1
    obtain ⟨w', hw', rw'⟩ := rs.get (List.getElem?_eq_getElem hilt)
    rw [hw1] at hw'
    cases hw'
    obtain ⟨ki, hki, hkv⟩ := mapO_get ek (List.getElem?_eq_getElem hilt)
    have hcall := keyV_some hkv
    have sp : spF Z c k 1 [w] sx.H (fun v H' => ∃ s', s'.H = H' ∧ s'.h = s3.h ∧ Le sx s' ∧ Ok3 Z s' ∧ v = .int ki) (WE W0 σ) := spF_of (W := W0) okx rfl (by
      rw [eh, hcall]
      intro s' e l k' v rv
      cases rv
      exact ⟨s', rfl, e, l, k', rfl⟩) [w] (.cons (rw'.le ok lx) .nil)
    have hlp : [v].length = ps.length := FF.len _ _ _ _ sp
    have b := hb s1 [v] Ix.kIn (by rw [List.append_nil]; exact hlp)
    rw [List.append_nil] at b
    refine wpAny_call (codeAny_mono (FF.run X.A.in1 X.stack s1 sx.H ⟨[v], []⟩ [v] [w] _ (WE W0 σ) hr.in1 Ix.env0.in1 b (.cons hw2 .nil) sp) fun r s' hq => ?_)
    cases r with
    | error e =>
      obtain ⟨a, B, H', cls, d, _, _, _, _, _, _, _, z⟩ := hq
      exact z.elim
    | ok fl =>
      cases fl with
      | next => exact False.elim hq
      | brk => exact False.elim hq
      | cont => exact False.elim hq
      | ret u =>
        obtain ⟨vv, H', os, bare, un, hok, rvv, sy, rfl, ehy, ly, oky, rfl⟩ := hq
        obtain ⟨t, rfl⟩ := rvv
        obtain ⟨hh, g, d, tk, os'⟩ := s'
        obtain rfl : os' = s1.os := os
        have Iy : L2.Inv X pins σ sy.H ⟨hh, g, d, tk, s1.os⟩ := Ix.call (h' := hh) (g' := g) (d' := d) (t' := tk) (ch := []) un hok bare (fun b z => absurd z (by simp))
        have fpI := Iok h1
        have fpS := Sok h2
        have nfI : s.heap.objs.size ∉ frs X.stack := fun q => by
          rcases List.mem_cons.mp (Ix.stkSub _ q) with e | q
          · exact fpI.2.1 e
          · exact fpI.2.2.1 q
        have nfS : s₂.heap.objs.size ∉ frs X.stack := fun q => by
          rcases List.mem_cons.mp (Ix.stkSub _ q) with e | q
          · exact fpS.2.1 e
          · exact fpS.2.2.1 q
        obtain ⟨oI, hoI, hoI2⟩ := id hit
        have hl2 : sy.H l = some (.lst vs) := ly.keep l _ (lx.keep l _ hl (fun z => hnm (.inl z))) (lx.nhm hl (fun z => hnm (.inl z)))
        obtain ⟨its', rv', hli', _⟩ := Iy.list (xs := vs) (a := l) (SqL.of hl2)
        have e' := vals_inj rv rv' hrefs
        subst e'
        refine hcont _ _ ⟨sy, ehy, lx.trans ly, oky, Iy, un.free _ _ hoI h1 (by simp), un.free _ _ hS h2 (by simp)⟩ ⟨⟨oI, un.keep _ _ hoI h1 nfI (by simp), hoI2⟩, hli'.isList⟩ (un.keep _ _ hS h2 nfS (by simp)) ⟨t, ?_⟩ (fun _ _ h => h)
        rw [List.getD_eq_getElem?_getD, hki]
        rfl
end
end Bh
/-! zip of three, gone through by tuple(..) -/
namespace Bh
open PySem PySem.Spec PyProof.Rows L2
section
variable {prog : Program} {w : World} {A : Around} {E : Value → Shared → Prop} {s : Shared} {z TI TO i1 i2 i3 : Addr} {fp1 fp2 fp3 : List Addr} {n i : Nat} {P1 P2 P3 : Nat → Value → Prop} {St1 St2 St3 : Nat → Heap → Prop}
theorem z3_item_held {T : Addr} {f : Bool} {oT : Obj} {Q : Value → Shared → Prop} (S : ZipSep3 z TI TO i1 i2 i3 fp1 fp2 fp3) (D1 : Draws prog w A i1 fp1 n P1 St1) (D2 : Draws prog w A i2 fp2 n P2 St2) (D3 : Draws prog w A i3 fp3 n P3 St3)
    (hz : IsZipHeld s.heap z TI TO T f) (hT : s.heap.get? T = some oT) (hTI : IsTupOf3 s.heap TI (.ref i1) (.ref i2) (.ref i3)) (st1 : St1 i s.heap) (st2 : St2 i s.heap) (st3 : St3 i s.heap) (hlt : i < n)
    (hQ : ∀ x1 x2 x3 h' tk, P1 i x1 → P2 i x2 → P3 i x3 → IsZipHeld h' z TI TO T true → St1 (i + 1) h' → St2 (i + 1) h' → St3 (i + 1) h' → IsTupOf3 h' s.heap.objs.size x1 x2 x3 → h'.objs.size = s.heap.objs.size + 1 →
      (∀ c o, c ≠ z → c ≠ i1 → c ≠ i2 → c ≠ i3 → s.heap.get? c = some o → h'.get? c = some o) → Q (.ref s.heap.objs.size) { s with heap := h', toks := tk }) :
    wpAny (model prog w) A (Builtin.«zip.__next__» ⟨[.ref z], []⟩) (fun fin s' => ∃ v, fin = .done (.ret v) ∧ Q v s') E s := by
  obtain ⟨hp, g, d, tk0, os⟩ := s
  show wpAny _ _ (field (.ref z) 2 >>= _) _ _ _
  refine wpAny_bind (wpAny_field hz rfl (x := .bool false) rfl ?_)
  show wpAny _ _ (field (.ref z) 3 >>= _) _ _ _
  refine wpAny_bind (wpAny_field hz rfl (x := .ref TI) rfl ?_)
  refine wpAny_bind (wpAny_seqItems hTI rfl ?_)
  show wpAny _ _ (Builtin.SmallTypes.ownedTupleIsFree (.ref z) >>= _) _ _ _
  refine wpAny_bind (wpAny_tupleHeld_zip hz hT fun g0 hz0 hs0 => ?_)
  replace hs0 : Heap.SameBut z hp g0 := hs0
  simp only [Bool.false_eq_true, if_false]
  refine wpAny_bind ?_
  rw [← Array.forIn_toList]
  simp only [List.forIn_cons, List.forIn_nil]
  refine wpAny_bind (wpAny_bind (wpAny_holding ?_))
  show wpAny _ _ (Builtin.SmallTypes.nextOf (.ref i1) >>= _) _ _ ⟨g0, g, d, tk0, os⟩
  refine wpAny_bind (D1.item i _ _ _ hlt (D1.over st1 hs0 S.zf1) fun x1 p1 tk1 hx1 sn1 hp1 => wpAny_pure ?_)
  replace hp1 : Heap.SameBut i1 g0 p1 := hp1
  refine wpAny_pure ?_
  refine wpAny_bind (wpAny_bind (wpAny_holding ?_))
  show wpAny _ _ (Builtin.SmallTypes.nextOf (.ref i2) >>= _) _ _ ⟨p1, g, d, tk1, os⟩
  refine wpAny_bind (D2.item i _ _ _ hlt (D2.over (D2.over st2 hs0 S.zf2) hp1 S.sep1_2) fun x2 p2 tk2 hx2 sn2 hp2 => wpAny_pure ?_)
  replace hp2 : Heap.SameBut i2 p1 p2 := hp2
  refine wpAny_pure ?_
  refine wpAny_bind (wpAny_bind (wpAny_holding ?_))
  show wpAny _ _ (Builtin.SmallTypes.nextOf (.ref i3) >>= _) _ _ ⟨p2, g, d, tk2, os⟩
  refine wpAny_bind (D3.item i _ _ _ hlt (D3.over (D3.over (D3.over st3 hs0 S.zf3) hp1 S.sep1_3) hp2 S.sep2_3) fun x3 p3 tk3 hx3 sn3 hp3 => wpAny_pure ?_)
  replace hp3 : Heap.SameBut i3 p2 p3 := hp3
  refine wpAny_pure (wpAny_pure ?_)
  show wpAny _ _ (newTuple [x1, x2, x3] >>= _) _ _ _
  refine wpAny_bind (wpAny_newTuple ?_)
  have hsz : p3.objs.size = hp.objs.size := by rw [hp3.1, hp2.1, hp1.1, hs0.1]
  have hz3 : IsZipHeld p3 z TI TO T true := hp3.extBut _ _ S.zi3 (hp2.extBut _ _ S.zi2 (hp1.extBut _ _ S.zi1 hz0))
  have hk : ∀ c o, c ≠ z → c ≠ i1 → c ≠ i2 → c ≠ i3 → hp.get? c = some o → p3.get? c = some o := fun c o cz c1 c2 c3 e => hp3.extBut _ _ c3 (hp2.extBut _ _ c2 (hp1.extBut _ _ c1 (hs0.extBut _ _ cz e)))
  refine wpAny_pure ⟨_, rfl, ?_⟩
  show Q (.ref p3.objs.size) ⟨p3.push { cls := .type "tuple", data := .seq #[x1, x2, x3] }, g, d, tk3, os⟩
  have hp4 : IsTupOf3 (p3.push { cls := .type "tuple", data := .seq #[x1, x2, x3] }) p3.objs.size x1 x2 x3 := Heap.get?_push_size _ rfl
  have hz4 : (p3.push { cls := .type "tuple", data := .seq #[x1, x2, x3] }).objs.size = p3.objs.size + 1 := Heap.size_push ..
  rw [hsz] at hp4 hz4 ⊢
  have up : ∀ c o, p3.get? c = some o → (p3.push { cls := .type "tuple", data := .seq #[x1, x2, x3] }).get? c = some o := fun c o e => Heap.get?_push_of_some _ e
  exact hQ x1 x2 x3 _ tk3 hx1 hx2 hx3 (up _ _ hz3) (D1.frame _ _ _ (D1.over (D1.over sn1 hp2 S.sep2_1) hp3 S.sep3_1) fun b _ o e => up b o e) (D2.frame _ _ _ (D2.over sn2 hp3 S.sep3_2) fun b _ o e => up b o e) (D3.frame _ _ _ sn3 fun b _ o e => up b o e) hp4 hz4 fun c o cz c1 c2 c3 e => up _ _ (hk c o cz c1 c2 c3 e)
theorem z3_end_held {T : Addr} {f : Bool} {oT : Obj} {Q : PySem.Fin → Shared → Prop} (S : ZipSep3 z TI TO i1 i2 i3 fp1 fp2 fp3) (D1 : Draws prog w A i1 fp1 n P1 St1)
    (hz : IsZipHeld s.heap z TI TO T f) (hT : s.heap.get? T = some oT) (hTI : IsTupOf3 s.heap TI (.ref i1) (.ref i2) (.ref i3)) (st1 : St1 n s.heap)
    (hE : ∀ h' tk e, (∀ c o, c ≠ z → c ≠ TO → c ≠ i1 → c ≠ i2 → c ≠ i3 → s.heap.get? c = some o → h'.get? c = some o) → (∃ o, h'.get? e = some o ∧ o.cls = .type "StopIteration") → E (.ref e) { s with heap := h', toks := tk }) :
    wpAny (model prog w) A (Builtin.«zip.__next__» ⟨[.ref z], []⟩) Q E s := by
  obtain ⟨hp, g, d, tk0, os⟩ := s
  show wpAny _ _ (field (.ref z) 2 >>= _) _ _ _
  refine wpAny_bind (wpAny_field hz rfl (x := .bool false) rfl ?_)
  show wpAny _ _ (field (.ref z) 3 >>= _) _ _ _
  refine wpAny_bind (wpAny_field hz rfl (x := .ref TI) rfl ?_)
  refine wpAny_bind (wpAny_seqItems hTI rfl ?_)
  show wpAny _ _ (Builtin.SmallTypes.ownedTupleIsFree (.ref z) >>= _) _ _ _
  refine wpAny_bind (wpAny_tupleHeld_zip hz hT fun g0 hz0 hs0 => ?_)
  replace hs0 : Heap.SameBut z hp g0 := hs0
  simp only [Bool.false_eq_true, if_false]
  refine wpAny_bind ?_
  rw [← Array.forIn_toList]
  simp only [List.forIn_cons, List.forIn_nil]
  refine wpAny_bind (wpAny_bind (wpAny_holding ?_))
  show wpAny _ _ (Builtin.SmallTypes.nextOf (.ref i1) >>= _) _ _ ⟨g0, g, d, tk0, os⟩
  refine wpAny_bind (D1.done ⟨g0, g, d, tk0, os⟩ _ _ (D1.over st1 hs0 S.zf1) fun q e hq he => ?_)
  replace hq : Heap.ExtBut i1 g0 q := hq
  exact hE q tk0 e (fun c o cz _ c1 _ _ x => hq _ _ c1 (hs0.extBut _ _ cz x)) he
/-- where zip stands between two turns -/
def Zs (z TI TO i1 i2 i3 : Addr) (St1 St2 St3 : Nat → Heap → Prop) (i : Nat) (h : Heap) : Prop :=
  (IsZip h z TI TO .none ∨ ∃ T f oT, IsZipHeld h z TI TO T f ∧ h.get? T = some oT ∧ T ≠ z ∧ T ≠ TO ∧ T ≠ i1 ∧ T ≠ i2 ∧ T ≠ i3) ∧ IsTupOf3 h TI (.ref i1) (.ref i2) (.ref i3) ∧ (∃ a1 a2 a3, IsTupOf3 h TO a1 a2 a3) ∧ St1 i h ∧ St2 i h ∧ St3 i h
theorem z3_item {Q : Option Value → Shared → Prop} (S : ZipSep3 z TI TO i1 i2 i3 fp1 fp2 fp3) (D1 : Draws prog w A.in1 i1 fp1 n P1 St1) (D2 : Draws prog w A.in1 i2 fp2 n P2 St2) (D3 : Draws prog w A.in1 i3 fp3 n P3 St3)
    (hs : Zs z TI TO i1 i2 i3 St1 St2 St3 i s.heap) (hlt : i < n)
    (hQ : ∀ x1 x2 x3 h' tk, P1 i x1 → P2 i x2 → P3 i x3 → Zs z TI TO i1 i2 i3 St1 St2 St3 (i + 1) h' → IsTupOf3 h' s.heap.objs.size x1 x2 x3 → h'.objs.size = s.heap.objs.size + 1 →
      (∀ c o, c ≠ z → c ≠ TO → c ≠ i1 → c ≠ i2 → c ≠ i3 → s.heap.get? c = some o → h'.get? c = some o) → Q (some (.ref s.heap.objs.size)) { s with heap := h', toks := tk }) :
    wpAny (model prog w) A (pyNext (.ref z)) Q E s := by
  obtain ⟨hz, hTI, ⟨a1, a2, a3, hTO⟩, st1, st2, st3⟩ := hs
  have lt : ∀ {a : Addr} {o : Obj}, s.heap.get? a = some o → s.heap.objs.size ≠ a := fun e z => Nat.lt_irrefl _ (z ▸ Heap.lt_size e)
  obtain ⟨o1, e1⟩ := D1.live _ _ st1
  obtain ⟨o2, e2⟩ := D2.live _ _ st2
  obtain ⟨o3, e3⟩ := D3.live _ _ st3
  have kTI : ∀ {h' : Heap}, (∀ c o, c ≠ z → c ≠ TO → c ≠ i1 → c ≠ i2 → c ≠ i3 → s.heap.get? c = some o → h'.get? c = some o) → IsTupOf3 h' TI (.ref i1) (.ref i2) (.ref i3) := fun k => k _ _ S.TIz S.TITO S.TIi1 S.TIi2 S.TIi3 hTI
  rcases hz with hz | ⟨T, f, oT, hz, hT, t1, t2, t3, t4, t5⟩
  · exact wpAny_pyNext_zipD3_item S D1 D2 D3 hz hTI hTO st1 st2 st3 hlt hlt hlt fun x1 x2 x3 h' tk y1 y2 y3 b1 b2 d1 d2 d3 b5 b6 b7 => hQ x1 x2 x3 h' tk y1 y2 y3 ⟨.inr ⟨_, false, _, b1, b5, lt hz, lt hTO, lt e1, lt e2, lt e3⟩, kTI b7, ⟨_, _, _, b2⟩, d1, d2, d3⟩ b5 b6 b7
  · have hTy : s.TypeIs (.ref z) "zip" := ⟨_, hz, rfl⟩
    have zTO : TO ≠ z := S.TOz
    unfold pyNext
    refine wpAny_bind (wpAny_attempt (wpAny_callSpecial?_slot (name := Str.ofString "__next__") hTy F.slot_zip_next
      (wpAny_call_entry F.slot_zip_next hTy F.entry_zip_next
        (z3_item_held S D1 D2 D3 hz hT hTI st1 st2 st3 hlt fun x1 x2 x3 h' tk y1 y2 y3 b1 d1 d2 d3 b5 b6 b7 => wpAny_pure ?_) (F.args_zip_next_1 _))))
    exact hQ x1 x2 x3 h' tk y1 y2 y3 ⟨.inr ⟨T, true, oT, b1, b7 _ _ t1 t3 t4 t5 hT, t1, t2, t3, t4, t5⟩, b7 _ _ S.TIz S.TIi1 S.TIi2 S.TIi3 hTI, ⟨_, _, _, b7 _ _ S.TOz S.Ti1 S.Ti2 S.Ti3 hTO⟩, d1, d2, d3⟩ b5 b6 fun c o cz _ c1 c2 c3 e => b7 c o cz c1 c2 c3 e
theorem z3_end {Q : Option Value → Shared → Prop} (S : ZipSep3 z TI TO i1 i2 i3 fp1 fp2 fp3) (D1 : Draws prog w A.in1 i1 fp1 n P1 St1) (D2 : Draws prog w A.in1 i2 fp2 n P2 St2) (D3 : Draws prog w A.in1 i3 fp3 n P3 St3)
    (hs : Zs z TI TO i1 i2 i3 St1 St2 St3 n s.heap)
    (hQ : ∀ h' tk, (∀ c o, c ≠ z → c ≠ TO → c ≠ i1 → c ≠ i2 → c ≠ i3 → s.heap.get? c = some o → h'.get? c = some o) → Q none { s with heap := h', toks := tk }) :
    wpAny (model prog w) A (pyNext (.ref z)) Q E s := by
  obtain ⟨hz, hTI, ⟨a1, a2, a3, hTO⟩, st1, st2, st3⟩ := hs
  rcases hz with hz | ⟨T, f, oT, hz, hT, t1, t2, t3, t4, t5⟩
  · exact wpAny_pyNext_zipD3_end S D1 D2 D3 hz hTI hTO st1 st2 st3 (Nat.le_refl _) (Nat.le_refl _) (Nat.le_refl _) (.inl rfl) hQ
  · have hTy : s.TypeIs (.ref z) "zip" := ⟨_, hz, rfl⟩
    unfold pyNext
    refine wpAny_bind (wpAny_attempt (wpAny_callSpecial?_slot (name := Str.ofString "__next__") hTy F.slot_zip_next
      (wpAny_call_entry F.slot_zip_next hTy F.entry_zip_next (z3_end_held S D1 hz hT hTI st1 fun h' tk e hk he => ?_) (F.args_zip_next_1 _))))
    obtain ⟨o, ho, hc⟩ := he
    refine wpAny_bind (wpAny_isInstance (T := "StopIteration") (b := true) ⟨o, ho, hc⟩ isSubtype_stop ?_)
    exact wpAny_pure (hQ _ _ hk)
/-- what has been gathered: tuples of three, made behind N -/
def Acc3 (P1 P2 P3 : Nat → Value → Prop) (N i : Nat) (acc : Array Value) (h : Heap) : Prop :=
  acc.size = i ∧ (∀ (j : Nat) (v : Value), acc[j]? = some v → ∃ T x1 x2 x3, v = .ref T ∧ P1 j x1 ∧ P2 j x2 ∧ P3 j x3 ∧ IsTupOf3 h T x1 x2 x3 ∧ N ≤ T) ∧ ∀ (j k : Nat) (T T' : Addr), j < k → acc[j]? = some (Value.ref T) → acc[k]? = some (Value.ref T') → T < T'
theorem Acc3.keep {N i : Nat} {acc : Array Value} {h h' : Heap} (a : Acc3 P1 P2 P3 N i acc h) (k : ∀ c o, N ≤ c → h.get? c = some o → h'.get? c = some o) : Acc3 P1 P2 P3 N i acc h' :=
  ⟨a.1, fun j v e => by obtain ⟨T, x1, x2, x3, e1, p1, p2, p3, t, hN⟩ := a.2.1 j v e; exact ⟨T, x1, x2, x3, e1, p1, p2, p3, k _ _ hN t, hN⟩, a.2.2⟩
theorem Acc3.push {N i : Nat} {acc : Array Value} {h : Heap} {T : Addr} {x1 x2 x3 : Value} (a : Acc3 P1 P2 P3 N i acc h) (p1 : P1 i x1) (p2 : P2 i x2) (p3 : P3 i x3) (t : IsTupOf3 h T x1 x2 x3) (hN : N ≤ T) (hlt : ∀ (j : Nat) (T' : Addr), acc[j]? = some (Value.ref T') → T' < T) : Acc3 P1 P2 P3 N (i + 1) (acc.push (.ref T)) h := by
  refine ⟨by rw [Array.size_push, a.1], fun j v hj => ?_, fun j k T1 T2 hjk h1 h2 => ?_⟩
  · rw [Array.getElem?_push] at hj
    split at hj
    · rename_i e; rw [a.1] at e; cases hj; subst e; exact ⟨T, x1, x2, x3, rfl, p1, p2, p3, t, hN⟩
    · exact a.2.1 j v hj
  · rw [Array.getElem?_push] at h1 h2
    split at h2
    · rename_i e2
      cases h2
      split at h1
      · rename_i e1; exact absurd (e1.trans e2.symm) (Nat.ne_of_lt hjk)
      · exact hlt j T1 h1
    · split at h1
      · rename_i e1 e2
        have hk : k < acc.size := (Array.getElem?_eq_some_iff.mp h2).1
        exact absurd (Nat.lt_trans hjk hk) (by rw [e2]; exact Nat.lt_irrefl _)
      · exact a.2.2 j k T1 T2 hjk h1 h2
theorem z3_loop {R : Result → Shared → Prop} {Sa : Addr} {res : Value} {N : Nat} (S : ZipSep3 z TI TO i1 i2 i3 fp1 fp2 fp3) (D1 : Draws prog w A.in1.in1 i1 fp1 n P1 St1) (D2 : Draws prog w A.in1.in1 i2 fp2 n P2 St2) (D3 : Draws prog w A.in1.in1 i3 fp3 n P3 St3)
    (hn : n ≤ sizeLine) (hc : ∀ c, c = z ∨ c = TI ∨ c = TO ∨ c ∈ fp1 ∨ c ∈ fp2 ∨ c ∈ fp3 → c < Sa) (hN : N = Sa + 1) :
    ∀ (k i : Nat) (s : Shared) (acc : Array Value) (c : Nat), n - i = k → i ≤ n → Zs z TI TO i1 i2 i3 St1 St2 St3 i s.heap → s.heap.get? Sa = some { cls := .type "list", dict := none, data := .seq acc c, slots := #[] } → Acc3 P1 P2 P3 N i acc s.heap →
    (∀ h' tk acc' c', (∀ b o, b < Sa → b ≠ z → b ≠ TO → b ≠ i1 → b ≠ i2 → b ≠ i3 → s.heap.get? b = some o → h'.get? b = some o) → h'.get? Sa = some { cls := .type "list", dict := none, data := .seq acc' c', slots := #[] } → Acc3 P1 P2 P3 N n acc' h' → R (.ok (.ret res)) { s with heap := h', toks := tk }) →
    codeAny (model prog w) A (.builtin "list.extend.loop" ⟨[.ref Sa, .ref z, res], []⟩) R s := by
  have mz : ∀ {c}, c = z ∨ c = TI ∨ c = TO ∨ c ∈ fp1 ∨ c ∈ fp2 ∨ c ∈ fp3 → Sa ≠ c := fun h e => Nat.lt_irrefl _ (Nat.lt_of_lt_of_eq (hc _ h) e)
  have nz : Sa ≠ z := mz (.inl rfl)
  have nTI : Sa ≠ TI := mz (.inr (.inl rfl))
  have nTO : Sa ≠ TO := mz (.inr (.inr (.inl rfl)))
  have n1 : ∀ b ∈ fp1, Sa ≠ b := fun b h => mz (.inr (.inr (.inr (.inl h))))
  have n2 : ∀ b ∈ fp2, Sa ≠ b := fun b h => mz (.inr (.inr (.inr (.inr (.inl h)))))
  have n3 : ∀ b ∈ fp3, Sa ≠ b := fun b h => mz (.inr (.inr (.inr (.inr (.inr h)))))
  have gz : ∀ {c b}, N ≤ b → (c = z ∨ c = TI ∨ c = TO ∨ c ∈ fp1 ∨ c ∈ fp2 ∨ c ∈ fp3) → b ≠ c := fun {c b} h1 h2 e => Nat.lt_irrefl Sa (Nat.lt_of_lt_of_le (show Sa < N from hN ▸ Nat.lt_succ_self Sa) (Nat.le_trans h1 (Nat.le_trans (Nat.le_of_eq e) (Nat.le_of_lt (hc _ h2)))))
  have gs : ∀ {c : Addr}, N ≤ c → Sa ≠ c := fun {c} h e => Nat.lt_irrefl Sa (Nat.lt_of_lt_of_le (show Sa < N from hN ▸ Nat.lt_succ_self Sa) (Nat.le_trans h (Nat.le_of_eq e.symm)))
  intro k
  induction k with
  | zero =>
    intro i s acc c hk hi hst hS hacc hR
    have hin : i = n := by omega
    subst hin
    refine codeAny_builtin F.entry_extend_loop ?_
    rw [Around.under_plainId F.plain_extend_loop _]
    show wpAny _ A.in1 (pyNext (.ref z) >>= _) _ _ s
    refine wpAny_bind (z3_end S D1 D2 D3 hst fun h' tk hk => ?_)
    exact wpAny_pure (hR h' tk acc c (fun b o _ b1 b2 b3 b4 b5 e => hk b o b1 b2 b3 b4 b5 e) (hk _ _ nz nTO (n1 _ S.mem1) (n2 _ S.mem2) (n3 _ S.mem3) hS) (hacc.keep fun c o hN e => hk c o (gz hN (.inl rfl)) (gz hN (.inr (.inr (.inl rfl)))) (gz hN (.inr (.inr (.inr (.inl S.mem1))))) (gz hN (.inr (.inr (.inr (.inr (.inl S.mem2)))))) (gz hN (.inr (.inr (.inr (.inr (.inr S.mem3)))))) e))
  | succ k ih =>
    intro i s acc c hk hi hst hS hacc hR
    have hlt : i < n := by omega
    refine codeAny_builtin F.entry_extend_loop ?_
    rw [Around.under_plainId F.plain_extend_loop _]
    show wpAny _ A.in1 (pyNext (.ref z) >>= _) _ _ s
    refine wpAny_bind (z3_item S D1 D2 D3 hst hlt fun x1 x2 x3 h' tk y1 y2 y3 st' hT hsz hk => ?_)
    have hS' := hk _ _ nz nTO (n1 _ S.mem1) (n2 _ S.mem2) (n3 _ S.mem3) hS
    have hSl : Sa < s.heap.objs.size := Heap.lt_size hS
    show wpAny _ A.in1 (updateSeq Sa (·.push (.ref s.heap.objs.size)) >>= _) _ _ _
    refine wpAny_bind ?_
    have oth : ∀ b o, Sa ≠ b → h'.get? b = some o → (h'.update Sa (Obj.mapSeq (·.push (.ref s.heap.objs.size)))).get? b = some o := fun b o hb e => (Heap.get?_update_other _ _ hb).trans e
    have st2 : Zs z TI TO i1 i2 i3 St1 St2 St3 (i + 1) (h'.update Sa (Obj.mapSeq (·.push (.ref s.heap.objs.size)))) := by
      obtain ⟨hz, hTI, ⟨a1, a2, a3, hTO⟩, q1, q2, q3⟩ := st'
      refine ⟨?_, oth _ _ nTI hTI, ⟨_, _, _, oth _ _ nTO hTO⟩, D1.frame _ _ _ q1 fun b hb o e => oth b o (n1 b hb) e, D2.frame _ _ _ q2 fun b hb o e => oth b o (n2 b hb) e, D3.frame _ _ _ q3 fun b hb o e => oth b o (n3 b hb) e⟩
      rcases hz with hz | ⟨T, f, oT, hz, hT, t⟩
      · exact .inl (oth _ _ nz hz)
      · by_cases eT : Sa = T
        · subst eT
          exact .inr ⟨Sa, f, _, oth _ _ nz hz, Heap.get?_update_self _ hS' rfl, t⟩
        · exact .inr ⟨T, f, oT, oth _ _ nz hz, oth _ _ eT hT, t⟩
    have acc2 : Acc3 P1 P2 P3 N (i + 1) (acc.push (.ref s.heap.objs.size)) (h'.update Sa (Obj.mapSeq (·.push (.ref s.heap.objs.size)))) :=
      Acc3.keep (Acc3.push (hacc.keep fun c o hN e => hk c o (gz hN (.inl rfl)) (gz hN (.inr (.inr (.inl rfl)))) (gz hN (.inr (.inr (.inr (.inl S.mem1))))) (gz hN (.inr (.inr (.inr (.inr (.inl S.mem2)))))) (gz hN (.inr (.inr (.inr (.inr (.inr S.mem3)))))) e) y1 y2 y3 hT (by rw [hN]; exact hSl) fun j T' hj => by obtain ⟨T2, _, _, _, e1, _, _, _, t2, _⟩ := hacc.2.1 j _ hj; cases e1; exact Heap.lt_size t2) fun c o hN e => oth c o (gs hN) e
    refine wpAny_updateSeq (s := { s with heap := h', toks := tk }) hS' rfl (wpAny_pure ⟨plainId_quiet F.plain_extend_loop _, ih (i + 1) _ (acc.push (.ref s.heap.objs.size)) _ (by omega) hlt st2 (Heap.get?_update_self _ hS' rfl) acc2 fun h'' tk'' acc' c' hk'' hS'' hacc' => ?_⟩)
      (by rw [hacc.1]; omega) (by show (acc.push _).size ≤ sizeLine + 1; rw [Array.size_push, hacc.1]; omega)
    exact hR h'' tk'' acc' c' (fun b o hb b1 b2 b3 b4 b5 e => hk'' b o hb b1 b2 b3 b4 b5 (oth b o (fun e => Nat.lt_irrefl _ (Nat.lt_of_lt_of_eq hb e)) (hk b o b1 b2 b3 b4 b5 e))) hS'' hacc'
end
end Bh
/-! tuple(zip(a, b, c)) -/
namespace Bh
open PySem PySem.Spec PyProof.Rows L2
theorem zip_no_len : typeLookup (.type "zip") "__len__" = pure none := by rw [typeLookup_type, builtinLookup_eq_fast]; kernel_rfl
theorem zip_no_hint : typeLookup (.type "zip") "__length_hint__" = pure none := by rw [typeLookup_type, builtinLookup_eq_fast]; kernel_rfl
section
variable {prog : Program} {w : World} {A : Around} {E : Value → Shared → Prop} {s : Shared} {z TI TO i1 i2 i3 : Addr} {fp1 fp2 fp3 : List Addr} {n i : Nat} {P1 P2 P3 : Nat → Value → Prop} {St1 St2 St3 : Nat → Heap → Prop}
theorem z3_collect {Q : List Value → Shared → Prop} (S : ZipSep3 z TI TO i1 i2 i3 fp1 fp2 fp3) (D1 : Draws prog w A.in1.in1 i1 fp1 n P1 St1) (D2 : Draws prog w A.in1.in1 i2 fp2 n P2 St2) (D3 : Draws prog w A.in1.in1 i3 fp3 n P3 St3)
    (hn : n ≤ sizeLine) (hc : ∀ c, c = z ∨ c = TI ∨ c = TO ∨ c ∈ fp1 ∨ c ∈ fp2 ∨ c ∈ fp3 → c < s.heap.objs.size) (hz : IsZip s.heap z TI TO .none) (hTI : IsTupOf3 s.heap TI (.ref i1) (.ref i2) (.ref i3)) {a1 a2 a3 : Value} (hTO : IsTupOf3 s.heap TO a1 a2 a3) (st1 : St1 0 s.heap) (st2 : St2 0 s.heap) (st3 : St3 0 s.heap)
    (hQ : ∀ h' tk acc, (∀ b o, b ≠ z → b ≠ TO → b ≠ i1 → b ≠ i2 → b ≠ i3 → s.heap.get? b = some o → h'.get? b = some o) → Acc3 P1 P2 P3 (s.heap.objs.size + 1) n acc h' → Q acc.toList { s with heap := h', toks := tk }) : wpAny (model prog w) A (collect (.ref z)) Q E s := by
  have nS : ∀ {c}, (c = z ∨ c = TI ∨ c = TO ∨ c ∈ fp1 ∨ c ∈ fp2 ∨ c ∈ fp3) → c ≠ s.heap.objs.size := fun {c} h e => Nat.lt_irrefl _ (Nat.lt_of_le_of_lt (Nat.le_of_eq e.symm) (hc c h))
  have hSI : s.heap.objs.size ≠ z := fun e => nS (.inl rfl) e.symm
  unfold collect
  refine wpAny_bind (wpAny_runValue (codeAny_builtin F.entry_proto_collect ?_))
  rw [Around.under_plainId F.plain_proto_collect _]
  show wpAny _ A.in1 (newList [] >>= fun l => again (.builtin "list.__iadd__" ⟨[l, .ref z], []⟩)) _ _ s
  refine wpAny_bind (wpAny_newObj_type ?_)
  refine wpAny_pure ⟨plainId_quiet F.plain_list_iadd _, codeAny_builtin F.entry_list_iadd ?_⟩
  rw [Around.under_plainId F.plain_list_iadd _]
  have up : ∀ c o, s.heap.get? c = some o → (s.heap.push { cls := .type "list", data := .seq ([] : List Value).toArray }).get? c = some o := fun c o e => Heap.get?_push_of_some _ e
  have hTy : Shared.TypeIs { s with heap := s.heap.push { cls := .type "list", data := .seq ([] : List Value).toArray } } (.ref z) "zip" := ⟨_, up _ _ hz, rfl⟩
  show wpAny _ A.in1 (Builtin.List.listExtendWith (.ref s.heap.objs.size) (.ref z) (.ref s.heap.objs.size)) _ _ _
  unfold Builtin.List.listExtendWith
  refine wpAny_bind (wpAny_typeOf hTy ?_)
  have h1 : Builtin.List.listSameRef (.ref s.heap.objs.size) (.ref z) = false := by simp [Builtin.List.listSameRef, hSI]
  have h2 : (Value.type "zip" == Value.type "list") = false := by decide
  have h3 : (Value.type "zip" == Value.type "tuple") = false := by decide
  simp only [h1, h2, h3, Bool.or_false, Bool.false_eq_true, if_false]
  refine wpAny_bind (wpAny_pyIter_zip (up _ _ hz) ?_)
  refine wpAny_bind (wpAny_holding ?_)
  unfold Builtin.List.listLengthHint
  refine wpAny_bind (wpAny_specialOf hTy zip_no_len ?_)
  show wpAny _ A.in1 (specialOf (Value.ref z) (Str.ofString "__length_hint__") >>= _) _ _ _
  refine wpAny_bind (wpAny_specialOf hTy zip_no_hint ?_)
  refine wpAny_pure ?_
  show wpAny _ A.in1 (rule "list.extend.makes-room" >>= fun _ => Builtin.List.listTouch (.ref s.heap.objs.size) >>= fun _ =>
    again (.builtin "list.extend.loop" ⟨[.ref s.heap.objs.size, .ref z, .ref s.heap.objs.size], []⟩)) _ _ _
  refine wpAny_bind (wpAny_rule ?_)
  have hS₁ : (s.heap.push { cls := .type "list", data := .seq ([] : List Value).toArray }).get? s.heap.objs.size = some { cls := .type "list", data := .seq ([] : List Value).toArray } := Heap.get?_push_size _ rfl
  refine wpAny_bind ?_
  show wpAny _ A.in1 (updateSeq s.heap.objs.size (·.push .none) >>= fun _ => updateSeq s.heap.objs.size (·.pop)) _ _ _
  refine wpAny_bind (wpAny_updateSeq hS₁ rfl ?_)
  have hS₂ := Heap.get?_update_self (Obj.mapSeq (·.push Value.none)) hS₁ rfl
  refine wpAny_updateSeq hS₂ rfl ?_
  have hS₃ := Heap.get?_update_self (Obj.mapSeq (·.pop)) hS₂ rfl
  have oth : ∀ b o, b ≠ s.heap.objs.size → s.heap.get? b = some o →
      (((s.heap.push { cls := .type "list", data := .seq ([] : List Value).toArray }).update s.heap.objs.size (Obj.mapSeq (·.push Value.none))).update s.heap.objs.size (Obj.mapSeq (·.pop))).get? b = some o :=
    fun b o hb e => (Heap.get?_update_other _ _ (Ne.symm hb)).trans ((Heap.get?_update_other _ _ (Ne.symm hb)).trans (up _ _ e))
  refine wpAny_pure ⟨plainId_quiet F.plain_extend_loop _, z3_loop (Sa := s.heap.objs.size) (N := s.heap.objs.size + 1) S D1 D2 D3 hn hc rfl n 0 _ _ _ rfl (Nat.zero_le _)
    ⟨.inl (oth _ _ (nS (.inl rfl)) hz), oth _ _ (nS (.inr (.inl rfl))) hTI, ⟨_, _, _, oth _ _ (nS (.inr (.inr (.inl rfl)))) hTO⟩, D1.frame _ _ _ st1 fun b hb o e => oth b o (nS (.inr (.inr (.inr (.inl hb))))) e, D2.frame _ _ _ st2 fun b hb o e => oth b o (nS (.inr (.inr (.inr (.inr (.inl hb)))))) e, D3.frame _ _ _ st3 fun b hb o e => oth b o (nS (.inr (.inr (.inr (.inr (.inr hb)))))) e⟩
    hS₃ ⟨rfl, fun j v h => by simp at h, fun j k T T' _ h => by simp at h⟩ fun h' tk acc' c' hk hS' hacc => ?_⟩
  show wpAny _ A (load s.heap.objs.size >>= _) _ _ _
  refine wpAny_bind (wpAny_load hS' ?_)
  refine wpAny_pure (hQ h' tk acc' (fun b o b1 b2 b3 b4 b5 e => hk b o (Heap.lt_size e) b1 b2 b3 b4 b5 (oth b o (fun e2 => Nat.lt_irrefl _ (Nat.lt_of_le_of_lt (Nat.le_of_eq e2.symm) (Heap.lt_size e))) e)) hacc)
theorem z3_tuple {Q : Value → Shared → Prop} (S : ZipSep3 z TI TO i1 i2 i3 fp1 fp2 fp3) (D1 : Draws prog w A.in1.in1.in1.in1 i1 fp1 n P1 St1) (D2 : Draws prog w A.in1.in1.in1.in1 i2 fp2 n P2 St2) (D3 : Draws prog w A.in1.in1.in1.in1 i3 fp3 n P3 St3)
    (hn : n ≤ sizeLine) (hc : ∀ c, c = z ∨ c = TI ∨ c = TO ∨ c ∈ fp1 ∨ c ∈ fp2 ∨ c ∈ fp3 → c < s.heap.objs.size) (hz : IsZip s.heap z TI TO .none) (hTI : IsTupOf3 s.heap TI (.ref i1) (.ref i2) (.ref i3)) {a1 a2 a3 : Value} (hTO : IsTupOf3 s.heap TO a1 a2 a3) (st1 : St1 0 s.heap) (st2 : St2 0 s.heap) (st3 : St3 0 s.heap)
    (hQ : ∀ h' tk acc, (∀ b o, b ≠ z → b ≠ TO → b ≠ i1 → b ≠ i2 → b ≠ i3 → s.heap.get? b = some o → h'.get? b = some o) → Acc3 P1 P2 P3 (s.heap.objs.size + 1) n acc h' → Q (.ref h'.objs.size) { s with heap := h'.push { cls := .type "tuple", data := .seq acc }, toks := tk }) :
    wpAny (model prog w) A (call (.type "tuple") [.ref z]) Q E s := by
  refine callType_codes (Q₁ := fun obj s₁ => s₁.TypeIs obj "tuple" ∧ Q obj s₁) F.called_tuple (F.typeCall_tuple_1 _) F.entry_object_init (codeAny_of_tree ?_) fun obj s₁ h₁ => ?_
  · show wpAny _ _ (do checkBuiltinCall "tuple.__new__" ⟨[.type "tuple", .ref z], []⟩; again (.builtin "tuple.__new__" ⟨[.type "tuple", .ref z], []⟩)) _ _ s
    refine wpAny_bind (wpAny_of_eq (F.newCall_tuple_1 _) (wpAny_pure ⟨plainId_quiet F.plain_tuple_new _, codeAny_builtin F.entry_tuple_new ?_⟩))
    rw [Around.under_plainId F.plain_tuple_new _]
    have hsub := sub_tuple_self
    have hinit := init_tuple_lookup
    have hmh := madeHere_tuple
    have hTI' : s.TypeIs (.ref z) "zip" := ⟨_, hz, rfl⟩
    wp_walk using wpAny_typeOf hTI', z3_collect S D1 D2 D3 hn hc hz hTI hTO st1 st2 st3
    intro h' tk acc hk hacc
    show wpAny _ _ (Builtin.Tuple.tupleExact acc.toList.toArray >>= fun v => ret v) _ _ _
    unfold Builtin.Tuple.tupleExact
    refine wpAny_bind (wpAny_newObj_type ?_ (by show acc.toList.toArray.size ≤ sizeLine; simp only [Array.toArray_toList]; rw [hacc.1]; exact hn))
    refine wpAny_pure ?_
    have e : acc.toList.toArray = acc := by simp
    rw [e]
    exact ⟨⟨_, Heap.get?_push_size _ rfl, rfl⟩, hQ h' tk acc hk hacc⟩
  · exact ⟨h₁.1, F.args_object_init_2 obj _, object_init_meets F.called_tuple.init.lookup F.called_tuple.made (by decide) prog w A.in1 _ s₁ ⟨h₁.1, rfl, h₁.2⟩⟩
end
end Bh
/-! the rule of tuple(zip(a, b, c)) -/
namespace Bh
open PySem PySem.Spec PyProof.Rows L2
def zip3D : List D → List D → List D → List D
  | a :: r, b :: s, c :: t => .tup [a, b, c] :: zip3D r s t
  | _, _, _ => []
def bTupZip3 (er : DEs) : DE := fun c σ h => (er c σ h).bind fun ds h1 => match ds with
  | [.tup a, .tup b, .tup d] => if a.length = b.length ∧ a.length = d.length then .ok (.tup (zip3D a b d)) h1 else .bad
  | _ => .bad
section
variable {X : Cx} {Z : Sta} {s0 : S3} {W : WX} {c : Calls} {pos p p2 : Pos}
theorem lay3 {pins : List (Addr × Obj)} {σ : L2.St} {s1 sF : Shared} {Hz : Hp} (I0 : L2.Inv X pins σ Hz s1) : ∀ (us : List Value) (as bs cs : List D) (va vb vc : List V) (sx : S3), Ok3 Z sx → L2.Inv X pins σ sx.H sF → RDs Z sx as va → RDs Z sx bs vb → RDs Z sx cs vc →
    (∀ (j : Nat) (u : Value), us[j]? = some u → ∃ T x1 x2 x3, u = Value.ref T ∧ (∃ v, va[j]? = some v ∧ RelV v x1) ∧ (∃ v, vb[j]? = some v ∧ RelV v x2) ∧ (∃ v, vc[j]? = some v ∧ RelV v x3) ∧ IsTupOf3 sF.heap T x1 x2 x3 ∧ s1.heap.objs.size ≤ T) →
    (∀ (j k : Nat) (T T' : Addr), j < k → us[j]? = some (Value.ref T) → us[k]? = some (Value.ref T') → T < T') → (∀ (j : Nat) (T : Addr), us[j]? = some (Value.ref T) → sx.H T = none) → us.length = as.length → us.length = bs.length → us.length = cs.length →
    ∃ sy vs, sy.h = sx.h ∧ Le sx sy ∧ Ok3 Z sy ∧ L2.Inv X pins σ sy.H sF ∧ Vals vs us ∧ RDs Z sy (zip3D as bs cs) vs ∧ ∀ b, (∀ j : Nat, us[j]? ≠ some (Value.ref b)) → sy.H b = sx.H b
  | [], as, bs, cs, va, vb, vc, sx, ok, I, ra, rb, rc, _, _, _, l1, l2, l3 => by
    have e1 : as = [] := List.eq_nil_of_length_eq_zero l1.symm
    subst e1
    refine ⟨sx, [], rfl, Le.refl _, ok, I, .nil, ?_, fun _ _ => rfl⟩
    show RDs Z sx (zip3D [] bs cs) []
    unfold zip3D
    exact .nil
  | u :: us, as, bs, cs, va, vb, vc, sx, ok, I, ra, rb, rc, h, hst, hfr, l1, l2, l3 => by
    cases ra with
    | nil => simp at l1
    | @cons a v1 as va ra ra' =>
    cases rb with
    | nil => simp at l2
    | @cons b v2 bs vb rb rb' =>
    cases rc with
    | nil => simp at l3
    | @cons cc v3 cs vc rc rc' =>
    obtain ⟨T, x1, x2, x3, rfl, ⟨w1, g1, r1⟩, ⟨w2, g2, r2⟩, ⟨w3, g3, r3⟩, hT, hN⟩ := h 0 u rfl
    cases g1; cases g2; cases g3
    have hn : sx.H T = none := hfr 0 T rfl
    have ly := Le.tmp (o := .tup [v1, v2, v3]) hn
    have oky := ok.tmp (o := .tup [v1, v2, v3]) hn
    have new : ObjOk X.prog X.w (upd sx.H T (.tup [v1, v2, v3])) sF.heap T (.tup [v1, v2, v3]) := ⟨by show 3 ≤ sizeLine; decide, [x1, x2, x3], .cons r1 (.cons r2 (.cons r3 .nil)), ⟨_, hT, rfl, _, rfl⟩⟩
    have I1 : L2.Inv X pins σ (upd sx.H T (.tup [v1, v2, v3])) sF := I.take (h' := sF.heap) (t' := sF.toks) (fun b ob _ e => e) (I0.fpOk hN hn) new
    obtain ⟨sy, vs, e1, e2, e3, e4, e5, e6, e7⟩ := lay3 I0 us as bs cs va vb vc ⟨sx.m, sx.h, upd sx.H T (.tup [v1, v2, v3]), sx.pr, sx.xc⟩ oky I1 (ra'.le ok ly) (rb'.le ok ly) (rc'.le ok ly) (fun j u hj => by
      obtain ⟨T', y1, y2, y3, q1, q2, q3, q4, q5, q6⟩ := h (j + 1) u hj
      exact ⟨T', y1, y2, y3, q1, q2, q3, q4, q5, q6⟩) (fun j k T1 T2 hjk h1 h2 => hst (j + 1) (k + 1) T1 T2 (Nat.succ_lt_succ hjk) h1 h2) (fun j T' hj => by
      have lt := hst 0 (j + 1) T T' (Nat.succ_pos _) rfl hj
      show upd sx.H T (.tup [v1, v2, v3]) T' = none
      rw [upd_ne (Nat.ne_of_gt lt)]
      exact hfr (j + 1) T' hj) (Nat.succ.inj l1) (Nat.succ.inj l2) (Nat.succ.inj l3)
    have hTy : sy.H T = some (.tup [v1, v2, v3]) := by
      rw [e7 T fun j hj => Nat.lt_irrefl _ (hst 0 (j + 1) T T (Nat.succ_pos _) rfl hj)]
      exact upd_same
    have l := ly.trans e2
    refine ⟨sy, .ref T :: vs, e1, l, e3, e4, .cons rfl e5, .cons (.tup (SqT.of hTy) (.cons (ra.le ok l) (.cons (rb.le ok l) (.cons (rc.le ok l) .nil)))) e6, fun b hb => ?_⟩
    rw [e7 b fun j hj => hb (j + 1) hj]
    exact upd_ne fun e => hb 0 (by rw [e]; rfl)
theorem zip3D_len : ∀ {a b d : List D}, a.length = b.length → a.length = d.length → (zip3D a b d).length = a.length
  | [], [], [], _, _ => rfl
  | _ :: _, _ :: _, _ :: _, h1, h2 => by simp only [zip3D, List.length_cons]; rw [zip3D_len (by simpa using h1) (by simpa using h2)]
end
end Bh
set_option maxHeartbeats 400000
namespace Bh
open PySem PySem.Spec PyProof.Rows L2
section
variable {X : Cx} {Z : Sta} {s0 : S3} {W : WX} {c : Calls} {pos p p2 : Pos}
theorem wTupZip3 (C : Ct X Z W) {a b d : Expr} {er : DEs} {p3 : Pos} (hm : X.mg "tuple" = none) (hmz : X.mg "zip" = none) (ha : PA X [a, b, d] (tEs Z W (er c))) (hc : X.calm = true := by rfl) (hg : Gl X "tuple" := by rfl) (hg2 : Gl X "zip" := by rfl) (he : plainE a = true := by rfl) (he2 : [b, d].all plainE = true := by rfl) :
    PE X (.Call (.Name "tuple" p) [.Call (.Name "zip" p3) [a, b, d] [] p2] [] pos) (tE Z W (bTupZip3 er c)) := by
  refine ⟨fun pins s σ H Q I t => ?_⟩
  obtain ⟨sx0, σL, rfl, ok, rs, q⟩ := t
  have est : starEach [Expr.Call (.Name "zip" p3) [a, b, d] [] p2] X.env = (false, eval (Expr.Call (.Name "zip" p3) [a, b, d] [] p2) X.env) :: starEach [] X.env := star_cons (by rfl)
  refine wpAny_Call_Name_kw (ld_blt I hg hm (show bootBuiltins "tuple" = some (.type "tuple") by rfl) (PyProof.Rows.callWith_type1 ?_ est (by rfl)) (by decide) (by rfl))
  rw [est]
  refine Calls.spliced_cons (wpAny_Call_Name_kw (ld_blt I hg2 hmz (show bootBuiltins "zip" = some (.type "zip") by rfl) (PyProof.Rows.callWith_type1 ?_ (star_cons he) (star_any he2)) (by decide) (by rfl)))
  refine thn (ha.run p2 pins s σ sx0.H (fun vs H1 => ∃ s1 a b d va vb vd, s1.H = H1 ∧ vs = [V.ref va, .ref vb, .ref vd] ∧ Ok3 Z s1 ∧ RD Z s1 (.tup a) (.ref va) ∧ RD Z s1 (.tup b) (.ref vb) ∧ RD Z s1 (.tup d) (.ref vd) ∧ a.length = b.length ∧ a.length = d.length ∧ ∀ s', s'.h = s1.h → Le s1 s' → Ok3 Z s' → ∀ v, RD Z s' (.tup (zip3D a b d)) v → Q v s'.H) I ⟨sx0, σL, rfl, ok, rs, ?_⟩) fun us s1 hs1 => ?_
  · refine q.bind.mono (fun ds s1 l1 ok1 q1 vs rv => ?_) fun _ _ _ _ _ q => q
    split at q1
    · rename_i a b d
      split at q1
      · rename_i hl
        cases rv with
        | cons r1 rr =>
        cases rr with
        | cons r2 rr =>
        cases rr with
        | cons r3 rr =>
        cases rr
        cases r1 with
        | tup a1 a2 =>
        cases r2 with
        | tup b1 b2 =>
        cases r3 with
        | tup d1 d2 =>
        exact ⟨s1, a, b, d, _, _, _, rfl, rfl, ok1, .tup a1 a2, .tup b1 b2, .tup d1 d2, hl.1, hl.2, q1⟩
      · exact q1.elim
    · exact q1.elim
  · obtain ⟨vs, H1, I1, r1, s3, a', b', d', va, vb, vd, rfl, rfl, ok1, ra, rb, rd, hl1, hl2, hq⟩ := hs1
    cases ra with
    | @tup _ _ vsa hsa rsa =>
    cases rb with
    | @tup _ _ vsb hsb rsb =>
    cases rd with
    | @tup _ _ vsd hsd rsd =>
    rw [C.hK] at hsa hsb hsd
    obtain ⟨u1, u2, u3, rfl, ru1, ru2, ru3⟩ : ∃ u1 u2 u3, us = [u1, u2, u3] ∧ RelV (V.ref va) u1 ∧ RelV (V.ref vb) u2 ∧ RelV (V.ref vd) u3 := by
      cases r1 with
      | cons x1 y1 =>
        cases y1 with
        | cons x2 y2 =>
          cases y2 with
          | cons x3 y3 =>
            cases y3
            exact ⟨_, _, _, rfl, x1, x2, x3⟩
    obtain ⟨o1, B1, b1, y1, l1, t1⟩ := begins_of I1 (q := .t va) hsa ru1
    obtain ⟨o2, B2, b2, y2, l2, t2⟩ := begins_of I1 (q := .t vb) hsb ru2
    obtain ⟨o3, B3, b3, y3, l3, t3⟩ := begins_of I1 (q := .t vd) hsd ru3
    have lab : vsa.length = vsb.length := by rw [← rsa.length, ← rsb.length, hl1]
    have lad : vsa.length = vsd.length := by rw [← rsa.length, ← rsd.length, hl2]
    refine zip_begins3 b1 b2 b3 y1 y2 y3 fun h' hz hTI hTO g1 g2 g3 hsz hk => Calls.spliced_nil ?_
    have I2 : L2.Inv X pins σ s3.H { s1 with heap := h' } := I1.kept (t' := s1.toks) hk
    have sp := zip_sep3 l1 l2 l3
    rw [← fpS_eq, ← fpS_eq, ← fpS_eq] at sp
    have hA : X.A.in1.in1.in1.in1.handled = none := show X.A.handled = none from I.ok.hd hc
    have nin : ∀ {k : Nat} {q : Sk}, (∀ b ∈ (fpS 0 q).tail, b < s1.heap.objs.size) → s1.heap.objs.size + k ∉ (fpS (s1.heap.objs.size + k) q).tail := fun {k q} hb z => by
      rw [fpS_eq] at z
      exact Nat.lt_irrefl _ (Nat.lt_of_le_of_lt (Nat.le_add_right _ k) (hb _ z))
    obtain ⟨P1, St1, D1, s1', k1, f1⟩ := draws_of I2 (A := X.A.in1.in1.in1.in1) (it := s1.heap.objs.size) hA (q := .t va) (xs := vsa) hsa (nin (k := 0) l1) (t1 _ _ g1)
    obtain ⟨P2, St2, D2, s2', k2, f2⟩ := draws_of I2 (A := X.A.in1.in1.in1.in1) (it := s1.heap.objs.size + 1) hA (q := .t vb) (xs := vsb) hsb (nin (k := 1) l2) (t2 _ _ g2)
    obtain ⟨P3, St3, D3, s3', k3, f3⟩ := draws_of I2 (A := X.A.in1.in1.in1.in1) (it := s1.heap.objs.size + 2) hA (q := .t vd) (xs := vsd) hsd (nin (k := 2) l3) (t3 _ _ g3)
    rw [← lab] at D2
    rw [← lad] at D3
    obtain ⟨ita, rva, pa, hza⟩ := I1.tuple hsa
    have inF : ∀ {k : Nat} {q : Sk} {c : Addr}, k < 6 → (∀ b ∈ (fpS 0 q).tail, b < s1.heap.objs.size) → c ∈ fpS (s1.heap.objs.size + k) q → c < h'.objs.size := fun {k q c} hk6 hb hm => by
      rw [hsz]
      rw [fpS_eq] at hm
      rcases List.mem_cons.mp hm with e | hm
      · rw [e]; exact Nat.add_lt_add_left hk6 _
      · exact Nat.lt_of_lt_of_le (hb _ hm) (Nat.le_add_right _ _)
    refine z3_tuple (n := vsa.length) sp D1 D2 D3 hza (fun c hcm => ?_) hz hTI hTO s1' s2' s3' fun h2 tk acc hk2 hacc => ?_
    · show c < h'.objs.size
      rcases hcm with e | e | e | e | e | e
      · rw [e, hsz]; exact Nat.add_lt_add_left (by decide : 5 < 6) _
      · rw [e, hsz]; exact Nat.add_lt_add_left (by decide : 3 < 6) _
      · rw [e, hsz]; exact Nat.add_lt_add_left (by decide : 4 < 6) _
      · exact inF (k := 0) (by decide) l1 e
      · exact inF (k := 1) (by decide) l2 e
      · exact inF (k := 2) (by decide) l3 e
    · have old : ∀ b o, s1.heap.get? b = some o → (h2.push { cls := .type "tuple", data := .seq acc }).get? b = some o := fun b o e => by
        have lt := Heap.lt_size e
        have ne : ∀ k : Nat, b ≠ s1.heap.objs.size + k := fun k z => Nat.lt_irrefl _ (Nat.lt_of_lt_of_le lt (Nat.le_trans (Nat.le_add_right _ k) (Nat.le_of_eq z.symm)))
        exact Heap.get?_push_of_some _ (hk2 b o (ne 5) (ne 4) (ne 0) (ne 1) (ne 2) (hk b o e))
      have IF : L2.Inv X pins σ s3.H { s1 with heap := h2.push { cls := .type "tuple", data := .seq acc }, toks := tk } := I1.kept (t' := tk) old
      have hN : ∀ T : Addr, h'.objs.size + 1 ≤ T → s1.heap.objs.size ≤ T := fun T h => Nat.le_trans (Nat.le_trans (by rw [hsz]; exact Nat.le_add_right _ _) (Nat.le_succ _)) h
      have hO : s1.heap.objs.size ≤ h2.objs.size := by
        have e1 := hk2 _ _ sp.TIz sp.TITO sp.TIi1 sp.TIi2 sp.TIi3 hTI
        exact Nat.le_trans (Nat.le_add_right _ 3) (Nat.le_of_lt (Heap.lt_size e1))
      obtain ⟨sy, vs, e1, e2, e3, e4, e5, e6, e7⟩ := lay3 (sF := { s1 with heap := h2.push { cls := .type "tuple", data := .seq acc }, toks := tk }) I1 acc.toList a' b' d' vsa vsb vsd s3 ok1 IF rsa rsb rsd (fun j u hj => by
        rw [Array.getElem?_toList] at hj
        obtain ⟨T, x1, x2, x3, q1, q2, q3, q4, q5, q6⟩ := hacc.2.1 j u hj
        exact ⟨T, x1, x2, x3, q1, f1 j x1 q2, f2 j x2 q3, f3 j x3 q4, Heap.get?_push_of_some _ q5, hN T q6⟩) (fun j k T T' hjk h1 h2 => hacc.2.2 j k T T' hjk (by rw [← Array.getElem?_toList]; exact h1) (by rw [← Array.getElem?_toList]; exact h2)) (fun j T hj => by
        rw [Array.getElem?_toList] at hj
        obtain ⟨T', x1, x2, x3, q1, q2, q3, q4, q5, q6⟩ := hacc.2.1 j _ hj
        cases q1
        exact I1.hok.fresh (hN T q6)) (by rw [Array.length_toList, hacc.1, rsa.length]) (by rw [Array.length_toList, hacc.1, lab, rsb.length]) (by rw [Array.length_toList, hacc.1, lad, rsd.length])
      have hn : sy.H h2.objs.size = none := by
        rw [e7 h2.objs.size fun j hj => ?_]
        · exact I1.hok.fresh hO
        · rw [Array.getElem?_toList] at hj
          obtain ⟨T', x1, x2, x3, q1, q2, q3, q4, q5, q6⟩ := hacc.2.1 j _ hj
          cases q1
          exact Nat.lt_irrefl _ (Heap.lt_size q5)
      have l := Le.tmp (o := .tup vs) hn
      have hat : (h2.push { cls := .type "tuple", data := .seq acc }).get? h2.objs.size = some { cls := .type "tuple", data := .seq acc.toList.toArray } := by
        rw [Array.toArray_toList]; exact Heap.get?_push_size _ rfl
      have new : ObjOk X.prog X.w (upd sy.H h2.objs.size (.tup vs)) (h2.push { cls := .type "tuple", data := .seq acc }) h2.objs.size (.tup vs) := ⟨by rw [e5.length, Array.length_toList, hacc.1]; exact hza, acc.toList, e5, ⟨_, hat, rfl, _, rfl⟩⟩
      have IZ := e4.take (h' := h2.push { cls := .type "tuple", data := .seq acc }) (t' := tk) (fun b ob _ e => e) (I1.fpOk hO hn) new
      exact ⟨.ref h2.objs.size, _, IZ, rfl, hq ⟨sy.m, sy.h, upd sy.H h2.objs.size (.tup vs), sy.pr, sy.xc⟩ e1 (e2.trans l) (e3.tmp hn) _ (.tup (SqT.of upd_same) (e6.le e3 l))⟩
end
end Bh
set_option maxHeartbeats 4000000
namespace Bh
open PySem PySem.Spec PyProof.Rows L2
def bYes : DT := fun _ _ h => .ok true h
def blkB (N : List PySem.Str) (sc scope : Scope) (own : List (PySem.Str × Nat)) : Bool :=
  decide (scope.kind = .function) && (scope.names.all fun y => decide (scope.names.lookup y.1 = some y.2)) && (own.all fun p => decide (N[p.2]? = some p.1)) &&
    (scope.names.all fun y => decide (y.2 = .free) == false || (decide (sc.names.lookup y.1 = some .cell) || decide (sc.names.lookup y.1 = some .free))) &&
    (scope.names.all fun y => (decide (y.2 = .local) || decide (y.2 = .cell)) == false || (decide (y.1 ∈ own.map (·.1)) || decide (y.1 ∉ N)))
theorem blkB_ok {N : List PySem.Str} {sc scope : Scope} {own : List (PySem.Str × Nat)} (h : blkB N sc scope own = true) : BlkOk N sc scope own := by
  unfold blkB at h
  simp only [Bool.and_eq_true, List.all_eq_true, decide_eq_true_eq] at h
  obtain ⟨⟨⟨⟨h1, h2⟩, h3⟩, h4⟩, h5⟩ := h
  refine ⟨h1, h2, h3, fun y hy e => ?_, fun y hy e => ?_⟩
  · have z := h4 y hy
    simpa [e] using z
  · have z := h5 y hy
    rcases e with e | e <;> simpa [e] using z
section
variable {X : Cx} {Z : Sta} {s0 : S3} {W : WX} {c : Calls} {pos p p2 : Pos}
theorem names_w {X : Cx} {x : PySem.Str} {cv : Value} (hm : X.mg x = some cv) (hg : Gl X x := by rfl) (hd : (x == ("__debug__" : PySem.Str)) = false := by rfl) : Names X x cv := ⟨hg, hd, .inl hm⟩
theorem wAsgT (C : Ct X Z W) {es ts : List Expr} {k k2 : Nat} {pt p2 : Pos} {t : Tg} {ee : DE} (hg : PG X (.Tuple ts k pt) (tG Z s0 t)) (he : PE X (.Tuple es k2 p2) (tE Z W (ee c))) (hw : swQ X.env ts es = 0 := by rfl) : PS X (.Assign [.Tuple ts k pt] (.Tuple es k2 p2) pos) (tS Z s0 W (bAsgG t ee c)) := ss_asgG hg he (swaps_sole rfl) (by rw [sw_eq, if_pos hw]) (asg_each rfl)
theorem wYes : PTs X [] (tB_ Z W0 (bYes c)) := pts_yes (c := c)
theorem wLc (C : Ct X Z W) {elt iter tg : Expr} {ifs : List Expr} {scope : Scope} {own : List (PySem.Str × Nat)} {t : Tg} {ei : DI} {eq : DT} {ee : DE} (hi : PI X tg iter (tI Z W (ei c))) (ok : BlkOk X.N X.env.scope scope own)
    (hg : ∀ s H Ca cl fp σ0, Ct (Blk X scope s H Ca cl fp) Z W0 → PG (Blk X scope s H Ca cl fp) tg (tGP Z (PB Z (own.map (·.2)) σ0) t)) (ht : ∀ s H Ca cl fp, Ct (Blk X scope s H Ca cl fp) Z W0 → PTs (Blk X scope s H Ca cl fp) ifs (tB_ Z W0 (eq c))) (he : ∀ s H Ca cl fp, Ct (Blk X scope s H Ca cl fp) Z W0 → PE (Blk X scope s H Ca cl fp) elt (tE Z W0 (ee c))) (hs : noSet iter = true := by rfl) (hc : X.calm = true := by rfl) :
    PE X (.ListComp elt [⟨tg, iter, ifs, 0⟩] scope pos) (tN Z W (bLc (own.map (·.2)) t ei eq ee c)) :=
  sn_lc hc C.hN hi ok (fun s H Ca cl fp σ0 => hg s H Ca cl fp σ0 (C.blk s H Ca cl fp)) (fun s H Ca cl fp => ht s H Ca cl fp (C.blk s H Ca cl fp)) (fun s H Ca cl fp => he s H Ca cl fp (C.blk s H Ca cl fp)) (folded_ok hs)
theorem wLcS (C : Ct X Z W) (i : Nat) {y : PySem.Str} {py : Pos} {elt iter tg : Expr} {ifs : List Expr} {scope : Scope} {own : List (PySem.Str × Nat)} {t : Tg} {ei : DI} {eq : DT} {ee : DE} {spos : Pos} (hi : PI X tg iter (tI Z W (ei c))) (ok : BlkOk X.N X.env.scope scope own)
    (hg : ∀ s H Ca cl fp σ0, Ct (Blk X scope s H Ca cl fp) Z W0 → PG (Blk X scope s H Ca cl fp) tg (tGP Z (PB Z (own.map (·.2)) σ0) t)) (ht : ∀ s H Ca cl fp, Ct (Blk X scope s H Ca cl fp) Z W0 → PTs (Blk X scope s H Ca cl fp) ifs (tB_ Z W0 (eq c))) (he : ∀ s H Ca cl fp, Ct (Blk X scope s H Ca cl fp) Z W0 → PE (Blk X scope s H Ca cl fp) elt (tE Z W0 (ee c)))
    (hs : noSet iter = true := by rfl) (hc : X.calm = true := by rfl) (hy : X.N[i]? = some y := by rfl) (hyl : X.env.scope.names.lookup y = some .local := by rfl) (hsw : swapsWith (.ListComp elt [⟨tg, iter, ifs, 0⟩] scope pos) (some (.Name y py)) spos.line X.env = pure true := by rfl) :
    PS X (.Assign [.Name y py] (.ListComp elt [⟨tg, iter, ifs, 0⟩] scope pos) spos) (tAsg (tN Z W (bLc (own.map (·.2)) t ei eq ee c)) (gName i)) :=
  ss_lcS hc C.hN hy hyl hsw hi ok (fun s H Ca cl fp σ0 => hg s H Ca cl fp σ0 (C.blk s H Ca cl fp)) (fun s H Ca cl fp => ht s H Ca cl fp (C.blk s H Ca cl fp)) (fun s H Ca cl fp => he s H Ca cl fp (C.blk s H Ca cl fp)) (folded_ok hs)
theorem wLcN (C : Ct X Z W) (i : Nat) {y : PySem.Str} {py : Pos} {e : Expr} {er : DEs} {spos : Pos} (h : PE X e (tN Z W (er c))) (hi : X.N[i]? = some y := by rfl) (hx : Loc X.env.scope y := by first | exact .inl rfl | exact .inr rfl) (hs : swapsWith e (some (.Name y py)) spos.line X.env = pure false := by rfl) (hf : X.fn y = true ∨ X.env.scope.names.lookup y = some .local := by first | exact .inl rfl | exact .inr rfl) :
    PS X (.Assign [.Name y py] e spos) (tAsg (tN Z W (er c)) (gName i)) := ps_set C.hN hi hx h hs hf
theorem wLc2 (C : Ct X Z W) {elt iter iter1 tg tg1 : Expr} {ifs ifs1 : List Expr} {scope : Scope} {own : List (PySem.Str × Nat)} {vs1 : List Nat} {t t1 : Tg} {ei ei1 : DI} {eq eq1 : DT} {ee : DE} (hi : PI X tg iter (tI Z W (ei c))) (ok : BlkOk X.N X.env.scope scope own) (hv : ∀ i ∈ vs1, i ∈ own.map (·.2))
    (hg : ∀ s H Ca cl fp σ0, Ct (Blk X scope s H Ca cl fp) Z W0 → PG (Blk X scope s H Ca cl fp) tg (tGP Z (PB Z (own.map (·.2)) σ0) t)) (ht : ∀ s H Ca cl fp, Ct (Blk X scope s H Ca cl fp) Z W0 → PTs (Blk X scope s H Ca cl fp) ifs (tB_ Z W0 (eq c)))
    (hi1 : ∀ s H Ca cl fp, Ct (Blk X scope s H Ca cl fp) Z W0 → PI (Blk X scope s H Ca cl fp) tg1 iter1 (tI Z W0 (ei1 c))) (hg1 : ∀ s H Ca cl fp σ0, Ct (Blk X scope s H Ca cl fp) Z W0 → PG (Blk X scope s H Ca cl fp) tg1 (tGP Z (PB Z vs1 σ0) t1)) (ht1 : ∀ s H Ca cl fp, Ct (Blk X scope s H Ca cl fp) Z W0 → PTs (Blk X scope s H Ca cl fp) ifs1 (tB_ Z W0 (eq1 c)))
    (he : ∀ s H Ca cl fp, Ct (Blk X scope s H Ca cl fp) Z W0 → PE (Blk X scope s H Ca cl fp) elt (tE Z W0 (ee c))) (hs : noSet iter = true := by rfl) (hs1 : noSet iter1 = true := by rfl) (hc : X.calm = true := by rfl) :
    PE X (.ListComp elt [⟨tg, iter, ifs, 0⟩, ⟨tg1, iter1, ifs1, 0⟩] scope pos) (tN Z W (bLc2 (own.map (·.2)) t ei eq vs1 t1 ei1 eq1 ee c)) :=
  sn_lc2 hc C.hN hi ok hv (fun s H Ca cl fp σ0 => hg s H Ca cl fp σ0 (C.blk s H Ca cl fp)) (fun s H Ca cl fp => ht s H Ca cl fp (C.blk s H Ca cl fp)) (fun s H Ca cl fp => hi1 s H Ca cl fp (C.blk s H Ca cl fp)) (fun s H Ca cl fp σ0 => hg1 s H Ca cl fp σ0 (C.blk s H Ca cl fp)) (fun s H Ca cl fp => ht1 s H Ca cl fp (C.blk s H Ca cl fp)) (fun s H Ca cl fp => he s H Ca cl fp (C.blk s H Ca cl fp)) (folded_ok hs) (fun _ => folded_ok hs1)
theorem wLc2S (C : Ct X Z W) (i : Nat) {y : PySem.Str} {py : Pos} {elt iter iter1 tg tg1 : Expr} {ifs ifs1 : List Expr} {scope : Scope} {own : List (PySem.Str × Nat)} {vs1 : List Nat} {t t1 : Tg} {ei ei1 : DI} {eq eq1 : DT} {ee : DE} {spos : Pos} (hi : PI X tg iter (tI Z W (ei c))) (ok : BlkOk X.N X.env.scope scope own) (hv : ∀ i ∈ vs1, i ∈ own.map (·.2))
    (hg : ∀ s H Ca cl fp σ0, Ct (Blk X scope s H Ca cl fp) Z W0 → PG (Blk X scope s H Ca cl fp) tg (tGP Z (PB Z (own.map (·.2)) σ0) t)) (ht : ∀ s H Ca cl fp, Ct (Blk X scope s H Ca cl fp) Z W0 → PTs (Blk X scope s H Ca cl fp) ifs (tB_ Z W0 (eq c)))
    (hi1 : ∀ s H Ca cl fp, Ct (Blk X scope s H Ca cl fp) Z W0 → PI (Blk X scope s H Ca cl fp) tg1 iter1 (tI Z W0 (ei1 c))) (hg1 : ∀ s H Ca cl fp σ0, Ct (Blk X scope s H Ca cl fp) Z W0 → PG (Blk X scope s H Ca cl fp) tg1 (tGP Z (PB Z vs1 σ0) t1)) (ht1 : ∀ s H Ca cl fp, Ct (Blk X scope s H Ca cl fp) Z W0 → PTs (Blk X scope s H Ca cl fp) ifs1 (tB_ Z W0 (eq1 c)))
    (he : ∀ s H Ca cl fp, Ct (Blk X scope s H Ca cl fp) Z W0 → PE (Blk X scope s H Ca cl fp) elt (tE Z W0 (ee c))) (hs : noSet iter = true := by rfl) (hs1 : noSet iter1 = true := by rfl) (hc : X.calm = true := by rfl) (hy : X.N[i]? = some y := by rfl) (hyl : X.env.scope.names.lookup y = some .local := by rfl)
    (hsw : swapsWith (.ListComp elt [⟨tg, iter, ifs, 0⟩, ⟨tg1, iter1, ifs1, 0⟩] scope pos) (some (.Name y py)) spos.line X.env = pure true := by rfl) :
    PS X (.Assign [.Name y py] (.ListComp elt [⟨tg, iter, ifs, 0⟩, ⟨tg1, iter1, ifs1, 0⟩] scope pos) spos) (tAsg (tN Z W (bLc2 (own.map (·.2)) t ei eq vs1 t1 ei1 eq1 ee c)) (gName i)) :=
  ss_lc2S hc C.hN hy hyl hsw hi ok hv (fun s H Ca cl fp σ0 => hg s H Ca cl fp σ0 (C.blk s H Ca cl fp)) (fun s H Ca cl fp => ht s H Ca cl fp (C.blk s H Ca cl fp)) (fun s H Ca cl fp => hi1 s H Ca cl fp (C.blk s H Ca cl fp)) (fun s H Ca cl fp σ0 => hg1 s H Ca cl fp σ0 (C.blk s H Ca cl fp)) (fun s H Ca cl fp => ht1 s H Ca cl fp (C.blk s H Ca cl fp)) (fun s H Ca cl fp => he s H Ca cl fp (C.blk s H Ca cl fp)) (folded_ok hs) (fun _ => folded_ok hs1)
theorem wMaxK (C : Ct X Z W) {lev k : Nat} (hr : Room (lev + 1) X.A) {x : PySem.Str} {e : Expr} {ea : DE} {p3 p4 : Pos} (F : DefOk X Z c lev k 1) (hm : X.mg "max" = none) (hf : X.mg x = some (.ref (Z.fa k))) (ha : PE X e (tE Z W (ea c))) (hc : X.calm = true := by rfl) (hg : Gl X "max" := by rfl) (hg2 : Gl X x := by rfl) (hdb : (x == ("__debug__" : PySem.Str)) = false := by rfl) (he : plainE e = true := by rfl) :
    PE X (.Call (.Name "max" p) [e] [⟨some "key", .Name x p3, p4⟩] pos) (tE Z W (bMaxK k ea c)) := by
  have st : starEach [e] X.env = (false, eval e X.env) :: starEach [] X.env := star_cons he
  refine (pe_callBK (cr_maxK (k := k) (c := c) C.hK hc hr F) hg hm (show bootBuiltins "max" = some (.builtin "max") by rfl) (pa_cons ha pa_nil st) (pk_cons (pe_glob (v := .ref (Z.fa k)) hg2 hf rfl hdb) pk_nil) (by decide) (by rfl) (by rw [st]; rfl) (by rw [st]; rfl) (by rfl) (by rfl) (by rfl)).imp fun σ H Q t => ?_
  obtain ⟨s, σL, e1, ok, rs, q⟩ := t
  refine ⟨s, σL, e1, ok, rs, q.bind.mono (fun d s1 l1 ok1 q1 v rv => ?_) fun _ _ _ _ _ q => q⟩
  split at q1
  · rename_i y ys
    split at q1
    · rename_i hall
      obtain ⟨r, er, hq⟩ := post_opt q1
      exact ⟨s1, y, ys, v, r, rfl, rfl, rfl, ok1, rv, hall, er, fun s' e l k v rv => hq s' e l k v rv⟩
    · exact q1.elim
  · exact q1.elim
end
end Bh
/-! Bh, part 37: the head: what the top leaves behind, told by Bools. -/
namespace Bh
open PySem PySem.Spec PyProof.Rows L2 PySem.W
def oexB (K : Frag) (C : Addr) : Bool := (match K.lookup C with
  | some ⟨.type "type", _, .cls cd, sl⟩ => (match cd.mro, sl.toList with
    | .ref C' :: bm, [_, _, _, _, some (.builtin n), _] => C' == C && (n == "ValueError.__new__" && (!cd.hasDel && (cd.hasDict && HandSPX.refsVE bm)))
    | _, _ => false)
  | _ => false) && (decide (findIn K (.ref C) "__setattr__" = some (some (.builtin "object.__setattr__"))) && (decide (subIn K (.ref C) (.type "BaseException") = some true) && (decide (typeIn K (.ref C) = some (.type "type")) && keepIn K (.ref C))))
theorem oexB_ok {K : Frag} {C : Addr} (h : oexB K C = true) : OexC K C := by
  unfold oexB at h
  rw [Bool.and_eq_true] at h
  obtain ⟨q, h⟩ := h
  simp only [Bool.and_eq_true, decide_eq_true_eq] at h
  obtain ⟨h1, h2, h3, h4⟩ := h
  refine ⟨?_, h1, h2, h3, h4⟩
  split at q
  · rename_i dd cd sl ho
    split at q
    · rename_i C' bm k0 k1 k2 k3 n k5 hm hs
      simp only [Bool.and_eq_true, beq_iff_eq, Bool.not_eq_true'] at q
      obtain ⟨rfl, rfl, hdel, hdi, ht⟩ := q
      obtain ⟨nm, bs, mro, ns, qn, hd, sn, sub, ab, col, del⟩ := cd
      dsimp only at hm hdel hdi
      subst hm hdel hdi
      have hsl : sl = #[k0, k1, k2, k3, some (.builtin "ValueError.__new__"), k5] := by
        obtain ⟨l⟩ := sl
        simp only at hs
        rw [hs]
      subst hsl
      exact ⟨nm, qn, ns, bs, bm, sn, sub, ab, col, dd, k0, k1, k2, k3, k5, ho, ht⟩
    · cases q
  · cases q
def supCB (K : Frag) (C D : Addr) : Bool := decide (mroIn K C (.ref D) = some true) && ((match clsIn K C with
  | some cd => decide (alongIn K "__init__" ((cd.mro.dropWhile (· != .ref D)).drop 1) = some (some (.builtin "ValueError.__init__")))
  | none => false) && decide (mroIn K C (.type "ValueError") = some true))
theorem supCB_ok {K : Frag} {C D : Addr} (h : supCB K C D = true) : SupC K C D := by
  unfold supCB at h
  simp only [Bool.and_eq_true, decide_eq_true_eq] at h
  obtain ⟨h1, h2, h3⟩ := h
  refine ⟨h1, ?_, h3⟩
  split at h2
  · rename_i cd e
    exact ⟨cd, e, of_decide_eq_true h2⟩
  · cases h2
/-- a method's function, with the cell of __class__ -/
def fdOf (K : Frag) (f : Addr) : Option FuncData := match K.lookup f with
  | some ⟨_, _, .func fd, _⟩ => some fd
  | _ => none
def ccOf (K : Frag) (f : Addr) : Addr := match fdOf K f with
  | some fd => (match fd.closure with
    | [(_, c)] => c
    | _ => 0)
  | none => 0
def cdOf (K : Frag) (f : Addr) : Addr := match fdOf K f with
  | some fd => (match fd.code with
    | .ref c => c
    | _ => 0)
  | none => 0
abbrev FnS : Type := Option (PySem.Str × PySem.Str × Arguments × FuncBody × Scope × Addr × Addr)
def fnS (K : Frag) (f : Addr) : FnS := (fdOf K f).map fun fd => (fd.name, fd.qualname, fd.params, fd.body, fd.scope, fd.globals, fd.builtins)
def supFB (P : Program) (K : Frag) (f D : Addr) (qual : PySem.Str) : Bool := (match fdOf K f with
  | some fd => decide (fd.closure = [(("__class__" : PySem.Str), ccOf K f)]) && (decide (fd.code = .ref (cdOf K f)) && (match fd.defaults with | .none => true | _ => false))
  | none => false) && (codeIn K (.ref (cdOf K f)) qual && ((match K.lookup (cdOf K f) with
    | some ⟨_, _, .fields vs, _⟩ => (match (vs[2]? : Option Value) with
      | some (Value.str file _) => (P.main.file : PySem.Str) == file
      | _ => false)
    | _ => false) && ((match K.lookup (ccOf K f) with
    | some ⟨_, _, .cell (some (.ref D')), _⟩ => D' == D
    | _ => false) && ((clsIn K D).isSome && (decide (nsIn K cStatics "thirdparty.any" = some none) && decide (typeIn K (.ref f) = some (.type "function")))))))
theorem fdOf_some {K : Frag} {f : Addr} {fd : FuncData} (h : fdOf K f = some fd) : ∃ oc od osl, K.lookup f = some ⟨oc, od, .func fd, osl⟩ := by
  unfold fdOf at h
  split at h
  · rename_i oc od fd' osl e
    cases h
    exact ⟨oc, od, osl, e⟩
  · cases h
/-- the def as the text has it -/
structure IniD where
  name : PySem.Str
  qual : PySem.Str
  params : Arguments
  body : List Stmt
  scope : Scope
def IniD.val (d : IniD) : FnS := some (d.name, d.qual, d.params, .stmts d.body, d.scope, mainGlobals, builtinsNs)
abbrev IniD.nf (d : IniD) (K : Frag) (f : Addr) : NdefX.NF := ⟨d.name, d.qual, d.params, d.body, d.scope, [(("__class__" : PySem.Str), ccOf K f)], cdOf K f⟩
theorem supF_of {P : Program} {K : Frag} {mg : PySem.Str → Option Value} {f D : Addr} {d : IniD} {N ps : List PySem.Str} {me : PySem.Str} (e : fnS K f = d.val) (b : supFB P K f D d.qual = true) (S : NdefX.NScope N ps ["__class__"] d.scope) (ks : d.scope.names.lookup ("super" : PySem.Str) = some .globalImplicit)
    (hp : ∃ ar, (d.params.posonlyargs ++ d.params.args).head? = some ar ∧ ar.arg = me) (m : mg "super" = none) (top : (P.main.scope.names.lookup ("super" : PySem.Str)).isSome = false) (n0 : N[0]? = some me) (l0 : d.scope.names.lookup me = some .local) :
    SupF P K mg f (ccOf K f) D (d.nf K f) N ps me ∧ (∃ fd, fdOf K f = some fd ∧ fd.defaults = .none) ∧ typeIn K (.ref f) = some (.type "function") := by
  unfold supFB at b
  simp only [Bool.and_eq_true, decide_eq_true_eq] at b
  obtain ⟨b1, b2, b3, b4, b5, b6, b7⟩ := b
  unfold fnS IniD.val at e
  cases q : fdOf K f with
  | none => rw [q] at e; cases e
  | some fd =>
    rw [q] at e b1
    simp only [Bool.and_eq_true, decide_eq_true_eq] at b1
    obtain ⟨c1, c2, c3⟩ := b1
    obtain ⟨oc, od, osl, lk⟩ := fdOf_some q
    obtain ⟨g1, g2, g3, g4, g5, g6, g7, g8, g9, g10, g11, g12, g13, g14, g15⟩ := fd
    simp only [Option.map_some, Option.some.injEq, Prod.mk.injEq] at e
    obtain ⟨h1, h2, h3, h4, h5, h6, h7⟩ := e
    dsimp only at c1 c2 c3
    subst h1 h2 h3 h4 h5 h6 h7
    have c3' : g8 = .none := by
      cases g8 <;> first | rfl | cases c3
    refine ⟨⟨⟨oc, od, g8, g9, g10, g11, g12, g14, osl, ?_⟩, b2, rfl, S, ks, hp, ?_, ?_, ?_, m, top, b6, n0, l0⟩, ⟨_, rfl, c3'⟩, b7⟩
    · rw [lk, c1, c2]
    · split at b3
      · rename_i cl cdd vs ccs e3
        split at b3
        · rename_i file tf e4
          exact ⟨cl, cdd, vs, ccs, file, tf, e3, e4, b3⟩
        · cases b3
      · cases b3
    · split at b4
      · rename_i cl cld D' csl e4
        have : D' = D := by simpa using b4
        subst this
        exact ⟨cl, cld, csl, e4⟩
      · cases b4
    · cases e5 : clsIn K D with
      | none => rw [e5] at b5; cases b5
      | some cdD => exact ⟨cdD, rfl⟩
theorem call_super_eval {o : Expr} {m : PySem.Str} {es : List Expr} {env : Env} {apos pos : Pos} (hes : es.all plainE = true) (hl : es.length < 30) (hline : (apos.endLine == pos.line) = true) :
    eval (.Call (.Attribute o m apos) es [] pos) env = (do
      let ov ← attributeBase o m env (eval o env)
      standAt apos.atName
      let (f, first) ← holding [ov] (getMethod ov m (do return (← importBound o env).getD true))
      callWith pos f first (backTo pos (starEach es env)) []) := by
  have e1 : eval (.Call (.Attribute o m apos) es [] pos) env = (do
      let ov ← attributeBase o m env (eval o env)
      standAt apos.atName
      methodCall o m apos pos env ov (es.length + 0) (backTo pos (starEach es env)) (backToKw pos (keywordEach [] env))) := by rfl
  rw [e1]
  have e2 : ∀ ov, methodCall o m apos pos env ov (es.length + 0) (backTo pos (starEach es env)) (backToKw pos (keywordEach [] env)) = (do
      let (f, first) ← holding [ov] (getMethod ov m (do return (← importBound o env).getD true))
      callWith pos f first (backTo pos (starEach es env)) []) := fun ov => by
    unfold methodCall
    rw [form_ok hes hl]
    have e3 : methodCallPos true o env apos pos = pure pos := by
      unfold methodCallPos
      rw [hline]
      rfl
    rw [e3]
    rfl
  simp only [e2]
section
variable {P : Program} {w : World} {K : Frag} {mg : PySem.Str → Option Value} {base : Heap} {CX : CXT} {k : Nat} {f cc D : Addr} {F : NdefX.NF}
/-- __init__(self, r): super().__init__(r); self.r = r -/
theorem ini_one {r : PySem.Str} {p0 p1 apos pos pos2 pr q1 q2 q3 q4 : Pos} (S : SupF P K mg f cc D F ["self", r, "__class__"] ["self", r] "self")
    (hb : F.body = [.Expr (.Call (.Attribute (.Call (.Name "super" p0) [] [] p1) "__init__" apos) [.Name r pr] [] pos) pos2, .Assign [.Attribute (.Name "self" q1) r q2] (.Name r q3) q4])
    (hl : (apos.endLine == pos.line) = true) (lr : F.scope.names.lookup r = some .local) (d1 : (r == ("__debug__" : PySem.Str)) = false) (d2 : (r == ("__classdict__" : PySem.Str)) = false) :
    ∃ fd oc od osl, K.lookup f = some ⟨oc, od, .func fd, osl⟩ ∧ fd.params = F.params ∧ FnOk P w K mg base CX (k + 1) f fd ["self", r] (spSup K D 1 fun ws => [(r, ws.getD 0 .non)]) := by
  refine fn_sup rfl S hb (fun env => star_cons rfl) (fun env => rfl) (fun env => call_super_eval rfl (by show 1 < 30; decide) hl) (fun A outer s H E => ⟨_, pa_cons (pe_var (i := 1) rfl (.inl lr) d1 d2) pa_nil (star_cons rfl), fun ws a H hw => ?_⟩) fun A outer s H E => ⟨_, pss_one (ps_ost (pe_var (i := 0) rfl (.inl S.l0) rfl rfl) (pe_var (i := 1) rfl (.inl lr) d1 d2) (by rfl)), fun Q a C ws H hw T hf ha q => ?_⟩
  · match ws, hw with
    | [w0], _ => exact ⟨w0, rfl, rfl, by show 1 ≤ 1000; decide⟩
  · match ws, hw with
    | [w0], _ => exact ⟨w0, rfl, .ref a, rfl, a, C, rfl, T, hf (r, w0) (List.mem_singleton.mpr rfl), .inl ⟨ha, fun dx hdx hne => q dx _ hdx hne upd_same (by rw [upd_ne hne, upd_same]; rfl) fun b h1 h2 => by rw [upd_ne h1, upd_ne h2]⟩⟩
end
end Bh
/-! Bh, part 38: the end. -/
namespace Bh
open PySem PySem.Spec PyProof.Rows L2 PySem.W
theorem fn_cx0 {P : Program} {w : World} {K : Frag} {mg : PySem.Str → Option Value} {base : Heap} {k : Nat} {f : Addr} {fd : FuncData} {ps : List PySem.Str} {sp : Sp} (F : FnOk P w K mg base (L2.CX P w) k f fd ps sp) : FnOk P w K mg base CX0 k f fd ps (fun vs H Q _ => sp vs H Q fun _ _ _ => False) :=
  ⟨fun vs H Q E h => F.len _ _ _ _ h, fun A outer s H args us vs Q E hr he hb hv hs => codeAny_mono (F.run A outer s H args us vs Q _ hr he hb hv hs) fun r s' hq => by
    cases r with
    | error e =>
      obtain ⟨a, B, H', cls, d, _, _, _, _, _, _, _, z⟩ := hq
      exact z.elim
    | ok fl => cases fl <;> exact hq⟩
theorem ints_rd {Z : Sta} (s : S3) : ∀ ns : List Int, RDs Z s (ns.map .int) (ns.map V.int)
  | [] => .nil
  | i :: r => .cons (.int i) (ints_rd s r)
/-- the law's promise, from its value -/
theorem sp_law {Z : Sta} {c : Calls} {n : Nat} {H : Hp} {a : Addr} {ns : List Int} (hO : Only H) (hS : SqL Z.K H a (ns.map V.int)) {h' : LH} (e : c n [.ref 0] [.lkL (ns.map .int)] = .ok (.bl true) h') :
    spF Z c n 1 [.ref a] H (fun v _ => v = .bl true) fun _ _ _ => False := by
  have rd : RDs Z (⟨[a], [.lkL (ns.map .int)], H, fun _ => False, none⟩ : S3) (ns.map .int) (ns.map V.int) := by
    exact ints_rd _ ns
  refine ⟨⟨[a], [.lkL (ns.map .int)], H, fun _ => False, none⟩, [.ref 0], rfl, ⟨rfl, fun i j b o o' h1 m1 h2 m2 _ _ => ?_, fun i o ho => ?_, fun b hb => hb.elim⟩, .cons (.ref rfl) .nil, rfl, ?_⟩
  · match i, h1 with
    | 0, h1 => cases h1; cases m1
  · match i, ho with
    | 0, ho =>
      cases ho
      refine ⟨a, rfl, ns.map V.int, ?_, rd⟩
      rcases hS with hS | hS
      · rcases hS with hS | ⟨o, hS⟩
        · rcases hO a with z | ⟨o, xs, z⟩ <;> (rw [hS] at z; cases z)
        · exact .inl ⟨o, hS⟩
      · exact .inr hS
  · show PostV _ _ (c n [.ref 0] [.lkL (ns.map .int)]) _ _
    rw [e]
    intro s' _ _ _ v rv
    cases rv
    rfl
end Bh
/-! Bh, part 39: wrappers for objects, computed calls, xs[::-1] -/
namespace Bh
open PySem PySem.Spec PyProof.Rows L2
def bRevL (a : DE) : DEs := fun c σ h => (a c σ h).bind fun x h1 => optO ((lstOf h1 x).map List.reverse) h1
section
variable {X : Cx} {Z : Sta} {s0 : S3} {W : WX} {c : Calls} {pos p p2 apos : Pos}
theorem wFn (C : Ct X Z W) (n : Nat) {x : PySem.Str} (m : X.mg x = some (.ref (Z.fa n))) (hg : Gl X x := by rfl) (hd : (x == ("__debug__" : PySem.Str)) = false := by rfl) : PE X (.Name x pos) (tE Z W (bLit (.fn n) c)) :=
  sd_glob (v := .ref (Z.fa n)) hg m rfl (fun _ => .fn n) hd
theorem wMake (C : Ct X Z W) {lev k n ar : Nat} (hr : Room (lev + 1) X.A) {x : PySem.Str} {e : Expr} {es : List Expr} {er : DEs} (mk : Mk X.K (Z.ca k) (Z.fa n)) (F : DefOk X Z c lev n (ar + 1)) (hm : X.mg x = some (.ref (Z.ca k))) (hn : Ln ar er) (ha : PA X (e :: es) (tEs Z W (er c)))
    (hg : Gl X x := by rfl) (hdb : (x == ("__debug__" : PySem.Str)) = false := by rfl) (he : (e :: es).all plainE = true := by rfl) : PE X (.Call (.Name x p) (e :: es) [] pos) (tE Z W (bMake k n er c)) := by
  have h := he
  rw [List.all_cons, Bool.and_eq_true] at h
  exact sd_make ⟨mk, F⟩ hr hg hm C.tk hn ha hdb (star_cons h.1) (star_any h.2)
theorem wFld (C : Ct X Z W) {f : Nat} {na : Nat → Bool} {o : Expr} {m : PySem.Str} {eo : DE} (F : FldOk X Z f na) (ho : PE X o (tE Z W (eo c))) (hm : Z.fld f = m := by rfl) (hb : attributeBase o m X.env (eval o X.env) = eval o X.env := by rfl) : PE X (.Attribute o m pos) (tE Z W (bFld na f eo c)) := sd_fld hm F ho hb
theorem wSetF (C : Ct X Z W) {f : Nat} {na : Nat → Bool} {m : PySem.Str} {o e : Expr} {eo ee : DE} (F : FldOk X Z f na) (ho : PE X o (tE Z W (eo c))) (he : PE X e (tE Z W (ee c))) (hm : Z.fld f = m := by rfl) (hsw : noComp e = true := by rfl) : PS X (.Assign [.Attribute o m p] e pos) (tS Z s0 W (bSetF na f eo ee c)) := ss_setF hm F hsw ho he
theorem wAugF (C : Ct X Z W) {f : Nat} {na : Nat → Bool} {op : Operator} {m : PySem.Str} {o e : Expr} {eo ee : DE} (F : FldOk X Z f na) (ho : PE X o (tE Z W (eo c))) (he : PE X e (tE Z W (ee c))) (hm : Z.fld f = m := by rfl) : PS X (.AugAssign (.Attribute o m p) op e pos) (tS Z s0 W (bAugF na f op eo ee c)) := ss_augF hm F ho he
theorem wMeth (C : Ct X Z W) {pl : Sem Bool} {lev ar : Nat} {m : PySem.Str} {mt : Nat → Option Nat} {o e : Expr} {es : List Expr} {eo : DE} {er : DEs} (hr : Room (lev + 1) X.A) (M : MethOk X Z c lev ar m mt) (hn : Ln ar er) (ho : PE X o (tE Z W (eo c))) (ha : PA X (e :: es) (tEs Z W (er c))) (he : (e :: es).all plainE = true := by rfl)
    (ht : eval (.Call (.Attribute o m apos) (e :: es) [] pos) X.env = (do
      let ov ← eval o X.env
      standAt apos.atName
      let (f, first) ← holding [ov] (getMethod ov m pl)
      callWith pos f first (backTo pos (starEach (e :: es) X.env)) (backToKw pos (keywordEach [] X.env))) := by rfl) :
    PE X (.Call (.Attribute o m apos) (e :: es) [] pos) (tE Z W (bMeth mt eo er c)) := by
  have h := he
  rw [List.all_cons, Bool.and_eq_true] at h
  exact sd_meth (pl := pl) M (hr.mono (Nat.le_succ _)) C.tk hn ho ha (star_cons h.1) (star_any h.2) ht
theorem wMeth0 (C : Ct X Z W) {pl : Sem Bool} {lev : Nat} {m : PySem.Str} {mt : Nat → Option Nat} {o : Expr} {eo : DE} (hr : Room (lev + 1) X.A) (M : MethOk X Z c lev 0 m mt) (ho : PE X o (tE Z W (eo c)))
    (ht : eval (.Call (.Attribute o m apos) [] [] pos) X.env = (do
      let ov ← eval o X.env
      standAt apos.atName
      let (f, first) ← holding [ov] (getMethod ov m pl)
      callWith pos f first (backTo pos (starEach [] X.env)) (backToKw pos (keywordEach [] X.env))) := by rfl) :
    PE X (.Call (.Attribute o m apos) [] [] pos) (tE Z W (bMeth mt eo bNil c)) :=
  sd_meth0 (pl := pl) M (hr.mono (Nat.le_succ _)) C.tk ho ht
theorem wCallX (C : Ct X Z W) (al : Nat → Bool) {lev ar : Nat} {fe e : Expr} {es : List Expr} {ef : DE} {er : DEs} (hr : Room (lev + 1) X.A) (F : ∀ n, al n = true → DefOk X Z c lev n ar) (hn : Ln ar er) (hf : PE X fe (tE Z W (ef c))) (ha : PA X (e :: es) (tEs Z W (er c))) (he : (e :: es).all plainE = true := by rfl)
    (hc : eval (.Call fe (e :: es) [] pos) X.env = (do callWith pos (← eval fe X.env) [] (backTo pos (starEach (e :: es) X.env)) (backToKw pos (keywordEach [] X.env))) := by rfl) :
    PE X (.Call fe (e :: es) [] pos) (tE Z W (bCallX al ef er c)) := by
  have h := he
  rw [List.all_cons, Bool.and_eq_true] at h
  exact sd_callX F (hr.mono (Nat.le_succ _)) C.tk hn hf ha (star_cons h.1) (star_any h.2) hc
theorem wRevL (C : Ct X Z W) {e : Expr} {ee : DE} {k : Nat} {p1 p2 p3 : Pos} (he : PE X e (tE Z W (ee c))) : PE X (.Subscript e (.Slice none none (some (.UnaryOp .USub (.Constant (.int 1) k p1) p2)) p3) pos) (tN Z W (bRevL ee c)) := (pe_revL he).imp fun σ H Q t => by
  obtain ⟨s, σL, e1, ok, rs, q⟩ := t
  refine ⟨s, σL, e1, ok, rs, q.bind.mono (fun d s1 l1 ok1 q1 v rv => ?_) fun _ _ _ _ _ q => q⟩
  obtain ⟨ds, ed, hq⟩ := post_optB q1
  cases el : lstOf s1.h d with
  | none => rw [el] at ed; cases ed
  | some xs =>
    rw [el] at ed
    cases ed
    obtain ⟨a, vs, rfl, sq, rvs⟩ := lst_at ok1 el rv.b
    rw [← C.hK]
    exact ⟨a, vs, rfl, sq, fun p hp => hq s1 rfl (Le.refl _) ok1 _ rvs.rev p hp⟩
end
end Bh
/-! Bh, part 40: sorted of a list with one item -/
namespace Bh
open PySem PySem.Spec PyProof.Rows L2
open PySem.W in
theorem sorts_few {prog : Program} {w : World} {A : Around} {s : Shared} {vs : List Value} {ds : List PyData} (e : EachIs (fun v d => ∃ as, Reads s.heap v d as) vs ds) (al : AllAlike ds) (nn : ∀ d, d ∈ ds → d ≠ .none) (room : ∀ d, d ∈ ds → A.units + d.depth < cLine) (few : vs.length < 2) : SortsAt prog w A s (dataKind s.heap ds) vs := by
  refine ⟨fun v hv => ?_, general', ?_, fun two => absurd two (by omega)⟩
  · obtain ⟨d, hd, as, r⟩ := e.left v hv
    exact ⟨_, dataKind_some al hd r⟩
  · intro E x y a b Q ka kb q
    obtain ⟨d1, as1, m1, r1, rfl⟩ := dataKind_inv ka
    obtain ⟨d2, as2, m2, r2, rfl⟩ := dataKind_inv kb
    rw [show keyLt' general' x y = oneLt' false x y from rfl]
    exact oneLt_alike (f := false) (fun z => by cases z) r1 r2 (al d1 m1 d2 m2) (nn d1 m1) (Nat.lt_of_le_of_lt (Nat.add_le_add_left (Nat.min_le_left _ _) _) (room d1 m1)) q
/-- sorted, also of a single item of any shape -/
def someP : PyData → Bool
  | .none => false
  | _ => true
def oneP (h : LH) (d : D) : Option D := (lstOf h d).bind fun xs => match xs with
  | [x] => (toP h 30 x).bind fun q => if PySem.W.alike q q = true ∧ someP q = true then some (.lst [x]) else none
  | _ => none
def sortW (h : LH) (d : D) : Option D := match sortD h d with
  | some r => some r
  | none => oneP h d
section
variable {X : Cx} {Z : Sta} {c : Calls}
theorem cr_sortW (hK : Z.K = X.K) (hu : X.A.units + 65 < cLine) : CallR X (.builtin "sorted") (rB1 Z sortW) := by
  intro pins s σ H xs us Q I rx h
  obtain ⟨x, s3, d, r, rfl, rfl, ok, rd, hf, k⟩ := h
  unfold sortW at hf
  split at hf
  · rename_i r' e0
    cases hf
    exact cr_sortD hK hu pins s σ _ _ us Q I rx ⟨x, s3, d, _, rfl, rfl, ok, rd, e0, k⟩
  · unfold oneP at hf
    cases e1 : lstOf s3.h d with
    | none => rw [e1] at hf; cases hf
    | some ys =>
      rw [e1] at hf
      simp only [Option.bind_some] at hf
      split at hf
      · rename_i y
        cases e2 : toP s3.h 30 y with
        | none => rw [e2] at hf; cases hf
        | some q =>
          rw [e2] at hf
          simp only [Option.bind_some] at hf
          by_cases hq : PySem.W.alike q q = true ∧ someP q = true
          · rw [if_pos hq] at hf
            cases hf
            obtain ⟨a, vs, rfl, h1, h2⟩ := lst_at ok e1 rd
            obtain ⟨its, rv, hl, hz⟩ := I.list (hK ▸ h1)
            obtain ⟨u, rfl, ru⟩ := vals1 rx
            obtain rfl : u = Value.ref a := ru
            have e3 : mapO (toP s3.h 30) [y] = some [q] := by simp [mapO, e2]
            obtain ⟨a1, a2, a3⟩ := each_of hK ok I e3 h2 rv
            have al : PySem.W.AllAlike ([(y, q)].map fun b => b.2) := fun d hd e he => by
              rw [List.mem_singleton.mp hd, List.mem_singleton.mp he]
              exact hq.1
            have nn : ∀ d, d ∈ ([(y, q)].map fun b => b.2) → d ≠ .none := fun d hd z => by
              rw [List.mem_singleton.mp hd] at z
              subst z
              exact absurd hq.2 (by decide)
            have lits : its.length = 1 := a1.length
            have a2' : PySem.W.EachIs (fun v (b : D × PyData) => ∃ as, Reads (PySem.W.sortingHeap (PySem.W.copyHeap s.heap its) (s.heap.objs.size + 1) its) v b.2 as) its [(y, q)] := a2.mono fun _ _ ⟨as, r⟩ => ⟨as, PyProof.Rows.Reads.keeps (fun _ _ => PySem.W.sorting_copy_old) r⟩
            have S := sorts_few (prog := X.prog) (w := X.w) (A := X.A.in1.in1) (s := { s with heap := PySem.W.sortingHeap (PySem.W.copyHeap s.heap its) (s.heap.objs.size + 1) its }) (PySem.W.each_map (R := fun v d => ∃ as, Reads (PySem.W.sortingHeap (PySem.W.copyHeap s.heap its) (s.heap.objs.size + 1) its) v d as) (fun b : D × PyData => b.2) a2') al nn (PySem.W.bound_map fun b hb => by have := a3 b hb; show X.A.units + 1 + 1 + _ < _; omega) (by omega)
            refine PySem.W.sorted_vals hl.isList S (by rw [lits]; decide) ?_
            have hd : s3.H (s.heap.objs.size + 1) = none := I.hok.fresh (Nat.le_succ _)
            have out := PySem.W.sortVals_data (R := fun u (b : D × PyData) => ∃ v, RelV v u ∧ RD Z s3 b.1 v) (bs := [(y, q)]) (enc := fun b : D × PyData => b.2) false a1 a2' al
            have m1 : ([(y, q)] : List (D × PyData)).mergeSort (PySem.W.dataLe false fun b => b.2) = [(y, q)] := by simp
            rw [m1] at out
            obtain ⟨ws, w1, w2⟩ := of_each out
            obtain ⟨n, hn⟩ := PyProof.Rows.sortedAll_at s.heap its (PySem.W.sortVals (PySem.W.dataKind (PySem.W.sortingHeap (PySem.W.copyHeap s.heap its) (s.heap.objs.size + 1) its) ([(y, q)].map fun b => b.2)) false its its).toArray
            have l := Le.tmp (o := .lst ws) hd
            have hwl : ws.length ≤ sizeLine := by
              rw [← w2.length]
              show 1 ≤ sizeLine
              decide
            refine ⟨.ref (s.heap.objs.size + 1), upd s3.H (s.heap.objs.size + 1) (.lst ws), I.laid (t' := s.toks) (fun b u hb => PyProof.Rows.sortedAll_old hb) (Nat.le_succ _) ⟨hwl, _, n, w1, hn⟩, rfl, ?_⟩
            exact k ⟨s3.m, s3.h, upd s3.H (s.heap.objs.size + 1) (.lst ws), s3.pr, s3.xc⟩ rfl l (ok.tmp hd) _ (RD.newL ok hd w2)
          · rw [if_neg hq] at hf
            cases hf
      · cases hf
end
end Bh
/-! Bh, part 41: l.count(x), a list times a number as a new list, repr of plain data. -/
namespace Bh
open PySem PySem.Spec PyProof.Rows L2
/-! ### count -/
def cntV (h : LH) (x : D) (ys : List D) : Option D := (toP h 40 x).bind fun a => (mapO (toP h 39) ys).map fun bs => .int ((bs.countP fun b => PyData.eqv b a : Nat) : Int)
def bCount (o e : DE) : DE := fun c σ h => (o c σ h).bind fun x h1 => match lstOf h1 x with
  | some _ => (e c σ h1).bind fun d h2 => optO ((lstOf h2 x).bind fun ys => cntV h2 d ys) h2
  | none => .bad
theorem cntV_some {h : LH} {x r : D} {ys : List D} (e : cntV h x ys = some r) : ∃ p bs, toP h 40 x = some p ∧ mapO (toP h 39) ys = some bs ∧ r = .int ((bs.countP fun b => PyData.eqv b p : Nat) : Int) := by
  unfold cntV at e
  cases e1 : toP h 40 x with
  | none => rw [e1] at e; cases e
  | some p =>
    cases e2 : mapO (toP h 39) ys with
    | none => rw [e1, e2] at e; cases e
    | some bs => rw [e1, e2] at e; cases e; exact ⟨p, bs, rfl, rfl, rfl⟩
def rCntD (K : PySem.W.Frag) : V → List V → Hp → VK → Prop := fun x xs H Q => ∃ (a : Addr) (y : V) (d : PyData) (ds : List PyData), x = V.ref a ∧ xs = [y] ∧ Dp K H (V.ref a) (.list ds) ∧ Dp K H y d ∧ d.canLay0 = true ∧ d.depth ≤ 40 ∧ PyData.canLayAll0 ds = true ∧ Q (.int ((ds.countP fun z => PyData.eqv z d : Nat) : Int)) H
section
variable {X : Cx} {Z : Sta} {W : WX} {c : Calls} {pos apos : Pos}
theorem mt_cntD (hu : X.A.units + 65 < cLine) : MtR X "list.count" (rCntD X.K) := by
  intro pins s σ H x xs v us Q I rx rxs h
  obtain ⟨a, y, d, ds, rfl, rfl, hl, hy, c1, c2, c3, q⟩ := h
  cases rx
  cases rxs with
  | cons ry rt =>
    rename_i uy ut
    cases rt
    obtain ⟨bs, r1⟩ := Dp.reads I d y uy hy ry
    have room : X.A.units + 1 + min (PyData.depthAll ds) d.depth < cLine := by have := Nat.min_le_right (PyData.depthAll ds) d.depth; omega
    cases hl with
    | lst hs ha =>
      obtain ⟨its, rv, ⟨⟨cls, dd, data, sls⟩, n, ho, hc, hdn, hdt⟩, _⟩ := I.list hs
      simp only at hc hdt
      subst hc hdt
      obtain ⟨as, h4⟩ := Dp.readsAll I ds _ its ha rv
      have mp : its.map (SeqAt.readOf s.heap) = ds := SeqAt.readsAll_map ds its as c3 h4
      have ec : (its.toArray.toList.countP fun u => PyData.eqv (SeqAt.readOf s.heap u) d) = ds.countP fun z => PyData.eqv z d := by
        rw [← mp, List.countP_map]
        rfl
      refine call_meets PySem.F.slot_list_count ⟨_, ho, rfl⟩ PySem.F.entry_list_count (PySem.F.args_list_count_2 _ _) (SeqAt.list_countAt a its.toArray n dd sls uy fun u => PyData.eqv (SeqAt.readOf s.heap u) d) ⟨ho, SeqAt.items_eqAt (vs := its.toArray) (show ReadsAll s.heap its.toArray.toList ds as from h4) r1 c3 c1 room, ?_⟩
      rw [ec]
      exact ⟨.int _, H, I.tok _, ⟨s.toks, rfl⟩, q⟩
theorem sd_count {o e : Expr} {eo ee : DE} (hK : Z.K = X.K) (hu : X.A.units + 65 < cLine) (hb : plainB o = true) (hx : plainE e = true) (hline : (apos.endLine == pos.line) = true) (ho : PE X o (tE Z W (eo c))) (he : PE X e (tE Z W (ee c))) : PE X (.Call (.Attribute o "count" apos) [e] [] pos) (tE Z W (bCount eo ee c)) := by
  have hs := star_cons (es := []) (env := X.env) hx
  refine (pe_bm PySem.F.plainAttrs_list PySem.F.slot_list_count PySem.F.type_list_count (mt_cntD hu) ho (pa_cons he pa_nil hs) (base_plain hb) (star_few (es := [e]) (by simp [hx]) (by show 1 < 30; decide)) hline hs rfl).imp fun σ H Q t => ?_
  refine tE.bind (e := eo c) (f := fun σ x h1 => match lstOf h1 x with
    | some _ => (ee c σ h1).bind fun d h2 => optO ((lstOf h2 x).bind fun ys => cntV h2 d ys) h2
    | none => .bad) t fun s σL d v ok rs r q => ?_
  cases el : lstOf s.h d with
  | none => rw [el] at q; exact q.elim
  | some zs =>
    rw [el] at q
    obtain ⟨a, us, rfl, h1, h2⟩ := lst_at ok el (.inl r)
    refine ⟨.inl ⟨rfl, us, hK ▸ h1⟩, s, σL, rfl, ok, rs, (PostV.bind (o := ee c σL s.h) q).mono (fun d2 s1 l1 ok1 q1 w rw' => ?_) fun _ _ _ _ _ q => q⟩
    obtain ⟨z, ez, hz⟩ := post_optB q1
    cases e1 : lstOf s1.h d with
    | none => rw [e1] at ez; cases ez
    | some ys =>
      rw [e1] at ez
      simp only [Option.bind_some] at ez
      obtain ⟨p, bs, g1, g2, rfl⟩ := cntV_some ez
      obtain ⟨a', vs, e2, h3, h4⟩ := lst_at ok1 e1 (.inl (r.le ok l1))
      cases e2
      obtain ⟨a1, a2, a3⟩ := toP_ok ok1 g1 rw'
      obtain ⟨b1, b2, b3⟩ := toPs_ok (fun h r => toP_ok ok1 h r) g2 h4
      exact ⟨a, w, p, bs, rfl, rfl, .lst (hK ▸ h3) (hK ▸ b1), hK ▸ a1, a2, a3, b2, hz s1 rfl (Le.refl _) ok1 _ (.int _)⟩
/-! ### a list times a number -/
def mulL (h : LH) (x y : D) : Option (List D) := match y with
  | .int k => (lstX h x).bind fun a => if -(4611686018427387904) ≤ k ∧ k < 4611686018427387904 ∧ a.length * k.toNat ≤ LIM then some (List.replicate k.toNat a).flatten else none
  | _ => none
def bMulN (a b : DE) : DN := fun c σ h => (a c σ h).bind fun x h1 => (b c σ h1).bind fun y h2 => optO (mulL h2 x y) h2
theorem sn_mul {a b : Expr} {ea eb : DE} (ha : PE X a (tO Z W (ea c))) (hb : PE X b (tO Z W (eb c))) : PE X (.BinOp a .Mult b pos) (tN Z W (bMulN ea eb c)) := by
  refine (pe_op op_rep ha hb).imp fun σ H Q t => ?_
  refine tO.bind (e := ea c) (f := fun σ x h1 => (eb c σ h1).bind fun y h2 => optO (mulL h2 x y) h2) t fun s σL d v ok rs r p => ?_
  refine ⟨s, σL, rfl, ok, rs, p.bind.mono (fun e s' l k q u ru => ?_) fun _ _ _ _ _ q => q⟩
  obtain ⟨ds, ez, hz⟩ := post_optB q
  have fin := hz s' rfl (Le.refl _) k
  cases e with
  | int j =>
    simp only [mulL] at ez
    cases e1 : lstX s'.h d with
    | none => rw [e1] at ez; cases ez
    | some xs =>
      rw [e1] at ez
      simp only [Option.bind_some] at ez
      split at ez
      · rename_i hl
        cases ez
        cases ru.flat
        obtain ⟨a, vs, rfl, h1, h2⟩ := lstX_at k e1 (r.le ok l)
        exact ⟨a, j, vs, rfl, rfl, h1, by omega, by omega, by rw [lim_eq, ← h2.length]; exact hl.2.2, fun p hp => fin _ (h2.flat _) p hp⟩
      · cases ez
  | _ => cases ez
/-! ### two lists as a new one -/
def catL (h : LH) (x y : D) : Option (List D) := (lstX h x).bind fun a => (lstX h y).bind fun b => if a.length + b.length ≤ LIM then some (a ++ b) else none
def bCatN (a b : DE) : DN := fun c σ h => (a c σ h).bind fun x h1 => (b c σ h1).bind fun y h2 => optO (catL h2 x y) h2
theorem sn_cat {a b : Expr} {ea eb : DE} (ha : PE X a (tO Z W (ea c))) (hb : PE X b (tO Z W (eb c))) : PE X (.BinOp a .Add b pos) (tN Z W (bCatN ea eb c)) := by
  refine (pe_op op_cat ha hb).imp fun σ H Q t => ?_
  refine tO.bind (e := ea c) (f := fun σ x h1 => (eb c σ h1).bind fun y h2 => optO (catL h2 x y) h2) t fun s σL d v ok rs r p => ?_
  refine ⟨s, σL, rfl, ok, rs, p.bind.mono (fun e s' l k q u ru => ?_) fun _ _ _ _ _ q => q⟩
  obtain ⟨ds, ez, hz⟩ := post_optB q
  have fin := hz s' rfl (Le.refl _) k
  unfold catL at ez
  cases e1 : lstX s'.h d with
  | none => rw [e1] at ez; cases ez
  | some xs =>
    cases e2 : lstX s'.h e with
    | none => rw [e1, e2] at ez; cases ez
    | some ys =>
      rw [e1, e2] at ez
      simp only [Option.bind_some] at ez
      split at ez
      · rename_i hl
        cases ez
        obtain ⟨a, vs, rfl, h1, h2⟩ := lstX_at k e1 (r.le ok l)
        obtain ⟨b, us, rfl, g1, g2⟩ := lstX_at k e2 ru
        exact ⟨a, b, vs, us, rfl, rfl, h1, g1, by rw [lim_eq, ← h2.length, ← g2.length]; exact hl, fun p hp => fin _ (h2.app g2) p hp⟩
      · cases ez
/-! ### repr -/
def okShow (p : PyData) : Bool := (match p with | .list _ => true | .tuple _ => true | _ => false) && p.showable && !p.hasDict && decide (p.shown.length ≤ LIM)
def reprD (h : LH) (d : D) : Option D := (toP h 30 d).bind fun p => if okShow p = true then some (.str p.shown) else none
theorem cr_reprD (hK : Z.K = X.K) (hg : X.A.guards = some []) (hu : X.A.units + 65 < cLine) : CallR X (.builtin "repr") (rB1 Z reprD) := by
  intro pins s σ H xs us Q I rx h
  obtain ⟨x, s3, d, r, rfl, rfl, ok, rd, hf, k⟩ := h
  obtain ⟨u, rfl, ru⟩ := vals1 rx
  unfold reprD at hf
  cases e1 : toP s3.h 30 d with
  | none => rw [e1] at hf; cases hf
  | some p =>
    rw [e1] at hf
    simp only [Option.bind_some] at hf
    split at hf
    · rename_i hp
      cases hf
      unfold okShow at hp
      simp only [Bool.and_eq_true, decide_eq_true_eq, Bool.not_eq_true'] at hp
      obtain ⟨⟨⟨hp1, hp2⟩, hp3⟩, hp4⟩ := hp
      obtain ⟨a1, a2, a3⟩ := toP_okb ok e1 rd
      obtain ⟨as, r1⟩ := Dp.reads I p x u (hK ▸ a1) ru
      have ex : ∃ a, u = Value.ref a := by
        cases p with
        | list _ => cases r1; exact ⟨_, rfl⟩
        | tuple _ => cases r1; exact ⟨_, rfl⟩
        | _ => cases hp1
      obtain ⟨a, rfl⟩ := ex
      exact repr_of_reads' r1 hp2 (fun z => by rw [hp3] at z; cases z) hg (by omega) (fun _ _ e => e) (fun h' u tk hk => ⟨.str p.shown, _, I.kept hk, ⟨u, rfl⟩, k s3 rfl (Le.refl _) ok _ (.str _)⟩) (by rw [lim_eq]; exact hp4)
    · cases hf
end
end Bh
/-! Bh, part 42: a law's def that shows values (repr): its promise where nothing is being shown around it. -/
namespace Bh
open PySem PySem.Spec PyProof.Rows L2
/-- a def's promise at the places where no value is being shown -/
structure FnG (P : Program) (w : World) (K : PySem.W.Frag) (mg : PySem.Str → Option Value) (base : Heap) (CX : CXT) (k : Nat) (f : Addr) (fd : FuncData) (ps : List PySem.Str) (sp : Sp) : Prop where
  run : ∀ (A : Around) (outer : List Env) (s : Shared) (H : Hp) (args : Args) (us : List Value) (vs : List V) (Q : VK) (E : XK), A.guards = some [] → Room k A → Env0 P w K mg base A outer s H → BindsTo s fd args (ps.zip us) → Vals vs us → sp vs H Q E → codeAny (model P w) A (.call (.ref f) args) (CR CX outer P w H s Q E) s
section
variable {CX : CXT} {P : Program} {w : World} {K : PySem.W.Frag} {mg : PySem.Str → Option Value} {base : Heap} {k : Nat} {f : Addr} {x qual : PySem.Str} {params : Arguments} {body : List Stmt} {scope : Scope} {fd : FuncData} {N ps : List PySem.Str} {sp : Sp} {dvs : List V} {kws : List (PySem.Str × V)}
theorem fn_ofG (F : FunD K x qual params body scope dvs kws f fd) (S : FnScope N ps scope) (len : ∀ vs H Q E, sp vs H Q E → vs.length = ps.length)
    (hb : ∀ (cdv : Value) (A : Around) (outer : List Env) (s : Shared) (H : Hp) (vs : List V) (Q : VK) (E : XK), A.guards = some [] → Room k (A.deeper (envOfC qual scope s.heap.objs.size f cdv)) → sp vs H Q E → ∃ t, PSs (cxOf CX P w K mg base N qual scope f cdv A outer s H E) body t ∧ t { nx := fun _ H' => Q .non H', rt := Q } (start N vs) H) : FnG P w K mg base CX (k + 1) f fd ps sp := by
  obtain ⟨oc, od, dV, kV, doc, pm, an, cdv, ct, osl, rfl, lk, hcd, _, _⟩ := F.ex
  constructor
  intro A outer s H args us vs Q E hgd hr e0 hbi r hsp
  have up : ∀ b o, base.get? b = some o → s.heap.get? b = some o := fun b o e => (e0.bs b o e).1
  have hkind : ∀ y ∈ ps.zip us, scope.names.lookup y.1 = some .local ∨ (scope.names.lookup y.1 = some .cell ∧ ((cellsFrom (s.heap.objs.size + 1) scope.names []).lookup y.1).isSome = true) := fun y hy => (S.par y.1 (List.of_mem_zip (show (y.1, y.2) ∈ ps.zip us from hy)).1).imp (fun q => q) fun q => ⟨q, PySem.W.cellsFrom_some _ _ _ (.inl q)⟩
  refine codeAny_call_function hr.depth (e0.mod.kin.keeps up _ _ lk) rfl S.co S.gen rfl (PySem.W.codeRec_of (e0.mod.kin.keeps up) hcd) (hbi _ _ _ _ (wpAny_newFunctionEnv_cells S.kind hkind fun env he s1 y => ?_))
  subst he
  refine ⟨(e0.mod.nolimit.keeps up).keeps y.toInCall.keep, codeAny_func ?_⟩
  obtain ⟨t, ht, hq⟩ := hb cdv A outer s H vs Q E hgd (hr.deeper _) hsp
  refine wpAny_mono (ht.run [] s1 (start N vs) H _ (inv_start S hr.hd e0 (len _ _ _ _ hsp) r y) hq) (fun fl s' hs => ?_) fun e s' hs => hs
  cases fl with
  | ret u => obtain ⟨v, σ', H', J, rv, q⟩ := hs; exact ⟨v, H', J.os, J.bare, J.base, J.hok, rv, q⟩
  | next => obtain ⟨σ', H', J, q⟩ := hs; exact ⟨V.non, H', J.os, J.bare, J.base, J.hok, rfl, q⟩
  | brk => exact (show False by obtain ⟨_, _, _, q⟩ := hs; exact q).elim
  | cont => exact (show False by obtain ⟨_, _, _, q⟩ := hs; exact q).elim
variable {Z : Sta} {c c' : Calls} {n : Nat}
theorem fn_bodyG {ev : DS} (F : FunD K x qual params body scope dvs kws f fd) (S : FnScope N ps scope) (hc : ∀ ds h, ds.length = ps.length → c' n ds h = runS N.length (ev c) ds h)
    (hb : ∀ (cdv : Value) (A : Around) (outer : List Env) (s : Shared) (H : Hp) (E : XK) (s0 : S3), A.guards = some [] → Room k (A.deeper (envOfC qual scope s.heap.objs.size f cdv)) → PSs (Xof P w K mg base N qual scope f cdv A outer s H E) body (tS Z s0 (fun cls d _ H' => E cls d H') (ev c))) :
    FnG P w K mg base (L2.CX P w) (k + 1) f fd ps (spF Z c' n ps.length) := by
  refine fn_ofG F S (fun vs H Q E h => ?_) fun cdv A outer s H vs Q E hgd hr h => ?_
  · obtain ⟨s, ds, _, _, r, hl, _⟩ := h
    rw [← r.length]
    exact hl
  · obtain ⟨s3, ds, rfl, ok, r, hl, p⟩ := h
    rw [hc ds s3.h hl] at p
    refine ⟨_, hb cdv A outer s s3.H E s3 hgd hr, s3, startS N.length ds, rfl, ok, lc_start ok r, ?_⟩
    unfold runS at p
    cases e : ev c (startS N.length ds) s3.h with
    | nx σL h' =>
      rw [e] at p
      intro s' σ' e1 _ _ ok' lc'
      exact p (s'.out s3) e1 (out_le lc'.fr) (out_ok ok' lc'.fr) _ .non
    | rt d h' =>
      rw [e] at p
      intro s' v e1 ok' fr rv
      exact p (s'.out s3) e1 (out_le fr) (out_ok ok' fr) _ (rv.lq ok' (out_lq fr))
    | ex cc fs σL h' =>
      rw [e] at p
      intro s' σ' cls dd e1 _ _ ok' lc' xd
      exact p (s'.out s3) e1 (out_le lc'.fr) (out_ok ok' lc'.fr) cls dd (xd.lq ok' (out_lq lc'.fr))
    | bk _ _ => rw [e] at p; exact p.elim
    | ct _ _ => rw [e] at p; exact p.elim
    | bad => rw [e] at p; exact p.elim
theorem fn_cxG (F : FnG P w K mg base (L2.CX P w) k f fd ps sp) : FnG P w K mg base CX0 k f fd ps (fun vs H Q _ => sp vs H Q fun _ _ _ => False) :=
  ⟨fun A outer s H args us vs Q E hgd hr he hb hv hs => codeAny_mono (F.run A outer s H args us vs Q _ hgd hr he hb hv hs) fun r s' hq => by
    cases r with
    | error e =>
      obtain ⟨a, B, H', cls, d, _, _, _, _, _, _, _, z⟩ := hq
      exact z.elim
    | ok fl => cases fl <;> exact hq⟩
end
/-- the law called at the top, where nothing is being shown -/
theorem law_callG {P : Program} {w : World} {K : PySem.W.Frag} {mg mb : PySem.Str → Option Value} {k : Nat} {fa a : Addr} {fd : FuncData} {x : PySem.Str} {sp : Sp} {s₁ : Shared} {vs : List Value} {ns : List Int} (KX : K.In s₁.heap) (hns : s₁.heap.Ns mainGlobals mg) (hb : s₁.heap.Ns builtinsNs mb) (hbb : ∀ x : PySem.Str, x ≠ "__name__" → mb x = bootBuiltins x) (hlim : s₁.heap.NoLimit) (hg : s₁.gens = #[]) (ha : s₁.heap.get? a = some { cls := .type "list", data := .seq vs.toArray }) (hi : IntsAre vs ns) (hl : ns.length ≤ sizeLine) (hr : Room k callerA)
    (F : ∀ base : Heap, K.In base → base.Ns mainGlobals mg → FnG P w K mg base CX0 k fa fd [x] sp) (hbind : ∀ (s : Shared) (u : Value), BindsTo s fd ⟨[u], []⟩ [(x, u)]) (hsp : ∀ H : Hp, Only H → SqL K H a (ns.map V.int) → sp [.ref a] H (fun v _ => v = .bl true) fun _ _ _ => False)
    (hCX : ∀ H e s', CX0 [] H s₁ (fun _ _ _ => False) e s' → False) : codeAny (model P w) callerA (.call (.ref fa) ⟨[.ref a], []⟩) (fun r s' => r = .ok (.ret (.bool true)) ∧ OldK s₁.heap s'.heap ∧ s'.os = s₁.os ∧ AllBare s'.gens) s₁ := by
  have rv := vals_ints hi
  have core : ∀ H : Hp, Only H → SqL K H a (ns.map V.int) → HOk P w H s₁.heap → (∀ b, H b ≠ none → b = a) → (H a ≠ none → K.lookup a = none) → codeAny (model P w) callerA (.call (.ref fa) ⟨[.ref a], []⟩) (fun r s' => r = .ok (.ret (.bool true)) ∧ OldK s₁.heap s'.heap ∧ s'.os = s₁.os ∧ AllBare s'.gens) s₁ := fun H hO hS hok hA hK => by
    have un : ∀ {b : Addr}, b ≠ a → H b = none := fun {b} hb => Classical.byContradiction fun z => hb (hA b z)
    have low : ∀ {b : Addr} {o : Obj}, s₁.heap.get? b = some o → H b = none → (hidT s₁.heap H).get? b = some o := fun e z => hidT_get e z
    have dic : ∀ {b : Addr} {m : PySem.Str → Option Value}, s₁.heap.Ns b m → (hidT s₁.heap H).Ns b m := fun {b m} ⟨o, es, ep, e, d, r⟩ => ⟨o, es, ep, low e (un fun z => by subst z; rw [ha] at e; cases e; cases d), d, r⟩
    have hKb : K.In (hidT s₁.heap H) := fun b o e => low (KX b o e) (Classical.byContradiction fun z => by obtain rfl := hA b z; rw [hK z] at e; cases e)
    have hM : Mod K mg (hidT s₁.heap H) := ⟨hKb, dic hns, ⟨mb, dic hb, hbb⟩, let ⟨mc, h1, h2⟩ := hlim; ⟨mc, dic h1, h2⟩⟩
    have e0 : Env0 P w K mg (hidT s₁.heap H) callerA [] s₁ H := ⟨rfl, hM, fun b o e => of_hidT e, Nat.le_of_eq (hidT_size _ _), trivial, (fun b hb => by cases (show b ∈ ([] : List Addr) from hb)), hok, .of_eq hg⟩
    refine codeAny_mono ((F _ hKb (dic hns)).run callerA [] s₁ H ⟨[.ref a], []⟩ [.ref a] [.ref a] _ _ rfl hr e0 (hbind s₁ (.ref a)) (.cons rfl .nil) (hsp H hO hS)) fun r s' h => ?_
    match r, h with
    | .error e, h => exact (hCX H e s' h).elim
    | .ok .next, h => exact False.elim h
    | .ok .brk, h => exact False.elim h
    | .ok .cont, h => exact False.elim h
    | .ok (.ret u), ⟨v, H', os, bare, un, hok', r', (q : v = .bl true)⟩ =>
      subst q
      obtain rfl : u = Value.bool true := r'
      refine ⟨rfl, OldK.of_keep fun b o e => ?_, os, bare⟩
      rcases hO b with z | ⟨ob, xs, z⟩
      · exact un.keep b o e z (by intro z; cases (show b ∈ ([] : List Addr) from z)) (by simp)
      · obtain ⟨e1, _⟩ := hok b _ z
        obtain ⟨e2, _⟩ := hok' b _ (un.frzs b ob _ z)
        rw [e] at e1; cases e1
        exact e2
  cases hk : K.lookup a with
  | some o =>
    have e := KX a o hk
    rw [ha] at e
    cases e
    exact core (fun _ => none) (fun _ => .inl rfl) (.inr ⟨_, vs.toArray, _, hk, rfl, rfl, rfl, by rw [List.size_toArray, hi.length]; exact hl, by simpa using rv⟩) (fun b u (z : (none : Option HO) = some u) => by cases z) (fun b z => absurd rfl z) fun z => absurd rfl z
  | none =>
    have lenV : (ns.map V.int).length ≤ sizeLine := by rw [List.length_map]; exact hl
    refine core (fun b => if b = a then some (.frz { cls := .type "list", data := .seq vs.toArray } (.lst (ns.map V.int))) else none) (fun b => if hb : b = a then .inr ⟨_, _, if_pos hb⟩ else .inl (if_neg hb)) (.inl (.inr ⟨{ cls := .type "list", data := .seq vs.toArray }, if_pos rfl⟩)) (fun b u z => ?_) (fun b z => Classical.byContradiction fun hb => z (if_neg hb)) fun _ => hk
    by_cases hb : b = a
    · have z' := (if_pos hb).symm.trans z
      cases z'
      subst hb
      exact ⟨ha, lenV, vs, _, rv, ha⟩
    · have z' := (if_neg hb).symm.trans z
      cases z'
theorem walk_ofG {l : PySem.W.OpenLaw} {n k : Nat} {q : Program} {loose : List PySem.Str} {XP : (PySem.Str → Option Value) → Heap → Prop} {YP : World → Heap → Prop} {d : DefRec} {x : PySem.Str} (hn : l.most = some n) (hn2 : n ≤ sizeLine) (hdf : d.params.defaults = []) (hr : Room k callerA)
    (F : ∀ (w : World) (mg : PySem.Str → Option Value) (fa : Addr) (h : Heap), YP w h → h.Ns mainGlobals mg → mg d.name = some (.ref fa) → ∃ (K : PySem.W.Frag) (fd : FuncData) (sp : Sp), K.In h ∧ (∀ (s : Shared) (u : Value), BindsTo s fd ⟨[u], []⟩ [(x, u)]) ∧ (∀ (H : Hp) (a : Addr) (ns : List Int), ns.length ≤ n → Only H → SqL K H a (ns.map V.int) → sp [.ref a] H (fun v _ => v = .bl true) fun _ _ _ => False) ∧ ∀ base : Heap, K.In base → base.Ns mainGlobals mg → FnG l.prog w K mg base CX0 k fa fd [x] sp)
    (hCX : ∀ (H : Hp) (s : Shared) (e : Value) (s' : Shared), CX0 [] H s (fun _ _ _ => False) e s' → False) : PySem.W.WalkO q loose XP YP l.row.toRowW d [] (fun f vs => PySem.call f vs) :=
  Att.attach_call hn hdf fun w s₀ s₁ mg mb fa o pm cd doc a vs ns G Y ho hd hcd hmg hobj hints hlen hg => by
    obtain ⟨K, fd, sp, KX, h1, h2, h3⟩ := F w mg fa _ Y G.T.g hmg
    exact law_callG KX G.T.g G.T.b G.T.builtins G.T.nolimit hg hobj hints (Nat.le_trans hlen hn2) hr h3 h1 (fun H hO hS => h2 H a ns hlen hO hS) fun H e s' => hCX H s₁ e s'
end Bh
/-! Bh, part 43: methods of texts, while, for names in scope. -/
namespace Bh
open PySem PySem.Spec PyProof.Rows L2
section
variable {X : Cx} {Z : Sta} {s0 : S3} {W : WX} {c : Calls} {pos apos : Pos} {o e g : Expr} {eo ee eg : DE}
theorem wSplit (C : Ct X Z W) (ho : PE X o (tE Z W (eo c))) (he : PE X e (tO Z W (ee c))) (hb : plainB o = true := by rfl) (hx : plainE e = true := by rfl) (hl : (apos.endLine == pos.line) = true := by rfl) : PE X (.Call (.Attribute o "split" apos) [e] [] pos) (tE Z W (bM1 fSplit eo ee c)) :=
  sd_m1 m_split (fun a b => pe_split a b (star_cons (es := []) hx) (base_plain hb) hl) ho he
theorem wJoin (C : Ct X Z W) (ho : PE X o (tE Z W (eo c))) (he : PE X e (tO Z W (ee c))) (hb : plainB o = true := by rfl) (hx : plainE e = true := by rfl) (hl : (apos.endLine == pos.line) = true := by rfl) : PE X (.Call (.Attribute o "join" apos) [e] [] pos) (tE Z W (bM1 fJoin eo ee c)) :=
  sd_m1 (m_join C.hK) (fun a b => pe_join a b (star_cons (es := []) hx) (base_plain hb) hl) ho he
theorem wFind (C : Ct X Z W) (ho : PE X o (tE Z W (eo c))) (he : PE X e (tO Z W (ee c))) (hb : plainB o = true := by rfl) (hx : plainE e = true := by rfl) (hl : (apos.endLine == pos.line) = true := by rfl) : PE X (.Call (.Attribute o "find" apos) [e] [] pos) (tE Z W (bM1 fFind eo ee c)) :=
  sd_m1 m_find (fun a b => pe_m1 F.slot_str_find F.type_str_find mt_find a b (star_cons (es := []) hx) (base_plain hb) hl) ho he
theorem wIndex (C : Ct X Z W) (ho : PE X o (tE Z W (eo c))) (he : PE X e (tO Z W (ee c))) (hb : plainB o = true := by rfl) (hx : plainE e = true := by rfl) (hl : (apos.endLine == pos.line) = true := by rfl) : PE X (.Call (.Attribute o "index" apos) [e] [] pos) (tE Z W (bM1 fIndex eo ee c)) :=
  sd_m1 m_index (fun a b => pe_m1 F.slot_str_index F.type_str_index mt_sindex a b (star_cons (es := []) hx) (base_plain hb) hl) ho he
theorem wFind3 (C : Ct X Z W) (ho : PE X o (tE Z W (eo c))) (he : PE X e (tE Z W (ee c))) (hg : PE X g (tE Z W (eg c))) (hb : plainB o = true := by rfl) (hx : plainE e = true := by rfl) (hy : plainE g = true := by rfl) (hl : (apos.endLine == pos.line) = true := by rfl) : PE X (.Call (.Attribute o "find" apos) [e, g] [] pos) (tE Z W (bFind3 eo ee eg c)) :=
  sd_find3 ho he hg ((star_cons (es := [g]) hx).trans (by rw [star_cons (es := []) hy]; rfl)) (base_plain hb) hl
theorem wWhile (n : Nat) (C : Ct X Z W) {t : Expr} {body : List Stmt} {et : DT} {eb : DS} (hp : PassesOwn (model X.prog X.w) X.A X.env X.xe) (ht : PT X t (tB_ Z W (et c))) (hb : PSs X body (tS Z s0 W (eb c))) : PS X (.While t body [] pos) (tS Z s0 W (bWhile n et eb c)) := ss_while hp ht hb
/-! ### a sign, so many times -/
def mulS (x y : D) : Option D := match x, y with
  | .str z, .int n => if z.cps.size = 1 ∧ 1 ≤ n ∧ n ≤ 1000000 then some (.str ⟨(List.replicate n.toNat (z.cps.getD 0 0)).toArray⟩) else none
  | _, _ => none
theorem fold_rep (a : Nat) : ∀ (n : Nat) (acc : Array Nat), (List.replicate n #[a]).foldl (· ++ ·) acc = acc ++ (List.replicate n a).toArray
  | 0, acc => by simp
  | n + 1, acc => by
    rw [List.replicate_succ, List.foldl_cons, fold_rep a n, List.replicate_succ]
    apply Array.toList_inj.mp
    simp
theorem mul_one {z : PySem.Str} {n : Int} (h1 : z.cps.size = 1) (h2 : 1 ≤ n) : Txt.mul z n = ⟨(List.replicate n.toNat (z.cps.getD 0 0)).toArray⟩ := by
  obtain ⟨⟨l⟩⟩ := z
  match l, h1 with
  | [a], _ =>
    unfold Txt.mul
    rw [if_neg (by omega)]
    by_cases e : n = 1
    · subst e
      rfl
    · have : (n == 1 || (⟨#[a]⟩ : PySem.Str).length == 0) = false := by
        rw [Bool.or_eq_false_iff]
        exact ⟨by simpa using e, rfl⟩
      rw [if_neg (by rw [this]; decide), fold_rep]
      simp
theorem op_mulS : OpR X (binaryOp .Mult) (rBin Z fun _ x y => mulS x y) := by
  intro pins s σ H x y v u Q I rx ry h
  obtain ⟨s3, d, e, r, rfl, ok, rd, re, hf, k⟩ := h
  have hf : mulS d e = some r := hf
  cases d with
  | str z =>
    cases e with
    | int n =>
      simp only [mulS] at hf
      split at hf
      · rename_i hh
        cases hf
        cases rd.flat
        cases re.flat
        obtain ⟨t, rfl⟩ := _root_.id rx
        obtain ⟨t2, rfl⟩ := _root_.id ry
        have hl : z.length = 1 := hh.1
        refine SB.mul ⟨?_, fun _ _ => ?_, fun _ _ => ?_⟩ fun t' k' => ⟨.str _, _, I.tok _, ⟨t', by rw [mul_one hh.1 hh.2.1]⟩, k s3 rfl (Le.refl _) ok _ (.str _)⟩
        · rw [Bool.or_eq_false_iff]
          exact ⟨decide_eq_false (by omega), decide_eq_false (by omega)⟩
        · rw [hl]
          have : 1 ≤ (2 ^ 63 - 1 : Int) / n := by
            rw [Int.le_ediv_iff_mul_le (by omega)]
            omega
          omega
        · rw [hl]
          unfold Builtin.Str.tooLong
          refine decide_eq_false ?_
          rw [sizeLine_eq]
          omega
      · cases hf
    | _ => cases hf
  | _ => cases hf
def bMulS (a b : DE) : DE := fun c σ h => (a c σ h).bind fun x h1 => (b c σ h1).bind fun y h2 => optO (mulS x y) h2
theorem sd_mulS {a b : Expr} {ea eb : DE} (ha : PE X a (tO Z W (ea c))) (hb : PE X b (tO Z W (eb c))) : PE X (.BinOp a .Mult b pos) (tE Z W (bMulS ea eb c)) := by
  refine (pe_op (op_mulS (Z := Z)) ha hb).imp fun σ H Q t => ?_
  refine tO.bind (e := ea c) (f := fun σ x h1 => (eb c σ h1).bind fun y h2 => optO (mulS x y) h2) t fun s σL d v ok rs r p => ?_
  refine ⟨s, σL, rfl, ok, rs, p.bind.mono (fun e s' l k q u ru => ?_) fun _ _ _ _ _ q => q⟩
  obtain ⟨z, ez, hz⟩ := post_opt q
  exact ⟨s', d, e, z, rfl, k, r.le ok l, ru, ez, hz⟩
end
end Bh
/-! Bh, part 44: dict of pairs, sorted of a dict's keys, max of data, get of a dict display. -/
namespace Bh
open PySem PySem.Spec PyProof.Rows L2
def pairK : D → Option (D × D)
  | .tup [.int k, v] => some (.int k, v)
  | _ => none
def putAll (ps : List (D × D)) (acc : List (D × D)) : List (D × D) := ps.foldl (fun acc p => dput acc p.1 p.2) acc
def dictF (h : LH) (d : D) : Option D := (lstOf h d).bind fun xs => (mapO pairK xs).map fun ps => .dic (putAll ps [])
def intK (p : D × D) : Option Int := match p.1 with
  | .int i => some i
  | _ => none
def sortX (h : LH) (d : D) : Option D := match d with
  | .dic ks => (mapO intK ks).bind fun is => if is.length < 64 then some (.lst ((is.mergeSort fun a b => decide (a ≤ b)).map .int)) else none
  | d => sortW h d
def okMax (ps : List PyData) : Bool := (ps.all fun d => ps.all fun e => PySem.W.alike d e) && ps.all fun d => match d with | .none => false | _ => true
def maxW (h : LH) (d : D) : Option D := (lstOf h d).bind fun xs => (mapO (toP h 30) xs).bind fun ps => if okMax ps = true ∧ 0 < xs.length then xs[argBest (fun i j => PySem.W.dataLt (ps.getD j .none) (ps.getD i .none)) (xs.length - 1)]? else none
section
variable {X : Cx} {Z : Sta} {s0 : S3} {W : WX} {c : Calls} {pos p p2 : Pos}
theorem pairs_at {s : S3} (hK : Z.K = X.K) : ∀ {xs : List D} {ps : List (D × D)} {vs : List V}, mapO pairK xs = some ps → RDs Z s xs vs →
    ∃ (as : List Addr) (kvs : List (Key × V)), vs = as.map V.ref ∧ Paired (fun p kv => SqT X.K s.H p [kV kv.1, kv.2]) as kvs ∧ RDk Z s ps kvs
  | [], _, _, h, r => by cases h; cases r; exact ⟨[], [], rfl, .nil, .nil⟩
  | x :: xs, _, _, h, r => by
    simp only [mapO] at h
    cases e1 : pairK x with
    | none => rw [e1] at h; cases h
    | some y =>
      rw [e1] at h
      cases e2 : mapO pairK xs with
      | none => rw [e2] at h; cases h
      | some ys =>
        rw [e2] at h; cases h
        cases r with
        | cons r1 r2 =>
          obtain ⟨as, kvs, ev, hp, hk⟩ := pairs_at hK e2 r2
          unfold pairK at e1
          split at e1
          · rename_i k v
            cases e1
            cases r1 with
            | @tup a _ ws hs hr =>
              cases hr with
              | cons q1 q2 =>
                cases q2 with
                | cons q3 q4 =>
                  cases q4
                  cases q1
                  rename_i w
                  refine ⟨a :: as, (.inl k, w) :: kvs, by rw [ev]; rfl, .cons (hK ▸ hs) hp, .cons (k := .inl k) q3 hk⟩
          · cases e1
theorem putAll_rd {s : S3} : ∀ (ps : List (D × D)) {kvs : List (Key × V)} {acc : List (D × D)} {avs : List (Key × V)}, RDk Z s ps kvs → RDk Z s acc avs → RDk Z s (putAll ps acc) (mergeK avs kvs)
  | [], _, _, _, r, q => by cases r; exact q
  | p :: ps, _, _, _, r, q => by
    cases r with
    | @cons k d v _ vs r1 r2 =>
      have z := putAll_rd ps r2 (RDk.put (k := k) r1 q)
      exact z
theorem cr_dictF (hK : Z.K = X.K) (hc : X.calm = true) : CallR X (.type "dict") (rB1 Z dictF) := by
  intro pins s σ H xs us Q I rx h
  obtain ⟨x, s3, d, r, rfl, rfl, ok, rd, hf, k⟩ := h
  unfold dictF at hf
  cases e1 : lstOf s3.h d with
  | none => rw [e1] at hf; cases hf
  | some ys =>
    rw [e1] at hf
    simp only [Option.bind_some] at hf
    cases e2 : mapO pairK ys with
    | none => rw [e2] at hf; cases hf
    | some ps =>
      rw [e2] at hf
      cases hf
      obtain ⟨a, vs, rfl, h1, h2⟩ := lst_at ok e1 rd
      obtain ⟨as, kvs, rfl, hp, hk⟩ := pairs_at hK e2 h2
      refine call_dictP hc pins s σ s3.H [.ref a] us Q I rx ⟨a, as, kvs, rfl, hK ▸ h1, hp, fun p hp0 => ?_⟩
      have l := Le.tmp (o := .dK (mergeK [] kvs)) hp0
      exact k ⟨s3.m, s3.h, upd s3.H p (.dK (mergeK [] kvs)), s3.pr, s3.xc⟩ rfl l (ok.tmp hp0) _ (.dic (.inl upd_same) (nmv_tmp ok hp0) ((putAll_rd _ hk .nil).le ok l))
theorem keys_int {s : S3} : ∀ (ks : List (D × D)) {kvs : List (Key × V)} {is : List Int}, mapO intK ks = some is → RDk Z s ks kvs → kvs.map (·.1) = is.map Sum.inl
  | [], _, _, h, r => by cases h; cases r; rfl
  | p :: ks, _, _, h, r => by
    simp only [mapO] at h
    cases e1 : intK p with
    | none => rw [e1] at h; cases h
    | some i =>
      rw [e1] at h
      cases e2 : mapO intK ks with
      | none => rw [e2] at h; cases h
      | some is =>
        rw [e2] at h; cases h
        cases r with
        | @cons k d v _ _ r1 r2 =>
          rw [List.map_cons, List.map_cons, keys_int ks e2 r2]
          congr 1
          cases k with
          | inl j =>
            have : some j = some i := e1
            cases this
            rfl
          | inr x => cases e1
theorem sort_uniq {ys is : List Int} (h1 : ys.Perm is) (h2 : ys.Pairwise (· ≤ ·)) : ys = is.mergeSort fun a b => decide (a ≤ b) := by
  have h3 : (is.mergeSort fun a b => decide (a ≤ b)).Pairwise (· ≤ ·) := by
    have := List.pairwise_mergeSort (le := fun a b : Int => decide (a ≤ b)) (fun a b c h1 h2 => by simp at h1 h2 ⊢; omega) (fun a b => by simp; omega) is
    exact this.imp fun h => by simpa using h
  exact List.Perm.eq_of_pairwise (le := (· ≤ ·)) (fun a b _ _ h1 h2 => by omega) h2 h3 (h1.trans (List.mergeSort_perm _ _).symm)
theorem cr_sortX (hK : Z.K = X.K) (hu : X.A.units + 65 < cLine) (hc : X.calm = true) : CallR X (.builtin "sorted") (rB1 Z sortX) := by
  intro pins s σ H xs us Q I rx h
  obtain ⟨x, s3, d, r, rfl, rfl, ok, rd, hf, k⟩ := h
  cases d with
  | dic ks =>
    have hf : ((mapO intK ks).bind fun is => if is.length < 64 then some (D.lst ((is.mergeSort fun a b => decide (a ≤ b)).map .int)) else none) = some r := hf
    cases e1 : mapO intK ks with
    | none => rw [e1] at hf; cases hf
    | some is =>
      rw [e1] at hf
      simp only [Option.bind_some] at hf
      split at hf
      · rename_i h64
        cases hf
        obtain ⟨a, kvs, rfl, h1, h2⟩ := dic_at ok (d := .dic ks) rfl rd
        refine call_sortedDI hc pins s σ s3.H [.ref a] us Q I rx ⟨a, kvs, is, rfl, h1, keys_int _ e1 h2, h64, fun ys p hp hs hp0 => ?_⟩
        have l := Le.tmp (o := .lst (ys.map V.int)) hp0
        rw [sort_uniq hp hs]
        have rds : ∀ zs : List Int, RDs Z s3 (zs.map .int) (zs.map V.int) := fun zs => by
          induction zs with
          | nil => exact .nil
          | cons z zs ih => exact .cons (.int z) ih
        exact k ⟨s3.m, s3.h, upd s3.H p (.lst ((is.mergeSort fun a b => decide (a ≤ b)).map V.int)), s3.pr, s3.xc⟩ rfl (Le.tmp hp0) (ok.tmp hp0) _ (RD.newL ok hp0 (rds _))
      · cases hf
  | _ => exact cr_sortW hK hu pins s σ _ _ us Q I rx ⟨x, s3, _, r, rfl, rfl, ok, rd, hf, k⟩
theorem readsAll_of {h : Heap} : ∀ {us : List Value} {bs : List (D × PyData)}, PySem.W.EachIs (fun u (b : D × PyData) => ∃ as, Reads h u b.2 as) us bs → ∃ as, ReadsAll h us (bs.map (·.2)) as
  | _, _, .nil => ⟨[], .nil⟩
  | _, _, .cons ⟨as, h1⟩ t => by
    obtain ⟨cs, q⟩ := readsAll_of t
    exact ⟨as ++ cs, .cons h1 q⟩
theorem depthAll_le {n : Nat} : ∀ ps : List PyData, (∀ p ∈ ps, p.depth ≤ n) → PyData.depthAll ps ≤ n
  | [], _ => by simp only [PyData.depthAll]; exact Nat.zero_le _
  | p :: ps, h => by
    simp only [PyData.depthAll]
    exact Nat.max_le.mpr ⟨h p List.mem_cons_self, depthAll_le ps fun q hq => h q (List.mem_cons_of_mem _ hq)⟩
theorem cr_maxW (hK : Z.K = X.K) (hu : X.A.units + 65 < cLine) (hc : X.calm = true) : CallR X (.builtin "max") (rB1 Z maxW) := by
  intro pins s σ H xs us Q I rx h
  obtain ⟨x, s3, d, r, rfl, rfl, ok, rd, hf, k⟩ := h
  unfold maxW at hf
  cases e1 : lstOf s3.h d with
  | none => rw [e1] at hf; cases hf
  | some ys =>
    rw [e1] at hf
    simp only [Option.bind_some] at hf
    cases e2 : mapO (toP s3.h 30) ys with
    | none => rw [e2] at hf; cases hf
    | some ps =>
      rw [e2] at hf
      simp only [Option.bind_some] at hf
      split at hf
      · rename_i hs
        obtain ⟨hs, hpos⟩ := hs
        obtain ⟨a, vs, rfl, h1, h2⟩ := lst_at ok e1 rd
        obtain ⟨its, rv, hl, hz⟩ := I.list (hK ▸ h1)
        obtain ⟨u, rfl, ru⟩ := vals1 rx
        obtain rfl : u = Value.ref a := ru
        obtain ⟨a1, a2, a3⟩ := each_of hK ok I e2 h2 rv
        have hm : (ys.zip ps).map (·.2) = ps := by
          rw [List.map_snd_zip]
          rw [mapO_len e2]
          exact Nat.le_refl _
        obtain ⟨cs, hra⟩ := readsAll_of a2
        rw [hm] at hra
        have hal : PySem.W.AlikeAll ps := by
          unfold okMax at hs
          rw [Bool.and_eq_true] at hs
          refine ⟨fun d hd e he => List.all_eq_true.mp (List.all_eq_true.mp hs.1 d hd) e he, fun d hd z => ?_⟩
          have := List.all_eq_true.mp hs.2 d hd
          rw [z] at this
          cases this
        have hd : PyData.depthAll ps ≤ 30 := depthAll_le ps fun q hq => by
          rw [← hm] at hq
          obtain ⟨b, hb, rfl⟩ := List.mem_map.mp hq
          exact a3 b hb
        have hlen : its.length = ys.length := by rw [← rv.length, h2.length]
        have hn : its.toArray.size = ys.length := by rw [List.size_toArray, hlen]
        refine PySem.call_max_walkH (PySem.W.iter_listW (A := X.A.in1) (I.ok.hd hc) hl.isList fun s₂ e W st hfp hw hk => ?_)
        refine ⟨_, _, _, _, _, _, _, s.heap, _, rfl, W, st, hfp, by rw [hn]; exact hpos, hw, hk, PySem.W.cmpIn_gt (A := X.A.in1) (vs := its.toArray) hra hal (by show X.A.units + 1 + _ < _; omega), fun v s' hP m => ?_⟩
        obtain ⟨h', tk, rfl, hk'⟩ := PySem.W.moved_old e rfl m
        have hP : its.toArray[argBest (fun i j => PySem.W.dataLt (ps.getD j .none) (ps.getD i .none)) (its.toArray.size - 1)]? = some v := hP
        rw [List.getElem?_toArray, hn] at hP
        obtain ⟨w, hw1, hw2⟩ := vals_get rv hP
        obtain ⟨w', hw', rw'⟩ := h2.get hf
        rw [hw1] at hw'
        cases hw'
        have I' : L2.Inv X pins σ s3.H { s with heap := h', toks := tk } := I.turnedL (t' := tk) (ch := []) (fun b o _ e => hk' b o e) (fun b hb => by simp at hb)
        exact ⟨w, s3.H, I', hw2, k s3 rfl (Le.refl _) ok w rw'⟩
      · cases hf
/-! ### get of a dict display of constants -/
def getK (ks : List (D × D)) : D → Option D
  | .int i => some ((dget ks (.int i)).getD .non)
  | _ => none
def bGetC (ps : List (D × D)) (e : DE) : DE := fun c σ h => (e c σ h).bind fun y h1 => optO (getK (putAll ps []) y) h1
theorem tPairs_c {σ : L2.St} {H : Hp} {Q : List (V × V) → Hp → Prop} : ∀ {kvs : List (Key × V)}, Q (kvs.map fun kv => (kV kv.1, kv.2)) H → tPairs (kvs.map fun kv => (tC (kV kv.1), tC kv.2)) σ H Q
  | [], q => q
  | kv :: kvs, q => tPairs_c (kvs := kvs) (Q := fun ps H3 => Q ((kV kv.1, kv.2) :: ps) H3) q
theorem wKI {i : Int} {j : _} : PE X (.Constant (.int i) j pos) (tC (kV (.inl i))) := pe_int
theorem wKG {x : PySem.Str} {i : Int} (m : ∃ t, X.mg x = some (.int i t)) (hg : Gl X x := by rfl) (hd : (x == ("__debug__" : PySem.Str)) = false := by rfl) : PE X (.Name x pos) (tC (kV (.inl i))) := by
  obtain ⟨t, m⟩ := m
  exact pe_glob hg m ⟨t, rfl⟩ hd
theorem wKS {z : PySem.Str} {j : _} : PE X (.Constant (.str z) j pos) (tC (.str z)) := pe_str
theorem wGetC (C : Ct X Z W) {keys : List (Option Expr)} {values : List Expr} {kvs : List (Key × V)} {ks : List (D × D)} {e : Expr} {ee : DE} {apos dpos : Pos} (hp : PPs X dpos keys values (kvs.map fun kv => (tC (kV kv.1), tC kv.2))) (hk : ∀ s, RDk Z s ks kvs) (he : PE X e (tE Z W (ee c))) (h15 : kvs.length ≤ 15 := by decide) (hall : keys.all (·.isSome) = true := by rfl) (hl : keys.length = values.length := by rfl) (h0 : keys ≠ [] := by exact fun z => nomatch z) (hk15 : keys.length ≤ 15 := by decide) (hx : plainE e = true := by rfl) (hline : (apos.endLine == pos.line) = true := by rfl) :
    PE X (.Call (.Attribute (.Dict keys values dpos) "get" apos) [e] [] pos) (tE Z W (bGetC ks ee c)) := by
  have hs : starEach [e] X.env = (false, eval e X.env) :: starEach [] X.env := star_cons hx
  have hu := C.hu
  refine (pe_dget1 (by omega) (pe_disp hp hall hl h0 hk15) he ⟨base_plain rfl, star_few (es := [e]) (by simp [hx]) (by show 1 < 30; decide), hline, by rw [hs]; rfl⟩).imp fun σ H Q t => ?_
  obtain ⟨s, σL, rfl, ok, rs, q⟩ := t
  intro p hp0
  refine tPairs_c ⟨upd_same, kvs, rfl, h15, ?_⟩
  have l := Le.tmp (o := .dK (mergeK [] kvs)) hp0
  have ok1 := ok.tmp (o := .dK (mergeK [] kvs)) hp0
  have rd : RD Z ⟨s.m, s.h, upd s.H p (.dK (mergeK [] kvs)), s.pr, s.xc⟩ (.dic (putAll ks [])) (.ref p) := .dic (.inl upd_same) (nmv_tmp ok hp0) ((putAll_rd _ (hk _) .nil).le ok l)
  rw [upd_upd]
  refine ⟨p, rfl, .inl ⟨_, .inl upd_same⟩, ⟨s.m, s.h, upd s.H p (.dK (mergeK [] kvs)), s.pr, s.xc⟩, σL, rfl, ok1, rs.le ok l, ?_⟩
  refine ((PostV.bind (o := ee c σL s.h) q).back l).mono (fun d s2 l2 ok2 q2 v rv => ?_) fun _ _ _ _ _ q => q
  obtain ⟨g, eg, hg⟩ := post_opt q2
  cases d with
  | int i =>
    cases rv
    have eg : some ((dget (putAll ks []) (.int i)).getD .non) = some g := eg
    obtain ⟨a, o, ea, hd, h1, h2⟩ := dget_at ok2 (k := .int i) (u := .int i) rfl rfl (rd.le ok1 l2).b (RD.int i).b
    cases ea
    refine ⟨o, hd, hg s2 rfl (Le.refl _) ok2 _ ?_⟩
    cases ed : dget (putAll ks []) (.int i) with
    | none =>
      rw [ed] at eg h1
      cases eg
      cases o with
      | none => exact .non
      | some w => cases h1
    | some d =>
      rw [ed] at eg
      cases eg
      obtain ⟨w, rfl, rw'⟩ := h2 _ ed
      exact rw'
  | _ => cases eg
end
end Bh
/-! Bh, part 45: an own exception with two parameters. -/
namespace Bh
open PySem PySem.Spec PySem.W PyProof.Rows L2
section
variable {P : Program} {w : World} {K : Frag} {mg : PySem.Str → Option Value} {base : Heap} {CX : CXT} {k : Nat} {f cc D : Addr} {F : NdefX.NF}
/-- __init__(self, r, t): super().__init__(r, t); self.r = r; self.t = t -/
theorem ini_two {r t : PySem.Str} {p0 p1 apos pos pos2 pr pt q1 q2 q3 q4 q5 q6 q7 q8 : Pos} (S : SupF P K mg f cc D F ["self", r, t, "__class__"] ["self", r, t] "self")
    (hb : F.body = [.Expr (.Call (.Attribute (.Call (.Name "super" p0) [] [] p1) "__init__" apos) [.Name r pr, .Name t pt] [] pos) pos2, .Assign [.Attribute (.Name "self" q1) r q2] (.Name r q3) q4, .Assign [.Attribute (.Name "self" q5) t q6] (.Name t q7) q8])
    (hl : (apos.endLine == pos.line) = true) (lr : F.scope.names.lookup r = some .local) (lt : F.scope.names.lookup t = some .local) (d1 : (r == ("__debug__" : PySem.Str)) = false) (d2 : (r == ("__classdict__" : PySem.Str)) = false) (d3 : (t == ("__debug__" : PySem.Str)) = false) (d4 : (t == ("__classdict__" : PySem.Str)) = false) :
    ∃ fd oc od osl, K.lookup f = some ⟨oc, od, .func fd, osl⟩ ∧ fd.params = F.params ∧ FnOk P w K mg base CX (k + 1) f fd ["self", r, t] (spSup K D 2 fun ws => [(t, ws.getD 1 .non), (r, ws.getD 0 .non)]) := by
  refine fn_sup rfl S hb (fun env => star_cons rfl) (fun env => rfl) (fun env => call_super_eval rfl (by show 2 < 30; decide) hl) (fun A outer s H E => ⟨_, pa_cons (pe_var (i := 1) rfl (.inl lr) d1 d2) (pa_cons (pe_var (i := 2) rfl (.inl lt) d3 d4) pa_nil (star_cons rfl)) (star_cons rfl), fun ws a H hw => ?_⟩) fun A outer s H E => ⟨_, pss_cons (ps_ost (pe_var (i := 0) rfl (.inl S.l0) rfl rfl) (pe_var (i := 1) rfl (.inl lr) d1 d2) (by rfl)) (pss_one (ps_ost (pe_var (i := 0) rfl (.inl S.l0) rfl rfl) (pe_var (i := 2) rfl (.inl lt) d3 d4) (by rfl))), fun Q a C ws H hw T hf ha q => ?_⟩
  · match ws, hw with
    | [w0, w1], _ => exact ⟨w0, rfl, w1, rfl, rfl, by show 2 ≤ 1000; decide⟩
  · match ws, hw with
    | [w0, w1], _ =>
      refine ⟨w0, rfl, .ref a, rfl, a, C, rfl, T, hf (r, w0) (by simp), .inl ⟨ha, fun dx hdx hne => ?_⟩⟩
      refine ⟨w1, rfl, .ref a, rfl, a, C, rfl, T, hf (t, w1) (by simp), .inr ⟨dx, _, upd_same, by rw [upd_ne hne, upd_same], by show 1 ≤ 900; decide, ?_⟩⟩
      exact q dx _ hdx hne (by rw [upd_ne (Ne.symm hne), upd_same]) (by rw [upd_same]; rfl) fun b h1 h2 => by rw [upd_ne h2, upd_ne h1, upd_ne h2]
end
end Bh
/-! Bh, part 46: a def that is handed the exception of an except suite. -/
namespace Bh
open PySem PySem.Spec PyProof.Rows L2
/-- such a def's promise: p is what is handled -/
structure FnE (P : Program) (w : World) (K : PySem.W.Frag) (mg : PySem.Str → Option Value) (base : Heap) (k : Nat) (f : Addr) (fd : FuncData) (ps : List PySem.Str) (sp : Addr × Obj → List V → Hp → VK → Prop) : Prop where
  len : ∀ p vs H Q, sp p vs H Q → vs.length = ps.length
  run : ∀ (A : Around) (outer : List Env) (s : Shared) (H : Hp) (args : Args) (us : List Value) (vs : List V) (Q : VK) (p : Addr × Obj), L2H.RoomH k A → L2H.PinOk outer H s p → Env0 P w K mg base A outer s H → BindsTo s fd args (ps.zip us) → Vals vs us → sp p vs H Q → codeAny (model P w) A (.call (.ref f) args) (CR L2.CX0 outer P w H s Q fun _ _ _ => False) s
section
variable {P : Program} {w : World} {K : PySem.W.Frag} {mg : PySem.Str → Option Value} {base : Heap} {k : Nat} {f : Addr} {x qual : PySem.Str} {params : Arguments} {body : List Stmt} {scope : Scope} {fd : FuncData} {N ps : List PySem.Str} {sp : Addr × Obj → List V → Hp → VK → Prop} {dvs : List V} {kws : List (PySem.Str × V)}
abbrev Xe (P : Program) (w : World) (K : PySem.W.Frag) (mg : PySem.Str → Option Value) (base : Heap) (N : List PySem.Str) (qual : PySem.Str) (scope : Scope) (f : Addr) (cdv : Value) (A : Around) (outer : List Env) (s : Shared) (H : Hp) (p : Addr × Obj) : Cx := L2H.cxH L2.CX0 P w K mg base N qual scope f cdv A outer s H (fun _ _ _ => False) p
theorem fn_ofE (F : FunD K x qual params body scope dvs kws f fd) (S : FnScope N ps scope) (len : ∀ p vs H Q, sp p vs H Q → vs.length = ps.length)
    (hb : ∀ (cdv : Value) (A : Around) (outer : List Env) (s : Shared) (H : Hp) (vs : List V) (Q : VK) (p : Addr × Obj), L2H.RoomH k (A.deeper (envOfC qual scope s.heap.objs.size f cdv)) → sp p vs H Q → ∃ t, PSs (Xe P w K mg base N qual scope f cdv A outer s H p) body t ∧ t { nx := fun _ H' => Q .non H', rt := Q } (start N vs) H) : FnE P w K mg base (k + 1) f fd ps sp := by
  obtain ⟨oc, od, dV, kV, doc, pm, an, cdv, ct, osl, rfl, lk, hcd, _, _⟩ := F.ex
  refine ⟨len, ?_⟩
  intro A outer s H args us vs Q p hr hpin e0 hbi r hsp
  have up : ∀ b o, base.get? b = some o → s.heap.get? b = some o := fun b o e => (e0.bs b o e).1
  have hkind : ∀ y ∈ ps.zip us, scope.names.lookup y.1 = some .local ∨ (scope.names.lookup y.1 = some .cell ∧ ((cellsFrom (s.heap.objs.size + 1) scope.names []).lookup y.1).isSome = true) := fun y hy => (S.par y.1 (List.of_mem_zip (show (y.1, y.2) ∈ ps.zip us from hy)).1).imp (fun q => q) fun q => ⟨q, PySem.W.cellsFrom_some _ _ _ (.inl q)⟩
  refine codeAny_call_function hr.depth (e0.mod.kin.keeps up _ _ lk) rfl S.co S.gen rfl (PySem.W.codeRec_of (e0.mod.kin.keeps up) hcd) (hbi _ _ _ _ (wpAny_newFunctionEnv_cells S.kind hkind fun env he s1 y => ?_))
  subst he
  refine ⟨(e0.mod.nolimit.keeps up).keeps y.toInCall.keep, codeAny_func ?_⟩
  obtain ⟨t, ht, hq⟩ := hb cdv A outer s H vs Q p (hr.deeper _) hsp
  refine wpAny_mono (ht.run [] s1 (start N vs) H _ (L2H.inv_startH S hpin e0 (len _ _ _ _ hsp) r y) hq) (fun fl s' hs => ?_) fun e s' hs => hs
  cases fl with
  | ret u => obtain ⟨v, σ', H', J, rv, q⟩ := hs; exact ⟨v, H', J.os, J.bare, J.base, J.hok, rv, q⟩
  | next => obtain ⟨σ', H', J, q⟩ := hs; exact ⟨V.non, H', J.os, J.bare, J.base, J.hok, rfl, q⟩
  | brk => exact (show False by obtain ⟨_, _, _, q⟩ := hs; exact q).elim
  | cont => exact (show False by obtain ⟨_, _, _, q⟩ := hs; exact q).elim
end
def runX (n : Nat) (ev : DSt → LH → OutS) (sl : Sl) (h : LH) : Out D := match ev (sl :: List.replicate (n - 1) .no) h with
  | .nx _ h' => .ok .non h'
  | .rt d h' => .ok d h'
  | _ => .bad
/-- what such a def promises -/
def spE (Z : Sta) (n : Nat) (ev : DSt → LH → OutS) (p : Addr × Obj) (vs : List V) (H : Hp) (Q : VK) : Prop := ∃ s kx fs cls d, vs = [.ref p.1] ∧ s.H = H ∧ Ok3 Z s ∧ XD Z s kx fs cls d ∧ Zc cls d p.2 ∧ (∃ vs, p.2.data = .fields vs) ∧ PostV Z s (runX n ev (.ex kx fs) s.h) (QQ Z Q) fun _ _ _ => False
section
variable {P : Program} {w : World} {K : PySem.W.Frag} {mg : PySem.Str → Option Value} {base : Heap} {k : Nat} {f : Addr} {x qual par : PySem.Str} {params : Arguments} {body : List Stmt} {scope : Scope} {fd : FuncData} {N : List PySem.Str} {dvs : List V} {kws : List (PySem.Str × V)} {Z : Sta}
theorem fn_bodyE {ev : DSt → LH → OutS} (hq : Z.xq = none) (F : FunD K x qual params body scope dvs kws f fd) (S : FnScope N [par] scope) (hN : 0 < N.length)
    (hb : ∀ (cdv : Value) (A : Around) (outer : List Env) (s : Shared) (H : Hp) (s0 : S3) (a : Addr) (oe : Obj) (cls : Value) (d : Option Addr), Zc cls d oe → (∃ vs, oe.data = .fields vs) → L2H.RoomH k (A.deeper (envOfC qual scope s.heap.objs.size f cdv)) → PSs (Xe P w K mg base N qual scope f cdv A outer s H (a, oe)) body (tS (Z.wx (some (a, cls, d))) s0 W0 ev)) :
    FnE P w K mg base (k + 1) f fd [par] (spE Z N.length ev) := by
  refine fn_ofE F S (fun p vs H Q h => ?_) fun cdv A outer s H vs Q p hr h => ?_
  · obtain ⟨_, _, _, _, _, rfl, _⟩ := h
    rfl
  · obtain ⟨s3, kx, fs, cls, d, rfl, rfl, ok, xd, hz, hf, p3⟩ := h
    obtain ⟨a, oe⟩ := p
    obtain ⟨n, hn⟩ : ∃ n, N.length = n + 1 := ⟨N.length - 1, by omega⟩
    have lc0 := ((lc_start (N := N) ok (RDs.nil (Z := Z) (s := s3))).wx (q := some (a, cls, d)) hq).setN (sl := .ex kx fs) (v := .ref a) rfl (show RSl _ _ (.ex kx fs) (.ref a) from ⟨a, cls, d, rfl, rfl, xd.wx⟩) 0
    have e1 : (startS N.length []).set 0 (.ex kx fs) = .ex kx fs :: List.replicate (N.length - 1) .no := by
      rw [hn]
      rfl
    have e2 : (start N []).set 0 (some (V.ref a)) = start N [.ref a] := by
      unfold L2.start
      rw [hn]
      rfl
    rw [e1, e2] at lc0
    refine ⟨_, hb cdv A outer s s3.H s3 a oe cls d hz hf hr, s3, _, rfl, ok.wx, lc0, ?_⟩
    unfold runX at p3
    cases e : ev (.ex kx fs :: List.replicate (N.length - 1) .no) s3.h with
    | nx σL h' =>
      rw [e] at p3
      intro s' σ' e1 _ _ ok' lc'
      exact p3 (s'.out s3) e1 (out_le lc'.fr) (out_ok (Ok3.unwx ok') lc'.fr) _ .non
    | rt dd h' =>
      rw [e] at p3
      intro s' v e1 ok' fr rv
      exact p3 (s'.out s3) e1 (out_le fr) (out_ok (Ok3.unwx ok') fr) _ ((RD.unwx rv).lq (Ok3.unwx ok') (out_lq fr))
    | ex _ _ _ _ => rw [e] at p3; exact p3.elim
    | bk _ _ => rw [e] at p3; exact p3.elim
    | ct _ _ => rw [e] at p3; exact p3.elim
    | bad => rw [e] at p3; exact p3.elim
/-- the def's facts -/
structure EDef (P : Program) (w : World) (K : PySem.W.Frag) (mg : PySem.Str → Option Value) (base : Heap) (Z : Sta) (lev n N : Nat) (ev : DSt → LH → OutS) : Prop where
  ok : ∃ fd ps, FnE P w K mg base lev (Z.fa n) fd ps (spE Z N ev) ∧ Binds K fd ps []
  kp : PySem.W.keepIn K (.ref (Z.fa n)) = true
end
theorem XD.unwx {Z : Sta} {s : S3} {q : Option (Addr × Value × Option Addr)} {k : Nat} {fs : List D} {cls : Value} {dd : Option Addr} (h : XD (Z.wx q) s k fs cls dd) : XD Z s k fs cls dd := XD.wx (Z := Z.wx q) (q := Z.xq) h
theorem runX_ex {n : Nat} {ev : DSt → LH → OutS} {sl : Sl} {h : LH} : (∃ d h', runX n ev sl h = .ok d h') ∨ runX n ev sl h = .bad := by
  unfold runX
  split
  · exact .inl ⟨_, _, rfl⟩
  · exact .inl ⟨_, _, rfl⟩
  · exact .inr rfl
def bCallE (known : Nat → Bool) (n i : Nat) (ev : DS) : DE := fun c σ h => match σ[i]? with
  | some (.ex k fs) => if known k = true then runX n (ev c) (.ex k fs) h else .bad
  | _ => .bad
section
variable {X : Cx} {Z : Sta} {c : Calls} {pos p p2 : Pos}
theorem sd_callE {a : Addr} {oe : Obj} {cls : Value} {d : Option Addr} {pn : List (Addr × Obj)} {known : Nat → Bool} {lev n N i : Nat} {ev : DS} {x g : PySem.Str} {W' : WX} (F : EDef X.prog X.w X.K X.mg X.base Z lev n N (ev c)) (hr : Room lev X.A) (hz : Zc cls d oe) (hf : ∃ vs, oe.data = .fields vs)
    (hN : X.N[i]? = some x) (hv : Vis X.env.scope x) (hd : (x == ("__debug__" : PySem.Str)) = false) (hcd : (x == ("__classdict__" : PySem.Str)) = false)
    (hg : Gl X g) (hm : X.mg g = some (.ref (Z.fa n))) (hdb : (g == ("__debug__" : PySem.Str)) = false) :
    PE (X.suite a ((a, oe) :: pn)) (.Call (.Name g p) [.Name x p2] [] pos) (tE (Z.wx (some (a, cls, d))) W' (bCallE known N i ev c)) := ⟨fun pins sh σ H Q I t => by
  obtain ⟨s, σL, rfl, ok, rs, pp⟩ := t
  unfold bCallE at pp
  split at pp
  · rename_i k fs ei
    split at pp
    · rename_i hk
      obtain ⟨v, ev', a', cls', dd', e1, e2, xd⟩ := rs.2 i _ ei (fun z => by cases z)
      cases e2
      subst e1
      obtain ⟨⟨fd, ps, F, hb⟩, hkp⟩ := F
      have pv : PE (X.suite a ((a, oe) :: pn)) (.Name x p2) (tVar i) := pe_var hN hv hd hcd
      refine wpAny_Call_Name_kw (ld_glob I hg hm ?_ hdb)
      have hI2 := I
      refine PySem.W.callWith_K (h₀ := X.base) I.ok.mod.kin hkp (thn ((pa_cons pv pa_nil rfl).run pos pins _ σ s.H (fun vs H1 => vs = [.ref a] ∧ H1 = s.H) I ⟨_, ev', rfl, rfl⟩) fun us s1 ⟨vs, H1, I1, r, q⟩ => ⟨I1.kIn, ?_⟩) rfl rfl
      obtain ⟨rfl, rfl⟩ := q
      have hsp : spE Z N (ev c) (a, oe) [.ref a] s.H Q := ⟨s, k, fs, cls, d, rfl, rfl, Ok3.unwx ok, XD.unwx xd, hz, hf, by
        rcases runX_ex (n := N) (ev := ev c) (sl := .ex k fs) (h := s.h) with ⟨r, h', e⟩ | e
        · rw [e] at pp ⊢
          exact fun s' e1 l1 ok1 v rv => pp s' e1 l1 ok1.wx v rv.wx
        · rw [e] at pp
          exact pp.elim⟩
      have hl : us.length = ps.length := by rw [← r.length]; exact F.len _ _ _ _ hsp
      have b := hb s1 us I1.kIn (by rw [List.append_nil]; exact hl)
      rw [List.append_nil] at b
      have P1 := I1.pin (a, oe) (List.mem_append_left _ List.mem_cons_self)
      have hpin : L2H.PinOk (X.suite a ((a, oe) :: pn)).stack s.H s1 (a, oe) := ⟨P1.1, P1.2.1, fun hm => (List.mem_cons.mp (I1.stkSub a hm)).elim P1.2.2.1 P1.2.2.2.1, P1.2.2.2.2⟩
      refine wpAny_call (codeAny_mono (F.run (X.suite a ((a, oe) :: pn)).A (X.suite a ((a, oe) :: pn)).stack s1 s.H ⟨us, []⟩ us [.ref a] Q (a, oe) ⟨hr.dp, hr.un⟩ hpin I1.env0 b r hsp) fun r s' hq => ?_)
      cases r with
      | error e => exact False.elim hq
      | ok fl =>
        cases fl with
        | ret u => exact I1.after hq
        | next => exact False.elim hq
        | brk => exact False.elim hq
        | cont => exact False.elim hq
    · exact pp.elim
  · exact pp.elim⟩
end
end Bh
/-! Bh, part 47: isinstance of a pinned exception; a def without parameters that shows values. -/
namespace Bh
open PySem PySem.Spec PyProof.Rows L2
theorem cr_ixP {X : Cx} {a D : Addr} {oe : Obj} {dx : Option Addr} (hp : (a, oe) ∈ X.pn) (C : XiC X.K D) (hz : Zc (.ref D) dx oe) (hf : ∃ vs, oe.data = .fields vs) : CallR X (.builtin "isinstance") (rIx X.K D a dx) := by
  intro pins s σ H xs us Q I r h
  obtain ⟨c, cv, b, dd, fs, rfl, hcv, e, rfl, hH, q⟩ := h
  cases r with
  | cons rx rr =>
    cases rr with
    | cons rt rr =>
      cases rr
      cases rx
      have ec := hcv _ rt
      subst ec
      obtain ⟨hget, _⟩ := I.pin (a, oe) (List.mem_append.mpr (.inl hp))
      obtain ⟨vs, hv⟩ := hf
      have hx : ObjOk X.prog X.w H s.heap dd (.xd fs) := I.hok dd _ hH
      obtain ⟨mA, hns, hr⟩ := hx
      obtain ⟨od, ho, hl⟩ := lookIn_ns hns
      have J : PySem.W.InstAt s.heap a oe D (some od) := ⟨hget, hz.1, by unfold PySem.W.notCls; rw [hv] <;> rfl, by rw [hz.2]; exact ho⟩
      exact PySem.W.kia_one (PySem.W.kitx_exc C.hc C.hg C.hk C.hs C.ha C.hn C.ht C.hm) I.kIn J e (fun z => nomatch z) fun tk => ⟨.bl b, H, I.kept (t' := tk) fun _ _ z => z, rfl, q⟩
/-- isinstance(e, C), C a built-in class: told by the class of e -/
def bExIsB (known sb : Nat → Bool) (i : Nat) : DE := fun _ σ h => match σ[i]? with
  | some (.ex k _) => if known k = true then .ok (.bl (sb k)) h else .bad
  | _ => .bad
section
variable {X : Cx} {Z : Sta} {c : Calls} {pos p p2 p3 : Pos}
theorem sd_exIsP {a : Addr} {oe : Obj} {cls : Value} {d : Option Addr} {known : Nat → Bool} {sub : Nat → Nat → Bool} {i j : Nat} {x y xi : PySem.Str} {W' : WX} (hp : (a, oe) ∈ X.pn) (hq : Z.xq = some (a, cls, d)) (hz : Zc cls d oe) (hf : ∃ vs, oe.data = .fields vs)
    (F : ∀ k, known k = true → XiC X.K (Z.ca k) ∧ PySem.W.kitOne X.K (.ref (Z.ca k)) (.ref (Z.ca j)) = some (sub k j)) (hN : X.N[i]? = some x) (hv : Vis X.env.scope x) (hd : (x == ("__debug__" : PySem.Str)) = false) (hcd : (x == ("__classdict__" : PySem.Str)) = false)
    (hg : Gl X xi) (hm : X.mg xi = none) (hbi : bootBuiltins xi = some (.builtin "isinstance")) (hn : xi ≠ "__name__") (hdb : (xi == ("__debug__" : PySem.Str)) = false) (hg2 : Gl X y) (hm2 : X.mg y = some (.ref (Z.ca j))) (hdb2 : (y == ("__debug__" : PySem.Str)) = false) :
    PE X (.Call (.Name xi p) [.Name x p2, .Name y p3] [] pos) (tE Z W' (bExIs known sub j i c)) := ⟨fun pins sh σ H Q I t => by
  obtain ⟨s, σL, rfl, ok, rs, pp⟩ := t
  unfold bExIs at pp
  split at pp
  · rename_i k fs ei
    split at pp
    · rename_i hk
      obtain ⟨v, ev, a', cls', dd', e1, e2, dx, fs', e3, e4, e5, e6⟩ := rs.2 i _ ei (fun z => by cases z)
      rw [hq] at e2
      cases e2
      subst e1 e3
      obtain ⟨C, hkit⟩ := F k hk
      have pv : PE X (.Name x p2) (tVar i) := pe_var hN hv hd hcd
      have pc : PE X (.Name y p3) (tC (.ref (Z.ca j))) := pe_glob hg2 hm2 rfl hdb2
      have px := pe_callB (pos := pos) (p := p) (cr_ixP hp C hz hf) hg hm hbi (pa_cons pv (pa_cons pc pa_nil rfl) rfl) hn hdb
      exact px.run pins sh σ _ Q I ⟨_, ev, .ref (Z.ca j), .ref (Z.ca j), sub k j, dx, fs', rfl, fun u h => h, hkit, e4, e5, pp s rfl (Le.refl _) ok _ (.bl _)⟩
    · exact pp.elim
  · exact pp.elim⟩
theorem sd_exIsB {a : Addr} {oe : Obj} {cls : Value} {d : Option Addr} {known sb : Nat → Bool} {i : Nat} {T : String} {x y xi : PySem.Str} {W' : WX} (hp : (a, oe) ∈ X.pn) (hq : Z.xq = some (a, cls, d)) (hz : Zc cls d oe) (hf : ∃ vs, oe.data = .fields vs)
    (F : ∀ k, known k = true → XiC X.K (Z.ca k) ∧ PySem.W.kitOne X.K (.ref (Z.ca k)) (.type T) = some (sb k)) (hN : X.N[i]? = some x) (hv : Vis X.env.scope x) (hd : (x == ("__debug__" : PySem.Str)) = false) (hcd : (x == ("__classdict__" : PySem.Str)) = false)
    (hg : Gl X xi) (hm : X.mg xi = none) (hbi : bootBuiltins xi = some (.builtin "isinstance")) (hn : xi ≠ "__name__") (hdb : (xi == ("__debug__" : PySem.Str)) = false) (hg2 : Gl X y) (hm2 : X.mg y = none) (hv2 : bootBuiltins y = some (.type T)) (hn2 : y ≠ "__name__") (hdb2 : (y == ("__debug__" : PySem.Str)) = false) :
    PE X (.Call (.Name xi p) [.Name x p2, .Name y p3] [] pos) (tE Z W' (bExIsB known sb i c)) := ⟨fun pins sh σ H Q I t => by
  obtain ⟨s, σL, rfl, ok, rs, pp⟩ := t
  unfold bExIsB at pp
  split at pp
  · rename_i k fs ei
    split at pp
    · rename_i hk
      obtain ⟨v, ev, a', cls', dd', e1, e2, dx, fs', e3, e4, e5, e6⟩ := rs.2 i _ ei (fun z => by cases z)
      rw [hq] at e2
      cases e2
      subst e1 e3
      obtain ⟨C, hkit⟩ := F k hk
      have pv : PE X (.Name x p2) (tVar i) := pe_var hN hv hd hcd
      have pc : PE X (.Name y p3) (tC (.ty T)) := pe_bltn hg2 hm2 hv2 rfl hn2 hdb2
      have px := pe_callB (pos := pos) (p := p) (cr_ixP hp C hz hf) hg hm hbi (pa_cons pv (pa_cons pc pa_nil rfl) rfl) hn hdb
      exact px.run pins sh σ _ Q I ⟨_, ev, .ty T, .type T, sb k, dx, fs', rfl, fun u h => h, hkit, e4, e5, pp s rfl (Le.refl _) ok _ (.bl _)⟩
    · exact pp.elim
  · exact pp.elim⟩
end
/-! ### a def without parameters that shows values -/
structure GDef (P : Program) (w : World) (K : PySem.W.Frag) (mg : PySem.Str → Option Value) (base : Heap) (Z : Sta) (lev n N : Nat) (ev : DSt → LH → OutS) : Prop where
  ok : ∃ fd, FnG P w K mg base (L2.CX P w) lev (Z.fa n) fd [] (spF Z (fun _ ds h => runS N ev ds h) n 0) ∧ Binds K fd [] []
  kp : PySem.W.keepIn K (.ref (Z.fa n)) = true
def bCallG (N : Nat) (ev : DS) : DE := fun c _ h => runS N (ev c) [] h
section
variable {X : Cx} {Z : Sta} {W : WX} {c : Calls} {pos p : Pos}
theorem sd_callG {lev n N : Nat} {ev : DS} {x : PySem.Str} (F : GDef X.prog X.w X.K X.mg X.base Z lev n N (ev c)) (hgd : X.A.guards = some []) (hr : Room lev X.A) (hg : Gl X x) (hm : X.mg x = some (.ref (Z.fa n))) (tk : Takes X W) (hdb : (x == ("__debug__" : PySem.Str)) = false) :
    PE X (.Call (.Name x p) [] [] pos) (tE Z W (bCallG N ev c)) := by
  obtain ⟨⟨fd, F, hb⟩, hk⟩ := F
  refine ⟨fun pins sh σ H Q I t => ?_⟩
  obtain ⟨s, σL, rfl, ok, rs, q⟩ := t
  have q1 : PostV Z s (runS N (ev c) [] s.h) (QQ Z Q) (EE Z W σ) := q
  refine wpAny_Call_Name_kw (ld_glob I hg hm ?_ hdb)
  refine PySem.W.callWith_K0 I.kIn hk ?_
  have hsp : spF Z (fun _ ds h => runS N (ev c) ds h) n 0 [] s.H Q (WE W σ) := spF_of ok rfl q1 [] .nil
  refine wpAny_call (codeAny_mono (F.run X.A X.stack _ s.H ⟨[], []⟩ [] [] Q (WE W σ) hgd hr I.env0 (hb _ [] I.kIn rfl) .nil hsp) fun r s' hq => ?_)
  cases r with
  | error e => exact passAt tk σ pins s.H _ e s' I hq
  | ok fl =>
    cases fl with
    | ret u => exact I.after hq
    | next => exact False.elim hq
    | brk => exact False.elim hq
    | cont => exact False.elim hq
end
end Bh
namespace Bh
open PySem PySem.Spec PyProof.Rows L2
def top (i : Nat) : Stmt := PySem.Challenge.pw_blocksheal_k00_errors_and_limits.main.body.getD i (.Pass ⟨0, 0, 0, 0⟩)
def clsBody (s : Stmt) : List Stmt := match s with
  | .ClassDef _ _ _ b _ _ _ _ _ _ _ => b
  | _ => []
def mtop (i j : Nat) : Stmt := (clsBody (top i)).getD j (.Pass ⟨0, 0, 0, 0⟩)
/-- the exceptions that are raised, and which is under which -/
def known : Nat → Bool := fun k => k == 2 || k == 3 || k == 4 || k == 5 || k == 6 || k == 7 || k == 8
def sub : Nat → Nat → Bool := fun a b => (a == 0 && b == 0) || (a == 1 && b == 0) || (a == 1 && b == 1) || (a == 2 && b == 0) || (a == 2 && b == 1) || (a == 2 && b == 2) || (a == 3 && b == 0) || (a == 3 && b == 1) || (a == 3 && b == 3) || (a == 4 && b == 0) || (a == 4 && b == 1) || (a == 4 && b == 4) || (a == 5 && b == 0) || (a == 5 && b == 1) || (a == 5 && b == 5) || (a == 6 && b == 0) || (a == 6 && b == 6) || (a == 7 && b == 0) || (a == 7 && b == 7) || (a == 8 && b == 0) || (a == 8 && b == 8)
def xfs : Nat → List PySem.Str := fun k => match k with
  | 1 => ["reason"]
  | 2 => ["reason"]
  | 3 => ["reason"]
  | 4 => ["reason"]
  | 5 => ["reason"]
  | 6 => ["at"]
  | 7 => ["number", "reason"]
  | 8 => ["line"]
  | _ => []
/-- _law_draws -/
def ev_0 : DS :=
  (bSeq (bSetL 1 bNil) (bSeq (bFor (.nm 2) (bIterW (bSlice (bVarO 0) bNoPart (bPart (bLit (.int 63))))) (bSeq (bSet 3 (bB1 (fun _ d => absD d) (bVarO 2))) (bIfS (bCmp .GtE (bVarO 3) (bBinW .Pow (bLit (.int 10)) (bLit (.int 18)))) (bFor (.nm 4) (bRng1 (bLit (.int 60))) (bIfS (bCmp .Gt (bVarO 3) (bLit (.int 0))) (bSeq (bAppO 1 (bBinW .Mod (bB1 (fun _ d => intD d) (bVarO 3)) (bLit (.int 1009)))) (bSet 3 (bBinW .FloorDiv (bVarO 3) (bLit (.int 1009))))) bSkip)) (bSeq (bSet 5 (bBinW .Mod (bB1 (fun _ d => intD d) (bBinW .Add (bBinW .Mult (bVarO 3) (bLit (.int 48271))) (bLit (.int 11)))) (bLit (.int 2147483647)))) (bFor (.nm 4) (bRng1 (bLit (.int 12))) (bSeq (bSet 5 (bBinW .Mod (bB1 (fun _ d => intD d) (bBinW .Add (bBinW .Add (bBinW .Mult (bVarO 5) (bLit (.int 16807))) (bBinW .Mult (bLit (.int 69621)) (bVarO 4))) (bLit (.int 5)))) (bLit (.int 2147483629)))) (bAppO 1 (bBinW .FloorDiv (bVarO 5) (bLit (.int 1009)))))))))) (bSeq (bFrz 1) (bRet (bVar 1)))))
abbrev N_0 : List PySem.Str := ["script", "draws", "cell", "rest", "k", "mixed"]
abbrev A_0 : List PySem.Str := ["script"]
/-- _law_more -/
def ev_1 : DS :=
  (bSeq (bSet 2 (bBinW .Mod (bB1 (fun _ d => intD d) (bBinW .Add (bBinW .Add (bBinW .Mult (bVarO 1) (bLit (.int 48271))) (bB1 (fun h d => (lenV h d).map .int) (bVarO 0))) (bLit (.int 11)))) (bLit (.int 2147483629)))) (bSeq (bFor (.nm 3) (bRng1 (bLit (.int 3))) (bSeq (bIfS (bTru (bVarO 0)) (bSet 2 (bBinW .Add (bVarO 2) (bIx (bVarO 0) (bBinW .Mod (bB1 (fun _ d => intD d) (bBinW .Add (bBinW .Mult (bVarO 1) (bBinW .Add (bVarO 3) (bLit (.int 5)))) (bVarO 3))) (bB1 (fun h d => (lenV h d).map .int) (bVarO 0)))))) bSkip) (bSet 2 (bBinW .Mod (bB1 (fun _ d => intD d) (bBinW .Add (bBinW .Add (bBinW .Mult (bVarO 2) (bLit (.int 16807))) (bBinW .Mult (bLit (.int 69621)) (bVarO 3))) (bLit (.int 5)))) (bLit (.int 2147483629)))))) (bRet (bBinW .FloorDiv (bVarO 2) (bLit (.int 1009))))))
abbrev N_1 : List PySem.Str := ["draws", "place", "mixed", "k"]
abbrev A_1 : List PySem.Str := ["draws", "place"]
/-- _law_take -/
def ev_2 : DS :=
  (bSeq (bSet 3 (bIx (bVarO 1) (bLit (.int 0)))) (bSeq (bSetIx (bVar 1) (bLit (.int 0)) (bBinW .Add (bVarO 3) (bLit (.int 1)))) (bRet (bBinW .Mod (bB1 (fun _ d => intD d) (bIf (bCmp .Lt (bVarO 3) (bB1 (fun h d => (lenV h d).map .int) (bVarO 0))) (bIx (bVarO 0) (bVarO 3)) (bCall 1 (bCons (bVar 0) (bCons (bVar 3) bNil))))) (bVarO 2)))))
abbrev N_2 : List PySem.Str := ["draws", "at", "many", "place"]
abbrev A_2 : List PySem.Str := ["draws", "at", "many"]
/-- _law_one -/
def ev_3 : DS :=
  (bRet (bIx (bVarO 0) (bCall 2 (bCons (bVar 1) (bCons (bVar 2) (bCons (bB1 (fun h d => (lenV h d).map .int) (bVarO 0)) bNil))))))
abbrev N_3 : List PySem.Str := ["rows", "draws", "at"]
abbrev A_3 : List PySem.Str := ["rows", "draws", "at"]
/-- _law_limits_right -/
def ev_4 : DS :=
  (bSeq (bSet 0 (bLstV (bCons (bLit (.int 160)) (bCons (bLit (.int 24)) (bCons (bLit (.int 60)) (bCons (bLit (.int 20)) (bCons (bLit (.int 6)) (bCons (bLit (.int 6)) (bCons (bLit (.int 64)) (bCons (bLit (.int 1280)) (bCons (bLit (.int 60)) bNil))))))))))) (bSeq (bSet 0 (bBinW .Add (bVarO 0) (bLstV (bCons (bLit (.int 7)) (bCons (bLit (.int 3)) (bCons (bLit (.int 200)) (bCons (bLit (.int 20000)) (bCons (bLit (.int 64)) (bCons (bLit (.int 8)) (bCons (bLit (.int 6)) (bCons (bLit (.int 200)) (bCons (bLit (.int 400)) bNil)))))))))))) (bSeq (bSet 1 (bLstV (bCons (bLit (.int 160)) (bCons (bLit (.int 24)) (bCons (bLit (.int 60)) (bCons (bLit (.int 20)) (bCons (bLit (.int 6)) (bCons (bLit (.int 6)) (bCons (bLit (.int 64)) (bCons (bLit (.int 1280)) (bCons (bLit (.int 60)) (bCons (bLit (.int 7)) (bCons (bLit (.int 3)) (bCons (bLit (.int 200)) (bCons (bLit (.int 20000)) (bCons (bLit (.int 64)) (bCons (bLit (.int 8)) (bCons (bLit (.int 6)) (bCons (bLit (.int 200)) (bCons (bLit (.int 400)) bNil)))))))))))))))))))) (bRet (bBl (bCmp .Eq (bB1 reprD (bVarO 0)) (bB1 reprD (bVarO 1))))))))
abbrev N_4 : List PySem.Str := ["told", "due"]
abbrev A_4 : List PySem.Str := []
/-- _law_raise -/
def ev_5 : DS :=
  (bSeq (bIfS (bCmp .Eq (bVarO 0) (bLit (.int 0))) (bRaise 2 (bCons (bVar 1) bNil)) bSkip) (bSeq (bIfS (bCmp .Eq (bVarO 0) (bLit (.int 1))) (bRaise 4 (bCons (bVar 1) bNil)) bSkip) (bSeq (bIfS (bCmp .Eq (bVarO 0) (bLit (.int 2))) (bRaise 5 (bCons (bVar 1) bNil)) bSkip) (bSeq (bIfS (bCmp .Eq (bVarO 0) (bLit (.int 3))) (bRaise 3 (bCons (bVar 1) bNil)) bSkip) (bSeq (bIfS (bCmp .Eq (bVarO 0) (bLit (.int 4))) (bRaise 6 (bCons (bVar 1) bNil)) bSkip) (bSeq (bIfS (bCmp .Eq (bVarO 0) (bLit (.int 5))) (bRaise 7 (bCons (bVar 1) (bCons (bVar 2) bNil))) bSkip) (bRaise 8 (bCons (bVar 1) bNil))))))))
abbrev N_5 : List PySem.Str := ["k", "one", "other"]
abbrev A_5 : List PySem.Str := ["k", "one", "other"]
/-- _law_kinds -/
def ev_6 : DS :=
  (bSeq (bSet 1 (bLstV (bCons (bExIs known sub 2 0) (bCons (bExIs known sub 4 0) (bCons (bExIs known sub 5 0) (bCons (bExIs known sub 3 0) bNil)))))) (bRet (bBinW .Add (bVarO 1) (bLstV (bCons (bExIs known sub 6 0) (bCons (bExIs known sub 7 0) (bCons (bExIs known sub 8 0) bNil)))))))
abbrev N_6 : List PySem.Str := ["e", "plain"]
abbrev A_6 : List PySem.Str := ["e"]
/-- _law_caught -/
def ev_7 : DS :=
  (bSeq (bTry known sub (bEx (bCall 5 (bCons (bVar 0) (bCons (bVar 1) (bCons (bVar 2) bNil))))) ((0, some 3, (bRet (bIf (bTru (bExIsB known (fun _ => true) 3)) (bCallE known N_6.length 3 ev_6) (bLstV bNil)))) :: [])) (bRet (bLstV bNil)))
abbrev N_7 : List PySem.Str := ["k", "one", "other", "e"]
abbrev A_7 : List PySem.Str := ["k", "one", "other"]
/-- _law_fields -/
def ev_8 : DS :=
  (bSeq (bTry known sub (bEx (bCall 5 (bCons (bVar 0) (bCons (bVar 1) (bCons (bVar 2) bNil))))) ((2, some 3, (bRet (bTup (bCons (bExF xfs known "reason" 3) bNil)))) :: ((4, some 3, (bRet (bTup (bCons (bExF xfs known "reason" 3) bNil)))) :: ((5, some 3, (bRet (bTup (bCons (bExF xfs known "reason" 3) bNil)))) :: ((3, some 3, (bRet (bTup (bCons (bExF xfs known "reason" 3) bNil)))) :: ((6, some 3, (bRet (bTup (bCons (bExF xfs known "at" 3) bNil)))) :: ((7, some 3, (bRet (bTup (bCons (bExF xfs known "number" 3) (bCons (bExF xfs known "reason" 3) bNil))))) :: ((8, some 3, (bRet (bTup (bCons (bExF xfs known "line" 3) bNil)))) :: [])))))))) (bRet (bLit .non)))
abbrev N_8 : List PySem.Str := ["k", "one", "other", "e"]
abbrev A_8 : List PySem.Str := ["k", "one", "other"]
/-- law -/
def ev_9 : DS :=
  (bSeq (bSet 1 (bCall 0 (bCons (bVar 0) bNil))) (bSeq (bSet 2 (bLstR (bCons (bLit (.int 0)) bNil))) (bSeq (bIfS (bNotT (bTru (bCallG N_4.length ev_4))) (bRet (bLit (.bl false))) bSkip) (bSeq (bSet 3 (bLstV (bCons (bLit (.str "word")) (bCons (bLit (.str "")) (bCons (bLit (.str "form")) (bCons (bLit (.int 0)) (bCons (bLit (.int 17)) (bCons (bNeg (bLit (.int 3))) (bCons (bLit .non) (bCons (bTup (bCons (bLit (.str "a")) (bCons (bLit (.int 5)) bNil))) (bCons (bLit (.str "a line")) (bCons (bLit (.bl true)) bNil)))))))))))) (bSeq (bFor (.nm 4) (bRng1 (bLit (.int 7))) (bSeq (bPar [5, 6] (bCons (bCall 3 (bCons (bVar 3) (bCons (bVar 1) (bCons (bVar 2) bNil)))) (bCons (bCall 3 (bCons (bVar 3) (bCons (bVar 1) (bCons (bVar 2) bNil)))) bNil))) (bSeq (bIfS (bCmp .NotEq (bCall 7 (bCons (bVar 4) (bCons (bVar 5) (bCons (bVar 6) bNil)))) (bLstV (bLc [7] (.nm 7) (bRng1 (bLit (.int 7))) bYes (bBl (bCmp .Eq (bVarO 7) (bVarO 4)))))) (bRet (bLit (.bl false))) bSkip) (bIfS (bCmp .NotEq (bB1 reprD (bCall 8 (bCons (bVar 4) (bCons (bVar 5) (bCons (bVar 6) bNil))))) (bB1 reprD (bIf (bCmp .Eq (bVarO 4) (bLit (.int 5))) (bTup (bCons (bVar 5) (bCons (bVar 6) bNil))) (bTup (bCons (bVar 5) bNil))))) (bRet (bLit (.bl false))) bSkip)))) (bRet (bLit (.bl true))))))))
abbrev N_9 : List PySem.Str := ["script", "draws", "at", "values", "k", "one", "other", "j"]
abbrev A_9 : List PySem.Str := ["script"]
def pg : Prog := fun n => match n with
  | 0 => some (N_0.length, A_0.length, ev_0)
  | 1 => some (N_1.length, A_1.length, ev_1)
  | 2 => some (N_2.length, A_2.length, ev_2)
  | 3 => some (N_3.length, A_3.length, ev_3)
  | 5 => some (N_5.length, A_5.length, ev_5)
  | 7 => some (N_7.length, A_7.length, ev_7)
  | 8 => some (N_8.length, A_8.length, ev_8)
  | _ => none
/-- the law itself, run over its own defs -/
def cLaw : Calls := fun _ ds h => runS N_9.length (ev_9 (Cf pg 11)) ds h
def fa (K : PySem.W.Frag) : Nat → Addr := fun n => match n with
  | 0 => He.fAd K ("_law_draws", none)
  | 1 => He.fAd K ("_law_more", none)
  | 2 => He.fAd K ("_law_take", none)
  | 3 => He.fAd K ("_law_one", none)
  | 4 => He.fAd K ("_law_limits_right", none)
  | 5 => He.fAd K ("_law_raise", none)
  | 6 => He.fAd K ("_law_kinds", none)
  | 7 => He.fAd K ("_law_caught", none)
  | 8 => He.fAd K ("_law_fields", none)
  | 9 => He.fAd K ("law", none)
  | _ => 0
def ca (K : PySem.W.Frag) : Nat → Addr := fun n => match n with
  | 0 => He.ga K "VolumeError"
  | 1 => He.ga K "ReasonError"
  | 2 => He.ga K "ArgumentError"
  | 3 => He.ga K "CheckError"
  | 4 => He.ga K "PaperError"
  | 5 => He.ga K "TooMany"
  | 6 => He.ga K "TextError"
  | 7 => He.ga K "LogError"
  | 8 => He.ga K "CommandError"
  | _ => 0
def fl (i : Nat) : PySem.Str := ⟨Array.replicate i 0⟩
theorem fl_in : ∀ i j, fl i = fl j → i = j := fun i j h => by have e := congrArg (fun z : PySem.Str => z.cps.size) h; simpa [fl] using e
abbrev ZK (K : PySem.W.Frag) : Sta := { K := K, fa := fa K, ca := ca K, fld := fl, fin := fl_in, xf := xfs }
/-- what stands behind the top -/
structure Md (P : Program) (w : World) (K : PySem.W.Frag) (mg : PySem.Str → Option Value) (base : Heap) : Prop where
  g__law_draws : mg "_law_draws" = some (.ref (He.ga K "_law_draws"))
  g__law_more : mg "_law_more" = some (.ref (He.ga K "_law_more"))
  g__law_take : mg "_law_take" = some (.ref (He.ga K "_law_take"))
  g__law_one : mg "_law_one" = some (.ref (He.ga K "_law_one"))
  g__law_limits_right : mg "_law_limits_right" = some (.ref (He.ga K "_law_limits_right"))
  g__law_raise : mg "_law_raise" = some (.ref (He.ga K "_law_raise"))
  g__law_kinds : mg "_law_kinds" = some (.ref (He.ga K "_law_kinds"))
  g__law_caught : mg "_law_caught" = some (.ref (He.ga K "_law_caught"))
  g__law_fields : mg "_law_fields" = some (.ref (He.ga K "_law_fields"))
  g_law : mg "law" = some (.ref (He.ga K "law"))
  k_ArgumentError : mg "ArgumentError" = some (.ref (He.ga K "ArgumentError"))
  k_CheckError : mg "CheckError" = some (.ref (He.ga K "CheckError"))
  k_CommandError : mg "CommandError" = some (.ref (He.ga K "CommandError"))
  k_LogError : mg "LogError" = some (.ref (He.ga K "LogError"))
  k_PaperError : mg "PaperError" = some (.ref (He.ga K "PaperError"))
  k_ReasonError : mg "ReasonError" = some (.ref (He.ga K "ReasonError"))
  k_TextError : mg "TextError" = some (.ref (He.ga K "TextError"))
  k_TooMany : mg "TooMany" = some (.ref (He.ga K "TooMany"))
  k_VolumeError : mg "VolumeError" = some (.ref (He.ga K "VolumeError"))
  c_MAX_BLOCKS : ∃ t, mg "MAX_BLOCKS" = some (.int 160 t)
  c_MAX_DATA : ∃ t, mg "MAX_DATA" = some (.int 64 t)
  c_MAX_DEEDS : ∃ t, mg "MAX_DEEDS" = some (.int 200 t)
  c_MAX_DEPTH : ∃ t, mg "MAX_DEPTH" = some (.int 6 t)
  c_MAX_DISKS : ∃ t, mg "MAX_DISKS" = some (.int 6 t)
  c_MAX_ENTRIES : ∃ t, mg "MAX_ENTRIES" = some (.int 64 t)
  c_MAX_HANDLES : ∃ t, mg "MAX_HANDLES" = some (.int 8 t)
  c_MAX_INODES : ∃ t, mg "MAX_INODES" = some (.int 24 t)
  c_MAX_JOURNAL : ∃ t, mg "MAX_JOURNAL" = some (.int 60 t)
  c_MAX_LINES : ∃ t, mg "MAX_LINES" = some (.int 200 t)
  c_MAX_LINKS : ∃ t, mg "MAX_LINKS" = some (.int 60 t)
  c_MAX_NAME : ∃ t, mg "MAX_NAME" = some (.int 6 t)
  c_MAX_OWNER : ∃ t, mg "MAX_OWNER" = some (.int 7 t)
  c_MAX_SIZE : ∃ t, mg "MAX_SIZE" = some (.int 1280 t)
  c_MAX_SNAPS : ∃ t, mg "MAX_SNAPS" = some (.int 3 t)
  c_MAX_TARGETS : ∃ t, mg "MAX_TARGETS" = some (.int 20 t)
  c_MAX_TEXT : ∃ t, mg "MAX_TEXT" = some (.int 20000 t)
  c_MAX_TRIED : ∃ t, mg "MAX_TRIED" = some (.int 400 t)
  b_ValueError : mg "ValueError" = none
  b_abs : mg "abs" = none
  b_int : mg "int" = none
  b_isinstance : mg "isinstance" = none
  b_len : mg "len" = none
  b_range : mg "range" = none
  b_repr : mg "repr" = none
  x_ArgumentError : ∀ lev, 2 ≤ lev → ExP P w K mg base (ZK K) lev 2 1
  x_CheckError : ∀ lev, 2 ≤ lev → ExP P w K mg base (ZK K) lev 3 1
  x_CommandError : ∀ lev, 2 ≤ lev → ExP P w K mg base (ZK K) lev 8 1
  x_LogError : ∀ lev, 2 ≤ lev → ExP P w K mg base (ZK K) lev 7 2
  x_PaperError : ∀ lev, 2 ≤ lev → ExP P w K mg base (ZK K) lev 4 1
  x_TextError : ∀ lev, 2 ≤ lev → ExP P w K mg base (ZK K) lev 6 1
  x_TooMany : ∀ lev, 2 ≤ lev → ExP P w K mg base (ZK K) lev 5 1
  exM : ∀ j, known j = true ∨ j = 2 ∨ j = 3 ∨ j = 8 ∨ j = 7 ∨ j = 4 ∨ j = 6 ∨ j = 5 ∨ j = 0 → ∀ k, known k = true → PySem.W.exmOne K (.ref (ca K k)) (.ref (ca K j)) = some (sub k j)
  exF_at : ∀ k, known k = true → XfC K (ca K k) ∧ PySem.W.findIn K (.ref (ca K k)) "at" = some none
  exF_line : ∀ k, known k = true → XfC K (ca K k) ∧ PySem.W.findIn K (.ref (ca K k)) "line" = some none
  exF_number : ∀ k, known k = true → XfC K (ca K k) ∧ PySem.W.findIn K (.ref (ca K k)) "number" = some none
  exF_reason : ∀ k, known k = true → XfC K (ca K k) ∧ PySem.W.findIn K (.ref (ca K k)) "reason" = some none
  exI_2 : ∀ k, known k = true → XiC K (ca K k) ∧ PySem.W.kitOne K (.ref (ca K k)) (.ref (ca K 2)) = some (sub k 2)
  exI_3 : ∀ k, known k = true → XiC K (ca K k) ∧ PySem.W.kitOne K (.ref (ca K k)) (.ref (ca K 3)) = some (sub k 3)
  exI_4 : ∀ k, known k = true → XiC K (ca K k) ∧ PySem.W.kitOne K (.ref (ca K k)) (.ref (ca K 4)) = some (sub k 4)
  exI_5 : ∀ k, known k = true → XiC K (ca K k) ∧ PySem.W.kitOne K (.ref (ca K k)) (.ref (ca K 5)) = some (sub k 5)
  exI_6 : ∀ k, known k = true → XiC K (ca K k) ∧ PySem.W.kitOne K (.ref (ca K k)) (.ref (ca K 6)) = some (sub k 6)
  exI_7 : ∀ k, known k = true → XiC K (ca K k) ∧ PySem.W.kitOne K (.ref (ca K k)) (.ref (ca K 7)) = some (sub k 7)
  exI_8 : ∀ k, known k = true → XiC K (ca K k) ∧ PySem.W.kitOne K (.ref (ca K k)) (.ref (ca K 8)) = some (sub k 8)
  exV_ValueError : ∀ k, known k = true → XiC K (ca K k) ∧ PySem.W.kitOne K (.ref (ca K k)) (.type "ValueError") = some ((fun _ => true) k)
abbrev HCt (P : Program) (w : World) (K : PySem.W.Frag) (mg : PySem.Str → Option Value) (base : Heap) (c : Calls) (lev : Nat) : Prop := ∀ m N' ar' ev', pg m = some (N', ar', ev') → DefC P w K mg base (ZK K) c lev m ar'
end Bh
/-! plain reasoning over the evaluator -/
namespace Bh
open PySem PySem.Spec PyProof.Rows L2
/-! ### equality of plain data -/
mutual
def pl : Nat → D → Bool
  | _, .non => true
  | _, .int _ => true
  | _, .str x => PyData.strOk x
  | 0, _ => false
  | n + 1, .tup xs => pls n xs
  | n + 1, .lst xs => pls n xs
  | _, _ => false
def pls : Nat → List D → Bool
  | _, [] => true
  | n, x :: xs => pl n x && pls n xs
end
mutual
def pd : D → PyData
  | .non => .none
  | .bl b => .bool b
  | .int i => .int i
  | .str x => .str x
  | .tup xs => .tuple (pds xs)
  | .lst xs => .list (pds xs)
  | _ => .none
def pds : List D → List PyData
  | [] => []
  | x :: xs => pd x :: pds xs
end
mutual
theorem toP_pd (h : LH) : ∀ (n : Nat) (d : D), pl n d = true → toP h n d = some (pd d)
  | 0, .non, _ => rfl
  | _ + 1, .non, _ => rfl
  | 0, .int _, _ => rfl
  | _ + 1, .int _, _ => rfl
  | 0, .str x, e => by
    have e' : PyData.strOk x = true := by simpa [pl] using e
    simp [toP, scaP, e', pd]
  | n + 1, .str x, e => by
    have e' : PyData.strOk x = true := by simpa [pl] using e
    simp [toP, scaP, e', pd]
  | 0, .tup _, e => by simp [pl] at e
  | 0, .lst _, e => by simp [pl] at e
  | n + 1, .tup xs, e => by
    have e' : pls n xs = true := by simpa [pl] using e
    simp only [toP, pd]
    rw [toPs_pd h n xs e']
    rfl
  | n + 1, .lst xs, e => by
    have e' : pls n xs = true := by simpa [pl] using e
    simp only [toP, pd]
    rw [toPs_pd h n xs e']
    rfl
  | 0, .bl _, e => by simp [pl] at e
  | _ + 1, .bl _, e => by simp [pl] at e
  | 0, .dic _, e => by simp [pl] at e
  | _ + 1, .dic _, e => by simp [pl] at e
  | 0, .ref _, e => by simp [pl] at e
  | _ + 1, .ref _, e => by simp [pl] at e
  | 0, .fn _, e => by simp [pl] at e
  | _ + 1, .fn _, e => by simp [pl] at e
theorem toPs_pd (h : LH) : ∀ (n : Nat) (xs : List D), pls n xs = true → mapO (toP h n) xs = some (pds xs)
  | _, [], _ => rfl
  | n, x :: xs, e => by
    rw [pls, Bool.and_eq_true] at e
    simp only [mapO, pds]
    rw [toP_pd h n x e.1, toPs_pd h n xs e.2]
    rfl
end
mutual
theorem eqv_pd : ∀ (n m : Nat) (d e : D), pl n d = true → pl m e = true → PyData.eqv (pd d) (pd e) = decide (d = e)
  | _, _, .non, .non, _, _ => by simp [pd, PyData.eqv]
  | _, _, .non, .int _, _, _ => by simp [pd, PyData.eqv]
  | _, _, .non, .str _, _, _ => by simp [pd, PyData.eqv]
  | _, _, .non, .tup _, _, _ => by simp [pd, PyData.eqv]
  | _, _, .non, .lst _, _, _ => by simp [pd, PyData.eqv]
  | _, _, .int _, .non, _, _ => by simp [pd, PyData.eqv]
  | _, _, .int i, .int j, _, _ => by simp [pd, PyData.eqv]; by_cases h : i = j <;> simp [h]
  | _, _, .int _, .str _, _, _ => by simp [pd, PyData.eqv]
  | _, _, .int _, .tup _, _, _ => by simp [pd, PyData.eqv]
  | _, _, .int _, .lst _, _, _ => by simp [pd, PyData.eqv]
  | _, _, .str _, .non, _, _ => by simp [pd, PyData.eqv]
  | _, _, .str _, .int _, _, _ => by simp [pd, PyData.eqv]
  | _, _, .str x, .str y, _, _ => by simp [pd, PyData.eqv]; by_cases h : x = y <;> simp [h]
  | _, _, .str _, .tup _, _, _ => by simp [pd, PyData.eqv]
  | _, _, .str _, .lst _, _, _ => by simp [pd, PyData.eqv]
  | _, _, .tup _, .non, _, _ => by simp [pd, PyData.eqv]
  | _, _, .tup _, .int _, _, _ => by simp [pd, PyData.eqv]
  | _, _, .tup _, .str _, _, _ => by simp [pd, PyData.eqv]
  | _, _, .tup _, .lst _, _, _ => by simp [pd, PyData.eqv]
  | _, _, .lst _, .non, _, _ => by simp [pd, PyData.eqv]
  | _, _, .lst _, .int _, _, _ => by simp [pd, PyData.eqv]
  | _, _, .lst _, .str _, _, _ => by simp [pd, PyData.eqv]
  | _, _, .lst _, .tup _, _, _ => by simp [pd, PyData.eqv]
  | 0, _, .tup _, _, e, _ => by simp [pl] at e
  | 0, _, .lst _, _, e, _ => by simp [pl] at e
  | _, 0, _, .tup _, _, e => by simp [pl] at e
  | _, 0, _, .lst _, _, e => by simp [pl] at e
  | n + 1, m + 1, .tup xs, .tup ys, e1, e2 => by
    have e1 : pls n xs = true := by simpa [pl] using e1
    have e2 : pls m ys = true := by simpa [pl] using e2
    simp only [pd, PyData.eqv]
    rw [eqvs_pd n m xs ys e1 e2]
    simp
  | n + 1, m + 1, .lst xs, .lst ys, e1, e2 => by
    have e1 : pls n xs = true := by simpa [pl] using e1
    have e2 : pls m ys = true := by simpa [pl] using e2
    simp only [pd, PyData.eqv]
    rw [eqvs_pd n m xs ys e1 e2]
    simp
  | n, _, .bl _, _, e, _ => by cases n <;> simp [pl] at e
  | n, _, .dic _, _, e, _ => by cases n <;> simp [pl] at e
  | n, _, .ref _, _, e, _ => by cases n <;> simp [pl] at e
  | n, _, .fn _, _, e, _ => by cases n <;> simp [pl] at e
  | _, m, _, .bl _, _, e => by cases m <;> simp [pl] at e
  | _, m, _, .dic _, _, e => by cases m <;> simp [pl] at e
  | _, m, _, .ref _, _, e => by cases m <;> simp [pl] at e
  | _, m, _, .fn _, _, e => by cases m <;> simp [pl] at e
theorem eqvs_pd : ∀ (n m : Nat) (xs ys : List D), pls n xs = true → pls m ys = true → PyData.eqvAll (pds xs) (pds ys) = decide (xs = ys)
  | _, _, [], [], _, _ => by simp [pds, PyData.eqvAll]
  | _, _, [], _ :: _, _, _ => by simp [pds, PyData.eqvAll]
  | _, _, _ :: _, [], _, _ => by simp [pds, PyData.eqvAll]
  | n, m, x :: xs, y :: ys, e1, e2 => by
    rw [pls, Bool.and_eq_true] at e1 e2
    simp only [pds, PyData.eqvAll]
    rw [eqv_pd n m x y e1.1 e2.1, eqvs_pd n m xs ys e1.2 e2.2]
    by_cases h : x = y <;> by_cases h2 : xs = ys <;> simp [h, h2]
end
theorem deq_pl {h : LH} {x y : D} (hx : pl 40 x = true) (hy : pl 40 y = true) : deq h x y = some (decide (x = y)) := by
  unfold deq
  rw [toP_pd h 40 x hx, toP_pd h 40 y hy]
  simp only [Option.bind_some, Option.map_some]
  rw [eqv_pd 40 40 x y hx hy]
theorem pls_int {n : Nat} : ∀ xs : List Int, pls n (xs.map .int) = true
  | [] => by simp [pls]
  | x :: xs => by
    rw [List.map_cons, pls, pls_int xs]
    cases n <;> simp [pl]
theorem pls_app {n : Nat} : ∀ (xs ys : List D), pls n (xs ++ ys) = (pls n xs && pls n ys)
  | [], ys => by simp [pls]
  | x :: xs, ys => by rw [List.cons_append, pls, pls, pls_app xs ys, Bool.and_assoc]
/-! ### the end of a def -/
def fin : OutS → Out D
  | .nx _ h' => .ok .non h'
  | .rt d h' => .ok d h'
  | .ex k fs _ h' => .ex k fs h'
  | _ => .bad
theorem runS_eq {n : Nat} {ev : DSt → LH → OutS} {ds : List D} {h : LH} : runS n ev ds h = fin (ev (startS n ds) h) := by
  unfold runS fin
  rfl
theorem intD_i {i : Int} : intD (.int i) = some (.int i) := rfl
theorem absD_i {i : Int} : absD (.int i) = some (.int (if i < 0 then -i else i)) := rfl
theorem isD_i {t : Ty} {i : Int} : isD t (.int i) = some (.bl (decide (t = .int))) := rfl
theorem isD_n {t : Ty} : isD t .non = some (.bl false) := rfl
theorem isD_b {t : Ty} {b : Bool} : isD t (.bl b) = some (.bl (decide (t = .bool ∨ t = .int))) := rfl
theorem isD_s {t : Ty} {x : PySem.Str} : isD t (.str x) = some (.bl (decide (t = .str))) := rfl
theorem isD_t {t : Ty} {x : List D} : isD t (.tup x) = some (.bl (decide (t = .tuple))) := rfl
theorem isD_l {t : Ty} {x : List D} : isD t (.lst x) = some (.bl (decide (t = .list))) := rfl
theorem isD_d {t : Ty} {x : List (D × D)} : isD t (.dic x) = some (.bl (decide (t = .dict))) := rfl
theorem lenV_t {h : LH} {x : List D} : lenV h (.tup x) = some x.length := rfl
theorem lenV_l {h : LH} {x : List D} : lenV h (.lst x) = some x.length := rfl
theorem tupD_t {h : LH} {x : List D} : tupD h (.tup x) = some (.tup x) := rfl
theorem tupD_l {h : LH} {x : List D} : tupD h (.lst x) = some (.tup x) := rfl
theorem rngOk_of {i : Int} (h1 : 0 ≤ i) (h2 : i ≤ 1000000) : rngOk i = true := by
  unfold rngOk
  exact Nat.ble_eq_true_of_le (by omega)
theorem bRng1_nat {a : DE} {c : Calls} {σ : DSt} {h h1 : LH} {n : Nat} (e : a c σ h = .ok (.int (n : Int)) h1) (hn : n ≤ 1000000) : bRng1 a c σ h = .ok (rngL 0 n, []) h1 := by
  have r : rngOk (n : Int) = true := rngOk_of (by omega) (by omega)
  have g : ∀ (ok : Int → Bool), ok n = true → ((a c σ h).bind fun x h1 => match x with | .int j => if ok j = true then Out.ok (rngL 0 j.toNat, ([] : List (Nat × LO))) h1 else .bad | _ => .bad) = .ok (rngL 0 n, []) h1 := by
    intro ok r
    rw [e]
    simp [Out.bind, r]
  exact g rngOk r
theorem bInR_int {a : DE} {er : DEs} {c : Calls} {σ : DSt} {h h1 h2 : LH} {v lo hi : Int} (e : a c σ h = .ok (.int v) h1) (e2 : er c σ h1 = .ok [.int lo, .int hi] h2) (l1 : 0 ≤ lo) (l2 : lo ≤ 1000000) (l3 : 0 ≤ hi) (l4 : hi ≤ 1000000) : bInR a er c σ h = .ok (decide (lo ≤ v ∧ v < hi)) h2 := by
  have r1 : rngOk lo = true := rngOk_of l1 l2
  have r2 : rngOk hi = true := rngOk_of l3 l4
  have g : ∀ (ok : Int → Bool), ok lo = true → ok hi = true → ((a c σ h).bind fun d h1 => (er c σ h1).bind fun ds h2 => match d, ds with
  | .int v, [.int a, .int b] => if ok a = true ∧ ok b = true then Out.ok (decide (a ≤ v ∧ v < b)) h2 else .bad
  | _, _ => .bad) = .ok (decide (lo ≤ v ∧ v < hi)) h2 := by
    intro ok r1 r2
    rw [e]
    simp [Out.bind, e2, r1, r2]
  exact g rngOk r1 r2
/-- an element-wise comprehension -/
theorem lcL_map {i : Nat} {q : DSt → LH → Out Bool} {e : DSt → LH → Out D} {σ : DSt} {h : LH} (f : D → D) : ∀ (xs acc : List D), (∀ x ∈ xs, q (σ.set i (.v x)) h = .ok true h) → (∀ x ∈ xs, e (σ.set i (.v x)) h = .ok (f x) h) → acc.length + xs.length ≤ 1000000 →
    lcL [] (.nm i) q e σ xs acc h = .ok (acc ++ xs.map f) h
  | [], acc, _, _, _ => by simp [lcL, gdOk]
  | x :: xs, acc, hq, he, hl => by
    have e1 := hq x List.mem_cons_self
    have e2 := he x List.mem_cons_self
    have hlt : acc.length < LIM := by
      have : acc.length + (x :: xs).length ≤ 1000000 := hl
      simp only [List.length_cons] at this
      show acc.length < 16777216
      omega
    have ih := lcL_map (q := q) (e := e) (σ := σ) (h := h) (i := i) f xs (acc ++ [f x]) (fun y hy => hq y (List.mem_cons_of_mem _ hy)) (fun y hy => he y (List.mem_cons_of_mem _ hy)) (by simp at hl ⊢; omega)
    simp only [lcL, gdOk, List.all_nil, if_true, bindT, e1, e2]
    rw [if_pos hlt, ih]
    simp
theorem mapO_bl (xs : List D) (p : D → Bool) : mapO truF (xs.map fun x => .bl (p x)) = some (xs.map p) := by
  induction xs with
  | nil => rfl
  | cons x xs ih => simp [mapO, truF, ih]
theorem allD_bl {h : LH} (xs : List D) (p : D → Bool) : allD h (.lst (xs.map fun x => .bl (p x))) = some (.bl (xs.all p)) := by
  unfold allD
  simp [seqOf, lstOf, mapO_bl]
/-! ### statements, step by step -/
section
variable {a b : DS} {c : Calls} {σ σ' : DSt} {h h' h1 : LH} {d : D} {fs : List D} {k i : Nat}
theorem seq_nx (e : a c σ h = .nx σ' h') : bSeq a b c σ h = b c σ' h' := by unfold bSeq; rw [e]
theorem seq_rt (e : a c σ h = .rt d h') : bSeq a b c σ h = .rt d h' := by unfold bSeq; rw [e]
theorem seq_ex (e : a c σ h = .ex k fs σ' h') : bSeq a b c σ h = .ex k fs σ' h' := by unfold bSeq; rw [e]
theorem set_ok {e : DE} (he : e c σ h = .ok d h') : bSet i e c σ h = .nx (σ.set i (.v d)) h' := by unfold bSet; rw [he]; rfl
theorem setL_ok {e : DEs} {xs : List D} (he : e c σ h = .ok xs h') : bSetL i e c σ h = .nx (σ.set i (.ol xs)) h' := by unfold bSetL; rw [he]; rfl
theorem ret_ok {e : DE} (he : e c σ h = .ok d h') : bRet e c σ h = .rt d h' := by unfold bRet; rw [he]; rfl
theorem for_ok {t : Tg} {src : DI} {body : DS} {xs : List D} {g : List (Nat × LO)} {o : OutS} (hs : src c σ h = .ok (xs, g) h1) (hf : forL g t (body c) xs σ h1 = o) : bFor t src body c σ h = o := by unfold bFor; rw [hs]; exact hf
theorem if_t {t : DT} (ht : t c σ h = .ok true h') : bIfS t a b c σ h = a c σ h' := by unfold bIfS; rw [ht]; rfl
theorem if_f {t : DT} (ht : t c σ h = .ok false h') : bIfS t a b c σ h = b c σ h' := by unfold bIfS; rw [ht]; rfl
theorem run_rt {n : Nat} {ev : DSt → LH → OutS} {ds : List D} (e : ev (startS n ds) h = .rt d h') : runS n ev ds h = .ok d h' := by unfold runS; rw [e]
theorem run_ex {n : Nat} {ev : DSt → LH → OutS} {ds : List D} (e : ev (startS n ds) h = .ex k fs σ' h') : runS n ev ds h = .ex k fs h' := by unfold runS; rw [e]
end
section
variable {h : LH} {i j : Int} {a b : List D}
theorem opW_addI : opW h .Add (.int i) (.int j) = some (.int (i + j)) := rfl
theorem opW_subI : opW h .Sub (.int i) (.int j) = some (.int (i - j)) := rfl
theorem opW_mulI (m : mulOk i j = true) : opW h .Mult (.int i) (.int j) = some (.int (i * j)) := by simp [opW, opV, m]
theorem opW_fdivI (h1 : 0 < j) (h2 : j < 1073741824) : opW h .FloorDiv (.int i) (.int j) = some (.int (i / j)) := by simp [opW, opV, h1, h2]
theorem opW_modI (h1 : 0 < j) : opW h .Mod (.int i) (.int j) = some (.int (i % j)) := by simp [opW, opV, h1]
theorem opW_addT (hl : a.length + b.length ≤ 1000000) : opW h .Add (.tup a) (.tup b) = some (.tup (a ++ b)) := by
  have : a.length + b.length ≤ LIM := by show _ ≤ 16777216; omega
  simp [opW, opV, this]
theorem opW_addL (hl : a.length + b.length ≤ 1000000) : opW h .Add (.lst a) (.lst b) = some (.lst (a ++ b)) := by
  have : a.length + b.length ≤ LIM := by show _ ≤ 16777216; omega
  simp [opW, opV, opLs, lstX, this]
theorem rep_flat {α : Type} (x : α) (n : Nat) : (List.replicate n [x]).flatten = List.replicate n x := by
  induction n with
  | zero => rfl
  | succ n ih => simp [List.replicate_succ, ih]
theorem opW_mulT {d : D} (h1 : -1000000 ≤ i) (h2 : i ≤ 1000000) : opW h .Mult (.tup [d]) (.int i) = some (.tup (List.replicate i.toNat d)) := by
  have c1 : -4611686018427387904 ≤ i ∧ i < 4611686018427387904 ∧ [d].length * i.toNat ≤ 1000000 := ⟨by omega, by omega, by simp; omega⟩
  have e : opV h .Mult (.tup [d]) (.int i) = some (.tup (List.replicate i.toNat [d]).flatten) := by
    show (if -4611686018427387904 ≤ i ∧ i < 4611686018427387904 ∧ [d].length * i.toNat ≤ 1000000 then some (D.tup (List.replicate i.toNat [d]).flatten) else none) = _
    rw [if_pos c1]
  unfold opW
  rw [e, rep_flat]
theorem opW_mulL {d : D} (h1 : -1000000 ≤ i) (h2 : i ≤ 1000000) : opW h .Mult (.lst [d]) (.int i) = some (.lst (List.replicate i.toNat d)) := by
  have c1 : -4611686018427387904 ≤ i ∧ i < 4611686018427387904 ∧ [d].length * i.toNat ≤ LIM := ⟨by omega, by omega, by show _ ≤ 16777216; simp; omega⟩
  have e : opLs h .Mult (.lst [d]) (.int i) = some (.lst (List.replicate i.toNat [d]).flatten) := by
    show ((some [d]).bind fun a => if -4611686018427387904 ≤ i ∧ i < 4611686018427387904 ∧ a.length * i.toNat ≤ LIM then some (D.lst (List.replicate i.toNat a).flatten) else none) = _
    rw [Option.bind_some, if_pos c1]
  unfold opW
  show (match opV h .Mult (.lst [d]) (.int i) with | some r => some r | none => opLs h .Mult (.lst [d]) (.int i)) = _
  rw [show opV h .Mult (.lst [d]) (.int i) = none from rfl, e, rep_flat]
theorem bBinW_ok {op : Operator} {ea eb : DE} {c : Calls} {σ : DSt} {h h1 h2 : LH} {x y r : D} (e1 : ea c σ h = .ok x h1) (e2 : eb c σ h1 = .ok y h2) (e3 : opW h2 op x y = some r) : bBinW op ea eb c σ h = .ok r h2 := by
  unfold bBinW
  rw [e1]
  show (eb c σ h1).bind _ = _
  rw [e2]
  show optO (opW h2 op x y) h2 = _
  rw [e3]
  rfl
end
section
variable {c : Calls} {σ σ' : DSt} {h h' h1 h2 h3 : LH} {x y r d : D} {a b : DT} {ea eb : DE} {er : DEs} {op : CmpOp} {k k2 : Bool} {xs : List D}
theorem orT_t (e : a c σ h = .ok true h1) : bOrT a b c σ h = .ok true h1 := by unfold bOrT; rw [e]; rfl
theorem orT_f (e : a c σ h = .ok false h1) : bOrT a b c σ h = b c σ h1 := by unfold bOrT; rw [e]; rfl
theorem andT_t (e : a c σ h = .ok true h1) : bAndT a b c σ h = b c σ h1 := by unfold bAndT; rw [e]; rfl
theorem andT_f (e : a c σ h = .ok false h1) : bAndT a b c σ h = .ok false h1 := by unfold bAndT; rw [e]; rfl
theorem notT_ok (e : a c σ h = .ok k h1) : bNotT a c σ h = .ok (!k) h1 := by unfold bNotT; rw [e]; rfl
theorem cmp_ok (e1 : ea c σ h = .ok x h1) (e2 : eb c σ h1 = .ok y h2) (e3 : cmpV h2 op x y = some k) : bCmp op ea eb c σ h = .ok k h2 := by
  unfold bCmp; rw [e1]; show (eb c σ h1).bind _ = _; rw [e2]; show optO (cmpV h2 op x y) h2 = _; rw [e3]; rfl
theorem tru_ok (e1 : ea c σ h = .ok x h1) (e3 : truV h1 x = some k) : bTru ea c σ h = .ok k h1 := by
  unfold bTru; rw [e1]; show optO (truV h1 x) h1 = _; rw [e3]; rfl
theorem ix_ok (e1 : ea c σ h = .ok x h1) (e2 : eb c σ h1 = .ok y h2) (e3 : ixV h2 x y = some r) : bIx ea eb c σ h = .ok r h2 := by
  unfold bIx; rw [e1]; show (eb c σ h1).bind _ = _; rw [e2]; show optO (ixV h2 x y) h2 = _; rw [e3]; rfl
theorem sl_ok {lo hi : DO} {l u : Option Int} (e1 : ea c σ h = .ok x h1) (e2 : lo c σ h1 = .ok l h2) (e3 : hi c σ h2 = .ok u h3) (e4 : slW h3 x l u = some r) : bSlice ea lo hi c σ h = .ok r h3 := by
  unfold bSlice; rw [e1]; show (lo c σ h1).bind _ = _; rw [e2]; show (hi c σ h2).bind _ = _; rw [e3]; show optO (slW h3 x l u) h3 = _; rw [e4]; rfl
theorem call_ok {n : Nat} {o : Out D} (e1 : er c σ h = .ok xs h1) (e2 : c n xs h1 = o) : bCall n er c σ h = o := by
  unfold bCall; rw [e1]; exact e2
theorem cons_ok (e1 : ea c σ h = .ok x h1) (e2 : er c σ h1 = .ok xs h2) : bCons ea er c σ h = .ok (x :: xs) h2 := by
  unfold bCons; rw [e1]; show (er c σ h1).bind _ = _; rw [e2]; rfl
theorem tup_ok (e1 : er c σ h = .ok xs h1) : bTup er c σ h = .ok (.tup xs) h1 := by unfold bTup; rw [e1]; rfl
theorem lst_ok (e1 : er c σ h = .ok xs h1) : bLstV er c σ h = .ok (.lst xs) h1 := by unfold bLstV; rw [e1]; rfl
theorem b1_ok {f : LH → D → Option D} (e1 : ea c σ h = .ok x h1) (e2 : f h1 x = some r) : bB1 f ea c σ h = .ok r h1 := by
  unfold bB1; rw [e1]; show optO (f h1 x) h1 = _; rw [e2]; rfl
theorem bl_ok (e : a c σ h = .ok k h1) : bBl a c σ h = .ok (.bl k) h1 := by unfold bBl; rw [e]; rfl
theorem ifE_t {t : DT} {o : Out D} (e : t c σ h = .ok true h1) (e2 : ea c σ h1 = o) : bIf t ea eb c σ h = o := by unfold bIf; rw [e]; exact e2
theorem ifE_f {t : DT} {o : Out D} (e : t c σ h = .ok false h1) (e2 : eb c σ h1 = o) : bIf t ea eb c σ h = o := by unfold bIf; rw [e]; exact e2
theorem chain_ok {o1 o2 : CmpOp} {ed : DE} {z : D} (e1 : ea c σ h = .ok x h1) (e2 : eb c σ h1 = .ok y h2) (e3 : ed c σ h2 = .ok z h2) (e4 : cmpV h2 o1 x y = some k) (e5 : cmpV h2 o2 y z = some k2) : bChain o1 o2 ea eb ed c σ h = .ok (k && k2) h2 := by
  unfold bChain; rw [e1]; show (eb c σ h1).bind _ = _; rw [e2]; show (optO (cmpV h2 o1 x y) h2).bind _ = _; rw [e4]
  cases k
  · rfl
  · show (ed c σ h2).bind _ = _; rw [e3]; show optO (cmpV h2 o2 y z) h2 = _; rw [e5]; rfl
theorem asgG_ok {t : Tg} (e1 : ea c σ h = .ok x h1) (e2 : bindT t x σ = some σ') : bAsgG t ea c σ h = .nx σ' h1 := by
  unfold bAsgG; rw [e1]; show (match bindT t x σ with | some σ' => OutS.nx σ' h1 | none => .bad) = _; rw [e2]
theorem ne_cmp (e : deq h x y = some k) : cmpV h .NotEq x y = some (!k) := by show (deq h x y).map (!·) = _; rw [e]; rfl
theorem eq_cmp (e : deq h x y = some k) : cmpV h .Eq x y = some k := e
end
end Bh
namespace Bh
open PySem PySem.Spec PyProof.Rows L2
section
variable {P : Program} {w : World} {K : PySem.W.Frag} {mg : PySem.Str → Option Value} {base : Heap}
theorem ok_0 (M : Md P w K mg base) {c : Calls} {lev : Nat} (hl : 2 ≤ lev) (HC : HCt P w K mg base c lev) (cdv : Value) (A : Around) (outer : List Env) (s : Shared) (H : Hp) (E : XK) (s0 : S3) (hr : Room (lev + 1) (A.deeper (envOfC "_law_draws" (defScope (top 29)) s.heap.objs.size (fa K 0) cdv))) :
    PSs (Xof P w K mg base N_0 "_law_draws" (defScope (top 29)) (fa K 0) cdv A outer s H E) (defBody (top 29)) (tS (ZK K) s0 (fun cls d _ H' => E cls d H') (ev_0 c)) := by
  have C : Ct (Xof P w K mg base N_0 "_law_draws" (defScope (top 29)) (fa K 0) cdv A outer s H E) (ZK K) (fun cls d _ H' => E cls d H') := ⟨rfl, units_of hr, takes_x, (by decide +kernel : List.Nodup N_0)⟩
  exact (ss_cons (wSetL C 1 (wLst Ln.nil wNil)) (ss_cons (wFor C passes_x (wIs C (wSl C (wVarO C 0) so_none (so_some sd_int))) (wgN C 2) (ss_cons (wSet C 3 (wB1 C cr_abs M.b_abs (wVarO C 2))) (ss_one (ss_if (wCmpT C (wVarO C 3) (L2.PE.o (wBin C (L2.PE.o sd_int) (L2.PE.o sd_int)))) (ss_one (wFor C passes_x (wI1 C M.b_range sd_int) (wgN C 4) (ss_one (ss_if (wCmpT C (wVarO C 3) (L2.PE.o sd_int)) (ss_cons (wAppO C 1 (wBin C (L2.PE.o (wT1 C cr_int M.b_int (wVarO C 3))) (L2.PE.o sd_int))) (ss_one (wSet C 3 (wBin C (wVarO C 3) (L2.PE.o sd_int))))) ss_skip)))) (ss_cons (wSet C 5 (wBin C (L2.PE.o (wT1 C cr_int M.b_int (L2.PE.o (wBin C (L2.PE.o (wBin C (wVarO C 3) (L2.PE.o sd_int))) (L2.PE.o sd_int))))) (L2.PE.o sd_int))) (ss_one (wFor C passes_x (wI1 C M.b_range sd_int) (wgN C 4) (ss_cons (wSet C 5 (wBin C (L2.PE.o (wT1 C cr_int M.b_int (L2.PE.o (wBin C (L2.PE.o (wBin C (L2.PE.o (wBin C (wVarO C 5) (L2.PE.o sd_int))) (L2.PE.o (wBin C (L2.PE.o sd_int) (wVarO C 4))))) (L2.PE.o sd_int))))) (L2.PE.o sd_int))) (ss_one (wAppO C 1 (wBin C (wVarO C 5) (L2.PE.o sd_int)))))))))))) (ss_frz (ss_one (ss_ret (wVar C 1))))))
end
end Bh
namespace Bh
open PySem PySem.Spec PyProof.Rows L2
section
variable {P : Program} {w : World} {K : PySem.W.Frag} {mg : PySem.Str → Option Value} {base : Heap}
theorem ok_1 (M : Md P w K mg base) {c : Calls} {lev : Nat} (hl : 2 ≤ lev) (HC : HCt P w K mg base c lev) (cdv : Value) (A : Around) (outer : List Env) (s : Shared) (H : Hp) (E : XK) (s0 : S3) (hr : Room (lev + 1) (A.deeper (envOfC "_law_more" (defScope (top 30)) s.heap.objs.size (fa K 1) cdv))) :
    PSs (Xof P w K mg base N_1 "_law_more" (defScope (top 30)) (fa K 1) cdv A outer s H E) (defBody (top 30)) (tS (ZK K) s0 (fun cls d _ H' => E cls d H') (ev_1 c)) := by
  have C : Ct (Xof P w K mg base N_1 "_law_more" (defScope (top 30)) (fa K 1) cdv A outer s H E) (ZK K) (fun cls d _ H' => E cls d H') := ⟨rfl, units_of hr, takes_x, (by decide +kernel : List.Nodup N_1)⟩
  exact (ss_cons (wSet C 2 (wBin C (L2.PE.o (wT1 C cr_int M.b_int (L2.PE.o (wBin C (L2.PE.o (wBin C (L2.PE.o (wBin C (wVarO C 1) (L2.PE.o sd_int))) (L2.PE.o (wB1 C (call_lenV C.hK) M.b_len (wVarO C 0))))) (L2.PE.o sd_int))))) (L2.PE.o sd_int))) (ss_cons (wFor C passes_x (wI1 C M.b_range sd_int) (wgN C 3) (ss_cons (ss_if (wTru C (wVarO C 0)) (ss_one (wSet C 2 (wBin C (wVarO C 2) (L2.PE.o (wIx C (wVarO C 0) (L2.PE.o (wBin C (L2.PE.o (wT1 C cr_int M.b_int (L2.PE.o (wBin C (L2.PE.o (wBin C (wVarO C 1) (L2.PE.o (wBin C (wVarO C 3) (L2.PE.o sd_int))))) (wVarO C 3))))) (L2.PE.o (wB1 C (call_lenV C.hK) M.b_len (wVarO C 0)))))))))) ss_skip) (ss_one (wSet C 2 (wBin C (L2.PE.o (wT1 C cr_int M.b_int (L2.PE.o (wBin C (L2.PE.o (wBin C (L2.PE.o (wBin C (wVarO C 2) (L2.PE.o sd_int))) (L2.PE.o (wBin C (L2.PE.o sd_int) (wVarO C 3))))) (L2.PE.o sd_int))))) (L2.PE.o sd_int)))))) (ss_one (ss_ret (wBin C (wVarO C 2) (L2.PE.o sd_int))))))
end
end Bh
namespace Bh
open PySem PySem.Spec PyProof.Rows L2
section
variable {P : Program} {w : World} {K : PySem.W.Frag} {mg : PySem.Str → Option Value} {base : Heap}
theorem ok_2 (M : Md P w K mg base) {c : Calls} {lev : Nat} (hl : 2 ≤ lev) (HC : HCt P w K mg base c lev) (cdv : Value) (A : Around) (outer : List Env) (s : Shared) (H : Hp) (E : XK) (s0 : S3) (hr : Room (lev + 1) (A.deeper (envOfC "_law_take" (defScope (top 31)) s.heap.objs.size (fa K 2) cdv))) :
    PSs (Xof P w K mg base N_2 "_law_take" (defScope (top 31)) (fa K 2) cdv A outer s H E) (defBody (top 31)) (tS (ZK K) s0 (fun cls d _ H' => E cls d H') (ev_2 c)) := by
  have C : Ct (Xof P w K mg base N_2 "_law_take" (defScope (top 31)) (fa K 2) cdv A outer s H E) (ZK K) (fun cls d _ H' => E cls d H') := ⟨rfl, units_of hr, takes_x, (by decide +kernel : List.Nodup N_2)⟩
  exact (ss_cons (wSet C 3 (wIx C (wVarO C 1) (L2.PE.o sd_int))) (ss_cons (wSetIx C (wVar C 1) (L2.PE.o sd_int) (wBin C (wVarO C 3) (L2.PE.o sd_int))) (ss_one (ss_ret (wBin C (L2.PE.o (wT1 C cr_int M.b_int (L2.PE.o (sd_if (wCmpT C (wVarO C 3) (L2.PE.o (wB1 C (call_lenV C.hK) M.b_len (wVarO C 0)))) (wIx C (wVarO C 0) (wVarO C 3)) (wCall C hr (DefC.of (HC 1 _ _ _ rfl)) M.g__law_more (Ln.cons (Ln.cons Ln.nil)) (wCons (wVar C 0) (wCons (wVar C 3) wNil))))))) (wVarO C 2))))))
end
end Bh
namespace Bh
open PySem PySem.Spec PyProof.Rows L2
section
variable {P : Program} {w : World} {K : PySem.W.Frag} {mg : PySem.Str → Option Value} {base : Heap}
theorem ok_3 (M : Md P w K mg base) {c : Calls} {lev : Nat} (hl : 2 ≤ lev) (HC : HCt P w K mg base c lev) (cdv : Value) (A : Around) (outer : List Env) (s : Shared) (H : Hp) (E : XK) (s0 : S3) (hr : Room (lev + 1) (A.deeper (envOfC "_law_one" (defScope (top 32)) s.heap.objs.size (fa K 3) cdv))) :
    PSs (Xof P w K mg base N_3 "_law_one" (defScope (top 32)) (fa K 3) cdv A outer s H E) (defBody (top 32)) (tS (ZK K) s0 (fun cls d _ H' => E cls d H') (ev_3 c)) := by
  have C : Ct (Xof P w K mg base N_3 "_law_one" (defScope (top 32)) (fa K 3) cdv A outer s H E) (ZK K) (fun cls d _ H' => E cls d H') := ⟨rfl, units_of hr, takes_x, (by decide +kernel : List.Nodup N_3)⟩
  exact (ss_one (ss_ret (wIx C (wVarO C 0) (L2.PE.o (wCall C hr (DefC.of (HC 2 _ _ _ rfl)) M.g__law_take (Ln.cons (Ln.cons (Ln.cons Ln.nil))) (wCons (wVar C 1) (wCons (wVar C 2) (wCons (wB1 C (call_lenV C.hK) M.b_len (wVarO C 0)) wNil))))))))
end
end Bh
namespace Bh
open PySem PySem.Spec PyProof.Rows L2
section
variable {P : Program} {w : World} {K : PySem.W.Frag} {mg : PySem.Str → Option Value} {base : Heap}
theorem ok_4 (M : Md P w K mg base) {c : Calls} {lev : Nat} (cdv : Value) (A : Around) (outer : List Env) (s : Shared) (H : Hp) (E : XK) (s0 : S3) (hgA : A.guards = some []) (hr : Room lev (A.deeper (envOfC "_law_limits_right" (defScope (top 33)) s.heap.objs.size (fa K 4) cdv))) :
    PSs (Xof P w K mg base N_4 "_law_limits_right" (defScope (top 33)) (fa K 4) cdv A outer s H E) (defBody (top 33)) (tS (ZK K) s0 (fun cls d _ H' => E cls d H') (ev_4 c)) := by
  have C : Ct (Xof P w K mg base N_4 "_law_limits_right" (defScope (top 33)) (fa K 4) cdv A outer s H E) (ZK K) (fun cls d _ H' => E cls d H') := ⟨rfl, units_of hr, takes_x, (by decide +kernel : List.Nodup N_4)⟩
  have hgd : (Xof P w K mg base N_4 "_law_limits_right" (defScope (top 33)) (fa K 4) cdv A outer s H E).A.guards = some [] := hgA
  exact (ss_cons (wSet C 0 (sd_new (wLst (Ln.cons (Ln.cons (Ln.cons (Ln.cons (Ln.cons (Ln.cons (Ln.cons (Ln.cons (Ln.cons Ln.nil))))))))) (wCons (wGlI C M.c_MAX_BLOCKS) (wCons (wGlI C M.c_MAX_INODES) (wCons (wGlI C M.c_MAX_JOURNAL) (wCons (wGlI C M.c_MAX_TARGETS) (wCons (wGlI C M.c_MAX_NAME) (wCons (wGlI C M.c_MAX_DEPTH) (wCons (wGlI C M.c_MAX_DATA) (wCons (wGlI C M.c_MAX_SIZE) (wCons (wGlI C M.c_MAX_LINKS) wNil)))))))))))) (ss_cons (wSet C 0 (wBin C (wVarO C 0) (L2.PE.o (sd_new (wLst (Ln.cons (Ln.cons (Ln.cons (Ln.cons (Ln.cons (Ln.cons (Ln.cons (Ln.cons (Ln.cons Ln.nil))))))))) (wCons (wGlI C M.c_MAX_OWNER) (wCons (wGlI C M.c_MAX_SNAPS) (wCons (wGlI C M.c_MAX_DEEDS) (wCons (wGlI C M.c_MAX_TEXT) (wCons (wGlI C M.c_MAX_ENTRIES) (wCons (wGlI C M.c_MAX_HANDLES) (wCons (wGlI C M.c_MAX_DISKS) (wCons (wGlI C M.c_MAX_LINES) (wCons (wGlI C M.c_MAX_TRIED) wNil)))))))))))))) (ss_cons (wSet C 1 (sd_new (wLst (Ln.cons (Ln.cons (Ln.cons (Ln.cons (Ln.cons (Ln.cons (Ln.cons (Ln.cons (Ln.cons (Ln.cons (Ln.cons (Ln.cons (Ln.cons (Ln.cons (Ln.cons (Ln.cons (Ln.cons (Ln.cons Ln.nil)))))))))))))))))) (wCons sd_int (wCons sd_int (wCons sd_int (wCons sd_int (wCons sd_int (wCons sd_int (wCons sd_int (wCons sd_int (wCons sd_int (wCons sd_int (wCons sd_int (wCons sd_int (wCons sd_int (wCons sd_int (wCons sd_int (wCons sd_int (wCons sd_int (wCons sd_int wNil))))))))))))))))))))) (ss_one (ss_ret (wCmp C (L2.PE.o (wB1 C (cr_reprD C.hK hgd C.hu) M.b_repr (wVarO C 0))) (L2.PE.o (wB1 C (cr_reprD C.hK hgd C.hu) M.b_repr (wVarO C 1)))))))))
end
end Bh
namespace Bh
open PySem PySem.Spec PyProof.Rows L2
section
variable {P : Program} {w : World} {K : PySem.W.Frag} {mg : PySem.Str → Option Value} {base : Heap}
theorem ok_5 (M : Md P w K mg base) {c : Calls} {lev : Nat} (hl : 2 ≤ lev) (HC : HCt P w K mg base c lev) (cdv : Value) (A : Around) (outer : List Env) (s : Shared) (H : Hp) (E : XK) (s0 : S3) (hr : Room (lev + 1) (A.deeper (envOfC "_law_raise" (defScope (top 34)) s.heap.objs.size (fa K 5) cdv))) :
    PSs (Xof P w K mg base N_5 "_law_raise" (defScope (top 34)) (fa K 5) cdv A outer s H E) (defBody (top 34)) (tS (ZK K) s0 (fun cls d _ H' => E cls d H') (ev_5 c)) := by
  have C : Ct (Xof P w K mg base N_5 "_law_raise" (defScope (top 34)) (fa K 5) cdv A outer s H E) (ZK K) (fun cls d _ H' => E cls d H') := ⟨rfl, units_of hr, takes_x, (by decide +kernel : List.Nodup N_5)⟩
  exact (ss_cons (ss_if (wCmpT C (wVarO C 0) (L2.PE.o sd_int)) (ss_one (wRaise C hr (ExP.of (M.x_ArgumentError _ hl)) M.k_ArgumentError (Ln.cons Ln.nil) (wCons (wVar C 1) wNil))) ss_skip) (ss_cons (ss_if (wCmpT C (wVarO C 0) (L2.PE.o sd_int)) (ss_one (wRaise C hr (ExP.of (M.x_PaperError _ hl)) M.k_PaperError (Ln.cons Ln.nil) (wCons (wVar C 1) wNil))) ss_skip) (ss_cons (ss_if (wCmpT C (wVarO C 0) (L2.PE.o sd_int)) (ss_one (wRaise C hr (ExP.of (M.x_TooMany _ hl)) M.k_TooMany (Ln.cons Ln.nil) (wCons (wVar C 1) wNil))) ss_skip) (ss_cons (ss_if (wCmpT C (wVarO C 0) (L2.PE.o sd_int)) (ss_one (wRaise C hr (ExP.of (M.x_CheckError _ hl)) M.k_CheckError (Ln.cons Ln.nil) (wCons (wVar C 1) wNil))) ss_skip) (ss_cons (ss_if (wCmpT C (wVarO C 0) (L2.PE.o sd_int)) (ss_one (wRaise C hr (ExP.of (M.x_TextError _ hl)) M.k_TextError (Ln.cons Ln.nil) (wCons (wVar C 1) wNil))) ss_skip) (ss_cons (ss_if (wCmpT C (wVarO C 0) (L2.PE.o sd_int)) (ss_one (wRaise C hr (ExP.of (M.x_LogError _ hl)) M.k_LogError (Ln.cons (Ln.cons Ln.nil)) (wCons (wVar C 1) (wCons (wVar C 2) wNil)))) ss_skip) (ss_one (wRaise C hr (ExP.of (M.x_CommandError _ hl)) M.k_CommandError (Ln.cons Ln.nil) (wCons (wVar C 1) wNil)))))))))
end
end Bh
namespace Bh
open PySem PySem.Spec PyProof.Rows L2
section
variable {P : Program} {w : World} {K : PySem.W.Frag} {mg : PySem.Str → Option Value} {base : Heap}
theorem ok_6 (M : Md P w K mg base) {c : Calls} {k0 : Nat} (cdv : Value) (A : Around) (outer : List Env) (s : Shared) (H : Hp) (s0 : S3) (a : Addr) (oe : Obj) (cls : Value) (d : Option Addr) (hz : Zc cls d oe) (hf : ∃ vs, oe.data = .fields vs) (hr : L2H.RoomH k0 (A.deeper (envOfC "_law_kinds" (defScope (top 35)) s.heap.objs.size (fa K 6) cdv))) :
    PSs (Xe P w K mg base N_6 "_law_kinds" (defScope (top 35)) (fa K 6) cdv A outer s H (a, oe)) (defBody (top 35)) (tS ((ZK K).wx (some (a, cls, d))) s0 W0 (ev_6 c)) := by
  have C : Ct (Xe P w K mg base N_6 "_law_kinds" (defScope (top 35)) (fa K 6) cdv A outer s H (a, oe)) ((ZK K).wx (some (a, cls, d))) W0 := ⟨rfl, (by have := hr.un; show (A.deeper (envOfC "_law_kinds" (defScope (top 35)) s.heap.objs.size (fa K 6) cdv)).units + 65 < cLine; omega), takes_no, (by decide +kernel : List.Nodup N_6)⟩
  exact (ss_cons (wSet C 1 (sd_new (wLst (Ln.cons (Ln.cons (Ln.cons (Ln.cons Ln.nil)))) (wCons (sd_exIsP (List.Mem.head _) rfl hz hf M.exI_2 rfl (by first | exact .inl rfl | exact .inr (.inl rfl) | exact .inr (.inr rfl)) rfl rfl rfl M.b_isinstance rfl (by decide) rfl rfl M.k_ArgumentError rfl) (wCons (sd_exIsP (List.Mem.head _) rfl hz hf M.exI_4 rfl (by first | exact .inl rfl | exact .inr (.inl rfl) | exact .inr (.inr rfl)) rfl rfl rfl M.b_isinstance rfl (by decide) rfl rfl M.k_PaperError rfl) (wCons (sd_exIsP (List.Mem.head _) rfl hz hf M.exI_5 rfl (by first | exact .inl rfl | exact .inr (.inl rfl) | exact .inr (.inr rfl)) rfl rfl rfl M.b_isinstance rfl (by decide) rfl rfl M.k_TooMany rfl) (wCons (sd_exIsP (List.Mem.head _) rfl hz hf M.exI_3 rfl (by first | exact .inl rfl | exact .inr (.inl rfl) | exact .inr (.inr rfl)) rfl rfl rfl M.b_isinstance rfl (by decide) rfl rfl M.k_CheckError rfl) wNil))))))) (ss_one (ss_ret (wBin C (wVarO C 1) (L2.PE.o (sd_new (wLst (Ln.cons (Ln.cons (Ln.cons Ln.nil))) (wCons (sd_exIsP (List.Mem.head _) rfl hz hf M.exI_6 rfl (by first | exact .inl rfl | exact .inr (.inl rfl) | exact .inr (.inr rfl)) rfl rfl rfl M.b_isinstance rfl (by decide) rfl rfl M.k_TextError rfl) (wCons (sd_exIsP (List.Mem.head _) rfl hz hf M.exI_7 rfl (by first | exact .inl rfl | exact .inr (.inl rfl) | exact .inr (.inr rfl)) rfl rfl rfl M.b_isinstance rfl (by decide) rfl rfl M.k_LogError rfl) (wCons (sd_exIsP (List.Mem.head _) rfl hz hf M.exI_8 rfl (by first | exact .inl rfl | exact .inr (.inl rfl) | exact .inr (.inr rfl)) rfl rfl rfl M.b_isinstance rfl (by decide) rfl rfl M.k_CommandError rfl) wNil))))))))))
end
end Bh
namespace Bh
open PySem PySem.Spec PyProof.Rows L2
section
variable {P : Program} {w : World} {K : PySem.W.Frag} {mg : PySem.Str → Option Value} {base : Heap}
theorem ok_7 (M : Md P w K mg base) {c : Calls} {lev : Nat} (hl : 2 ≤ lev) (HC : HCt P w K mg base c lev) (HE_6 : EDef P w K mg base (ZK K) lev 6 N_6.length (ev_6 c)) (cdv : Value) (A : Around) (outer : List Env) (s : Shared) (H : Hp) (E : XK) (s0 : S3) (hr : Room (lev + 1) (A.deeper (envOfC "_law_caught" (defScope (top 36)) s.heap.objs.size (fa K 7) cdv))) :
    PSs (Xof P w K mg base N_7 "_law_caught" (defScope (top 36)) (fa K 7) cdv A outer s H E) (defBody (top 36)) (tS (ZK K) s0 (fun cls d _ H' => E cls d H') (ev_7 c)) := by
  have C : Ct (Xof P w K mg base N_7 "_law_caught" (defScope (top 36)) (fa K 7) cdv A outer s H E) (ZK K) (fun cls d _ H' => E cls d H') := ⟨rfl, units_of hr, takes_x, (by decide +kernel : List.Nodup N_7)⟩
  exact (ss_cons (ss_try rfl rfl rfl C.tk (fun W' pn xe tk hps => by have C := C.tr tk; exact (ss_one (wEx C (wCall C hr (DefC.of (HC 5 _ _ _ rfl)) M.g__law_raise (Ln.cons (Ln.cons (Ln.cons Ln.nil))) (wCons (wVar C 0) (wCons (wVar C 1) (wCons (wVar C 2) wNil))))))) (.as_ (names_w M.k_VolumeError) (M.exM 0 (by simp [known])) C.hN rfl rfl (fun a oe cls d pn hz hf => by have C := Ct.suite C a ((a, oe) :: pn) (some (a, cls, d)); exact (ss_one (ss_ret (sd_if (wTru C (L2.PE.o (sd_exIsB (List.Mem.head _) rfl hz hf M.exV_ValueError rfl (by first | exact .inl rfl | exact .inr (.inl rfl) | exact .inr (.inr rfl)) rfl rfl rfl M.b_isinstance rfl (by decide) rfl rfl M.b_ValueError rfl (by decide) rfl))) (sd_callE HE_6 (hr.mono (Nat.le_succ _)) hz hf rfl (by first | exact .inl rfl | exact .inr (.inl rfl) | exact .inr (.inr rfl)) rfl rfl rfl M.g__law_kinds rfl) (sd_new (wLst Ln.nil wNil)))))) .nil)) (ss_one (ss_ret (sd_new (wLst Ln.nil wNil)))))
end
end Bh
namespace Bh
open PySem PySem.Spec PyProof.Rows L2
section
variable {P : Program} {w : World} {K : PySem.W.Frag} {mg : PySem.Str → Option Value} {base : Heap}
theorem ok_8 (M : Md P w K mg base) {c : Calls} {lev : Nat} (hl : 2 ≤ lev) (HC : HCt P w K mg base c lev) (cdv : Value) (A : Around) (outer : List Env) (s : Shared) (H : Hp) (E : XK) (s0 : S3) (hr : Room (lev + 1) (A.deeper (envOfC "_law_fields" (defScope (top 37)) s.heap.objs.size (fa K 8) cdv))) :
    PSs (Xof P w K mg base N_8 "_law_fields" (defScope (top 37)) (fa K 8) cdv A outer s H E) (defBody (top 37)) (tS (ZK K) s0 (fun cls d _ H' => E cls d H') (ev_8 c)) := by
  have C : Ct (Xof P w K mg base N_8 "_law_fields" (defScope (top 37)) (fa K 8) cdv A outer s H E) (ZK K) (fun cls d _ H' => E cls d H') := ⟨rfl, units_of hr, takes_x, (by decide +kernel : List.Nodup N_8)⟩
  exact (ss_cons (ss_try rfl rfl rfl C.tk (fun W' pn xe tk hps => by have C := C.tr tk; exact (ss_one (wEx C (wCall C hr (DefC.of (HC 5 _ _ _ rfl)) M.g__law_raise (Ln.cons (Ln.cons (Ln.cons Ln.nil))) (wCons (wVar C 0) (wCons (wVar C 1) (wCons (wVar C 2) wNil))))))) (.as_ (names_w M.k_ArgumentError) (M.exM 2 (by simp [known])) C.hN rfl rfl (fun a oe cls d pn hz hf => by have C := Ct.suite C a ((a, oe) :: pn) (some (a, cls, d)); exact (ss_one (ss_ret (wTup (Ln.cons Ln.nil) (wCons (sd_exF rfl hz hf M.exF_reason rfl (by first | exact .inl rfl | exact .inr (.inl rfl) | exact .inr (.inr rfl)) rfl rfl) wNil))))) (.as_ (names_w M.k_PaperError) (M.exM 4 (by simp [known])) C.hN rfl rfl (fun a oe cls d pn hz hf => by have C := Ct.suite C a ((a, oe) :: pn) (some (a, cls, d)); exact (ss_one (ss_ret (wTup (Ln.cons Ln.nil) (wCons (sd_exF rfl hz hf M.exF_reason rfl (by first | exact .inl rfl | exact .inr (.inl rfl) | exact .inr (.inr rfl)) rfl rfl) wNil))))) (.as_ (names_w M.k_TooMany) (M.exM 5 (by simp [known])) C.hN rfl rfl (fun a oe cls d pn hz hf => by have C := Ct.suite C a ((a, oe) :: pn) (some (a, cls, d)); exact (ss_one (ss_ret (wTup (Ln.cons Ln.nil) (wCons (sd_exF rfl hz hf M.exF_reason rfl (by first | exact .inl rfl | exact .inr (.inl rfl) | exact .inr (.inr rfl)) rfl rfl) wNil))))) (.as_ (names_w M.k_CheckError) (M.exM 3 (by simp [known])) C.hN rfl rfl (fun a oe cls d pn hz hf => by have C := Ct.suite C a ((a, oe) :: pn) (some (a, cls, d)); exact (ss_one (ss_ret (wTup (Ln.cons Ln.nil) (wCons (sd_exF rfl hz hf M.exF_reason rfl (by first | exact .inl rfl | exact .inr (.inl rfl) | exact .inr (.inr rfl)) rfl rfl) wNil))))) (.as_ (names_w M.k_TextError) (M.exM 6 (by simp [known])) C.hN rfl rfl (fun a oe cls d pn hz hf => by have C := Ct.suite C a ((a, oe) :: pn) (some (a, cls, d)); exact (ss_one (ss_ret (wTup (Ln.cons Ln.nil) (wCons (sd_exF rfl hz hf M.exF_at rfl (by first | exact .inl rfl | exact .inr (.inl rfl) | exact .inr (.inr rfl)) rfl rfl) wNil))))) (.as_ (names_w M.k_LogError) (M.exM 7 (by simp [known])) C.hN rfl rfl (fun a oe cls d pn hz hf => by have C := Ct.suite C a ((a, oe) :: pn) (some (a, cls, d)); exact (ss_one (ss_ret (wTup (Ln.cons (Ln.cons Ln.nil)) (wCons (sd_exF rfl hz hf M.exF_number rfl (by first | exact .inl rfl | exact .inr (.inl rfl) | exact .inr (.inr rfl)) rfl rfl) (wCons (sd_exF rfl hz hf M.exF_reason rfl (by first | exact .inl rfl | exact .inr (.inl rfl) | exact .inr (.inr rfl)) rfl rfl) wNil)))))) (.as_ (names_w M.k_CommandError) (M.exM 8 (by simp [known])) C.hN rfl rfl (fun a oe cls d pn hz hf => by have C := Ct.suite C a ((a, oe) :: pn) (some (a, cls, d)); exact (ss_one (ss_ret (wTup (Ln.cons Ln.nil) (wCons (sd_exF rfl hz hf M.exF_line rfl (by first | exact .inl rfl | exact .inr (.inl rfl) | exact .inr (.inr rfl)) rfl rfl) wNil))))) .nil)))))))) (ss_one (ss_ret sd_non)))
end
end Bh
namespace Bh
open PySem PySem.Spec PyProof.Rows L2
section
variable {P : Program} {w : World} {K : PySem.W.Frag} {mg : PySem.Str → Option Value} {base : Heap}
theorem ok_9 (M : Md P w K mg base) {c : Calls} {lev : Nat} (hl : 2 ≤ lev) (HC : HCt P w K mg base c lev) (HG_4 : GDef P w K mg base (ZK K) lev 4 N_4.length (ev_4 c)) (cdv : Value) (A : Around) (outer : List Env) (s : Shared) (H : Hp) (E : XK) (s0 : S3) (hgA : A.guards = some []) (hr : Room (lev + 1) (A.deeper (envOfC "law" (defScope (top 38)) s.heap.objs.size (fa K 9) cdv))) :
    PSs (Xof P w K mg base N_9 "law" (defScope (top 38)) (fa K 9) cdv A outer s H E) (defBody (top 38)) (tS (ZK K) s0 (fun cls d _ H' => E cls d H') (ev_9 c)) := by
  have C : Ct (Xof P w K mg base N_9 "law" (defScope (top 38)) (fa K 9) cdv A outer s H E) (ZK K) (fun cls d _ H' => E cls d H') := ⟨rfl, units_of hr, takes_x, (by decide +kernel : List.Nodup N_9)⟩
  have hgd : (Xof P w K mg base N_9 "law" (defScope (top 38)) (fa K 9) cdv A outer s H E).A.guards = some [] := hgA
  exact (ss_cons (wSet C 1 (wCall C hr (DefC.of (HC 0 _ _ _ rfl)) M.g__law_draws (Ln.cons Ln.nil) (wCons (wVar C 0) wNil))) (ss_cons (wSet C 2 (sd_newR (wLst (Ln.cons Ln.nil) (wCons sd_int wNil)))) (ss_cons (ss_if (wNot C (wTru C (L2.PE.o (sd_callG HG_4 hgd (hr.mono (Nat.le_succ _)) rfl M.g__law_limits_right C.tk rfl)))) (ss_one (ss_ret sd_bl)) ss_skip) (ss_cons (wSet C 3 (sd_new (wLst (Ln.cons (Ln.cons (Ln.cons (Ln.cons (Ln.cons (Ln.cons (Ln.cons (Ln.cons (Ln.cons (Ln.cons Ln.nil)))))))))) (wCons sd_str (wCons sd_str (wCons sd_str (wCons sd_int (wCons sd_int (wCons (wNeg C sd_int) (wCons sd_non (wCons (wTup (Ln.cons (Ln.cons Ln.nil)) (wCons sd_str (wCons sd_int wNil))) (wCons sd_str (wCons sd_bl wNil))))))))))))) (ss_cons (wFor C passes_x (wI1 C M.b_range sd_int) (wgN C 4) (ss_cons (wPar C (Ln.cons (Ln.cons Ln.nil)) (wCons (wCall C hr (DefC.of (HC 3 _ _ _ rfl)) M.g__law_one (Ln.cons (Ln.cons (Ln.cons Ln.nil))) (wCons (wVar C 3) (wCons (wVar C 1) (wCons (wVar C 2) wNil)))) (wCons (wCall C hr (DefC.of (HC 3 _ _ _ rfl)) M.g__law_one (Ln.cons (Ln.cons (Ln.cons Ln.nil))) (wCons (wVar C 3) (wCons (wVar C 1) (wCons (wVar C 2) wNil)))) wNil))) (ss_cons (ss_if (wCmpT C (L2.PE.o (wCall C hr (DefC.of (HC 7 _ _ _ rfl)) M.g__law_caught (Ln.cons (Ln.cons (Ln.cons Ln.nil))) (wCons (wVar C 4) (wCons (wVar C 5) (wCons (wVar C 6) wNil))))) (L2.PE.o (sd_new (wLc C (own := [("j", 7)]) (wI1 C M.b_range sd_int) (blkB_ok (N := N_9) (sc := defScope (top 38)) (by decide +kernel)) (fun s H Ca cl fp σ0 C => (wgB C 7)) (fun s H Ca cl fp C => wYes) (fun s H Ca cl fp C => (wCmp C (wVarO C 7) (wVarO C 4))))))) (ss_one (ss_ret sd_bl)) ss_skip) (ss_one (ss_if (wCmpT C (L2.PE.o (wB1 C (cr_reprD C.hK hgd C.hu) M.b_repr (L2.PE.o (wCall C hr (DefC.of (HC 8 _ _ _ rfl)) M.g__law_fields (Ln.cons (Ln.cons (Ln.cons Ln.nil))) (wCons (wVar C 4) (wCons (wVar C 5) (wCons (wVar C 6) wNil))))))) (L2.PE.o (wB1 C (cr_reprD C.hK hgd C.hu) M.b_repr (L2.PE.o (sd_if (wCmpT C (wVarO C 4) (L2.PE.o sd_int)) (wTup (Ln.cons (Ln.cons Ln.nil)) (wCons (wVar C 5) (wCons (wVar C 6) wNil))) (wTup (Ln.cons Ln.nil) (wCons (wVar C 5) wNil))))))) (ss_one (ss_ret sd_bl)) ss_skip))))) (ss_one (ss_ret sd_bl)))))))
end
end Bh
namespace Bh
open PySem PySem.Spec PyProof.Rows L2
/-! ### the head -/
abbrev dd_0 : He.DefD := ⟨("_law_draws", none), "_law_draws", "_law_draws", defArgs (top 29), defBody (top 29), defScope (top 29), [], []⟩
abbrev dd_1 : He.DefD := ⟨("_law_more", none), "_law_more", "_law_more", defArgs (top 30), defBody (top 30), defScope (top 30), [], []⟩
abbrev dd_2 : He.DefD := ⟨("_law_take", none), "_law_take", "_law_take", defArgs (top 31), defBody (top 31), defScope (top 31), [], []⟩
abbrev dd_3 : He.DefD := ⟨("_law_one", none), "_law_one", "_law_one", defArgs (top 32), defBody (top 32), defScope (top 32), [], []⟩
abbrev dd_4 : He.DefD := ⟨("_law_limits_right", none), "_law_limits_right", "_law_limits_right", defArgs (top 33), defBody (top 33), defScope (top 33), [], []⟩
abbrev dd_5 : He.DefD := ⟨("_law_raise", none), "_law_raise", "_law_raise", defArgs (top 34), defBody (top 34), defScope (top 34), [], []⟩
abbrev dd_6 : He.DefD := ⟨("_law_kinds", none), "_law_kinds", "_law_kinds", defArgs (top 35), defBody (top 35), defScope (top 35), [], []⟩
abbrev dd_7 : He.DefD := ⟨("_law_caught", none), "_law_caught", "_law_caught", defArgs (top 36), defBody (top 36), defScope (top 36), [], []⟩
abbrev dd_8 : He.DefD := ⟨("_law_fields", none), "_law_fields", "_law_fields", defArgs (top 37), defBody (top 37), defScope (top 37), [], []⟩
abbrev dd_9 : He.DefD := ⟨("law", none), "law", "law", defArgs (top 38), defBody (top 38), defScope (top 38), [], []⟩
abbrev fnL : List He.DefD := [dd_0, dd_1, dd_2, dd_3, dd_4, dd_5, dd_6, dd_7, dd_8, dd_9]
abbrev faL : List He.Fa := [.glo "_law_draws", .glo "_law_more", .glo "_law_take", .glo "_law_one", .glo "_law_limits_right", .glo "_law_raise", .glo "_law_kinds", .glo "_law_caught", .glo "_law_fields", .glo "law", .glo "VolumeError", .glo "ReasonError", .glo "ArgumentError", .glo "CheckError", .glo "PaperError", .glo "TooMany", .glo "TextError", .glo "LogError", .glo "CommandError", .int "MAX_BLOCKS" 160, .int "MAX_DATA" 64, .int "MAX_DEEDS" 200, .int "MAX_DEPTH" 6, .int "MAX_DISKS" 6, .int "MAX_ENTRIES" 64, .int "MAX_HANDLES" 8, .int "MAX_INODES" 24, .int "MAX_JOURNAL" 60, .int "MAX_LINES" 200, .int "MAX_LINKS" 60, .int "MAX_NAME" 6, .int "MAX_OWNER" 7, .int "MAX_SIZE" 1280, .int "MAX_SNAPS" 3, .int "MAX_TARGETS" 20, .int "MAX_TEXT" 20000, .int "MAX_TRIED" 400, .free "ValueError", .free "abs", .free "int", .free "isinstance", .free "len", .free "range", .free "repr", .free "super"]
abbrev ini (K : PySem.W.Frag) (D : PySem.Str) : Addr := He.ma K (He.ga K D) "__init__"
def exB (K : PySem.W.Frag) : Bool := [2, 3, 4, 5, 6, 7, 8].all fun k => oexB K (ca K k) && (xfB K (ca K k) && xiB K (ca K k))
def exmB (K : PySem.W.Frag) : Bool := [0, 2, 3, 4, 5, 6, 7, 8].all fun j => [2, 3, 4, 5, 6, 7, 8].all fun k => decide (PySem.W.exmOne K (.ref (ca K k)) (.ref (ca K j)) = some (sub k j))
def exiB (K : PySem.W.Frag) : Bool := ([2, 3, 4, 5, 6, 7, 8] : List Nat).all fun j => [2, 3, 4, 5, 6, 7, 8].all fun k => decide (PySem.W.kitOne K (.ref (ca K k)) (.ref (ca K j)) = some (sub k j))
def exfB (K : PySem.W.Frag) : Bool := (["at", "line", "number", "reason"] : List PySem.Str).all fun (f : PySem.Str) => [2, 3, 4, 5, 6, 7, 8].all fun k => decide (PySem.W.findIn K (.ref (ca K k)) f = some none)
def extra (K : PySem.W.Frag) : Bool := exB K && (exmB K && (exiB K && (exfB K && (supFB PySem.Challenge.pw_blocksheal_k00_errors_and_limits K (ini K "ReasonError") (He.ga K "ReasonError") "ReasonError.__init__" && (supFB PySem.Challenge.pw_blocksheal_k00_errors_and_limits K (ini K "CommandError") (He.ga K "CommandError") "CommandError.__init__" && (supFB PySem.Challenge.pw_blocksheal_k00_errors_and_limits K (ini K "LogError") (He.ga K "LogError") "LogError.__init__" && (supFB PySem.Challenge.pw_blocksheal_k00_errors_and_limits K (ini K "TextError") (He.ga K "TextError") "TextError.__init__" && ((supCB K (ca K 2) (He.ga K "ReasonError") && (decide (PySem.W.findIn K (.ref (ca K 2)) "__init__" = some (some (.ref (ini K "ReasonError")))))) && ((supCB K (ca K 3) (He.ga K "ReasonError") && (decide (PySem.W.findIn K (.ref (ca K 3)) "__init__" = some (some (.ref (ini K "ReasonError")))))) && ((supCB K (ca K 8) (He.ga K "CommandError") && (decide (PySem.W.findIn K (.ref (ca K 8)) "__init__" = some (some (.ref (ini K "CommandError")))))) && ((supCB K (ca K 7) (He.ga K "LogError") && (decide (PySem.W.findIn K (.ref (ca K 7)) "__init__" = some (some (.ref (ini K "LogError")))))) && ((supCB K (ca K 4) (He.ga K "ReasonError") && (decide (PySem.W.findIn K (.ref (ca K 4)) "__init__" = some (some (.ref (ini K "ReasonError")))))) && ((supCB K (ca K 6) (He.ga K "TextError") && (decide (PySem.W.findIn K (.ref (ca K 6)) "__init__" = some (some (.ref (ini K "TextError")))))) && ((supCB K (ca K 5) (He.ga K "ReasonError") && (decide (PySem.W.findIn K (.ref (ca K 5)) "__init__" = some (some (.ref (ini K "ReasonError")))))) && (([2, 3, 4, 5, 6, 7, 8].all fun k => decide (PySem.W.kitOne K (.ref (ca K k)) (.type "ValueError") = some true)))))))))))))))))
abbrev inS_ReasonError : Stmt := (clsBody (top 2)).getD 0 (.Pass ⟨0, 0, 0, 0⟩)
abbrev inD_ReasonError : IniD := ⟨"__init__", "ReasonError.__init__", defArgs inS_ReasonError, defBody inS_ReasonError, defScope inS_ReasonError⟩
abbrev inS_CommandError : Stmt := (clsBody (top 9)).getD 0 (.Pass ⟨0, 0, 0, 0⟩)
abbrev inD_CommandError : IniD := ⟨"__init__", "CommandError.__init__", defArgs inS_CommandError, defBody inS_CommandError, defScope inS_CommandError⟩
abbrev inS_LogError : Stmt := (clsBody (top 8)).getD 0 (.Pass ⟨0, 0, 0, 0⟩)
abbrev inD_LogError : IniD := ⟨"__init__", "LogError.__init__", defArgs inS_LogError, defBody inS_LogError, defScope inS_LogError⟩
abbrev inS_TextError : Stmt := (clsBody (top 7)).getD 0 (.Pass ⟨0, 0, 0, 0⟩)
abbrev inD_TextError : IniD := ⟨"__init__", "TextError.__init__", defArgs inS_TextError, defBody inS_TextError, defScope inS_TextError⟩
def inis (K : PySem.W.Frag) : List FnS := [fnS K (ini K "ReasonError"), fnS K (ini K "CommandError"), fnS K (ini K "LogError"), fnS K (ini K "TextError")]
abbrev inisV : List FnS := [inD_ReasonError.val, inD_CommandError.val, inD_LogError.val, inD_TextError.val]
abbrev frK (g : Addr → Option Obj) : PySem.W.Frag := He.frG g (PySem.cStatics :: He.asD g 6)
abbrev Al2 : Type := He.AlD × Bool × List FnS
def hk : PySem.W.Hook where
  α := Al2
  obs := fun s => (He.obsD faL fnL (frK s.heap.get?), extra (frK s.heap.get?), inis (frK s.heap.get?))
  val := fun _ => (He.valD fnL, true, inisV)
  says := fun _ h => ∃ K : PySem.W.Frag, K.In h ∧ He.SaysD faL fnL K ∧ extra K = true ∧ inis K = inisV
  of := fun _ _ e => ⟨_, He.frG_in, congrArg (fun z : Al2 => z.1) e, congrArg (fun z : Al2 => z.2.1) e, congrArg (fun z : Al2 => z.2.2) e⟩
  keeps := fun _ _ _ ⟨K, hK, c⟩ k => ⟨K, PySem.W.Frag.In.keeps hK k, c⟩
def ob (s : PySem.W.SharedT) : Al2 := (He.obsD faL fnL (frK (HandSHeadRun.getT s)), extra (frK (HandSHeadRun.getT s)), inis (frK (HandSHeadRun.getT s)))
theorem ob_eq (s : PySem.W.SharedT) : ob s = hk.obs s.abs := by
  have e : HandSHeadRun.getT s = s.abs.heap.get? := funext (HandSHeadRun.getT_eq s)
  unfold ob
  rw [e] <;> rfl
abbrev R : PySem.W.OpenRow := PySem.W.OpenLaw.row PySem.Challenge.rw_blocksheal_k00_errors_and_limits
def loose : List PySem.Str := (["VolumeError", "ReasonError", "ArgumentError", "CheckError", "PaperError", "TooMany", "TextError", "LogError", "CommandError", "MAX_BLOCKS", "MAX_INODES", "MAX_JOURNAL", "MAX_TARGETS", "MAX_NAME", "MAX_DEPTH", "MAX_DATA", "MAX_SIZE", "MAX_LINKS", "MAX_OWNER", "MAX_SNAPS", "MAX_DEEDS", "MAX_TEXT", "MAX_ENTRIES", "MAX_HANDLES", "MAX_DISKS", "MAX_LINES", "MAX_TRIED", "_law_draws", "_law_more", "_law_take"] : List PySem.Str) ++ (["_law_one", "_law_limits_right", "_law_raise", "_law_kinds", "_law_caught", "_law_fields"] : List PySem.Str)
theorem run (w : World) : HandSHeadRun.RunEq R (PySem.W.view R.prog [38]) hk ob 4000 loose w := by
  intro os
  kernel_rfl
end Bh
namespace Bh
open PySem PySem.Spec PyProof.Rows L2
section
variable {w : World} {K : PySem.W.Frag} {h : Heap} {mg : PySem.Str → Option Value}
abbrev PP : Program := PySem.Challenge.pw_blocksheal_k00_errors_and_limits
theorem exts (e : extra K = true) : (exB K) = true ∧ (exmB K) = true ∧ (exiB K) = true ∧ (exfB K) = true ∧ (supFB PySem.Challenge.pw_blocksheal_k00_errors_and_limits K (ini K "ReasonError") (He.ga K "ReasonError") "ReasonError.__init__") = true ∧ (supFB PySem.Challenge.pw_blocksheal_k00_errors_and_limits K (ini K "CommandError") (He.ga K "CommandError") "CommandError.__init__") = true ∧ (supFB PySem.Challenge.pw_blocksheal_k00_errors_and_limits K (ini K "LogError") (He.ga K "LogError") "LogError.__init__") = true ∧ (supFB PySem.Challenge.pw_blocksheal_k00_errors_and_limits K (ini K "TextError") (He.ga K "TextError") "TextError.__init__") = true ∧ ((supCB K (ca K 2) (He.ga K "ReasonError") && (decide (PySem.W.findIn K (.ref (ca K 2)) "__init__" = some (some (.ref (ini K "ReasonError"))))))) = true ∧ ((supCB K (ca K 3) (He.ga K "ReasonError") && (decide (PySem.W.findIn K (.ref (ca K 3)) "__init__" = some (some (.ref (ini K "ReasonError"))))))) = true ∧ ((supCB K (ca K 8) (He.ga K "CommandError") && (decide (PySem.W.findIn K (.ref (ca K 8)) "__init__" = some (some (.ref (ini K "CommandError"))))))) = true ∧ ((supCB K (ca K 7) (He.ga K "LogError") && (decide (PySem.W.findIn K (.ref (ca K 7)) "__init__" = some (some (.ref (ini K "LogError"))))))) = true ∧ ((supCB K (ca K 4) (He.ga K "ReasonError") && (decide (PySem.W.findIn K (.ref (ca K 4)) "__init__" = some (some (.ref (ini K "ReasonError"))))))) = true ∧ ((supCB K (ca K 6) (He.ga K "TextError") && (decide (PySem.W.findIn K (.ref (ca K 6)) "__init__" = some (some (.ref (ini K "TextError"))))))) = true ∧ ((supCB K (ca K 5) (He.ga K "ReasonError") && (decide (PySem.W.findIn K (.ref (ca K 5)) "__init__" = some (some (.ref (ini K "ReasonError"))))))) = true ∧ (([2, 3, 4, 5, 6, 7, 8].all fun k => decide (PySem.W.kitOne K (.ref (ca K k)) (.type "ValueError") = some true))) = true := by
  unfold extra at e
  simpa only [Bool.and_eq_true, and_assoc] using e
theorem ini_ReasonError (X : K.In h) (G : h.Ns mainGlobals mg) (c : He.SaysD faL fnL K) (e : extra K = true) (iv : inis K = inisV) {base : Heap} {lev : Nat} (hl : 1 ≤ lev) : ∃ fd, FnOk PP w K mg base (L2.CX PP w) lev (ini K "ReasonError") fd ["self", "reason"] (spSup K (He.ga K "ReasonError") 1 fun ws => [("reason", ws.getD 0 .non)]) ∧ Binds K fd ["self", "reason"] [] ∧ PySem.W.typeIn K (.ref (ini K "ReasonError")) = some (.type "function") := by
  have ev : fnS K (ini K "ReasonError") = inD_ReasonError.val := by
    have z : (inis K)[0]? = (inisV)[0]? := by rw [iv]
    exact Option.some.inj z
  obtain ⟨p0, p1, p2, p3, p4, p5, p6, p7, p8, p9, p10, p11, p12, p13, p14, p15⟩ := exts e
  obtain ⟨S, ⟨fd0, q0, d0⟩, ty⟩ := supF_of (P := PP) (mg := mg) (N := ["self", "reason", "__class__"]) (ps := ["self", "reason"]) (me := "self") ev p4 (NdefX.nscope_by (by decide +kernel)) (by kernel_rfl) ⟨_, rfl, by kernel_rfl⟩ (He.free_ok X G (c.fact 44 (f := .free "super") rfl)) (by decide +kernel) rfl (by kernel_rfl)
  obtain ⟨j, rfl⟩ : ∃ j, lev = j + 1 := ⟨lev - 1, by omega⟩
  obtain ⟨fd, oc, od, osl, lk, hp, F⟩ := ini_one (P := PP) (w := w) (base := base) (CX := L2.CX PP w) (k := j) (r := "reason") S rfl (by rfl) (by kernel_rfl) (by decide +kernel) (by decide +kernel)
  have ef : fdOf K (ini K "ReasonError") = some fd := by unfold fdOf; rw [lk]
  rw [q0] at ef
  cases ef
  refine ⟨fd0, F, .all fun us hl => ?_, ty⟩
  obtain ⟨g1, g2, g3, g4, g5, g6, g7, g8, g9, g10, g11, g12, g13, g14, g15⟩ := fd0
  dsimp only at d0 hp
  subst d0 hp
  match us, hl with
  | [_, _], _ => rfl
theorem ini_CommandError (X : K.In h) (G : h.Ns mainGlobals mg) (c : He.SaysD faL fnL K) (e : extra K = true) (iv : inis K = inisV) {base : Heap} {lev : Nat} (hl : 1 ≤ lev) : ∃ fd, FnOk PP w K mg base (L2.CX PP w) lev (ini K "CommandError") fd ["self", "line"] (spSup K (He.ga K "CommandError") 1 fun ws => [("line", ws.getD 0 .non)]) ∧ Binds K fd ["self", "line"] [] ∧ PySem.W.typeIn K (.ref (ini K "CommandError")) = some (.type "function") := by
  have ev : fnS K (ini K "CommandError") = inD_CommandError.val := by
    have z : (inis K)[1]? = (inisV)[1]? := by rw [iv]
    exact Option.some.inj z
  obtain ⟨p0, p1, p2, p3, p4, p5, p6, p7, p8, p9, p10, p11, p12, p13, p14, p15⟩ := exts e
  obtain ⟨S, ⟨fd0, q0, d0⟩, ty⟩ := supF_of (P := PP) (mg := mg) (N := ["self", "line", "__class__"]) (ps := ["self", "line"]) (me := "self") ev p5 (NdefX.nscope_by (by decide +kernel)) (by kernel_rfl) ⟨_, rfl, by kernel_rfl⟩ (He.free_ok X G (c.fact 44 (f := .free "super") rfl)) (by decide +kernel) rfl (by kernel_rfl)
  obtain ⟨j, rfl⟩ : ∃ j, lev = j + 1 := ⟨lev - 1, by omega⟩
  obtain ⟨fd, oc, od, osl, lk, hp, F⟩ := ini_one (P := PP) (w := w) (base := base) (CX := L2.CX PP w) (k := j) (r := "line") S rfl (by rfl) (by kernel_rfl) (by decide +kernel) (by decide +kernel)
  have ef : fdOf K (ini K "CommandError") = some fd := by unfold fdOf; rw [lk]
  rw [q0] at ef
  cases ef
  refine ⟨fd0, F, .all fun us hl => ?_, ty⟩
  obtain ⟨g1, g2, g3, g4, g5, g6, g7, g8, g9, g10, g11, g12, g13, g14, g15⟩ := fd0
  dsimp only at d0 hp
  subst d0 hp
  match us, hl with
  | [_, _], _ => rfl
theorem ini_LogError (X : K.In h) (G : h.Ns mainGlobals mg) (c : He.SaysD faL fnL K) (e : extra K = true) (iv : inis K = inisV) {base : Heap} {lev : Nat} (hl : 1 ≤ lev) : ∃ fd, FnOk PP w K mg base (L2.CX PP w) lev (ini K "LogError") fd ["self", "number", "reason"] (spSup K (He.ga K "LogError") 2 fun ws => [("reason", ws.getD 1 .non), ("number", ws.getD 0 .non)]) ∧ Binds K fd ["self", "number", "reason"] [] ∧ PySem.W.typeIn K (.ref (ini K "LogError")) = some (.type "function") := by
  have ev : fnS K (ini K "LogError") = inD_LogError.val := by
    have z : (inis K)[2]? = (inisV)[2]? := by rw [iv]
    exact Option.some.inj z
  obtain ⟨p0, p1, p2, p3, p4, p5, p6, p7, p8, p9, p10, p11, p12, p13, p14, p15⟩ := exts e
  obtain ⟨S, ⟨fd0, q0, d0⟩, ty⟩ := supF_of (P := PP) (mg := mg) (N := ["self", "number", "reason", "__class__"]) (ps := ["self", "number", "reason"]) (me := "self") ev p6 (NdefX.nscope_by (by decide +kernel)) (by kernel_rfl) ⟨_, rfl, by kernel_rfl⟩ (He.free_ok X G (c.fact 44 (f := .free "super") rfl)) (by decide +kernel) rfl (by kernel_rfl)
  obtain ⟨j, rfl⟩ : ∃ j, lev = j + 1 := ⟨lev - 1, by omega⟩
  obtain ⟨fd, oc, od, osl, lk, hp, F⟩ := ini_two (P := PP) (w := w) (base := base) (CX := L2.CX PP w) (k := j) (r := "number") (t := "reason") S rfl (by rfl) (by kernel_rfl) (by kernel_rfl) (by decide +kernel) (by decide +kernel) (by decide +kernel) (by decide +kernel)
  have ef : fdOf K (ini K "LogError") = some fd := by unfold fdOf; rw [lk]
  rw [q0] at ef
  cases ef
  refine ⟨fd0, F, .all fun us hl => ?_, ty⟩
  obtain ⟨g1, g2, g3, g4, g5, g6, g7, g8, g9, g10, g11, g12, g13, g14, g15⟩ := fd0
  dsimp only at d0 hp
  subst d0 hp
  match us, hl with
  | [_, _, _], _ => rfl
theorem ini_TextError (X : K.In h) (G : h.Ns mainGlobals mg) (c : He.SaysD faL fnL K) (e : extra K = true) (iv : inis K = inisV) {base : Heap} {lev : Nat} (hl : 1 ≤ lev) : ∃ fd, FnOk PP w K mg base (L2.CX PP w) lev (ini K "TextError") fd ["self", "at"] (spSup K (He.ga K "TextError") 1 fun ws => [("at", ws.getD 0 .non)]) ∧ Binds K fd ["self", "at"] [] ∧ PySem.W.typeIn K (.ref (ini K "TextError")) = some (.type "function") := by
  have ev : fnS K (ini K "TextError") = inD_TextError.val := by
    have z : (inis K)[3]? = (inisV)[3]? := by rw [iv]
    exact Option.some.inj z
  obtain ⟨p0, p1, p2, p3, p4, p5, p6, p7, p8, p9, p10, p11, p12, p13, p14, p15⟩ := exts e
  obtain ⟨S, ⟨fd0, q0, d0⟩, ty⟩ := supF_of (P := PP) (mg := mg) (N := ["self", "at", "__class__"]) (ps := ["self", "at"]) (me := "self") ev p7 (NdefX.nscope_by (by decide +kernel)) (by kernel_rfl) ⟨_, rfl, by kernel_rfl⟩ (He.free_ok X G (c.fact 44 (f := .free "super") rfl)) (by decide +kernel) rfl (by kernel_rfl)
  obtain ⟨j, rfl⟩ : ∃ j, lev = j + 1 := ⟨lev - 1, by omega⟩
  obtain ⟨fd, oc, od, osl, lk, hp, F⟩ := ini_one (P := PP) (w := w) (base := base) (CX := L2.CX PP w) (k := j) (r := "at") S rfl (by rfl) (by kernel_rfl) (by decide +kernel) (by decide +kernel)
  have ef : fdOf K (ini K "TextError") = some fd := by unfold fdOf; rw [lk]
  rw [q0] at ef
  cases ef
  refine ⟨fd0, F, .all fun us hl => ?_, ty⟩
  obtain ⟨g1, g2, g3, g4, g5, g6, g7, g8, g9, g10, g11, g12, g13, g14, g15⟩ := fd0
  dsimp only at d0 hp
  subst d0 hp
  match us, hl with
  | [_, _], _ => rfl
theorem md_of (X : K.In h) (G : h.Ns mainGlobals mg) (c : He.SaysD faL fnL K) (e : extra K = true) (iv : inis K = inisV) (base : Heap) : Md PP w K mg base := by
  have eb := exts e
  obtain ⟨p0, p1, p2, p3, p4, p5, p6, p7, p8, p9, p10, p11, p12, p13, p14, p15⟩ := eb
  have ex : ∀ k, known k = true → OexC K (ca K k) ∧ XfC K (ca K k) ∧ XiC K (ca K k) := fun k hk => by
    unfold exB at p0
    have z := List.all_eq_true.mp p0 k (by simp [known] at hk; simp; omega)
    simp only [Bool.and_eq_true] at z
    exact ⟨oexB_ok z.1, xfB_ok z.2.1, xiB_ok z.2.2⟩
  refine {
    g__law_draws := He.glo_ok X G (c.fact 0 (f := .glo "_law_draws") rfl)
    g__law_more := He.glo_ok X G (c.fact 1 (f := .glo "_law_more") rfl)
    g__law_take := He.glo_ok X G (c.fact 2 (f := .glo "_law_take") rfl)
    g__law_one := He.glo_ok X G (c.fact 3 (f := .glo "_law_one") rfl)
    g__law_limits_right := He.glo_ok X G (c.fact 4 (f := .glo "_law_limits_right") rfl)
    g__law_raise := He.glo_ok X G (c.fact 5 (f := .glo "_law_raise") rfl)
    g__law_kinds := He.glo_ok X G (c.fact 6 (f := .glo "_law_kinds") rfl)
    g__law_caught := He.glo_ok X G (c.fact 7 (f := .glo "_law_caught") rfl)
    g__law_fields := He.glo_ok X G (c.fact 8 (f := .glo "_law_fields") rfl)
    g_law := He.glo_ok X G (c.fact 9 (f := .glo "law") rfl)
    k_VolumeError := He.glo_ok X G (c.fact 10 (f := .glo "VolumeError") rfl)
    k_ReasonError := He.glo_ok X G (c.fact 11 (f := .glo "ReasonError") rfl)
    k_ArgumentError := He.glo_ok X G (c.fact 12 (f := .glo "ArgumentError") rfl)
    k_CheckError := He.glo_ok X G (c.fact 13 (f := .glo "CheckError") rfl)
    k_PaperError := He.glo_ok X G (c.fact 14 (f := .glo "PaperError") rfl)
    k_TooMany := He.glo_ok X G (c.fact 15 (f := .glo "TooMany") rfl)
    k_TextError := He.glo_ok X G (c.fact 16 (f := .glo "TextError") rfl)
    k_LogError := He.glo_ok X G (c.fact 17 (f := .glo "LogError") rfl)
    k_CommandError := He.glo_ok X G (c.fact 18 (f := .glo "CommandError") rfl)
    c_MAX_BLOCKS := He.int_ok X G (c.fact 19 (f := .int "MAX_BLOCKS" 160) rfl)
    c_MAX_DATA := He.int_ok X G (c.fact 20 (f := .int "MAX_DATA" 64) rfl)
    c_MAX_DEEDS := He.int_ok X G (c.fact 21 (f := .int "MAX_DEEDS" 200) rfl)
    c_MAX_DEPTH := He.int_ok X G (c.fact 22 (f := .int "MAX_DEPTH" 6) rfl)
    c_MAX_DISKS := He.int_ok X G (c.fact 23 (f := .int "MAX_DISKS" 6) rfl)
    c_MAX_ENTRIES := He.int_ok X G (c.fact 24 (f := .int "MAX_ENTRIES" 64) rfl)
    c_MAX_HANDLES := He.int_ok X G (c.fact 25 (f := .int "MAX_HANDLES" 8) rfl)
    c_MAX_INODES := He.int_ok X G (c.fact 26 (f := .int "MAX_INODES" 24) rfl)
    c_MAX_JOURNAL := He.int_ok X G (c.fact 27 (f := .int "MAX_JOURNAL" 60) rfl)
    c_MAX_LINES := He.int_ok X G (c.fact 28 (f := .int "MAX_LINES" 200) rfl)
    c_MAX_LINKS := He.int_ok X G (c.fact 29 (f := .int "MAX_LINKS" 60) rfl)
    c_MAX_NAME := He.int_ok X G (c.fact 30 (f := .int "MAX_NAME" 6) rfl)
    c_MAX_OWNER := He.int_ok X G (c.fact 31 (f := .int "MAX_OWNER" 7) rfl)
    c_MAX_SIZE := He.int_ok X G (c.fact 32 (f := .int "MAX_SIZE" 1280) rfl)
    c_MAX_SNAPS := He.int_ok X G (c.fact 33 (f := .int "MAX_SNAPS" 3) rfl)
    c_MAX_TARGETS := He.int_ok X G (c.fact 34 (f := .int "MAX_TARGETS" 20) rfl)
    c_MAX_TEXT := He.int_ok X G (c.fact 35 (f := .int "MAX_TEXT" 20000) rfl)
    c_MAX_TRIED := He.int_ok X G (c.fact 36 (f := .int "MAX_TRIED" 400) rfl)
    b_ValueError := He.free_ok X G (c.fact 37 (f := .free "ValueError") rfl)
    b_abs := He.free_ok X G (c.fact 38 (f := .free "abs") rfl)
    b_int := He.free_ok X G (c.fact 39 (f := .free "int") rfl)
    b_isinstance := He.free_ok X G (c.fact 40 (f := .free "isinstance") rfl)
    b_len := He.free_ok X G (c.fact 41 (f := .free "len") rfl)
    b_range := He.free_ok X G (c.fact 42 (f := .free "range") rfl)
    b_repr := He.free_ok X G (c.fact 43 (f := .free "repr") rfl)
    x_ArgumentError := fun lev hl => by
      have z := p8
      simp only [Bool.and_eq_true, decide_eq_true_eq] at z
      obtain ⟨fd, F, B, ty⟩ := ini_ReasonError (w := w) (base := base) (lev := lev) X G c e iv (by omega)
      refine ⟨(ex 2 rfl).1, ini K "ReasonError", He.ga K "ReasonError", fd, ["self", "reason"], _, z.2, ty, F, B, supCB_ok z.1, fun ws hw p hp => ?_, fun ws hw i f hi => ?_⟩
      · have e1 : p.1 = "reason" := by rw [List.mem_singleton.mp hp]
        rw [e1]
        have z2 := List.all_eq_true.mp (List.all_eq_true.mp p3 "reason" (by decide +kernel)) 2 (by decide)
        exact of_decide_eq_true z2
      · match ws, hw, i, hi with
        | [w0], _, 0, hi =>
          have e1 : f = "reason" := (Option.some.inj hi).symm
          subst e1
          rfl
        | [w0], _, i + 1, hi => cases hi
    x_CheckError := fun lev hl => by
      have z := p9
      simp only [Bool.and_eq_true, decide_eq_true_eq] at z
      obtain ⟨fd, F, B, ty⟩ := ini_ReasonError (w := w) (base := base) (lev := lev) X G c e iv (by omega)
      refine ⟨(ex 3 rfl).1, ini K "ReasonError", He.ga K "ReasonError", fd, ["self", "reason"], _, z.2, ty, F, B, supCB_ok z.1, fun ws hw p hp => ?_, fun ws hw i f hi => ?_⟩
      · have e1 : p.1 = "reason" := by rw [List.mem_singleton.mp hp]
        rw [e1]
        have z2 := List.all_eq_true.mp (List.all_eq_true.mp p3 "reason" (by decide +kernel)) 3 (by decide)
        exact of_decide_eq_true z2
      · match ws, hw, i, hi with
        | [w0], _, 0, hi =>
          have e1 : f = "reason" := (Option.some.inj hi).symm
          subst e1
          rfl
        | [w0], _, i + 1, hi => cases hi
    x_CommandError := fun lev hl => by
      have z := p10
      simp only [Bool.and_eq_true, decide_eq_true_eq] at z
      obtain ⟨fd, F, B, ty⟩ := ini_CommandError (w := w) (base := base) (lev := lev) X G c e iv (by omega)
      refine ⟨(ex 8 rfl).1, ini K "CommandError", He.ga K "CommandError", fd, ["self", "line"], _, z.2, ty, F, B, supCB_ok z.1, fun ws hw p hp => ?_, fun ws hw i f hi => ?_⟩
      · have e1 : p.1 = "line" := by rw [List.mem_singleton.mp hp]
        rw [e1]
        have z2 := List.all_eq_true.mp (List.all_eq_true.mp p3 "line" (by decide +kernel)) 8 (by decide)
        exact of_decide_eq_true z2
      · match ws, hw, i, hi with
        | [w0], _, 0, hi =>
          have e1 : f = "line" := (Option.some.inj hi).symm
          subst e1
          rfl
        | [w0], _, i + 1, hi => cases hi
    x_LogError := fun lev hl => by
      have z := p11
      simp only [Bool.and_eq_true, decide_eq_true_eq] at z
      obtain ⟨fd, F, B, ty⟩ := ini_LogError (w := w) (base := base) (lev := lev) X G c e iv (by omega)
      refine ⟨(ex 7 rfl).1, ini K "LogError", He.ga K "LogError", fd, ["self", "number", "reason"], _, z.2, ty, F, B, supCB_ok z.1, fun ws hw p hp => ?_, fun ws hw i f hi => ?_⟩
      · have e1 : p.1 = "reason" ∨ p.1 = "number" := by
          rcases List.mem_cons.mp hp with rfl | hp
          · exact .inl rfl
          · rw [List.mem_singleton.mp hp]; exact .inr rfl
        rcases e1 with e1 | e1 <;> rw [e1]
        · have z2 := List.all_eq_true.mp (List.all_eq_true.mp p3 "reason" (by decide +kernel)) 7 (by decide)
          exact of_decide_eq_true z2
        · have z2 := List.all_eq_true.mp (List.all_eq_true.mp p3 "number" (by decide +kernel)) 7 (by decide)
          exact of_decide_eq_true z2
      · match ws, hw, i, hi with
        | [w0, w1], _, 0, hi =>
          have e1 : f = "number" := (Option.some.inj hi).symm
          subst e1
          rfl
        | [w0, w1], _, 1, hi =>
          have e1 : f = "reason" := (Option.some.inj hi).symm
          subst e1
          rfl
        | [w0, w1], _, i + 2, hi => cases hi
    x_PaperError := fun lev hl => by
      have z := p12
      simp only [Bool.and_eq_true, decide_eq_true_eq] at z
      obtain ⟨fd, F, B, ty⟩ := ini_ReasonError (w := w) (base := base) (lev := lev) X G c e iv (by omega)
      refine ⟨(ex 4 rfl).1, ini K "ReasonError", He.ga K "ReasonError", fd, ["self", "reason"], _, z.2, ty, F, B, supCB_ok z.1, fun ws hw p hp => ?_, fun ws hw i f hi => ?_⟩
      · have e1 : p.1 = "reason" := by rw [List.mem_singleton.mp hp]
        rw [e1]
        have z2 := List.all_eq_true.mp (List.all_eq_true.mp p3 "reason" (by decide +kernel)) 4 (by decide)
        exact of_decide_eq_true z2
      · match ws, hw, i, hi with
        | [w0], _, 0, hi =>
          have e1 : f = "reason" := (Option.some.inj hi).symm
          subst e1
          rfl
        | [w0], _, i + 1, hi => cases hi
    x_TextError := fun lev hl => by
      have z := p13
      simp only [Bool.and_eq_true, decide_eq_true_eq] at z
      obtain ⟨fd, F, B, ty⟩ := ini_TextError (w := w) (base := base) (lev := lev) X G c e iv (by omega)
      refine ⟨(ex 6 rfl).1, ini K "TextError", He.ga K "TextError", fd, ["self", "at"], _, z.2, ty, F, B, supCB_ok z.1, fun ws hw p hp => ?_, fun ws hw i f hi => ?_⟩
      · have e1 : p.1 = "at" := by rw [List.mem_singleton.mp hp]
        rw [e1]
        have z2 := List.all_eq_true.mp (List.all_eq_true.mp p3 "at" (by decide +kernel)) 6 (by decide)
        exact of_decide_eq_true z2
      · match ws, hw, i, hi with
        | [w0], _, 0, hi =>
          have e1 : f = "at" := (Option.some.inj hi).symm
          subst e1
          rfl
        | [w0], _, i + 1, hi => cases hi
    x_TooMany := fun lev hl => by
      have z := p14
      simp only [Bool.and_eq_true, decide_eq_true_eq] at z
      obtain ⟨fd, F, B, ty⟩ := ini_ReasonError (w := w) (base := base) (lev := lev) X G c e iv (by omega)
      refine ⟨(ex 5 rfl).1, ini K "ReasonError", He.ga K "ReasonError", fd, ["self", "reason"], _, z.2, ty, F, B, supCB_ok z.1, fun ws hw p hp => ?_, fun ws hw i f hi => ?_⟩
      · have e1 : p.1 = "reason" := by rw [List.mem_singleton.mp hp]
        rw [e1]
        have z2 := List.all_eq_true.mp (List.all_eq_true.mp p3 "reason" (by decide +kernel)) 5 (by decide)
        exact of_decide_eq_true z2
      · match ws, hw, i, hi with
        | [w0], _, 0, hi =>
          have e1 : f = "reason" := (Option.some.inj hi).symm
          subst e1
          rfl
        | [w0], _, i + 1, hi => cases hi
    exM := fun j hj k hk => by
      have z := List.all_eq_true.mp (List.all_eq_true.mp p1 j (by simp [known] at hj; simp; omega)) k (by simp [known] at hk; simp; omega)
      exact of_decide_eq_true z
    exF_at := fun k hk => ⟨(ex k hk).2.1, of_decide_eq_true (List.all_eq_true.mp (List.all_eq_true.mp p3 "at" (by decide +kernel)) k (by simp [known] at hk; simp; omega))⟩
    exF_line := fun k hk => ⟨(ex k hk).2.1, of_decide_eq_true (List.all_eq_true.mp (List.all_eq_true.mp p3 "line" (by decide +kernel)) k (by simp [known] at hk; simp; omega))⟩
    exF_number := fun k hk => ⟨(ex k hk).2.1, of_decide_eq_true (List.all_eq_true.mp (List.all_eq_true.mp p3 "number" (by decide +kernel)) k (by simp [known] at hk; simp; omega))⟩
    exF_reason := fun k hk => ⟨(ex k hk).2.1, of_decide_eq_true (List.all_eq_true.mp (List.all_eq_true.mp p3 "reason" (by decide +kernel)) k (by simp [known] at hk; simp; omega))⟩
    exI_2 := fun k hk => ⟨(ex k hk).2.2, of_decide_eq_true (List.all_eq_true.mp (List.all_eq_true.mp p2 2 (by decide)) k (by simp [known] at hk; simp; omega))⟩
    exI_3 := fun k hk => ⟨(ex k hk).2.2, of_decide_eq_true (List.all_eq_true.mp (List.all_eq_true.mp p2 3 (by decide)) k (by simp [known] at hk; simp; omega))⟩
    exI_4 := fun k hk => ⟨(ex k hk).2.2, of_decide_eq_true (List.all_eq_true.mp (List.all_eq_true.mp p2 4 (by decide)) k (by simp [known] at hk; simp; omega))⟩
    exI_5 := fun k hk => ⟨(ex k hk).2.2, of_decide_eq_true (List.all_eq_true.mp (List.all_eq_true.mp p2 5 (by decide)) k (by simp [known] at hk; simp; omega))⟩
    exI_6 := fun k hk => ⟨(ex k hk).2.2, of_decide_eq_true (List.all_eq_true.mp (List.all_eq_true.mp p2 6 (by decide)) k (by simp [known] at hk; simp; omega))⟩
    exI_7 := fun k hk => ⟨(ex k hk).2.2, of_decide_eq_true (List.all_eq_true.mp (List.all_eq_true.mp p2 7 (by decide)) k (by simp [known] at hk; simp; omega))⟩
    exI_8 := fun k hk => ⟨(ex k hk).2.2, of_decide_eq_true (List.all_eq_true.mp (List.all_eq_true.mp p2 8 (by decide)) k (by simp [known] at hk; simp; omega))⟩
    exV_ValueError := fun k hk => ⟨(ex k hk).2.2, of_decide_eq_true (List.all_eq_true.mp p15 k (by simp [known] at hk; simp; omega))⟩
  }
theorem gdef_4 (X : K.In h) (G : h.Ns mainGlobals mg) (c : He.SaysD faL fnL K) (e : extra K = true) (iv : inis K = inisV) (base : Heap) (c' : Calls) {lev : Nat} (hl : 1 ≤ lev) : GDef PP w K mg base (ZK K) lev 4 N_4.length (ev_4 c') := by
  obtain ⟨fd, F⟩ := c.def_ 4 (d := dd_4) rfl
  obtain ⟨j, rfl⟩ : ∃ j, lev = j + 1 := ⟨lev - 1, by omega⟩
  exact ⟨⟨fd, fn_bodyG (c' := fun _ ds h => runS N_4.length (ev_4 c') ds h) (c := c') (n := 4) (ps := []) F (⟨by kernel_rfl, by kernel_rfl, by kernel_rfl, by decide +kernel, by kernel_rfl, by decide +kernel, by decide +kernel⟩ : FnScope N_4 [] (defScope (top 33))) (fun ds h _ => rfl) fun cdv A outer s H E s0 hg hr => ok_4 (md_of X G c e iv base) cdv A outer s H E s0 hg hr, F.bindsN fun _ _ _ _ _ _ us hl => match us, hl with | [], _ => rfl⟩, F.kp⟩
theorem edef_6 (X : K.In h) (G : h.Ns mainGlobals mg) (c : He.SaysD faL fnL K) (e : extra K = true) (iv : inis K = inisV) (base : Heap) (c' : Calls) {lev : Nat} (hl : 1 ≤ lev) : EDef PP w K mg base (ZK K) lev 6 N_6.length (ev_6 c') := by
  obtain ⟨fd, F⟩ := c.def_ 6 (d := dd_6) rfl
  obtain ⟨j, rfl⟩ : ∃ j, lev = j + 1 := ⟨lev - 1, by omega⟩
  exact ⟨⟨fd, ["e"], fn_bodyE rfl F (⟨by kernel_rfl, by kernel_rfl, by kernel_rfl, by decide +kernel, by kernel_rfl, by decide +kernel, by decide +kernel⟩ : FnScope N_6 A_6 (defScope (top 35))) (by decide) fun cdv A outer s H s0 a oe cls d hz hf hr => ok_6 (md_of X G c e iv base) cdv A outer s H s0 a oe cls d hz hf hr, F.bindsN fun _ _ _ _ _ _ us hl => match us, hl with | [_], _ => rfl⟩, F.kp⟩
theorem tx_0 (X : K.In h) (G : h.Ns mainGlobals mg) (c : He.SaysD faL fnL K) (e : extra K = true) (iv : inis K = inisV) (base : Heap) : TextOk PP w K mg base (ZK K) pg 0 := by
  obtain ⟨fd, F⟩ := c.def_ 0 (d := dd_0) rfl
  refine ⟨fun N ar ev ee => ?_, fun q _ => F.kp⟩
  obtain ⟨rfl, rfl, rfl⟩ : N = N_0.length ∧ ar = A_0.length ∧ ev = ev_0 := by
    have z : some (N_0.length, A_0.length, ev_0) = some (N, ar, ev) := ee
    simp only [Option.some.injEq, Prod.mk.injEq] at z
    exact ⟨z.1.symm, z.2.1.symm, z.2.2.symm⟩
  exact ⟨"_law_draws", "_law_draws", _, _, _, fd, N_0, A_0, F, ⟨by kernel_rfl, by kernel_rfl, by kernel_rfl, by decide +kernel, by kernel_rfl, by decide +kernel, by decide +kernel⟩, rfl, rfl, F.bindsN fun _ _ _ _ _ _ us hl => match us, hl with | [_], _ => rfl, fun c' lev hl HC cdv A outer s H E s0 hr => ok_0 (md_of X G c e iv base) hl HC cdv A outer s H E s0 hr⟩
theorem tx_1 (X : K.In h) (G : h.Ns mainGlobals mg) (c : He.SaysD faL fnL K) (e : extra K = true) (iv : inis K = inisV) (base : Heap) : TextOk PP w K mg base (ZK K) pg 1 := by
  obtain ⟨fd, F⟩ := c.def_ 1 (d := dd_1) rfl
  refine ⟨fun N ar ev ee => ?_, fun q _ => F.kp⟩
  obtain ⟨rfl, rfl, rfl⟩ : N = N_1.length ∧ ar = A_1.length ∧ ev = ev_1 := by
    have z : some (N_1.length, A_1.length, ev_1) = some (N, ar, ev) := ee
    simp only [Option.some.injEq, Prod.mk.injEq] at z
    exact ⟨z.1.symm, z.2.1.symm, z.2.2.symm⟩
  exact ⟨"_law_more", "_law_more", _, _, _, fd, N_1, A_1, F, ⟨by kernel_rfl, by kernel_rfl, by kernel_rfl, by decide +kernel, by kernel_rfl, by decide +kernel, by decide +kernel⟩, rfl, rfl, F.bindsN fun _ _ _ _ _ _ us hl => match us, hl with | [_, _], _ => rfl, fun c' lev hl HC cdv A outer s H E s0 hr => ok_1 (md_of X G c e iv base) hl HC cdv A outer s H E s0 hr⟩
theorem tx_2 (X : K.In h) (G : h.Ns mainGlobals mg) (c : He.SaysD faL fnL K) (e : extra K = true) (iv : inis K = inisV) (base : Heap) : TextOk PP w K mg base (ZK K) pg 2 := by
  obtain ⟨fd, F⟩ := c.def_ 2 (d := dd_2) rfl
  refine ⟨fun N ar ev ee => ?_, fun q _ => F.kp⟩
  obtain ⟨rfl, rfl, rfl⟩ : N = N_2.length ∧ ar = A_2.length ∧ ev = ev_2 := by
    have z : some (N_2.length, A_2.length, ev_2) = some (N, ar, ev) := ee
    simp only [Option.some.injEq, Prod.mk.injEq] at z
    exact ⟨z.1.symm, z.2.1.symm, z.2.2.symm⟩
  exact ⟨"_law_take", "_law_take", _, _, _, fd, N_2, A_2, F, ⟨by kernel_rfl, by kernel_rfl, by kernel_rfl, by decide +kernel, by kernel_rfl, by decide +kernel, by decide +kernel⟩, rfl, rfl, F.bindsN fun _ _ _ _ _ _ us hl => match us, hl with | [_, _, _], _ => rfl, fun c' lev hl HC cdv A outer s H E s0 hr => ok_2 (md_of X G c e iv base) hl HC cdv A outer s H E s0 hr⟩
theorem tx_3 (X : K.In h) (G : h.Ns mainGlobals mg) (c : He.SaysD faL fnL K) (e : extra K = true) (iv : inis K = inisV) (base : Heap) : TextOk PP w K mg base (ZK K) pg 3 := by
  obtain ⟨fd, F⟩ := c.def_ 3 (d := dd_3) rfl
  refine ⟨fun N ar ev ee => ?_, fun q _ => F.kp⟩
  obtain ⟨rfl, rfl, rfl⟩ : N = N_3.length ∧ ar = A_3.length ∧ ev = ev_3 := by
    have z : some (N_3.length, A_3.length, ev_3) = some (N, ar, ev) := ee
    simp only [Option.some.injEq, Prod.mk.injEq] at z
    exact ⟨z.1.symm, z.2.1.symm, z.2.2.symm⟩
  exact ⟨"_law_one", "_law_one", _, _, _, fd, N_3, A_3, F, ⟨by kernel_rfl, by kernel_rfl, by kernel_rfl, by decide +kernel, by kernel_rfl, by decide +kernel, by decide +kernel⟩, rfl, rfl, F.bindsN fun _ _ _ _ _ _ us hl => match us, hl with | [_, _, _], _ => rfl, fun c' lev hl HC cdv A outer s H E s0 hr => ok_3 (md_of X G c e iv base) hl HC cdv A outer s H E s0 hr⟩
theorem tx_4 (X : K.In h) (G : h.Ns mainGlobals mg) (c : He.SaysD faL fnL K) (e : extra K = true) (iv : inis K = inisV) (base : Heap) : TextOk PP w K mg base (ZK K) pg 4 := ⟨fun _ _ _ z => (by cases z), fun _ z => (by cases z)⟩
theorem tx_5 (X : K.In h) (G : h.Ns mainGlobals mg) (c : He.SaysD faL fnL K) (e : extra K = true) (iv : inis K = inisV) (base : Heap) : TextOk PP w K mg base (ZK K) pg 5 := by
  obtain ⟨fd, F⟩ := c.def_ 5 (d := dd_5) rfl
  refine ⟨fun N ar ev ee => ?_, fun q _ => F.kp⟩
  obtain ⟨rfl, rfl, rfl⟩ : N = N_5.length ∧ ar = A_5.length ∧ ev = ev_5 := by
    have z : some (N_5.length, A_5.length, ev_5) = some (N, ar, ev) := ee
    simp only [Option.some.injEq, Prod.mk.injEq] at z
    exact ⟨z.1.symm, z.2.1.symm, z.2.2.symm⟩
  exact ⟨"_law_raise", "_law_raise", _, _, _, fd, N_5, A_5, F, ⟨by kernel_rfl, by kernel_rfl, by kernel_rfl, by decide +kernel, by kernel_rfl, by decide +kernel, by decide +kernel⟩, rfl, rfl, F.bindsN fun _ _ _ _ _ _ us hl => match us, hl with | [_, _, _], _ => rfl, fun c' lev hl HC cdv A outer s H E s0 hr => ok_5 (md_of X G c e iv base) hl HC cdv A outer s H E s0 hr⟩
theorem tx_6 (X : K.In h) (G : h.Ns mainGlobals mg) (c : He.SaysD faL fnL K) (e : extra K = true) (iv : inis K = inisV) (base : Heap) : TextOk PP w K mg base (ZK K) pg 6 := ⟨fun _ _ _ z => (by cases z), fun _ z => (by cases z)⟩
theorem tx_7 (X : K.In h) (G : h.Ns mainGlobals mg) (c : He.SaysD faL fnL K) (e : extra K = true) (iv : inis K = inisV) (base : Heap) : TextOk PP w K mg base (ZK K) pg 7 := by
  obtain ⟨fd, F⟩ := c.def_ 7 (d := dd_7) rfl
  refine ⟨fun N ar ev ee => ?_, fun q _ => F.kp⟩
  obtain ⟨rfl, rfl, rfl⟩ : N = N_7.length ∧ ar = A_7.length ∧ ev = ev_7 := by
    have z : some (N_7.length, A_7.length, ev_7) = some (N, ar, ev) := ee
    simp only [Option.some.injEq, Prod.mk.injEq] at z
    exact ⟨z.1.symm, z.2.1.symm, z.2.2.symm⟩
  exact ⟨"_law_caught", "_law_caught", _, _, _, fd, N_7, A_7, F, ⟨by kernel_rfl, by kernel_rfl, by kernel_rfl, by decide +kernel, by kernel_rfl, by decide +kernel, by decide +kernel⟩, rfl, rfl, F.bindsN fun _ _ _ _ _ _ us hl => match us, hl with | [_, _, _], _ => rfl, fun c' lev hl HC cdv A outer s H E s0 hr => ok_7 (md_of X G c e iv base) hl HC (edef_6 X G c e iv base c' (by omega)) cdv A outer s H E s0 hr⟩
theorem tx_8 (X : K.In h) (G : h.Ns mainGlobals mg) (c : He.SaysD faL fnL K) (e : extra K = true) (iv : inis K = inisV) (base : Heap) : TextOk PP w K mg base (ZK K) pg 8 := by
  obtain ⟨fd, F⟩ := c.def_ 8 (d := dd_8) rfl
  refine ⟨fun N ar ev ee => ?_, fun q _ => F.kp⟩
  obtain ⟨rfl, rfl, rfl⟩ : N = N_8.length ∧ ar = A_8.length ∧ ev = ev_8 := by
    have z : some (N_8.length, A_8.length, ev_8) = some (N, ar, ev) := ee
    simp only [Option.some.injEq, Prod.mk.injEq] at z
    exact ⟨z.1.symm, z.2.1.symm, z.2.2.symm⟩
  exact ⟨"_law_fields", "_law_fields", _, _, _, fd, N_8, A_8, F, ⟨by kernel_rfl, by kernel_rfl, by kernel_rfl, by decide +kernel, by kernel_rfl, by decide +kernel, by decide +kernel⟩, rfl, rfl, F.bindsN fun _ _ _ _ _ _ us hl => match us, hl with | [_, _, _], _ => rfl, fun c' lev hl HC cdv A outer s H E s0 hr => ok_8 (md_of X G c e iv base) hl HC cdv A outer s H E s0 hr⟩
theorem tx_9 (X : K.In h) (G : h.Ns mainGlobals mg) (c : He.SaysD faL fnL K) (e : extra K = true) (iv : inis K = inisV) (base : Heap) : TextOk PP w K mg base (ZK K) pg 9 := ⟨fun _ _ _ z => (by cases z), fun _ z => (by cases z)⟩
theorem tx_all (X : K.In h) (G : h.Ns mainGlobals mg) (c : He.SaysD faL fnL K) (e : extra K = true) (iv : inis K = inisV) (base : Heap) : ∀ n, TextOk PP w K mg base (ZK K) pg n
  | 0 => tx_0 X G c e iv base
  | 1 => tx_1 X G c e iv base
  | 2 => tx_2 X G c e iv base
  | 3 => tx_3 X G c e iv base
  | 4 => tx_4 X G c e iv base
  | 5 => tx_5 X G c e iv base
  | 6 => tx_6 X G c e iv base
  | 7 => tx_7 X G c e iv base
  | 8 => tx_8 X G c e iv base
  | 9 => tx_9 X G c e iv base
  | n + 10 => ⟨fun _ _ _ z => (by cases z), fun _ z => (by cases z)⟩
end
end Bh
namespace Bh
open PySem PySem.Spec PyProof.Rows L2
theorem cf0 (k : Nat) (ds : List D) (h : LH) : Cf pg (k + 1) 0 ds h = runS 6 (ev_0 (Cf pg k)) ds h := rfl
theorem cf1 (k : Nat) (ds : List D) (h : LH) : Cf pg (k + 1) 1 ds h = runS 4 (ev_1 (Cf pg k)) ds h := rfl
theorem cf2 (k : Nat) (ds : List D) (h : LH) : Cf pg (k + 1) 2 ds h = runS 4 (ev_2 (Cf pg k)) ds h := rfl
theorem cf3 (k : Nat) (ds : List D) (h : LH) : Cf pg (k + 1) 3 ds h = runS 3 (ev_3 (Cf pg k)) ds h := rfl
theorem cf5 (k : Nat) (ds : List D) (h : LH) : Cf pg (k + 1) 5 ds h = runS 3 (ev_5 (Cf pg k)) ds h := rfl
theorem cf7 (k : Nat) (ds : List D) (h : LH) : Cf pg (k + 1) 7 ds h = runS 4 (ev_7 (Cf pg k)) ds h := rfl
theorem cf8 (k : Nat) (ds : List D) (h : LH) : Cf pg (k + 1) 8 ds h = runS 4 (ev_8 (Cf pg k)) ds h := rfl
def okD : D → Bool
  | .ref _ => false
  | .fn _ => false
  | _ => true
def isI : D → Bool
  | .int _ => true
  | _ => false
def rngD (d : D) (a b : Int) : Bool := match d with
  | .int v => decide (a ≤ v) && decide (v ≤ b)
  | _ => false
theorem rngD_int {d : D} {a b : Int} (h : rngD d a b = true) : ∃ v, d = .int v ∧ a ≤ v ∧ v ≤ b := by
  cases d <;> simp [rngD] at h
  exact ⟨_, rfl, h⟩
theorem atI_0 {α : Type} {x : α} {r : List α} : L2.atI (x :: r) 0 = some x := by simp [L2.atI, ixN]
theorem atI_nat {α : Type} {xs : List α} {i : Nat} (h : i < xs.length) : L2.atI xs (i : Int) = xs[i]? := by
  simp [L2.atI, ixN, h]
theorem mulOk_r {a : Int} {b : Int} (h1 : -1000000 < b) (h2 : b < 1000000) : mulOk a b = true := by
  unfold mulOk
  rw [Bool.or_eq_true]
  exact .inr (Nat.ble_eq_true_of_le (by omega))
theorem mulOk_l {a : Int} {b : Int} (h1 : -1000000 < a) (h2 : a < 1000000) : mulOk a b = true := by
  unfold mulOk
  rw [Bool.or_eq_true]
  exact .inl (Nat.ble_eq_true_of_le (by omega))
theorem pair_deq {h : LH} {a b c d : Int} : deq h (.tup [.int a, .int b]) (.tup [.int c, .int d]) = some (decide (a = c ∧ b = d)) := by
  rw [deq_pl (by simp [pl, pls]) (by simp [pl, pls])]
  simp
theorem int_deq {h : LH} {a b : Int} : deq h (.int a) (.int b) = some (decide (a = b)) := by
  rw [deq_pl rfl rfl]
  simp
theorem ints_deq {h : LH} (xs ys : List Int) : deq h (.tup (xs.map .int)) (.tup (ys.map .int)) = some (decide (xs = ys)) := by
  rw [deq_pl (by simp [pl, pls_int]) (by simp [pl, pls_int])]
  simp only [Option.some.injEq, D.tup.injEq]
  by_cases e : xs = ys
  · simp [e]
  · simp only [e, decide_false]
    rw [decide_eq_false_iff_not]
    intro z
    exact e ((List.map_inj_right (fun a b q => by cases q; rfl)).mp z)
def byt (bs : List Int) : Prop := ∀ x ∈ bs, 0 ≤ x ∧ x ≤ 255
theorem raise_ok {k : Nat} {er : DEs} {xs : List D} {c : Calls} {σ : DSt} {h h' : LH} (e : er c σ h = .ok xs h') : bRaise k er c σ h = .ex k xs σ h' := by unfold bRaise; rw [e]; rfl
theorem ex_ok {e : DE} {c : Calls} {σ : DSt} {h h' : LH} {d : D} (he : e c σ h = .ok d h') : bEx e c σ h = .nx σ h' := by unfold bEx; rw [he]; rfl
theorem ex_ex {e : DE} {c : Calls} {σ : DSt} {h h' : LH} {k : Nat} {fs : List D} (he : e c σ h = .ex k fs h') : bEx e c σ h = .ex k fs σ h' := by unfold bEx; rw [he]; rfl
theorem ret_ex {e : DE} {c : Calls} {σ : DSt} {h h' : LH} {k : Nat} {fs : List D} (he : e c σ h = .ex k fs h') : bRet e c σ h = .ex k fs σ h' := by unfold bRet; rw [he]; rfl
theorem lcE_ok {vs : List Nat} {t : Tg} {src : DI} {q : DT} {e : DE} {c : Calls} {σ : DSt} {h h1 : LH} {xs : List D} {g : List (Nat × LO)} {o : Out (List D)} (hs : src c σ h = .ok (xs, g) h1) (hl : lcL g t (q c) (e c) (wipeS σ vs) xs [] h1 = o) : bLc vs t src q e c σ h = o := by
  unfold bLc; rw [hs]; exact hl
section
variable {ea : DE} {c : Calls} {σ : DSt} {h h1 : LH}
theorem isT_t {xs : List D} (e : ea c σ h = .ok (.tup xs) h1) : bTru (bB1 (fun _ d => isD .tuple d) ea) c σ h = .ok true h1 := tru_ok (b1_ok (x := .tup xs) (r := .bl true) e rfl) rfl
theorem isT_i {i : Int} (e : ea c σ h = .ok (.int i) h1) : bTru (bB1 (fun _ d => isD .tuple d) ea) c σ h = .ok false h1 := tru_ok (b1_ok (x := .int i) (r := .bl false) e rfl) rfl
theorem isT_l {xs : List D} (e : ea c σ h = .ok (.lst xs) h1) : bTru (bB1 (fun _ d => isD .tuple d) ea) c σ h = .ok false h1 := tru_ok (b1_ok (x := .lst xs) (r := .bl false) e rfl) rfl
theorem isT_n (e : ea c σ h = .ok .non h1) : bTru (bB1 (fun _ d => isD .tuple d) ea) c σ h = .ok false h1 := tru_ok (b1_ok (x := .non) (r := .bl false) e rfl) rfl
theorem isT_s {x : PySem.Str} (e : ea c σ h = .ok (.str x) h1) : bTru (bB1 (fun _ d => isD .tuple d) ea) c σ h = .ok false h1 := tru_ok (b1_ok (x := .str x) (r := .bl false) e rfl) rfl
theorem len_t {xs : List D} (e : ea c σ h = .ok (.tup xs) h1) : bB1 (fun h d => (lenV h d).map .int) ea c σ h = .ok (.int (xs.length : Nat)) h1 := b1_ok (x := .tup xs) e rfl
theorem len_l {xs : List D} (e : ea c σ h = .ok (.lst xs) h1) : bB1 (fun h d => (lenV h d).map .int) ea c σ h = .ok (.int (xs.length : Nat)) h1 := b1_ok (x := .lst xs) e rfl
end
theorem okI (bs : List Int) : ∀ x ∈ bs.map D.int, okD x = true := fun x hx => by
  obtain ⟨i, _, rfl⟩ := List.mem_map.mp hx
  rfl
theorem all_byt {bs : List Int} (hb : byt bs) : ((bs.map D.int).all fun x => rngD x 0 255) = true := by
  rw [List.all_eq_true]
  intro x hx
  obtain ⟨i, hi, rfl⟩ := List.mem_map.mp hx
  simp [rngD, hb i hi]
section
variable {a b : DE} {c : Calls} {σ : DSt} {h h1 : LH} {x : D}
theorem andV_t (e : a c σ h = .ok x h1) (t : truB h1 x = some true) : bAndV a b c σ h = b c σ h1 := by
  unfold bAndV; rw [e]; show (optO (truB h1 x) h1).bind _ = _; rw [t]; rfl
theorem orV_t (e : a c σ h = .ok x h1) (t : truB h1 x = some true) : bOrV a b c σ h = .ok x h1 := by
  unfold bOrV; rw [e]; show (optO (truB h1 x) h1).bind _ = _; rw [t]; rfl
theorem orV_f (e : a c σ h = .ok x h1) (t : truB h1 x = some false) : bOrV a b c σ h = b c σ h1 := by
  unfold bOrV; rw [e]; show (optO (truB h1 x) h1).bind _ = _; rw [t]; rfl
end
theorem forL_inv {t : Tg} {body : DSt → LH → OutS} (P : Nat → DSt → LH → Prop) : ∀ (xs : List D) (i : Nat) (σ : DSt) (h : LH), (∀ j x σ h, x ∈ xs → j < i + xs.length → P j σ h → ∃ σ1 σ2 h2, bindT t x σ = some σ1 ∧ body σ1 h = .nx σ2 h2 ∧ P (j + 1) σ2 h2) → P i σ h → ∃ σ' h', forL [] t body xs σ h = .nx σ' h' ∧ P (i + xs.length) σ' h'
  | [], i, σ, h, _, p => ⟨σ, h, by simp [forL, gdOk], p⟩
  | x :: xs, i, σ, h, hb, p => by
    obtain ⟨σ1, σ2, h2, e1, e2, p2⟩ := hb i x σ h List.mem_cons_self (by simp) p
    obtain ⟨σ', h', e3, p3⟩ := forL_inv P xs (i + 1) σ2 h2 (fun j y σ h hy hj => hb j y σ h (List.mem_cons_of_mem _ hy) (by simp; omega)) p2
    refine ⟨σ', h', ?_, by rw [List.length_cons, Nat.add_comm xs.length, ← Nat.add_assoc]; exact p3⟩
    simp only [forL, gdOk, List.all_nil, if_true, e1, e2]
    exact e3
theorem rngL_mem : ∀ (n : Nat) (lo : Int) (x : D), x ∈ rngL lo n → ∃ i, x = .int i ∧ lo ≤ i ∧ i < lo + n
  | 0, _, _, h => by simp [rngL] at h
  | n + 1, lo, x, h => by
    simp only [rngL, List.mem_cons] at h
    rcases h with rfl | h
    · exact ⟨lo, rfl, Int.le_refl _, by omega⟩
    · obtain ⟨i, e, h1, h2⟩ := rngL_mem n (lo + 1) x h
      exact ⟨i, e, by omega, by omega⟩
theorem pow18 {c : Calls} {σ : DSt} {h : LH} : bBinW .Pow (bLit (.int 10)) (bLit (.int 18)) c σ h = .ok (.int 1000000000000000000) h := by
  have e : opW h .Pow (.int 10) (.int 18) = some (.int 1000000000000000000) := by
    unfold opW
    simp [opV]
  exact bBinW_ok rfl rfl e
theorem ge_cmp {h : LH} {i j : Int} : cmpV h .GtE (.int i) (.int j) = some (decide (j ≤ i)) := rfl
theorem gt_cmp {h : LH} {i j : Int} : cmpV h .Gt (.int i) (.int j) = some (decide (j < i)) := rfl
theorem lt_cmp {h : LH} {i j : Int} : cmpV h .Lt (.int i) (.int j) = some (decide (i < j)) := rfl
theorem app_ok {c : Calls} {i : Nat} {e : DE} {σ : DSt} {h h' : LH} {acc : List D} {d : D} (hs : σ[i]? = some (.ol acc)) (he : e c σ h = .ok d h') (hl : acc.length ≤ 1000000) : bAppO i e c σ h = .nx (σ.set i (.ol (acc ++ [d]))) h' := by
  unfold bAppO
  rw [hs, he]
  show (if acc.length < LIM then _ else _) = _
  rw [if_pos (by show _ < 16777216; omega)]
def PA1 (h0 : LH) (s0 : Sl) (m : Nat) (j : Nat) (σ : DSt) (h : LH) : Prop := h = h0 ∧ ∃ (acc : List Int) (s2 s4 s5 : Sl) (r : Int), σ = [s0, .ol (acc.map .int), s2, .v (.int r), s4, s5] ∧ acc.length ≤ m + j
def PA2 (h0 : LH) (s0 : Sl) (m : Nat) (j : Nat) (σ : DSt) (h : LH) : Prop := h = h0 ∧ ∃ (acc : List Int) (s2 s3 s4 : Sl) (r : Int), σ = [s0, .ol (acc.map .int), s2, s3, s4, .v (.int r)] ∧ acc.length ≤ m + j
def PA3 (h0 : LH) (s0 : Sl) (j : Nat) (σ : DSt) (h : LH) : Prop := h = h0 ∧ ∃ (acc : List Int) (s2 s3 s4 s5 : Sl), σ = [s0, .ol (acc.map .int), s2, s3, s4, s5] ∧ acc.length ≤ 60 * j
theorem map_snoc (acc : List Int) (r : Int) : acc.map D.int ++ [.int r] = (acc ++ [r]).map .int := by simp
theorem in1 {c : Calls} {h0 : LH} {s0 : Sl} {m : Nat} {acc : List Int} {s2 s4 s5 : Sl} {r : Int} (hl : acc.length ≤ m) (hm : m ≤ 10000) : ∃ σ' h', bFor (.nm 4) (bRng1 (bLit (.int 60))) (bIfS (bCmp .Gt (bVarO 3) (bLit (.int 0))) (bSeq (bAppO 1 (bBinW .Mod (bB1 (fun _ d => intD d) (bVarO 3)) (bLit (.int 1009)))) (bSet 3 (bBinW .FloorDiv (bVarO 3) (bLit (.int 1009))))) bSkip) c [s0, .ol (acc.map .int), s2, .v (.int r), s4, s5] h0 = .nx σ' h' ∧ PA1 h0 s0 m 60 σ' h' := by
  obtain ⟨σ', h', e1, e2⟩ := forL_inv (t := .nm 4) (body := bIfS (bCmp .Gt (bVarO 3) (bLit (.int 0))) (bSeq (bAppO 1 (bBinW .Mod (bB1 (fun _ d => intD d) (bVarO 3)) (bLit (.int 1009)))) (bSet 3 (bBinW .FloorDiv (bVarO 3) (bLit (.int 1009))))) bSkip c) (PA1 h0 s0 m) (rngL 0 60) 0 [s0, .ol (acc.map .int), s2, .v (.int r), s4, s5] h0 (fun j x σ h hx hj p => by
    obtain ⟨rfl, acc, s2, s4, s5, r, rfl, hl⟩ := p
    rw [rngL_len] at hj
    by_cases hr : 0 < r
    · refine ⟨[s0, .ol (acc.map .int), s2, .v (.int r), .v x, s5], [s0, .ol ((acc ++ [r % 1009]).map .int), s2, .v (.int (r / 1009)), .v x, s5], h, rfl, ?_, rfl, _, _, _, _, _, rfl, by simp; omega⟩
      refine (if_t (h' := h) (by simp [hr, runS_eq, fin, startS, bSeq, bSet, bEx, bRet, bRetN, bIfS, bSkip, bCall, bCons, bNil, bTup, bLstV, bVar, bVarO, bLit, bBinW, bNeg, bCmp, bChain, bTru, bNotT, bAndT, bOrT, bBl, bAndV, bOrV, bNotV, bIf, bIx, bB1, Out.bind, Out.toS, optO, opW_addI, opW_subI, opW_mulI, opW_fdivI, opW_modI, cmpV, cmpI, truV, truB, isD_i, isD_n, isD_b, isD_s, isD_t, isD_l, isD_d, lenV_t, lenV_l, absD_i, intD_i, tupD_t, tupD_l, ixV, bRaise, List.map, List.replicate, List.length_cons, List.length_nil, List.cons_append, List.nil_append, List.append_nil, List.getElem?_cons_zero, List.getElem?_cons_succ, List.getElem?_nil, List.set_cons_zero, List.set_cons_succ])).trans ?_
      refine (seq_nx (app_ok (acc := acc.map .int) (d := .int (r % 1009)) (h' := h) rfl (by simp [runS_eq, fin, startS, bSeq, bSet, bEx, bRet, bRetN, bIfS, bSkip, bCall, bCons, bNil, bTup, bLstV, bVar, bVarO, bLit, bBinW, bNeg, bCmp, bChain, bTru, bNotT, bAndT, bOrT, bBl, bAndV, bOrV, bNotV, bIf, bIx, bB1, Out.bind, Out.toS, optO, opW_addI, opW_subI, opW_mulI, opW_fdivI, opW_modI, cmpV, cmpI, truV, truB, isD_i, isD_n, isD_b, isD_s, isD_t, isD_l, isD_d, lenV_t, lenV_l, absD_i, intD_i, tupD_t, tupD_l, ixV, bRaise, List.map, List.replicate, List.length_cons, List.length_nil, List.cons_append, List.nil_append, List.append_nil, List.getElem?_cons_zero, List.getElem?_cons_succ, List.getElem?_nil, List.set_cons_zero, List.set_cons_succ]) (by simp; omega))).trans ?_
      rw [map_snoc]
      exact set_ok (by simp [runS_eq, fin, startS, bSeq, bSet, bEx, bRet, bRetN, bIfS, bSkip, bCall, bCons, bNil, bTup, bLstV, bVar, bVarO, bLit, bBinW, bNeg, bCmp, bChain, bTru, bNotT, bAndT, bOrT, bBl, bAndV, bOrV, bNotV, bIf, bIx, bB1, Out.bind, Out.toS, optO, opW_addI, opW_subI, opW_mulI, opW_fdivI, opW_modI, cmpV, cmpI, truV, truB, isD_i, isD_n, isD_b, isD_s, isD_t, isD_l, isD_d, lenV_t, lenV_l, absD_i, intD_i, tupD_t, tupD_l, ixV, bRaise, List.map, List.replicate, List.length_cons, List.length_nil, List.cons_append, List.nil_append, List.append_nil, List.getElem?_cons_zero, List.getElem?_cons_succ, List.getElem?_nil, List.set_cons_zero, List.set_cons_succ])
    · refine ⟨[s0, .ol (acc.map .int), s2, .v (.int r), .v x, s5], [s0, .ol (acc.map .int), s2, .v (.int r), .v x, s5], h, rfl, ?_, rfl, _, _, _, _, _, rfl, by omega⟩
      exact (if_f (h' := h) (by simp [hr, runS_eq, fin, startS, bSeq, bSet, bEx, bRet, bRetN, bIfS, bSkip, bCall, bCons, bNil, bTup, bLstV, bVar, bVarO, bLit, bBinW, bNeg, bCmp, bChain, bTru, bNotT, bAndT, bOrT, bBl, bAndV, bOrV, bNotV, bIf, bIx, bB1, Out.bind, Out.toS, optO, opW_addI, opW_subI, opW_mulI, opW_fdivI, opW_modI, cmpV, cmpI, truV, truB, isD_i, isD_n, isD_b, isD_s, isD_t, isD_l, isD_d, lenV_t, lenV_l, absD_i, intD_i, tupD_t, tupD_l, ixV, bRaise, List.map, List.replicate, List.length_cons, List.length_nil, List.cons_append, List.nil_append, List.append_nil, List.getElem?_cons_zero, List.getElem?_cons_succ, List.getElem?_nil, List.set_cons_zero, List.set_cons_succ])).trans rfl) ⟨rfl, acc, s2, s4, s5, r, rfl, by omega⟩
  exact ⟨σ', h', for_ok (bRng1_nat (n := 60) rfl (by decide)) e1, by simpa [rngL_len] using e2⟩
theorem in2 {c : Calls} {h0 : LH} {s0 : Sl} {m : Nat} {acc : List Int} {s2 s3 s4 : Sl} {r : Int} (hl : acc.length ≤ m) (hm : m ≤ 10000) : ∃ σ' h', bFor (.nm 4) (bRng1 (bLit (.int 12))) (bSeq (bSet 5 (bBinW .Mod (bB1 (fun _ d => intD d) (bBinW .Add (bBinW .Add (bBinW .Mult (bVarO 5) (bLit (.int 16807))) (bBinW .Mult (bLit (.int 69621)) (bVarO 4))) (bLit (.int 5)))) (bLit (.int 2147483629)))) (bAppO 1 (bBinW .FloorDiv (bVarO 5) (bLit (.int 1009))))) c [s0, .ol (acc.map .int), s2, s3, s4, .v (.int r)] h0 = .nx σ' h' ∧ PA2 h0 s0 m 12 σ' h' := by
  obtain ⟨σ', h', e1, e2⟩ := forL_inv (t := .nm 4) (body := bSeq (bSet 5 (bBinW .Mod (bB1 (fun _ d => intD d) (bBinW .Add (bBinW .Add (bBinW .Mult (bVarO 5) (bLit (.int 16807))) (bBinW .Mult (bLit (.int 69621)) (bVarO 4))) (bLit (.int 5)))) (bLit (.int 2147483629)))) (bAppO 1 (bBinW .FloorDiv (bVarO 5) (bLit (.int 1009)))) c) (PA2 h0 s0 m) (rngL 0 12) 0 [s0, .ol (acc.map .int), s2, s3, s4, .v (.int r)] h0 (fun j x σ h hx hj p => by
    obtain ⟨rfl, acc, s2, s3, s4, r, rfl, hl⟩ := p
    obtain ⟨i, rfl, _, _⟩ := rngL_mem _ _ _ hx
    rw [rngL_len] at hj
    have m1 : mulOk r 16807 = true := mulOk_r (by decide) (by decide)
    have m2 : mulOk 69621 i = true := mulOk_l (by decide) (by decide)
    refine ⟨[s0, .ol (acc.map .int), s2, s3, .v (.int i), .v (.int r)], [s0, .ol ((acc ++ [(r * 16807 + 69621 * i + 5) % 2147483629 / 1009]).map .int), s2, s3, .v (.int i), .v (.int ((r * 16807 + 69621 * i + 5) % 2147483629))], h, rfl, ?_, rfl, _, _, _, _, _, rfl, by simp; omega⟩
    refine (seq_nx (set_ok (d := .int ((r * 16807 + 69621 * i + 5) % 2147483629)) (h' := h) (by simp [m1, m2, runS_eq, fin, startS, bSeq, bSet, bEx, bRet, bRetN, bIfS, bSkip, bCall, bCons, bNil, bTup, bLstV, bVar, bVarO, bLit, bBinW, bNeg, bCmp, bChain, bTru, bNotT, bAndT, bOrT, bBl, bAndV, bOrV, bNotV, bIf, bIx, bB1, Out.bind, Out.toS, optO, opW_addI, opW_subI, opW_mulI, opW_fdivI, opW_modI, cmpV, cmpI, truV, truB, isD_i, isD_n, isD_b, isD_s, isD_t, isD_l, isD_d, lenV_t, lenV_l, absD_i, intD_i, tupD_t, tupD_l, ixV, bRaise, List.map, List.replicate, List.length_cons, List.length_nil, List.cons_append, List.nil_append, List.append_nil, List.getElem?_cons_zero, List.getElem?_cons_succ, List.getElem?_nil, List.set_cons_zero, List.set_cons_succ]))).trans ?_
    rw [← map_snoc]
    exact app_ok (acc := acc.map .int) (d := .int ((r * 16807 + 69621 * i + 5) % 2147483629 / 1009)) (h' := h) rfl (by simp [runS_eq, fin, startS, bSeq, bSet, bEx, bRet, bRetN, bIfS, bSkip, bCall, bCons, bNil, bTup, bLstV, bVar, bVarO, bLit, bBinW, bNeg, bCmp, bChain, bTru, bNotT, bAndT, bOrT, bBl, bAndV, bOrV, bNotV, bIf, bIx, bB1, Out.bind, Out.toS, optO, opW_addI, opW_subI, opW_mulI, opW_fdivI, opW_modI, cmpV, cmpI, truV, truB, isD_i, isD_n, isD_b, isD_s, isD_t, isD_l, isD_d, lenV_t, lenV_l, absD_i, intD_i, tupD_t, tupD_l, ixV, bRaise, List.map, List.replicate, List.length_cons, List.length_nil, List.cons_append, List.nil_append, List.append_nil, List.getElem?_cons_zero, List.getElem?_cons_succ, List.getElem?_nil, List.set_cons_zero, List.set_cons_succ]) (by simp; omega)) ⟨rfl, acc, s2, s3, s4, r, rfl, by omega⟩
  exact ⟨σ', h', for_ok (bRng1_nat (n := 12) rfl (by decide)) e1, by simpa [rngL_len] using e2⟩
theorem c0 {k : Nat} {ns : List Int} (hn : ns.length ≤ 63) : ∃ ds : List Int, ds.length ≤ 10000 ∧ Cf pg (k + 1) 0 [.ref 0] [.lkL (ns.map .int)] = .ok (.lst (ds.map .int)) [.lkL (ns.map .int)] := by
  rw [cf0]
  have sl : ∀ σ2, bIterW (bSlice (bVarO 0) bNoPart (bPart (bLit (.int 63)))) (Cf pg k) (.v (.ref 0) :: σ2) [.lkL (ns.map .int)] = .ok (ns.map .int, []) [.lkL (ns.map .int)] := fun σ2 => by
    have e : slW [.lkL (ns.map .int)] (.ref 0) none (some 63) = some (.lst (ns.map .int)) := by
      show some (D.lst (cutA (ns.map .int) none (some 63))) = _
      have : cutA (ns.map D.int) none (some 63) = ns.map .int := by
        have s : HT.sIx (ns.map D.int).length (ns.map D.int).length (some 63) = (ns.map D.int).length := by
          rw [show (63 : Int) = ((63 : Nat) : Int) from rfl, HT.sIx_nat, List.length_map]
          omega
        have s0 : HT.sIx (ns.map D.int).length 0 none = 0 := rfl
        unfold cutA
        rw [s, s0, Nat.sub_zero, List.drop_zero]
        exact List.take_length
      rw [this]
    simp [bIterW, bSlice, bNoPart, bPart, e, srcW, srcV, runS_eq, fin, startS, bSeq, bSet, bEx, bRet, bRetN, bIfS, bSkip, bCall, bCons, bNil, bTup, bLstV, bVar, bVarO, bLit, bBinW, bNeg, bCmp, bChain, bTru, bNotT, bAndT, bOrT, bBl, bAndV, bOrV, bNotV, bIf, bIx, bB1, Out.bind, Out.toS, optO, opW_addI, opW_subI, opW_mulI, opW_fdivI, opW_modI, cmpV, cmpI, truV, truB, isD_i, isD_n, isD_b, isD_s, isD_t, isD_l, isD_d, lenV_t, lenV_l, absD_i, intD_i, tupD_t, tupD_l, ixV, bRaise, List.map, List.replicate, List.length_cons, List.length_nil, List.cons_append, List.nil_append, List.append_nil, List.getElem?_cons_zero, List.getElem?_cons_succ, List.getElem?_nil, List.set_cons_zero, List.set_cons_succ]
  obtain ⟨σ', h', e1, e2⟩ := forL_inv (t := .nm 2) (body := (bSeq (bSet 3 (bB1 (fun _ d => absD d) (bVarO 2))) (bIfS (bCmp .GtE (bVarO 3) (bBinW .Pow (bLit (.int 10)) (bLit (.int 18)))) (bFor (.nm 4) (bRng1 (bLit (.int 60))) (bIfS (bCmp .Gt (bVarO 3) (bLit (.int 0))) (bSeq (bAppO 1 (bBinW .Mod (bB1 (fun _ d => intD d) (bVarO 3)) (bLit (.int 1009)))) (bSet 3 (bBinW .FloorDiv (bVarO 3) (bLit (.int 1009))))) bSkip)) (bSeq (bSet 5 (bBinW .Mod (bB1 (fun _ d => intD d) (bBinW .Add (bBinW .Mult (bVarO 3) (bLit (.int 48271))) (bLit (.int 11)))) (bLit (.int 2147483647)))) (bFor (.nm 4) (bRng1 (bLit (.int 12))) (bSeq (bSet 5 (bBinW .Mod (bB1 (fun _ d => intD d) (bBinW .Add (bBinW .Add (bBinW .Mult (bVarO 5) (bLit (.int 16807))) (bBinW .Mult (bLit (.int 69621)) (bVarO 4))) (bLit (.int 5)))) (bLit (.int 2147483629)))) (bAppO 1 (bBinW .FloorDiv (bVarO 5) (bLit (.int 1009)))))))) ) (Cf pg k)) (PA3 [.lkL (ns.map .int)] (.v (.ref 0))) (ns.map .int) 0 [.v (.ref 0), .ol [], .no, .no, .no, .no] [.lkL (ns.map .int)] (fun j x σ h hx hj p => by
    obtain ⟨rfl, acc, s2, s3, s4, s5, rfl, hl⟩ := p
    obtain ⟨c, hc, rfl⟩ := List.mem_map.mp hx
    rw [List.length_map] at hj
    have hj2 : 60 * j ≤ 10000 := by omega
    generalize hh : [LO.lkL (ns.map .int)] = h0
    generalize hr : (if c < 0 then -c else c) = r
    by_cases hb : 1000000000000000000 ≤ r
    · obtain ⟨σ', h', e1, rfl, acc', t2, t4, t5, r', rfl, hl'⟩ := in1 (c := Cf pg k) (h0 := h0) (s0 := .v (.ref 0)) (acc := acc) (s2 := .v (.int c)) (s4 := s4) (s5 := s5) (r := r) hl hj2
      refine ⟨[.v (.ref 0), .ol (acc.map .int), .v (.int c), s3, s4, s5], [.v (.ref 0), .ol (acc'.map .int), t2, .v (.int r'), t4, t5], h', rfl, ?_, rfl, acc', t2, .v (.int r'), t4, t5, rfl, by omega⟩
      refine (seq_nx (set_ok (d := .int r) (h' := h') (by simp [hr, runS_eq, fin, startS, bSeq, bSet, bEx, bRet, bRetN, bIfS, bSkip, bCall, bCons, bNil, bTup, bLstV, bVar, bVarO, bLit, bBinW, bNeg, bCmp, bChain, bTru, bNotT, bAndT, bOrT, bBl, bAndV, bOrV, bNotV, bIf, bIx, bB1, Out.bind, Out.toS, optO, opW_addI, opW_subI, opW_mulI, opW_fdivI, opW_modI, cmpV, cmpI, truV, truB, isD_i, isD_n, isD_b, isD_s, isD_t, isD_l, isD_d, lenV_t, lenV_l, absD_i, intD_i, tupD_t, tupD_l, ixV, bRaise, List.map, List.replicate, List.length_cons, List.length_nil, List.cons_append, List.nil_append, List.append_nil, List.getElem?_cons_zero, List.getElem?_cons_succ, List.getElem?_nil, List.set_cons_zero, List.set_cons_succ]))).trans ?_
      refine (if_t (h' := h') ?_).trans e1
      unfold bCmp
      simp only [pow18, Out.bind, bVarO, List.set_cons_zero, List.set_cons_succ, List.getElem?_cons_zero, List.getElem?_cons_succ, ge_cmp, optO, hb, decide_true]
    · obtain ⟨σ', h', e1, rfl, acc', t2, t3, t4, r', rfl, hl'⟩ := in2 (c := Cf pg k) (h0 := h0) (s0 := .v (.ref 0)) (acc := acc) (s2 := .v (.int c)) (s3 := .v (.int r)) (s4 := s4) (r := (r * 48271 + 11) % 2147483647) hl hj2
      refine ⟨[.v (.ref 0), .ol (acc.map .int), .v (.int c), s3, s4, s5], [.v (.ref 0), .ol (acc'.map .int), t2, t3, t4, .v (.int r')], h', rfl, ?_, rfl, acc', t2, t3, t4, .v (.int r'), rfl, by omega⟩
      have m1 : mulOk r 48271 = true := mulOk_r (by decide) (by decide)
      refine (seq_nx (set_ok (d := .int r) (h' := h') (by simp [hr, runS_eq, fin, startS, bSeq, bSet, bEx, bRet, bRetN, bIfS, bSkip, bCall, bCons, bNil, bTup, bLstV, bVar, bVarO, bLit, bBinW, bNeg, bCmp, bChain, bTru, bNotT, bAndT, bOrT, bBl, bAndV, bOrV, bNotV, bIf, bIx, bB1, Out.bind, Out.toS, optO, opW_addI, opW_subI, opW_mulI, opW_fdivI, opW_modI, cmpV, cmpI, truV, truB, isD_i, isD_n, isD_b, isD_s, isD_t, isD_l, isD_d, lenV_t, lenV_l, absD_i, intD_i, tupD_t, tupD_l, ixV, bRaise, List.map, List.replicate, List.length_cons, List.length_nil, List.cons_append, List.nil_append, List.append_nil, List.getElem?_cons_zero, List.getElem?_cons_succ, List.getElem?_nil, List.set_cons_zero, List.set_cons_succ]))).trans ?_
      refine (if_f (h' := h') ?_).trans ?_
      · unfold bCmp
        simp only [pow18, Out.bind, bVarO, List.set_cons_zero, List.set_cons_succ, List.getElem?_cons_zero, List.getElem?_cons_succ, ge_cmp, optO, hb, decide_false]
      · refine (seq_nx (set_ok (d := .int ((r * 48271 + 11) % 2147483647)) (h' := h') (by simp [m1, runS_eq, fin, startS, bSeq, bSet, bEx, bRet, bRetN, bIfS, bSkip, bCall, bCons, bNil, bTup, bLstV, bVar, bVarO, bLit, bBinW, bNeg, bCmp, bChain, bTru, bNotT, bAndT, bOrT, bBl, bAndV, bOrV, bNotV, bIf, bIx, bB1, Out.bind, Out.toS, optO, opW_addI, opW_subI, opW_mulI, opW_fdivI, opW_modI, cmpV, cmpI, truV, truB, isD_i, isD_n, isD_b, isD_s, isD_t, isD_l, isD_d, lenV_t, lenV_l, absD_i, intD_i, tupD_t, tupD_l, ixV, bRaise, List.map, List.replicate, List.length_cons, List.length_nil, List.cons_append, List.nil_append, List.append_nil, List.getElem?_cons_zero, List.getElem?_cons_succ, List.getElem?_nil, List.set_cons_zero, List.set_cons_succ]))).trans ?_
        exact e1) ⟨rfl, [], _, _, _, _, rfl, by simp⟩
  obtain ⟨rfl, acc, s2, s3, s4, s5, rfl, hacc⟩ := e2
  refine ⟨acc, by simp at hacc; omega, run_rt ?_⟩
  unfold ev_0
  refine (seq_nx (setL_ok (xs := []) (h' := [.lkL (ns.map .int)]) rfl)).trans ?_
  refine (seq_nx (for_ok (sl [.ol [], .no, .no, .no, .no]) e1)).trans ?_
  refine (seq_nx (σ' := [.v (.ref 0), .v (.lst (acc.map .int)), s2, s3, s4, s5]) (h' := [.lkL (ns.map .int)]) rfl).trans ?_
  exact ret_ok rfl
theorem opW_modG {h : LH} {i j : Int} (h1 : 0 < j) : opW h .Mod (.int i) (.int j) = some (.int (i % j)) := opW_modI h1
theorem atI_mod {ds : List Int} {i : Int} (hl : 0 < ds.length) : ∃ v, L2.atI (ds.map D.int) (i % (ds.length : Nat)) = some (.int v) := by
  have h1 : 0 ≤ i % (ds.length : Nat) := Int.emod_nonneg _ (by omega)
  have h2 : i % (ds.length : Nat) < (ds.length : Nat) := Int.emod_lt_of_pos _ (by omega)
  obtain ⟨n, hn⟩ := Int.eq_ofNat_of_zero_le h1
  have hlt : n < ds.length := by omega
  refine ⟨ds[n], ?_⟩
  rw [hn, atI_nat (by simpa using hlt)]
  simp [hlt]
def PM1 (h0 : LH) (s0 : Sl) (p : Int) (j : Nat) (σ : DSt) (h : LH) : Prop := h = h0 ∧ ∃ (m : Int) (s3 : Sl), σ = [s0, .v (.int p), .v (.int m), s3]
theorem c1 {k : Nat} {ds : List Int} {p : Int} {h : LH} (hl : ds.length ≤ 10000) : ∃ v : Int, Cf pg (k + 1) 1 [.lst (ds.map .int), .int p] h = .ok (.int v) h := by
  rw [cf1]
  have m0 : mulOk p 48271 = true := mulOk_r (by decide) (by decide)
  obtain ⟨σ', h', e1, e2⟩ := forL_inv (t := .nm 3) (body := (bSeq (bIfS (bTru (bVarO 0)) (bSet 2 (bBinW .Add (bVarO 2) (bIx (bVarO 0) (bBinW .Mod (bB1 (fun _ d => intD d) (bBinW .Add (bBinW .Mult (bVarO 1) (bBinW .Add (bVarO 3) (bLit (.int 5)))) (bVarO 3))) (bB1 (fun h d => (lenV h d).map .int) (bVarO 0)))))) bSkip) (bSet 2 (bBinW .Mod (bB1 (fun _ d => intD d) (bBinW .Add (bBinW .Add (bBinW .Mult (bVarO 2) (bLit (.int 16807))) (bBinW .Mult (bLit (.int 69621)) (bVarO 3))) (bLit (.int 5)))) (bLit (.int 2147483629))))) (Cf pg k)) (PM1 h (.v (.lst (ds.map .int))) p) (rngL 0 3) 0 [.v (.lst (ds.map .int)), .v (.int p), .v (.int ((p * 48271 + (ds.length : Nat) + 11) % 2147483629)), .no] h (fun j x σ h1 hx hj q => by
    obtain ⟨rfl, m, s3, rfl⟩ := q
    obtain ⟨i, rfl, g1, g2⟩ := rngL_mem _ _ _ hx
    have m1 : mulOk p (i + 5) = true := mulOk_r (by omega) (by omega)
    have m2 : mulOk 69621 i = true := mulOk_l (by decide) (by decide)
    have tl : ∀ m : Int, ∃ m' : Int, bSet 2 (bBinW .Mod (bB1 (fun _ d => intD d) (bBinW .Add (bBinW .Add (bBinW .Mult (bVarO 2) (bLit (.int 16807))) (bBinW .Mult (bLit (.int 69621)) (bVarO 3))) (bLit (.int 5)))) (bLit (.int 2147483629))) (Cf pg k) [.v (.lst (ds.map .int)), .v (.int p), .v (.int m), .v (.int i)] h1 = .nx [.v (.lst (ds.map .int)), .v (.int p), .v (.int m'), .v (.int i)] h1 := fun m => by
      have m3 : mulOk m 16807 = true := mulOk_r (by decide) (by decide)
      exact ⟨(m * 16807 + 69621 * i + 5) % 2147483629, set_ok (by simp [m2, m3, runS_eq, fin, startS, bSeq, bSet, bEx, bRet, bRetN, bIfS, bSkip, bCall, bCons, bNil, bTup, bLstV, bVar, bVarO, bLit, bBinW, bNeg, bCmp, bChain, bTru, bNotT, bAndT, bOrT, bBl, bAndV, bOrV, bNotV, bIf, bIx, bB1, Out.bind, Out.toS, optO, opW_addI, opW_subI, opW_mulI, opW_fdivI, opW_modI, cmpV, cmpI, truV, truB, isD_i, isD_n, isD_b, isD_s, isD_t, isD_l, isD_d, lenV_t, lenV_l, absD_i, intD_i, tupD_t, tupD_l, ixV, bRaise, List.map, List.replicate, List.length_cons, List.length_nil, List.cons_append, List.nil_append, List.append_nil, List.getElem?_cons_zero, List.getElem?_cons_succ, List.getElem?_nil, List.set_cons_zero, List.set_cons_succ])⟩
    by_cases hd : ds = []
    · subst hd
      obtain ⟨m', t⟩ := tl m
      refine ⟨_, _, h1, rfl, ?_, rfl, m', .v (.int i), rfl⟩
      exact (seq_nx (σ' := [.v (.lst []), .v (.int p), .v (.int m), .v (.int i)]) (h' := h1) ((if_f (h' := h1) (tru_ok (x := .lst []) (h1 := h1) rfl rfl)).trans rfl)).trans t
    · have hpos : 0 < ds.length := List.length_pos_iff.mpr hd
      obtain ⟨v, av⟩ := atI_mod (i := p * (i + 5) + i) hpos
      obtain ⟨m', t⟩ := tl (m + v)
      refine ⟨_, _, h1, rfl, ?_, rfl, m', .v (.int i), rfl⟩
      have tr : truV h1 (.lst (ds.map .int)) = some true := by
        cases ds with
        | nil => exact (hd rfl).elim
        | cons a r => rfl
      have lp : (0 : Int) < ((ds.map D.int).length : Nat) := by rw [List.length_map]; omega
      have av' : ixV h1 (.lst (ds.map .int)) (.int ((p * (i + 5) + i) % ((ds.map D.int).length : Nat))) = some (.int v) := by
        rw [List.length_map]
        exact av
      refine (seq_nx (σ' := [.v (.lst (ds.map .int)), .v (.int p), .v (.int (m + v)), .v (.int i)]) (h' := h1) ((if_t (h' := h1) (tru_ok (x := .lst (ds.map .int)) (h1 := h1) rfl tr)).trans (set_ok (bBinW_ok (x := .int m) (h1 := h1) rfl (ix_ok (x := .lst (ds.map .int)) (h1 := h1) rfl (bBinW_ok (b1_ok (x := .int (p * (i + 5) + i)) (h1 := h1) (by simp [m1, runS_eq, fin, startS, bSeq, bSet, bEx, bRet, bRetN, bIfS, bSkip, bCall, bCons, bNil, bTup, bLstV, bVar, bVarO, bLit, bBinW, bNeg, bCmp, bChain, bTru, bNotT, bAndT, bOrT, bBl, bAndV, bOrV, bNotV, bIf, bIx, bB1, Out.bind, Out.toS, optO, opW_addI, opW_subI, opW_mulI, opW_fdivI, opW_modI, cmpV, cmpI, truV, truB, isD_i, isD_n, isD_b, isD_s, isD_t, isD_l, isD_d, lenV_t, lenV_l, absD_i, intD_i, tupD_t, tupD_l, ixV, bRaise, List.map, List.replicate, List.length_cons, List.length_nil, List.cons_append, List.nil_append, List.append_nil, List.getElem?_cons_zero, List.getElem?_cons_succ, List.getElem?_nil, List.set_cons_zero, List.set_cons_succ]) rfl) (len_l (xs := ds.map .int) rfl) (opW_modG lp)) av') opW_addI)))).trans t) ⟨rfl, _, .no, rfl⟩
  obtain ⟨rfl, m, s3, rfl⟩ := e2
  refine ⟨m / 1009, run_rt ?_⟩
  unfold ev_1
  refine (seq_nx (σ' := [.v (.lst (ds.map .int)), .v (.int p), .v (.int ((p * 48271 + (ds.length : Nat) + 11) % 2147483629)), .no]) (h' := h') (set_ok (by simp [m0, startS, runS_eq, fin, startS, bSeq, bSet, bEx, bRet, bRetN, bIfS, bSkip, bCall, bCons, bNil, bTup, bLstV, bVar, bVarO, bLit, bBinW, bNeg, bCmp, bChain, bTru, bNotT, bAndT, bOrT, bBl, bAndV, bOrV, bNotV, bIf, bIx, bB1, Out.bind, Out.toS, optO, opW_addI, opW_subI, opW_mulI, opW_fdivI, opW_modI, cmpV, cmpI, truV, truB, isD_i, isD_n, isD_b, isD_s, isD_t, isD_l, isD_d, lenV_t, lenV_l, absD_i, intD_i, tupD_t, tupD_l, ixV, bRaise, List.map, List.replicate, List.length_cons, List.length_nil, List.cons_append, List.nil_append, List.append_nil, List.getElem?_cons_zero, List.getElem?_cons_succ, List.getElem?_nil, List.set_cons_zero, List.set_cons_succ]))).trans ?_
  refine (seq_nx (for_ok (bRng1_nat (n := 3) rfl (by decide)) e1)).trans ?_
  exact ret_ok (by simp [runS_eq, fin, startS, bSeq, bSet, bEx, bRet, bRetN, bIfS, bSkip, bCall, bCons, bNil, bTup, bLstV, bVar, bVarO, bLit, bBinW, bNeg, bCmp, bChain, bTru, bNotT, bAndT, bOrT, bBl, bAndV, bOrV, bNotV, bIf, bIx, bB1, Out.bind, Out.toS, optO, opW_addI, opW_subI, opW_mulI, opW_fdivI, opW_modI, cmpV, cmpI, truV, truB, isD_i, isD_n, isD_b, isD_s, isD_t, isD_l, isD_d, lenV_t, lenV_l, absD_i, intD_i, tupD_t, tupD_l, ixV, bRaise, List.map, List.replicate, List.length_cons, List.length_nil, List.cons_append, List.nil_append, List.append_nil, List.getElem?_cons_zero, List.getElem?_cons_succ, List.getElem?_nil, List.set_cons_zero, List.set_cons_succ])
theorem byt_app {a b : List Int} (ha : byt a) (hb : byt b) : byt (a ++ b) := fun x hx => (List.mem_append.mp hx).elim (ha x) (hb x)
theorem byt_rep {n : Nat} {v : Int} (h : 0 ≤ v ∧ v ≤ 255) : byt (List.replicate n v) := fun x hx => by rw [(List.mem_replicate.mp hx).2]; exact h
theorem byt_take {a : List Int} {n : Nat} (ha : byt a) : byt (a.take n) := fun x hx => ha x (List.mem_of_mem_take hx)
theorem byt_drop {a : List Int} {n : Nat} (ha : byt a) : byt (a.drop n) := fun x hx => ha x (List.mem_of_mem_drop hx)
theorem cut_map (xs : List Int) (lo hi : Option Int) : cutA (xs.map D.int) lo hi = (cutA xs lo hi).map .int := by
  unfold cutA
  rw [List.length_map, ← List.map_drop, ← List.map_take]
theorem cut_to {α : Type} {xs : List α} {n : Nat} (h : n ≤ xs.length) : cutA xs none (some (n : Int)) = xs.take n := by
  unfold cutA
  rw [HT.sIx_nat]
  show ((xs.drop 0).take (min n xs.length - 0)) = _
  rw [List.drop_zero, Nat.sub_zero, Nat.min_eq_left h]
theorem cut_from {α : Type} {xs : List α} {n : Nat} (h : n ≤ xs.length) : cutA xs (some (n : Int)) none = xs.drop n := by
  unfold cutA
  rw [HT.sIx_nat]
  show ((xs.drop (min n xs.length)).take (xs.length - min n xs.length)) = _
  rw [Nat.min_eq_left h]
  exact List.take_of_length_le (by simp)
theorem var_ok {h : LH} {c : Calls} {σ : DSt} {i : Nat} {d : D} (e : σ[i]? = some (.v d)) : bVar i c σ h = .ok d h := by
  unfold bVar
  rw [e]
theorem part_v {h : LH} {c : Calls} {σ : DSt} {i : Nat} {v : Int} (e : σ[i]? = some (.v (.int v))) : bPart (bVar i) c σ h = .ok (some v) h := by
  unfold bPart
  rw [var_ok e]
  rfl
def argD (x : PySem.Str) : D := .tup [.str "argument", .str x]
theorem arg_deq {h : LH} {d e : D} (h1 : pl 40 d = true) (h2 : d = e) : cmpV h .NotEq d e = some false := by
  subst h2
  refine (ne_cmp (deq_pl h1 h1)).trans ?_
  simp
theorem odd_ok {d : D} {a b : Int} (hd : d ∈ [D.int a, .int b, .non, .bl true]) : okD d = true := by
  simp only [List.mem_cons, List.not_mem_nil, or_false] at hd
  rcases hd with rfl | rfl | rfl | rfl <;> rfl
theorem odd_rng {d : D} {a b lo hi : Int} (hd : d ∈ [D.int a, .int b, .non, .bl true]) (h1 : a < lo ∨ hi < a) (h2 : b < lo ∨ hi < b) : rngD d lo hi = false := by
  simp only [List.mem_cons, List.not_mem_nil, or_false] at hd
  rcases hd with rfl | rfl | rfl | rfl
  · simp [rngD]; omega
  · simp [rngD]; omega
  · rfl
  · rfl
theorem andV_f {a b : DE} {c : Calls} {σ : DSt} {h h1 : LH} {x : D} (e : a c σ h = .ok x h1) (t : truB h1 x = some false) : bAndV a b c σ h = .ok x h1 := by
  unfold bAndV; rw [e]; show (optO (truB h1 x) h1).bind _ = _; rw [t]; rfl
def okE : D → Bool
  | .tup xs => xs.all okD && decide (xs.length ≤ 1000)
  | .non => true
  | .int _ => true
  | .bl _ => true
  | .lst _ => true
  | _ => false
def isBlk : D → Bool
  | .tup xs => decide (xs.length = 32) && xs.all fun x => rngD x 0 255
  | _ => false
theorem okE_t {xs : List D} (h : okE (.tup xs) = true) : (∀ x ∈ xs, okD x = true) ∧ xs.length ≤ 1000 := by
  simp only [okE, Bool.and_eq_true, decide_eq_true_eq, List.all_eq_true] at h
  exact h
def blkOk (d : D) : Bool := decide (d = .non) || isBlk d
def chk : D → Option PySem.Str
  | .tup ims => if 48 ≤ ims.length ∧ ims.length ≤ 160 then (if ims.all blkOk = true then none else some "block") else some "size"
  | _ => some "form"
def okC : D → Bool
  | .tup ims => ims.all okE
  | .non => true
  | .int _ => true
  | .lst _ => true
  | _ => false
def chkO (h : LH) : Option PySem.Str → Out D
  | none => .ok .non h
  | some r => .ex 3 [.str r] h
theorem setX_lst {h : LH} {n k : Nat} {xs : List D} {d : D} (e : h[n]? = some (.lst xs)) (hk : k < xs.length) : setX h n (.int (k : Nat)) d = some (h.set n (.lst (xs.set k d))) := by
  unfold setX
  rw [e]
  simp [ixN, hk]
theorem get_end {h : LH} {x : LO} : (h ++ [x])[h.length]? = some x := by simp
theorem setIx_ok {o i e : DE} {c : Calls} {σ : DSt} {h h1 h2 h3 h4 : LH} {d y : D} {n : Nat} (e1 : e c σ h = .ok d h1) (e2 : o c σ h1 = .ok (.ref n) h2) (e3 : i c σ h2 = .ok y h3) (e4 : setX h3 n y d = some h4) : bSetIx o i e c σ h = .nx σ h4 := by
  unfold bSetIx
  rw [e1]
  show (o c σ h1).toS σ _ = _
  rw [e2]
  show (i c σ h2).toS σ _ = _
  rw [e3]
  show (match setX h3 n y d with | some h4 => OutS.nx σ h4 | none => .bad) = _
  rw [e4]
theorem set_end {h : LH} {x y : LO} : (h ++ [x]).set h.length y = h ++ [y] := by simp
theorem forL_nx {gs : List (Nat × LO)} {t : Tg} {body : DSt → LH → OutS} {x : D} {xs : List D} {σ σ1 σ2 : DSt} {h h2 : LH} (g : gdOk gs h = true) (e1 : bindT t x σ = some σ1) (e2 : body σ1 h = .nx σ2 h2) : forL gs t body (x :: xs) σ h = forL gs t body xs σ2 h2 := by
  simp only [forL, g, if_true, e1, e2]
def iT (xs : List Int) : D := .tup (xs.map .int)
theorem pl_iT (r : List Int) {n : Nat} (hn : 1 ≤ n) : pl n (iT r) = true := by
  obtain ⟨m, rfl⟩ : ∃ m, n = m + 1 := ⟨n - 1, by omega⟩
  show pls m (r.map .int) = true
  exact pls_int r
theorem get_app {h x : LH} {n : Nat} {v : LO} (e : h[n]? = some v) : (h ++ x)[n]? = some v := by
  rw [List.getElem?_append_left (List.getElem?_eq_some_iff.mp e).1]
  exact e
def AT (h : LH) (p : Int) : Prop := h[1]? = some (.lst [.int p])
def setA (h : LH) (p : Int) : LH := h.set 1 (.lst [.int p])
theorem AT.lt {h : LH} {p : Int} (a : AT h p) : 1 < h.length := (List.getElem?_eq_some_iff.mp a).1
theorem at_set {h : LH} {p q : Int} (a : AT h p) : AT (setA h q) q := by
  unfold AT setA
  simp [a.lt]
theorem set_same {h : LH} {p : Int} (a : AT h p) : setA h p = h := by
  unfold setA
  obtain ⟨h1, h2⟩ := List.getElem?_eq_some_iff.mp a
  rw [← h2]
  exact List.set_getElem_self h1
theorem setA2 {h : LH} {p q : Int} : setA (setA h p) q = setA h q := by simp [setA]
theorem setA_get {h : LH} {p : Int} {n : Nat} (hn : n ≠ 1) : (setA h p)[n]? = h[n]? := by
  unfold setA
  exact List.getElem?_set_ne (fun e => hn e.symm)
theorem c2 {k : Nat} {ds : List Int} {p m : Int} {h : LH} (hl : ds.length ≤ 10000) (ha : AT h p) (hp : 0 ≤ p) (hm : 0 < m) : ∃ v : Int, (0 ≤ v ∧ v < m) ∧ Cf pg (k + 2) 2 [.lst (ds.map .int), .ref 1, .int m] h = .ok (.int v) (setA h (p + 1)) := by
  rw [cf2]
  have i0 : ixV h (.ref 1) (.int 0) = some (.int p) := by
    show (match h[1]?, D.int 0 with | some (.lst xs), .int i => L2.atI xs i | some (.lkL xs), .int i => L2.atI xs i | some (.dic kvs), k => if isKey k = true then dget kvs k else none | some (.lkD kvs), k => if isKey k = true then dget kvs k else none | _, _ => none) = _
    rw [ha]
    rfl
  have s0 : setX h 1 (.int 0) (.int (p + 1)) = some (setA h (p + 1)) := setX_lst (k := 0) ha (by simp)
  have st : ∀ x : Int, bRet (bBinW .Mod (bB1 (fun _ d => intD d) (bIf (bCmp .Lt (bVarO 3) (bB1 (fun h d => (lenV h d).map .int) (bVarO 0))) (bIx (bVarO 0) (bVarO 3)) (bCall 1 (bCons (bVar 0) (bCons (bVar 3) bNil))))) (bVarO 2)) (Cf pg (k + 1)) [.v (.lst (ds.map .int)), .v (.ref 1), .v (.int m), .v (.int p)] (setA h (p + 1)) = .rt (.int (x % m)) (setA h (p + 1)) → ev_2 (Cf pg (k + 1)) (startS 4 [.lst (ds.map .int), .ref 1, .int m]) h = .rt (.int (x % m)) (setA h (p + 1)) := fun x e => by
    unfold ev_2
    refine (seq_nx (σ' := [.v (.lst (ds.map .int)), .v (.ref 1), .v (.int m), .v (.int p)]) (h' := h) (set_ok (ix_ok (x := .ref 1) (h2 := h) rfl rfl i0))).trans ?_
    exact (seq_nx (σ' := [.v (.lst (ds.map .int)), .v (.ref 1), .v (.int m), .v (.int p)]) (h' := setA h (p + 1)) (setIx_ok (d := .int (p + 1)) (bBinW_ok (x := .int p) (y := .int 1) (h1 := h) rfl rfl opW_addI) rfl rfl s0)).trans e
  have b : ∀ x : Int, 0 ≤ x % m ∧ x % m < m := fun x => ⟨Int.emod_nonneg _ (by omega), Int.emod_lt_of_pos _ hm⟩
  by_cases hlt : p < (ds.length : Nat)
  · obtain ⟨n, hn⟩ := Int.eq_ofNat_of_zero_le hp
    have hlt' : n < ds.length := by omega
    refine ⟨ds[n] % m, b _, run_rt (st _ ?_)⟩
    refine ret_ok (bBinW_ok (b1_ok (x := .int ds[n]) (h1 := setA h (p + 1)) (ifE_t (h1 := setA h (p + 1)) (cmp_ok rfl (len_l (xs := ds.map .int) rfl) (lt_cmp.trans (by simp; omega))) (ix_ok (x := .lst (ds.map .int)) (h2 := setA h (p + 1)) rfl rfl ?_)) rfl) rfl (opW_modG hm))
    show L2.atI (ds.map D.int) p = _
    rw [hn, atI_nat (by simpa using hlt')]
    simp [hlt']
  · obtain ⟨v, e⟩ := c1 (k := k) (ds := ds) (p := p) (h := setA h (p + 1)) hl
    refine ⟨v % m, b _, run_rt (st _ ?_)⟩
    exact ret_ok (bBinW_ok (b1_ok (x := .int v) (h1 := setA h (p + 1)) (ifE_f (h1 := setA h (p + 1)) (cmp_ok rfl (len_l (xs := ds.map .int) rfl) (lt_cmp.trans (by simp; omega))) (call_ok (cons_ok rfl (cons_ok rfl rfl)) e)) rfl) rfl (opW_modG hm))
theorem c3 {k : Nat} {ds : List Int} {p : Int} {h : LH} {rows : List D} (hl : ds.length ≤ 10000) (ha : AT h p) (hp : 0 ≤ p) (hr : 0 < rows.length) : ∃ d, d ∈ rows ∧ Cf pg (k + 3) 3 [.lst rows, .lst (ds.map .int), .ref 1] h = .ok d (setA h (p + 1)) := by
  obtain ⟨v, ⟨v1, v2⟩, e⟩ := c2 (k := k) (ds := ds) (p := p) (m := (rows.length : Nat)) (h := h) hl ha hp (by omega)
  obtain ⟨n, hn⟩ := Int.eq_ofNat_of_zero_le v1
  have hlt : n < rows.length := by omega
  refine ⟨rows[n], List.getElem_mem hlt, ?_⟩
  rw [cf3]
  refine run_rt (ret_ok (ix_ok (x := .lst rows) (h1 := h) rfl (call_ok (cons_ok rfl (cons_ok rfl (cons_ok (len_l (xs := rows) rfl) rfl))) e) ?_))
  show L2.atI rows v = _
  rw [hn, atI_nat hlt]
  simp [hlt]
theorem c3i {k : Nat} {ds : List Int} {p : Int} {h : LH} {rows : List Int} (hl : ds.length ≤ 10000) (ha : AT h p) (hp : 0 ≤ p) (hr : 0 < rows.length) : ∃ v, v ∈ rows ∧ Cf pg (k + 3) 3 [.lst (rows.map .int), .lst (ds.map .int), .ref 1] h = .ok (.int v) (setA h (p + 1)) := by
  obtain ⟨d, m, e⟩ := c3 (k := k) (h := h) (rows := rows.map .int) hl ha hp (by simpa using hr)
  obtain ⟨v, hv, rfl⟩ := List.mem_map.mp m
  exact ⟨v, hv, e⟩
theorem lcL_draw {i : Nat} {q : DSt → LH → Out Bool} {e : DSt → LH → Out D} {σ : DSt} {P : D → Prop} (hq : ∀ x h, q (σ.set i (.v x)) h = .ok true h) : ∀ (xs acc : List D) (h : LH) (p : Int), (∀ x ∈ xs, ∀ h p, AT h p → 0 ≤ p → ∃ d p', p ≤ p' ∧ P d ∧ e (σ.set i (.v x)) h = .ok d (setA h p')) → AT h p → 0 ≤ p → acc.length + xs.length ≤ 1000000 →
    ∃ ys p', p ≤ p' ∧ ys.length = xs.length ∧ (∀ y ∈ ys, P y) ∧ lcL [] (.nm i) q e σ xs acc h = .ok (acc ++ ys) (setA h p')
  | [], acc, h, p, _, ha, _, _ => ⟨[], p, Int.le_refl _, rfl, (fun _ h => by cases h), by simp [lcL, gdOk, set_same ha]⟩
  | x :: xs, acc, h, p, he, ha, hp, hl => by
    obtain ⟨d, p1, hp1, pd, e1⟩ := he x List.mem_cons_self h p ha hp
    have hlt : acc.length < LIM := by
      simp only [List.length_cons] at hl
      show acc.length < 16777216
      omega
    obtain ⟨ys, p2, hp2, hy, py, e2⟩ := lcL_draw (P := P) hq xs (acc ++ [d]) (setA h p1) p1 (fun y hy => he y (List.mem_cons_of_mem _ hy)) (at_set ha) (by omega) (by simp at hl ⊢; omega)
    refine ⟨d :: ys, p2, by omega, by simp [hy], fun y h => (List.mem_cons.mp h).elim (fun z => z ▸ pd) (py y), ?_⟩
    simp only [lcL, gdOk, List.all_nil, if_true, bindT, hq, e1]
    rw [if_pos hlt, e2, setA2]
    simp
theorem AT.app {h x : LH} {p : Int} (a : AT h p) : AT (h ++ x) p := get_app a
theorem ret_of {e : DE} {c : Calls} {σ : DSt} {h : LH} {o : Out D} (he : e c σ h = o) : bRet e c σ h = o.toS σ fun d h1 => .rt d h1 := by unfold bRet; rw [he]
def gBk (d : D) : Prop := ∃ bs : List Int, d = iT bs ∧ bs.length = 32 ∧ byt bs
def gX (d : D) : Prop := d = .non ∨ gBk d
theorem blk_of {bs : List Int} (hl : bs.length = 32) (hb : byt bs) : isBlk (iT bs) = true := by
  show (decide ((bs.map D.int).length = 32) && (bs.map D.int).all fun x => rngD x 0 255) = true
  rw [all_byt hb]
  simp [hl]
theorem okE_ints {bs : List Int} (hl : bs.length ≤ 1000) : okE (iT bs) = true := by
  simp only [iT, okE, Bool.and_eq_true, decide_eq_true_eq, List.all_eq_true]
  exact ⟨okI bs, by simpa using hl⟩
theorem gBk.okE {d : D} (g : gBk d) : okE d = true := by
  obtain ⟨bs, rfl, hl, hb⟩ := g
  exact okE_ints (by omega)
theorem gBk.blk {d : D} (g : gBk d) : isBlk d = true := by
  obtain ⟨bs, rfl, hl, hb⟩ := g
  exact blk_of hl hb
theorem gX.okE {d : D} (g : gX d) : okE d = true := by
  rcases g with rfl | g
  · rfl
  · exact g.okE
theorem gX.ok {d : D} (g : gX d) : blkOk d = true := by
  rcases g with rfl | g
  · rfl
  · unfold blkOk
    rw [g.blk, Bool.or_true]
theorem gX.pl {d : D} (g : gX d) {n : Nat} (hn : 1 ≤ n) : pl n d = true := by
  rcases g with rfl | ⟨bs, rfl, _, _⟩
  · obtain ⟨m, rfl⟩ : ∃ m, n = m + 1 := ⟨n - 1, by omega⟩
    rfl
  · exact pl_iT bs hn
def gI (img : List D) : Prop := ∀ x ∈ img, gX x
theorem gI.okC {img : List D} (g : gI img) : okC (.tup img) = true := List.all_eq_true.mpr fun x hx => (g x hx).okE
theorem gI.chk {img : List D} (g : gI img) (h1 : 48 ≤ img.length) (h2 : img.length ≤ 160) : chk (.tup img) = none := by
  have : img.all blkOk = true := List.all_eq_true.mpr fun x hx => (g x hx).ok
  show (if 48 ≤ img.length ∧ img.length ≤ 160 then (if img.all blkOk = true then (none : Option PySem.Str) else some ("block" : PySem.Str)) else some ("size" : PySem.Str)) = none
  rw [if_pos ⟨h1, h2⟩, if_pos this]
theorem pls_of : ∀ {xs : List D} {n : Nat}, (∀ x ∈ xs, pl n x = true) → pls n xs = true
  | [], _, _ => rfl
  | x :: xs, n, h => by
    show (pl n x && pls n xs) = true
    rw [h x List.mem_cons_self, pls_of (fun y hy => h y (List.mem_cons_of_mem _ hy))]
    rfl
theorem gI.pl {img : List D} (g : gI img) {n : Nat} (hn : 2 ≤ n) : pl n (.tup img) = true := by
  obtain ⟨m, rfl⟩ : ∃ m, n = m + 1 := ⟨n - 1, by omega⟩
  show pls m img = true
  exact pls_of fun x hx => (g x hx).pl (by omega)
theorem forL_rt {gs : List (Nat × LO)} {t : Tg} {body : DSt → LH → OutS} {x d : D} {xs : List D} {σ σ1 : DSt} {h h2 : LH} (g : gdOk gs h = true) (e1 : bindT t x σ = some σ1) (e2 : body σ1 h = .rt d h2) : forL gs t body (x :: xs) σ h = .rt d h2 := by
  simp only [forL, g, if_true, e1, e2]
theorem lc2_nx {gs g1 : List (Nat × LO)} {t t1 : Tg} {q q1 : DSt → LH → Out Bool} {src1 : DSt → LH → Out Src} {vs1 : List Nat} {e : DSt → LH → Out D} {σ σ1 : DSt} {x : D} {xs acc acc' ys : List D} {h h1 h2 h3 : LH} (g : gdOk gs h = true) (b : bindT t x σ = some σ1) (eq : q σ1 h = .ok true h1) (es : src1 σ1 h1 = .ok (ys, g1) h2) (el : lcL g1 t1 q1 e (wipeS σ1 vs1) ys acc h2 = .ok acc' h3) :
    lc2L gs t q src1 vs1 t1 q1 e σ (x :: xs) acc h = lc2L gs t q src1 vs1 t1 q1 e σ xs acc' h3 := by
  simp only [lc2L, g, if_true, b, eq, es, el]
def zeD : D := iT (List.replicate 32 0)
theorem z_ok {c : Calls} {σ : DSt} {h : LH} : bBinW .Mult (bTup (bCons (bLit (.int 0)) bNil)) (bLit (.int 32)) c σ h = .ok zeD h := bBinW_ok (x := .tup [.int 0]) (y := .int 32) rfl rfl ((opW_mulT (by decide) (by decide)).trans rfl)
theorem gBk_z : gBk zeD := ⟨_, rfl, by simp, fun x hx => by rw [(List.mem_replicate.mp hx).2]; decide⟩
theorem gI_z {n : Nat} : gI (List.replicate n zeD) := fun x hx => by rw [(List.mem_replicate.mp hx).2]; exact .inr gBk_z
end Bh
namespace Bh
open PySem PySem.Spec PyProof.Rows L2
/-! ### the errors -/
def clsN : Nat → Nat
  | 0 => 2 | 1 => 4 | 2 => 5 | 3 => 3 | 4 => 6 | 5 => 7 | _ => 8
def fldN (j : Nat) (a b : D) : List D := if j = 5 then [a, b] else [a]
def kinds (j : Nat) : D := .lst ((List.range 7).map fun i => .bl (decide (i = j)))
theorem c5 {k j : Nat} {a b : D} {h : LH} (hj : j < 7) : Cf pg (k + 1) 5 [.int (j : Nat), a, b] h = .ex (clsN j) (fldN j a b) h := by
  match j, hj with
  | 0, _ => rfl
  | 1, _ => rfl
  | 2, _ => rfl
  | 3, _ => rfl
  | 4, _ => rfl
  | 5, _ => rfl
  | 6, _ => rfl
theorem c7 {k j : Nat} {a b : D} {h : LH} (hj : j < 7) : Cf pg (k + 2) 7 [.int (j : Nat), a, b] h = .ok (kinds j) h := by
  match j, hj with
  | 0, _ => rfl
  | 1, _ => rfl
  | 2, _ => rfl
  | 3, _ => rfl
  | 4, _ => rfl
  | 5, _ => rfl
  | 6, _ => rfl
theorem c8 {k j : Nat} {a b : D} {h : LH} (hj : j < 7) : Cf pg (k + 2) 8 [.int (j : Nat), a, b] h = .ok (.tup (fldN j a b)) h := by
  match j, hj with
  | 0, _ => rfl
  | 1, _ => rfl
  | 2, _ => rfl
  | 3, _ => rfl
  | 4, _ => rfl
  | 5, _ => rfl
  | 6, _ => rfl
/-! ### texts of values -/
theorem strOk_app {a b : PySem.Str} (ha : PyData.strOk a = true) (hb : PyData.strOk b = true) : PyData.strOk (a ++ b) = true := by
  show ((a.cps ++ b.cps).all (· < 0x110000)) = true
  rw [Array.all_append]
  exact Bool.and_eq_true_iff.mpr ⟨ha, hb⟩
theorem strOk_join {s : PySem.Str} (hs : PyData.strOk s = true) : ∀ ts : List PySem.Str, (∀ t ∈ ts, PyData.strOk t = true) → PyData.strOk (PySem.Str.join s ts) = true
  | [], _ => by
    show PyData.strOk (Str.ofString "") = true
    decide +kernel
  | [x], h => h x List.mem_cons_self
  | x :: y :: r, h => by
    show PyData.strOk (x ++ s ++ PySem.Str.join s (y :: r)) = true
    exact strOk_app (strOk_app (h x List.mem_cons_self) hs) (strOk_join hs (y :: r) fun t ht => h t (List.mem_cons_of_mem _ ht))
structure Sh (B : Nat) (p : PyData) : Prop where
  t : PyData.strOk p.shown = true
  s : p.showable = true
  d : p.hasDict = false
  l : p.leavesShort 13 = true
  b : p.bulk ≤ B
theorem sh_non : Sh 0 .none := ⟨by simp only [PyData.shown]; decide +kernel, by simp only [PyData.showable], by simp only [PyData.hasDict], by simp only [PyData.leavesShort], by simp only [PyData.bulk]; exact Nat.le_refl _⟩
theorem small_t : ∀ n : Fin 256, PyData.strOk (Str.ofString (toString ((n.val : Nat) : Int))) = true ∧ (Str.ofString (toString ((n.val : Nat) : Int))).length ≤ 13 := by decide +kernel
theorem sh_int {i : Int} (h0 : 0 ≤ i) (h1 : i ≤ 255) : Sh 0 (.int i) := by
  obtain ⟨n, rfl⟩ := Int.eq_ofNat_of_zero_le h0
  have := small_t ⟨n, by omega⟩
  refine ⟨?_, ?_, by simp only [PyData.hasDict], ?_, by simp only [PyData.bulk]; exact Nat.le_refl _⟩
  · simp only [PyData.shown]
    exact this.1
  · simp only [PyData.showable]
    refine decide_eq_true ?_
    show n.log2 < 1920
    have : n.log2 ≤ n := Nat.log2_le_self n
    omega
  · simp only [PyData.leavesShort, PyData.shown]
    exact decide_eq_true this.2
theorem shownAll_ok : ∀ ps : List PyData, (∀ p ∈ ps, PyData.strOk p.shown = true) → ∀ t ∈ PyData.shownAll ps, PyData.strOk t = true
  | [], _, t, ht => by simp [PyData.shownAll] at ht
  | p :: ps, h, t, ht => by
    simp only [PyData.shownAll, List.mem_cons] at ht
    rcases ht with rfl | ht
    · exact h p List.mem_cons_self
    · exact shownAll_ok ps (fun q hq => h q (List.mem_cons_of_mem _ hq)) t ht
theorem sh_all {B : Nat} : ∀ ps : List PyData, (∀ p ∈ ps, Sh B p) → PyData.showableAll ps = true ∧ PyData.hasDictAll ps = false ∧ PyData.leavesShortAll 13 ps = true ∧ PyData.bulkAll ps ≤ (B + 1) * ps.length
  | [], _ => ⟨by simp only [PyData.showableAll], by simp only [PyData.hasDictAll], by simp only [PyData.leavesShortAll], by simp [PyData.bulkAll]⟩
  | p :: ps, h => by
    have q := h p List.mem_cons_self
    obtain ⟨a, b, c, d⟩ := sh_all ps fun q hq => h q (List.mem_cons_of_mem _ hq)
    refine ⟨by simp only [PyData.showableAll, q.s, a, Bool.and_self], by simp only [PyData.hasDictAll, q.d, b, Bool.or_self], by simp only [PyData.leavesShortAll, q.l, c, Bool.and_self], ?_⟩
    simp only [PyData.bulkAll, List.length_cons]
    have := q.b
    rw [Nat.mul_add, Nat.mul_one]
    omega
theorem sh_tup {B : Nat} {ps : List PyData} (h : ∀ p ∈ ps, Sh B p) : Sh ((B + 1) * ps.length) (.tuple ps) := by
  obtain ⟨a, b, c, d⟩ := sh_all ps h
  refine ⟨?_, by simp only [PyData.showable, a], by simp only [PyData.hasDict, b], by simp only [PyData.leavesShort, c], by simp only [PyData.bulk]; exact d⟩
  simp only [PyData.shown]
  unfold tupleText
  refine strOk_app (strOk_app (by decide +kernel) (strOk_join (by decide +kernel) _ (shownAll_ok ps fun p hp => (h p hp).t))) ?_
  split <;> decide +kernel
theorem Sh.mono {B C : Nat} {p : PyData} (h : Sh B p) (l : B ≤ C) : Sh C p := ⟨h.t, h.s, h.d, h.l, Nat.le_trans h.b l⟩
theorem sh_intV {i : Int} (h1 : PyData.strOk (Str.ofString (toString i)) = true) (h2 : (Str.ofString (toString i)).length ≤ 13) (h3 : i.natAbs.log2 < 1920) : Sh 0 (.int i) := by
  refine ⟨?_, ?_, by simp only [PyData.hasDict], ?_, by simp only [PyData.bulk]; exact Nat.le_refl _⟩
  · simp only [PyData.shown]
    exact h1
  · simp only [PyData.showable]
    exact decide_eq_true h3
  · simp only [PyData.leavesShort, PyData.shown]
    exact decide_eq_true h2
theorem sh_bl (b : Bool) : Sh 0 (.bool b) := by
  refine ⟨?_, by simp only [PyData.showable], by simp only [PyData.hasDict], ?_, by simp only [PyData.bulk]; exact Nat.le_refl _⟩
  · simp only [PyData.shown]
    cases b <;> decide +kernel
  · simp only [PyData.leavesShort]
theorem textFrom_ok : ∀ (ts : List PySem.Str) (k : Nat) (acc : PySem.Str), (∀ t ∈ ts, PyData.strOk t = true) → PyData.strOk acc = true → PyData.strOk (textFrom k acc ts) = true
  | [], k, acc, _, ha => ha
  | t :: r, k, acc, h, ha => by
    unfold textFrom
    refine textFrom_ok r (k + 1) _ (fun x hx => h x (List.mem_cons_of_mem _ hx)) (strOk_app ?_ (h t List.mem_cons_self))
    split
    · exact strOk_app ha (by decide +kernel)
    · exact ha
theorem sh_list {B : Nat} {ps : List PyData} (h : ∀ p ∈ ps, Sh B p) : Sh ((B + 1) * ps.length) (.list ps) := by
  obtain ⟨a, b, c, d⟩ := sh_all ps h
  refine ⟨?_, by simp only [PyData.showable, a], by simp only [PyData.hasDict, b], by simp only [PyData.leavesShort, c], by simp only [PyData.bulk]; exact d⟩
  simp only [PyData.shown]
  unfold listText
  exact strOk_app (textFrom_ok _ 0 "[" (shownAll_ok ps fun p hp => (h p hp).t) (by decide +kernel)) (by decide +kernel)
def vals : List D := [.str "word", .str "", .str "form", .int 0, .int 17, .int (-3), .non, .tup [.str "a", .int 5], .str "a line", .bl true]
theorem sh_strV {s : PySem.Str} (h1 : PyData.strOk (reprText s) = true) (h2 : PyData.leavesShort 13 (.str s) = true) (h3 : PyData.bulk (.str s) ≤ 20) : Sh 20 (pd (.str s)) := ⟨by
  show PyData.strOk (PyData.shown (.str s)) = true
  simp only [PyData.shown]
  exact h1, by show PyData.showable (.str s) = true; simp only [PyData.showable], by show PyData.hasDict (.str s) = false; simp only [PyData.hasDict], h2, h3⟩
theorem sh_val {a : D} (ha : a ∈ vals) : Sh 50 (pd a) := by
  simp only [vals, List.mem_cons, List.not_mem_nil, or_false] at ha
  have st : ∀ s : PySem.Str, s ∈ [("word" : PySem.Str), "", "form", "a", "a line"] → Sh 20 (pd (.str s)) := fun s hs => by
    simp only [List.mem_cons, List.not_mem_nil, or_false] at hs
    rcases hs with rfl | rfl | rfl | rfl | rfl <;> exact sh_strV (by decide +kernel) (by simp only [PyData.leavesShort]; decide +kernel) (by simp only [PyData.bulk]; decide +kernel)
  have it : ∀ i : Int, i ∈ [(0 : Int), 17, -3, 5] → Sh 0 (pd (.int i)) := fun i hi => by
    simp only [List.mem_cons, List.not_mem_nil, or_false] at hi
    rcases hi with rfl | rfl | rfl | rfl <;> exact sh_intV (by decide +kernel) (by decide +kernel) (by decide +kernel)
  rcases ha with rfl | rfl | rfl | rfl | rfl | rfl | rfl | rfl | rfl | rfl
  · exact (st _ (by simp)).mono (by decide)
  · exact (st _ (by simp)).mono (by decide)
  · exact (st _ (by simp)).mono (by decide)
  · exact (it _ (by simp)).mono (by decide)
  · exact (it _ (by simp)).mono (by decide)
  · exact (it _ (by simp)).mono (by decide)
  · exact sh_non.mono (by decide)
  · refine (sh_tup (B := 20) (ps := [pd (.str "a"), pd (.int 5)]) fun p hp => ?_).mono (by decide)
    simp only [List.mem_cons, List.not_mem_nil, or_false] at hp
    rcases hp with rfl | rfl
    · exact st _ (by simp)
    · exact (it _ (by simp)).mono (by decide)
  · exact (st _ (by simp)).mono (by decide)
  · exact (sh_bl true).mono (by decide)
theorem rep_sh {d : D} {B : Nat} (hp : ∀ h, toP h 30 d = some (pd d)) (ht : ∃ ps, pd d = .list ps ∨ pd d = .tuple ps) (S : Sh B (pd d)) (hB : B ≤ 1000) : ∃ s, PyData.strOk s = true ∧ ∀ h, reprD h d = some (.str s) := by
  refine ⟨(pd d).shown, S.t, fun h => ?_⟩
  unfold reprD
  rw [hp h]
  have ok : okShow (pd d) = true := by
    have fits := PyData.shown_fits_bulk (B := 13) (by decide) (by decide) S.l (Nat.le_trans S.b (Nat.le_trans hB (by decide)))
    unfold okShow
    rw [S.s, S.d, decide_eq_true (by rw [← lim_eq]; exact fits)]
    rcases ht with ⟨ps, e | e⟩ <;> rw [e] <;> rfl
  rw [Option.bind_some, if_pos ok]
theorem toP_val {a : D} (ha : a ∈ vals) (h : LH) : toP h 29 a = some (pd a) := by
  simp only [vals, List.mem_cons, List.not_mem_nil, or_false] at ha
  rcases ha with rfl | rfl | rfl | rfl | rfl | rfl | rfl | rfl | rfl | rfl
  · exact toP_pd h 29 _ (by decide +kernel)
  · exact toP_pd h 29 _ (by decide +kernel)
  · exact toP_pd h 29 _ (by decide +kernel)
  · exact toP_pd h 29 _ (by decide +kernel)
  · exact toP_pd h 29 _ (by decide +kernel)
  · exact toP_pd h 29 _ (by decide +kernel)
  · exact toP_pd h 29 _ (by decide +kernel)
  · exact toP_pd h 29 _ (by decide +kernel)
  · exact toP_pd h 29 _ (by decide +kernel)
  · rfl
theorem rep_ok {j : Nat} {a b : D} (ha : a ∈ vals) (hb : b ∈ vals) : ∃ s, PyData.strOk s = true ∧ ∀ h, reprD h (.tup (fldN j a b)) = some (.str s) := by
  unfold fldN
  split
  · refine rep_sh (B := 51 * 2) ?_ ⟨_, .inr rfl⟩ (sh_tup (B := 50) (ps := [pd a, pd b]) fun p hp => ?_) (by decide)
    · intro h
      show (mapO (toP h 29) [a, b]).map PyData.tuple = _
      simp only [mapO, toP_val ha h, toP_val hb h, Option.bind_some, Option.map_some]
      rfl
    · simp only [List.mem_cons, List.not_mem_nil, or_false] at hp
      rcases hp with rfl | rfl
      · exact sh_val ha
      · exact sh_val hb
  · refine rep_sh (B := 51 * 1) ?_ ⟨_, .inr rfl⟩ (sh_tup (B := 50) (ps := [pd a]) fun p hp => ?_) (by decide)
    · intro h
      show (mapO (toP h 29) [a]).map PyData.tuple = _
      simp only [mapO, toP_val ha h, Option.bind_some, Option.map_some]
      rfl
    · rw [List.mem_singleton.mp hp]
      exact sh_val ha
def limL : List Int := [160, 24, 60, 20, 6, 6, 64, 1280, 60, 7, 3, 200, 20000, 64, 8, 6, 200, 400]
theorem rep_lim : ∃ s, PyData.strOk s = true ∧ ∀ h, reprD h (.lst (limL.map .int)) = some (.str s) := by
  refine rep_sh (B := 1 * 18) (fun h => toP_pd h 30 _ (by decide +kernel)) ⟨_, .inl rfl⟩ (sh_list (B := 0) (ps := limL.map PyData.int) fun p hp => ?_) (by decide)
  obtain ⟨i, hi, rfl⟩ := List.mem_map.mp hp
  have : ∀ i ∈ limL, PyData.strOk (Str.ofString (toString i)) = true ∧ (Str.ofString (toString i)).length ≤ 13 ∧ i.natAbs.log2 < 1920 := by decide +kernel
  exact sh_intV (this i hi).1 (this i hi).2.1 (this i hi).2.2
theorem lim_ok {c : Calls} {σ : DSt} {h : LH} : bCallG N_4.length ev_4 c σ h = .ok (.bl true) h := by
  obtain ⟨s, hs, er⟩ := rep_lim
  refine run_rt (n := N_4.length) (ev := ev_4 c) (ds := []) ?_
  unfold ev_4
  refine (seq_nx (σ' := [.v (.lst ((limL.take 9).map .int)), .no]) (h' := h) rfl).trans ?_
  refine (seq_nx (σ' := [.v (.lst (limL.map .int)), .no]) (h' := h) rfl).trans ?_
  refine (seq_nx (σ' := [.v (.lst (limL.map .int)), .v (.lst (limL.map .int))]) (h' := h) rfl).trans ?_
  refine ret_ok (bl_ok ((cmp_ok (x := .str s) (y := .str s) (h1 := h) (b1_ok (x := .lst (limL.map .int)) (h1 := h) rfl (er _)) (b1_ok (x := .lst (limL.map .int)) (h1 := h) rfl (er _)) (eq_cmp (deq_pl (x := .str s) (y := .str s) hs hs))).trans ?_))
  rw [decide_eq_true rfl]
end Bh
namespace Bh
open PySem PySem.Spec PyProof.Rows L2
theorem rngL_eq : ∀ (n : Nat) (lo : Int), rngL lo n = (List.range n).map fun i : Nat => D.int (lo + (i : Nat))
  | 0, _ => rfl
  | n + 1, lo => by
    rw [rngL, rngL_eq n (lo + 1), List.range_succ_eq_map, List.map_cons, List.map_map]
    congr 1
    · simp
    · refine List.map_congr_left fun i _ => ?_
      show D.int _ = D.int _
      congr 1
      simp only [Nat.succ_eq_add_one]
      omega
theorem rng0 (n : Nat) : rngL 0 n = (List.range n).map fun i : Nat => D.int (i : Nat) := by
  rw [rngL_eq]
  refine List.map_congr_left fun i _ => ?_
  rw [Int.zero_add]
theorem rng_nth {n : Nat} {x : D} {j : Nat} (h : (rngL 0 n)[j]? = some x) : x = .int (j : Nat) := by
  obtain ⟨_, e⟩ := rngL_get _ _ _ _ h
  rw [e, Int.zero_add]
theorem forL_num {t : Tg} {body : DSt → LH → OutS} (P : Nat → DSt → LH → Prop) (n : Nat) (σ : DSt) (h : LH) (hb : ∀ j σ h, j < n → P j σ h → ∃ σ1 σ2 h2, bindT t (.int (j : Nat)) σ = some σ1 ∧ body σ1 h = .nx σ2 h2 ∧ P (j + 1) σ2 h2) (p : P 0 σ h) : ∃ σ' h', forL [] t body (rngL 0 n) σ h = .nx σ' h' ∧ P n σ' h' := by
  have key : ∀ (m j : Nat) (σ : DSt) (h : LH), j + m = n → P j σ h → ∃ σ' h', forL [] t body (rngL (j : Nat) m) σ h = .nx σ' h' ∧ P n σ' h' := by
    intro m
    induction m with
    | zero =>
      intro j σ h hj p
      obtain rfl : j = n := by omega
      exact ⟨σ, h, by simp [forL, gdOk, rngL], p⟩
    | succ m ih =>
      intro j σ h hj p
      obtain ⟨σ1, σ2, h2, e1, e2, p2⟩ := hb j σ h (by omega) p
      obtain ⟨σ', h', e3, p3⟩ := ih (j + 1) σ2 h2 (by omega) p2
      refine ⟨σ', h', ?_, p3⟩
      rw [rngL, forL_nx rfl e1 e2]
      exact e3
  exact key n 0 σ h (by omega) p
theorem par_ok {is : List Nat} {er : DEs} {c : Calls} {σ : DSt} {h h1 : LH} {xs : List D} (e : er c σ h = .ok xs h1) : bPar is er c σ h = .nx (setAll σ is xs) h1 := by
  unfold bPar
  rw [e]
  rfl
/-! ### the law -/
def B9 : DS := (bSeq (bPar [5, 6] (bCons (bCall 3 (bCons (bVar 3) (bCons (bVar 1) (bCons (bVar 2) bNil)))) (bCons (bCall 3 (bCons (bVar 3) (bCons (bVar 1) (bCons (bVar 2) bNil)))) bNil))) (bSeq (bIfS (bCmp .NotEq (bCall 7 (bCons (bVar 4) (bCons (bVar 5) (bCons (bVar 6) bNil)))) (bLstV (bLc [7] (.nm 7) (bRng1 (bLit (.int 7))) bYes (bBl (bCmp .Eq (bVarO 7) (bVarO 4)))))) (bRet (bLit (.bl false))) bSkip) (bIfS (bCmp .NotEq (bB1 reprD (bCall 8 (bCons (bVar 4) (bCons (bVar 5) (bCons (bVar 6) bNil))))) (bB1 reprD (bIf (bCmp .Eq (bVarO 4) (bLit (.int 5))) (bTup (bCons (bVar 5) (bCons (bVar 6) bNil))) (bTup (bCons (bVar 5) bNil))))) (bRet (bLit (.bl false))) bSkip)))
theorem ev9_eq : ev_9 = (bSeq (bSet 1 (bCall 0 (bCons (bVar 0) bNil))) (bSeq (bSet 2 (bLstR (bCons (bLit (.int 0)) bNil))) (bSeq (bIfS (bNotT (bTru (bCallG N_4.length ev_4))) (bRet (bLit (.bl false))) bSkip) (bSeq (bSet 3 (bLstV (bCons (bLit (.str "word")) (bCons (bLit (.str "")) (bCons (bLit (.str "form")) (bCons (bLit (.int 0)) (bCons (bLit (.int 17)) (bCons (bNeg (bLit (.int 3))) (bCons (bLit .non) (bCons (bTup (bCons (bLit (.str "a")) (bCons (bLit (.int 5)) bNil))) (bCons (bLit (.str "a line")) (bCons (bLit (.bl true)) bNil)))))))))))) (bSeq (bFor (.nm 4) (bRng1 (bLit (.int 7))) B9) (bRet (bLit (.bl true)))))))) := rfl
section
variable {ds : List Int} {p : Int} {h : LH}
def P9 (ds : List Int) (σ : DSt) (h : LH) : Prop := ∃ (p : Int) (s4 s5 s6 : Sl), 0 ≤ p ∧ AT h p ∧ σ = [.v (.ref 0), .v (.lst (ds.map .int)), .v (.ref 1), .v (.lst vals), s4, s5, s6, .no]
theorem kinds_ne {h : LH} {j : Nat} (hj : j < 7) : cmpV h .NotEq (kinds j) (kinds j) = some false := by
  match j, hj with
  | 0, _ => rfl
  | 1, _ => rfl
  | 2, _ => rfl
  | 3, _ => rfl
  | 4, _ => rfl
  | 5, _ => rfl
  | 6, _ => rfl
theorem comp_ok {c : Calls} {j : Nat} {s0 s1 s2 s3 s5 s6 : Sl} (hj : j < 7) : bLstV (bLc [7] (.nm 7) (bRng1 (bLit (.int 7))) bYes (bBl (bCmp .Eq (bVarO 7) (bVarO 4)))) c [s0, s1, s2, s3, .v (.int (j : Nat)), s5, s6, .no] h = .ok (kinds j) h := by
  match j, hj with
  | 0, _ => rfl
  | 1, _ => rfl
  | 2, _ => rfl
  | 3, _ => rfl
  | 4, _ => rfl
  | 5, _ => rfl
  | 6, _ => rfl
theorem turn (hl : ds.length ≤ 10000) (ha : AT h p) (hp : 0 ≤ p) {j : Nat} (hj : j < 7) {s5 s6 : Sl} : ∃ σ' h', B9 (Cf pg 11) [.v (.ref 0), .v (.lst (ds.map .int)), .v (.ref 1), .v (.lst vals), .v (.int (j : Nat)), s5, s6, .no] h = .nx σ' h' ∧ P9 ds σ' h' := by
  obtain ⟨a, ma, e1⟩ := c3 (k := 8) (ds := ds) (p := p) (h := h) (rows := vals) hl ha hp (by simp [vals])
  obtain ⟨b, mb, e2⟩ := c3 (k := 8) (ds := ds) (p := p + 1) (h := setA h (p + 1)) (rows := vals) hl (at_set ha) (by omega) (by simp [vals])
  rw [setA2] at e2
  generalize hH : setA h (p + 1 + 1) = H at *
  have aH : AT H (p + 1 + 1) := by rw [← hH]; exact at_set ha
  refine ⟨[.v (.ref 0), .v (.lst (ds.map .int)), .v (.ref 1), .v (.lst vals), .v (.int (j : Nat)), .v a, .v b, .no], H, ?_, p + 1 + 1, _, _, _, by omega, aH, rfl⟩
  refine (seq_nx (par_ok (cons_ok (call_ok (cons_ok rfl (cons_ok rfl (cons_ok rfl rfl))) e1) (cons_ok (call_ok (cons_ok rfl (cons_ok rfl (cons_ok rfl rfl))) e2) rfl)))).trans ?_
  refine (seq_nx (σ' := [.v (.ref 0), .v (.lst (ds.map .int)), .v (.ref 1), .v (.lst vals), .v (.int (j : Nat)), .v a, .v b, .no]) (h' := H) ((if_f (cmp_ok (x := kinds j) (y := kinds j) (h1 := H) (call_ok (cons_ok (x := .int (j : Nat)) (h1 := H) rfl (cons_ok (x := a) (h1 := H) rfl (cons_ok (x := b) (h1 := H) rfl rfl))) (c7 (k := 9) hj)) (comp_ok hj) (kinds_ne hj))).trans rfl)).trans ?_
  obtain ⟨s, hs, er⟩ := rep_ok (j := j) ma mb
  have q : bIf (bCmp .Eq (bVarO 4) (bLit (.int 5))) (bTup (bCons (bVar 5) (bCons (bVar 6) bNil))) (bTup (bCons (bVar 5) bNil)) (Cf pg 11) [.v (.ref 0), .v (.lst (ds.map .int)), .v (.ref 1), .v (.lst vals), .v (.int (j : Nat)), .v a, .v b, .no] H = .ok (.tup (fldN j a b)) H := by
    match j, hj with
    | 0, _ => rfl
    | 1, _ => rfl
    | 2, _ => rfl
    | 3, _ => rfl
    | 4, _ => rfl
    | 5, _ => rfl
    | 6, _ => rfl
  refine (if_f (h' := H) ((cmp_ok (x := .str s) (y := .str s) (h1 := H) (b1_ok (x := .tup (fldN j a b)) (h1 := H) (call_ok (cons_ok (x := .int (j : Nat)) (h1 := H) rfl (cons_ok (x := a) (h1 := H) rfl (cons_ok (x := b) (h1 := H) rfl rfl))) (c8 (k := 9) hj)) (er _)) (b1_ok (x := .tup (fldN j a b)) (h1 := H) q (er _)) (ne_cmp (deq_pl (x := .str s) (y := .str s) hs hs))).trans ?_)).trans rfl
  rw [decide_eq_true rfl]
  rfl
end
theorem law_true (ns : List Int) (hl : ns.length ≤ 63) : ∃ h', cLaw 9 [D.ref 0] [.lkL (ns.map D.int)] = .ok (.bl true) h' := by
  obtain ⟨ds, hlen, e0⟩ := c0 (k := 10) hl
  have a0 : AT [.lkL (ns.map D.int), .lst [.int 0]] 0 := rfl
  obtain ⟨σ', h', e, p', s4, s5, s6, hp', ha', rfl⟩ := forL_num (t := .nm 4) (body := B9 (Cf pg 11)) (fun _ σ h => P9 ds σ h) 7 [.v (.ref 0), .v (.lst (ds.map .int)), .v (.ref 1), .v (.lst vals), .no, .no, .no, .no] [.lkL (ns.map D.int), .lst [.int 0]] (by
    rintro j σ h hj ⟨p, s4, s5, s6, hp, ha, rfl⟩
    obtain ⟨σ2, h2, e, q⟩ := turn (s5 := s5) (s6 := s6) hlen ha hp hj
    exact ⟨_, σ2, h2, rfl, e, q⟩) ⟨0, .no, .no, .no, by decide, a0, rfl⟩
  refine ⟨h', ?_⟩
  show runS N_9.length (ev_9 (Cf pg 11)) _ _ = _
  rw [ev9_eq]
  refine run_rt ?_
  refine (seq_nx (σ' := [.v (.ref 0), .v (.lst (ds.map .int)), .no, .no, .no, .no, .no, .no]) (h' := [.lkL (ns.map D.int)]) (set_ok (call_ok (cons_ok rfl rfl) e0))).trans ?_
  refine (seq_nx (σ' := [.v (.ref 0), .v (.lst (ds.map .int)), .v (.ref 1), .no, .no, .no, .no, .no]) (h' := [.lkL (ns.map D.int), .lst [.int 0]]) rfl).trans ?_
  refine (seq_nx (σ' := [.v (.ref 0), .v (.lst (ds.map .int)), .v (.ref 1), .no, .no, .no, .no, .no]) (h' := [.lkL (ns.map D.int), .lst [.int 0]]) ((if_f (notT_ok (tru_ok (x := .bl true) (h1 := [.lkL (ns.map D.int), .lst [.int 0]]) lim_ok rfl))).trans rfl)).trans ?_
  refine (seq_nx (σ' := [.v (.ref 0), .v (.lst (ds.map .int)), .v (.ref 1), .v (.lst vals), .no, .no, .no, .no]) (h' := [.lkL (ns.map D.int), .lst [.int 0]]) rfl).trans ?_
  exact (seq_nx (for_ok (bRng1_nat (n := 7) rfl (by decide)) e)).trans (ret_ok rfl)
end Bh
namespace Bh
open PySem PySem.Spec PyProof.Rows L2
/-- the law keeps its promise if its value is true -/
theorem law_fn {w : World} {K : PySem.W.Frag} {h : Heap} {mg : PySem.Str → Option Value} (X : K.In h) (G : h.Ns mainGlobals mg) (c : He.SaysD faL fnL K) (e : extra K = true) (iv : inis K = inisV) :
    ∃ fd, (∀ (s : Shared) (v : Value), BindsTo s fd ⟨[v], []⟩ [("script", v)]) ∧ ∀ base : Heap, K.In base → base.Ns mainGlobals mg → FnG PP w K mg base CX0 26 (He.ga K "law") fd ["script"] (fun vs H Q _ => spF (ZK K) cLaw 9 1 vs H Q fun _ _ _ => False) := by
  obtain ⟨fd, F⟩ := c.def_ 9 (d := dd_9) rfl
  have b := FunD.bindsA (ps := ["script"]) F fun _ _ _ _ _ _ us hl => match us, hl with | [_], _ => rfl
  refine ⟨fd, fun s v => b s [v] rfl, fun base _ _ => fn_cxG ?_⟩
  have T := tx_all (w := w) (mg := mg) X G c e iv base
  exact fn_bodyG (k := 25) (ev := ev_9) (c := Cf pg 11) (c' := cLaw) F (⟨by kernel_rfl, by kernel_rfl, by kernel_rfl, by decide +kernel, by kernel_rfl, by decide +kernel, by decide +kernel⟩ : FnScope N_9 A_9 (defScope (top 38))) (fun ds h _ => rfl) fun cdv A outer s H E s0 hgA hr => ok_9 (md_of X G c e iv base) (by decide) (fun m N' ar' ev' e' => all_ok T 11 m N' ar' ev' e') (gdef_4 X G c e iv base (Cf pg 11) (by decide)) cdv A outer s H E s0 hgA hr
end Bh
open PySem PySem.W PySem.Calls PyProof.Rows
set_option maxHeartbeats 0 in
theorem PySem.Challenge.cw_blocksheal_k00_errors_and_limits_holds : PySem.Challenge.rw_blocksheal_k00_errors_and_limits.Holds := by
  w_on; o_law
  refine HandSHeadRun.head_any (r := OpenLaw.row PySem.Challenge.rw_blocksheal_k00_errors_and_limits) (q := view (OpenLaw.row PySem.Challenge.rw_blocksheal_k00_errors_and_limits).prog [38]) (H := Bh.hk) (ob := Bh.ob) (M := 4000) (loose := Bh.loose) (d := HandSHeadRun.topDef (OpenLaw.row PySem.Challenge.rw_blocksheal_k00_errors_and_limits).prog 38) (kwd := []) Bh.ob_eq
    (by kernel_rfl) (fun s => by kernel_rfl) Bh.run (by kernel_rfl) (by kernel_rfl) (by kernel_rfl) (by rfl) (by first | assumption | decide +kernel) (by decide +kernel) ⟨rfl, rfl, rfl, rfl, rfl, by decide +kernel⟩ ?hw ?hc
  case hw => w_witness2
  case hc =>
    refine Bh.walk_ofG (l := PySem.Challenge.rw_blocksheal_k00_errors_and_limits) (n := 63) (k := 26) (x := "script") rfl (by decide) (by kernel_rfl) ⟨rfl, by decide, by decide⟩ ?F (fun _ _ _ _ z => z)
    intro w mg fa h Y G hmg0
    obtain ⟨K, KX, c, ex, iv⟩ := Y
    have hmg : mg ("law" : PySem.Str) = some (.ref fa) := by
      have e : (HandSHeadRun.topDef (OpenLaw.row PySem.Challenge.rw_blocksheal_k00_errors_and_limits).prog 38).name = ("law" : PySem.Str) := by kernel_rfl
      rw [← e]
      exact hmg0
    obtain ⟨fd, hb, hF⟩ := Bh.law_fn (w := w) KX G c ex iv
    have ef := hmg.symm.trans (He.glo_ok KX G (c.fact 9 (f := .glo "law") rfl))
    cases ef
    exact ⟨K, fd, _, KX, hb, fun H a ns hl hO hS => (by
      obtain ⟨h', e⟩ := Bh.law_true ns hl
      exact Bh.sp_law hO hS e), hF⟩
