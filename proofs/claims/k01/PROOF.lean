import PyProof.Rows.All
import Wide.All
import OpenK.AllK
import Wide.FinOn
import HandS.ForMost
import KE.DataCmp
import HandS.Zip
import HandS.Wide
import HandS.WideBits
import HandS.IsInst
import HandS.Style
import HandS.Flow
import PyProof.StrOps2
import KE.SortData
import HandS.Deep
import KE.KRevSl
import HandS.DictComp
import HandS.Words
import HandS.EndBits
import PyProof.ReprRoads
import HandS.RaiseMore
import HandS.More
import PyProof.ListStr
import HandS.Conv
import HandS.Text
import PySem.Challenge.RW_wordhall_k01_names_and_lots_of_names
set_option Elab.async false
set_option linter.all false
set_option maxRecDepth 100000
namespace VK
open PySem PySem.Spec PyProof.Rows L2

/-! ### data -/
inductive Ow where
  | own | shr | ext
  deriving DecidableEq
def Ow.fz : Ow → Ow
  | .ext => .ext
  | _ => .shr
inductive D where
  | non | bl (b : Bool) | int (i : Int) | str (x : Str) | lst (o : Ow) (xs : List D) | tup (xs : List D) | dct (o : Ow) (kvs : List (Key × D)) | fn (i : Nat)
mutual
/-- all marks of ownership taken off -/
def frz : D → D
  | .lst o xs => .lst o.fz (frzL xs)
  | .tup xs => .tup (frzL xs)
  | .dct o kvs => .dct o.fz (frzP kvs)
  | .non => .non
  | .bl b => .bl b
  | .int i => .int i
  | .str x => .str x
  | .fn i => .fn i
def frzL : List D → List D
  | [] => []
  | x :: xs => frz x :: frzL xs
def frzP : List (Key × D) → List (Key × D)
  | [] => []
  | (k, x) :: xs => (k, frz x) :: frzP xs
end
mutual
/-- no list, no dict that is not owned -/
def nsh : D → Bool
  | .lst o xs => decide (o = .own) && nshL xs
  | .tup xs => nshL xs
  | .dct o kvs => decide (o = .own) && nshP kvs
  | .non => true
  | .bl _ => true
  | .int _ => true
  | .str _ => true
  | .fn _ => true
def nshL : List D → Bool
  | [] => true
  | x :: xs => nsh x && nshL xs
def nshP : List (Key × D) → Bool
  | [] => true
  | (_, x) :: xs => nsh x && nshP xs
end
theorem frzP_keys : ∀ kvs : List (Key × D), (frzP kvs).map (·.1) = kvs.map (·.1)
  | [] => rfl
  | (k, x) :: r => by rw [frzP, List.map_cons, List.map_cons, frzP_keys r]
abbrev PS_ := Addr → Prop
def Emp : PS_ := fun _ => False
def Dj (P Q : PS_) : Prop := ∀ a, P a → Q a → False
def Sb (P Q : PS_) : Prop := ∀ a, P a → Q a
theorem Dj.symm {P Q : PS_} (h : Dj P Q) : Dj Q P := fun a p q => h a q p
/-- a list, a tuple of the written part -/
def KL (K : PySem.W.Frag) (a : Addr) (xs : List V) : Prop := ∃ (o : Obj) (its : Array Value) (n : Nat), K.lookup a = some o ∧ o.cls = .type "list" ∧ o.dict = none ∧ o.data = .seq its n ∧ its.size ≤ sizeLine ∧ Vals xs its.toList
def KT (K : PySem.W.Frag) (a : Addr) (xs : List V) : Prop := ∃ (o : Obj) (its : Array Value) (n : Nat), K.lookup a = some o ∧ o.cls = .type "tuple" ∧ o.data = .seq its n ∧ its.size ≤ sizeLine ∧ Vals xs its.toList
section
variable (K : PySem.W.Frag) (fns : List Addr)
mutual
/-- the value v bears the data d at H; F: what never changes; P: the owned addresses are among these -/
def Rep (F : PS_) (H : Hp) : D → V → PS_ → Prop
  | .non, v, _ => v = .non
  | .bl b, v, _ => v = .bl b
  | .int i, v, _ => v = .int i
  | .str x, v, _ => v = .str x
  | .fn i, v, _ => ∃ a, v = .ref a ∧ fns[i]? = some a
  | .lst .own ds, v, P => ∃ a vs, v = .ref a ∧ H a = some (.lst vs) ∧ P a ∧ RepL F H ds vs (fun b => P b ∧ b ≠ a)
  | .lst .shr ds, v, _ => ∃ a vs, v = .ref a ∧ H a = some (.lst vs) ∧ F a ∧ RepL F H ds vs Emp
  | .lst .ext ds, v, _ => ∃ a vs, v = .ref a ∧ (Rd H a (.lst vs) ∧ F a ∨ KL K a vs) ∧ RepL F H ds vs Emp
  | .tup ds, v, P => ∃ a vs, v = .ref a ∧ (H a = some (.tup vs) ∧ F a ∨ KT K a vs) ∧ RepL F H ds vs P
  | .dct .own ds, v, P => ∃ a kvs, v = .ref a ∧ H a = some (.dK kvs) ∧ P a ∧ RepP F H ds kvs (fun b => P b ∧ b ≠ a) ∧ (ds.map (·.1)).Nodup
  | .dct _ ds, v, _ => ∃ a kvs, v = .ref a ∧ Rd H a (.dK kvs) ∧ F a ∧ RepP F H ds kvs Emp ∧ (ds.map (·.1)).Nodup
def RepL (F : PS_) (H : Hp) : List D → List V → PS_ → Prop
  | [], vs, _ => vs = []
  | d :: ds, vs, P => ∃ v r P1 P2, vs = v :: r ∧ Sb P1 P ∧ Sb P2 P ∧ Dj P1 P2 ∧ Rep F H d v P1 ∧ RepL F H ds r P2
def RepP (F : PS_) (H : Hp) : List (Key × D) → List (Key × V) → PS_ → Prop
  | [], vs, _ => vs = []
  | (k, d) :: ds, vs, P => ∃ v r P1 P2, vs = (k, v) :: r ∧ Sb P1 P ∧ Sb P2 P ∧ Dj P1 P2 ∧ Rep F H d v P1 ∧ RepP F H ds r P2
end
end
section
variable {K : PySem.W.Frag} {fns : List Addr} {F F' : PS_} {H H' : Hp}
theorem Sb.rfl {P : PS_} : Sb P P := fun _ h => h
theorem Sb.trans {P Q R : PS_} (h : Sb P Q) (h' : Sb Q R) : Sb P R := fun a p => h' a (h a p)
theorem Emp.sb {P : PS_} : Sb Emp P := fun _ h => h.elim
theorem RepL.mono {ds : List D} {vs : List V} {P Q : PS_} (h : RepL K fns F H ds vs P) (s : Sb P Q) : RepL K fns F H ds vs Q := by
  cases ds with
  | nil => exact h
  | cons d ds =>
    obtain ⟨v, r, P1, P2, e, s1, s2, dj, h1, h2⟩ := h
    exact ⟨v, r, P1, P2, e, s1.trans s, s2.trans s, dj, h1, h2⟩
theorem RepP.mono {ds : List (Key × D)} {vs : List (Key × V)} {P Q : PS_} (h : RepP K fns F H ds vs P) (s : Sb P Q) : RepP K fns F H ds vs Q := by
  cases ds with
  | nil => exact h
  | cons d ds =>
    obtain ⟨k, d⟩ := d
    obtain ⟨v, r, P1, P2, e, s1, s2, dj, h1, h2⟩ := h
    exact ⟨v, r, P1, P2, e, s1.trans s, s2.trans s, dj, h1, h2⟩
theorem Rep.mono {d : D} {v : V} {P Q : PS_} (h : Rep K fns F H d v P) (s : Sb P Q) : Rep K fns F H d v Q := by
  cases d with
  | non => exact h
  | bl b => exact h
  | int i => exact h
  | str x => exact h
  | fn i => exact h
  | lst o ds =>
    cases o with
    | own => obtain ⟨a, vs, e, h1, h2, h3⟩ := h; exact ⟨a, vs, e, h1, s a h2, h3.mono fun b hb => ⟨s b hb.1, hb.2⟩⟩
    | shr => exact h
    | ext => exact h
  | tup ds => obtain ⟨a, vs, e, h1, h3⟩ := h; exact ⟨a, vs, e, h1, h3.mono s⟩
  | dct o ds =>
    cases o with
    | own => obtain ⟨a, vs, e, h1, h2, h3, nd⟩ := h; exact ⟨a, vs, e, h1, s a h2, h3.mono fun b hb => ⟨s b hb.1, hb.2⟩, nd⟩
    | shr => exact h
    | ext => exact h
theorem Rd.keep {a : Addr} {u : HO} (h : Rd H a u) (k : ∀ o, H a = some o → H' a = some o) : Rd H' a u := by
  rcases h with h | ⟨o, h⟩
  · exact .inl (k _ h)
  · exact .inr ⟨o, k _ h⟩
mutual
/-- what is not touched is as it was -/
theorem Rep.frame (ff : Sb F F') : ∀ (d : D) (v : V) (P : PS_), (∀ a o, H a = some o → (P a ∨ F a) → H' a = some o) → Rep K fns F H d v P → Rep K fns F' H' d v P
  | .non, _, _, _, h => h
  | .bl _, _, _, _, h => h
  | .int _, _, _, _, h => h
  | .str _, _, _, _, h => h
  | .fn _, _, _, _, h => h
  | .lst .own ds, v, P, k, h => by
    obtain ⟨a, vs, e, h1, h2, h3⟩ := h
    exact ⟨a, vs, e, k a _ h1 (.inl h2), h2, RepL.frame ff ds vs _ (fun b o q z => k b o q (z.imp (·.1) id)) h3⟩
  | .lst .shr ds, v, P, k, h => by
    obtain ⟨a, vs, e, h1, h2, h3⟩ := h
    exact ⟨a, vs, e, k a _ h1 (.inr h2), ff a h2, RepL.frame ff ds vs _ (fun b o q z => k b o q (z.elim False.elim .inr)) h3⟩
  | .lst .ext ds, v, P, k, h => by
    obtain ⟨a, vs, e, h1, h3⟩ := h
    exact ⟨a, vs, e, h1.imp (fun z => ⟨Rd.keep z.1 fun o q => k a o q (.inr z.2), ff a z.2⟩) id, RepL.frame ff ds vs _ (fun b o q z => k b o q (z.elim False.elim .inr)) h3⟩
  | .tup ds, v, P, k, h => by
    obtain ⟨a, vs, e, h1, h3⟩ := h
    exact ⟨a, vs, e, h1.imp (fun z => ⟨k a _ z.1 (.inr z.2), ff a z.2⟩) id, RepL.frame ff ds vs _ k h3⟩
  | .dct .own ds, v, P, k, h => by
    obtain ⟨a, vs, e, h1, h2, h3, nd⟩ := h
    exact ⟨a, vs, e, k a _ h1 (.inl h2), h2, RepP.frame ff ds vs _ (fun b o q z => k b o q (z.imp (·.1) id)) h3, nd⟩
  | .dct .shr ds, v, P, k, h => by
    obtain ⟨a, vs, e, h1, h2, h3, nd⟩ := h
    exact ⟨a, vs, e, Rd.keep h1 fun o q => k a o q (.inr h2), ff a h2, RepP.frame ff ds vs _ (fun b o q z => k b o q (z.elim False.elim .inr)) h3, nd⟩
  | .dct .ext ds, v, P, k, h => by
    obtain ⟨a, vs, e, h1, h2, h3, nd⟩ := h
    exact ⟨a, vs, e, Rd.keep h1 fun o q => k a o q (.inr h2), ff a h2, RepP.frame ff ds vs _ (fun b o q z => k b o q (z.elim False.elim .inr)) h3, nd⟩
theorem RepL.frame (ff : Sb F F') : ∀ (ds : List D) (vs : List V) (P : PS_), (∀ a o, H a = some o → (P a ∨ F a) → H' a = some o) → RepL K fns F H ds vs P → RepL K fns F' H' ds vs P
  | [], _, _, _, h => h
  | d :: ds, vs, P, k, h => by
    obtain ⟨v, r, P1, P2, e, s1, s2, dj, h1, h2⟩ := h
    exact ⟨v, r, P1, P2, e, s1, s2, dj, Rep.frame ff d v P1 (fun b o q z => k b o q (z.imp (s1 b) id)) h1, RepL.frame ff ds r P2 (fun b o q z => k b o q (z.imp (s2 b) id)) h2⟩
theorem RepP.frame (ff : Sb F F') : ∀ (ds : List (Key × D)) (vs : List (Key × V)) (P : PS_), (∀ a o, H a = some o → (P a ∨ F a) → H' a = some o) → RepP K fns F H ds vs P → RepP K fns F' H' ds vs P
  | [], _, _, _, h => h
  | (k0, d) :: ds, vs, P, k, h => by
    obtain ⟨v, r, P1, P2, e, s1, s2, dj, h1, h2⟩ := h
    exact ⟨v, r, P1, P2, e, s1, s2, dj, Rep.frame ff d v P1 (fun b o q z => k b o q (z.imp (s1 b) id)) h1, RepP.frame ff ds r P2 (fun b o q z => k b o q (z.imp (s2 b) id)) h2⟩
end
mutual
/-- what is owned is frozen -/
theorem Rep.freeze (ff : Sb F F') : ∀ (d : D) (v : V) (P : PS_), Sb P F' → Rep K fns F H d v P → Rep K fns F' H (frz d) v Emp
  | .non, _, _, _, h => h
  | .bl _, _, _, _, h => h
  | .int _, _, _, _, h => h
  | .str _, _, _, _, h => h
  | .fn _, _, _, _, h => h
  | .lst .own ds, v, P, k, h => by
    obtain ⟨a, vs, e, h1, h2, h3⟩ := h
    exact ⟨a, vs, e, h1, k a h2, RepL.freeze ff ds vs _ (fun b z => k b z.1) h3⟩
  | .lst .shr ds, v, P, k, h => by
    obtain ⟨a, vs, e, h1, h2, h3⟩ := h
    exact ⟨a, vs, e, h1, ff a h2, RepL.freeze ff ds vs _ Emp.sb h3⟩
  | .lst .ext ds, v, P, k, h => by
    obtain ⟨a, vs, e, h1, h3⟩ := h
    exact ⟨a, vs, e, h1.imp (fun z => ⟨z.1, ff a z.2⟩) id, RepL.freeze ff ds vs _ Emp.sb h3⟩
  | .tup ds, v, P, k, h => by
    obtain ⟨a, vs, e, h1, h3⟩ := h
    exact ⟨a, vs, e, h1.imp (fun z => ⟨z.1, ff a z.2⟩) id, RepL.freeze ff ds vs _ k h3⟩
  | .dct .own ds, v, P, k, h => by
    obtain ⟨a, vs, e, h1, h2, h3, nd⟩ := h
    exact ⟨a, vs, e, .inl h1, k a h2, RepP.freeze ff ds vs _ (fun b z => k b z.1) h3, by rw [frzP_keys]; exact nd⟩
  | .dct .shr ds, v, P, k, h => by
    obtain ⟨a, vs, e, h1, h2, h3, nd⟩ := h
    exact ⟨a, vs, e, h1, ff a h2, RepP.freeze ff ds vs _ Emp.sb h3, by rw [frzP_keys]; exact nd⟩
  | .dct .ext ds, v, P, k, h => by
    obtain ⟨a, vs, e, h1, h2, h3, nd⟩ := h
    exact ⟨a, vs, e, h1, ff a h2, RepP.freeze ff ds vs _ Emp.sb h3, by rw [frzP_keys]; exact nd⟩
theorem RepL.freeze (ff : Sb F F') : ∀ (ds : List D) (vs : List V) (P : PS_), Sb P F' → RepL K fns F H ds vs P → RepL K fns F' H (frzL ds) vs Emp
  | [], _, _, _, h => h
  | d :: ds, vs, P, k, h => by
    obtain ⟨v, r, P1, P2, e, s1, s2, dj, h1, h2⟩ := h
    exact ⟨v, r, Emp, Emp, e, Emp.sb, Emp.sb, fun _ z => z.elim, Rep.freeze ff d v P1 (s1.trans k) h1, RepL.freeze ff ds r P2 (s2.trans k) h2⟩
theorem RepP.freeze (ff : Sb F F') : ∀ (ds : List (Key × D)) (vs : List (Key × V)) (P : PS_), Sb P F' → RepP K fns F H ds vs P → RepP K fns F' H (frzP ds) vs Emp
  | [], _, _, _, h => h
  | (k0, d) :: ds, vs, P, k, h => by
    obtain ⟨v, r, P1, P2, e, s1, s2, dj, h1, h2⟩ := h
    exact ⟨v, r, Emp, Emp, e, Emp.sb, Emp.sb, fun _ z => z.elim, Rep.freeze ff d v P1 (s1.trans k) h1, RepP.freeze ff ds r P2 (s2.trans k) h2⟩
end
end
end VK

set_option Elab.async false
set_option linter.all false
set_option maxRecDepth 100000
namespace VK
open PySem PySem.Spec PyProof.Rows L2

/-! ### operations on data -/
mutual
def toPy : D → PyData
  | .non => .none
  | .bl b => .bool b
  | .int i => .int i
  | .str x => .str x
  | .lst _ xs => .list (toPyL xs)
  | .tup xs => .tuple (toPyL xs)
  | .dct _ _ => .dict []
  | .fn _ => .dict []
def toPyL : List D → List PyData
  | [] => []
  | x :: xs => toPy x :: toPyL xs
end
def truD : D → Option Bool
  | .non => some false
  | .bl b => some b
  | .int i => some (i != 0)
  | .str x => if x.length ≤ sizeLine then some ((x.length : Int) != 0) else none
  | .lst _ xs => some (!xs.isEmpty)
  | .tup xs => some (!xs.isEmpty)
  | .dct _ _ => none
  | .fn _ => none
def addD : D → D → Option D
  | .int i, .int j => some (.int (i + j))
  | .str x, .str y => if x.length + y.length ≤ sizeLine then some (.str (x ++ y)) else none
  | .lst o xs, .lst u ys => if o ≠ .ext ∧ u ≠ .ext ∧ xs.length + ys.length ≤ sizeLine then some (.lst .own (xs ++ ys)) else none
  | .tup xs, .tup ys => if xs ≠ [] ∧ xs.length + ys.length ≤ sizeLine then some (.tup (xs ++ ys)) else none
  | _, _ => none
def subD : D → D → Option D
  | .int i, .int j => some (.int (i - j))
  | _, _ => none
def repS (x : Str) (n : Int) : Str := if n < 1 then Str.empty else if (n == 1 || x.length == 0) = true then x else ⟨(List.replicate n.toNat x.cps).foldl (· ++ ·) #[]⟩
def mulD : D → D → Option D
  | .str x, .int n => if -1000000 ≤ n ∧ n ≤ 1000000 ∧ x.length ≤ 1000000 ∧ x.length * n.toNat ≤ sizeLine ∧ (repS x n).length ≤ sizeLine then some (.str (repS x n)) else none
  | .int i, .int j => if (Builtin.Int.intBits i : Int) + (Builtin.Int.intBits j : Int) ≤ 134217728 then some (.int (i * j)) else none
  | _, _ => none
def fdivD : D → D → Option D
  | .int i, .int j => if 0 < j ∧ j.natAbs.log2 < 9000 then some (.int (i / j)) else none
  | _, _ => none
def modD : D → D → Option D
  | .int i, .int j => if 0 < j then some (.int (i % j)) else none
  | _, _ => none
def powD : D → D → Option D
  | .int i, .int j => if 0 ≤ j ∧ (Builtin.Int.intBits i : Int) * j ≤ 134217728 then some (.int (i ^ j.toNat)) else none
  | _, _ => none
/-- the binary operators -/
def opB : Operator → D → D → Option D
  | .Add => addD
  | .Sub => subD
  | .Mult => mulD
  | .FloorDiv => fdivD
  | .Mod => modD
  | .Pow => powD
  | _ => fun _ _ => none
def eqD (a b : D) : Option Bool := if SeqAt.shaped (toPy a) = true ∧ SeqAt.shaped (toPy b) = true then some (PyData.eqv (toPy a) (toPy b)) else none
def isAt : D → Bool
  | .non => true
  | .bl _ => true
  | _ => false
def sameAt : D → D → Bool
  | .non, .non => true
  | .bl a, .bl b => decide (a = b)
  | _, _ => false
def isD (a b : D) : Option Bool := if isAt a = true ∨ isAt b = true then some (sameAt a b) else none
def ltcD (f : PyData → PyData → Bool) (a b : D) : Option Bool := if SeqAt.shaped (toPy a) = true ∧ SeqAt.shaped (toPy b) = true ∧ PySem.W.alike (toPy a) (toPy b) = true ∧ isAt a = false then some (f (toPy a) (toPy b)) else none
def inD : D → D → Option Bool
  | .str x, .str y => some (match x.cps.toList with
    | [c] => decide (c ∈ y.cps.toList)
    | _ => !(Builtin.Str.occurrences y x 0 y.length 1).isEmpty)
  | d, .lst _ xs => if SeqAt.shaped (toPy d) = true ∧ SeqAt.shaped (.list (toPyL xs)) = true then some ((toPyL xs).any fun z => PyData.eqv z (toPy d)) else none
  | d, .tup xs => if SeqAt.shaped (toPy d) = true ∧ SeqAt.shaped (.tuple (toPyL xs)) = true then some ((toPyL xs).any fun z => PyData.eqv z (toPy d)) else none
  | .str x, .dct _ kvs => some (kvs.any fun kv => decide (kv.1 = .inr x))
  | .int x, .dct _ kvs => some (kvs.any fun kv => decide (kv.1 = .inl x))
  | _, _ => none
/-- the comparisons -/
def opC : CmpOp → D → D → Option Bool
  | .Eq => eqD
  | .NotEq => fun a b => (eqD a b).map (!·)
  | .Is => isD
  | .IsNot => fun a b => (isD a b).map (!·)
  | .Lt => ltcD PySem.W.dataLt
  | .Gt => ltcD fun a b => PySem.W.dataLt b a
  | .LtE => ltcD fun a b => !PySem.W.dataLt b a
  | .GtE => ltcD fun a b => !PySem.W.dataLt a b
  | .In => inD
  | .NotIn => fun a b => (inD a b).map (!·)
end VK

set_option Elab.async false
set_option linter.all false
set_option maxRecDepth 100000
namespace VK
open PySem PySem.Spec PyProof.Rows L2

/-! ### what an evaluation may do -/
structure Step (P F F' : PS_) (H H' : Hp) : Prop where
  ff : Sb F F'
  keep : ∀ a o, H a = some o → ¬ P a → H' a = some o
  new : ∀ a, F' a → F a ∨ P a ∨ H a = none
def WfF (F : PS_) (H : Hp) : Prop := ∀ a, F a → ∃ o, H a = some o
def isOw : HO → Prop
  | .lst _ => True
  | .dK _ => True
  | _ => False
def OwnS (F : PS_) (H : Hp) (P : PS_) : Prop := ∀ a, P a → ¬ F a ∧ ∃ o, H a = some o ∧ isOw o
def Un2 (P Q : PS_) : PS_ := fun a => P a ∨ Q a
def UU (fs : Nat → PS_) : PS_ := fun a => ∃ i, fs i a
abbrev Rho := List (Option D)
abbrev EvT := Rho → Option (D × Rho)
theorem Step.refl {P F : PS_} {H : Hp} : Step P F F H H := ⟨Sb.rfl, fun _ _ h _ => h, fun _ h => .inl h⟩
theorem Step.trans {P P1 F F1 F2 : PS_} {H H1 H2 : Hp} (a : Step P F F1 H H1) (b : Step P1 F1 F2 H1 H2) (s : ∀ c, P1 c → P c ∨ H c = none) : Step P F F2 H H2 where
  ff := a.ff.trans b.ff
  keep := fun c o h n => b.keep c o (a.keep c o h n) fun p => (s c p).elim n fun z => by rw [h] at z; cases z
  new := fun c f => by
    rcases b.new c f with f | p | z
    · exact a.new c f
    · exact (s c p).elim (fun q => .inr (.inl q)) fun q => .inr (.inr q)
    · cases e : H c with
      | none => exact .inr (.inr rfl)
      | some o =>
        by_cases hp : P c
        · exact .inr (.inl hp)
        · rw [a.keep c o e hp] at z; cases z
theorem Step.weak {P P' F F' : PS_} {H H' : Hp} (a : Step P F F' H H') (s : Sb P P') : Step P' F F' H H' := ⟨a.ff, fun c o h n => a.keep c o h fun p => n (s c p), fun c f => (a.new c f).imp id (Or.imp (s c) id)⟩
theorem OwnS.un {F P Q : PS_} {H : Hp} (p : OwnS F H P) (q : OwnS F H Q) : OwnS F H (Un2 P Q) := fun a z => z.elim (p a) (q a)
theorem OwnS.sb {F P Q : PS_} {H : Hp} (p : OwnS F H P) (s : Sb Q P) : OwnS F H Q := fun a z => p a (s a z)
theorem OwnS.emp {F : PS_} {H : Hp} : OwnS F H Emp := fun _ z => z.elim
section
variable {K : PySem.W.Frag} {fns : List Addr} {F F' P Q : PS_} {H H' : Hp}
/-- what is apart from what changed -/
theorem Step.rep {d : D} {v : V} (s : Step Q F F' H H') (oq : OwnS F H Q) (dj : Dj P Q) (h : Rep K fns F H d v P) : Rep K fns F' H' d v P :=
  Rep.frame s.ff d v P (fun a o e z => s.keep a o e fun q => z.elim (fun p => dj a p q) fun f => (oq a q).1 f) h
theorem Step.repL {ds : List D} {vs : List V} (s : Step Q F F' H H') (oq : OwnS F H Q) (dj : Dj P Q) (h : RepL K fns F H ds vs P) : RepL K fns F' H' ds vs P :=
  RepL.frame s.ff ds vs P (fun a o e z => s.keep a o e fun q => z.elim (fun p => dj a p q) fun f => (oq a q).1 f) h
theorem Step.own (s : Step Q F F' H H') (dj : Dj P Q) (h : OwnS F H P) : OwnS F' H' P := fun a p => by
  obtain ⟨nf, o, e, i⟩ := h a p
  refine ⟨fun f => ?_, o, s.keep a o e (dj a p), i⟩
  rcases s.new a f with z | z | z
  · exact nf z
  · exact dj a p z
  · rw [e] at z; cases z
theorem WfF.step (w : WfF F H) (s : Step Q F F' H H') (h : ∀ a, F' a → ¬ F a → ∃ o, H' a = some o) (oq : OwnS F H Q) : WfF F' H' := fun a f => by
  by_cases z : F a
  · obtain ⟨o, e⟩ := w a z
    exact ⟨o, s.keep a o e fun q => (oq a q).1 z⟩
  · exact h a f z
end
/-- the environment -/
structure EnvR (K : PySem.W.Frag) (fns : List Addr) (F : PS_) (H : Hp) (σ : L2.St) (ρ : Rho) (fs : Nat → PS_) : Prop where
  len : ρ.length = σ.length
  rep : ∀ i d, ρ[i]? = some (some d) → ∃ v, σ[i]? = some (some v) ∧ Rep K fns F H d v (fs i)
  sep : ∀ i j a, fs i a → fs j a → i = j
  own : OwnS F H (UU fs)
section
variable {K : PySem.W.Frag} {fns : List Addr} {F F' P Q : PS_} {H H' : Hp} {σ : L2.St} {ρ ρ' : Rho} {fs fs' : Nat → PS_}
theorem EnvR.step (e : EnvR K fns F H σ ρ fs) (s : Step Q F F' H H') (oq : OwnS F H Q) (dj : Dj (UU fs) Q) : EnvR K fns F' H' σ ρ fs :=
  ⟨e.len, fun i d h => let ⟨v, h1, h2⟩ := e.rep i d h; ⟨v, h1, s.rep oq (fun a p q => dj a ⟨i, p⟩ q) h2⟩, e.sep, s.own dj e.own⟩
/-- slots forgotten -/
theorem EnvR.sub (e : EnvR K fns F H σ ρ fs) (hl : ρ'.length = ρ.length) (h : ∀ (i : Nat) d, ρ'[i]? = some (some d) → ρ[i]? = some (some d)) (hs : ∀ i, Sb (fs' i) (fs i)) (hr : ∀ (i : Nat) d, ρ'[i]? = some (some d) → Sb (fs i) (fs' i)) : EnvR K fns F H σ ρ' fs' :=
  ⟨hl.trans e.len, fun i d q => let ⟨v, h1, h2⟩ := e.rep i d (h i d q); ⟨v, h1, h2.mono (hr i d q)⟩, fun i j a p q => e.sep i j a (hs i a p) (hs j a q), e.own.sb fun a ⟨i, z⟩ => ⟨i, hs i a z⟩⟩
def fupd (fs : Nat → PS_) (i : Nat) (P : PS_) : Nat → PS_ := fun j => if j = i then P else fs j
theorem fupd_same {fs : Nat → PS_} {i : Nat} {P : PS_} : fupd fs i P i = P := by unfold fupd; rw [if_pos rfl]
theorem fupd_ne {fs : Nat → PS_} {i j : Nat} {P : PS_} (h : j ≠ i) : fupd fs i P j = fs j := by unfold fupd; rw [if_neg h]
theorem UU_fupd {fs : Nat → PS_} {i : Nat} {P : PS_} {a : Addr} (h : UU (fupd fs i P) a) : P a ∨ UU fs a := by
  obtain ⟨j, h⟩ := h
  by_cases e : j = i
  · subst e; rw [fupd_same] at h; exact .inl h
  · rw [fupd_ne e] at h; exact .inr ⟨j, h⟩
/-- a slot gets a new content -/
theorem EnvR.set (e : EnvR K fns F H σ ρ fs) {i : Nat} {d : D} {v : V} (r : Rep K fns F H d v P) (o : OwnS F H P) (dj : ∀ j, j ≠ i → Dj P (fs j)) : EnvR K fns F H (σ.set i (some v)) (ρ.set i (some d)) (fupd fs i P) := by
  refine ⟨by rw [List.length_set, List.length_set]; exact e.len, fun j d' h => ?_, fun j k a p q => ?_, fun a z => ?_⟩
  · by_cases hj : j = i
    · subst hj
      rw [List.getElem?_set] at h
      rw [if_pos rfl] at h
      split at h
      · cases h
        rename_i hl
        exact ⟨v, by rw [List.getElem?_set, if_pos rfl, if_pos (by rw [← e.len]; exact hl)], by rw [fupd_same]; exact r⟩
      · cases h
    · rw [List.getElem?_set_ne (Ne.symm hj)] at h
      obtain ⟨u, h1, h2⟩ := e.rep j d' h
      exact ⟨u, by rw [List.getElem?_set_ne (Ne.symm hj)]; exact h1, by rw [fupd_ne hj]; exact h2⟩
  · by_cases hj : j = i
    · by_cases hk : k = i
      · rw [hj, hk]
      · rw [hj, fupd_same] at p
        rw [fupd_ne hk] at q
        exact (dj k hk a p q).elim
    · by_cases hk : k = i
      · rw [hk, fupd_same] at q
        rw [fupd_ne hj] at p
        exact (dj j hj a q p).elim
      · rw [fupd_ne hj] at p
        rw [fupd_ne hk] at q
        exact e.sep j k a p q
  · rcases UU_fupd z with z | z
    · exact o a z
    · exact e.own a z
/-- a slot's content is taken out -/
theorem EnvR.del (e : EnvR K fns F H σ ρ fs) (i : Nat) : EnvR K fns F H σ (ρ.set i none) (fupd fs i Emp) := by
  refine e.sub (by rw [List.length_set]) (fun j d h => ?_) (fun j => ?_) fun j d h => ?_
  · by_cases hj : j = i
    · subst hj
      rw [List.getElem?_set, if_pos rfl] at h
      split at h <;> cases h
    · rw [List.getElem?_set_ne (Ne.symm hj)] at h; exact h
  · by_cases hj : j = i
    · subst hj; rw [fupd_same]; exact Emp.sb
    · rw [fupd_ne hj]; exact Sb.rfl
  · by_cases hj : j = i
    · subst hj
      rw [List.getElem?_set, if_pos rfl] at h
      split at h <;> cases h
    · rw [fupd_ne hj]; exact Sb.rfl
end

/-- behind an expression -/
structure EPost (K : PySem.W.Frag) (fns : List Addr) (F : PS_) (H : Hp) (fs : Nat → PS_) (F' : PS_) (H' : Hp) (fs' : Nat → PS_) (σ : L2.St) (ρ' : Rho) (d : D) (x : V) (P : PS_) : Prop where
  step : Step (UU fs) F F' H H'
  wf : WfF F' H'
  env : EnvR K fns F' H' σ ρ' fs'
  rep : Rep K fns F' H' d x P
  own : OwnS F' H' P
  dj : Dj P (UU fs')
  new : ∀ a, P a ∨ UU fs' a → UU fs a ∨ H a = none
/-- behind several -/
structure APost (K : PySem.W.Frag) (fns : List Addr) (F : PS_) (H : Hp) (fs : Nat → PS_) (F' : PS_) (H' : Hp) (fs' : Nat → PS_) (σ : L2.St) (ρ' : Rho) (ds : List D) (xs : List V) (P : PS_) : Prop where
  step : Step (UU fs) F F' H H'
  wf : WfF F' H'
  env : EnvR K fns F' H' σ ρ' fs'
  rep : RepL K fns F' H' ds xs P
  own : OwnS F' H' P
  dj : Dj P (UU fs')
  new : ∀ a, P a ∨ UU fs' a → UU fs a ∨ H a = none
/-- behind a rule by values -/
structure VPost (K : PySem.W.Frag) (fns : List Addr) (F : PS_) (H : Hp) (P : PS_) (F' : PS_) (H' : Hp) (d : D) (z : V) (P' : PS_) : Prop where
  step : Step P F F' H H'
  wf : WfF F' H'
  rep : Rep K fns F' H' d z P'
  own : OwnS F' H' P'
  new : ∀ a, P' a → P a ∨ H a = none
section
variable (K : PySem.W.Frag) (fns : List Addr)
def tE (g : EvT) : TE := fun σ H Q => ∃ F ρ fs d ρ', WfF F H ∧ EnvR K fns F H σ ρ fs ∧ g ρ = some (d, ρ') ∧ ∀ F' H' fs' x P, EPost K fns F H fs F' H' fs' σ ρ' d x P → Q x H'
def tT (g : EvT) : TT := fun σ H Q => ∃ F ρ fs d ρ' b, WfF F H ∧ EnvR K fns F H σ ρ fs ∧ g ρ = some (d, ρ') ∧ truD d = some b ∧ ∀ F' H' fs' x P, EPost K fns F H fs F' H' fs' σ ρ' d x P → Q b H'
def tA (g : Rho → Option (List D × Rho)) : TA := fun σ H Q => ∃ F ρ fs ds ρ', WfF F H ∧ EnvR K fns F H σ ρ fs ∧ g ρ = some (ds, ρ') ∧ ∀ F' H' fs' xs P, APost K fns F H fs F' H' fs' σ ρ' ds xs P → Q xs H'
/-- a rule by values: what f makes of the data -/
def rN (f : List D → Option D) : List V → Hp → VK → Prop := fun xs H Q => ∃ F ds P d, WfF F H ∧ RepL K fns F H ds xs P ∧ OwnS F H P ∧ f ds = some d ∧ ∀ F' H' z P', VPost K fns F H P F' H' d z P' → Q z H'
def r2 (f : D → D → Option D) : R2 := fun x y H Q => ∃ F d e P R, WfF F H ∧ RepL K fns F H [d, e] [x, y] P ∧ OwnS F H P ∧ f d e = some R ∧ ∀ F' H' z P', VPost K fns F H P F' H' R z P' → Q z H'
/-- a comparison: nothing changes -/
def r2c (f : D → D → Option Bool) : R2 := fun x y H Q => ∃ F d e P1 P2 b, Rep K fns F H d x P1 ∧ Rep K fns F H e y P2 ∧ f d e = some b ∧ Q (.bl b) H
def r1 (f : D → Option D) : V → Hp → VK → Prop := fun x H Q => ∃ F d P R, WfF F H ∧ Rep K fns F H d x P ∧ OwnS F H P ∧ f d = some R ∧ ∀ F' H' z P', VPost K fns F H P F' H' R z P' → Q z H'
end
section
variable {K : PySem.W.Frag} {fns : List Addr} {F F' F1 F2 P P' Q : PS_} {H H' H1 H2 : Hp} {σ : L2.St} {ρ ρ' ρ1 ρ2 : Rho} {fs fs' fs1 fs2 : Nat → PS_} {d d1 d2 : D} {x y z : V} {ds : List D} {xs : List V}
theorem APost.nil (w : WfF F H) (e : EnvR K fns F H σ ρ fs) : APost K fns F H fs F H fs σ ρ [] [] Emp :=
  ⟨Step.refl, w, e, rfl, OwnS.emp, fun _ z => z.elim, fun _ z => z.elim False.elim .inl⟩
theorem EPost.cons (p : EPost K fns F H fs F1 H1 fs1 σ ρ1 d x P) (q : APost K fns F1 H1 fs1 F2 H2 fs2 σ ρ2 ds xs Q) : APost K fns F H fs F2 H2 fs2 σ ρ2 (d :: ds) (x :: xs) (Un2 P Q) where
  step := p.step.trans q.step fun c h => p.new c (.inr h)
  wf := q.wf
  env := q.env
  rep := ⟨x, xs, P, Q, rfl, fun _ => .inl, fun _ => .inr, (fun a h h' => by
      rcases q.new a (.inl h') with z | z
      · exact p.dj a h z
      · obtain ⟨_, o, e, _⟩ := p.own a h; rw [e] at z; cases z), q.step.rep p.env.own (fun a h h' => p.dj a h h') p.rep, q.rep⟩
  own := (q.step.own (fun a h h' => p.dj a h h') p.own).un q.own
  dj := fun a h h' => by
    rcases h with h | h
    · rcases q.new a (.inr h') with z | z
      · exact p.dj a h z
      · obtain ⟨_, o, e, _⟩ := p.own a h; rw [e] at z; cases z
    · exact q.dj a h h'
  new := fun a h => by
    have back : UU fs1 a ∨ H1 a = none → UU fs a ∨ H a = none := fun h => by
      rcases h with h | h
      · exact p.new a (.inr h)
      · cases e : H a with
        | none => exact .inr rfl
        | some o =>
          by_cases hp : UU fs a
          · exact .inl hp
          · rw [p.step.keep a o e hp] at h; cases h
    rcases h with (h | h) | h
    · exact p.new a (.inl h)
    · exact back (q.new a (.inl h))
    · exact back (q.new a (.inr h))
theorem EPost.one (p : EPost K fns F H fs F1 H1 fs1 σ ρ1 d x P) : APost K fns F H fs F1 H1 fs1 σ ρ1 [d] [x] (Un2 P Emp) := p.cons (.nil p.wf p.env)
theorem EPost.two (p : EPost K fns F H fs F1 H1 fs1 σ ρ1 d x P) (q : EPost K fns F1 H1 fs1 F2 H2 fs2 σ ρ2 d2 y Q) : APost K fns F H fs F2 H2 fs2 σ ρ2 [d, d2] [x, y] (Un2 P (Un2 Q Emp)) := p.cons q.one
/-- a rule by values behind arguments -/
theorem APost.fin (p : APost K fns F H fs F1 H1 fs1 σ ρ1 ds xs P) (q : VPost K fns F1 H1 P F2 H2 d z Q) : EPost K fns F H fs F2 H2 fs1 σ ρ1 d z Q where
  step := p.step.trans q.step fun c h => p.new c (.inl h)
  wf := q.wf
  env := p.env.step q.step p.own fun a h h' => p.dj a h' h
  rep := q.rep
  own := q.own
  dj := fun a h h' => by
    rcases q.new a h with z | z
    · exact p.dj a z h'
    · obtain ⟨_, o, e, _⟩ := p.env.own a h'; rw [e] at z; cases z
  new := fun a h => by
    rcases h with h | h
    · rcases q.new a h with z | z
      · exact p.new a (.inl z)
      · cases e : H a with
        | none => exact .inr rfl
        | some o =>
          by_cases hp : UU fs a
          · exact .inl hp
          · rw [p.step.keep a o e hp] at z; cases z
    · exact p.new a (.inr h)
/-- nothing has changed, the answer bears no address -/
theorem VPost.flat {d : D} (w : WfF F H) (r : Rep K fns F H d z Emp) : VPost K fns F H P F H d z Emp := ⟨Step.refl, w, r, OwnS.emp, fun _ z => z.elim⟩
theorem upd_keep {H : Hp} {p a : Addr} {o u : HO} (np : H p = none) (e : H a = some u) : upd H p o a = some u := by rw [upd_ne (ne_of_none e np)]; exact e
/-- a new object that we own -/
theorem VPost.newOwn {p : Addr} {o : HO} {d : D} (w : WfF F H) (np : H p = none) (io : isOw o) (oq : OwnS F H P) (r : Rep K fns F (upd H p o) d (.ref p) (fun a => P a ∨ a = p)) : VPost K fns F H P F (upd H p o) d (.ref p) (fun a => P a ∨ a = p) := by
  have st : Step P F F H (upd H p o) := ⟨Sb.rfl, fun a u e _ => upd_keep np e, fun _ f => .inl f⟩
  have pn : ¬ F p := fun f => by obtain ⟨u, e⟩ := w p f; rw [e] at np; cases np
  refine ⟨st, fun a f => ?_, r, fun a h => ?_, fun a h => ?_⟩
  · obtain ⟨u, e⟩ := w a f; exact ⟨u, upd_keep np e⟩
  · rcases h with h | h
    · obtain ⟨nf, u, e, i⟩ := oq a h; exact ⟨nf, u, upd_keep np e, i⟩
    · subst h; exact ⟨pn, o, upd_same, io⟩
  · rcases h with h | h
    · exact .inl h
    · subst h; exact .inr np
/-- a new object that never changes -/
theorem VPost.newFrz {p : Addr} {o : HO} {d : D} (w : WfF F H) (np : H p = none) (oq : OwnS F H P) (r : Rep K fns (fun a => F a ∨ a = p) (upd H p o) d (.ref p) P) : VPost K fns F H P (fun a => F a ∨ a = p) (upd H p o) d (.ref p) P := by
  refine ⟨⟨fun _ => .inl, fun a u e _ => upd_keep np e, fun a f => ?_⟩, fun a f => ?_, r, fun a h => ?_, fun a h => .inl h⟩
  · rcases f with f | f
    · exact .inl f
    · subst f; exact .inr (.inr np)
  · rcases f with f | f
    · obtain ⟨u, e⟩ := w a f; exact ⟨u, upd_keep np e⟩
    · subst f; exact ⟨o, upd_same⟩
  · obtain ⟨nf, u, e, i⟩ := oq a h
    refine ⟨fun f => ?_, u, upd_keep np e, i⟩
    rcases f with f | f
    · exact nf f
    · subst f; rw [e] at np; cases np
/-- lists under a new object -/
theorem RepL.upd {p : Addr} {o : HO} {ds : List D} {vs : List V} (np : H p = none) (ff : Sb F F') (h : RepL K fns F H ds vs P) : RepL K fns F' (upd H p o) ds vs P :=
  RepL.frame ff ds vs P (fun a u e _ => upd_keep np e) h
theorem Rep.upd {p : Addr} {o : HO} {d : D} {v : V} (np : H p = none) (ff : Sb F F') (h : Rep K fns F H d v P) : Rep K fns F' (upd H p o) d v P :=
  Rep.frame ff d v P (fun a u e _ => upd_keep np e) h
end
section
variable {X : Cx} {fns : List Addr} {e a b : Expr} {es : List Expr} {g ga gb : EvT} {pos : Pos}
theorem PE.imp {t u : TE} (h : PE X e t) (i : ∀ σ H Q, u σ H Q → t σ H Q) : PE X e u := ⟨fun pins s σ H Q I q => h.run pins s σ H Q I (i σ H Q q)⟩
theorem PT.imp {t u : TT} (h : PT X e t) (i : ∀ σ H Q, u σ H Q → t σ H Q) : PT X e u := ⟨fun pins s σ H Q I q => h.run pins s σ H Q I (i σ H Q q)⟩
theorem PA.imp {t u : TA} (h : PA X es t) (i : ∀ σ H Q, u σ H Q → t σ H Q) : PA X es u := ⟨fun pos pins s σ H Q I q => h.run pos pins s σ H Q I (i σ H Q q)⟩
def opE1 (f : D → Option D) (g : EvT) : EvT := fun ρ => do
  let (d, ρ1) ← g ρ
  let r ← f d
  pure (r, ρ1)
def opE2 (f : D → D → Option D) (ga gb : EvT) : EvT := fun ρ => do
  let (d, ρ1) ← ga ρ
  let (e, ρ2) ← gb ρ1
  let r ← f d e
  pure (r, ρ2)
def opEN (f : List D → Option D) (g : Rho → Option (List D × Rho)) : EvT := fun ρ => do
  let (ds, ρ1) ← g ρ
  let r ← f ds
  pure (r, ρ1)
theorem tE_op2 {K : PySem.W.Frag} {f : D → D → Option D} {σ : L2.St} {H : Hp} {Q : VK} (h : tE K fns (opE2 f ga gb) σ H Q) : tOp (r2 K fns f) (tE K fns ga) (tE K fns gb) σ H Q := by
  obtain ⟨F, ρ, fs, d, ρ', w, e, q, post⟩ := h
  simp only [opE2, Option.bind_eq_bind, Option.bind_eq_some_iff, Prod.exists, Option.pure_def, Option.some.injEq, Prod.mk.injEq] at q
  obtain ⟨d1, ρ1, q1, d2, ρ2, q2, r, q3, rfl, rfl⟩ := q
  refine ⟨F, ρ, fs, d1, ρ1, w, e, q1, fun F1 H1 fs1 x P1 p1 => ?_⟩
  refine ⟨F1, ρ1, fs1, d2, ρ2, p1.wf, p1.env, q2, fun F2 H2 fs2 y P2 p2 => ?_⟩
  have p := p1.two p2
  exact ⟨F2, d1, d2, _, r, p.wf, p.rep, p.own, q3, fun F3 H3 z P3 p3 => post _ _ _ _ _ (p.fin p3)⟩
theorem tE_op1 {K : PySem.W.Frag} {f : D → Option D} {σ : L2.St} {H : Hp} {Q : VK} (h : tE K fns (opE1 f g) σ H Q) : tUn (r1 K fns f) (tE K fns g) σ H Q := by
  obtain ⟨F, ρ, fs, d, ρ', w, e, q, post⟩ := h
  simp only [opE1, Option.bind_eq_bind, Option.bind_eq_some_iff, Prod.exists, Option.pure_def, Option.some.injEq, Prod.mk.injEq] at q
  obtain ⟨d1, ρ1, q1, r, q3, rfl, rfl⟩ := q
  refine ⟨F, ρ, fs, d1, ρ1, w, e, q1, fun F1 H1 fs1 x P1 p1 => ?_⟩
  have p := p1.one
  obtain ⟨v, r', PA, PB, e1, s1, s2, dj, h1, h2⟩ := p.rep
  cases e1
  exact ⟨F1, d1, _, r, p.wf, h1.mono s1, p.own, q3, fun F3 H3 z P3 p3 => post _ _ _ _ _ (p.fin p3)⟩
theorem tE_opN {K : PySem.W.Frag} {f : List D → Option D} {g : Rho → Option (List D × Rho)} {σ : L2.St} {H : Hp} {Q : VK} (h : tE K fns (opEN f g) σ H Q) : tCB (rN K fns f) (tA K fns g) σ H Q := by
  obtain ⟨F, ρ, fs, d, ρ', w, e, q, post⟩ := h
  simp only [opEN, Option.bind_eq_bind, Option.bind_eq_some_iff, Prod.exists, Option.pure_def, Option.some.injEq, Prod.mk.injEq] at q
  obtain ⟨d1, ρ1, q1, r, q3, rfl, rfl⟩ := q
  refine ⟨F, ρ, fs, d1, ρ1, w, e, q1, fun F1 H1 fs1 x P1 p1 => ?_⟩
  exact ⟨F1, d1, _, r, p1.wf, p1.rep, p1.own, q3, fun F3 H3 z P3 p3 => post _ _ _ _ _ (p1.fin p3)⟩
def consE (ga : EvT) (gb : Rho → Option (List D × Rho)) : Rho → Option (List D × Rho) := fun ρ => do
  let (d, ρ1) ← ga ρ
  let (ds, ρ2) ← gb ρ1
  pure (d :: ds, ρ2)
theorem tA_cons {K : PySem.W.Frag} {gb : Rho → Option (List D × Rho)} {σ : L2.St} {H : Hp} {Q : List V → Hp → Prop} (h : tA K fns (consE ga gb) σ H Q) : tCons (tE K fns ga) (tA K fns gb) σ H Q := by
  obtain ⟨F, ρ, fs, ds, ρ', w, e, q, post⟩ := h
  simp only [consE, Option.bind_eq_bind, Option.bind_eq_some_iff, Prod.exists, Option.pure_def, Option.some.injEq, Prod.mk.injEq] at q
  obtain ⟨d1, ρ1, q1, d2, ρ2, q2, rfl, rfl⟩ := q
  refine ⟨F, ρ, fs, d1, ρ1, w, e, q1, fun F1 H1 fs1 x P1 p1 => ?_⟩
  exact ⟨F1, ρ1, fs1, d2, ρ2, p1.wf, p1.env, q2, fun F2 H2 fs2 y P2 p2 => post _ _ _ _ _ (p1.cons p2)⟩
theorem tA_nil {K : PySem.W.Frag} {σ : L2.St} {H : Hp} {Q : List V → Hp → Prop} (h : tA K fns (fun ρ => some ([], ρ)) σ H Q) : tNil σ H Q := by
  obtain ⟨F, ρ, fs, ds, ρ', w, e, q, post⟩ := h
  cases q
  exact post _ _ _ _ _ (.nil w e)
end
end VK

set_option Elab.async false
set_option linter.all false
set_option maxRecDepth 100000
namespace VK
open PySem PySem.Spec PyProof.Rows L2

/-! ### the own syntax -/
inductive Ty where
  | str | int | bool | list | tuple | dict
  deriving DecidableEq
def Ty.nm : Ty → Str
  | .str => "str" | .int => "int" | .bool => "bool" | .list => "list" | .tuple => "tuple" | .dict => "dict"
def Ty.id : Ty → String
  | .str => "str" | .int => "int" | .bool => "bool" | .list => "list" | .tuple => "tuple" | .dict => "dict"
inductive TyE where
  | one (t : Ty) (p : Pos)
  | two (t u : Ty) (pt pu : Pos) (k : Nat) (p : Pos)
/-- built-in functions and types, called with values -/
inductive Bi where
  | len | sorted | sum | max | min | abs | all | any | repr | int | str | list | tuple | dict | bool
  deriving DecidableEq
def Bi.nm : Bi → Str
  | .len => "len" | .sorted => "sorted" | .sum => "sum" | .max => "max" | .min => "min" | .abs => "abs" | .all => "all" | .any => "any" | .repr => "repr"
  | .int => "int" | .str => "str" | .list => "list" | .tuple => "tuple" | .dict => "dict" | .bool => "bool"
/-- methods that leave their object as it is -/
inductive Mt where
  | join | count | bitLength | get | startswith | endswith | index
  deriving DecidableEq
def Mt.nm : Mt → Str
  | .join => "join" | .count => "count" | .bitLength => "bit_length" | .get => "get" | .startswith => "startswith" | .endswith => "endswith" | .index => "index"
/-- methods that change the list, the dict of a name -/
inductive Mu where
  | append | pop | popAt
  deriving DecidableEq
def Mu.nm : Mu → Str
  | .append => "append" | .pop => "pop" | .popAt => "pop"
structure TgN where
  i : Nat
  x : Str
  p : Pos
inductive Tg where
  | nm (t : TgN)
  | tup (ts : List TgN) (k : Nat) (p : Pos)
mutual
inductive E where
  | cst (c : Const) (k : Nat) (p : Pos)
  | cp (i : Nat) (x : Str) (p : Pos)
  | mv (i : Nat) (x : Str) (p : Pos)
  | glb (x : Str) (p : Pos)
  | pur (e : E)
  | neg (a : E) (p : Pos)
  | bin (op : Operator) (a b : E) (p : Pos)
  | cmp (op : CmpOp) (a b : E) (p : Pos)
  | chn (op op' : CmpOp) (a b c : E) (p : Pos)
  | and_ (es : Es) (p : Pos)
  | or_ (es : Es) (p : Pos)
  | not_ (a : E) (p : Pos)
  | ife (c a b : E) (p : Pos)
  | lst (es : Es) (p : Pos)
  | tup (es : Es) (k : Nat) (p : Pos)
  | ix (a i : E) (p : Pos)
  | sl (a : E) (lo hi : Oe) (p2 p : Pos)
  | rev (a : E) (k : Nat) (p1 p2 p3 p : Pos)
  | isi (a : E) (t : TyE) (pn p : Pos)
  | bi (b : Bi) (es : Es) (pn p : Pos)
  | call (f : Nat) (x : Str) (es : Es) (pn p : Pos)
  | callK (f : Nat) (x : Str) (es : Es) (ks : List (Str × Pos)) (q : List Nat) (kes : Es) (pn p : Pos)
  | mt (m : Mt) (o : E) (es : Es) (pa p : Pos)
  | mu (m : Mu) (i : Nat) (x : Str) (px : Pos) (es : Es) (pa p : Pos)
  | lc (elt : E) (tg : Tg) (it : It) (cd : Oe) (sc : Scope) (own : List (Str × Nat)) (p : Pos)
  | dct (ps : Ps) (p : Pos)
  | dc (kx vx : E) (tg : Tg) (it : It) (cd : Oe) (sc : Scope) (own : List (Str × Nat)) (p : Pos)
inductive Ps where
  | nil
  | cons (k v : E) (ps : Ps)
inductive Oe where
  | no
  | yes (e : E)
inductive Es where
  | nil
  | cons (e : E) (es : Es)
inductive It where
  | any (e : E)
  | lst (e : E)
  | tup (e : E)
  | str (e : E)
  | rng1 (a : E) (pn p : Pos)
  | rng2 (a b : E) (pn p : Pos)
  | zip (a b : E) (pn p : Pos)
  | enum (a : E) (pn p : Pos)
  | keys (i : Nat) (x : Str) (p : Pos)
  | items (i : Nat) (x : Str) (px pa p : Pos)
  | values (i : Nat) (x : Str) (px pa p : Pos)
end
mutual
inductive S where
  | expr (e : E) (p : Pos)
  | asg (t : Tg) (e : E) (p : Pos)
  | asgC (t : TgN) (e : E) (p : Pos)
  | par (t u : TgN) (a b : E) (kt : Nat) (pt : Pos) (k2 : Nat) (pt2 : Pos) (p : Pos)
  | aug (op : Operator) (t : TgN) (e : E) (p : Pos)
  | setx (t : TgN) (i e : E) (ps p : Pos)
  | ret (e : E) (p : Pos)
  | retN (p : Pos)
  | ite (c : E) (a b : Ss) (p : Pos)
  | whl (c : E) (b : Ss) (p : Pos)
  | for_ (t : Tg) (it : It) (b : Ss) (p : Pos)
  | pas (p : Pos)
  | brk (p : Pos)
  | cnt (p : Pos)
  | bad (s : Stmt)
inductive Ss where
  | nil
  | cons (s : S) (ss : Ss)
end
def Es.isNil : Es → Bool
  | .nil => true
  | _ => false
/-! ### what it stands for -/
def Ty.ast (t : Ty) (p : Pos) : Expr := .Name t.nm p
def TyE.ast : TyE → Expr
  | .one t p => t.ast p
  | .two t u pt pu k p => .Tuple [t.ast pt, u.ast pu] k p
def TgN.ast (t : TgN) : Expr := .Name t.x t.p
def Tg.ast : Tg → Expr
  | .nm t => t.ast
  | .tup ts k p => .Tuple (ts.map TgN.ast) k p
def kwAst : List (Str × Pos) → List Expr → List Keyword
  | (n, q) :: ks, e :: es => ⟨some n, e, q⟩ :: kwAst ks es
  | _, _ => []
mutual
def E.ast : E → Expr
  | .cst c k p => .Constant c k p
  | .cp _ x p => .Name x p
  | .mv _ x p => .Name x p
  | .glb x p => .Name x p
  | .pur e => e.ast
  | .neg a p => .UnaryOp .USub a.ast p
  | .bin op a b p => .BinOp a.ast op b.ast p
  | .cmp op a b p => .Compare a.ast [op] [b.ast] p
  | .chn op op' a b c p => .Compare a.ast [op, op'] [b.ast, c.ast] p
  | .and_ es p => .BoolOp .And es.ast p
  | .or_ es p => .BoolOp .Or es.ast p
  | .not_ a p => .UnaryOp .Not a.ast p
  | .ife c a b p => .IfExp c.ast a.ast b.ast p
  | .lst es p => .List es.ast p
  | .tup es k p => .Tuple es.ast k p
  | .ix a i p => .Subscript a.ast i.ast p
  | .sl a lo hi p2 p => .Subscript a.ast (.Slice lo.ast hi.ast none p2) p
  | .rev a k p1 p2 p3 p => .Subscript a.ast (.Slice none none (some (.UnaryOp .USub (.Constant (.int 1) k p1) p2)) p3) p
  | .isi a t pn p => .Call (.Name "isinstance" pn) [a.ast, t.ast] [] p
  | .bi b es pn p => .Call (.Name b.nm pn) es.ast [] p
  | .call _ x es pn p => .Call (.Name x pn) es.ast [] p
  | .callK _ x es ks _ kes pn p => .Call (.Name x pn) es.ast (kwAst ks kes.ast) p
  | .mt m o es pa p => .Call (.Attribute o.ast m.nm pa) es.ast [] p
  | .mu m _ x px es pa p => .Call (.Attribute (.Name x px) m.nm pa) es.ast [] p
  | .lc elt tg it cd sc _ p => .ListComp elt.ast [⟨tg.ast, it.ast, cd.astL, 0⟩] sc p
  | .dct ps p => .Dict ps.kast ps.vast p
  | .dc kx vx tg it cd sc _ p => .DictComp kx.ast vx.ast [⟨tg.ast, it.ast, cd.astL, 0⟩] sc p
def Ps.kast : Ps → List (Option Expr)
  | .nil => []
  | .cons k _ ps => some k.ast :: ps.kast
def Ps.vast : Ps → List Expr
  | .nil => []
  | .cons _ v ps => v.ast :: ps.vast
def Oe.ast : Oe → Option Expr
  | .no => none
  | .yes e => some e.ast
def Oe.astL : Oe → List Expr
  | .no => []
  | .yes e => [e.ast]
def Es.ast : Es → List Expr
  | .nil => []
  | .cons e es => e.ast :: es.ast
def It.ast : It → Expr
  | .any e => e.ast
  | .lst e => e.ast
  | .tup e => e.ast
  | .str e => e.ast
  | .rng1 a pn p => .Call (.Name "range" pn) [a.ast] [] p
  | .rng2 a b pn p => .Call (.Name "range" pn) [a.ast, b.ast] [] p
  | .zip a b pn p => .Call (.Name "zip" pn) [a.ast, b.ast] [] p
  | .enum a pn p => .Call (.Name "enumerate" pn) [a.ast] [] p
  | .keys _ x p => .Name x p
  | .items _ x px pa p => .Call (.Attribute (.Name x px) "items" pa) [] [] p
  | .values _ x px pa p => .Call (.Attribute (.Name x px) "values" pa) [] [] p
end
mutual
def S.ast : S → Stmt
  | .expr e p => .Expr e.ast p
  | .asg t e p => .Assign [t.ast] e.ast p
  | .asgC t e p => .Assign [t.ast] e.ast p
  | .par t u a b kt pt k2 pt2 p => .Assign [.Tuple [t.ast, u.ast] kt pt] (.Tuple [a.ast, b.ast] k2 pt2) p
  | .aug op t e p => .AugAssign t.ast op e.ast p
  | .setx t i e ps p => .Assign [.Subscript t.ast i.ast ps] e.ast p
  | .ret e p => .Return (some e.ast) p
  | .retN p => .Return none p
  | .ite c a b p => .If c.ast a.ast b.ast p
  | .whl c b p => .While c.ast b.ast [] p
  | .for_ t it b p => .For t.ast it.ast b.ast [] p
  | .pas p => .Pass p
  | .brk p => .Break p
  | .cnt p => .Continue p
  | .bad s => s
def Ss.ast : Ss → List Stmt
  | .nil => []
  | .cons s ss => s.ast :: ss.ast
end

/-! ### the evaluator -/
def tyB : Ty → D → Option Bool
  | _, .fn _ => none
  | .str, .str _ => some true
  | .int, .int _ => some true
  | .int, .bl _ => some true
  | .bool, .bl _ => some true
  | .list, .lst _ _ => some true
  | .tuple, .tup _ => some true
  | .dict, .dct _ _ => some true
  | _, _ => some false
def tyE : TyE → D → Option Bool
  | .one t _, d => tyB t d
  | .two t u _ _ _ _, d => match tyB t d, tyB u d with
    | some a, some b => some (a || b)
    | _, _ => none
def cstD : Const → Option D
  | .none => some .non
  | .bool b => some (.bl b)
  | .int i => some (.int i)
  | .str x => some (.str x)
  | _ => none
def setsE : List TgN → List D → Rho → Option Rho
  | [], [], ρ => some ρ
  | t :: ts, d :: ds, ρ => setsE ts ds (ρ.set t.i (some d))
  | _, _, _ => none
def setT : Tg → D → Rho → Option Rho
  | .nm t, d, ρ => some (ρ.set t.i (some d))
  | .tup ts _ _, .tup ds, ρ => setsE ts ds ρ
  | _, _, _ => none
def wipeE (ρ : Rho) : List Nat → Rho
  | [] => ρ
  | v :: vs => (wipeE ρ vs).set v none
def frzE (ρ : Rho) : Rho := ρ.map (·.map frz)
/-- back to the old contents of the slots -/
def backE (ρ ρ0 : Rho) : List Nat → Rho
  | [] => ρ
  | v :: vs => (backE ρ ρ0 vs).set v (ρ0.getD v none)
def lcGo (set : D → Rho → Option Rho) (test elt : EvT) (wp : List Nat) : List D → Rho → List D → Option (List D × Rho)
  | [], ρ, acc => some (acc, ρ)
  | d :: ds, ρ, acc => do
    let ρ1 ← set d ρ
    let (t, ρ2) ← test ρ1
    let b ← truD t
    if b = true then do
      let (y, ρ3) ← elt ρ2
      if acc.length < sizeLine then lcGo set test elt wp ds (wipeE ρ3 wp) (acc ++ [y]) else none
    else lcGo set test elt wp ds (wipeE ρ2 wp) acc
def keyD : D → Option Key
  | .int i => some (.inl i)
  | .str x => some (.inr x)
  | _ => none
def keyOf : Key → D
  | .inl i => .int i
  | .inr x => .str x
def putD (kvs : List (Key × D)) (k : Key) (v : D) : List (Key × D) :=
  if (kvs.any fun kv => decide (kv.1 = k)) = true then kvs.map (fun kv => if kv.1 = k then (kv.1, v) else kv) else kvs ++ [(k, v)]
def mergeD (kvs more : List (Key × D)) : List (Key × D) := more.foldl (fun acc kv => putD acc kv.1 kv.2) kvs
def getD' (kvs : List (Key × D)) (k : Key) : Option D := (kvs.find? fun kv => decide (kv.1 = k)).map (·.2)
def dcGo (set : D → Rho → Option Rho) (test kx vx : EvT) (wp : List Nat) : List D → Rho → List (Key × D) → Option (List (Key × D) × Rho)
  | [], ρ, acc => some (acc, ρ)
  | d :: ds, ρ, acc => do
    let ρ1 ← set d ρ
    let (t, ρ2) ← test ρ1
    let b ← truD t
    if b = true then do
      let (k, ρ3) ← kx ρ2
      let (v, ρ4) ← vx ρ3
      let k ← keyD k
      if acc.length < sizeLine then dcGo set test kx vx wp ds (wipeE ρ4 wp) (putD acc k v) else none
    else dcGo set test kx vx wp ds (wipeE ρ2 wp) acc
def enumI : Nat → List D → List D
  | _, [] => []
  | i, x :: xs => .tup [.int i, x] :: enumI (i + 1) xs
/-- what a walk over a locked dict sees -/
def dctI (i : Nat) (f : List (Key × D) → List D) : Rho → Option (List D × Rho) := fun ρ => match ρ[i]? with
  | some (some (.dct o kvs)) => some (f (frzP kvs), ρ.set i (some (frz (.dct o kvs))))
  | _ => none
structure Tab where
  fn : List Str
  glb : List (Str × D)
  kw : List (Nat × Nat × List Str × List Nat)
def permD (q : List Nat) (ds : List D) : List D := q.map fun i => ds.getD i .non
abbrev CallF := Nat → List D → Option (D × List (Nat × Option D))
/-- the positions of the arguments that are handed over to be changed, with their slots -/
def iosOf : Nat → Es → List (Nat × Nat)
  | _, .nil => []
  | j, .cons (.mv i _ _) es => (j, i) :: iosOf (j + 1) es
  | j, .cons _ es => iosOf (j + 1) es
def outsE (outs : List (Nat × Option D)) : List (Nat × Nat) → Rho → Rho
  | [], ρ => ρ
  | (j, i) :: r, ρ => outsE outs r (match outs.lookup j with
    | some o => ρ.set i o
    | none => ρ)
/-- an argument that is handed over to be changed is taken when all others stand -/
def lateE (i : Nat) (gb : Rho → Option (List D × Rho)) : Rho → Option (List D × Rho) := fun ρ => match ρ[i]? with
  | some (some _) => do
    let (ds, ρ1) ← gb ρ
    match ρ1[i]? with
    | some (some d) => pure (d :: ds, ρ1.set i none)
    | _ => none
  | _ => none
def argE : E → EvT → (Rho → Option (List D × Rho)) → Rho → Option (List D × Rho)
  | .mv i _ _, _, gb => lateE i gb
  | _, ga, gb => consE ga gb
def sliceD (d : D) (lo hi : Option Int) : Option D := match d with
  | .lst _ xs => some (.lst .own ((xs.drop (HT.sIx xs.length 0 lo)).take (HT.sIx xs.length xs.length hi - HT.sIx xs.length 0 lo)))
  | .str x => if x.length ≤ sizeLine then some (.str (cutS x lo hi)) else none
  | _ => none
def intO : D → Option (Option Int)
  | .int i => some (some i)
  | _ => none
def opIx : D → D → Option D
  | .lst _ xs, .int i => atI xs i
  | .tup xs, .int i => atI xs i
  | .str x, .int i => if x.length ≤ sizeLine then (atI x.cps.toList i).map fun c => .str ⟨#[c]⟩ else none
  | .dct _ kvs, .int i => getD' kvs (.inl i)
  | .dct _ kvs, .str x => getD' kvs (.inr x)
  | _, _ => none
def negD : D → Option D
  | .int i => some (.int (-i))
  | _ => none
def revD : D → Option D
  | .lst _ xs => some (.lst .own xs.reverse)
  | .str x => if x.length ≤ sizeLine then some (.str ⟨x.cps.toList.reverse.toArray⟩) else none
  | _ => none
section
variable (opBi : Bi → List D → Option D) (opMt : Mt → D → List D → Option D) (opMu : Mu → D → List D → Option (D × D))
variable (T : Tab) (C : CallF) (W : Nat)
mutual
def ev : E → EvT
  | .cst c _ _ => fun ρ => (cstD c).map fun d => (d, ρ)
  | .cp i _ _ => fun ρ => match ρ[i]? with
    | some (some d) => some (frz d, ρ.set i (some (frz d)))
    | _ => none
  | .mv i _ _ => fun ρ => match ρ[i]? with
    | some (some d) => some (d, ρ.set i none)
    | _ => none
  | .glb x _ => fun ρ => (T.glb.lookup x).map fun d => (d, ρ)
  | .pur e => fun ρ => match ev e (frzE ρ) with
    | some (d, _) => if nsh d = true then some (d, ρ) else none
    | none => none
  | .neg a _ => opE1 negD (ev a)
  | .bin op a b _ => opE2 (opB op) (ev a) (ev b)
  | .cmp op a b _ => opE2 (fun x y => (opC op x y).map .bl) (ev a) (ev b)
  | .chn op op' a b c _ => fun ρ => do
    let (x, ρ1) ← ev a ρ
    let (y, ρ2) ← ev b ρ1
    let k ← opC op x y
    if k = true then do
      let (z, ρ3) ← ev c ρ2
      let l ← opC op' y z
      pure (.bl l, ρ3)
    else pure (.bl false, ρ2)
  | .and_ es _ => evAnd es
  | .or_ es _ => evOr es
  | .not_ a _ => fun ρ => do
    let (x, ρ1) ← ev a ρ
    let k ← truD x
    pure (.bl (!k), ρ1)
  | .ife c a b _ => fun ρ => do
    let (x, ρ1) ← ev c ρ
    let k ← truD x
    if k = true then ev a ρ1 else ev b ρ1
  | .lst es _ => opEN (fun ds => if ds.length ≤ sizeLine then some (.lst .own ds) else none) (evs es)
  | .tup es _ _ => opEN (fun ds => if ds.length ≤ sizeLine then some (.tup ds) else none) (evs es)
  | .ix a i _ => opE2 opIx (ev a) (ev i)
  | .sl a lo hi _ _ => fun ρ => do
    let (x, ρ1) ← ev a ρ
    let (l, ρ2) ← evO lo ρ1
    let (h, ρ3) ← evO hi ρ2
    let r ← sliceD x l h
    pure (r, ρ3)
  | .rev a _ _ _ _ _ => opE1 revD (ev a)
  | .isi a t _ _ => opE1 (fun d => (tyE t d).map .bl) (ev a)
  | .bi b es _ _ => opEN (opBi b) (evs es)
  | .call f _ es _ _ => fun ρ => do
    let (ds, ρ1) ← evs es ρ
    let (r, outs) ← C f ds
    pure (r, outsE outs (iosOf 0 es) ρ1)
  | .callK f _ es _ q kes _ _ => fun ρ => do
    let (ds, ρ1) ← evs es ρ
    let (zs, ρ2) ← evs kes ρ1
    let (r, _) ← C f (permD q (ds ++ zs))
    pure (r, ρ2)
  | .mt m o es _ _ => fun ρ => do
    let (x, ρ1) ← ev o ρ
    let (ds, ρ2) ← evs es ρ1
    let r ← opMt m x ds
    pure (r, ρ2)
  | .mu m i _ _ es _ _ => fun ρ => match ρ[i]? with
    | some (some (.lst .own _)) => do
      let (ds, ρ1) ← evs es ρ
      match ρ1[i]? with
      | some (some x) => do
        let (r, x') ← opMu m x ds
        pure (r, ρ1.set i (some x'))
      | _ => none
    | _ => none
  | .lc elt tg it cd _ own _ => fun ρ => do
    let (ds, ρ1) ← evIt it ρ
    let (ys, ρ2) ← lcGo (setT tg) (evT cd) (ev elt) (own.map (·.2)) ds (wipeE ρ1 (own.map (·.2))) []
    pure (.lst .own ys, backE ρ2 ρ1 (own.map (·.2)))
  | .dct ps _ => fun ρ => do
    let (kvs, ρ1) ← evPs ps ρ
    if kvs.length ≤ 15 then pure (.dct .own (mergeD [] kvs), ρ1) else none
  | .dc kx vx tg it cd _ own _ => fun ρ => do
    let (ds, ρ1) ← evIt it ρ
    let (kvs, ρ2) ← dcGo (setT tg) (evT cd) (ev kx) (ev vx) (own.map (·.2)) ds (wipeE ρ1 (own.map (·.2))) []
    pure (.dct .own kvs, backE ρ2 ρ1 (own.map (·.2)))
def evPs : Ps → Rho → Option (List (Key × D) × Rho)
  | .nil => fun ρ => some ([], ρ)
  | .cons k v ps => fun ρ => do
    let (x, ρ1) ← ev k ρ
    let (y, ρ2) ← ev v ρ1
    let (r, ρ3) ← evPs ps ρ2
    let k ← keyD x
    pure ((k, y) :: r, ρ3)
def evT : Oe → EvT
  | .no => fun ρ => some (.bl true, ρ)
  | .yes e => ev e
def evO : Oe → Rho → Option (Option Int × Rho)
  | .no => fun ρ => some (none, ρ)
  | .yes e => fun ρ => do
    let (x, ρ1) ← ev e ρ
    let o ← intO x
    pure (o, ρ1)
def evs : Es → Rho → Option (List D × Rho)
  | .nil => fun ρ => some ([], ρ)
  | .cons e es => argE e (ev e) (evs es)
def evAnd : Es → EvT
  | .nil => fun _ => none
  | .cons e .nil => ev e
  | .cons e es => fun ρ => do
    let (x, ρ1) ← ev e ρ
    let k ← truD x
    if k = true then evAnd es ρ1 else pure (x, ρ1)
def evOr : Es → EvT
  | .nil => fun _ => none
  | .cons e .nil => ev e
  | .cons e es => fun ρ => do
    let (x, ρ1) ← ev e ρ
    let k ← truD x
    if k = true then pure (x, ρ1) else evOr es ρ1
def evIt : It → Rho → Option (List D × Rho)
  | .any e => fun ρ => do
    let (x, ρ1) ← ev e ρ
    match x with
    | .lst _ xs => some (frzL xs, ρ1)
    | .tup xs => some (frzL xs, ρ1)
    | .str z => some (z.cps.toList.map fun c => .str ⟨#[c]⟩, ρ1)
    | _ => none
  | .lst e => fun ρ => do
    let (x, ρ1) ← ev e ρ
    match x with
    | .lst _ xs => some (frzL xs, ρ1)
    | _ => none
  | .tup e => fun ρ => do
    let (x, ρ1) ← ev e ρ
    match x with
    | .tup xs => some (frzL xs, ρ1)
    | _ => none
  | .str e => fun ρ => do
    let (x, ρ1) ← ev e ρ
    match x with
    | .str z => some (z.cps.toList.map fun c => .str ⟨#[c]⟩, ρ1)
    | _ => none
  | .rng1 a _ _ => fun ρ => do
    let (x, ρ1) ← ev a ρ
    match x with
    | .int j => if -(2 ^ 62) ≤ j ∧ j < 2 ^ 62 then some ((List.range j.toNat).map fun (k : Nat) => .int (k : Int), ρ1) else none
    | _ => none
  | .rng2 a b _ _ => fun ρ => do
    let (x, ρ1) ← ev a ρ
    let (y, ρ2) ← ev b ρ1
    match x, y with
    | .int i, .int j => if -(2 ^ 62) ≤ i ∧ i < 2 ^ 62 ∧ -(2 ^ 62) ≤ j ∧ j < 2 ^ 62 then some ((List.range (j - i).toNat).map fun (k : Nat) => .int (i + (k : Int)), ρ2) else none
    | _, _ => none
  | .zip a b _ _ => fun ρ => do
    let (x, ρ1) ← ev a ρ
    let (y, ρ2) ← ev b ρ1
    match x, y with
    | .lst _ xs, .lst _ ys => some (List.zipWith (fun x y => .tup [x, y]) (frzL xs) (frzL ys), ρ2)
    | .tup xs, .tup ys => some (List.zipWith (fun x y => .tup [x, y]) (frzL xs) (frzL ys), ρ2)
    | _, _ => none
  | .enum a _ _ => fun ρ => do
    let (x, ρ1) ← ev a ρ
    match x with
    | .lst _ xs => some (enumI 0 (frzL xs), ρ1)
    | _ => none
  | .keys i _ _ => dctI i fun kvs => kvs.map fun kv => keyOf kv.1
  | .items i _ _ _ _ => dctI i fun kvs => kvs.map fun kv => .tup [keyOf kv.1, kv.2]
  | .values i _ _ _ _ => dctI i fun kvs => kvs.map fun kv => kv.2
end
inductive Fl where
  | nx | bk | ct | rt (d : D)
def whlGo (test : EvT) (body : Rho → Option (Fl × Rho)) : Nat → Rho → Option (Fl × Rho)
  | 0, _ => none
  | n + 1, ρ => do
    let (t, ρ1) ← test ρ
    let b ← truD t
    if b = true then do
      let (f, ρ2) ← body ρ1
      match f with
      | .nx => whlGo test body n ρ2
      | .ct => whlGo test body n ρ2
      | .bk => some (.nx, ρ2)
      | .rt d => some (.rt d, ρ2)
    else some (.nx, ρ1)
def forGo (set : D → Rho → Option Rho) (body : Rho → Option (Fl × Rho)) : List D → Rho → Option (Fl × Rho)
  | [], ρ => some (.nx, ρ)
  | d :: ds, ρ => do
    let ρ1 ← set d ρ
    let (f, ρ2) ← body ρ1
    match f with
    | .nx => forGo set body ds ρ2
    | .ct => forGo set body ds ρ2
    | .bk => some (.nx, ρ2)
    | .rt d => some (.rt d, ρ2)
def augI : Operator → Int → D → Option D
  | .Add, a, .int j => some (.int (a + j))
  | .Sub, a, .int j => some (.int (a - j))
  | _, _, _ => none
/-- name[i] = v: the new content -/
def setxD : D → D → D → Option D
  | .lst .own xs, .int i, v => (ixN xs.length i).map fun j => .lst .own (xs.set j v)
  | .dct .own kvs, k, v => if kvs.length < sizeLine then (keyD k).map fun k => .dct .own (putD kvs k v) else none
  | _, _, _ => none
mutual
def exec : S → Rho → Option (Fl × Rho)
  | .expr e _ => fun ρ => do
    let (_, ρ1) ← ev opBi opMt opMu T C e ρ
    pure (.nx, ρ1)
  | .asg t e _ => fun ρ => do
    let (d, ρ1) ← ev opBi opMt opMu T C e ρ
    let ρ2 ← setT t d ρ1
    pure (.nx, ρ2)
  | .asgC t e _ => fun ρ => do
    let (d, ρ1) ← ev opBi opMt opMu T C e ρ
    pure (.nx, ρ1.set t.i (some d))
  | .par t u a b _ _ _ _ _ => fun ρ => do
    let (x, ρ1) ← ev opBi opMt opMu T C a ρ
    let (y, ρ2) ← ev opBi opMt opMu T C b ρ1
    pure (.nx, (ρ2.set t.i (some x)).set u.i (some y))
  | .aug op t e _ => fun ρ => do
    match ρ[t.i]? with
    | some (some (.int i)) => do
      let (y, ρ1) ← ev opBi opMt opMu T C e ρ
      let r ← augI op i y
      pure (.nx, ρ1.set t.i (some r))
    | _ => none
  | .setx t i e _ _ => fun ρ => do
    let (v, ρ1) ← ev opBi opMt opMu T C e ρ
    match ρ1[t.i]? with
    | some (some x) => do
      let (k, ρ2) ← ev opBi opMt opMu T C i (ρ1.set t.i none)
      let x' ← setxD x k v
      pure (.nx, ρ2.set t.i (some x'))
    | _ => none
  | .ret e _ => fun ρ => do
    let (d, ρ1) ← ev opBi opMt opMu T C e ρ
    pure (.rt d, ρ1)
  | .retN _ => fun ρ => some (.rt .non, ρ)
  | .ite c a b _ => fun ρ => do
    let (t, ρ1) ← ev opBi opMt opMu T C c ρ
    let k ← truD t
    if k = true then execs a ρ1 else execs b ρ1
  | .whl c b _ => whlGo (ev opBi opMt opMu T C c) (execs b) W
  | .for_ t it b _ => fun ρ => do
    let (ds, ρ1) ← evIt opBi opMt opMu T C it ρ
    forGo (setT t) (execs b) ds ρ1
  | .pas _ => fun ρ => some (.nx, ρ)
  | .brk _ => fun ρ => some (.bk, ρ)
  | .cnt _ => fun ρ => some (.ct, ρ)
  | .bad _ => fun _ => none
def execs : Ss → Rho → Option (Fl × Rho)
  | .nil => fun ρ => some (.nx, ρ)
  | .cons s ss => fun ρ => do
    let (f, ρ1) ← exec s ρ
    match f with
    | .nx => execs ss ρ1
    | f => some (f, ρ1)
end
end
end VK

set_option Elab.async false
set_option linter.all false
set_option maxRecDepth 100000
namespace VK
open PySem PySem.Spec PyProof.Rows L2
section
variable {K : PySem.W.Frag} {fns : List Addr} {F F' P Q : PS_} {H H' : Hp} {v : V} {ds es : List D} {vs ws : List V}
/-! ### lists of data, item by item -/
theorem RepL.len : ∀ {ds : List D} {vs : List V} {P : PS_}, RepL K fns F H ds vs P → vs.length = ds.length
  | [], _, _, h => by cases (show _ = [] from h); rfl
  | d :: ds, _, _, ⟨v, r, P1, P2, e, _, _, _, _, h2⟩ => by rw [e, List.length_cons, List.length_cons, RepL.len h2]
theorem RepL.get : ∀ {ds : List D} {vs : List V} {P : PS_} {i : Nat} {d : D}, RepL K fns F H ds vs P → ds[i]? = some d → ∃ v, vs[i]? = some v ∧ Rep K fns F H d v P
  | [], _, _, i, d, h, e => by simp at e
  | d :: ds, _, _, 0, d', ⟨v, r, P1, P2, e, s1, _, _, h1, _⟩, q => by
    simp at q; subst q
    exact ⟨v, by rw [e]; rfl, h1.mono s1⟩
  | d :: ds, _, _, i + 1, d', ⟨v, r, P1, P2, e, _, s2, _, _, h2⟩, q => by
    obtain ⟨u, h, r'⟩ := RepL.get (i := i) h2 (by simpa using q)
    exact ⟨u, by rw [e]; simpa using h, r'.mono s2⟩
theorem RepL.append : ∀ {ds es : List D} {vs ws : List V} {P Q : PS_}, RepL K fns F H ds vs P → RepL K fns F H es ws Q → Dj P Q → RepL K fns F H (ds ++ es) (vs ++ ws) (Un2 P Q)
  | [], _, _, _, _, _, h, h', _ => by cases (show _ = [] from h); exact h'.mono fun _ => .inr
  | d :: ds, es, _, ws, P, Q, ⟨v, r, P1, P2, e, s1, s2, dj, h1, h2⟩, h', dq => by
    refine ⟨v, r ++ ws, P1, Un2 P2 Q, by rw [e]; rfl, fun a p => .inl (s1 a p), fun a p => p.imp (s2 a) id, fun a p q => q.elim (dj a p) (dq a (s1 a p)), h1, ?_⟩
    exact RepL.append h2 h' fun a p q => dq a (s2 a p) q
theorem RepL.take : ∀ {ds : List D} {vs : List V} {P : PS_} (n : Nat), RepL K fns F H ds vs P → RepL K fns F H (ds.take n) (vs.take n) P
  | [], _, _, n, h => by cases (show _ = [] from h); rw [List.take_nil, List.take_nil]; rfl
  | d :: ds, _, _, 0, h => rfl
  | d :: ds, _, _, n + 1, ⟨v, r, P1, P2, e, s1, s2, dj, h1, h2⟩ => ⟨v, r.take n, P1, P2, by rw [e]; rfl, s1, s2, dj, h1, RepL.take n h2⟩
theorem RepL.drop : ∀ {ds : List D} {vs : List V} {P : PS_} (n : Nat), RepL K fns F H ds vs P → RepL K fns F H (ds.drop n) (vs.drop n) P
  | [], _, _, n, h => by cases (show _ = [] from h); rw [List.drop_nil, List.drop_nil]; rfl
  | d :: ds, _, _, 0, h => h
  | d :: ds, _, _, n + 1, ⟨v, r, P1, P2, e, s1, s2, dj, h1, h2⟩ => by rw [e]; exact (RepL.drop n h2).mono s2
theorem RepL.one {d : D} {v : V} (h : Rep K fns F H d v P) : RepL K fns F H [d] [v] P := ⟨v, [], P, Emp, rfl, Sb.rfl, Emp.sb, fun _ _ z => z.elim, h, rfl⟩
theorem RepL.of1 {d : D} (h : RepL K fns F H [d] vs P) : ∃ v, vs = [v] ∧ Rep K fns F H d v P := by
  obtain ⟨v, r, P1, P2, e, s1, s2, dj, h1, h2⟩ := h
  cases (show r = [] from h2)
  exact ⟨v, e, h1.mono s1⟩
theorem RepL.of2 {d e : D} {x y : V} (h : RepL K fns F H [d, e] [x, y] P) : ∃ P1 P2, Sb P1 P ∧ Sb P2 P ∧ Dj P1 P2 ∧ Rep K fns F H d x P1 ∧ Rep K fns F H e y P2 := by
  obtain ⟨v, r, P1, P2, e, s1, s2, dj, h1, h2⟩ := h
  cases e
  obtain ⟨w, e, h2⟩ := h2.of1
  cases e
  exact ⟨P1, P2, s1, s2, dj, h1, h2⟩
theorem RepL.set : ∀ {ds : List D} {vs : List V} {P Q : PS_} {i : Nat} {d : D} {v : V}, RepL K fns F H ds vs P → Rep K fns F H d v Q → Dj P Q → RepL K fns F H (ds.set i d) (vs.set i v) (Un2 P Q)
  | [], _, _, _, _, _, _, h, _, _ => by cases (show _ = [] from h); rfl
  | d :: ds, _, _, _, 0, d', v', ⟨v, r, P1, P2, e, s1, s2, dj, h1, h2⟩, h', dq => by
    rw [e]
    exact ⟨v', r, _, P2, rfl, fun _ => .inr, fun a p => .inl (s2 a p), fun a p q => dq a (s2 a q) p, h', h2⟩
  | d :: ds, _, _, _, i + 1, d', v', ⟨v, r, P1, P2, e, s1, s2, dj, h1, h2⟩, h', dq => by
    rw [e]
    exact ⟨v, r.set i v', P1, _, rfl, fun a p => .inl (s1 a p), fun a p => p.imp (s2 a) id, fun a p q => q.elim (dj a p) (dq a (s1 a p)), h1, RepL.set h2 h' fun a p q => dq a (s2 a p) q⟩
theorem RepL.dropLast {ds : List D} {vs : List V} {P : PS_} (h : RepL K fns F H ds vs P) : RepL K fns F H ds.dropLast vs.dropLast P := by
  rw [List.dropLast_eq_take, List.dropLast_eq_take, h.len]; exact h.take _
theorem RepL.reverse : ∀ {ds : List D} {vs : List V} {P : PS_}, RepL K fns F H ds vs P → RepL K fns F H ds.reverse vs.reverse P
  | [], _, _, h => by cases (show _ = [] from h); rfl
  | d :: ds, _, _, ⟨v, r, P1, P2, e, s1, s2, dj, h1, h2⟩ => by
    rw [e, List.reverse_cons, List.reverse_cons]
    exact (RepL.append (RepL.reverse h2) (RepL.one h1) fun a p q => dj a q p).mono fun a z => z.elim (s2 a) (s1 a)
/-- a list, wherever it is -/
theorem Rep.list {o : Ow} (h : Rep K fns F H (.lst o ds) v P) : ∃ a vs, v = .ref a ∧ SqL K H a vs ∧ RepL K fns F H ds vs P := by
  cases o with
  | own => obtain ⟨a, vs, e, h1, h2, h3⟩ := h; exact ⟨a, vs, e, SqL.of h1, h3.mono fun b z => z.1⟩
  | shr => obtain ⟨a, vs, e, h1, h2, h3⟩ := h; exact ⟨a, vs, e, SqL.of h1, h3.mono Emp.sb⟩
  | ext =>
    obtain ⟨a, vs, e, h1, h3⟩ := h
    exact ⟨a, vs, e, h1.imp (fun z => z.1) id, h3.mono Emp.sb⟩
theorem Rep.listH {o : Ow} (ho : o ≠ .ext) (h : Rep K fns F H (.lst o ds) v P) : ∃ a vs, v = .ref a ∧ H a = some (.lst vs) ∧ RepL K fns F H ds vs P := by
  cases o with
  | own => obtain ⟨a, vs, e, h1, h2, h3⟩ := h; exact ⟨a, vs, e, h1, h3.mono fun b z => z.1⟩
  | shr => obtain ⟨a, vs, e, h1, h2, h3⟩ := h; exact ⟨a, vs, e, h1, h3.mono Emp.sb⟩
  | ext => exact absurd rfl ho
theorem Rep.tupl (h : Rep K fns F H (.tup ds) v P) : ∃ a vs, v = .ref a ∧ SqT K H a vs ∧ RepL K fns F H ds vs P := by
  obtain ⟨a, vs, e, h1, h3⟩ := h
  exact ⟨a, vs, e, h1.imp (fun z => .inl z.1) id, h3⟩
theorem ofOwn (w : WfF F H) (o : OwnS F H P) {p : Addr} (np : H p = none) : ¬ P p := fun z => by obtain ⟨_, u, e, _⟩ := o p z; rw [e] at np; cases np
/-- a new list of data that we hold -/
theorem VPost.newLst {p : Addr} (w : WfF F H) (np : H p = none) (oq : OwnS F H P) (r : RepL K fns F H ds vs P) : VPost K fns F H P F (upd H p (.lst vs)) (.lst .own ds) (.ref p) (fun a => P a ∨ a = p) :=
  .newOwn w np trivial oq ⟨p, vs, rfl, upd_same, .inr rfl, (r.upd np Sb.rfl).mono fun a z => ⟨.inl z, fun e => ofOwn w oq np (e ▸ z)⟩⟩
theorem VPost.newTup {p : Addr} (w : WfF F H) (np : H p = none) (oq : OwnS F H P) (r : RepL K fns F H ds vs P) : VPost K fns F H P (fun a => F a ∨ a = p) (upd H p (.tup vs)) (.tup ds) (.ref p) P :=
  .newFrz w np oq ⟨p, vs, rfl, .inl ⟨upd_same, .inr rfl⟩, r.upd np fun _ => .inl⟩
/-- a part of what we held -/
theorem VPost.part {d : D} (w : WfF F H) (o : OwnS F H P) (r : Rep K fns F H d v P) : VPost K fns F H P F H d v P := ⟨Step.refl, w, r, o, fun _ z => .inl z⟩
end
section
variable {X : Cx} {fns : List Addr}
theorem opr_imp {f : Value → Value → Sem Value} {r s : R2} (h : OpR X f r) (i : ∀ x y H Q, s x y H Q → r x y H Q) : OpR X f s :=
  fun pins s σ H x y v u Q I rx ry q => h pins s σ H x y v u Q I rx ry (i _ _ _ _ q)
theorem op_powX : OpR X (binaryOp .Pow) (rI (fun i j => 0 ≤ j ∧ (Builtin.Int.intBits i : Int) * j ≤ 134217728) fun i j => .int (i ^ j.toNat)) := opI fun _ _ _ _ _ _ _ hc q => pow_int hc.1 (by simpa using hc.2) q
theorem op_cat2 : OpR X (binaryOp .Add) (fun x y H Q => ∃ l b xs zs, x = .ref l ∧ y = .ref b ∧ H l = some (.lst xs) ∧ H b = some (.lst zs) ∧ xs.length + zs.length ≤ sizeLine ∧ ∀ p, H p = none → Q (.ref p) (upd H p (.lst (xs ++ zs)))) := op_cat
theorem addD_ok : OpR X (binaryOp .Add) (r2 X.K fns addD) := by
  have h := (op_add (X := X)).or (op_add_str.or (op_cat.or op_catT))
  refine opr_imp h fun x y H Q q => ?_
  obtain ⟨F, d, e, P, R, w, rp, ow, ef, post⟩ := q
  obtain ⟨P1, P2, s1, s2, dj, rx, ry⟩ := rp.of2
  unfold addD at ef
  split at ef
  · cases ef; cases (show x = _ from rx); cases (show y = _ from ry)
    exact .inl ⟨_, _, rfl, rfl, post _ _ _ _ (.flat w rfl)⟩
  · split at ef
    · rename_i hl
      cases ef; cases (show x = _ from rx); cases (show y = _ from ry)
      exact .inr (.inl ⟨_, _, rfl, rfl, hl, post _ _ _ _ (.flat w rfl)⟩)
    · cases ef
  · split at ef
    · rename_i hl
      cases ef
      obtain ⟨a, vs, rfl, h1, l1⟩ := rx.listH hl.1
      obtain ⟨b, ws, rfl, h2, l2⟩ := ry.listH hl.2.1
      refine .inr (.inr (.inl ⟨a, b, vs, ws, rfl, rfl, h1, h2, by rw [l1.len, l2.len]; exact hl.2.2, fun p np => post _ _ _ _ (.newLst w np ow ((l1.append l2 dj).mono fun a z => z.elim (s1 a) (s2 a)))⟩))
    · cases ef
  · split at ef
    · rename_i xs ys hl
      cases ef
      obtain ⟨a, vs, rfl, h1, l1⟩ := rx.tupl
      obtain ⟨b, ws, rfl, h2, l2⟩ := ry.tupl
      refine .inr (.inr (.inr ⟨a, b, vs, ws, rfl, rfl, h1, h2, fun e => hl.1 (List.length_eq_zero_iff.mp (by rw [← l1.len, e]; rfl)), by rw [l1.len, l2.len]; exact hl.2, fun e => ?_, fun _ p np => post _ _ _ _ (.newTup w np ow ((l1.append l2 dj).mono fun a z => z.elim (s1 a) (s2 a)))⟩))
      have ye : ys = [] := List.length_eq_zero_iff.mp (by rw [← l2.len, e]; rfl)
      subst ye
      rw [List.append_nil] at post
      exact post _ _ _ _ (.part w ow (rx.mono s1))
    · cases ef
  · cases ef
theorem int2_ok {op : Operator} {f : D → D → Option D} {C : Int → Int → Prop} {g : Int → Int → Int} (h : OpR X (binaryOp op) (rI C fun i j => .int (g i j)))
    (hf : ∀ d e R, f d e = some R → ∃ i j, d = .int i ∧ e = .int j ∧ C i j ∧ R = .int (g i j)) : OpR X (binaryOp op) (r2 X.K fns f) := by
  refine opr_imp h fun x y H Q q => ?_
  obtain ⟨F, d, e, P, R, w, rp, ow, ef, post⟩ := q
  obtain ⟨P1, P2, s1, s2, dj, rx, ry⟩ := rp.of2
  obtain ⟨i, j, rfl, rfl, hc, rfl⟩ := hf _ _ _ ef
  cases (show x = _ from rx); cases (show y = _ from ry)
  exact ⟨_, _, rfl, rfl, hc, post _ _ _ _ (.flat w rfl)⟩
theorem subD_ok : OpR X (binaryOp .Sub) (r2 X.K fns subD) := int2_ok (C := fun _ _ => True) (g := fun i j => i - j) (opr_imp (op_sub (X := X)) fun x y H Q ⟨i, j, a, b, _, q⟩ => ⟨i, j, a, b, q⟩) fun d e R h => by
  unfold subD at h
  split at h
  · cases h; exact ⟨_, _, rfl, rfl, trivial, rfl⟩
  · cases h
theorem op_mulS : OpR X (binaryOp .Mult) (fun x y H Q => ∃ (z : Str) (n : Int), x = .str z ∧ y = .int n ∧ -1000000 ≤ n ∧ n ≤ 1000000 ∧ z.length ≤ 1000000 ∧ z.length * n.toNat ≤ sizeLine ∧ (repS z n).length ≤ sizeLine ∧ Q (.str (repS z n)) H) := by
  intro pins s σ H x y v u Q I rx ry h
  obtain ⟨z, n, rfl, rfl, h1, h2, h3, h4, h5, q⟩ := h
  obtain ⟨t, rfl⟩ := rx
  obtain ⟨t', rfl⟩ := ry
  refine PySem.P.mul_str ?_ (fun hn _ => ?_) (fun hn _ => ?_) ?_
  · have e1 : ¬ n < -(2 ^ 63 : Int) := by omega
    have e2 : ¬ n ≥ 2 ^ 63 := by omega
    rw [decide_eq_false e1, decide_eq_false e2]; rfl
  · have e3 : (z.length : Int) * n ≤ 1000000 * 1000000 := Int.mul_le_mul (by omega) h2 (by omega) (by omega)
    have e4 : (z.length : Int) ≤ (2 ^ 63 - 1) / n := Int.le_ediv_of_mul_le (by omega) (by omega)
    omega
  · exact decide_eq_false (Nat.not_lt.mpr h4)
  · unfold repS at q h5
    split
    · rename_i hn
      rw [if_pos hn] at q h5
      exact ⟨h5, ⟨.str _, H, I.tok _, ⟨_, rfl⟩, q⟩⟩
    · rename_i hn
      rw [if_neg hn] at q h5
      split
      · rename_i h1'
        rw [if_pos h1'] at q
        exact ⟨.str _, H, I, ⟨t, rfl⟩, q⟩
      · rename_i h1'
        rw [if_neg h1'] at q h5
        exact ⟨h5, ⟨.str _, H, I.tok _, ⟨_, rfl⟩, q⟩⟩
theorem mulD_ok : OpR X (binaryOp .Mult) (r2 X.K fns mulD) := by
  refine opr_imp (OpR.or op_mulX op_mulS) fun x y H Q q => ?_
  obtain ⟨F, d, e, P, R, w, rp, ow, ef, post⟩ := q
  obtain ⟨P1, P2, s1, s2, dj, rx, ry⟩ := rp.of2
  unfold mulD at ef
  split at ef
  · split at ef
    · rename_i hc
      cases ef; cases (show x = _ from rx); cases (show y = _ from ry)
      exact .inr ⟨_, _, rfl, rfl, hc.1, hc.2.1, hc.2.2.1, hc.2.2.2.1, hc.2.2.2.2, post _ _ _ _ (.flat w rfl)⟩
    · cases ef
  · split at ef
    · rename_i hc
      cases ef; cases (show x = _ from rx); cases (show y = _ from ry)
      exact .inl ⟨_, _, rfl, rfl, hc, post _ _ _ _ (.flat w rfl)⟩
    · cases ef
  · cases ef
theorem fdivD_ok : OpR X (binaryOp .FloorDiv) (r2 X.K fns fdivD) := int2_ok op_fdivW fun d e R h => by
  unfold fdivD at h
  split at h
  · split at h
    · rename_i hc; cases h; exact ⟨_, _, rfl, rfl, hc, rfl⟩
    · cases h
  · cases h
theorem modD_ok : OpR X (binaryOp .Mod) (r2 X.K fns modD) := int2_ok op_mod fun d e R h => by
  unfold modD at h
  split at h
  · split at h
    · rename_i hc; cases h; exact ⟨_, _, rfl, rfl, hc, rfl⟩
    · cases h
  · cases h
theorem powD_ok : OpR X (binaryOp .Pow) (r2 X.K fns powD) := int2_ok op_powX fun d e R h => by
  unfold powD at h
  split at h
  · split at h
    · rename_i hc; cases h; exact ⟨_, _, rfl, rfl, hc, rfl⟩
    · cases h
  · cases h
theorem opr_none {f : Value → Value → Sem Value} : OpR X f (r2 X.K fns fun _ _ => Option.none) := fun pins s σ H x y v u Q I rx ry q => by
  obtain ⟨F, d, e, P, R, w, rp, ow, ef, post⟩ := q
  cases ef
theorem opB_ok (op : Operator) : OpR X (binaryOp op) (r2 X.K fns (opB op)) := by
  cases op
  case Add => exact addD_ok
  case Sub => exact subD_ok
  case Mult => exact mulD_ok
  case FloorDiv => exact fdivD_ok
  case Mod => exact modD_ok
  case Pow => exact powD_ok
  all_goals exact opr_none
end
end VK

set_option Elab.async false
set_option linter.all false
set_option maxRecDepth 100000
namespace VK
open PySem PySem.Spec PyProof.Rows L2
section
variable {K : PySem.W.Frag} {fns : List Addr} {F F' P Q : PS_} {H H' : Hp}
mutual
theorem Rep.dp : ∀ (d : D) (v : V) (P : PS_), Rep K fns F H d v P → (toPy d).canLay0 = true → Dp K H v (toPy d)
  | .non, v, _, h, _ => by cases (show v = _ from h); exact .non
  | .bl b, v, _, h, _ => by cases (show v = _ from h); exact .bl b
  | .int i, v, _, h, _ => by cases (show v = _ from h); exact .int i
  | .str x, v, _, h, _ => by cases (show v = _ from h); exact .str x
  | .fn i, v, _, h, c => by simp [toPy, PyData.canLay0] at c
  | .dct o kvs, v, _, h, c => by simp [toPy, PyData.canLay0] at c
  | .lst o ds, v, P, h, c => by
    obtain ⟨a, vs, rfl, h1, h2⟩ := h.list
    rw [toPy]
    exact .lst h1 (RepL.dp ds vs P h2 (by simpa [toPy, PyData.canLay0] using c))
  | .tup ds, v, P, h, c => by
    obtain ⟨a, vs, rfl, h1, h2⟩ := h.tupl
    rw [toPy]
    exact .tup h1 (RepL.dp ds vs P h2 (by simpa [toPy, PyData.canLay0] using c))
theorem RepL.dp : ∀ (ds : List D) (vs : List V) (P : PS_), RepL K fns F H ds vs P → PyData.canLayAll0 (toPyL ds) = true → DpAll K H vs (toPyL ds)
  | [], _, _, h, _ => by cases (show _ = [] from h); rw [toPyL]; exact .nil
  | d :: ds, _, _, ⟨v, r, P1, P2, e, s1, s2, dj, h1, h2⟩, c => by
    rw [toPyL, PyData.canLayAll0, Bool.and_eq_true] at c
    rw [toPyL, e]
    exact .cons (Rep.dp d v P1 h1 c.1) (RepL.dp ds r P2 h2 c.2)
end
end
section
variable {X : Cx} {fns : List Addr} {F F' P Q : PS_} {H H' : Hp}
theorem toPy_ne {d : D} (h : isAt d = false) : toPy d ≠ .none := by
  cases d <;> simp [toPy, isAt] at h ⊢
theorem cmp2 {op : CmpOp} {f : D → D → Option Bool}
    (h : ∀ (pins : List (Addr × Obj)) (s : Shared) (σ : L2.St) (H : Hp) (F : PS_) (d e : D) (x y : V) (v u : Value) (P1 P2 : PS_) (b : Bool) (Q : Value → Shared → Prop), Inv X pins σ H s → Rep X.K fns F H d x P1 → Rep X.K fns F H e y P2 → RelV x v → RelV y u → f d e = some b →
      (∀ tk, Q (.bool b) { s with toks := tk }) → wpAny (model X.prog X.w) X.A (compareOp op v u) Q X.xe s) : OpR X (compareOp op) (r2c X.K fns f) := fun pins s σ H x y v u Q I rx ry q => by
  obtain ⟨F, d, e, P1, P2, b, r1, r2, eb, post⟩ := q
  exact h pins s σ H F d e x y v u P1 P2 b _ I r1 r2 rx ry eb fun tk => ⟨.bl b, H, I.tok tk, rfl, post⟩
theorem neg_some {o : Option Bool} {b : Bool} (h : (o.map fun x => !x) = some b) : o = some (!b) := by
  cases o with
  | none => cases h
  | some k => cases h; simp
theorem eqD_ok (hu : X.A.units + 64 < cLine) : OpR X (compareOp .Eq) (r2c X.K fns eqD) := cmp2 fun pins s σ H F d e x y v u P1 P2 b Q I r1 r2 rx ry hb post => by
  unfold eqD at hb
  split at hb
  · rename_i hs
    cases hb
    obtain ⟨as, q1⟩ := Dp.reads I _ x v (r1.dp _ _ _ (SeqAt.canLay_of_shaped hs.1)) rx
    obtain ⟨bs, q2⟩ := Dp.reads I _ y u (r2.dp _ _ _ (SeqAt.canLay_of_shaped hs.2)) ry
    exact SeqAt.compareEq_shaped q1 q2 hs.1 hs.2 hu (post s.toks)
  · cases hb
theorem neD_ok (hu : X.A.units + 64 < cLine) : OpR X (compareOp .NotEq) (r2c X.K fns fun a b => (eqD a b).map (!·)) := cmp2 fun pins s σ H F d e x y v u P1 P2 b Q I r1 r2 rx ry hb post => by
  have hb := neg_some hb
  unfold eqD at hb
  split at hb
  · rename_i hs
    have hb := Option.some.inj hb
    obtain ⟨as, q1⟩ := Dp.reads I _ x v (r1.dp _ _ _ (SeqAt.canLay_of_shaped hs.1)) rx
    obtain ⟨bs, q2⟩ := Dp.reads I _ y u (r2.dp _ _ _ (SeqAt.canLay_of_shaped hs.2)) ry
    exact SeqAt.compareNe_shaped q1 q2 hs.1 hs.2 hu (by rw [hb, Bool.not_not]; exact post s.toks)
  · cases hb
theorem ltc_ok {op : CmpOp} {f : PyData → PyData → Bool} (rule : ∀ (s : Shared) (a b : Value) (da db : PyData) (as bs : List Addr) (Q : Value → Shared → Prop), Reads s.heap a da as → Reads s.heap b db bs → PySem.W.alike da db = true → da ≠ .none → X.A.units + min da.depth db.depth < cLine → Q (.bool (f da db)) s → wpAny (model X.prog X.w) X.A (compareOp op a b) Q X.xe s)
    (hu : X.A.units + 64 < cLine) : OpR X (compareOp op) (r2c X.K fns (ltcD f)) := cmp2 fun pins s σ H F d e x y v u P1 P2 b Q I r1 r2 rx ry hb post => by
  unfold ltcD at hb
  split at hb
  · rename_i hs
    cases hb
    obtain ⟨as, q1⟩ := Dp.reads I _ x v (r1.dp _ _ _ (SeqAt.canLay_of_shaped hs.1)) rx
    obtain ⟨bs, q2⟩ := Dp.reads I _ y u (r2.dp _ _ _ (SeqAt.canLay_of_shaped hs.2.1)) ry
    exact rule s v u _ _ as bs Q q1 q2 hs.2.2.1 (toPy_ne hs.2.2.2) (SeqAt.room_of_shaped hs.1 hu) (post s.toks)
  · cases hb
theorem isAt_val {F : PS_} {H : Hp} {d e : D} {x y : V} {v u : Value} {P1 P2 : PS_} {K : PySem.W.Frag} (r1 : Rep K fns F H d x P1) (r2 : Rep K fns F H e y P2) (rx : RelV x v) (ry : RelV y u) (h : isAt d = true ∨ isAt e = true) : plainIs v u = true ∧ (v == u) = sameAt d e := by
  have key : ∀ {d : D} {x : V} {v : Value} {P : PS_}, Rep K fns F H d x P → RelV x v → (d = .non ∧ v = .none) ∨ (∃ b, d = .bl b ∧ v = .bool b) ∨ (∃ i t, d = .int i ∧ v = .int i t) ∨ (∃ z t, d = .str z ∧ v = .str z t) ∨ ((isAt d = false ∧ sameAt d d = false) ∧ (∀ e, sameAt d e = false ∧ sameAt e d = false) ∧ ∃ a, v = .ref a) := by
    intro d x v P r q
    cases d with
    | non => cases (show x = _ from r); cases q; exact .inl ⟨rfl, rfl⟩
    | bl b => cases (show x = _ from r); cases q; exact .inr (.inl ⟨b, rfl, rfl⟩)
    | int i => cases (show x = _ from r); obtain ⟨t, rfl⟩ := q; exact .inr (.inr (.inl ⟨i, t, rfl, rfl⟩))
    | str i => cases (show x = _ from r); obtain ⟨t, rfl⟩ := q; exact .inr (.inr (.inr (.inl ⟨i, t, rfl, rfl⟩)))
    | lst o ds =>
      obtain ⟨a, vs, rfl, _⟩ := r.list
      cases q
      exact .inr (.inr (.inr (.inr ⟨⟨rfl, rfl⟩, fun e => ⟨rfl, by cases e <;> rfl⟩, a, rfl⟩)))
    | tup ds =>
      obtain ⟨a, vs, rfl, _⟩ := r.tupl
      cases q
      exact .inr (.inr (.inr (.inr ⟨⟨rfl, rfl⟩, fun e => ⟨rfl, by cases e <;> rfl⟩, a, rfl⟩)))
    | fn i =>
      obtain ⟨a, rfl, _⟩ := r
      cases q
      exact .inr (.inr (.inr (.inr ⟨⟨rfl, rfl⟩, fun e => ⟨rfl, by cases e <;> rfl⟩, a, rfl⟩)))
    | dct o ds =>
      have hx : ∃ a, x = .ref a := by cases o <;> exact ⟨_, r.choose_spec.choose_spec.1⟩
      obtain ⟨a, rfl⟩ := hx
      cases q
      exact .inr (.inr (.inr (.inr ⟨⟨rfl, rfl⟩, fun e => ⟨rfl, by cases e <;> rfl⟩, a, rfl⟩)))
  rcases key r1 rx with ⟨rfl, rfl⟩ | ⟨b, rfl, rfl⟩ | ⟨i, t, rfl, rfl⟩ | ⟨i, t, rfl, rfl⟩ | ⟨⟨n1, n2⟩, n3, a, rfl⟩ <;> rcases key r2 ry with ⟨rfl, rfl⟩ | ⟨b', rfl, rfl⟩ | ⟨i', t', rfl, rfl⟩ | ⟨i', t', rfl, rfl⟩ | ⟨⟨m1, m2⟩, m3, a', rfl⟩
  all_goals first
    | exact ⟨rfl, rfl⟩
    | exact ⟨rfl, ((n3 _).1).symm⟩
    | exact ⟨rfl, ((m3 _).2).symm⟩
    | (refine ⟨rfl, ?_⟩; show (Value.bool b == Value.bool b') = decide (b = b'); cases b <;> cases b' <;> rfl)
    | (exfalso; rcases h with h | h <;> first | (rw [n1] at h; cases h; done) | (rw [m1] at h; cases h; done) | (simp [isAt] at h; done))
theorem isD_ok : OpR X (compareOp .Is) (r2c X.K fns isD) := cmp2 fun pins s σ H F d e x y v u P1 P2 b Q I r1 r2 rx ry hb post => by
  unfold isD at hb
  split at hb
  · rename_i hs
    cases hb
    obtain ⟨p, e1⟩ := isAt_val r1 r2 rx ry hs
    exact wpAny_is_plain p (by rw [e1]; exact post s.toks)
  · cases hb
theorem isNotD_ok : OpR X (compareOp .IsNot) (r2c X.K fns fun a b => (isD a b).map (!·)) := cmp2 fun pins s σ H F d e x y v u P1 P2 b Q I r1 r2 rx ry hb post => by
  have hb := neg_some hb
  unfold isD at hb
  split at hb
  · rename_i hs
    have hb := Option.some.inj hb
    obtain ⟨p, e1⟩ := isAt_val r1 r2 rx ry hs
    exact wpAny_isNot_plain p (by rw [e1, hb, Bool.not_not]; exact post s.toks)
  · cases hb
theorem str_one {x : Str} {c : Nat} (h : x.cps.toList = [c]) : x = ⟨#[c]⟩ := by
  cases x with
  | mk cps => congr; exact Array.toList_inj.mp h
theorem dct_rd {K : PySem.W.Frag} {o : Ow} {kvs : List (Key × D)} {v : V} (h : Rep K fns F H (.dct o kvs) v P) : ∃ a kw, v = .ref a ∧ Rd H a (.dK kw) ∧ RepP K fns F H kvs kw P ∧ (kvs.map (·.1)).Nodup := by
  cases o with
  | own => obtain ⟨a, vs, e, h1, h2, h3, nd⟩ := h; exact ⟨a, vs, e, .inl h1, h3.mono fun b z => z.1, nd⟩
  | shr => obtain ⟨a, vs, e, h1, h2, h3, nd⟩ := h; exact ⟨a, vs, e, h1, h3.mono Emp.sb, nd⟩
  | ext => obtain ⟨a, vs, e, h1, h2, h3, nd⟩ := h; exact ⟨a, vs, e, h1, h3.mono Emp.sb, nd⟩
theorem RepP.any {K : PySem.W.Frag} (k : Key) : ∀ {kvs : List (Key × D)} {kw : List (Key × V)} {P : PS_}, RepP K fns F H kvs kw P → (kvs.any fun kv => decide (kv.1 = k)) = (valV kw k).isSome
  | [], _, _, h => by cases (show _ = [] from h); rfl
  | (k0, d) :: r, _, _, ⟨v, r', P1, P2, e, _, _, _, _, h2⟩ => by
    subst e
    rw [List.any_cons, RepP.any k h2]
    by_cases hk : k0 = k
    · rw [valV_pos (p := (k0, v)) hk, decide_eq_true hk]; rfl
    · rw [valV_neg (p := (k0, v)) hk, decide_eq_false hk]; rfl
theorem DGet.rd {a : Addr} {kvs : List (Key × V)} {k : Key} (e : Rd H a (.dK kvs)) : DGet H a (kV k) (valV kvs k) := .inl ⟨kvs, k, e, rfl, rfl⟩
theorem op_inT (hu : X.A.units + 65 < cLine) : OpR X (compareOp .In) (fun x y H Q => ∃ d ds, Dp X.K H x d ∧ Dp X.K H y (.tuple ds) ∧ SeqAt.shaped d = true ∧ SeqAt.shaped (.tuple ds) = true ∧ Q (.bl (ds.any fun z => PyData.eqv z d)) H) := by
  intro pins s σ H x y v u Q I rx ry h
  obtain ⟨d, ds, hd, he, sd, se, q⟩ := h
  obtain ⟨as, r1⟩ := Dp.reads I d x v hd rx
  obtain ⟨bs, r2⟩ := Dp.reads I (.tuple ds) y u he ry
  exact SeqAt.in_tuple_reads r2 r1 (SeqAt.canLay_of_shaped se) (SeqAt.canLay_of_shaped sd) (room_in_shaped sd hu) ⟨.bl _, H, I, rfl, q⟩
theorem op_notInT (hu : X.A.units + 65 < cLine) : OpR X (compareOp .NotIn) (fun x y H Q => ∃ d ds, Dp X.K H x d ∧ Dp X.K H y (.tuple ds) ∧ SeqAt.shaped d = true ∧ SeqAt.shaped (.tuple ds) = true ∧ Q (.bl (!ds.any fun z => PyData.eqv z d)) H) := by
  intro pins s σ H x y v u Q I rx ry h
  obtain ⟨d, ds, hd, he, sd, se, q⟩ := h
  obtain ⟨as, r1⟩ := Dp.reads I d x v hd rx
  obtain ⟨bs, r2⟩ := Dp.reads I (.tuple ds) y u he ry
  exact SeqAt.notIn_tuple_reads r2 r1 (SeqAt.canLay_of_shaped se) (SeqAt.canLay_of_shaped sd) (room_in_shaped sd hu) ⟨.bl _, H, I, rfl, q⟩
theorem op_inDict (hu : X.A.units + 65 < cLine) : OpR X (compareOp .In) (fun x y H Q => ∃ a o, y = .ref a ∧ DGet H a x o ∧ Q (.bl o.isSome) H) := by
  intro pins s σ H x y v u Q I rx ry h
  obtain ⟨a, o, rfl, g, q⟩ := h
  cases ry
  exact d_in (by omega) I g rx fun s' I' => ⟨.bl _, H, I', rfl, q⟩
theorem op_notInDict (hu : X.A.units + 65 < cLine) : OpR X (compareOp .NotIn) (fun x y H Q => ∃ a o, y = .ref a ∧ DGet H a x o ∧ Q (.bl (!o.isSome)) H) := by
  intro pins s σ H x y v u Q I rx ry h
  obtain ⟨a, o, rfl, g, q⟩ := h
  cases ry
  exact d_notIn (by omega) I g rx fun s' I' => ⟨.bl _, H, I', rfl, q⟩
theorem shapedL {ds : List PyData} (h : SeqAt.shaped (.list ds) = true) : PyData.canLayAll0 ds = true := by
  have := SeqAt.canLay_of_shaped h
  rwa [PyData.canLay0] at this
theorem shapedT {ds : List PyData} (h : SeqAt.shaped (.tuple ds) = true) : PyData.canLayAll0 ds = true := by
  have := SeqAt.canLay_of_shaped h
  rwa [PyData.canLay0] at this
theorem inD_ok (hu : X.A.units + 65 < cLine) : OpR X (compareOp .In) (r2c X.K fns inD) := by
  have h := (op_in_sign (X := X)).or (op_in_str.or ((op_inD hu).or ((op_inT hu).or (op_inDict hu))))
  refine opr_imp h fun x y H Q q => ?_
  obtain ⟨F, d, e, P1, P2, b, r1, r2, hb, fin⟩ := q
  unfold inD at hb
  split at hb
  · cases (show x = _ from r1); cases (show y = _ from r2)
    have hb := Option.some.inj hb
    split at hb
    · rename_i c hc
      rw [str_one hc]
      exact .inl ⟨_, _, rfl, rfl, by rw [hb]; exact fin⟩
    · exact .inr (.inl ⟨_, _, rfl, rfl, by rw [hb]; exact fin⟩)
  · split at hb
    · rename_i hs
      have hb := Option.some.inj hb
      refine .inr (.inr (.inl ⟨_, _, r1.dp _ _ _ (SeqAt.canLay_of_shaped hs.1), by have := r2.dp _ _ _ (by rw [toPy, PyData.canLay0]; exact shapedL hs.2); rwa [toPy] at this, hs.1, hs.2, by rw [hb]; exact fin⟩))
    · cases hb
  · split at hb
    · rename_i hs
      have hb := Option.some.inj hb
      refine .inr (.inr (.inr (.inl ⟨_, _, r1.dp _ _ _ (SeqAt.canLay_of_shaped hs.1), by have := r2.dp _ _ _ (by rw [toPy, PyData.canLay0]; exact shapedT hs.2); rwa [toPy] at this, hs.1, hs.2, by rw [hb]; exact fin⟩)))
    · cases hb
  · cases (show x = _ from r1)
    obtain ⟨a, kw, rfl, rd, rr, _⟩ := dct_rd r2
    have hb := Option.some.inj hb
    exact .inr (.inr (.inr (.inr ⟨a, _, rfl, DGet.rd (k := .inr _) rd, by rw [← RepP.any _ rr, hb]; exact fin⟩)))
  · cases (show x = _ from r1)
    obtain ⟨a, kw, rfl, rd, rr, _⟩ := dct_rd r2
    have hb := Option.some.inj hb
    exact .inr (.inr (.inr (.inr ⟨a, _, rfl, DGet.rd (k := .inl _) rd, by rw [← RepP.any _ rr, hb]; exact fin⟩)))
  · cases hb
theorem notInD_ok (hu : X.A.units + 65 < cLine) : OpR X (compareOp .NotIn) (r2c X.K fns fun a b => (inD a b).map (!·)) := by
  have h := (op_notIn_sign (X := X)).or (op_notIn_str.or ((op_notInD hu).or ((op_notInT hu).or (op_notInDict hu))))
  refine opr_imp h fun x y H Q q => ?_
  obtain ⟨F, d, e, P1, P2, b, r1, r2, hb, fin⟩ := q
  have hb := neg_some hb
  unfold inD at hb
  split at hb
  · cases (show x = _ from r1); cases (show y = _ from r2)
    have hb := Option.some.inj hb
    split at hb
    · rename_i c hc
      rw [str_one hc]
      exact .inl ⟨_, _, rfl, rfl, by rw [hb, Bool.not_not]; exact fin⟩
    · exact .inr (.inl ⟨_, _, rfl, rfl, by rw [hb, Bool.not_not]; exact fin⟩)
  · split at hb
    · rename_i hs
      have hb := Option.some.inj hb
      refine .inr (.inr (.inl ⟨_, _, r1.dp _ _ _ (SeqAt.canLay_of_shaped hs.1), by have := r2.dp _ _ _ (by rw [toPy, PyData.canLay0]; exact shapedL hs.2); rwa [toPy] at this, hs.1, hs.2, by rw [hb, Bool.not_not]; exact fin⟩))
    · cases hb
  · split at hb
    · rename_i hs
      have hb := Option.some.inj hb
      refine .inr (.inr (.inr (.inl ⟨_, _, r1.dp _ _ _ (SeqAt.canLay_of_shaped hs.1), by have := r2.dp _ _ _ (by rw [toPy, PyData.canLay0]; exact shapedT hs.2); rwa [toPy] at this, hs.1, hs.2, by rw [hb, Bool.not_not]; exact fin⟩)))
    · cases hb
  · cases (show x = _ from r1)
    obtain ⟨a, kw, rfl, rd, rr, _⟩ := dct_rd r2
    have hb := Option.some.inj hb
    exact .inr (.inr (.inr (.inr ⟨a, _, rfl, DGet.rd (k := .inr _) rd, by rw [← RepP.any _ rr, hb, Bool.not_not]; exact fin⟩)))
  · cases (show x = _ from r1)
    obtain ⟨a, kw, rfl, rd, rr, _⟩ := dct_rd r2
    have hb := Option.some.inj hb
    exact .inr (.inr (.inr (.inr ⟨a, _, rfl, DGet.rd (k := .inl _) rd, by rw [← RepP.any _ rr, hb, Bool.not_not]; exact fin⟩)))
  · cases hb
theorem opC_ok (hu : X.A.units + 65 < cLine) (op : CmpOp) : OpR X (compareOp op) (r2c X.K fns (opC op)) := by
  have hu' : X.A.units + 64 < cLine := by omega
  cases op
  case Eq => exact eqD_ok hu'
  case NotEq => exact neD_ok hu'
  case Is => exact isD_ok
  case IsNot => exact isNotD_ok
  case In => exact inD_ok hu
  case NotIn => exact notInD_ok hu
  case Lt => exact ltc_ok (f := PySem.W.dataLt) (fun s a b da db as bs Q r1 r2 h hn hu q => PySem.W.lt_data r1 r2 h hn hu q) hu'
  case Gt => exact ltc_ok (f := fun a b => PySem.W.dataLt b a) (fun s a b da db as bs Q r1 r2 h hn hu q => PySem.W.gt_data r1 r2 h hn hu q) hu'
  case LtE => exact ltc_ok (f := fun a b => !PySem.W.dataLt b a) (fun s a b da db as bs Q r1 r2 h hn hu q => PySem.W.le_data r1 r2 h hn hu q) hu'
  case GtE => exact ltc_ok (f := fun a b => !PySem.W.dataLt a b) (fun s a b da db as bs Q r1 r2 h hn hu q => PySem.W.ge_data r1 r2 h hn hu q) hu'
/-- the truth of data, by values -/
theorem tru_rep {F : PS_} {H : Hp} {K : PySem.W.Frag} {d : D} {x : V} {b : Bool} (r : Rep K fns F H d x P) (h : truD d = some b) : TruV K x H b := by
  cases d with
  | non => cases (show x = _ from r); cases h; rfl
  | bl c => cases (show x = _ from r); cases h; rfl
  | int i => cases (show x = _ from r); cases h; rfl
  | str z =>
    cases (show x = _ from r)
    have h : (if z.length ≤ sizeLine then some ((z.length : Int) != 0) else none) = some b := h
    split at h
    · rename_i hz; cases h; exact ⟨hz, rfl⟩
    · cases h
  | lst o ds =>
    obtain ⟨a, vs, rfl, h1, h2⟩ := r.list
    cases h
    refine .inl ⟨vs, h1, ?_⟩
    have := h2.len
    cases ds <;> cases vs <;> simp at this ⊢
  | tup ds =>
    obtain ⟨a, vs, rfl, h1, h2⟩ := r.tupl
    cases h
    refine .inr (.inl ⟨vs, h1, ?_⟩)
    have := h2.len
    cases ds <;> cases vs <;> simp at this ⊢
  | dct o ds => cases h
  | fn i => cases h
end
end VK

set_option Elab.async false
set_option linter.all false
set_option maxRecDepth 100000
namespace VK
open PySem PySem.Spec PyProof.Rows L2

/-! ### what a call keeps -/
structure CPost (K : PySem.W.Frag) (fns : List Addr) (F : PS_) (H : Hp) (P F' : PS_) (H' : Hp) (r : D) (outs : List (Nat × Option D)) (vs : List V) (z : V) (P' : PS_) (fo : Nat → PS_) : Prop where
  step : Step P F F' H H'
  wf : WfF F' H'
  rep : Rep K fns F' H' r z P'
  own : OwnS F' H' P'
  outs : ∀ j d, outs.lookup j = some (some d) → ∃ v, vs[j]? = some v ∧ Rep K fns F' H' d v (fo j)
  sep : ∀ i j a, fo i a → fo j a → i = j
  ownO : OwnS F' H' (UU fo)
  dj : Dj P' (UU fo)
  new : ∀ a, P' a ∨ UU fo a → P a ∨ H a = none
def spF (K : PySem.W.Frag) (fns : List Addr) (g : List D → Option (D × List (Nat × Option D))) : Sp := fun vs H Q _ =>
  ∃ F ds P r outs, WfF F H ∧ RepL K fns F H ds vs P ∧ OwnS F H P ∧ g ds = some (r, outs) ∧ ∀ F' H' z P' fo, CPost K fns F H P F' H' r outs vs z P' fo → Q z H'

/-! ### defs, called where no builtin is under way -/
structure FnOkG (P : Program) (w : World) (K : PySem.W.Frag) (mg : Str → Option Value) (base : Heap) (k : Nat) (f : Addr) (fd : FuncData) (ps : List Str) (sp : Sp) : Prop where
  len : ∀ vs H Q E, sp vs H Q E → vs.length = ps.length
  run : ∀ (A : Around) (outer : List Env) (s : Shared) (H : Hp) (args : Args) (us : List Value) (vs : List V) (Q : VK) (E : XK), A.guards = some [] → Room k A → Env0 P w K mg base A outer s H → BindsTo s fd args (ps.zip us) → Vals vs us → sp vs H Q E →
    codeAny (model P w) A (.call (.ref f) args) (CR L2.CX0 outer P w H s Q E) s
section
variable {X : Cx} {k : Nat} {f : Addr} {fd : FuncData} {ps : List Str} {sp : Sp} {x : Str} {p pos : Pos} {e : Expr} {es : List Expr} {t : TA} {E : XK}
theorem run_g {pins : List (Addr × Obj)} {σ : L2.St} {H : Hp} {s : Shared} {Q : VK} {us ws : List Value} {kw : List (Str × Value)} {vs : List V} (F : FnOkG X.prog X.w X.K X.mg X.base k f fd ps sp) (hg : X.A.guards = some []) (hr : Room k X.A)
    (I : Inv X pins σ H s) (hb : BindsTo s fd ⟨us, kw⟩ (ps.zip ws)) (r : Vals vs ws) (h : sp vs H Q E) : wpAny (model X.prog X.w) X.A (call (.ref f) us kw) (EP X pins σ Q) X.xe s := by
  refine wpAny_call (codeAny_mono (F.run X.A X.stack s H ⟨us, kw⟩ ws vs Q E hg hr I.env0 hb r h) fun r s' hq => ?_)
  cases r with
  | error e => exact hq.elim
  | ok fl => cases fl <;> first | exact I.after hq | exact hq.elim
theorem pe_callG (F : FnOkG X.prog X.w X.K X.mg X.base k f fd ps sp) (hgd : X.A.guards = some []) (hr : Room k X.A) (hg : Gl X x) (hm : X.mg x = some (.ref f)) (hk : PySem.W.keepIn X.K (.ref f) = true) (hb : Binds X.K fd ps [])
    (ha : PA X (e :: es) t) (hdb : (x == ("__debug__" : Str)) = false) (he : starEach (e :: es) X.env = (false, eval e X.env) :: starEach es X.env) (hpl : (backTo pos (starEach es X.env)).any (·.1) = false) :
    PE X (.Call (.Name x p) (e :: es) [] pos) (tCall sp [] E t) := by
  refine ⟨fun pins s σ H Q I h => wpAny_Call_Name_kw (ld_glob I hg hm ?_ hdb)⟩
  refine PySem.W.callWith_K (h₀ := X.base) I.ok.mod.kin hk (thn (ha.run pos pins s σ H _ I h) fun us s1 ⟨vs, H1, I1, r, q⟩ => ⟨I1.kIn, ?_⟩) he hpl
  have q : sp (vs ++ []) H1 Q E := q
  rw [List.append_nil] at q
  have hl : us.length = ps.length := by rw [← r.length]; exact F.len _ _ _ _ q
  have hb' := hb s1 us I1.kIn (by rw [List.append_nil]; exact hl)
  rw [List.append_nil] at hb'
  exact run_g F hgd hr I1 hb' r q
theorem pe_call0G (F : FnOkG X.prog X.w X.K X.mg X.base k f fd ps sp) (hgd : X.A.guards = some []) (hr : Room k X.A) (hg : Gl X x) (hm : X.mg x = some (.ref f)) (hk : PySem.W.keepIn X.K (.ref f) = true) (hb : Binds X.K fd ps [])
    (hdb : (x == ("__debug__" : Str)) = false) : PE X (.Call (.Name x p) [] [] pos) (tCall sp [] E tNil) := by
  refine ⟨fun pins s σ H Q I h => wpAny_Call_Name_kw (ld_glob I hg hm ?_ hdb)⟩
  have h : sp [] H Q E := h
  have hl : ([] : List Value).length = ps.length := (F.len _ _ _ _ h)
  exact PySem.W.callWith_K0 I.kIn hk (run_g F hgd hr I (hb s [] I.kIn hl) (vs := []) (ws := []) .nil h)
end

/-- the names of built-ins that the code leans on -/
def bltNames : List Str := ["len", "sorted", "sum", "max", "min", "abs", "all", "any", "repr", "int", "str", "list", "tuple", "dict", "bool", "range", "zip", "enumerate", "isinstance"]
/-- how calls with keywords bind -/
def permVs (q : List Nat) (us : List Value) : List Value := q.map fun i => us.getD i .none
def permV (q : List Nat) (vs : List V) : List V := q.map fun i => vs.getD i .non
def KwOk (kw : List (Nat × Nat × List Str × List Nat)) (i : Nat) (fd : FuncData) (ps : List Str) : Prop :=
  ∀ n ks q, (i, n, ks, q) ∈ kw → ∀ us ws : List Value, us.length = n → ws.length = ks.length → bindArgs fd ⟨us, ks.zip ws⟩ = pure (ps.zip (permVs q (us ++ ws)))
/-- where the code stands -/
structure GX (fns : List Addr) (T : Tab) (C : CallF) (N : List Str) (sc : Scope) (fnp : Str → Bool) (X : Cx) : Prop where
  eN : X.N = N
  nd : N.Nodup
  sc : X.env.scope = sc
  fnp : X.fn = fnp
  calm : X.calm = true
  blt : ∀ x ∈ bltNames, X.mg x = none
  glb : ∀ x d, T.glb.lookup x = some d → (∃ u v, X.mg x = some u ∧ RelV v u ∧ ∀ F H, Rep X.K fns F H d v Emp) ∧ (x == ("__debug__" : Str)) = false
  fn : ∀ i x, T.fn[i]? = some x → (x == ("__debug__" : Str)) = false ∧ ∃ a fd ps k, fns[i]? = some a ∧ X.mg x = some (.ref a) ∧ PySem.W.keepIn X.K (.ref a) = true ∧ Binds X.K fd ps [] ∧ Room k X.A ∧ FnOkG X.prog X.w X.K X.mg X.base k a fd ps (spF X.K fns (C i)) ∧ KwOk T.kw i fd ps
  rm : Room 0 X.A
  gd : X.A.guards = some []
theorem GX.hu {fns T C N sc fnp} {X : Cx} (G : GX fns T C N sc fnp X) : X.A.units + 65 < cLine := by have := G.rm.un; omega
theorem GX.blk {fns T C N sc fnp} {X : Cx} (G : GX fns T C N sc fnp X) (scope : Scope) (s : Shared) (H : Hp) (A : Addr) (cl : List (Str × Addr)) (fp : List Addr) :
    GX fns T C N (relS scope sc) (fun x => scope.names.lookup x == some .cell) (X.blk s H scope (compEnvC scope cl A X.env) fp) :=
  ⟨G.eN, G.nd, by show relS scope X.env.scope = _; rw [G.sc], rfl, G.calm, G.blt, G.glb, G.fn, G.rm, G.gd⟩

/-! ### what is looked at ahead -/
def visB (sc : Scope) (x : Str) : Bool := match sc.names.lookup x with
  | some .local => true
  | some .cell => true
  | some .free => true
  | _ => false
def glbB (sc : Scope) (x : Str) : Bool := match sc.names.lookup x with
  | some .globalImplicit => true
  | _ => false
def nmB (N : List Str) (sc : Scope) (i : Nat) (x : Str) : Bool := decide (N[i]? = some x) && visB sc x && !(x == ("__debug__" : Str)) && !(x == ("__classdict__" : Str))
def tgnB (N : List Str) (sc : Scope) (fnp : Str → Bool) (t : TgN) : Bool := decide (N[t.i]? = some t.x) && (match sc.names.lookup t.x with
  | some .local => true
  | some .cell => fnp t.x
  | _ => false)
def tgB (N : List Str) (sc : Scope) (fnp : Str → Bool) : Tg → Bool
  | .nm t => tgnB N sc fnp t
  | .tup ts _ _ => ts.all (tgnB N sc fnp)
def tgSlots : Tg → List Nat
  | .nm t => [t.i]
  | .tup ts _ _ => ts.map (·.i)
def tgTup : Tg → Bool
  | .tup _ _ _ => true
  | _ => false
def TyE.tys : TyE → List Str
  | .one t _ => [t.nm]
  | .two t u _ _ _ _ => [t.nm, u.nm]
def oneLine (pa p : Pos) : Bool := pa.endLine == p.line
/-- what stands before a method's name -/
def baseB : E → Bool
  | .pur e => baseB e
  | .call _ _ es _ _ => !es.isNil
  | .bi _ es _ _ => !es.isNil
  | .callK _ _ _ _ _ _ _ _ => false
  | _ => true
section
variable (T : Tab) (N : List Str)
mutual
def okE (sc : Scope) (fnp : Str → Bool) : E → Bool
  | .cst c _ _ => (cstD c).isSome
  | .cp i x _ => nmB N sc i x
  | .mv i x _ => nmB N sc i x
  | .glb x _ => glbB sc x
  | .pur e => okE sc fnp e
  | .neg a _ => okE sc fnp a
  | .bin _ a b _ => okE sc fnp a && okE sc fnp b
  | .cmp _ a b _ => okE sc fnp a && okE sc fnp b
  | .chn _ _ a b c _ => okE sc fnp a && okE sc fnp b && okE sc fnp c
  | .and_ es _ => okEs sc fnp es
  | .or_ es _ => okEs sc fnp es
  | .not_ a _ => okE sc fnp a
  | .ife c a b _ => okE sc fnp c && okE sc fnp a && okE sc fnp b
  | .lst es _ => okEs sc fnp es
  | .tup es _ _ => okEs sc fnp es
  | .ix a i _ => okE sc fnp a && okE sc fnp i
  | .sl a lo hi _ _ => okE sc fnp a && okO sc fnp lo && okO sc fnp hi
  | .rev a _ _ _ _ _ => okE sc fnp a
  | .isi a t _ _ => okE sc fnp a && glbB sc "isinstance" && t.tys.all (glbB sc)
  | .bi b es _ _ => !es.isNil && okEs sc fnp es && glbB sc b.nm
  | .call f x es _ _ => okEs sc fnp es && glbB sc x && decide (T.fn[f]? = some x)
  | .callK f x es ks q kes _ _ => okEs sc fnp es && okEs sc fnp kes && glbB sc x && decide (T.fn[f]? = some x) && decide ((f, es.ast.length, ks.map (·.1), q) ∈ T.kw) && decide (ks.length = kes.ast.length) && decide (q.Perm (List.range (es.ast.length + kes.ast.length)))
  | .mt _ o es pa p => baseB o && okE sc fnp o && okEs sc fnp es && oneLine pa p
  | .mu _ i x _ es pa p => nmB N sc i x && okEs sc fnp es && oneLine pa p
  | .lc elt tg it cd scope own _ => okI sc fnp tg it && blkC N sc scope own && tgB N (relS scope sc) (fun x => scope.names.lookup x == some .cell) tg && (tgSlots tg).all (fun i => own.any fun p => p.2 == i) &&
      okO (relS scope sc) (fun x => scope.names.lookup x == some .cell) cd && okE (relS scope sc) (fun x => scope.names.lookup x == some .cell) elt
  | .dct ps _ => okPs sc fnp ps && decide (ps.kast.length ≤ 15)
  | .dc kx vx tg it cd scope own _ => okI sc fnp tg it && blkC N sc scope own && tgB N (relS scope sc) (fun x => scope.names.lookup x == some .cell) tg && (tgSlots tg).all (fun i => own.any fun p => p.2 == i) &&
      okO (relS scope sc) (fun x => scope.names.lookup x == some .cell) cd && okE (relS scope sc) (fun x => scope.names.lookup x == some .cell) kx && okE (relS scope sc) (fun x => scope.names.lookup x == some .cell) vx
def okPs (sc : Scope) (fnp : Str → Bool) : Ps → Bool
  | .nil => true
  | .cons k v ps => okE sc fnp k && okE sc fnp v && okPs sc fnp ps
def okO (sc : Scope) (fnp : Str → Bool) : Oe → Bool
  | .no => true
  | .yes e => okE sc fnp e
def okEs (sc : Scope) (fnp : Str → Bool) : Es → Bool
  | .nil => true
  | .cons e es => okE sc fnp e && okEs sc fnp es
def okI (sc : Scope) (fnp : Str → Bool) (tg : Tg) : It → Bool
  | .any e => okE sc fnp e
  | .lst e => okE sc fnp e
  | .tup e => okE sc fnp e
  | .str e => okE sc fnp e
  | .rng1 a _ _ => okE sc fnp a && glbB sc "range"
  | .rng2 a b _ _ => okE sc fnp a && okE sc fnp b && glbB sc "range"
  | .zip a b _ _ => okE sc fnp a && okE sc fnp b && glbB sc "zip" && tgTup tg
  | .enum a _ _ => okE sc fnp a && glbB sc "enumerate" && tgTup tg
  | .keys i x _ => nmB N sc i x
  | .items i x _ pa p => nmB N sc i x && oneLine pa p && tgTup tg
  | .values i x _ pa p => nmB N sc i x && oneLine pa p
end
end

/-! ### forms of the trees -/
theorem star_ok (env : PySem.Env) (es : List Expr) (e : E) : starEach (e.ast :: es) env = (false, eval e.ast env) :: starEach es env := by
  apply E.rec (motive_1 := fun e => starEach (e.ast :: es) env = (false, eval e.ast env) :: starEach es env) (motive_2 := fun _ => True) (motive_3 := fun _ => True) (motive_4 := fun _ => True) (motive_5 := fun _ => True) <;> intros <;> first | rfl | trivial | assumption
theorem plain_ok (env : PySem.Env) (pos : Pos) : ∀ es : Es, (backTo pos (starEach es.ast env)).any (·.1) = false
  | .nil => rfl
  | .cons e es => by
    show (backTo pos (starEach (e.ast :: es.ast) env)).any (·.1) = false
    rw [star_ok]
    show (false || (backTo pos (starEach es.ast env)).any (·.1)) = false
    rw [plain_ok env pos es]; rfl
theorem mark_ok (op : CmpOp) (e : E) : behindInMarks op e.ast = false := by
  apply E.rec (motive_1 := fun e => behindInMarks op e.ast = false) (motive_2 := fun _ => True) (motive_3 := fun _ => True) (motive_4 := fun _ => True) (motive_5 := fun _ => True) <;> intros <;> first | rfl | trivial | assumption
theorem plainIx_ok (e : E) : PlainIx e.ast := by
  apply E.rec (motive_1 := fun e => PlainIx e.ast) (motive_2 := fun _ => True) (motive_3 := fun _ => True) (motive_4 := fun _ => True) (motive_5 := fun _ => True) <;> intros <;> first | exact (fun _ _ => rfl) | trivial | assumption
theorem fold_ok (env : PySem.Env) (e : E) : ∀ x, foldedSetIterable e.ast env x = pure x := by
  apply E.rec (motive_1 := fun e => ∀ x, foldedSetIterable e.ast env x = pure x) (motive_2 := fun _ => True) (motive_3 := fun _ => True) (motive_4 := fun _ => True) (motive_5 := fun _ => True) <;> intros <;> first | rfl | trivial | assumption | (rename_i h _; exact h _)
theorem foldI_ok (env : PySem.Env) : ∀ (it : It) x, foldedSetIterable it.ast env x = pure x
  | .any e, x => fold_ok env e x
  | .lst e, x => fold_ok env e x
  | .tup e, x => fold_ok env e x
  | .str e, x => fold_ok env e x
  | .rng1 _ _ _, _ => rfl
  | .rng2 _ _ _ _, _ => rfl
  | .zip _ _ _ _, _ => rfl
  | .enum _ _ _, _ => rfl
  | .keys _ _ _, _ => rfl
  | .items _ _ _ _ _, _ => rfl
  | .values _ _ _ _ _, _ => rfl
end VK

set_option Elab.async false
set_option linter.all false
set_option maxRecDepth 100000
namespace VK
open PySem PySem.Spec PyProof.Rows L2
section
variable {K : PySem.W.Frag} {fns : List Addr} {F F' P Q : PS_} {H H' : Hp} {σ : L2.St} {ρ ρ' : Rho} {fs fs' : Nat → PS_} {d : D} {v : V}
theorem EPost.flat (w : WfF F H) (e : EnvR K fns F H σ ρ fs) (r : Rep K fns F H d v Emp) : EPost K fns F H fs F H fs σ ρ d v Emp :=
  ⟨Step.refl, w, e, r, OwnS.emp, fun _ z => z.elim, fun _ z => z.elim False.elim .inl⟩
def FzI (F : PS_) (fs : Nat → PS_) (i : Nat) : PS_ := fun a => F a ∨ fs i a
theorem EnvR.freeze (w : WfF F H) (e : EnvR K fns F H σ ρ fs) {i : Nat} (h : ρ[i]? = some (some d)) : ∃ v, σ[i]? = some (some v) ∧ EPost K fns F H fs (FzI F fs i) H (fupd fs i Emp) σ (ρ.set i (some (frz d))) (frz d) v Emp := by
  obtain ⟨v, hv, r⟩ := e.rep i d h
  have r' : Rep K fns (FzI F fs i) H (frz d) v Emp := Rep.freeze (fun _ => .inl) d v _ (fun _ => .inr) r
  have hl : i < ρ.length := (List.getElem?_eq_some_iff.mp h).1
  refine ⟨v, hv, ⟨⟨fun _ => .inl, fun _ _ h _ => h, fun a f => f.imp id fun z => .inl ⟨i, z⟩⟩, fun a f => ?_, ⟨by rw [List.length_set]; exact e.len, fun j d' q => ?_, fun j k a p q => ?_, fun a z => ?_⟩, r', OwnS.emp, fun _ z => z.elim, fun a z => ?_⟩⟩
  · rcases f with f | f
    · exact w a f
    · obtain ⟨_, o, e, _⟩ := e.own a ⟨i, f⟩; exact ⟨o, e⟩
  · by_cases hj : j = i
    · subst hj
      rw [List.getElem?_set, if_pos rfl, if_pos hl] at q
      cases q
      exact ⟨v, hv, by rw [fupd_same]; exact r'⟩
    · rw [List.getElem?_set_ne (Ne.symm hj)] at q
      obtain ⟨u, h1, h2⟩ := e.rep j d' q
      exact ⟨u, h1, by rw [fupd_ne hj]; exact Rep.frame (fun _ => .inl) d' u _ (fun _ _ h _ => h) h2⟩
  · by_cases hj : j = i
    · subst hj; rw [fupd_same] at p; exact p.elim
    · by_cases hk : k = i
      · subst hk; rw [fupd_same] at q; exact q.elim
      · rw [fupd_ne hj] at p; rw [fupd_ne hk] at q; exact e.sep j k a p q
  · obtain ⟨j, z⟩ := z
    by_cases hj : j = i
    · subst hj; rw [fupd_same] at z; exact z.elim
    · rw [fupd_ne hj] at z
      obtain ⟨nf, o, eo, io⟩ := e.own a ⟨j, z⟩
      refine ⟨fun f => ?_, o, eo, io⟩
      rcases f with f | f
      · exact nf f
      · exact hj (e.sep j i a z f)
  · rcases z with z | ⟨j, z⟩
    · exact z.elim
    · by_cases hj : j = i
      · subst hj; rw [fupd_same] at z; exact z.elim
      · rw [fupd_ne hj] at z; exact .inl ⟨j, z⟩
theorem EnvR.move (w : WfF F H) (e : EnvR K fns F H σ ρ fs) {i : Nat} (h : ρ[i]? = some (some d)) : ∃ v, σ[i]? = some (some v) ∧ EPost K fns F H fs F H (fupd fs i Emp) σ (ρ.set i none) d v (fs i) := by
  obtain ⟨v, hv, r⟩ := e.rep i d h
  refine ⟨v, hv, ⟨Step.refl, w, e.del i, r, e.own.sb fun a z => ⟨i, z⟩, fun a z q => ?_, fun a z => ?_⟩⟩
  · obtain ⟨j, q⟩ := q
    by_cases hj : j = i
    · subst hj; rw [fupd_same] at q; exact q.elim
    · rw [fupd_ne hj] at q; exact hj (e.sep j i a q z)
  · rcases z with z | ⟨j, z⟩
    · exact .inl ⟨i, z⟩
    · by_cases hj : j = i
      · subst hj; rw [fupd_same] at z; exact z.elim
      · rw [fupd_ne hj] at z; exact .inl ⟨j, z⟩
/-! ### a scope in which nothing is changed -/
def FzA (F : PS_) (fs : Nat → PS_) : PS_ := fun a => F a ∨ UU fs a
theorem frzE_get {i : Nat} {d : D} (h : (frzE ρ)[i]? = some (some d)) : ∃ e, ρ[i]? = some (some e) ∧ d = frz e := by
  unfold frzE at h
  rw [List.getElem?_map] at h
  cases q : ρ[i]? with
  | none => rw [q] at h; cases h
  | some o =>
    rw [q] at h
    cases o with
    | none => cases h
    | some e => cases h; exact ⟨e, rfl, rfl⟩
theorem UU_emp {a : Addr} (h : UU (fun _ => Emp) a) : False := by obtain ⟨_, h⟩ := h; exact h
theorem EnvR.freezeAll (w : WfF F H) (e : EnvR K fns F H σ ρ fs) : WfF (FzA F fs) H ∧ EnvR K fns (FzA F fs) H σ (frzE ρ) (fun _ => Emp) := by
  refine ⟨fun a f => ?_, ⟨by unfold frzE; rw [List.length_map]; exact e.len, fun i d h => ?_, fun _ _ _ z => z.elim, fun a z => (UU_emp z).elim⟩⟩
  · rcases f with f | f
    · exact w a f
    · obtain ⟨_, o, e, _⟩ := e.own a f; exact ⟨o, e⟩
  · obtain ⟨d', h', rfl⟩ := frzE_get h
    obtain ⟨v, hv, r⟩ := e.rep i d' h'
    exact ⟨v, hv, Rep.freeze (fun _ => .inl) d' v _ (fun a z => .inr ⟨i, z⟩) r⟩
mutual
/-- what holds no list of others stays when less is frozen -/
theorem Rep.less {F2 : PS_} (hF : ∀ a vs, F a → H a = some (.tup vs) → F2 a) : ∀ (d : D) (v : V) (P : PS_), nsh d = true → Rep K fns F H d v P → Rep K fns F2 H d v P
  | .non, _, _, _, h => h
  | .bl _, _, _, _, h => h
  | .int _, _, _, _, h => h
  | .str _, _, _, _, h => h
  | .fn _, _, _, _, h => h
  | .lst .own ds, v, P, n, h => by
    obtain ⟨a, vs, e, h1, h2, h3⟩ := h
    exact ⟨a, vs, e, h1, h2, RepL.less hF ds vs _ (by simpa [nsh] using n) h3⟩
  | .lst .shr ds, v, P, n, h => by simp [nsh] at n
  | .lst .ext ds, v, P, n, h => by simp [nsh] at n
  | .tup ds, v, P, n, h => by
    obtain ⟨a, vs, e, h1, h3⟩ := h
    exact ⟨a, vs, e, h1.imp (fun z => ⟨z.1, hF a vs z.2 z.1⟩) id, RepL.less hF ds vs _ (by simpa [nsh] using n) h3⟩
  | .dct .own ds, v, P, n, h => by
    obtain ⟨a, vs, e, h1, h2, h3, nd⟩ := h
    exact ⟨a, vs, e, h1, h2, RepP.less hF ds vs _ (by simpa [nsh] using n) h3, nd⟩
  | .dct .shr ds, v, P, n, h => by simp [nsh] at n
  | .dct .ext ds, v, P, n, h => by simp [nsh] at n
theorem RepL.less {F2 : PS_} (hF : ∀ a vs, F a → H a = some (.tup vs) → F2 a) : ∀ (ds : List D) (vs : List V) (P : PS_), nshL ds = true → RepL K fns F H ds vs P → RepL K fns F2 H ds vs P
  | [], _, _, _, h => h
  | d :: ds, vs, P, n, h => by
    obtain ⟨v, r, P1, P2, e, s1, s2, dj, h1, h2⟩ := h
    rw [nshL, Bool.and_eq_true] at n
    exact ⟨v, r, P1, P2, e, s1, s2, dj, Rep.less hF d v P1 n.1 h1, RepL.less hF ds r P2 n.2 h2⟩
theorem RepP.less {F2 : PS_} (hF : ∀ a vs, F a → H a = some (.tup vs) → F2 a) : ∀ (ds : List (Key × D)) (vs : List (Key × V)) (P : PS_), nshP ds = true → RepP K fns F H ds vs P → RepP K fns F2 H ds vs P
  | [], _, _, _, h => h
  | (k0, d) :: ds, vs, P, n, h => by
    obtain ⟨v, r, P1, P2, e, s1, s2, dj, h1, h2⟩ := h
    rw [nshP, Bool.and_eq_true] at n
    exact ⟨v, r, P1, P2, e, s1, s2, dj, Rep.less hF d v P1 n.1 h1, RepP.less hF ds r P2 n.2 h2⟩
end
theorem pur_post (e : EnvR K fns F H σ ρ fs) {x : V} {σ' : L2.St} (p : EPost K fns (FzA F fs) H (fun _ => Emp) F' H' fs' σ' ρ' d x P) (n : nsh d = true) :
    EPost K fns F H fs (fun a => F' a ∧ ¬ UU fs a) H' fs σ ρ d x P := by
  have kp : ∀ a o, H a = some o → H' a = some o := fun a o h => p.step.keep a o h fun z => (UU_emp z).elim
  have ff : Sb F fun a => F' a ∧ ¬ UU fs a := fun a f => ⟨p.step.ff a (.inl f), fun u => (e.own a u).1 f⟩
  refine ⟨⟨ff, fun a o h _ => kp a o h, fun a f => ?_⟩, fun a f => p.wf a f.1, ⟨e.len, fun i d' h => ?_, e.sep, fun a z => ?_⟩, ?_, fun a z => ?_, fun a z u => ?_, fun a z => ?_⟩
  · rcases p.step.new a f.1 with z | z | z
    · exact z.elim .inl fun z => .inr (.inl z)
    · exact (UU_emp z).elim
    · exact .inr (.inr z)
  · obtain ⟨u, h1, h2⟩ := e.rep i d' h
    exact ⟨u, h1, Rep.frame ff d' u _ (fun a o h _ => kp a o h) h2⟩
  · obtain ⟨_, o, h, i⟩ := e.own a z
    exact ⟨fun f => f.2 z, o, kp a o h, i⟩
  · refine Rep.less (fun a vs f h => ⟨f, fun u => ?_⟩) d x P n p.rep
    obtain ⟨_, o, h', i⟩ := e.own a u
    have := kp a o h'
    rw [h] at this
    cases this
    exact i
  · obtain ⟨nf, o, h, i⟩ := p.own a z
    exact ⟨fun f => nf f.1, o, h, i⟩
  · rcases p.new a (.inl z) with z | z
    · exact UU_emp z
    · obtain ⟨_, o, h, _⟩ := e.own a u; rw [h] at z; cases z
  · rcases z with z | z
    · exact (p.new a (.inl z)).elim (fun z => (UU_emp z).elim) .inr
    · exact .inl z
end
section
variable {X : Cx} {fns : List Addr} {T : Tab} {C : CallF} {N : List Str} {sc : Scope} {fnp : Str → Bool}
theorem vis_of {x : Str} (h : visB sc x = true) : Vis sc x := by
  unfold visB at h
  split at h
  · exact .inl ‹_›
  · exact .inr (.inl ‹_›)
  · exact .inr (.inr ‹_›)
  · cases h
theorem GX.gl (G : GX fns T C N sc fnp X) {x : Str} (h : glbB sc x = true) : Gl X x := by
  unfold glbB at h
  show X.env.scope.names.lookup x = some .globalImplicit
  rw [G.sc]
  split at h
  · assumption
  · cases h
theorem GX.var (G : GX fns T C N sc fnp X) {i : Nat} {x : Str} {p : Pos} (h : nmB N sc i x = true) : PE X (.Name x p) (tVar i) := by
  unfold nmB at h
  simp only [Bool.and_eq_true, decide_eq_true_eq, Bool.not_eq_true'] at h
  exact pe_var (by rw [G.eN]; exact h.1.1.1) (by rw [G.sc]; exact vis_of h.1.1.2) h.1.2 h.2
theorem s_cst {c : Const} {k : Nat} {p : Pos} (h : (cstD c).isSome = true) : PE X (.Constant c k p) (tE X.K fns fun ρ => (cstD c).map fun d => (d, ρ)) := by
  have key : ∀ {d : D} {v : V}, cstD c = some d → (∀ F H, Rep X.K fns F H d v Emp) → ∀ σ H Q, tE X.K fns (fun ρ => (cstD c).map fun d => (d, ρ)) σ H Q → tC v σ H Q := by
    intro d v hd hr σ H Q q
    obtain ⟨F, ρ, fs, d', ρ', w, e, q, post⟩ := q
    rw [hd] at q
    cases q
    exact post _ _ _ _ _ (.flat w e (hr F H))
  cases c with
  | none => exact PE.imp pe_non (key rfl fun _ _ => rfl)
  | bool b => exact PE.imp pe_bl (key rfl fun _ _ => rfl)
  | int i => exact PE.imp pe_int (key rfl fun _ _ => rfl)
  | str x => exact PE.imp pe_str (key rfl fun _ _ => rfl)
  | _ => cases h
theorem s_cp (G : GX fns T C N sc fnp X) {i : Nat} {x : Str} {p : Pos} (h : nmB N sc i x = true) : PE X (.Name x p) (tE X.K fns fun ρ => match ρ[i]? with
    | some (some d) => some (frz d, ρ.set i (some (frz d)))
    | _ => none) := by
  refine PE.imp (G.var h) fun σ H Q q => ?_
  obtain ⟨F, ρ, fs, d', ρ', w, e, q, post⟩ := q
  dsimp only at q
  split at q
  · rename_i d hd
    cases q
    obtain ⟨v, hv, pp⟩ := e.freeze w hd
    exact ⟨v, hv, post _ _ _ _ _ pp⟩
  · cases q
theorem s_mv (G : GX fns T C N sc fnp X) {i : Nat} {x : Str} {p : Pos} (h : nmB N sc i x = true) : PE X (.Name x p) (tE X.K fns fun ρ => match ρ[i]? with
    | some (some d) => some (d, ρ.set i none)
    | _ => none) := by
  refine PE.imp (G.var h) fun σ H Q q => ?_
  obtain ⟨F, ρ, fs, d', ρ', w, e, q, post⟩ := q
  dsimp only at q
  split at q
  · rename_i d hd
    cases q
    obtain ⟨v, hv, pp⟩ := e.move w hd
    exact ⟨v, hv, post _ _ _ _ _ pp⟩
  · cases q
theorem s_glb (G : GX fns T C N sc fnp X) {x : Str} {p : Pos} (h : glbB sc x = true) : PE X (.Name x p) (tE X.K fns fun ρ => (T.glb.lookup x).map fun d => (d, ρ)) := by
  cases hd : T.glb.lookup x with
  | none =>
    refine ⟨fun pins s σ H Q I q => ?_⟩
    obtain ⟨F, ρ, fs, d', ρ', w, e, q, post⟩ := q
    cases q
  | some d =>
    obtain ⟨⟨u, v, hu, rv, hr⟩, hdb⟩ := G.glb x d hd
    refine PE.imp (pe_glob (G.gl h) hu rv hdb) fun σ H Q q => ?_
    obtain ⟨F, ρ, fs, d', ρ', w, e, q, post⟩ := q
    cases q
    exact post _ _ _ _ _ (.flat w e (hr F H))
def purE (g : EvT) : EvT := fun ρ => match g (frzE ρ) with
  | some (d, _) => if nsh d = true then some (d, ρ) else none
  | none => none
theorem tE_pur {K : PySem.W.Frag} {g : EvT} {σ : L2.St} {H : Hp} {Q : VK} (q : tE K fns (purE g) σ H Q) : tE K fns g σ H Q := by
  obtain ⟨F, ρ, fs, d', ρ', w, e, q, post⟩ := q
  unfold purE at q
  split at q
  · rename_i d ρ2 hd
    split at q
    · rename_i hn
      cases q
      obtain ⟨w', e'⟩ := e.freezeAll w
      exact ⟨_, _, _, _, _, w', e', hd, fun F' H' fs' x P p => post _ _ _ _ _ (pur_post e p hn)⟩
    · cases q
  · cases q
theorem tT_pur {K : PySem.W.Frag} {g : EvT} {σ : L2.St} {H : Hp} {Q : Bool → Hp → Prop} (q : tT K fns (purE g) σ H Q) : tT K fns g σ H Q := by
  obtain ⟨F, ρ, fs, d', ρ', b, w, e, q, hb, post⟩ := q
  unfold purE at q
  split at q
  · rename_i d ρ2 hd
    split at q
    · rename_i hn
      cases q
      obtain ⟨w', e'⟩ := e.freezeAll w
      exact ⟨_, _, _, _, _, b, w', e', hd, hb, fun F' H' fs' x P p => post _ _ _ _ _ (pur_post e p hn)⟩
    · cases q
  · cases q
/-- a test by its value's truth -/
theorem pt_gen {e : Expr} {g : EvT} (h : PE X e (tE X.K fns g)) (he : ∀ whole, isTrue e X.env whole = (do let v ← whole; standAt e.pos; holding [v] (truthy v)) := by intro _; rfl) : PT X e (tT X.K fns g) := by
  refine PT.imp (pt_truth h he) fun σ H Q q => ?_
  obtain ⟨F, ρ, fs, d', ρ', b, w, e, q, hb, post⟩ := q
  exact ⟨F, ρ, fs, d', ρ', w, e, q, fun F' H' fs' x P p => ⟨b, tru_rep p.rep hb, post _ _ _ _ _ p⟩⟩
/-- a test whose value is a truth value -/
theorem pt_bl {e : Expr} {g : EvT} {t : TE} (h : PT X e (tTest t)) (i : ∀ σ H Q, tE X.K fns g σ H Q → t σ H Q) (hb : ∀ ρ d ρ', g ρ = some (d, ρ') → ∃ b, d = .bl b) : PT X e (tT X.K fns g) := by
  refine PT.imp h fun σ H Q q => ?_
  obtain ⟨F, ρ, fs, d', ρ', b, w, e, q, hb', post⟩ := q
  obtain ⟨c, rfl⟩ := hb _ _ _ q
  have hb' : some c = some b := hb'
  cases hb'
  refine i σ H _ ⟨F, ρ, fs, _, ρ', w, e, q, fun F' H' fs' x P p => ⟨b, p.rep, post _ _ _ _ _ p⟩⟩
theorem s_bin {op : Operator} {a b : E} {ga gb : EvT} {p : Pos} (ha : PE X a.ast (tE X.K fns ga)) (hb : PE X b.ast (tE X.K fns gb)) : PE X (.BinOp a.ast op b.ast p) (tE X.K fns (opE2 (opB op) ga gb)) :=
  PE.imp (pe_op (opB_ok op) ha hb) fun _ _ _ => tE_op2
theorem s_cmp (G : GX fns T C N sc fnp X) {op : CmpOp} {a b : E} {ga gb : EvT} {p : Pos} (ha : PE X a.ast (tE X.K fns ga)) (hb : PE X b.ast (tE X.K fns gb)) :
    PE X (.Compare a.ast [op] [b.ast] p) (tE X.K fns (opE2 (fun x y => (opC op x y).map .bl) ga gb)) ∧ PT X (.Compare a.ast [op] [b.ast] p) (tT X.K fns (opE2 (fun x y => (opC op x y).map .bl) ga gb)) := by
  have main : ∀ σ H Q, tE X.K fns (opE2 (fun x y => (opC op x y).map .bl) ga gb) σ H Q → tOp (r2c X.K fns (opC op)) (tE X.K fns ga) (tE X.K fns gb) σ H Q := by
    intro σ H Q h
    obtain ⟨F, ρ, fs, d, ρ', w, e, q, post⟩ := h
    simp only [opE2, Option.bind_eq_bind, Option.bind_eq_some_iff, Prod.exists, Option.pure_def, Option.some.injEq, Prod.mk.injEq] at q
    obtain ⟨d1, ρ1, q1, d2, ρ2, q2, r, q3, rfl, rfl⟩ := q
    obtain ⟨b, hb, rfl⟩ := Option.map_eq_some_iff.mp q3
    refine ⟨F, ρ, fs, d1, ρ1, w, e, q1, fun F1 H1 fs1 x P1 p1 => ?_⟩
    refine ⟨F1, ρ1, fs1, d2, ρ2, p1.wf, p1.env, q2, fun F2 H2 fs2 y P2 p2 => ?_⟩
    have pp := p1.two p2
    obtain ⟨PA, PB, sa, sb, dj, rx, ry⟩ := pp.rep.of2
    exact ⟨F2, d1, d2, PA, PB, b, rx, ry, hb, post _ _ _ _ _ (pp.fin (.flat pp.wf rfl))⟩
  refine ⟨PE.imp (pe_cmpR (opC_ok G.hu op) ha hb (mark_ok op b)) main, pt_bl (pt_cmpR (opC_ok G.hu op) ha hb (mark_ok op b)) main fun ρ d ρ' h => ?_⟩
  simp only [opE2, Option.bind_eq_bind, Option.bind_eq_some_iff, Prod.exists, Option.pure_def, Option.some.injEq, Prod.mk.injEq, Option.map_eq_some_iff] at h
  obtain ⟨_, _, _, _, _, _, _, ⟨b, _, rfl⟩, rfl, rfl⟩ := h
  exact ⟨b, rfl⟩
theorem s_neg {a : E} {ga : EvT} {p : Pos} (ha : PE X a.ast (tE X.K fns ga)) : PE X (.UnaryOp .USub a.ast p) (tE X.K fns (opE1 negD ga)) := by
  refine PE.imp (pe_un un_neg ha) fun σ H Q q => ?_
  obtain ⟨F, ρ, fs, d, ρ', w, e, q, post⟩ := tE_op1 q
  refine ⟨F, ρ, fs, d, ρ', w, e, q, fun F' H' fs' x P p => ?_⟩
  obtain ⟨F1, d1, P1, R, w1, r1, o1, ef, post1⟩ := post _ _ _ _ _ p
  unfold negD at ef
  split at ef
  · cases ef; cases (show x = _ from r1)
    exact ⟨_, rfl, post1 _ _ _ _ (.flat w1 rfl)⟩
  · cases ef
end
end VK

set_option Elab.async false
set_option linter.all false
set_option maxRecDepth 100000
namespace VK
open PySem PySem.Spec PyProof.Rows L2
section
variable {K : PySem.W.Frag} {fns : List Addr} {F F' F1 F2 P Q : PS_} {H H' H1 H2 : Hp} {σ : L2.St} {ρ ρ' ρ1 ρ2 : Rho} {fs fs' fs1 fs2 : Nat → PS_} {d d1 : D} {x x1 v : V} {P1 : PS_}
theorem EPost.drop (p : EPost K fns F H fs F1 H1 fs1 σ ρ1 d1 x1 P1) (r : Rep K fns F1 H1 d x Emp) : EPost K fns F H fs F1 H1 fs1 σ ρ1 d x Emp :=
  ⟨p.step, p.wf, p.env, r, OwnS.emp, fun _ z => z.elim, fun a z => p.new a (z.imp False.elim id)⟩
theorem back_new (st : Step (UU fs) F F1 H H1) (nw : ∀ a, UU fs1 a → UU fs a ∨ H a = none) {a : Addr} (h : UU fs1 a ∨ H1 a = none) : UU fs a ∨ H a = none := by
  rcases h with h | h
  · exact nw a h
  · cases e : H a with
    | none => exact .inr rfl
    | some o =>
      by_cases hp : UU fs a
      · exact .inl hp
      · rw [st.keep a o e hp] at h; cases h
theorem EPost.seq (p : EPost K fns F H fs F1 H1 fs1 σ ρ1 d1 x1 P1) (q : EPost K fns F1 H1 fs1 F2 H2 fs2 σ ρ2 d x P) : EPost K fns F H fs F2 H2 fs2 σ ρ2 d x P :=
  ⟨p.step.trans q.step fun c h => p.new c (.inr h), q.wf, q.env, q.rep, q.own, q.dj, fun a z => back_new p.step (fun a h => p.new a (.inr h)) (q.new a z)⟩
end
section
variable {X : Cx} {fns : List Addr} {T : Tab} {C : CallF} {N : List Str} {sc : Scope} {fnp : Str → Bool}
/-- an expression: as a value, as a test -/
structure Snd (X : Cx) (fns : List Addr) (e : Expr) (g : EvT) : Prop where
  val : PE X e (tE X.K fns g)
  tst : PT X e (tT X.K fns g)
theorem Snd.gen {e : Expr} {g : EvT} (h : PE X e (tE X.K fns g)) (he : ∀ whole, isTrue e X.env whole = (do let v ← whole; standAt e.pos; holding [v] (truthy v)) := by intro _; rfl) : Snd X fns e g := ⟨h, pt_gen h he⟩
def noE : EvT := fun _ => none
theorem tE_no {K : PySem.W.Frag} {σ : L2.St} {H : Hp} {Q : VK} (h : tE K fns noE σ H Q) : False := by
  obtain ⟨F, ρ, fs, d', ρ', w, e, q, post⟩ := h
  cases q
theorem tT_no {K : PySem.W.Frag} {σ : L2.St} {H : Hp} {Q : Bool → Hp → Prop} (h : tT K fns noE σ H Q) : False := by
  obtain ⟨F, ρ, fs, d', ρ', b, w, e, q, post⟩ := h
  cases q
def notE (g : EvT) : EvT := fun ρ => do
  let (x, ρ1) ← g ρ
  let k ← truD x
  pure (.bl (!k), ρ1)
theorem notE_some {g : EvT} {ρ : Rho} {d : D} {ρ' : Rho} (h : notE g ρ = some (d, ρ')) : ∃ x k, g ρ = some (x, ρ') ∧ truD x = some k ∧ d = .bl (!k) := by
  simp only [notE, Option.bind_eq_bind, Option.bind_eq_some_iff, Prod.exists, Option.pure_def, Option.some.injEq, Prod.mk.injEq] at h
  obtain ⟨x, r, h1, k, h2, rfl, rfl⟩ := h
  exact ⟨x, k, h1, h2, rfl⟩
theorem s_not {e : Expr} {g : EvT} {p : Pos} (h : Snd X fns e g) : Snd X fns (.UnaryOp .Not e p) (notE g) := by
  refine ⟨PE.imp (pe_notT h.val) fun σ H Q q => ?_, PT.imp (pt_not h.tst) fun σ H Q q => ?_⟩
  · obtain ⟨F, ρ, fs, d', ρ', w, e, q, post⟩ := q
    obtain ⟨x, k, h1, h2, rfl⟩ := notE_some q
    exact ⟨F, ρ, fs, x, ρ', w, e, h1, fun F' H' fs' y P pp => ⟨k, tru_rep pp.rep h2, post _ _ _ _ _ (pp.drop rfl)⟩⟩
  · obtain ⟨F, ρ, fs, d', ρ', b, w, e, q, hb, post⟩ := q
    obtain ⟨x, k, h1, h2, rfl⟩ := notE_some q
    have hb : some (!k) = some b := hb
    cases hb
    exact ⟨F, ρ, fs, x, ρ', k, w, e, h1, h2, fun F' H' fs' y P pp => post _ _ _ _ _ (pp.drop (x := .bl (!k)) (d := .bl (!k)) rfl)⟩
def ifeE (gc ga gb : EvT) : EvT := fun ρ => do
  let (x, ρ1) ← gc ρ
  let k ← truD x
  if k = true then ga ρ1 else gb ρ1
theorem ifeE_some {gc ga gb : EvT} {ρ : Rho} {r : D × Rho} (h : ifeE gc ga gb ρ = some r) : ∃ x ρ1 k, gc ρ = some (x, ρ1) ∧ truD x = some k ∧ (if k = true then ga ρ1 else gb ρ1) = some r := by
  simp only [ifeE, Option.bind_eq_bind, Option.bind_eq_some_iff, Prod.exists] at h
  obtain ⟨x, ρ1, h1, k, h2, h3⟩ := h
  exact ⟨x, ρ1, k, h1, h2, h3⟩
theorem pt_ifExp {c a b : Expr} {tc ta tb : TT} {pos : Pos} (hc : PT X c tc) (ha : PT X a ta) (hb : PT X b tb) : PT X (.IfExp c a b pos) (fun σ H Q => tc σ H fun k H1 => if k = true then ta σ H1 Q else tb σ H1 Q) := by
  refine ⟨fun pins s σ H Q I h => ?_⟩
  rw [PySem.isTrue]
  refine wpAny_bind (thn (hc.run pins s σ H _ I h) fun d s1 ⟨H1, I1, q1⟩ => ?_)
  cases d with
  | true => exact ha.run pins s1 σ H1 Q I1 q1
  | false => exact hb.run pins s1 σ H1 Q I1 q1
theorem s_ife {c a b : Expr} {gc ga gb : EvT} {p : Pos} (hc : Snd X fns c gc) (ha : Snd X fns a ga) (hb : Snd X fns b gb) : Snd X fns (.IfExp c a b p) (ifeE gc ga gb) := by
  refine ⟨PE.imp (pe_ifExp hc.tst ha.val hb.val) fun σ H Q q => ?_, PT.imp (pt_ifExp hc.tst ha.tst hb.tst) fun σ H Q q => ?_⟩
  · obtain ⟨F, ρ, fs, d', ρ', w, e, q, post⟩ := q
    obtain ⟨x, ρ1, k, h1, h2, h3⟩ := ifeE_some q
    refine ⟨F, ρ, fs, x, ρ1, k, w, e, h1, h2, fun F' H' fs' y P pp => ?_⟩
    cases k with
    | true => exact iteT ⟨F', ρ1, fs', d', ρ', pp.wf, pp.env, h3, fun F2 H2 fs2 z P2 p2 => post _ _ _ _ _ (pp.seq p2)⟩
    | false => exact iteF ⟨F', ρ1, fs', d', ρ', pp.wf, pp.env, h3, fun F2 H2 fs2 z P2 p2 => post _ _ _ _ _ (pp.seq p2)⟩
  · obtain ⟨F, ρ, fs, d', ρ', b', w, e, q, hb', post⟩ := q
    obtain ⟨x, ρ1, k, h1, h2, h3⟩ := ifeE_some q
    refine ⟨F, ρ, fs, x, ρ1, k, w, e, h1, h2, fun F' H' fs' y P pp => ?_⟩
    cases k with
    | true => exact iteT ⟨F', ρ1, fs', d', ρ', b', pp.wf, pp.env, h3, hb', fun F2 H2 fs2 z P2 p2 => post _ _ _ _ _ (pp.seq p2)⟩
    | false => exact iteF ⟨F', ρ1, fs', d', ρ', b', pp.wf, pp.env, h3, hb', fun F2 H2 fs2 z P2 p2 => post _ _ _ _ _ (pp.seq p2)⟩
def andE (ga gb : EvT) : EvT := fun ρ => do
  let (x, ρ1) ← ga ρ
  let k ← truD x
  if k = true then gb ρ1 else pure (x, ρ1)
def orE (ga gb : EvT) : EvT := fun ρ => do
  let (x, ρ1) ← ga ρ
  let k ← truD x
  if k = true then pure (x, ρ1) else gb ρ1
theorem andE_some {ga gb : EvT} {ρ : Rho} {r : D × Rho} (h : andE ga gb ρ = some r) : ∃ x ρ1 k, ga ρ = some (x, ρ1) ∧ truD x = some k ∧ (if k = true then gb ρ1 else pure (x, ρ1)) = some r := by
  simp only [andE, Option.bind_eq_bind, Option.bind_eq_some_iff, Prod.exists] at h
  obtain ⟨x, ρ1, h1, k, h2, h3⟩ := h
  exact ⟨x, ρ1, k, h1, h2, h3⟩
theorem orE_some {ga gb : EvT} {ρ : Rho} {r : D × Rho} (h : orE ga gb ρ = some r) : ∃ x ρ1 k, ga ρ = some (x, ρ1) ∧ truD x = some k ∧ (if k = true then pure (x, ρ1) else gb ρ1) = some r := by
  simp only [orE, Option.bind_eq_bind, Option.bind_eq_some_iff, Prod.exists] at h
  obtain ⟨x, ρ1, h1, k, h2, h3⟩ := h
  exact ⟨x, ρ1, k, h1, h2, h3⟩
/-- and, or: as a value, as a test in any frame -/
structure SndB (X : Cx) (fns : List Addr) (e : Expr) (g : EvT) : Prop where
  val : PE X e (tE X.K fns g)
  tst : PW X e (tT X.K fns g)
theorem PW.imp {e : Expr} {t u : TT} (h : PW X e t) (i : ∀ σ H Q, u σ H Q → t σ H Q) : PW X e u := ⟨fun wh pins s σ H Q I q => h.run wh pins s σ H Q I (i σ H Q q)⟩
theorem SndB.snd {e : Expr} {g : EvT} (h : SndB X fns e g) : Snd X fns e g := ⟨h.val, h.tst.pt⟩
theorem s_and1 {e : Expr} {g : EvT} {p : Pos} (h : Snd X fns e g) : SndB X fns (.BoolOp .And [e] p) g := ⟨pe_one h.val, pw_and1 h.tst⟩
theorem s_or1 {e : Expr} {g : EvT} {p : Pos} (h : Snd X fns e g) : SndB X fns (.BoolOp .Or [e] p) g := ⟨pe_one h.val, pw_or1 h.tst⟩
theorem s_bool0 {op : BoolOp} {p : Pos} {es : List Expr} : SndB X fns (.BoolOp op es p) noE := ⟨⟨fun pins s σ H Q I q => (tE_no q).elim⟩, ⟨fun wh pins s σ H Q I q => (tT_no q).elim⟩⟩
theorem s_and {a b : Expr} {rest : List Expr} {ga gb : EvT} {p : Pos} (ha : Snd X fns a ga) (hb : SndB X fns (.BoolOp .And (b :: rest) p) gb) : SndB X fns (.BoolOp .And (a :: b :: rest) p) (andE ga gb) := by
  refine ⟨PE.imp (pe_andT ha.val hb.val) fun σ H Q q => ?_, PW.imp (pw_and ha.tst hb.tst) fun σ H Q q => ?_⟩
  · obtain ⟨F, ρ, fs, d', ρ', w, e, q, post⟩ := q
    obtain ⟨x, ρ1, k, h1, h2, h3⟩ := andE_some q
    refine ⟨F, ρ, fs, x, ρ1, w, e, h1, fun F' H' fs' y P pp => ⟨k, tru_rep pp.rep h2, ?_⟩⟩
    cases k with
    | true => exact iteT ⟨F', ρ1, fs', d', ρ', pp.wf, pp.env, h3, fun F2 H2 fs2 z P2 p2 => post _ _ _ _ _ (pp.seq p2)⟩
    | false =>
      have h3 : some (x, ρ1) = some (d', ρ') := h3
      cases h3
      exact iteF (post _ _ _ _ _ pp)
  · obtain ⟨F, ρ, fs, d', ρ', b', w, e, q, hb', post⟩ := q
    obtain ⟨x, ρ1, k, h1, h2, h3⟩ := andE_some q
    refine ⟨F, ρ, fs, x, ρ1, k, w, e, h1, h2, fun F' H' fs' y P pp => ?_⟩
    cases k with
    | true => exact iteT ⟨F', ρ1, fs', d', ρ', b', pp.wf, pp.env, h3, hb', fun F2 H2 fs2 z P2 p2 => post _ _ _ _ _ (pp.seq p2)⟩
    | false =>
      have h3 : some (x, ρ1) = some (d', ρ') := h3
      cases h3
      rw [h2] at hb'
      cases hb'
      exact iteF (post _ _ _ _ _ pp)
theorem s_or {a b : Expr} {rest : List Expr} {ga gb : EvT} {p : Pos} (ha : Snd X fns a ga) (hb : SndB X fns (.BoolOp .Or (b :: rest) p) gb) : SndB X fns (.BoolOp .Or (a :: b :: rest) p) (orE ga gb) := by
  refine ⟨PE.imp (pe_orT ha.val hb.val) fun σ H Q q => ?_, PW.imp (pw_or ha.tst hb.tst) fun σ H Q q => ?_⟩
  · obtain ⟨F, ρ, fs, d', ρ', w, e, q, post⟩ := q
    obtain ⟨x, ρ1, k, h1, h2, h3⟩ := orE_some q
    refine ⟨F, ρ, fs, x, ρ1, w, e, h1, fun F' H' fs' y P pp => ⟨k, tru_rep pp.rep h2, ?_⟩⟩
    cases k with
    | false => exact iteF ⟨F', ρ1, fs', d', ρ', pp.wf, pp.env, h3, fun F2 H2 fs2 z P2 p2 => post _ _ _ _ _ (pp.seq p2)⟩
    | true =>
      have h3 : some (x, ρ1) = some (d', ρ') := h3
      cases h3
      exact iteT (post _ _ _ _ _ pp)
  · obtain ⟨F, ρ, fs, d', ρ', b', w, e, q, hb', post⟩ := q
    obtain ⟨x, ρ1, k, h1, h2, h3⟩ := orE_some q
    refine ⟨F, ρ, fs, x, ρ1, k, w, e, h1, h2, fun F' H' fs' y P pp => ?_⟩
    cases k with
    | false => exact iteF ⟨F', ρ1, fs', d', ρ', b', pp.wf, pp.env, h3, hb', fun F2 H2 fs2 z P2 p2 => post _ _ _ _ _ (pp.seq p2)⟩
    | true =>
      have h3 : some (x, ρ1) = some (d', ρ') := h3
      cases h3
      rw [h2] at hb'
      cases hb'
      exact iteT (post _ _ _ _ _ pp)
def chnE (op op' : CmpOp) (ga gb gc : EvT) : EvT := fun ρ => do
  let (x, ρ1) ← ga ρ
  let (y, ρ2) ← gb ρ1
  let k ← opC op x y
  if k = true then do
    let (z, ρ3) ← gc ρ2
    let l ← opC op' y z
    pure (.bl l, ρ3)
  else pure (.bl false, ρ2)
theorem chnE_some {op op' : CmpOp} {ga gb gc : EvT} {ρ : Rho} {r : D × Rho} (h : chnE op op' ga gb gc ρ = some r) : ∃ x ρ1 y ρ2 k, ga ρ = some (x, ρ1) ∧ gb ρ1 = some (y, ρ2) ∧ opC op x y = some k ∧
    (if k = true then ∃ z ρ3 l, gc ρ2 = some (z, ρ3) ∧ opC op' y z = some l ∧ r = (.bl l, ρ3) else r = (.bl false, ρ2)) := by
  simp only [chnE, Option.bind_eq_bind, Option.bind_eq_some_iff, Prod.exists] at h
  obtain ⟨x, ρ1, h1, y, ρ2, h2, k, h3, h4⟩ := h
  refine ⟨x, ρ1, y, ρ2, k, h1, h2, h3, ?_⟩
  cases k with
  | true =>
    simp only [if_pos, Option.bind_eq_some_iff, Prod.exists, Option.pure_def, Option.some.injEq] at h4
    obtain ⟨z, ρ3, h5, l, h6, h7⟩ := h4
    exact iteT ⟨z, ρ3, l, h5, h6, h7.symm⟩
  | false =>
    have h4 : some (D.bl false, ρ2) = some r := h4
    cases h4
    exact iteF rfl
theorem s_chn (G : GX fns T C N sc fnp X) {op op' : CmpOp} {a b c : E} {ga gb gc : EvT} {p : Pos} (ha : Snd X fns a.ast ga) (hb : Snd X fns b.ast gb) (hc : Snd X fns c.ast gc) :
    Snd X fns (.Compare a.ast [op, op'] [b.ast, c.ast] p) (chnE op op' ga gb gc) := by
  have hm : lastMarks [op, op'] [b.ast, c.ast] = false := mark_ok op' c
  have main : ∀ σ H Q, tE X.K fns (chnE op op' ga gb gc) σ H Q → tChain (r2c X.K fns (opC op)) (r2c X.K fns (opC op')) (tE X.K fns ga) (tE X.K fns gb) (tE X.K fns gc) σ H Q := by
    intro σ H Q q
    obtain ⟨F, ρ, fs, d', ρ', w, e, q, post⟩ := q
    obtain ⟨x, ρ1, y, ρ2, k, h1, h2, h3, h4⟩ := chnE_some q
    refine ⟨F, ρ, fs, x, ρ1, w, e, h1, fun F1 H1 fs1 vx P1 p1 => ?_⟩
    refine ⟨F1, ρ1, fs1, y, ρ2, p1.wf, p1.env, h2, fun F2 H2 fs2 vy P2 p2 => ?_⟩
    have pp := p1.two p2
    obtain ⟨PA, PB, sa, sb, dj, rx, ry⟩ := pp.rep.of2
    refine ⟨F2, x, y, PA, PB, k, rx, ry, h3, k, rfl, ?_⟩
    cases k with
    | false =>
      have h4 : (d', ρ') = (D.bl false, ρ2) := h4
      cases h4
      exact iteF (post _ _ _ _ _ (pp.fin (.flat pp.wf rfl)))
    | true =>
      obtain ⟨z', ρ3, l, h5, h6, h7⟩ := (show ∃ z ρ3 l, gc ρ2 = some (z, ρ3) ∧ opC op' y z = some l ∧ (d', ρ') = (.bl l, ρ3) from h4)
      cases h7
      have py := p1.seq p2
      refine iteT ⟨F2, ρ2, fs2, z', _, py.wf, py.env, h5, fun F4 H4 fs4 vz P4 p4 => ?_⟩
      have pq := py.two p4
      obtain ⟨PA, PB, sa, sb, dj, rx, ry⟩ := pq.rep.of2
      exact ⟨F4, y, z', PA, PB, l, rx, ry, h6, post _ _ _ _ _ (pq.fin (.flat pq.wf rfl))⟩
  refine ⟨PE.imp (pe_chain (opC_ok G.hu op) (opC_ok G.hu op') ha.val hb.val hc.val hm) main, pt_bl (pt_chain (opC_ok G.hu op) (opC_ok G.hu op') ha.val hb.val hc.val hm) main fun ρ d ρ' h => ?_⟩
  obtain ⟨x, ρ1, y, ρ2, k, h1, h2, h3, h4⟩ := chnE_some h
  cases k with
  | false =>
    have h4 : (d, ρ') = (D.bl false, ρ2) := h4
    cases h4
    exact ⟨_, rfl⟩
  | true =>
    obtain ⟨z', ρ3, l, h5, h6, h7⟩ := (show ∃ z ρ3 l, gc ρ2 = some (z, ρ3) ∧ opC op' y z = some l ∧ (d, ρ') = (.bl l, ρ3) from h4)
    cases h7
    exact ⟨_, rfl⟩
end
end VK

set_option Elab.async false
set_option linter.all false
set_option maxRecDepth 100000
namespace VK
open PySem PySem.Spec PyProof.Rows L2
section
variable {X : Cx} {fns : List Addr} {T : Tab} {C : CallF} {N : List Str} {sc : Scope} {fnp : Str → Bool}
/-! ### argument lists -/
def tAio (K : PySem.W.Frag) (fns : List Addr) (g : Rho → Option (List D × Rho)) (ios : List (Nat × Nat)) : TA := fun σ H Q => ∃ F ρ fs ds ρ', WfF F H ∧ EnvR K fns F H σ ρ fs ∧ g ρ = some (ds, ρ') ∧
  ∀ F' H' fs' xs P, APost K fns F H fs F' H' fs' σ ρ' ds xs P → (∀ p ∈ ios, ∃ v, σ[p.2]? = some (some v) ∧ xs[p.1]? = some v) → Q xs H'
theorem tAio_of {K : PySem.W.Frag} {g : Rho → Option (List D × Rho)} {ios : List (Nat × Nat)} {σ : L2.St} {H : Hp} {Q : List V → Hp → Prop} (h : tA K fns g σ H Q) : tAio K fns g ios σ H Q := by
  obtain ⟨F, ρ, fs, ds, ρ', w, e, q, post⟩ := h
  exact ⟨F, ρ, fs, ds, ρ', w, e, q, fun F' H' fs' xs P p _ => post _ _ _ _ _ p⟩
theorem pa_plain {es : List Expr} {g : Rho → Option (List D × Rho)} {ios : List (Nat × Nat)} (h : PA X es (tAio X.K fns g ios)) : PA X es (tA X.K fns g) := PA.imp h fun _ _ _ => tAio_of
def shft (ios : List (Nat × Nat)) : List (Nat × Nat) := ios.map fun p => (p.1 + 1, p.2)
theorem iosOf_succ : ∀ (es : Es) (j : Nat), iosOf (j + 1) es = shft (iosOf j es)
  | .nil, j => rfl
  | .cons e es, j => by
    cases e with
    | mv i x p => show (j + 1, i) :: iosOf (j + 1 + 1) es = shft ((j, i) :: iosOf (j + 1) es); rw [iosOf_succ es (j + 1)]; rfl
    | _ => exact iosOf_succ es (j + 1)
theorem args_nil : PA X [] (tAio X.K fns (fun ρ => some ([], ρ)) []) := by
  refine PA.imp pa_nil fun σ H Q h => ?_
  obtain ⟨F, ρ, fs, ds, ρ', w, e, q, post⟩ := h
  cases q
  exact post _ _ _ _ _ (.nil w e) fun _ z => nomatch z
theorem args_cons {e : E} {es : List Expr} {ge : EvT} {gs : Rho → Option (List D × Rho)} {ios : List (Nat × Nat)} (he : PE X e.ast (tE X.K fns ge)) (hs : PA X es (tAio X.K fns gs ios)) : PA X (e.ast :: es) (tAio X.K fns (consE ge gs) (shft ios)) := by
  refine PA.imp (pa_cons he hs (star_ok _ _ e)) fun σ H Q h => ?_
  obtain ⟨F, ρ, fs, ds, ρ', w, en, q, post⟩ := h
  simp only [consE, Option.bind_eq_bind, Option.bind_eq_some_iff, Prod.exists, Option.pure_def, Option.some.injEq, Prod.mk.injEq] at q
  obtain ⟨d1, ρ1, q1, d2, ρ2, q2, rfl, rfl⟩ := q
  refine ⟨F, ρ, fs, d1, ρ1, w, en, q1, fun F1 H1 fs1 x P1 p1 => ?_⟩
  refine ⟨F1, ρ1, fs1, d2, ρ2, p1.wf, p1.env, q2, fun F2 H2 fs2 y P2 p2 hio => post _ _ _ _ _ (p1.cons p2) fun p hp => ?_⟩
  obtain ⟨p', hp', rfl⟩ := List.mem_map.mp hp
  obtain ⟨v, h1, h2⟩ := hio p' hp'
  exact ⟨v, h1, by simpa using h2⟩
def mvE (i : Nat) : EvT := fun ρ => match ρ[i]? with
  | some (some d) => some (d, ρ.set i none)
  | _ => none
theorem APost.move {K : PySem.W.Frag} {F F1 P : PS_} {H H1 : Hp} {σ : L2.St} {ρ1 : Rho} {fs fs1 : Nat → PS_} {d : D} {ds : List D} {xs : List V} {i : Nat} (p : APost K fns F H fs F1 H1 fs1 σ ρ1 ds xs P) (h : ρ1[i]? = some (some d)) : ∃ v, σ[i]? = some (some v) ∧ APost K fns F H fs F1 H1 (fupd fs1 i Emp) σ (ρ1.set i none) (d :: ds) (v :: xs) (Un2 (fs1 i) P) := by
  obtain ⟨v, hv, pm⟩ := p.env.move p.wf h
  have sub : ∀ a, UU (fupd fs1 i Emp) a → UU fs1 a := fun a u => (UU_fupd u).elim False.elim id
  exact ⟨v, hv, p.step, p.wf, pm.env, ⟨v, xs, fs1 i, P, rfl, fun _ => .inl, fun _ => .inr, fun a z u => p.dj a u ⟨i, z⟩, pm.rep, p.rep⟩, pm.own.un p.own, fun a z u => z.elim (fun z => pm.dj a z u) fun z => p.dj a z (sub a u),
    fun a z => p.new a (z.elim (fun z => z.elim (fun z => .inr ⟨i, z⟩) .inl) fun z => .inr (sub a z))⟩
theorem late_main {K : PySem.W.Frag} {i : Nat} {gb : Rho → Option (List D × Rho)} {F : PS_} {ρ ρ' : Rho} {fs : Nat → PS_} {ds : List D} {σ : L2.St} {H : Hp} (en : EnvR K fns F H σ ρ fs) (q : lateE i gb ρ = some (ds, ρ')) :
    ∃ v ds2 ρ1, σ[i]? = some (some v) ∧ gb ρ = some (ds2, ρ1) ∧ ∀ F2 H2 fs2 ys P2, APost K fns F H fs F2 H2 fs2 σ ρ1 ds2 ys P2 → ∃ fs3 P3, APost K fns F H fs F2 H2 fs3 σ ρ' ds (v :: ys) P3 := by
  unfold lateE at q
  split at q
  · rename_i d0 h0
    simp only [Option.bind_eq_bind, Option.bind_eq_some_iff, Prod.exists] at q
    obtain ⟨ds2, ρ1, q2, q3⟩ := q
    split at q3
    · rename_i d hd
      cases q3
      obtain ⟨v, hv, _⟩ := en.rep _ _ h0
      refine ⟨v, ds2, ρ1, hv, q2, fun F2 H2 fs2 ys P2 p2 => ?_⟩
      obtain ⟨v', hv', p3⟩ := p2.move hd
      rw [hv] at hv'
      cases hv'
      exact ⟨_, _, p3⟩
    · cases q3
  · cases q
theorem args_mv (G : GX fns T C N sc fnp X) {i : Nat} {x : Str} {p : Pos} (hn : nmB N sc i x = true) {es : List Expr} {gs : Rho → Option (List D × Rho)} {ios : List (Nat × Nat)} (hs : PA X es (tAio X.K fns gs ios)) :
    PA X (.Name x p :: es) (tAio X.K fns (lateE i gs) ((0, i) :: shft ios)) := by
  refine PA.imp (pa_cons (G.var hn) hs rfl) fun σ H Q h => ?_
  obtain ⟨F, ρ, fs, ds, ρ', w, en, q, post⟩ := h
  obtain ⟨v, ds2, ρ1, hv, q2, k⟩ := late_main en q
  refine ⟨v, hv, F, ρ, fs, ds2, ρ1, w, en, q2, fun F2 H2 fs2 ys P2 p2 hio => ?_⟩
  obtain ⟨fs3, P3, p3⟩ := k _ _ _ _ _ p2
  refine post _ _ _ _ _ p3 fun p hp => ?_
  rcases List.mem_cons.mp hp with rfl | hp
  · exact ⟨v, hv, rfl⟩
  · obtain ⟨p', hp', rfl⟩ := List.mem_map.mp hp
    obtain ⟨u, h1, h2⟩ := hio p' hp'
    exact ⟨u, h1, by simpa using h2⟩
/-! ### displays -/
theorem s_lst {es : Es} {g : Rho → Option (List D × Rho)} {ios : List (Nat × Nat)} {p : Pos} (h : PA X es.ast (tAio X.K fns g ios)) : PE X (.List es.ast p) (tE X.K fns (opEN (fun ds => if ds.length ≤ sizeLine then some (.lst .own ds) else none) g)) := by
  refine PE.imp (pe_lst (pa_plain h)) fun σ H Q q => ?_
  obtain ⟨F, ρ, fs, d, ρ', w, e, q, post⟩ := tE_opN q
  refine ⟨F, ρ, fs, d, ρ', w, e, q, fun F' H' fs' xs P p => ?_⟩
  obtain ⟨F1, d1, P1, R, w1, r1, o1, ef, post1⟩ := post _ _ _ _ _ p
  dsimp only at ef
  split at ef
  · rename_i hl
    cases ef
    exact ⟨by rw [r1.len]; exact hl, fun a na => post1 _ _ _ _ (.newLst w1 na o1 r1)⟩
  · cases ef
theorem s_tup {es : Es} {g : Rho → Option (List D × Rho)} {ios : List (Nat × Nat)} {k : Nat} {p : Pos} (h : PA X es.ast (tAio X.K fns g ios)) : PE X (.Tuple es.ast k p) (tE X.K fns (opEN (fun ds => if ds.length ≤ sizeLine then some (.tup ds) else none) g)) := by
  refine PE.imp (pe_tup (pa_plain h)) fun σ H Q q => ?_
  obtain ⟨F, ρ, fs, d, ρ', w, e, q, post⟩ := tE_opN q
  refine ⟨F, ρ, fs, d, ρ', w, e, q, fun F' H' fs' xs P p => ?_⟩
  obtain ⟨F1, d1, P1, R, w1, r1, o1, ef, post1⟩ := post _ _ _ _ _ p
  dsimp only at ef
  split at ef
  · rename_i hl
    cases ef
    exact ⟨by rw [r1.len]; exact hl, fun a na => post1 _ _ _ _ (.newTup w1 na o1 r1)⟩
  · cases ef
/-! ### subscripts -/
theorem RepL.atI {K : PySem.W.Frag} {F : PS_} {H : Hp} {P : PS_} {ds : List D} {vs : List V} {i : Int} {d : D} (h : RepL K fns F H ds vs P) (e : L2.atI ds i = some d) : ∃ v, L2.atI vs i = some v ∧ Rep K fns F H d v P := by
  unfold L2.atI at e ⊢
  rw [h.len]
  cases q : ixN ds.length i with
  | none => rw [q] at e; cases e
  | some j =>
    rw [q] at e
    obtain ⟨v, hv, r⟩ := h.get (i := j) e
    exact ⟨v, hv, r⟩
theorem RepP.val {K : PySem.W.Frag} {F : PS_} {H : Hp} {k : Key} {d : D} : ∀ {kvs : List (Key × D)} {kw : List (Key × V)} {P : PS_}, RepP K fns F H kvs kw P → getD' kvs k = some d → ∃ v, valV kw k = some v ∧ Rep K fns F H d v P
  | [], _, _, _, e => by cases e
  | (k0, d0) :: r, _, _, ⟨v, r', P1, P2, e, s1, s2, _, h1, h2⟩, q => by
    subst e
    by_cases hk : k0 = k
    · have q : some d0 = some d := by simpa [getD', List.find?_cons, hk] using q
      cases q
      exact ⟨v, valV_pos (p := (k0, v)) hk, h1.mono s1⟩
    · have q : getD' r k = some d := by simpa [getD', List.find?_cons, hk] using q
      obtain ⟨u, hu, ru⟩ := RepP.val h2 q
      exact ⟨u, by rw [valV_neg (p := (k0, v)) hk]; exact hu, ru.mono s2⟩
def rIxD : R2 := fun x y H Q => ∃ a v, x = .ref a ∧ DGet H a y (some v) ∧ Q v H
theorem ix_dict (hu : X.A.units + 1 < cLine) : IxR X rIxD := by
  intro value slice pins s σ H x y v u Q I rx ry h hs
  obtain ⟨a, w, rfl, g, q⟩ := h
  obtain rfl : v = Value.ref a := rx
  exact tail_any (ops := [.ref a, u]) (dict_typeIs I g) PySem.F.slot_dict_getitem.lookup (d_getItem hu I g ry fun w' s' I' r' => ⟨w, H, I', r', q⟩) hs
theorem s_ix (G : GX fns T C N sc fnp X) {a : Expr} {i : E} {ga gi : EvT} {p : Pos} (ha : PE X a (tE X.K fns ga)) (hi : PE X i.ast (tE X.K fns gi)) : PE X (.Subscript a i.ast p) (tE X.K fns (opE2 opIx ga gi)) := by
  refine PE.imp (pe_ix (ix_seq.or (ix_dict (by have := G.hu; omega))) ha hi (plainIx_ok i)) fun σ H Q q => ?_
  obtain ⟨F, ρ, fs, d, ρ', w, e, q, post⟩ := tE_op2 q
  refine ⟨F, ρ, fs, d, ρ', w, e, q, fun F' H' fs' x P p => ?_⟩
  obtain ⟨F2, ρ2, fs2, d2, ρ2', w2, e2, q2, post2⟩ := post _ _ _ _ _ p
  refine ⟨F2, ρ2, fs2, d2, ρ2', w2, e2, q2, fun F3 H3 fs3 y P3 p3 => ?_⟩
  obtain ⟨F4, d4, e4, P4, R, w4, r4, o4, ef, post4⟩ := post2 _ _ _ _ _ p3
  obtain ⟨PA, PB, sa, sb, dj, rx, ry⟩ := r4.of2
  unfold opIx at ef
  split at ef
  · cases (show y = _ from ry)
    obtain ⟨l, vs, rfl, hl, lr⟩ := rx.list
    obtain ⟨v, hv, rv⟩ := lr.atI ef
    exact .inl (.inl ⟨l, vs, _, v, rfl, rfl, hl, hv, post4 _ _ _ _ (.part w4 o4 (rv.mono sa))⟩)
  · cases (show y = _ from ry)
    obtain ⟨l, vs, rfl, hl, lr⟩ := rx.tupl
    obtain ⟨v, hv, rv⟩ := lr.atI ef
    exact .inl (.inr (.inl ⟨l, vs, _, v, rfl, rfl, hl, hv, post4 _ _ _ _ (.part w4 o4 (rv.mono sa))⟩))
  · split at ef
    · rename_i hz
      cases (show y = _ from ry); cases (show x = _ from rx)
      obtain ⟨c, hc, rfl⟩ := Option.map_eq_some_iff.mp ef
      exact .inl (.inr (.inr ⟨_, _, c, rfl, rfl, hz, hc, post4 _ _ _ _ (.flat w4 rfl)⟩))
    · cases ef
  · cases (show y = _ from ry)
    obtain ⟨l, kw, rfl, rd, rr, _⟩ := dct_rd rx
    obtain ⟨v, hv, rv⟩ := rr.val ef
    exact .inr ⟨l, v, rfl, hv ▸ DGet.rd (k := .inl _) rd, post4 _ _ _ _ (.part w4 o4 (rv.mono sa))⟩
  · cases (show y = _ from ry)
    obtain ⟨l, kw, rfl, rd, rr, _⟩ := dct_rd rx
    obtain ⟨v, hv, rv⟩ := rr.val ef
    exact .inr ⟨l, v, rfl, hv ▸ DGet.rd (k := .inr _) rd, post4 _ _ _ _ (.part w4 o4 (rv.mono sa))⟩
  · cases ef
/-- an optional part -/
def tOpt (K : PySem.W.Frag) (fns : List Addr) (g : Rho → Option (Option Int × Rho)) : TO := fun σ H Q => ∃ F ρ fs o ρ', WfF F H ∧ EnvR K fns F H σ ρ fs ∧ g ρ = some (o, ρ') ∧ ∀ F' H' fs', EPost K fns F H fs F' H' fs' σ ρ' .non .non Emp → Q o H'
theorem PO.imp {e : Option Expr} {t u : TO} (h : PO X e t) (i : ∀ σ H Q, u σ H Q → t σ H Q) : PO X e u := ⟨fun pins s σ H Q I q => h.run pins s σ H Q I (i σ H Q q)⟩
theorem o_none : PO X none (tOpt X.K fns fun ρ => some (none, ρ)) := by
  refine PO.imp po_none fun σ H Q h => ?_
  obtain ⟨F, ρ, fs, o, ρ', w, e, q, post⟩ := h
  cases q
  exact post _ _ _ (.flat w e rfl)
def optE (g : EvT) : Rho → Option (Option Int × Rho) := fun ρ => do
  let (x, ρ1) ← g ρ
  let o ← intO x
  pure (o, ρ1)
theorem o_some {e : Expr} {g : EvT} (h : PE X e (tE X.K fns g)) : PO X (some e) (tOpt X.K fns (optE g)) := by
  refine PO.imp (po_some h) fun σ H Q h => ?_
  obtain ⟨F, ρ, fs, o, ρ', w, e, q, post⟩ := h
  simp only [optE, Option.bind_eq_bind, Option.bind_eq_some_iff, Prod.exists, Option.pure_def, Option.some.injEq, Prod.mk.injEq] at q
  obtain ⟨d1, ρ1, q1, o, q2, rfl, rfl⟩ := q
  refine ⟨F, ρ, fs, d1, ρ1, w, e, q1, fun F' H' fs' x P p => ?_⟩
  unfold intO at q2
  split at q2
  · cases q2
    cases (show x = _ from p.rep)
    exact ⟨_, rfl, post _ _ _ (p.drop rfl)⟩
  · cases q2
def slE (ga : EvT) (gl gh : Rho → Option (Option Int × Rho)) : EvT := fun ρ => do
  let (x, ρ1) ← ga ρ
  let (l, ρ2) ← gl ρ1
  let (h, ρ3) ← gh ρ2
  let r ← sliceD x l h
  pure (r, ρ3)
theorem cut_len {xs : List D} {vs : List V} (h : vs.length = xs.length) (lo hi : Option Int) : cutV vs lo hi = (vs.drop (HT.sIx xs.length 0 lo)).take (HT.sIx xs.length xs.length hi - HT.sIx xs.length 0 lo) := by
  unfold cutV; rw [h]
theorem s_sl {a : Expr} {lo hi : Option Expr} {ga : EvT} {gl gh : Rho → Option (Option Int × Rho)} {p2 p : Pos} (ha : PE X a (tE X.K fns ga)) (hl : PO X lo (tOpt X.K fns gl)) (hh : PO X hi (tOpt X.K fns gh)) :
    PE X (.Subscript a (.Slice lo hi none p2) p) (tE X.K fns (slE ga gl gh)) := by
  refine PE.imp (pe_slice (sl_list.or sl_str) ha hl hh) fun σ H Q q => ?_
  obtain ⟨F, ρ, fs, d, ρ', w, e, q, post⟩ := q
  simp only [slE, Option.bind_eq_bind, Option.bind_eq_some_iff, Prod.exists, Option.pure_def, Option.some.injEq, Prod.mk.injEq] at q
  obtain ⟨d1, ρ1, q1, l, ρ2, q2, h, ρ3, q3, r, q4, rfl, rfl⟩ := q
  refine ⟨F, ρ, fs, d1, ρ1, w, e, q1, fun F1 H1 fs1 x P1 p1 => ?_⟩
  refine ⟨F1, ρ1, fs1, l, ρ2, p1.wf, p1.env, q2, fun F2 H2 fs2 p2 => ?_⟩
  refine ⟨F2, ρ2, fs2, h, ρ3, p2.wf, p2.env, q3, fun F3 H3 fs3 p3 => ?_⟩
  have p4 := p1.cons (p2.seq p3).one
  obtain ⟨PA, PB, sa, sb, dj, rx, ry⟩ := p4.rep.of2
  unfold sliceD at q4
  split at q4
  · cases q4
    obtain ⟨b, vs, rfl, hb, lr⟩ := rx.list
    have hr := (lr.drop (HT.sIx vs.length 0 l)).take (HT.sIx vs.length vs.length h - HT.sIx vs.length 0 l)
    refine .inl ⟨b, vs, rfl, hb, fun q nq => post _ _ _ _ _ (p4.fin (.newLst p4.wf nq p4.own ?_))⟩
    rw [cut_len lr.len]
    rw [lr.len] at hr
    exact hr.mono sa
  · split at q4
    · rename_i hz
      cases q4
      cases (show x = _ from rx)
      exact .inr ⟨_, rfl, hz, post _ _ _ _ _ (p4.fin (.flat p4.wf rfl))⟩
    · cases q4
  · cases q4
def revLD : D → Option D
  | .lst _ xs => some (.lst .own xs.reverse)
  | _ => none
theorem s_revL {a : Expr} {ga : EvT} {k : Nat} {p1 p2 p3 p : Pos} (ha : PE X a (tE X.K fns ga)) : PE X (.Subscript a (.Slice none none (some (.UnaryOp .USub (.Constant (.int 1) k p1) p2)) p3) p) (tE X.K fns (opE1 revLD ga)) := by
  refine PE.imp (pe_revL ha) fun σ H Q q => ?_
  obtain ⟨F, ρ, fs, d, ρ', w, e, q, post⟩ := tE_op1 q
  refine ⟨F, ρ, fs, d, ρ', w, e, q, fun F' H' fs' x P p => ?_⟩
  obtain ⟨F1, d1, P1, R, w1, r1, o1, ef, post1⟩ := post _ _ _ _ _ p
  unfold revLD at ef
  split at ef
  · cases ef
    obtain ⟨b, vs, rfl, hb, lr⟩ := r1.list
    exact ⟨b, vs, rfl, hb, fun q nq => post1 _ _ _ _ (.newLst w1 nq o1 lr.reverse)⟩
  · cases ef
/-! ### calls of defs -/
theorem iosOf_nodup : ∀ (es : Es) (j : Nat), ((iosOf j es).map (·.1)).Nodup ∧ ∀ p ∈ iosOf j es, j ≤ p.1
  | .nil, j => ⟨.nil, fun _ z => nomatch z⟩
  | .cons e es, j => by
    obtain ⟨h1, h2⟩ := iosOf_nodup es (j + 1)
    cases e with
    | mv i x p =>
      show (((j, i) :: iosOf (j + 1) es).map (·.1)).Nodup ∧ _
      refine ⟨List.nodup_cons.mpr ⟨fun hm => ?_, h1⟩, fun p hp => ?_⟩
      · obtain ⟨p, hp, e⟩ := List.mem_map.mp hm
        have := h2 p hp
        have e : p.1 = j := e
        omega
      · rcases List.mem_cons.mp hp with rfl | hp
        · exact Nat.le_refl _
        · exact Nat.le_of_succ_le (h2 p hp)
    | _ => exact ⟨h1, fun p hp => Nat.le_of_succ_le (h2 p hp)⟩
theorem outs_env {K : PySem.W.Frag} {F : PS_} {H : Hp} {σ : L2.St} {outs : List (Nat × Option D)} {vs : List V} {fo : Nat → PS_}
    (ho : ∀ j d, outs.lookup j = some (some d) → ∃ v, vs[j]? = some v ∧ Rep K fns F H d v (fo j)) (sep : ∀ i j a, fo i a → fo j a → i = j) (own : OwnS F H (UU fo)) :
    ∀ (ios : List (Nat × Nat)) (ρ : Rho) (fs : Nat → PS_), EnvR K fns F H σ ρ fs → (ios.map (·.1)).Nodup → (∀ p ∈ ios, Dj (fo p.1) (UU fs)) → (∀ p ∈ ios, ∃ v, σ[p.2]? = some (some v) ∧ vs[p.1]? = some v) →
      ∃ fs', EnvR K fns F H σ (outsE outs ios ρ) fs' ∧ ∀ a, UU fs' a → UU fs a ∨ UU fo a
  | [], ρ, fs, e, _, _, _ => ⟨fs, e, fun _ => .inl⟩
  | (j, i) :: r, ρ, fs, e, nd, dj, hv => by
    obtain ⟨n1, n2⟩ := List.nodup_cons.mp nd
    have dr : ∀ p ∈ r, Dj (fo p.1) (UU fs) := fun p hp => dj p (List.mem_cons_of_mem _ hp)
    have hr : ∀ p ∈ r, ∃ v, σ[p.2]? = some (some v) ∧ vs[p.1]? = some v := fun p hp => hv p (List.mem_cons_of_mem _ hp)
    unfold outsE
    cases q : outs.lookup j with
    | none => exact outs_env ho sep own r ρ fs e n2 dr hr
    | some o =>
      cases o with
      | none =>
        obtain ⟨fs', e', h⟩ := outs_env ho sep own r (ρ.set i none) _ (e.del i) n2 (fun p hp a z u => by
          obtain ⟨k, u⟩ := u
          by_cases hk : k = i
          · subst hk; rw [fupd_same] at u; exact u
          · rw [fupd_ne hk] at u; exact dr p hp a z ⟨k, u⟩) hr
        refine ⟨fs', e', fun a z => (h a z).imp (fun u => ?_) id⟩
        obtain ⟨k, u⟩ := u
        by_cases hk : k = i
        · subst hk; rw [fupd_same] at u; exact u.elim
        · rw [fupd_ne hk] at u; exact ⟨k, u⟩
      | some d =>
        obtain ⟨v, v1, rd⟩ := ho j d q
        obtain ⟨v', s1, s2⟩ := hv (j, i) List.mem_cons_self
        have s2 : vs[j]? = some v' := s2
        rw [v1] at s2
        cases s2
        have s1 : σ[i]? = some (some v) := s1
        have es := e.set (i := i) rd (own.sb fun a z => ⟨j, z⟩) fun k hk a z u => dj (j, i) List.mem_cons_self a z ⟨k, u⟩
        have eσ : σ.set i (some v) = σ := by
          apply List.ext_getElem?
          intro n
          rw [List.getElem?_set]
          by_cases hn : i = n
          · subst hn; rw [if_pos rfl, if_pos (List.getElem?_eq_some_iff.mp s1).1, s1]
          · rw [if_neg hn]
        rw [eσ] at es
        obtain ⟨fs', e', h⟩ := outs_env ho sep own r (ρ.set i (some d)) _ es n2 (fun p hp a z u => by
          rcases UU_fupd u with u | u
          · have hj := sep p.1 j a z u
            have hm : p.1 ∈ r.map (·.1) := List.mem_map_of_mem hp
            rw [hj] at hm
            exact n1 hm
          · exact dr p hp a z u) hr
        refine ⟨fs', e', fun a z => ?_⟩
        rcases h a z with u | u
        · exact (UU_fupd u).elim (fun z => .inr ⟨j, z⟩) .inl
        · exact .inr u
def callE (g : List D → Option (D × List (Nat × Option D))) (ios : List (Nat × Nat)) (gs : Rho → Option (List D × Rho)) : EvT := fun ρ => do
  let (ds, ρ1) ← gs ρ
  let (r, outs) ← g ds
  pure (r, outsE outs ios ρ1)
theorem call_main {K : PySem.W.Frag} {g : List D → Option (D × List (Nat × Option D))} {ios : List (Nat × Nat)} {gs : Rho → Option (List D × Rho)} {σ : L2.St} {H : Hp} {Q : VK} (nd : (ios.map (·.1)).Nodup) (h : tE K fns (callE g ios gs) σ H Q) :
    tCall (spF K fns g) [] E0 (tAio K fns gs ios) σ H Q := by
  obtain ⟨F, ρ, fs, d, ρ', w, e, q, post⟩ := h
  simp only [callE, Option.bind_eq_bind, Option.bind_eq_some_iff, Prod.exists, Option.pure_def, Option.some.injEq, Prod.mk.injEq] at q
  obtain ⟨ds, ρ1, q1, r, outs, q2, rfl, rfl⟩ := q
  refine ⟨F, ρ, fs, ds, ρ1, w, e, q1, fun F1 H1 fs1 xs P p hio => ?_⟩
  show spF K fns g (xs ++ []) H1 Q E0
  rw [List.append_nil]
  refine ⟨F1, ds, P, r, outs, p.wf, p.rep, p.own, q2, fun F2 H2 z P' fo cp => ?_⟩
  have back : ∀ a, P a ∨ H1 a = none → UU fs a ∨ H a = none := fun a h => by
    rcases h with h | h
    · exact p.new a (.inl h)
    · exact back_new p.step (fun a h => p.new a (.inr h)) (.inr h)
  have nofs : ∀ a, P a ∨ H1 a = none → ¬ UU fs1 a := fun a h u => by
    rcases h with h | h
    · exact p.dj a h u
    · obtain ⟨_, o, eo, _⟩ := p.env.own a u; rw [eo] at h; cases h
  obtain ⟨fs2, e2, h2⟩ := outs_env cp.outs cp.sep cp.ownO ios ρ1 fs1 (p.env.step cp.step p.own fun a u v => p.dj a v u) nd (fun q hq a z u => nofs a (cp.new a (.inr ⟨_, z⟩)) u) hio
  refine post _ _ fs2 _ _ ⟨p.step.trans cp.step fun c h => p.new c (.inl h), cp.wf, e2, cp.rep, cp.own, fun a z u => ?_, fun a z => ?_⟩
  · rcases h2 a u with u | u
    · exact nofs a (cp.new a (.inl z)) u
    · exact cp.dj a z u
  · rcases z with z | z
    · exact back a (cp.new a (.inl z))
    · rcases h2 a z with z | z
      · exact p.new a (.inr z)
      · exact back a (cp.new a (.inr z))
theorem s_call (G : GX fns T C N sc fnp X) {f : Nat} {x : Str} {e : E} {es : Es} {gs : Rho → Option (List D × Rho)} {pn p : Pos} (hx : glbB sc x = true) (hf : T.fn[f]? = some x) (h : PA X (e.ast :: es.ast) (tAio X.K fns gs (iosOf 0 (.cons e es)))) :
    PE X (.Call (.Name x pn) (e.ast :: es.ast) [] p) (tE X.K fns (callE (C f) (iosOf 0 (.cons e es)) gs)) := by
  obtain ⟨hdb, a, fd, ps, k, h1, h2, h3, h4, h5, h6, _⟩ := G.fn f x hf
  exact PE.imp (pe_callG (E := L2.E0) h6 G.gd h5 (G.gl hx) h2 h3 h4 h hdb (star_ok _ _ e) (plain_ok _ _ es)) fun σ H Q q => call_main (iosOf_nodup (Es.cons e es) 0).1 q
theorem s_call0 (G : GX fns T C N sc fnp X) {f : Nat} {x : Str} {pn p : Pos} (hx : glbB sc x = true) (hf : T.fn[f]? = some x) :
    PE X (.Call (.Name x pn) [] [] p) (tE X.K fns (callE (C f) [] fun ρ => some ([], ρ))) := by
  obtain ⟨hdb, a, fd, ps, k, h1, h2, h3, h4, h5, h6, _⟩ := G.fn f x hf
  refine PE.imp (pe_call0G (E := L2.E0) h6 G.gd h5 (G.gl hx) h2 h3 h4 hdb) fun σ H Q q => ?_
  obtain ⟨F, ρ, fs, ds, ρ', w, e, q1, post⟩ := call_main (ios := []) .nil q
  cases q1
  exact post _ _ _ _ _ (.nil w e) fun _ z => nomatch z
end
end VK

set_option Elab.async false
set_option linter.all false
set_option maxRecDepth 100000
namespace VK
open PySem PySem.Spec PyProof.Rows L2
section
variable {K : PySem.W.Frag} {fns : List Addr} {F F1 F2 P Q : PS_} {H H1 H2 : Hp} {σ : L2.St} {ρ1 ρ2 : Rho} {fs fs1 fs2 : Nat → PS_} {ds es : List D} {xs ys : List V}
theorem APost.append (p : APost K fns F H fs F1 H1 fs1 σ ρ1 ds xs P) (q : APost K fns F1 H1 fs1 F2 H2 fs2 σ ρ2 es ys Q) : APost K fns F H fs F2 H2 fs2 σ ρ2 (ds ++ es) (xs ++ ys) (Un2 P Q) := by
  have out : ∀ a, P a → ¬ (UU fs1 a ∨ H1 a = none) := fun a z u => by
    rcases u with u | u
    · exact p.dj a z u
    · obtain ⟨_, o, e, _⟩ := p.own a z; rw [e] at u; cases u
  refine ⟨p.step.trans q.step fun c h => p.new c (.inr h), q.wf, q.env, (q.step.repL p.env.own (fun a h u => p.dj a h u) p.rep).append q.rep fun a z u => out a z (q.new a (.inl u)), (q.step.own (fun a h u => p.dj a h u) p.own).un q.own, fun a z u => z.elim (fun z => out a z (q.new a (.inr u))) fun z => q.dj a z u, fun a z => ?_⟩
  rcases z with (z | z) | z
  · exact p.new a (.inl z)
  · exact back_new p.step (fun a h => p.new a (.inr h)) (q.new a (.inl z))
  · exact back_new p.step (fun a h => p.new a (.inr h)) (q.new a (.inr z))
/-- the order does not matter -/
theorem RepL.perm {F : PS_} {H : Hp} {ws us : List (D × V)} (h : ws.Perm us) : ∀ {P : PS_}, RepL K fns F H (ws.map (·.1)) (ws.map (·.2)) P → RepL K fns F H (us.map (·.1)) (us.map (·.2)) P := by
  induction h with
  | nil => exact fun h => h
  | cons x _ ih =>
    rintro P ⟨v, r, P1, P2, e, s1, s2, dj, h1, h2⟩
    cases e
    exact ⟨_, _, P1, P2, rfl, s1, s2, dj, h1, ih h2⟩
  | swap x y l =>
    rintro P ⟨v, r, P1, P2, e, s1, s2, dj, h1, v', r', P3, P4, e', s3, s4, dj', h3, h4⟩
    cases e
    cases e'
    exact ⟨_, _, P3, Un2 P1 P4, rfl, fun a z => s2 a (s3 a z), fun a z => z.elim (s1 a) fun z => s2 a (s4 a z), fun a z u => u.elim (fun u => dj a u (s3 a z)) (dj' a z), h3, _, _, P1, P4, rfl, fun _ => .inl, fun _ => .inr, fun a z u => dj a z (s4 a u), h1, h4⟩
  | trans _ _ i1 i2 => exact fun h => i2 (i1 h)
theorem perm_zip {α β : Type} (a0 : α) (b0 : β) (as : List α) (bs : List β) (hl : as.length = bs.length) (q : List Nat) (h : q.Perm (List.range as.length)) :
    ∃ us : List (α × β), (as.zip bs).Perm us ∧ us.map (·.1) = q.map (fun i => as.getD i a0) ∧ us.map (·.2) = q.map (fun i => bs.getD i b0) := by
  refine ⟨q.map fun i => (as.getD i a0, bs.getD i b0), ?_, by rw [List.map_map]; rfl, by rw [List.map_map]; rfl⟩
  have e : as.zip bs = (List.range as.length).map fun i => (as.getD i a0, bs.getD i b0) := by
    apply List.ext_getElem
    · rw [List.length_zip, List.length_map, List.length_range, ← hl, Nat.min_self]
    · intro i h1 h2
      have hi : i < as.length := by rw [List.length_zip, ← hl, Nat.min_self] at h1; exact h1
      rw [List.getElem_zip, List.getElem_map, List.getElem_range, List.getD_eq_getElem?_getD, List.getD_eq_getElem?_getD, List.getElem?_eq_getElem hi, List.getElem?_eq_getElem (hl ▸ hi)]
      rfl
  rw [e]
  exact (h.map _).symm
theorem RepL.permute {q : List Nat} (h : RepL K fns F H ds xs P) (hq : q.Perm (List.range ds.length)) : RepL K fns F H (permD q ds) (permV q xs) P := by
  obtain ⟨us, h1, h2, h3⟩ := perm_zip D.non V.non ds xs h.len.symm q hq
  have e1 : (ds.zip xs).map (·.1) = ds := List.map_fst_zip (by rw [h.len]; exact Nat.le_refl _)
  have e2 : (ds.zip xs).map (·.2) = xs := List.map_snd_zip (by rw [h.len]; exact Nat.le_refl _)
  have := RepL.perm h1 (P := P) (by rw [e1, e2]; exact h)
  rw [h2, h3] at this
  exact this
theorem vals_permute {q : List Nat} {vs : List V} {us : List Value} (h : Vals vs us) : Vals (permV q vs) (permVs q us) := by
  induction q with
  | nil => exact .nil
  | cons i q ih =>
    refine .cons ?_ ih
    show L2.RelV (vs.getD i V.non) (us.getD i Value.none)
    rw [List.getD_eq_getElem?_getD, List.getD_eq_getElem?_getD]
    cases e : vs[i]? with
    | none =>
      have : us[i]? = none := by
        rw [List.getElem?_eq_none_iff] at e ⊢
        rw [← h.length]; exact e
      rw [this]; exact (rfl : L2.RelV V.non Value.none)
    | some v =>
      obtain ⟨u, hu, r⟩ := h.get e
      rw [hu]; exact r
end
section
variable {X : Cx} {fns : List Addr} {T : Tab} {C : CallF} {N : List Str} {sc : Scope} {fnp : Str → Bool}
theorem kw_facts (env : PySem.Env) (pos : Pos) : ∀ (ks : List (Str × Pos)) (es : List Expr), ks.length = es.length → (backToKw pos (keywordEach (kwAst ks es) env)).all (·.1.isSome) = true ∧ (backToKw pos (keywordEach (kwAst ks es) env)).filterMap (·.1) = ks.map (·.1) ∧ (backToKw pos (keywordEach (kwAst ks es) env)).any (·.1.isNone) = false
  | [], [], _ => ⟨rfl, rfl, rfl⟩
  | [], _ :: _, h => nomatch h
  | _ :: _, [], h => nomatch h
  | (n, q) :: ks, e :: es, h => by
    obtain ⟨h1, h2, h3⟩ := kw_facts env pos ks es (by simpa using h)
    refine ⟨?_, ?_, ?_⟩
    · show (true && _) = true
      rw [Bool.true_and]; exact h1
    · show n :: _ = n :: _
      rw [← h2]; rfl
    · show (false || _) = false
      rw [Bool.false_or]; exact h3
theorem PK.imp {kws : List Keyword} {t u : TA} (h : PK X kws t) (i : ∀ σ H Q, u σ H Q → t σ H Q) : PK X kws u := ⟨fun pos pins s σ H Q I q => h.run pos pins s σ H Q I (i σ H Q q)⟩
/-- the keywords' values, from those of a plain row -/
inductive PKs (X : Cx) : List Expr → TA → Prop
  | nil : PKs X [] tNil
  | cons {e : Expr} {es : List Expr} {te : TE} {t : TA} : PE X e te → PKs X es t → PKs X (e :: es) (tCons te t)
theorem PKs.kw : ∀ {es : List Expr} {t : TA} (ks : List (Str × Pos)), ks.length = es.length → PKs X es t → PK X (kwAst ks es) t
  | _, _, [], h, .nil => pk_nil
  | _, _, _ :: _, h, .nil => nomatch h
  | _, _, [], h, .cons _ _ => nomatch h
  | _, _, (n, q) :: ks, h, .cons he hr => pk_cons he (PKs.kw ks (by simpa using h) hr)
def tCallQ (sp : Sp) (q : List Nat) (n m : Nat) (E : XK) (t tk : TA) : TE := fun σ H Q => t σ H fun vs H1 => tk σ H1 fun zs H2 => vs.length = n ∧ zs.length = m ∧ sp (permV q (vs ++ zs)) H2 Q E
theorem pe_callQ {k : Nat} {f : Addr} {fd : FuncData} {ps : List Str} {sp : Sp} {E : XK} {x : Str} {p pos : Pos} {es : Es} {kes : List Expr} {ks : List (Str × Pos)} {q : List Nat} {t tk : TA} (F : FnOkG X.prog X.w X.K X.mg X.base k f fd ps sp) (hgd : X.A.guards = some []) (hr : Room k X.A) (hg : Gl X x) (hm : X.mg x = some (.ref f)) (hk : PySem.W.keepIn X.K (.ref f) = true)
    (hb : ∀ us ws : List Value, us.length = es.ast.length → ws.length = ks.length → bindArgs fd ⟨us, (ks.map (·.1)).zip ws⟩ = pure (ps.zip (permVs q (us ++ ws)))) (hl : ks.length = kes.length) (h0 : es = .nil → ∀ σ H Q, t σ H Q → Q [] H) (ha : PA X es.ast t) (hkw : PK X (kwAst ks kes) tk) (hdb : (x == ("__debug__" : Str)) = false) :
    PE X (.Call (.Name x p) es.ast (kwAst ks kes) pos) (tCallQ sp q es.ast.length ks.length E t tk) := by
  obtain ⟨k1, k2, k3⟩ := kw_facts X.env pos ks kes hl
  refine ⟨fun pins s σ H Q I h => wpAny_Call_Name_kw (ld_glob I hg hm ?_ hdb)⟩
  have fin : ∀ {s1 : Shared} {H1 : Hp} {us : List Value} {vs : List V}, Inv X pins σ H1 s1 → Vals vs us → tk σ H1 (fun zs H2 => vs.length = es.ast.length ∧ zs.length = ks.length ∧ sp (permV q (vs ++ zs)) H2 Q E) →
      wpAny (model X.prog X.w) X.A (evalAll ((backToKw pos (keywordEach (kwAst ks kes) X.env)).map (·.2))) (fun ws s2 => X.K.In s2.heap ∧ wpAny (model X.prog X.w) X.A (call (.ref f) us (((backToKw pos (keywordEach (kwAst ks kes) X.env)).filterMap (·.1)).zip ws)) (EP X pins σ Q) X.xe s2) X.xe s1 := fun {s1 H1 us vs} I1 r q1 =>
    thn (hkw.run pos pins s1 σ H1 _ I1 q1) fun ws s2 ⟨zs, H2, I2, rz, l1, l2, q2⟩ => ⟨I2.kIn, by
      rw [k2]
      exact run_g F hgd hr I2 (.of_eq (hb us ws (r.length.symm.trans l1) (rz.length.symm.trans l2))) (vals_permute (r.append rz)) q2⟩
  cases es with
  | nil =>
    exact PySem.W.callWith_KW0 (h₀ := X.base) I.ok.mod.kin hk k1 (fin I .nil (h0 rfl _ _ _ h)) k3
  | cons e es =>
    exact PySem.W.callWith_KW (h₀ := X.base) I.ok.mod.kin hk k1 (thn (ha.run pos pins s σ H _ I h) fun us s1 ⟨vs, H1, I1, r, q1⟩ => fin I1 r q1) (by rw [k3, Bool.or_false]; exact plain_ok _ _ (.cons e es)) (star_ok _ _ e)

def callQE (g : List D → Option (D × List (Nat × Option D))) (q : List Nat) (gs gk : Rho → Option (List D × Rho)) : EvT := fun ρ => do
  let (ds, ρ1) ← gs ρ
  let (zs, ρ2) ← gk ρ1
  let (r, _) ← g (permD q (ds ++ zs))
  pure (r, ρ2)
theorem s_callQ (G : GX fns T C N sc fnp X) {f : Nat} {x : Str} {es kes : Es} {ks : List (Str × Pos)} {q : List Nat} {gs gk : Rho → Option (List D × Rho)} {tk : TA} {pn p : Pos} (hx : glbB sc x = true) (hf : T.fn[f]? = some x) (hkw : (f, es.ast.length, ks.map (·.1), q) ∈ T.kw) (hl : ks.length = kes.ast.length) (hq : q.Perm (List.range (es.ast.length + kes.ast.length)))
    (hg : ∀ ρ ds ρ', gs ρ = some (ds, ρ') → ds.length = es.ast.length) (h0 : es = .nil → gs = fun ρ => some ([], ρ)) (hz : ∀ ρ ds ρ', gk ρ = some (ds, ρ') → ds.length = kes.ast.length) (h : PA X es.ast (tA X.K fns gs)) (hk : PKs X kes.ast tk) (hkk : ∀ σ H Q, tA X.K fns gk σ H Q → tk σ H Q) :
    PE X (.Call (.Name x pn) es.ast (kwAst ks kes.ast) p) (tE X.K fns (callQE (C f) q gs gk)) := by
  obtain ⟨hdb, a, fd, ps, k, h1, h2, h3, h4, h5, h6, h7⟩ := G.fn f x hf
  refine PE.imp (pe_callQ (E := L2.E0) (q := q) h6 G.gd h5 (G.gl hx) h2 h3 (fun us ws e1 e2 => h7 _ _ _ hkw us ws e1 (by rw [List.length_map]; exact e2)) hl (fun e σ H Q h => ?_) h (PKs.kw ks hl hk) hdb) fun σ H Q hq' => ?_
  · obtain ⟨F, ρ, fs, ds, ρ', w, en, q, post⟩ := h
    rw [h0 e] at q
    cases q
    exact post _ _ _ _ _ (.nil w en)
  · obtain ⟨F, ρ, fs, d, ρ', w, e, q1, post⟩ := hq'
    simp only [callQE, Option.bind_eq_bind, Option.bind_eq_some_iff, Prod.exists, Option.pure_def, Option.some.injEq, Prod.mk.injEq] at q1
    obtain ⟨ds, ρ1, q2, zs, ρ2, q3, r, outs, q4, rfl, rfl⟩ := q1
    refine ⟨F, ρ, fs, ds, ρ1, w, e, q2, fun F1 H1 fs1 xs P p1 => hkk _ _ _ ⟨F1, ρ1, fs1, zs, ρ2, p1.wf, p1.env, q3, fun F2 H2 fs2 ys Q2 p2 => ?_⟩⟩
    have e1 := hg _ _ _ q2
    have e2 := hz _ _ _ q3
    have p := p1.append p2
    refine ⟨by rw [p1.rep.len, e1], by rw [p2.rep.len, e2, hl], F2, permD q (ds ++ zs), _, r, outs, p.wf, p.rep.permute (by rw [List.length_append, e1, e2]; exact hq), p.own, q4, fun F' H' z P' fo c => ?_⟩
    exact post _ _ _ _ _ (p.fin ⟨c.step, c.wf, c.rep, c.own, fun a z => c.new a (.inl z)⟩)
end
end VK

set_option Elab.async false
set_option linter.all false
set_option maxRecDepth 100000
namespace VK
open PySem PySem.Spec PyProof.Rows L2 RZ
section
variable {X : Cx} {fns : List Addr} {T : Tab} {C : CallF} {N : List Str} {sc : Scope} {fnp : Str → Bool}
/-! ### isinstance -/
def tyN : D → String
  | .non => "NoneType" | .bl _ => "bool" | .int _ => "int" | .str _ => "str" | .lst _ _ => "list" | .tup _ => "tuple" | .dct _ _ => "dict" | .fn _ => "function"
theorem rep_ty {K : PySem.W.Frag} {F P : PS_} {H : Hp} {d : D} {x : V} (r : Rep K fns F H d x P) (h : ∀ i, d ≠ .fn i) : TyX K H x (.type (tyN d)) := by
  cases d with
  | non => cases (show x = _ from r); exact .base .non
  | bl b => cases (show x = _ from r); exact .base (.bl b)
  | int i => cases (show x = _ from r); exact .base (.int i)
  | str z => cases (show x = _ from r); exact .base (.str z)
  | fn i => exact absurd rfl (h i)
  | lst o ds =>
    obtain ⟨a, vs, rfl, h1, h2⟩ := r.list
    rcases h1 with (h1 | ⟨ob, h1⟩) | ⟨ob, its, n, h1, h2, _⟩
    · exact .base (.lst h1)
    · exact .base (.frz h1)
    · exact .kList h1 h2
  | tup ds =>
    obtain ⟨a, vs, rfl, h1, h2⟩ := r.tupl
    rcases h1 with (h1 | ⟨ob, h1⟩) | ⟨ob, its, n, h1, h2, _⟩
    · exact .base (.tup h1)
    · exact .fTuple h1
    · exact .kTuple h1 h2
  | dct o ds =>
    obtain ⟨a, kw, rfl, h1, h2, _⟩ := dct_rd r
    rcases h1 with h1 | ⟨ob, h1⟩
    · exact .base (.dK h1)
    · exact .fDict h1
theorem ty_fn {t : Ty} {d : D} {b : Bool} (h : tyB t d = some b) : ∀ i, d ≠ .fn i := by
  rintro i rfl
  cases t <;> cases h
theorem kit_d {K : PySem.W.Frag} {t : Ty} {d : D} {b : Bool} (h : tyB t d = some b) : PySem.W.kitOne K (.type (tyN d)) (.type t.id) = some b := by
  apply kit_ty
  cases d <;> cases t <;> first | (cases h; done) | (cases h; simp only [tyN, Ty.id]; decide +kernel)
theorem ty_in (t : Ty) : t.nm ∈ bltNames := by cases t <;> decide +kernel
theorem ty_boot (t : Ty) : bootBuiltins t.nm = some (.type t.id) := by cases t <;> decide +kernel
theorem ty_ne (t : Ty) : t.nm ≠ "__name__" := by cases t <;> decide
theorem ty_nd (t : Ty) : (t.nm == ("__debug__" : Str)) = false := by cases t <;> decide
theorem pe_ty (G : GX fns T C N sc fnp X) {t : Ty} {p : Pos} (h : glbB sc t.nm = true) : PE X (t.ast p) (tC (.ty t.id)) := pe_bltn (G.gl h) (G.blt _ (ty_in t)) (ty_boot t) rfl (ty_ne t) (ty_nd t)
theorem VPost.grow {K : PySem.W.Frag} {F P : PS_} {H : Hp} {p : Addr} {o : HO} {d : D} {z : V} (w : WfF F H) (np : H p = none) (r : Rep K fns F (upd H p o) d z Emp) : VPost K fns F H P F (upd H p o) d z Emp :=
  ⟨⟨Sb.rfl, fun a u e _ => upd_keep np e, fun a f => .inl f⟩, fun a f => by obtain ⟨u, e⟩ := w a f; exact ⟨u, upd_keep np e⟩, r, OwnS.emp, fun _ z => z.elim⟩
theorem s_isi (G : GX fns T C N sc fnp X) {a : E} {t : TyE} {ga : EvT} {pn p : Pos} (hi : glbB sc "isinstance" = true) (ht : t.tys.all (glbB sc) = true) (ha : PE X a.ast (tE X.K fns ga)) :
    PE X (.Call (.Name "isinstance" pn) [a.ast, t.ast] [] p) (tE X.K fns (opE1 (fun d => (tyE t d).map .bl) ga)) := by
  have hm : X.mg "isinstance" = none := G.blt _ (by decide +kernel)
  cases t with
  | one t pt =>
    have ht : glbB sc t.nm = true := by simpa [TyE.tys] using ht
    refine PE.imp (pe_callB call_isi (G.gl hi) hm PyProof.Rows.boot_isinstance (pa_cons ha (pa_cons (pe_ty G ht) pa_nil rfl) (star_ok _ _ a)) (he := star_ok _ _ a)) fun σ H Q q => ?_
    obtain ⟨F, ρ, fs, d, ρ', w, e, q, post⟩ := tE_op1 q
    refine ⟨F, ρ, fs, d, ρ', w, e, q, fun F' H' fs' x P p => ?_⟩
    obtain ⟨F1, d1, P1, R, w1, r1, o1, ef, post1⟩ := post _ _ _ _ _ p
    obtain ⟨b, hb, rfl⟩ := Option.map_eq_some_iff.mp ef
    exact ⟨x, .ty t.id, _, _, b, rfl, .ty _, rep_ty r1 (ty_fn hb), kit_d hb, post1 _ _ _ _ (.flat w1 rfl)⟩
  | two t u pt pu k pp =>
    have ht : glbB sc t.nm = true ∧ glbB sc u.nm = true := by simpa [TyE.tys] using ht
    refine PE.imp (pe_callB call_isiT (G.gl hi) hm PyProof.Rows.boot_isinstance (pa_cons ha (pa_cons (pe_tup (pa_cons (pe_ty G ht.1) (pa_cons (pe_ty G ht.2) pa_nil rfl) rfl)) pa_nil rfl) (star_ok _ _ a)) (he := star_ok _ _ a)) fun σ H Q q => ?_
    obtain ⟨F, ρ, fs, d, ρ', w, e, q, post⟩ := tE_op1 q
    refine ⟨F, ρ, fs, d, ρ', w, e, q, fun F' H' fs' x P p => ?_⟩
    obtain ⟨F1, d1, P1, R, w1, r1, o1, ef, post1⟩ := post _ _ _ _ _ p
    obtain ⟨b, hb, rfl⟩ := Option.map_eq_some_iff.mp ef
    have hb : (match tyB t d1, tyB u d1 with
      | some a, some b => some (a || b)
      | _, _ => none) = some b := hb
    refine ⟨by show 2 ≤ sizeLine; decide, fun q nq => ?_⟩
    have r2 : Rep X.K fns F1 (upd H' q (.tup [.ty t.id, .ty u.id])) d1 x P1 := r1.upd nq Sb.rfl
    split at hb
    · rename_i b1 b2 h1 h2
      cases hb
      exact ⟨x, q, _, _, [.type t.id, .type u.id], _, rfl, upd_same, .cons (.ty _) (.cons (.ty _) .nil), rep_ty r2 (ty_fn h1), kitAny_cons (kit_d h1) (fun e => by rw [e]; exact kitAny_cons (kit_d h2) (fun e => by rw [e]; exact kitAny_nil) fun e => by rw [e]; rfl) fun e => by rw [e]; rfl, post1 _ _ _ _ (.grow w1 nq rfl)⟩
    · cases hb
/-! ### what a loop walks -/
structure Drv (K : PySem.W.Frag) (fns : List Addr) (J : L2.It) (ok : PS_ → Hp → Prop) (ds : List D) : Prop where
  stop : ∀ i F H, ok F H → ds.length ≤ i → J.stop i H
  go : ∀ i d F H, WfF F H → ok F H → ds[i]? = some d → J.go i H ∧ ∀ x H', J.yld i H x H' → ∃ F', Step Emp F F' H H' ∧ WfF F' H' ∧ Rep K fns F' H' d x Emp
  stay : ∀ F H F' H' Q, ok F H → Step Q F F' H H' → OwnS F H Q → ok F' H'
structure IPost (K : PySem.W.Frag) (fns : List Addr) (F : PS_) (H : Hp) (fs : Nat → PS_) (F' : PS_) (H' : Hp) (fs' : Nat → PS_) (σ : L2.St) (ρ' : Rho) (ds : List D) (J : L2.It) : Prop where
  post : EPost K fns F H fs F' H' fs' σ ρ' .non .non Emp
  drv : ∃ ok, ok F' H' ∧ Drv K fns J ok ds
def tI (K : PySem.W.Frag) (fns : List Addr) (g : Rho → Option (List D × Rho)) : TI := fun σ H R => ∃ F ρ fs ds ρ', WfF F H ∧ EnvR K fns F H σ ρ fs ∧ g ρ = some (ds, ρ') ∧ ∀ F' H' fs' J, IPost K fns F H fs F' H' fs' σ ρ' ds J → R J H'
theorem PI.imp {tg e : Expr} {t u : TI} (h : PI X tg e t) (i : ∀ σ H R, u σ H R → t σ H R) : PI X tg e u := ⟨fun pins s σ H R I q => h.run pins s σ H R I (i σ H R q)⟩
section
variable {K : PySem.W.Frag} {F F' F1 F2 P Q : PS_} {H H' H1 H2 : Hp} {σ : L2.St} {ρ ρ' ρ1 : Rho} {fs fs' fs1 : Nat → PS_} {d : D} {x : V} {ds : List D}
/-- what we hold is frozen -/
theorem EPost.frz (p : EPost K fns F H fs F1 H1 fs1 σ ρ1 d x P) : EPost K fns F H fs (fun a => F1 a ∨ P a) H1 fs1 σ ρ1 (frz d) x Emp := by
  refine ⟨⟨fun a f => .inl (p.step.ff a f), p.step.keep, fun a f => ?_⟩, fun a f => ?_, ⟨p.env.len, fun i d h => ?_, p.env.sep, fun a z => ?_⟩, Rep.freeze (fun _ => .inl) d x _ (fun _ => .inr) p.rep, OwnS.emp, fun _ z => z.elim, fun a z => p.new a (z.imp False.elim id)⟩
  · rcases f with f | f
    · exact p.step.new a f
    · exact .inr (p.new a (.inl f))
  · rcases f with f | f
    · exact p.wf a f
    · obtain ⟨_, o, e, _⟩ := p.own a f; exact ⟨o, e⟩
  · obtain ⟨v, h1, h2⟩ := p.env.rep i d h
    exact ⟨v, h1, Rep.frame (fun _ => .inl) d v _ (fun _ _ h _ => h) h2⟩
  · obtain ⟨nf, o, e, i⟩ := p.env.own a z
    exact ⟨fun f => f.elim nf fun f => p.dj a f z, o, e, i⟩
/-- what is known of frozen data stays -/
theorem stay_rep (r : Rep K fns F H d x Emp) (s : Step Q F F' H H') (o : OwnS F H Q) : Rep K fns F' H' d x Emp := s.rep o (fun _ z => z.elim) r
theorem frzL_get : ∀ {ds : List D} {i : Nat} {d : D}, (frzL ds)[i]? = some d → ∃ e, ds[i]? = some e ∧ d = frz e
  | [], i, d, h => by simp [frzL] at h
  | e :: ds, 0, d, h => by simp [frzL] at h; exact ⟨e, rfl, h.symm⟩
  | e :: ds, i + 1, d, h => by
    obtain ⟨e', h1, h2⟩ := frzL_get (ds := ds) (i := i) (by simpa [frzL] using h)
    exact ⟨e', by simpa using h1, h2⟩
theorem frzL_len : ∀ ds : List D, (frzL ds).length = ds.length
  | [] => rfl
  | d :: ds => by simp [frzL, frzL_len ds]
theorem drv_list {a : Addr} {o : Ow} : Drv K fns (Itl K a) (fun F H => Rep K fns F H (.lst o ds) (.ref a) Emp) ds where
  stop := fun i F H h hl => by
    obtain ⟨b, vs, e, h1, h2⟩ := h.list
    cases e
    exact ⟨vs, h1, by rw [h2.len]; exact hl⟩
  go := fun i d F H w h hd => by
    obtain ⟨b, vs, e, h1, h2⟩ := h.list
    cases e
    obtain ⟨v, hv, r⟩ := h2.get hd
    refine ⟨⟨vs, v, h1, hv⟩, fun x H' y => ?_⟩
    obtain ⟨rfl, y⟩ := y
    rw [y vs h1] at hv
    cases hv
    exact ⟨F, Step.refl, w, r⟩
  stay := fun F H F' H' Q h s o => stay_rep h s o
theorem drv_tup {a : Addr} : Drv K fns (Itt K a) (fun F H => Rep K fns F H (.tup ds) (.ref a) Emp) ds where
  stop := fun i F H h hl => by
    obtain ⟨b, vs, e, h1, h2⟩ := h.tupl
    cases e
    exact ⟨vs, h1, by rw [h2.len]; exact hl⟩
  go := fun i d F H w h hd => by
    obtain ⟨b, vs, e, h1, h2⟩ := h.tupl
    cases e
    obtain ⟨v, hv, r⟩ := h2.get hd
    refine ⟨⟨vs, v, h1, hv⟩, fun x H' y => ?_⟩
    obtain ⟨rfl, y⟩ := y
    rw [y vs h1] at hv
    cases hv
    exact ⟨F, Step.refl, w, r⟩
  stay := fun F H F' H' Q h s o => stay_rep h s o
/-- a new tuple of frozen things -/
theorem new_tup {F : PS_} {H : Hp} {T : Addr} {ds : List D} {vs : List V} (w : WfF F H) (nT : H T = none) (r : RepL K fns F H ds vs Emp) : ∃ F', Step Emp F F' H (upd H T (.tup vs)) ∧ WfF F' (upd H T (.tup vs)) ∧ Rep K fns F' (upd H T (.tup vs)) (.tup ds) (.ref T) Emp := by
  have v := VPost.newTup (P := Emp) w nT OwnS.emp r
  exact ⟨_, v.step, v.wf, v.rep⟩
theorem RepL.two {d e : D} {x y : V} (h1 : Rep K fns F H d x Emp) (h2 : Rep K fns F H e y Emp) : RepL K fns F H [d, e] [x, y] Emp :=
  ⟨x, [y], Emp, Emp, rfl, Sb.rfl, Sb.rfl, fun _ z => z.elim, h1, RepL.one h2⟩
theorem zip_get {f : D → D → D} : ∀ {xs ys : List D} {i : Nat} {d : D}, (List.zipWith f xs ys)[i]? = some d → ∃ x y, xs[i]? = some x ∧ ys[i]? = some y ∧ d = f x y := by
  intro xs ys i d h
  rw [List.getElem?_zipWith] at h
  split at h
  · rename_i x y h1 h2; cases h; exact ⟨x, y, h1, h2, rfl⟩
  · cases h
theorem drv_zip {a b : Addr} {o u : Ow} {xs ys : List D} : Drv K fns (Itz K a b) (fun F H => Rep K fns F H (.lst o xs) (.ref a) Emp ∧ Rep K fns F H (.lst u ys) (.ref b) Emp) (List.zipWith (fun x y => .tup [x, y]) xs ys) where
  stop := fun i F H h hl => by
    obtain ⟨_, vs, e, h1, h2⟩ := h.1.list
    cases e
    obtain ⟨_, ws, e, h3, h4⟩ := h.2.list
    cases e
    refine ⟨vs, ws, h1, h3, ?_⟩
    rw [List.length_zipWith] at hl
    rw [h2.len, h4.len]
    omega
  go := fun i d F H w h hd => by
    obtain ⟨_, vs, e, h1, h2⟩ := h.1.list
    cases e
    obtain ⟨_, ws, e, h3, h4⟩ := h.2.list
    cases e
    obtain ⟨dx, dy, ex, ey, rfl⟩ := zip_get hd
    obtain ⟨v, hv, rv⟩ := h2.get ex
    obtain ⟨z, hz, rz⟩ := h4.get ey
    refine ⟨⟨vs, ws, v, z, h1, h3, hv, hz⟩, fun x H' y => ?_⟩
    obtain ⟨T, x', y', rfl, nT, rfl, f1, f2⟩ := y
    rw [f1 vs h1] at hv
    rw [f2 ws h3] at hz
    cases hv; cases hz
    exact new_tup w nT (.two rv rz)
  stay := fun F H F' H' Q h s o => ⟨stay_rep h.1 s o, stay_rep h.2 s o⟩
theorem drv_zipT {a b : Addr} {xs ys : List D} : Drv K fns (ItzT K a b) (fun F H => Rep K fns F H (.tup xs) (.ref a) Emp ∧ Rep K fns F H (.tup ys) (.ref b) Emp) (List.zipWith (fun x y => .tup [x, y]) xs ys) where
  stop := fun i F H h hl => by
    obtain ⟨_, vs, e, h1, h2⟩ := h.1.tupl
    cases e
    obtain ⟨_, ws, e, h3, h4⟩ := h.2.tupl
    cases e
    refine ⟨vs, ws, h1, h3, ?_⟩
    rw [List.length_zipWith] at hl
    rw [h2.len, h4.len]
    omega
  go := fun i d F H w h hd => by
    obtain ⟨_, vs, e, h1, h2⟩ := h.1.tupl
    cases e
    obtain ⟨_, ws, e, h3, h4⟩ := h.2.tupl
    cases e
    obtain ⟨dx, dy, ex, ey, rfl⟩ := zip_get hd
    obtain ⟨v, hv, rv⟩ := h2.get ex
    obtain ⟨z, hz, rz⟩ := h4.get ey
    refine ⟨⟨vs, ws, v, z, h1, h3, hv, hz⟩, fun x H' y => ?_⟩
    obtain ⟨T, x', y', rfl, nT, rfl, f1, f2⟩ := y
    rw [f1 vs h1] at hv
    rw [f2 ws h3] at hz
    cases hv; cases hz
    exact new_tup w nT (.two rv rz)
  stay := fun F H F' H' Q h s o => ⟨stay_rep h.1 s o, stay_rep h.2 s o⟩
theorem enumI_get : ∀ {xs : List D} {n i : Nat} {d : D}, (enumI n xs)[i]? = some d → ∃ x, xs[i]? = some x ∧ d = .tup [.int ((n + i : Nat) : Int), x]
  | [], n, i, d, h => by simp [enumI] at h
  | x :: xs, n, 0, d, h => by simp [enumI] at h; exact ⟨x, rfl, by rw [← h]; rfl⟩
  | x :: xs, n, i + 1, d, h => by
    obtain ⟨y, h1, h2⟩ := enumI_get (xs := xs) (n := n + 1) (i := i) (by simpa [enumI] using h)
    exact ⟨y, by simpa using h1, by rw [h2]; congr 3; omega⟩
theorem enumI_len : ∀ (xs : List D) (n : Nat), (enumI n xs).length = xs.length
  | [], _ => rfl
  | x :: xs, n => by simp [enumI, enumI_len xs]
theorem drv_enum {a : Addr} {o : Ow} {xs : List D} : Drv K fns (Ite K a) (fun F H => Rep K fns F H (.lst o xs) (.ref a) Emp) (enumI 0 xs) where
  stop := fun i F H h hl => by
    obtain ⟨_, vs, e, h1, h2⟩ := h.list
    cases e
    exact ⟨vs, h1, by rw [h2.len]; rwa [enumI_len] at hl⟩
  go := fun i d F H w h hd => by
    obtain ⟨_, vs, e, h1, h2⟩ := h.list
    cases e
    obtain ⟨dx, ex, rfl⟩ := enumI_get hd
    obtain ⟨v, hv, rv⟩ := h2.get ex
    refine ⟨⟨vs, v, h1, hv⟩, fun x H' y => ?_⟩
    obtain ⟨T, x', rfl, nT, rfl, f1⟩ := y
    rw [f1 vs h1] at hv
    cases hv
    rw [Nat.zero_add]
    exact new_tup w nT (.two rfl rv)
  stay := fun F H F' H' Q h s o => stay_rep h s o
theorem drv_str {z : Str} : Drv K fns (Its z) (fun _ _ => True) (z.cps.toList.map fun c => .str ⟨#[c]⟩) where
  stop := fun i F H _ hl => by
    show z.cps.size ≤ i
    simpa using hl
  go := fun i d F H w _ hd => by
    rw [List.getElem?_map] at hd
    obtain ⟨c, hc, rfl⟩ := Option.map_eq_some_iff.mp hd
    have hc' : z.cps[i]? = some c := by simpa using hc
    refine ⟨(Array.getElem?_eq_some_iff.mp hc').1, fun x H' y => ?_⟩
    obtain ⟨rfl, c', h1, rfl⟩ := y
    rw [hc'] at h1
    cases h1
    exact ⟨F, Step.refl, w, rfl⟩
  stay := fun _ _ _ _ _ _ _ _ => trivial
theorem drv_rng {lo : Int} {n : Nat} : Drv K fns (Itr lo n) (fun _ _ => True) ((List.range n).map fun (k : Nat) => .int (lo + (k : Int))) where
  stop := fun i F H _ hl => by
    show n ≤ i
    simpa using hl
  go := fun i d F H w _ hd => by
    rw [List.getElem?_map] at hd
    obtain ⟨c, hc, rfl⟩ := Option.map_eq_some_iff.mp hd
    obtain ⟨hi, hc⟩ := List.getElem?_eq_some_iff.mp hc
    rw [List.getElem_range] at hc
    subst hc
    refine ⟨(by simpa using hi : i < n), fun x H' y => ?_⟩
    obtain ⟨rfl, rfl⟩ := y
    exact ⟨F, Step.refl, w, rfl⟩
  stay := fun _ _ _ _ _ _ _ _ => trivial
end
theorem i_lst {e : Expr} {tg : Expr} {g : EvT} (h : PE X e (tE X.K fns g)) : PI X tg e (tI X.K fns fun ρ => do
    let (x, ρ1) ← g ρ
    match x with
    | .lst _ xs => some (frzL xs, ρ1)
    | _ => none) := by
  refine PI.imp (pi_list h) fun σ H R q => ?_
  obtain ⟨F, ρ, fs, ds, ρ', w, e, q, post⟩ := q
  simp only [Option.bind_eq_bind, Option.bind_eq_some_iff, Prod.exists] at q
  obtain ⟨d1, ρ1, q1, q2⟩ := q
  split at q2
  · cases q2
    refine ⟨F, ρ, fs, _, _, w, e, q1, fun F1 H1 fs1 x P p => ?_⟩
    have pf := p.frz
    have rr : Rep X.K fns _ H1 (.lst _ (frzL _)) x Emp := pf.rep
    obtain ⟨a, vs, rfl, h1, h2⟩ := rr.list
    exact ⟨a, rfl, ⟨vs, h1⟩, post _ _ _ _ ⟨pf.drop rfl, _, rr, drv_list⟩⟩
  · cases q2
theorem i_tup {e : Expr} {tg : Expr} {g : EvT} (h : PE X e (tE X.K fns g)) : PI X tg e (tI X.K fns fun ρ => do
    let (x, ρ1) ← g ρ
    match x with
    | .tup xs => some (frzL xs, ρ1)
    | _ => none) := by
  refine PI.imp (pi_tup h) fun σ H R q => ?_
  obtain ⟨F, ρ, fs, ds, ρ', w, e, q, post⟩ := q
  simp only [Option.bind_eq_bind, Option.bind_eq_some_iff, Prod.exists] at q
  obtain ⟨d1, ρ1, q1, q2⟩ := q
  split at q2
  · cases q2
    refine ⟨F, ρ, fs, _, _, w, e, q1, fun F1 H1 fs1 x P p => ?_⟩
    have pf := p.frz
    have rr : Rep X.K fns _ H1 (.tup (frzL _)) x Emp := pf.rep
    obtain ⟨a, vs, rfl, h1, h2⟩ := rr.tupl
    exact ⟨a, rfl, ⟨vs, h1⟩, post _ _ _ _ ⟨pf.drop rfl, _, rr, drv_tup⟩⟩
  · cases q2
theorem i_str {e : Expr} {tg : Expr} {g : EvT} (h : PE X e (tE X.K fns g)) : PI X tg e (tI X.K fns fun ρ => do
    let (x, ρ1) ← g ρ
    match x with
    | .str z => some (z.cps.toList.map fun c => .str ⟨#[c]⟩, ρ1)
    | _ => none) := by
  refine PI.imp (pi_str h) fun σ H R q => ?_
  obtain ⟨F, ρ, fs, ds, ρ', w, e, q, post⟩ := q
  simp only [Option.bind_eq_bind, Option.bind_eq_some_iff, Prod.exists] at q
  obtain ⟨d1, ρ1, q1, q2⟩ := q
  split at q2
  · cases q2
    refine ⟨F, ρ, fs, _, _, w, e, q1, fun F1 H1 fs1 x P p => ?_⟩
    cases (show x = _ from p.rep)
    exact ⟨_, rfl, post _ _ _ _ ⟨p.drop rfl, _, trivial, drv_str⟩⟩
  · cases q2
theorem PI.or {tg e : Expr} {t u : TI} (h : PI X tg e t) (h' : PI X tg e u) : PI X tg e (fun σ H R => t σ H R ∨ u σ H R) := ⟨fun pins s σ H R I q => q.elim (h.run pins s σ H R I) (h'.run pins s σ H R I)⟩
theorem i_any {e : Expr} {tg : Expr} {g : EvT} (h : PE X e (tE X.K fns g)) : PI X tg e (tI X.K fns fun ρ => do
    let (x, ρ1) ← g ρ
    match x with
    | .lst _ xs => some (frzL xs, ρ1)
    | .tup xs => some (frzL xs, ρ1)
    | .str z => some (z.cps.toList.map fun c => .str ⟨#[c]⟩, ρ1)
    | _ => none) := by
  refine PI.imp (PI.or (i_lst h) (PI.or (i_tup h) (i_str h))) fun σ H R q => ?_
  obtain ⟨F, ρ, fs, ds, ρ', w, e, q, post⟩ := q
  simp only [Option.bind_eq_bind, Option.bind_eq_some_iff, Prod.exists] at q
  obtain ⟨d1, ρ1, q1, q2⟩ := q
  cases d1 with
  | lst o xs => exact .inl ⟨F, ρ, fs, ds, ρ', w, e, by simp only [q1, Option.bind_eq_bind, Option.bind_some]; exact q2, post⟩
  | tup xs => exact .inr (.inl ⟨F, ρ, fs, ds, ρ', w, e, by simp only [q1, Option.bind_eq_bind, Option.bind_some]; exact q2, post⟩)
  | str z => exact .inr (.inr ⟨F, ρ, fs, ds, ρ', w, e, by simp only [q1, Option.bind_eq_bind, Option.bind_some]; exact q2, post⟩)
  | _ => cases q2
theorem i_rng1 (G : GX fns T C N sc fnp X) {a : E} {tg : Expr} {g : EvT} {pn p : Pos} (hr : glbB sc "range" = true) (h : PE X a.ast (tE X.K fns g)) : PI X tg (.Call (.Name "range" pn) [a.ast] [] p) (tI X.K fns fun ρ => do
    let (x, ρ1) ← g ρ
    match x with
    | .int j => if -(2 ^ 62) ≤ j ∧ j < 2 ^ 62 then some ((List.range j.toNat).map fun (k : Nat) => .int (k : Int), ρ1) else none
    | _ => none) := by
  refine PI.imp (pi_range1 (G.gl hr) (G.blt _ (by decide +kernel)) (pa_cons h pa_nil (star_ok _ _ a)) (star_ok _ _ a)) fun σ H R q => ?_
  obtain ⟨F, ρ, fs, ds, ρ', w, e, q, post⟩ := q
  simp only [Option.bind_eq_bind, Option.bind_eq_some_iff, Prod.exists] at q
  obtain ⟨d1, ρ1, q1, q2⟩ := q
  split at q2
  · split at q2
    · rename_i j hj
      cases q2
      refine ⟨F, ρ, fs, _, _, w, e, q1, fun F1 H1 fs1 x P p => ?_⟩
      cases (show x = _ from p.rep)
      have hd := drv_rng (K := X.K) (fns := fns) (lo := 0) (n := j.toNat)
      simp only [Int.zero_add] at hd
      exact ⟨j, rfl, hj.1, hj.2, post _ _ _ _ ⟨p.drop rfl, _, trivial, hd⟩⟩
    · cases q2
  · cases q2
theorem i_rng2 (G : GX fns T C N sc fnp X) {a b : E} {tg : Expr} {g gb : EvT} {pn p : Pos} (hr : glbB sc "range" = true) (h : PE X a.ast (tE X.K fns g)) (h2 : PE X b.ast (tE X.K fns gb)) : PI X tg (.Call (.Name "range" pn) [a.ast, b.ast] [] p) (tI X.K fns fun ρ => do
    let (x, ρ1) ← g ρ
    let (y, ρ2) ← gb ρ1
    match x, y with
    | .int i, .int j => if -(2 ^ 62) ≤ i ∧ i < 2 ^ 62 ∧ -(2 ^ 62) ≤ j ∧ j < 2 ^ 62 then some ((List.range (j - i).toNat).map fun (k : Nat) => .int (i + (k : Int)), ρ2) else none
    | _, _ => none) := by
  refine PI.imp (pi_range2 (G.gl hr) (G.blt _ (by decide +kernel)) (pa_cons h (pa_cons h2 pa_nil (star_ok _ _ b)) (star_ok _ _ a)) (by rw [star_ok, star_ok]; rfl) (star_ok _ _ b)) fun σ H R q => ?_
  obtain ⟨F, ρ, fs, ds, ρ', w, e, q, post⟩ := q
  simp only [Option.bind_eq_bind, Option.bind_eq_some_iff, Prod.exists] at q
  obtain ⟨d1, ρ1, q1, d2, ρ2, q2, q3⟩ := q
  split at q3
  · split at q3
    · rename_i i j hj
      cases q3
      refine ⟨F, ρ, fs, _, _, w, e, q1, fun F1 H1 fs1 x P p => ?_⟩
      refine ⟨F1, _, fs1, _, _, p.wf, p.env, q2, fun F2 H2 fs2 y P2 p2 => ?_⟩
      cases (show x = _ from p.rep)
      cases (show y = _ from p2.rep)
      exact ⟨i, j, rfl, hj, post _ _ _ _ ⟨(p.seq p2).drop rfl, _, trivial, drv_rng⟩⟩
    · cases q3
  · cases q3
theorem tupAst {tg : Tg} (h : tgTup tg = true) : ∃ elts k p, tg.ast = .Tuple elts k p := by
  cases tg with
  | nm t => cases h
  | tup ts k p => exact ⟨_, k, p, rfl⟩
theorem i_enum (G : GX fns T C N sc fnp X) {a : E} {tg : Tg} {g : EvT} {pn p : Pos} (hr : glbB sc "enumerate" = true) (ht : tgTup tg = true) (h : PE X a.ast (tE X.K fns g)) : PI X tg.ast (.Call (.Name "enumerate" pn) [a.ast] [] p) (tI X.K fns fun ρ => do
    let (x, ρ1) ← g ρ
    match x with
    | .lst _ xs => some (enumI 0 (frzL xs), ρ1)
    | _ => none) := by
  obtain ⟨elts, k, tp, et⟩ := tupAst ht
  rw [et]
  refine PI.imp (pi_enum (G.gl hr) (G.blt _ (by decide +kernel)) (pa_cons h pa_nil (star_ok _ _ a)) (star_ok _ _ a)) fun σ H R q => ?_
  obtain ⟨F, ρ, fs, ds, ρ', w, e, q, post⟩ := q
  simp only [Option.bind_eq_bind, Option.bind_eq_some_iff, Prod.exists] at q
  obtain ⟨d1, ρ1, q1, q2⟩ := q
  split at q2
  · cases q2
    refine ⟨F, ρ, fs, _, _, w, e, q1, fun F1 H1 fs1 x P p => ?_⟩
    have pf := p.frz
    have rr : Rep X.K fns _ H1 (.lst _ (frzL _)) x Emp := pf.rep
    obtain ⟨a, vs, rfl, h1, h2⟩ := rr.list
    exact ⟨a, vs, rfl, h1, post _ _ _ _ ⟨pf.drop rfl, _, rr, drv_enum⟩⟩
  · cases q2
theorem i_zip (G : GX fns T C N sc fnp X) {a b : E} {tg : Tg} {g gb : EvT} {pn p : Pos} (hr : glbB sc "zip" = true) (ht : tgTup tg = true) (h : PE X a.ast (tE X.K fns g)) (h2 : PE X b.ast (tE X.K fns gb)) : PI X tg.ast (.Call (.Name "zip" pn) [a.ast, b.ast] [] p) (tI X.K fns fun ρ => do
    let (x, ρ1) ← g ρ
    let (y, ρ2) ← gb ρ1
    match x, y with
    | .lst _ xs, .lst _ ys => some (List.zipWith (fun x y => .tup [x, y]) (frzL xs) (frzL ys), ρ2)
    | .tup xs, .tup ys => some (List.zipWith (fun x y => .tup [x, y]) (frzL xs) (frzL ys), ρ2)
    | _, _ => none) := by
  obtain ⟨elts, k, tp, et⟩ := tupAst ht
  rw [et]
  refine PI.imp (pi_zipA (G.gl hr) (G.blt _ (by decide +kernel)) (pa_cons h (pa_cons h2 pa_nil (star_ok _ _ b)) (star_ok _ _ a)) (star_ok _ _ a) (plain_ok _ _ (.cons b .nil))) fun σ H R q => ?_
  obtain ⟨F, ρ, fs, ds, ρ', w, e, q, post⟩ := q
  simp only [Option.bind_eq_bind, Option.bind_eq_some_iff, Prod.exists] at q
  obtain ⟨d1, ρ1, q1, d2, ρ2, q2, q3⟩ := q
  refine ⟨F, ρ, fs, _, _, w, e, q1, fun F1 H1 fs1 x P p => ?_⟩
  have pf := p.frz
  refine ⟨_, _, fs1, _, _, pf.wf, pf.env, q2, fun F2 H2 fs2 y P2 p2 => ?_⟩
  have pf2 := p2.frz
  have rx := stay_rep pf.rep pf2.step pf.env.own
  split at q3
  · cases q3
    have rx : Rep X.K fns _ H2 (.lst _ (frzL _)) x Emp := rx
    have ry : Rep X.K fns _ H2 (.lst _ (frzL _)) y Emp := pf2.rep
    obtain ⟨a, vs, rfl, h1, h2⟩ := rx.list
    obtain ⟨b, ws, rfl, h3, h4⟩ := ry.list
    exact ⟨a, b, vs, ws, rfl, .inl ⟨h1, h3, post _ _ _ _ ⟨(pf.seq pf2).drop rfl, _, ⟨rx, ry⟩, drv_zip⟩⟩⟩
  · cases q3
    have rx : Rep X.K fns _ H2 (.tup (frzL _)) x Emp := rx
    have ry : Rep X.K fns _ H2 (.tup (frzL _)) y Emp := pf2.rep
    obtain ⟨a, vs, rfl, h1, h2⟩ := rx.tupl
    obtain ⟨b, ws, rfl, h3, h4⟩ := ry.tupl
    exact ⟨a, b, vs, ws, rfl, .inr ⟨h1, h3, post _ _ _ _ ⟨(pf.seq pf2).drop rfl, _, ⟨rx, ry⟩, drv_zipT⟩⟩⟩
  · cases q3
end
end VK

set_option Elab.async false
set_option linter.all false
set_option maxRecDepth 100000
namespace VK
open PySem PySem.Spec PyProof.Rows L2
section
variable {X : Cx} {fns : List Addr} {T : Tab} {C : CallF} {N : List Str} {sc : Scope} {fnp : Str → Bool}
/-! ### targets -/
def tG (K : PySem.W.Frag) (fns : List Addr) (tg : Tg) : TG := fun v σ H Q => ∃ F d P ρ fs ρ', WfF F H ∧ EnvR K fns F H σ ρ fs ∧ Rep K fns F H d v P ∧ OwnS F H P ∧ Dj P (UU fs) ∧ setT tg d ρ = some ρ' ∧
  ∀ σ' fs', EnvR K fns F H σ' ρ' fs' → (∀ a, UU fs' a → UU fs a ∨ P a) → (∀ i, i ∉ tgSlots tg → σ'[i]? = σ[i]?) → σ'.length = σ.length → Q σ' H
def tGs (K : PySem.W.Frag) (fns : List Addr) (ts : List TgN) : TGs := fun vs σ H Q => ∃ F ds P ρ fs ρ', WfF F H ∧ EnvR K fns F H σ ρ fs ∧ RepL K fns F H ds vs P ∧ OwnS F H P ∧ Dj P (UU fs) ∧ setsE ts ds ρ = some ρ' ∧
  ∀ σ' fs', EnvR K fns F H σ' ρ' fs' → (∀ a, UU fs' a → UU fs a ∨ P a) → (∀ i, i ∉ ts.map (·.i) → σ'[i]? = σ[i]?) → σ'.length = σ.length → Q σ' H
theorem PG.imp {tg : Expr} {t u : TG} (h : PG X tg t) (i : ∀ v σ H Q, u v σ H Q → t v σ H Q) : PG X tg u := ⟨fun pins s σ H v w Q I r q => h.run pins s σ H v w Q I r (i v σ H Q q)⟩
theorem PGs.imp {tg : List Expr} {t u : TGs} (h : PGs X tg t) (i : ∀ v σ H Q, u v σ H Q → t v σ H Q) : PGs X tg u := ⟨fun pins s σ H v w Q I r q => h.run pins s σ H v w Q I r (i v σ H Q q)⟩
theorem GX.tgn (G : GX fns T C N sc fnp X) {t : TgN} (h : tgnB N sc fnp t = true) : PG X t.ast (gName t.i) := by
  unfold tgnB at h
  simp only [Bool.and_eq_true, decide_eq_true_eq] at h
  obtain ⟨h1, h2⟩ := h
  have loc : Loc X.env.scope t.x ∧ (X.fn t.x = true ∨ X.env.scope.names.lookup t.x = some .local) := by
    rw [G.sc, G.fnp]
    split at h2
    · exact ⟨.inl ‹_›, .inr ‹_›⟩
    · exact ⟨.inr ‹_›, .inl h2⟩
    · cases h2
  exact pg_name (by rw [G.eN]; exact G.nd) (by rw [G.eN]; exact h1) loc.1 loc.2
theorem set_out {σ : L2.St} {i j : Nat} {v : Option V} (h : j ≠ i) : (σ.set i v)[j]? = σ[j]? := List.getElem?_set_ne (Ne.symm h)
theorem g_nm (G : GX fns T C N sc fnp X) {t : TgN} (h : tgnB N sc fnp t = true) : PG X t.ast (tG X.K fns (.nm t)) := by
  refine PG.imp (G.tgn h) fun v σ H Q q => ?_
  obtain ⟨F, d, P, ρ, fs, ρ', w, e, r, o, dj, q, post⟩ := q
  have q : some (ρ.set t.i (some d)) = some ρ' := q
  cases q
  exact post _ _ (e.set r o fun j _ a z u => dj a z ⟨j, u⟩) (fun a z => (UU_fupd z).symm) (fun i hi => set_out (fun e => hi (by simp [tgSlots, e]))) (by rw [List.length_set])
theorem gs_all (G : GX fns T C N sc fnp X) : ∀ ts : List TgN, ts.all (tgnB N sc fnp) = true → PGs X (ts.map TgN.ast) (tGs X.K fns ts)
  | [], _ => by
    refine PGs.imp pgs_nil fun vs σ H Q q => ?_
    obtain ⟨F, ds, P, ρ, fs, ρ', w, e, r, o, dj, q, post⟩ := q
    cases ds with
    | nil =>
      cases q
      cases (show vs = [] from r)
      exact ⟨rfl, post _ _ e (fun a z => .inl z) (fun _ _ => rfl) rfl⟩
    | cons d ds => cases q
  | t :: ts, h => by
    have h : tgnB N sc fnp t = true ∧ ts.all (tgnB N sc fnp) = true := by simpa using h
    refine PGs.imp (pgs_cons (G.tgn h.1) (gs_all G ts h.2) rfl) fun vs σ H Q q => ?_
    obtain ⟨F, ds, P, ρ, fs, ρ', w, e, r, o, dj, q, post⟩ := q
    cases ds with
    | nil => cases q
    | cons d ds =>
      obtain ⟨v, r', P1, P2, rfl, s1, s2, d12, h1, h2⟩ := r
      refine ⟨v, r', rfl, ?_⟩
      have e1 := e.set (i := t.i) h1 (o.sb s1) fun j _ a z u => dj a (s1 a z) ⟨j, u⟩
      refine ⟨F, ds, P2, _, _, ρ', w, e1, h2, o.sb s2, fun a z u => ?_, q, fun σ' fs' e' hn hs hl => post σ' fs' e' (fun a z => ?_) (fun i hi => ?_) (by rw [hl, List.length_set])⟩
      · rcases UU_fupd u with u | u
        · exact d12 a u z
        · exact dj a (s2 a z) u
      · rcases hn a z with z | z
        · rcases UU_fupd z with z | z
          · exact .inr (s1 a z)
          · exact .inl z
        · exact .inr (s2 a z)
      · rw [List.map_cons, List.mem_cons] at hi
        have hi' : i ≠ t.i ∧ i ∉ ts.map (·.i) := not_or.mp hi
        rw [hs i hi'.2, set_out hi'.1]
theorem asg_len (env : PySem.Env) : ∀ ts : List TgN, (assignEach (ts.map TgN.ast) env).length = ts.length
  | [] => rfl
  | t :: ts => by show (assignEach (ts.map TgN.ast) env).length + 1 = _; rw [asg_len env ts]; rfl
theorem asg_star (env : PySem.Env) : ∀ ts : List TgN, ∀ p ∈ assignEach (ts.map TgN.ast) env, p.1 = false
  | [], _, h => nomatch h
  | t :: ts, p, h => by
    have h : p ∈ (false, assign t.ast env) :: assignEach (ts.map TgN.ast) env := h
    rcases List.mem_cons.mp h with rfl | h
    · rfl
    · exact asg_star env ts p h
theorem setsE_len : ∀ {ts : List TgN} {ds : List D} {ρ ρ' : Rho}, setsE ts ds ρ = some ρ' → ds.length = ts.length
  | [], [], _, _, _ => rfl
  | [], _ :: _, _, _, h => by cases h
  | _ :: _, [], _, _, h => by cases h
  | t :: ts, d :: ds, _, _, h => by rw [List.length_cons, List.length_cons, setsE_len (ts := ts) (ds := ds) h]
theorem g_all (G : GX fns T C N sc fnp X) {tg : Tg} (h : tgB N sc fnp tg = true) : PG X tg.ast (tG X.K fns tg) := by
  cases tg with
  | nm t => exact g_nm G h
  | tup ts k p =>
    refine PG.imp (pg_tup (n := ts.length) G.calm (gs_all G ts h) (asg_len _ ts) ?_) fun v σ H Q q => ?_
    · rw [List.findIdx?_eq_none_iff]
      intro p hp
      exact asg_star _ ts p hp
    · obtain ⟨F, d, P, ρ, fs, ρ', w, e, r, o, dj, q, post⟩ := q
      cases d with
      | tup ds =>
        have q : setsE ts ds ρ = some ρ' := q
        obtain ⟨a, vs, rfl, h1, h2⟩ := r.tupl
        exact ⟨a, vs, rfl, h1, by rw [h2.len, setsE_len q], F, ds, P, ρ, fs, ρ', w, e, h2, o, dj, q, post⟩
      | _ => cases q
/-! ### a comprehension -/
def wipeF (fs : Nat → PS_) (vs : List Nat) : Nat → PS_ := fun i => if i ∈ vs then Emp else fs i
theorem wipeF_in {fs : Nat → PS_} {vs : List Nat} {i : Nat} (h : i ∈ vs) : wipeF fs vs i = Emp := by unfold wipeF; rw [if_pos h]
theorem wipeF_out {fs : Nat → PS_} {vs : List Nat} {i : Nat} (h : i ∉ vs) : wipeF fs vs i = fs i := by unfold wipeF; rw [if_neg h]
theorem wipeE_len (ρ : Rho) : ∀ vs : List Nat, (wipeE ρ vs).length = ρ.length
  | [] => rfl
  | v :: vs => by unfold wipeE; rw [List.length_set, wipeE_len ρ vs]
theorem wipeE_get {ρ : Rho} {i : Nat} {d : D} : ∀ {vs : List Nat}, (wipeE ρ vs)[i]? = some (some d) → ρ[i]? = some (some d) ∧ i ∉ vs
  | [], h => ⟨h, by simp⟩
  | v :: vs, h => by
    unfold wipeE at h
    by_cases hi : v = i
    · subst hi
      rw [List.getElem?_set, if_pos rfl] at h
      split at h <;> cases h
    · rw [List.getElem?_set_ne hi] at h
      obtain ⟨h1, h2⟩ := wipeE_get h
      exact ⟨h1, by simp only [List.mem_cons, not_or]; exact ⟨fun e => hi e.symm, h2⟩⟩
theorem UU_wipe {fs : Nat → PS_} {vs : List Nat} {a : Addr} (h : UU (wipeF fs vs) a) : ∃ i, i ∉ vs ∧ fs i a := by
  obtain ⟨i, h⟩ := h
  by_cases hi : i ∈ vs
  · rw [wipeF_in hi] at h; exact h.elim
  · rw [wipeF_out hi] at h; exact ⟨i, hi, h⟩
theorem EnvR.wipe {K : PySem.W.Frag} {F : PS_} {H : Hp} {σ : L2.St} {ρ : Rho} {fs : Nat → PS_} (e : EnvR K fns F H σ ρ fs) (vs : List Nat) : EnvR K fns F H (L2.wipe σ vs) (wipeE ρ vs) (wipeF fs vs) := by
  refine ⟨by rw [wipeE_len, L2.wipe_length]; exact e.len, fun i d h => ?_, fun i j a p q => ?_, fun a z => ?_⟩
  · obtain ⟨h1, h2⟩ := wipeE_get h
    obtain ⟨v, hv, r⟩ := e.rep i d h1
    exact ⟨v, by rw [L2.wipe_out h2]; exact hv, by rw [wipeF_out h2]; exact r⟩
  · by_cases hi : i ∈ vs
    · rw [wipeF_in hi] at p; exact p.elim
    · by_cases hj : j ∈ vs
      · rw [wipeF_in hj] at q; exact q.elim
      · rw [wipeF_out hi] at p; rw [wipeF_out hj] at q; exact e.sep i j a p q
  · obtain ⟨i, _, z⟩ := UU_wipe z
    exact e.own a ⟨i, z⟩
theorem wipe_set {σ : L2.St} {v : Nat} {o : Option V} : ∀ {vs : List Nat}, v ∈ vs → L2.wipe (σ.set v o) vs = L2.wipe σ vs
  | [], h => nomatch h
  | u :: vs, h => by
    unfold L2.wipe
    by_cases hv : v ∈ vs
    · rw [wipe_set hv]
    · have : v = u := (List.mem_cons.mp h).resolve_right hv
      subst this
      have key : ∀ vs : List Nat, v ∉ vs → L2.wipe (σ.set v o) vs = (L2.wipe σ vs).set v o := by
        intro vs
        induction vs with
        | nil => intro _; rfl
        | cons w ws ih =>
          intro hn
          have hn : ¬ v = w ∧ v ∉ ws := by simpa using hn
          unfold L2.wipe
          rw [ih hn.2, List.set_comm _ _ (by exact hn.1)]
      rw [key vs hv, List.set_set]
theorem wipe_ext {σ σ' : L2.St} {vs : List Nat} (hl : σ'.length = σ.length) (h : ∀ i, i ∉ vs → σ'[i]? = σ[i]?) : L2.wipe σ' vs = L2.wipe σ vs := by
  apply List.ext_getElem?
  intro i
  by_cases hi : i ∈ vs
  · have key : ∀ (τ : L2.St) (vs : List Nat), i ∈ vs → (L2.wipe τ vs)[i]? = if i < τ.length then some none else none := by
      intro τ vs
      induction vs with
      | nil => intro h; cases h
      | cons v vs ih =>
        intro h
        unfold L2.wipe
        rw [List.getElem?_set]
        by_cases hv : v = i
        · subst hv
          rw [if_pos rfl, L2.wipe_length]
        · rw [if_neg hv]
          exact ih ((List.mem_cons.mp h).resolve_left fun e => hv e.symm)
    rw [key _ _ hi, key _ _ hi, hl]
  · rw [L2.wipe_out hi, L2.wipe_out hi, h i hi]
theorem backE_len (ρ ρ0 : Rho) : ∀ vs : List Nat, (backE ρ ρ0 vs).length = ρ.length
  | [] => rfl
  | v :: vs => by unfold backE; rw [List.length_set, backE_len ρ ρ0 vs]
theorem backE_get {ρ ρ0 : Rho} {i : Nat} {d : D} (hl : ρ.length = ρ0.length) : ∀ {vs : List Nat}, (backE ρ ρ0 vs)[i]? = some (some d) → (i ∈ vs ∧ ρ0[i]? = some (some d)) ∨ (i ∉ vs ∧ ρ[i]? = some (some d))
  | [], h => .inr ⟨by simp, h⟩
  | v :: vs, h => by
    unfold backE at h
    by_cases hi : v = i
    · subst hi
      rw [List.getElem?_set, if_pos rfl] at h
      split at h
      · rename_i hlt
        rw [backE_len, hl] at hlt
        refine .inl ⟨List.mem_cons_self, ?_⟩
        rw [List.getElem?_eq_getElem hlt]
        rw [List.getD_eq_getElem?_getD, List.getElem?_eq_getElem hlt] at h
        simpa using h
      · cases h
    · rw [List.getElem?_set_ne hi] at h
      rcases backE_get hl h with ⟨h1, h2⟩ | ⟨h1, h2⟩
      · exact .inl ⟨List.mem_cons_of_mem _ h1, h2⟩
      · exact .inr ⟨by simp only [List.mem_cons, not_or]; exact ⟨fun e => hi e.symm, h1⟩, h2⟩
/-- the turn's state of a comprehension -/
structure LcW (K : PySem.W.Frag) (fns : List Addr) (σ : L2.St) (F1 : PS_) (H1 : Hp) (U0 : PS_) (D0 : Addr) (vs : List Nat) (ok : PS_ → Hp → Prop) (F : PS_) (H : Hp) (ρ : Rho) (fs : Nat → PS_) (acc : List D) (avs : List V) (PA : PS_) : Prop where
  wf : WfF F H
  env : EnvR K fns F H (L2.wipe σ vs) ρ fs
  at_ : H D0 = some (.lst avs)
  acc : RepL K fns F H acc avs PA
  own : OwnS F H PA
  dj : Dj PA (UU fs)
  nD : ¬ UU fs D0 ∧ ¬ PA D0 ∧ ¬ F D0
  ok : ok F H
  step : Step U0 F1 F H1 H
  new : ∀ a, UU fs a ∨ PA a → U0 a ∨ H1 a = none
theorem lcGo_cons {set : D → Rho → Option Rho} {test elt : EvT} {wp : List Nat} {d : D} {ds acc : List D} {ρ : Rho} {r : List D × Rho} (h : lcGo set test elt wp (d :: ds) ρ acc = some r) :
    ∃ ρ1 t ρ2 b, set d ρ = some ρ1 ∧ test ρ1 = some (t, ρ2) ∧ truD t = some b ∧
      (if b = true then ∃ y ρ3, elt ρ2 = some (y, ρ3) ∧ acc.length < sizeLine ∧ lcGo set test elt wp ds (wipeE ρ3 wp) (acc ++ [y]) = some r else lcGo set test elt wp ds (wipeE ρ2 wp) acc = some r) := by
  rw [lcGo] at h
  simp only [Option.bind_eq_bind, Option.bind_eq_some_iff, Prod.exists] at h
  obtain ⟨ρ1, h1, t, ρ2, h2, b, h3, h4⟩ := h
  refine ⟨ρ1, t, ρ2, b, h1, h2, h3, ?_⟩
  cases b with
  | true =>
    simp only [if_pos, Option.bind_eq_some_iff, Prod.exists] at h4
    obtain ⟨y, ρ3, h5, h6⟩ := h4
    split at h6
    · exact iteT ⟨y, ρ3, h5, ‹_›, h6⟩
    · cases h6
  | false => exact iteF h4
def lcE (gi : Rho → Option (List D × Rho)) (tg : Tg) (test elt : EvT) (vs : List Nat) : EvT := fun ρ => do
  let (ds, ρ1) ← gi ρ
  let (ys, ρ2) ← lcGo (setT tg) test elt vs ds (wipeE ρ1 vs) []
  pure (.lst .own ys, backE ρ2 ρ1 vs)
theorem lc_main {K : PySem.W.Frag} {gi : Rho → Option (List D × Rho)} {tg : Tg} {test elt : EvT} {vs : List Nat} {σ : L2.St} {H0 : Hp} {Q : VK} (hs : ∀ i ∈ tgSlots tg, i ∈ vs) (h : tE K fns (lcE gi tg test elt vs) σ H0 Q) :
    tLc (tI K fns gi) (tG K fns tg) (tT K fns test) (tE K fns elt) vs σ H0 Q := by
  obtain ⟨F0, ρ0, fs0, d0, ρ0', w0, e0, q, post⟩ := h
  simp only [lcE, Option.bind_eq_bind, Option.bind_eq_some_iff, Prod.exists, Option.pure_def, Option.some.injEq, Prod.mk.injEq] at q
  obtain ⟨ds, ρ1, q1, ys, ρe, q2, rfl, rfl⟩ := q
  refine ⟨F0, ρ0, fs0, ds, ρ1, w0, e0, q1, fun F1 H1 fs1 J ip => ?_⟩
  obtain ⟨p1, ok, hok, drv⟩ := ip
  intro D0 nD
  refine ⟨fun i m H => m = ds.length - i ∧ i ≤ ds.length ∧ ∃ F ρ fs acc avs PA, LcW K fns σ F1 H1 (UU (wipeF fs1 vs)) D0 vs ok F H ρ fs acc avs PA ∧ lcGo (setT tg) test elt vs (ds.drop i) ρ acc = some (ys, ρe), ⟨ds.length, by simp, Nat.zero_le _, ?_⟩, ?_⟩
  · -- the start
    have ew := p1.env.wipe vs
    have st : Step Emp F1 F1 H1 (upd H1 D0 (.lst [])) := ⟨Sb.rfl, fun a u e _ => upd_keep nD e, fun _ f => .inl f⟩
    refine ⟨F1, _, _, [], [], Emp, ⟨fun a f => ?_, ew.step st OwnS.emp fun _ _ z => z, upd_same, rfl, OwnS.emp, fun _ z => z.elim, ⟨fun u => ?_, id, fun f => ?_⟩, drv.stay _ _ _ _ _ hok st OwnS.emp, st.weak Emp.sb, fun a z => z.elim .inl False.elim⟩, q2⟩
    · obtain ⟨u, e⟩ := p1.wf a f; exact ⟨u, upd_keep nD e⟩
    · obtain ⟨_, o, e, _⟩ := ew.own _ u; rw [e] at nD; cases nD
    · obtain ⟨u, e⟩ := p1.wf _ f; rw [e] at nD; cases nD
  rintro i m H ⟨rfl, hi, F, ρ, fs, acc, avs, PA, W, hgo⟩
  by_cases hlt : i < ds.length
  · -- a turn
    have hd : ds[i]? = some ds[i] := List.getElem?_eq_getElem hlt
    rw [List.drop_eq_getElem_cons hlt] at hgo
    obtain ⟨ρa, t, ρb, b, g1, g2, g3, g4⟩ := lcGo_cons hgo
    obtain ⟨go, yl⟩ := drv.go i _ F H W.wf W.ok hd
    refine .inr ⟨go, fun H' => ∃ F ρ fs acc avs PA, LcW K fns σ F1 H1 (UU (wipeF fs1 vs)) D0 vs ok F H' ρ fs acc avs PA ∧ lcGo (setT tg) test elt vs (ds.drop (i + 1)) ρ acc = some (ys, ρe), fun H' hw => ⟨ds.length - (i + 1), by omega, rfl, hlt, hw⟩, fun x H' y => ?_⟩
    obtain ⟨F', st, wf', rx⟩ := yl x H' y
    have e1 : EnvR K fns F' H' (L2.wipe σ vs) ρ fs := W.env.step st OwnS.emp fun _ _ z => z
    refine ⟨F', _, Emp, ρ, fs, ρa, wf', e1, rx, OwnS.emp, fun _ z => z.elim, g1, fun σ2 fs2 e2 hn2 hs2 hl2 => ?_⟩
    refine ⟨wipe_ext hl2 (fun j hj => hs2 j fun hm => hj (hs j hm)) |>.trans ?_, ?_⟩
    · exact wipe_ext (L2.wipe_length σ vs) fun j hj => L2.wipe_out hj
    have ws : L2.wipe σ2 vs = L2.wipe σ vs := (wipe_ext hl2 fun j hj => hs2 j fun hm => hj (hs j hm)).trans (wipe_ext (L2.wipe_length σ vs) fun j hj => L2.wipe_out hj)
    have un2 : ∀ a, UU fs2 a → UU fs a := fun a z => (hn2 a z).resolve_right id
    -- what is carried on, whatever happens behind the target
    have carry : ∀ {F4 : PS_} {H4 : Hp} {fs4 : Nat → PS_} {ρ4 : Rho} {dy : D} {y : V} {P4 : PS_}, EPost K fns F' H' fs2 F4 H4 fs4 σ2 ρ4 dy y P4 →
        H4 D0 = some (.lst avs) ∧ RepL K fns F4 H4 acc avs PA ∧ OwnS F4 H4 PA ∧ Dj PA (UU fs4) ∧ Dj PA P4 ∧ (¬ UU fs4 D0 ∧ ¬ PA D0 ∧ ¬ F4 D0 ∧ ¬ P4 D0) ∧ ok F4 H4 ∧ Step (UU (wipeF fs1 vs)) F1 F4 H1 H4 ∧ (∀ a, UU fs4 a ∨ P4 a → UU (wipeF fs1 vs) a ∨ H1 a = none) := by
      intro F4 H4 fs4 ρ4 dy y P4 p4
      have hD' : H' D0 = some (.lst avs) := st.keep _ _ W.at_ id
      have nD2 : ¬ UU fs2 D0 := fun z => W.nD.1 (un2 _ z)
      have dj2 : Dj PA (UU fs2) := fun a z u => W.dj a z (un2 a u)
      have acc' := st.repL OwnS.emp (fun _ _ z => z) W.acc
      have own' : OwnS F' H' PA := st.own (fun _ _ z => z) W.own
      have stF : ¬ F' D0 := fun f => (st.new _ f).elim W.nD.2.2 fun z => z.elim id fun z => by rw [W.at_] at z; cases z
      have step' : Step (UU (wipeF fs1 vs)) F1 F' H1 H' := W.step.trans st fun _ z => z.elim
      have nw' : ∀ a, UU fs2 a ∨ H' a = none → UU (wipeF fs1 vs) a ∨ H1 a = none := fun a z => by
        rcases z with z | z
        · exact W.new a (.inl (un2 a z))
        · cases e : H1 a with
          | none => exact .inr rfl
          | some o =>
            by_cases hp : UU (wipeF fs1 vs) a
            · exact .inl hp
            · rw [step'.keep a o e hp] at z; cases z
      have out : ∀ a, PA a → ¬ (UU fs2 a ∨ H' a = none) := fun a z u => by
        rcases u with u | u
        · exact dj2 a z u
        · obtain ⟨_, o, e, _⟩ := own' a z; rw [e] at u; cases u
      have outD : ¬ (UU fs2 D0 ∨ H' D0 = none) := fun u => by
        rcases u with u | u
        · exact nD2 u
        · rw [hD'] at u; cases u
      refine ⟨p4.step.keep _ _ hD' nD2, p4.step.repL e2.own dj2 acc', p4.step.own dj2 own', fun a z u => out a z (p4.new a (.inr u)), fun a z u => out a z (p4.new a (.inl u)), ⟨fun u => outD (p4.new _ (.inr u)), W.nD.2.1, fun f => ?_, fun u => outD (p4.new _ (.inl u))⟩, drv.stay _ _ _ _ _ (drv.stay _ _ _ _ _ W.ok st OwnS.emp) p4.step e2.own, step'.trans p4.step fun c z => nw' c (.inl z), fun a z => nw' a (p4.new a z.symm)⟩
      rcases p4.step.new _ f with z | z | z
      · exact stF z
      · exact nD2 z
      · rw [hD'] at z; cases z
    refine ⟨F', ρa, fs2, t, ρb, b, wf', e2, g2, g3, fun F3 H3 fs3 xt P3 p3 => ?_⟩
    cases b with
    | false =>
      obtain ⟨c1, c2, c3, c4, _, ⟨c5, c6, c7, _⟩, c8, c9, c10⟩ := carry p3
      have ew := p3.env.wipe vs
      rw [ws] at ew
      exact iteF ⟨F3, _, _, acc, avs, PA, ⟨p3.wf, ew, c1, c2, c3, fun a z u => by obtain ⟨j, _, u⟩ := UU_wipe u; exact c4 a z ⟨j, u⟩, ⟨fun u => by obtain ⟨j, _, u⟩ := UU_wipe u; exact c5 ⟨j, u⟩, c6, c7⟩, c8, c9, fun a z => by
        rcases z with z | z
        · obtain ⟨j, _, z⟩ := UU_wipe z; exact c10 a (.inl ⟨j, z⟩)
        · exact W.new a (.inr z)⟩, (show lcGo (setT tg) test elt vs (ds.drop (i + 1)) (wipeE ρb vs) acc = some (ys, ρe) from g4)⟩
    | true =>
      obtain ⟨y, ρc, g5, g6, g7⟩ := (show ∃ y ρ3, elt ρb = some (y, ρ3) ∧ acc.length < sizeLine ∧ lcGo (setT tg) test elt vs (ds.drop (i + 1)) (wipeE ρ3 vs) (acc ++ [y]) = some (ys, ρe) from g4)
      refine iteT ⟨F3, ρb, fs3, y, ρc, p3.wf, p3.env, g5, fun F4 H4 fs4 yv P4 p4 => ?_⟩
      have p5 := p3.seq p4
      obtain ⟨c1, c2, c3, c4, c4', ⟨c5, c6, c7, c7'⟩, c8, c9, c10⟩ := carry p5
      refine ⟨avs, c1, by rw [c2.len]; exact g6, ?_⟩
      have oD : OwnS F4 H4 (fun a => a = D0) := fun a z => by subst z; exact ⟨c7, _, c1, trivial⟩
      have sD : Step (fun a => a = D0) F4 F4 H4 (upd H4 D0 (.lst (avs ++ [yv]))) := ⟨Sb.rfl, fun a o e n => by rw [upd_ne n]; exact e, fun _ f => .inl f⟩
      have ew := (p5.env.step sD oD fun a z e => by subst e; exact c5 z).wipe vs
      rw [ws] at ew
      have ra := (sD.repL oD (fun a z e => by subst e; exact c6 z) c2).append (RepL.one (sD.rep oD (fun a z e => by subst e; exact c7' z) p5.rep)) c4'
      have oa : OwnS F4 (upd H4 D0 (.lst (avs ++ [yv]))) (Un2 PA P4) := sD.own (fun a z e => by subst e; exact z.elim c6 c7') (c3.un p5.own)
      refine ⟨F4, _, _, acc ++ [y], avs ++ [yv], Un2 PA P4, ⟨fun a f => ?_, ew, upd_same, ra, oa, fun a z u => ?_, ⟨fun u => ?_, fun z => z.elim c6 c7', c7⟩, drv.stay _ _ _ _ _ c8 sD oD, c9.trans sD fun c z => ?_, fun a z => ?_⟩, g7⟩
      · obtain ⟨o, e⟩ := p5.wf a f
        by_cases ha : a = D0
        · subst ha; exact ⟨_, upd_same⟩
        · exact ⟨o, by rw [upd_ne ha]; exact e⟩
      · obtain ⟨j, _, u⟩ := UU_wipe u
        exact z.elim (fun z => c4 a z ⟨j, u⟩) fun z => p5.dj a z ⟨j, u⟩
      · obtain ⟨j, _, u⟩ := UU_wipe u; exact c5 ⟨j, u⟩
      · subst z; exact .inr nD
      · rcases z with z | z | z
        · obtain ⟨j, _, z⟩ := UU_wipe z; exact c10 a (.inl ⟨j, z⟩)
        · exact W.new a (.inr z)
        · exact c10 a (.inr z)
  · -- the end
    have ei : i = ds.length := by omega
    subst ei
    refine .inl ⟨drv.stop _ F H W.ok (Nat.le_refl _), ?_⟩
    rw [List.drop_length] at hgo
    have hgo : some (acc, ρ) = some (ys, ρe) := hgo
    cases hgo
    have hw0 : ∀ a, UU (wipeF fs1 vs) a → UU fs1 a := fun a z => by obtain ⟨j, _, z⟩ := UU_wipe z; exact ⟨j, z⟩
    have low : OwnS F1 H1 (UU (wipeF fs1 vs)) := p1.env.own.sb hw0
    have apart : ∀ j, j ∈ vs → ∀ a, fs1 j a → ¬ UU (wipeF fs1 vs) a := fun j hj a z u => by
      obtain ⟨k, hk, u⟩ := UU_wipe u
      exact hk (p1.env.sep j k a z u ▸ hj)
    have lenρ : ρe.length = ρ1.length := by rw [W.env.len, L2.wipe_length, p1.env.len]
    let fsE : Nat → PS_ := fun j => if j ∈ vs then fs1 j else fs j
    have fe_in : ∀ {j}, j ∈ vs → fsE j = fs1 j := fun h => if_pos h
    have fe_out : ∀ {j}, j ∉ vs → fsE j = fs j := fun h => if_neg h
    have eE : EnvR K fns F H σ (backE ρe ρ1 vs) fsE := by
      refine ⟨by rw [backE_len, lenρ, p1.env.len], fun j d h => ?_, fun j k a p q => ?_, fun a z => ?_⟩
      · rcases backE_get lenρ h with ⟨hj, h⟩ | ⟨hj, h⟩
        · obtain ⟨v, hv, r⟩ := p1.env.rep j d h
          exact ⟨v, hv, by rw [fe_in hj]; exact W.step.rep low (fun a z u => apart j hj a z u) r⟩
        · obtain ⟨v, hv, r⟩ := W.env.rep j d h
          exact ⟨v, by rw [L2.wipe_out hj] at hv; exact hv, by rw [fe_out hj]; exact r⟩
      · have mix : ∀ j k, j ∈ vs → k ∉ vs → fs1 j a → fs k a → False := fun j k hj hk z u => by
          rcases W.new a (.inl ⟨k, u⟩) with u | u
          · exact apart j hj a z u
          · obtain ⟨_, o, e, _⟩ := p1.env.own a ⟨j, z⟩; rw [e] at u; cases u
        by_cases hj : j ∈ vs
        · rw [fe_in hj] at p
          by_cases hk : k ∈ vs
          · rw [fe_in hk] at q; exact p1.env.sep j k a p q
          · rw [fe_out hk] at q; exact (mix j k hj hk p q).elim
        · rw [fe_out hj] at p
          by_cases hk : k ∈ vs
          · rw [fe_in hk] at q; exact (mix k j hk hj q p).elim
          · rw [fe_out hk] at q; exact W.env.sep j k a p q
      · obtain ⟨j, z⟩ := z
        by_cases hj : j ∈ vs
        · rw [fe_in hj] at z; exact W.step.own (P := fs1 j) (fun a z u => apart j hj a z u) (p1.env.own.sb fun a z => ⟨j, z⟩) a z
        · rw [fe_out hj] at z; exact W.env.own a ⟨j, z⟩
    have bk : ∀ a, UU (wipeF fs1 vs) a ∨ H1 a = none → UU fs0 a ∨ H0 a = none := fun a z => by
      rcases z with z | z
      · exact p1.new a (.inr (hw0 a z))
      · exact back_new p1.step (fun a h => p1.new a (.inr h)) (.inr z)
    refine post F H fsE (.ref D0) (fun a => PA a ∨ a = D0) ⟨p1.step.trans W.step fun c z => p1.new c (.inr (hw0 c z)), W.wf, eE, ⟨D0, avs, rfl, W.at_, .inr rfl, W.acc.mono fun a z => ⟨.inl z, fun e => W.nD.2.1 (e ▸ z)⟩⟩, fun a z => ?_, fun a z u => ?_, fun a z => ?_⟩
    · rcases z with z | z
      · exact W.own a z
      · subst z; exact ⟨W.nD.2.2, _, W.at_, trivial⟩
    · obtain ⟨j, u⟩ := u
      by_cases hj : j ∈ vs
      · rw [fe_in hj] at u
        have h1 : ¬ (UU (wipeF fs1 vs) a ∨ H1 a = none) := fun h => by
          rcases h with h | h
          · exact apart j hj a u h
          · obtain ⟨_, o, e, _⟩ := p1.env.own a ⟨j, u⟩; rw [e] at h; cases h
        rcases z with z | z
        · exact h1 (W.new a (.inr z))
        · subst z; exact h1 (.inr nD)
      · rw [fe_out hj] at u
        rcases z with z | z
        · exact W.dj a z ⟨j, u⟩
        · subst z; exact W.nD.1 ⟨j, u⟩
    · rcases z with (z | z) | ⟨j, z⟩
      · exact bk a (W.new a (.inr z))
      · subst z; exact bk _ (.inr nD)
      · by_cases hj : j ∈ vs
        · rw [fe_in hj] at z; exact p1.new a (.inr ⟨j, z⟩)
        · rw [fe_out hj] at z; exact bk a (W.new a (.inl ⟨j, z⟩))
end
end VK

set_option Elab.async false
set_option linter.all false
set_option maxRecDepth 100000
namespace VK
open PySem PySem.Spec PyProof.Rows L2
section
variable {X : Cx} {fns : List Addr} {T : Tab} {C : CallF} {N : List Str} {sc : Scope} {fnp : Str → Bool}
theorem rev_pick (z : Str) : (Builtin.Str.strSliceIndices none none (-1) z.length).filterMap (z.cps[·]?) = z.cps.toList.reverse := by
  have e : Builtin.Str.strSliceIndices none none (-1) z.length = (List.range z.cps.size).reverse := by
    rw [← PySem.W.krv_range, ← PySem.W.krv_sliceRange]
    rfl
  rw [e, List.filterMap_reverse, PySem.W.krv_all]
def tRev2 (K : PySem.W.Frag) (te : TE) : TE := fun σ H Q => te σ H fun x H1 => (∃ a xs, x = .ref a ∧ SqL K H1 a xs ∧ ∀ p, H1 p = none → Q (.ref p) (upd H1 p (.lst xs.reverse))) ∨ ∃ z, x = .str z ∧ z.length ≤ sizeLine ∧ Q (.str ⟨z.cps.toList.reverse.toArray⟩) H1
theorem pe_rev2 {e : Expr} {te : TE} {k : Nat} {p1 p2 p3 pos : Pos} (he : PE X e te) : PE X (.Subscript e (.Slice none none (some (.UnaryOp .USub (.Constant (.int 1) k p1) p2)) p3) pos) (tRev2 X.K te) := by
  refine ⟨fun pins s σ H Q I h => ?_⟩
  refine Subscript_ (thn (he.run pins s σ H _ I h) fun v s1 ⟨x, H1, I1, r1, q1⟩ => ?_)
  have hst : PO X (some (.UnaryOp .USub (.Constant (.int 1) k p1) p2)) (tPart (tUn (rU fun i => .int (-i)) (tC (.int 1)))) := po_some (pe_un un_neg pe_int)
  refine wpAny_Slice (thn (po_none.run pins s1 σ H1 (fun o H2 => o = none ∧ H2 = H1) I1 ⟨rfl, rfl⟩) fun vl s2 ⟨l, H2, I2, pl, el, e2⟩ => ?_)
  subst el e2
  refine thn (po_none.run pins s2 σ H2 (fun o H3 => o = none ∧ H3 = H2) I2 ⟨rfl, rfl⟩) fun vu s3 ⟨u, H3, I3, pu, eu, e3⟩ => ?_
  subst eu e3
  refine thn (hst.run pins s3 σ H3 (fun o H4 => o = some (-1) ∧ H4 = H3) I3 ⟨1, rfl, -1, rfl, rfl, rfl⟩) fun vs s4 ⟨o, H4, I4, ps, eo, e4⟩ => ?_
  subst eo e4
  have I5 : Inv X pins σ H4 { s4 with heap := s4.heap.push { cls := .type "slice", data := .fields #[vl, vu, vs] } } := I4.kept (t' := s4.toks) fun b ob q => Heap.get?_push_of_some _ q
  rcases q1 with ⟨a, xs, ex, hx, q⟩ | ⟨z, ex, hz, q⟩
  · subst ex
    cases r1
    obtain ⟨its, r, ht, hz⟩ := I5.list hx
    have hlen := r.length
    show wpAny (model X.prog X.w) X.A (subscriptTail e (.Slice none none (some (.UnaryOp .USub (.Constant (.int 1) k p1) p2)) p3) (.ref a) (.ref s4.heap.objs.size)) (EP X pins σ Q) X.xe { s4 with heap := s4.heap.push { cls := .type "slice", data := .fields #[vl, vu, vs] } }
    refine tail_any (ops := [.ref a, .ref s4.heap.objs.size]) ht.isList.typeIs (PySem.slot_list_getitem.lookup) ?_ (by with_unfolding_all rfl)
    refine wpAny_getItem_list_slice ht.isList (Heap.IsSliceOf.new _ vl vu vs) pl pu ps (by decide) ?_ (by rw [List.size_toArray]; omega)
    rw [PySem.W.krv_pick]
    refine ⟨.ref _, _, I5.laid (t' := s4.toks) (o := .lst xs.reverse) (fun b ob q => Heap.get?_push_of_some _ q) (Nat.le_refl _) ?_, rfl, q _ (I5.hok.fresh (Nat.le_refl _))⟩
    exact ⟨by rw [List.length_reverse]; exact hz, _, 0, r.reverse, Heap.get?_push_size _ rfl⟩
  · subst ex
    obtain ⟨t, rfl⟩ := r1
    obtain ⟨l, rfl, el⟩ := IsPart.raw pl
    obtain ⟨u, rfl, eu⟩ := IsPart.raw pu
    obtain ⟨w, rfl, ew⟩ := IsPart.raw ps
    show wpAny (model X.prog X.w) X.A (subscriptTail e (.Slice none none (some (.UnaryOp .USub (.Constant (.int 1) k p1) p2)) p3) (.str z t) (.ref s4.heap.objs.size)) (EP X pins σ Q) X.xe { s4 with heap := s4.heap.push { cls := .type "slice", data := .fields #[partValue l, partValue u, partValue w] } }
    refine tail_any (ops := [.str z t, .ref s4.heap.objs.size]) (typeIs_str _ _ _) (PySem.F.slot_str_getitem.lookup) ?_ (by with_unfolding_all rfl)
    refine wpAny_getItem_str_slice (l := l) (u := u) (st := w) ⟨_, Heap.get?_push_size _ rfl, rfl, rfl⟩ (by rw [ew]; rfl) ?_
    have es : sliceMade z t l u w = .str ⟨z.cps.toList.reverse.toArray⟩ := by
      unfold sliceMade slicePicked
      rw [el, eu, ew]
      show (if ((-1 : Int) == 1 && _) = true then _ else Made.str ⟨((Builtin.Str.strSliceIndices none none (-1) z.length).filterMap (z.cps[·]?)).toArray⟩) = _
      rw [if_neg (by simp), rev_pick]
    rw [es]
    refine ⟨?_, .str _, H4, I5.tok _, ⟨_, rfl⟩, q⟩
    show (z.cps.toList.reverse.toArray).size ≤ sizeLine
    simpa using (show z.cps.size ≤ sizeLine from hz)
theorem s_rev {a : Expr} {ga : EvT} {k : Nat} {p1 p2 p3 p : Pos} (ha : PE X a (tE X.K fns ga)) : PE X (.Subscript a (.Slice none none (some (.UnaryOp .USub (.Constant (.int 1) k p1) p2)) p3) p) (tE X.K fns (opE1 revD ga)) := by
  refine PE.imp (pe_rev2 ha) fun σ H Q q => ?_
  obtain ⟨F, ρ, fs, d, ρ', w, e, q, post⟩ := tE_op1 q
  refine ⟨F, ρ, fs, d, ρ', w, e, q, fun F' H' fs' x P p => ?_⟩
  obtain ⟨F1, d1, P1, R, w1, r1, o1, ef, post1⟩ := post _ _ _ _ _ p
  unfold revD at ef
  split at ef
  · cases ef
    obtain ⟨b, vs, rfl, hb, lr⟩ := r1.list
    exact .inl ⟨b, vs, rfl, hb, fun q nq => post1 _ _ _ _ (.newLst w1 nq o1 lr.reverse)⟩
  · split at ef
    · rename_i hz
      cases ef
      cases (show x = _ from r1)
      exact .inr ⟨_, rfl, hz, post1 _ _ _ _ (.flat w1 rfl)⟩
    · cases ef
  · cases ef
end
end VK

set_option Elab.async false
set_option linter.all false
set_option maxRecDepth 100000
namespace VK
open PySem PySem.Spec PyProof.Rows L2
/-! ### behind a statement -/
structure SPost (K : PySem.W.Frag) (fns : List Addr) (F : PS_) (H : Hp) (fs : Nat → PS_) (σ : L2.St) (F' : PS_) (H' : Hp) (fs' : Nat → PS_) (σ' : L2.St) (ρ' : Rho) (as : List Nat) : Prop where
  step : Step (UU fs) F F' H H'
  wf : WfF F' H'
  env : EnvR K fns F' H' σ' ρ' fs'
  new : ∀ a, UU fs' a → UU fs a ∨ H a = none
  same : ∀ i, i ∉ as → σ'[i]? = σ[i]?
structure RPost (K : PySem.W.Frag) (fns : List Addr) (F : PS_) (H : Hp) (fs : Nat → PS_) (σ : L2.St) (F' : PS_) (H' : Hp) (fs' : Nat → PS_) (σ' : L2.St) (ρ' : Rho) (as : List Nat) (d : D) (x : V) (P : PS_) : Prop where
  post : SPost K fns F H fs σ F' H' fs' σ' ρ' as
  rep : Rep K fns F' H' d x P
  own : OwnS F' H' P
  dj : Dj P (UU fs')
  new : ∀ a, P a → UU fs a ∨ H a = none
/-- what is wanted behind a statement that ends so -/
def Aft (K : PySem.W.Frag) (fns : List Addr) (F : PS_) (H : Hp) (fs : Nat → PS_) (σ : L2.St) (as : List Nat) (Dn : Ends) (fl : Fl) (ρ' : Rho) : Prop :=
  match fl with
  | .nx => ∀ F' H' fs' σ', SPost K fns F H fs σ F' H' fs' σ' ρ' as → Dn.nx σ' H'
  | .bk => ∀ F' H' fs' σ', SPost K fns F H fs σ F' H' fs' σ' ρ' as → Dn.bk σ' H'
  | .ct => ∀ F' H' fs' σ', SPost K fns F H fs σ F' H' fs' σ' ρ' as → Dn.ct σ' H'
  | .rt d => ∀ F' H' fs' σ' x P, RPost K fns F H fs σ F' H' fs' σ' ρ' as d x P → Dn.rt x H'
def tS (K : PySem.W.Frag) (fns : List Addr) (g : Rho → Option (Fl × Rho)) (as : List Nat) : TS := fun Dn σ H => ∃ F ρ fs fl ρ', WfF F H ∧ EnvR K fns F H σ ρ fs ∧ g ρ = some (fl, ρ') ∧ Aft K fns F H fs σ as Dn fl ρ'
section
variable {K : PySem.W.Frag} {fns : List Addr} {F F' F1 F2 P Q : PS_} {H H' H1 H2 : Hp} {σ σ' σ1 σ2 : L2.St} {ρ ρ' ρ1 ρ2 : Rho} {fs fs' fs1 fs2 : Nat → PS_} {d : D} {x : V} {as bs cs : List Nat} {Dn : Ends} {fl : Fl}
theorem SPost.refl (w : WfF F H) (e : EnvR K fns F H σ ρ fs) : SPost K fns F H fs σ F H fs σ ρ as := ⟨Step.refl, w, e, fun _ z => .inl z, fun _ _ => rfl⟩
theorem SPost.seq (p : SPost K fns F H fs σ F1 H1 fs1 σ1 ρ1 as) (q : SPost K fns F1 H1 fs1 σ1 F2 H2 fs2 σ2 ρ2 bs) (ha : ∀ i ∈ as, i ∈ cs) (hb : ∀ i ∈ bs, i ∈ cs) : SPost K fns F H fs σ F2 H2 fs2 σ2 ρ2 cs :=
  ⟨p.step.trans q.step p.new, q.wf, q.env, fun a z => back_new p.step p.new (q.new a z), fun i hi => (q.same i fun h => hi (hb i h)).trans (p.same i fun h => hi (ha i h))⟩
theorem RPost.seq (p : SPost K fns F H fs σ F1 H1 fs1 σ1 ρ1 as) (q : RPost K fns F1 H1 fs1 σ1 F2 H2 fs2 σ2 ρ2 bs d x P) (ha : ∀ i ∈ as, i ∈ cs) (hb : ∀ i ∈ bs, i ∈ cs) : RPost K fns F H fs σ F2 H2 fs2 σ2 ρ2 cs d x P :=
  ⟨p.seq q.post ha hb, q.rep, q.own, q.dj, fun a z => back_new p.step p.new (q.new a z)⟩
theorem SPost.mono (p : SPost K fns F H fs σ F1 H1 fs1 σ1 ρ1 as) (h : ∀ i ∈ as, i ∈ bs) : SPost K fns F H fs σ F1 H1 fs1 σ1 ρ1 bs := ⟨p.step, p.wf, p.env, p.new, fun i hi => p.same i fun z => hi (h i z)⟩
theorem RPost.mono (p : RPost K fns F H fs σ F1 H1 fs1 σ1 ρ1 as d x P) (h : ∀ i ∈ as, i ∈ bs) : RPost K fns F H fs σ F1 H1 fs1 σ1 ρ1 bs d x P := ⟨p.post.mono h, p.rep, p.own, p.dj, p.new⟩
theorem Aft.seq (p : SPost K fns F H fs σ F1 H1 fs1 σ1 ρ1 as) (a : Aft K fns F H fs σ cs Dn fl ρ') (ha : ∀ i ∈ as, i ∈ cs) (hb : ∀ i ∈ bs, i ∈ cs) : Aft K fns F1 H1 fs1 σ1 bs Dn fl ρ' := by
  cases fl with
  | nx => exact fun F' H' fs' σ' q => a F' H' fs' σ' (p.seq q ha hb)
  | bk => exact fun F' H' fs' σ' q => a F' H' fs' σ' (p.seq q ha hb)
  | ct => exact fun F' H' fs' σ' q => a F' H' fs' σ' (p.seq q ha hb)
  | rt d => exact fun F' H' fs' σ' x P q => a F' H' fs' σ' x P (RPost.seq p q ha hb)
theorem EPost.st (p : EPost K fns F H fs F1 H1 fs1 σ ρ1 d x P) : SPost K fns F H fs σ F1 H1 fs1 σ ρ1 as := ⟨p.step, p.wf, p.env, fun a z => p.new a (.inr z), fun _ _ => rfl⟩
/-- a target behind an expression -/
theorem EPost.set (p : EPost K fns F H fs F1 H1 fs1 σ ρ1 d x P) (e : EnvR K fns F1 H1 σ' ρ' fs') (hn : ∀ a, UU fs' a → UU fs1 a ∨ P a) (hs : ∀ i, i ∉ as → σ'[i]? = σ[i]?) : SPost K fns F H fs σ F1 H1 fs' σ' ρ' as :=
  ⟨p.step, p.wf, e, fun a z => p.new a ((hn a z).symm), hs⟩
end
section
variable {X : Cx} {fns : List Addr} {T : Tab} {C : CallF} {N : List Str} {sc : Scope} {fnp : Str → Bool}
theorem PS.imp {st : Stmt} {t u : TS} (h : PS X st t) (i : ∀ Dn σ H, u Dn σ H → t Dn σ H) : PS X st u := ⟨fun pins s σ H Dn I q => h.run pins s σ H Dn I (i Dn σ H q)⟩
theorem PSs.imp {st : List Stmt} {t u : TS} (h : PSs X st t) (i : ∀ Dn σ H, u Dn σ H → t Dn σ H) : PSs X st u := ⟨fun pins s σ H Dn I q => h.run pins s σ H Dn I (i Dn σ H q)⟩
/-! ### forms -/
def isLc : E → Bool
  | .pur e => isLc e
  | .lc _ _ _ _ _ _ _ => true
  | .dc _ _ _ _ _ _ _ _ => true
  | _ => false
def isTup : E → Bool
  | .pur e => isTup e
  | .tup _ _ _ => true
  | _ => false
theorem swaps_ok (t : Option Expr) (l : Nat) (env : PySem.Env) (e : E) : isLc e = false → swapsWith e.ast t l env = pure false := by
  apply E.rec (motive_1 := fun e => isLc e = false → swapsWith e.ast t l env = pure false) (motive_2 := fun _ => True) (motive_3 := fun _ => True) (motive_4 := fun _ => True) (motive_5 := fun _ => True) <;> intros <;> first | rfl | trivial | (rename_i ih h; exact ih h) | (rename_i h; cases h)
theorem noSwap_ok (ts : List Expr) (k : Nat) (p : Pos) (env : PySem.Env) (e : E) : isTup e = false → swappedStores [.Tuple ts k p] e.ast env = pure none := by
  apply E.rec (motive_1 := fun e => isTup e = false → swappedStores [.Tuple ts k p] e.ast env = pure none) (motive_2 := fun _ => True) (motive_3 := fun _ => True) (motive_4 := fun _ => True) (motive_5 := fun _ => True) <;> intros <;> first | rfl | trivial | (rename_i ih h; exact ih h) | (rename_i h; cases h)
theorem noSwapN_ok (x : Str) (p : Pos) (env : PySem.Env) (e : E) : swappedStores [.Name x p] e.ast env = pure none := by
  apply E.rec (motive_1 := fun e => swappedStores [.Name x p] e.ast env = pure none) (motive_2 := fun _ => True) (motive_3 := fun _ => True) (motive_4 := fun _ => True) (motive_5 := fun _ => True) <;> intros <;> first | rfl | trivial | assumption
/-! ### statements -/
theorem st_expr {e : E} {g : EvT} {p : Pos} (h : PE X e.ast (tE X.K fns g)) (hl : isLc e = false) : PS X (.Expr e.ast p) (tS X.K fns (fun ρ => do
    let (_, ρ1) ← g ρ
    pure (.nx, ρ1)) []) := by
  refine PS.imp (ps_expr h (swaps_ok _ _ _ e hl)) fun Dn σ H q => ?_
  obtain ⟨F, ρ, fs, fl, ρ', w, en, q, aft⟩ := q
  simp only [Option.bind_eq_bind, Option.bind_eq_some_iff, Prod.exists, Option.pure_def, Option.some.injEq, Prod.mk.injEq] at q
  obtain ⟨d, ρ1, q1, rfl, rfl⟩ := q
  exact ⟨F, ρ, fs, d, _, w, en, q1, fun F1 H1 fs1 x P p => aft _ _ _ _ p.st⟩
theorem st_asg (G : GX fns T C N sc fnp X) {t : Tg} {e : E} {g : EvT} {p : Pos} (h : PE X e.ast (tE X.K fns g)) (hl : isLc e = false) (ht : tgB N sc fnp t = true) (hh : (match t with
    | .nm _ => true
    | .tup _ _ _ => !isTup e) = true) : PS X (.Assign [t.ast] e.ast p) (tS X.K fns (fun ρ => do
    let (d, ρ1) ← g ρ
    let ρ2 ← setT t d ρ1
    pure (.nx, ρ2)) (tgSlots t)) := by
  have hs : swapsWithSole [t.ast] e.ast p.line X.env = pure false := swaps_ok _ _ _ e hl
  have hw : swappedStores [t.ast] e.ast X.env = pure none := by
    cases t with
    | nm t => exact noSwapN_ok _ _ _ e
    | tup ts k tp => exact noSwap_ok _ _ _ _ e (by simpa using hh)
  have h1 : (assignEach [t.ast] X.env).map (·.2) = [assign t.ast X.env] := by cases t <;> rfl
  refine PS.imp (ps_asg h (g_all G ht) hs hw h1) fun Dn σ H q => ?_
  obtain ⟨F, ρ, fs, fl, ρ', w, en, q, aft⟩ := q
  simp only [Option.bind_eq_bind, Option.bind_eq_some_iff, Prod.exists, Option.pure_def, Option.some.injEq, Prod.mk.injEq] at q
  obtain ⟨d, ρ1, q1, ρ2, q2, rfl, rfl⟩ := q
  refine ⟨F, ρ, fs, d, _, w, en, q1, fun F1 H1 fs1 x P p => ?_⟩
  exact ⟨F1, d, P, ρ1, fs1, _, p.wf, p.env, p.rep, p.own, p.dj, q2, fun σ' fs' e' hn hs' hl' => aft _ _ _ _ (p.set e' hn hs')⟩
theorem st_ret {e : E} {g : EvT} {p : Pos} (h : PE X e.ast (tE X.K fns g)) : PS X (.Return (some e.ast) p) (tS X.K fns (fun ρ => do
    let (d, ρ1) ← g ρ
    pure (.rt d, ρ1)) []) := by
  refine PS.imp (ps_ret h) fun Dn σ H q => ?_
  obtain ⟨F, ρ, fs, fl, ρ', w, en, q, aft⟩ := q
  simp only [Option.bind_eq_bind, Option.bind_eq_some_iff, Prod.exists, Option.pure_def, Option.some.injEq, Prod.mk.injEq] at q
  obtain ⟨d, ρ1, q1, rfl, rfl⟩ := q
  exact ⟨F, ρ, fs, d, _, w, en, q1, fun F1 H1 fs1 x P p => aft _ _ _ _ _ _ ⟨p.st, p.rep, p.own, p.dj, fun a z => p.new a (.inl z)⟩⟩
theorem st_retN {p : Pos} : PS X (.Return none p) (tS X.K fns (fun ρ => some (.rt .non, ρ)) []) := by
  refine PS.imp ps_retN fun Dn σ H q => ?_
  obtain ⟨F, ρ, fs, fl, ρ', w, en, q, aft⟩ := q
  cases q
  exact aft _ _ _ _ .non Emp ⟨.refl w en, rfl, OwnS.emp, fun _ z => z.elim, fun _ z => z.elim⟩
theorem st_pas {p : Pos} : PS X (.Pass p) (tS X.K fns (fun ρ => some (.nx, ρ)) []) := by
  refine PS.imp ps_pass fun Dn σ H q => ?_
  obtain ⟨F, ρ, fs, fl, ρ', w, en, q, aft⟩ := q
  cases q
  exact aft _ _ _ _ (.refl w en)
theorem st_brk {p : Pos} : PS X (.Break p) (tS X.K fns (fun ρ => some (.bk, ρ)) []) := by
  refine PS.imp ps_break fun Dn σ H q => ?_
  obtain ⟨F, ρ, fs, fl, ρ', w, en, q, aft⟩ := q
  cases q
  exact aft _ _ _ _ (.refl w en)
theorem st_cnt {p : Pos} : PS X (.Continue p) (tS X.K fns (fun ρ => some (.ct, ρ)) []) := by
  refine PS.imp ps_continue fun Dn σ H q => ?_
  obtain ⟨F, ρ, fs, fl, ρ', w, en, q, aft⟩ := q
  cases q
  exact aft _ _ _ _ (.refl w en)
theorem st_nil : PSs X [] (tS X.K fns (fun ρ => some (.nx, ρ)) []) := by
  refine PSs.imp pss_nil fun Dn σ H q => ?_
  obtain ⟨F, ρ, fs, fl, ρ', w, en, q, aft⟩ := q
  cases q
  exact aft _ _ _ _ (.refl w en)
def seqS (g h : Rho → Option (Fl × Rho)) : Rho → Option (Fl × Rho) := fun ρ => do
  let (f, ρ1) ← g ρ
  match f with
  | .nx => h ρ1
  | f => some (f, ρ1)
theorem st_cons {s : Stmt} {ss : List Stmt} {g h : Rho → Option (Fl × Rho)} {as bs : List Nat} (hg : PS X s (tS X.K fns g as)) (hh : PSs X ss (tS X.K fns h bs)) : PSs X (s :: ss) (tS X.K fns (seqS g h) (as ++ bs)) := by
  have l1 : ∀ i ∈ as, i ∈ as ++ bs := fun i hi => List.mem_append_left _ hi
  have l2 : ∀ i ∈ bs, i ∈ as ++ bs := fun i hi => List.mem_append_right _ hi
  refine PSs.imp (pss_cons hg hh) fun Dn σ H q => ?_
  obtain ⟨F, ρ, fs, fl, ρ', w, en, q, aft⟩ := q
  simp only [seqS, Option.bind_eq_bind, Option.bind_eq_some_iff, Prod.exists] at q
  obtain ⟨f, ρ1, q1, q2⟩ := q
  refine ⟨F, ρ, fs, f, ρ1, w, en, q1, ?_⟩
  cases f with
  | nx => exact fun F1 H1 fs1 σ1 p => ⟨F1, ρ1, fs1, fl, ρ', p.wf, p.env, q2, aft.seq p l1 l2⟩
  | bk => cases q2; exact fun F1 H1 fs1 σ1 p => aft _ _ _ _ (p.mono l1)
  | ct => cases q2; exact fun F1 H1 fs1 σ1 p => aft _ _ _ _ (p.mono l1)
  | rt d => cases q2; exact fun F1 H1 fs1 σ1 x P p => aft _ _ _ _ _ _ (p.mono l1)
def iteS (c : EvT) (g h : Rho → Option (Fl × Rho)) : Rho → Option (Fl × Rho) := fun ρ => do
  let (t, ρ1) ← c ρ
  let k ← truD t
  if k = true then g ρ1 else h ρ1
theorem st_ite {c : Expr} {a b : List Stmt} {gc : EvT} {g h : Rho → Option (Fl × Rho)} {as bs : List Nat} {p : Pos} (hc : Snd X fns c gc) (ha : PSs X a (tS X.K fns g as)) (hb : PSs X b (tS X.K fns h bs)) : PS X (.If c a b p) (tS X.K fns (iteS gc g h) (as ++ bs)) := by
  have l1 : ∀ i ∈ as, i ∈ as ++ bs := fun i hi => List.mem_append_left _ hi
  have l2 : ∀ i ∈ bs, i ∈ as ++ bs := fun i hi => List.mem_append_right _ hi
  refine PS.imp (ps_if hc.tst ha hb) fun Dn σ H q => ?_
  obtain ⟨F, ρ, fs, fl, ρ', w, en, q, aft⟩ := q
  simp only [iteS, Option.bind_eq_bind, Option.bind_eq_some_iff, Prod.exists] at q
  obtain ⟨t, ρ1, q1, k, q2, q3⟩ := q
  refine ⟨F, ρ, fs, t, ρ1, k, w, en, q1, q2, fun F1 H1 fs1 x P p => ?_⟩
  have ps : SPost X.K fns F H fs σ F1 H1 fs1 σ ρ1 [] := p.st
  cases k with
  | true => exact iteT ⟨F1, ρ1, fs1, fl, ρ', p.wf, p.env, q3, aft.seq ps (fun _ z => nomatch z) l1⟩
  | false => exact iteF ⟨F1, ρ1, fs1, fl, ρ', p.wf, p.env, q3, aft.seq ps (fun _ z => nomatch z) l2⟩
theorem whlGo_some {test : EvT} {body : Rho → Option (Fl × Rho)} {n : Nat} {ρ : Rho} {r : Fl × Rho} (h : whlGo test body n ρ = some r) : ∃ m t ρ1 b, n = m + 1 ∧ test ρ = some (t, ρ1) ∧ truD t = some b ∧
    (if b = true then ∃ f ρ2, body ρ1 = some (f, ρ2) ∧ (match f with
      | .nx => whlGo test body m ρ2
      | .ct => whlGo test body m ρ2
      | .bk => some (.nx, ρ2)
      | .rt d => some (.rt d, ρ2)) = some r else r = (.nx, ρ1)) := by
  cases n with
  | zero => cases h
  | succ m =>
    rw [whlGo] at h
    simp only [Option.bind_eq_bind, Option.bind_eq_some_iff, Prod.exists] at h
    obtain ⟨t, ρ1, h1, b, h2, h3⟩ := h
    refine ⟨m, t, ρ1, b, rfl, h1, h2, ?_⟩
    cases b with
    | true =>
      simp only [if_pos, Option.bind_eq_some_iff, Prod.exists] at h3
      obtain ⟨f, ρ2, h4, h5⟩ := h3
      exact iteT ⟨f, ρ2, h4, h5⟩
    | false =>
      have h3 : some (Fl.nx, ρ1) = some r := h3
      exact iteF (Option.some.inj h3).symm
theorem st_whl (hx : X.xe = fun _ _ => False) {c : Expr} {b : List Stmt} {gc : EvT} {g : Rho → Option (Fl × Rho)} {as : List Nat} {p : Pos} (W : Nat) (hc : Snd X fns c gc) (hb : PSs X b (tS X.K fns g as)) : PS X (.While c b [] p) (tS X.K fns (whlGo gc g W) as) := by
  refine PS.imp (ps_while (by rw [hx]; exact PassesOwn.never) hc.tst hb) fun Dn σ H q => ?_
  obtain ⟨F, ρ, fs, fl, ρ', w, en, q, aft⟩ := q
  refine ⟨fun m σ1 H1 => ∃ F1 ρ1 fs1, SPost X.K fns F H fs σ F1 H1 fs1 σ1 ρ1 as ∧ whlGo gc g m ρ1 = some (fl, ρ'), ⟨W, F, ρ, fs, .refl w en, q⟩, ?_⟩
  rintro m σ1 H1 ⟨F1, ρ1, fs1, p1, q1⟩
  obtain ⟨n, t, ρ2, k, rfl, q2, q3, q4⟩ := whlGo_some q1
  refine ⟨F1, ρ1, fs1, t, ρ2, k, p1.wf, p1.env, q2, q3, fun F2 H2 fs2 x P p2 => ?_⟩
  have p3 : SPost X.K fns F H fs σ F2 H2 fs2 σ1 ρ2 as := p1.seq (bs := []) p2.st (fun _ h => h) (fun _ h => nomatch h)
  cases k with
  | false =>
    have q4 : (fl, ρ') = (Fl.nx, ρ2) := q4
    cases q4
    exact iteF (aft _ _ _ _ p3)
  | true =>
    obtain ⟨f, ρ3, q5, q6⟩ := (show ∃ f ρ3, g ρ2 = some (f, ρ3) ∧ _ from q4)
    refine iteT ⟨fun σ' H' => ∃ F1 ρ1 fs1, SPost X.K fns F H fs σ F1 H' fs1 σ' ρ1 as ∧ whlGo gc g n ρ1 = some (fl, ρ'), fun σ' H' h => ⟨n, Nat.lt_succ_self n, h⟩, F2, ρ2, fs2, f, ρ3, p2.wf, p2.env, q5, ?_⟩
    cases f with
    | nx => exact fun F4 H4 fs4 σ4 p4 => ⟨F4, ρ3, fs4, p3.seq p4 (fun _ h => h) (fun _ h => h), q6⟩
    | ct => exact fun F4 H4 fs4 σ4 p4 => ⟨F4, ρ3, fs4, p3.seq p4 (fun _ h => h) (fun _ h => h), q6⟩
    | bk => cases q6; exact fun F4 H4 fs4 σ4 p4 => aft _ _ _ _ (p3.seq p4 (fun _ h => h) (fun _ h => h))
    | rt d => cases q6; exact fun F4 H4 fs4 σ4 x P p4 => aft _ _ _ _ _ _ (RPost.seq p3 p4 (fun _ h => h) (fun _ h => h))
theorem forGo_cons {set : D → Rho → Option Rho} {body : Rho → Option (Fl × Rho)} {d : D} {ds : List D} {ρ : Rho} {r : Fl × Rho} (h : forGo set body (d :: ds) ρ = some r) : ∃ ρ1 f ρ2, set d ρ = some ρ1 ∧ body ρ1 = some (f, ρ2) ∧ (match f with
      | .nx => forGo set body ds ρ2
      | .ct => forGo set body ds ρ2
      | .bk => some (.nx, ρ2)
      | .rt d => some (.rt d, ρ2)) = some r := by
  rw [forGo] at h
  simp only [Option.bind_eq_bind, Option.bind_eq_some_iff, Prod.exists] at h
  obtain ⟨ρ1, h1, f, ρ2, h2, h3⟩ := h
  exact ⟨ρ1, f, ρ2, h1, h2, h3⟩
def forE (gi : Rho → Option (List D × Rho)) (t : Tg) (g : Rho → Option (Fl × Rho)) : Rho → Option (Fl × Rho) := fun ρ => do
  let (ds, ρ1) ← gi ρ
  forGo (setT t) g ds ρ1
theorem for_main {K : PySem.W.Frag} {t : Tg} {gi : Rho → Option (List D × Rho)} {g : Rho → Option (Fl × Rho)} {as : List Nat} {Dn : Ends} {σ : L2.St} {H : Hp} (q : tS K fns (forE gi t g) (tgSlots t ++ as) Dn σ H) : tFor (tI K fns gi) (tG K fns t) (tS K fns g as) Dn σ H := by
  have l1 : ∀ i ∈ tgSlots t, i ∈ tgSlots t ++ as := fun i hi => List.mem_append_left _ hi
  have l2 : ∀ i ∈ as, i ∈ tgSlots t ++ as := fun i hi => List.mem_append_right _ hi
  unfold forE at q
  obtain ⟨F, ρ, fs, fl, ρ', w, en, q, aft⟩ := q
  simp only [Option.bind_eq_bind, Option.bind_eq_some_iff, Prod.exists] at q
  obtain ⟨ds, ρ1, q1, q2⟩ := q
  refine ⟨F, ρ, fs, ds, ρ1, w, en, q1, fun F1 H1 fs1 J ip => ?_⟩
  obtain ⟨p1, ok, hok, drv⟩ := ip
  refine ⟨fun i m σ2 H2 => m = ds.length - i ∧ i ≤ ds.length ∧ ∃ F2 ρ2 fs2, SPost K fns F H fs σ F2 H2 fs2 σ2 ρ2 (tgSlots t ++ as) ∧ ok F2 H2 ∧ forGo (setT t) g (ds.drop i) ρ2 = some (fl, ρ'), ⟨ds.length, by simp, Nat.zero_le _, F1, ρ1, fs1, p1.st, hok, q2⟩, ?_⟩
  rintro i m σ2 H2 ⟨rfl, hi', F2, ρ2, fs2, p2, hok2, q3⟩
  by_cases hlt : i < ds.length
  · have hd : ds[i]? = some ds[i] := List.getElem?_eq_getElem hlt
    rw [List.drop_eq_getElem_cons hlt] at q3
    obtain ⟨ρ3, f, ρ4, q4, q5, q6⟩ := forGo_cons q3
    obtain ⟨go, yl⟩ := drv.go i _ F2 H2 p2.wf hok2 hd
    refine .inr ⟨go, fun σ' H' => ∃ F2 ρ2 fs2, SPost K fns F H fs σ F2 H' fs2 σ' ρ2 (tgSlots t ++ as) ∧ ok F2 H' ∧ forGo (setT t) g (ds.drop (i + 1)) ρ2 = some (fl, ρ'), fun σ' H' h => ⟨ds.length - (i + 1), by omega, rfl, hlt, h⟩, fun x H3 y => ?_⟩
    obtain ⟨F3, st, wf3, rx⟩ := yl x H3 y
    have e3 : EnvR K fns F3 H3 σ2 ρ2 fs2 := p2.env.step st OwnS.emp fun _ _ z => z
    have hok3 := drv.stay _ _ _ _ _ hok2 st OwnS.emp
    refine ⟨F3, _, Emp, ρ2, fs2, ρ3, wf3, e3, rx, OwnS.emp, fun _ z => z.elim, q4, fun σ4 fs4 e4 hn4 hs4 hl4 => ?_⟩
    have p4 : SPost K fns F H fs σ F3 H3 fs4 σ4 ρ3 (tgSlots t ++ as) := p2.seq (bs := tgSlots t) ⟨st.weak Emp.sb, wf3, e4, fun a z => .inl ((hn4 a z).resolve_right id), hs4⟩ (fun _ h => h) l1
    refine ⟨F3, ρ3, fs4, f, ρ4, wf3, e4, q5, ?_⟩
    cases f with
    | nx => exact fun F5 H5 fs5 σ5 p5 => ⟨F5, ρ4, fs5, p4.seq p5 (fun _ h => h) l2, drv.stay _ _ _ _ _ hok3 p5.step e4.own, q6⟩
    | ct => exact fun F5 H5 fs5 σ5 p5 => ⟨F5, ρ4, fs5, p4.seq p5 (fun _ h => h) l2, drv.stay _ _ _ _ _ hok3 p5.step e4.own, q6⟩
    | bk => cases q6; exact fun F5 H5 fs5 σ5 p5 => aft _ _ _ _ (p4.seq p5 (fun _ h => h) l2)
    | rt d => cases q6; exact fun F5 H5 fs5 σ5 x P p5 => aft _ _ _ _ _ _ (RPost.seq p4 p5 (fun _ h => h) l2)
  · have ei : i = ds.length := by omega
    subst ei
    rw [List.drop_length] at q3
    have q3 : some (Fl.nx, ρ2) = some (fl, ρ') := q3
    cases q3
    exact .inl ⟨drv.stop _ F2 H2 hok2 (Nat.le_refl _), aft _ _ _ _ p2⟩
end
end VK

set_option Elab.async false
set_option linter.all false
set_option maxRecDepth 100000
namespace VK
open PySem PySem.Spec PyProof.Rows L2
section
variable {X : Cx} {fns : List Addr} {T : Tab} {C : CallF} {N : List Str} {sc : Scope} {fnp : Str → Bool}
theorem swapsT_ok (ts : List Expr) (k : Nat) (p : Pos) (l : Nat) (env : PySem.Env) (e : E) : swapsWith e.ast (some (.Tuple ts k p)) l env = pure false := by
  apply E.rec (motive_1 := fun e => swapsWith e.ast (some (.Tuple ts k p)) l env = pure false) (motive_2 := fun _ => True) (motive_3 := fun _ => True) (motive_4 := fun _ => True) (motive_5 := fun _ => True) <;> intros <;> first | rfl | trivial | assumption
theorem swapsC_ok {x : Str} {p : Pos} {l : Nat} {env : PySem.Env} (h : env.scope.names.lookup x = some .cell) (e : E) : swapsWith e.ast (some (.Name x p)) l env = pure false := by
  have hk : env.kindOf x = some .cell := h
  apply E.rec (motive_1 := fun e => swapsWith e.ast (some (.Name x p)) l env = pure false) (motive_2 := fun _ => True) (motive_3 := fun _ => True) (motive_4 := fun _ => True) (motive_5 := fun _ => True) <;> intros <;> first | rfl | trivial | assumption | skip
  all_goals
    unfold swapsWith
    simp only [E.ast, hk, Option.some_beq_some]
    rw [show (NameKind.cell == NameKind.local) = false from rfl, Bool.and_false, Bool.false_and, Bool.false_and]
theorem st_asg2 (G : GX fns T C N sc fnp X) {t : Tg} {e : E} {g : EvT} {p : Pos} (h : PE X e.ast (tE X.K fns g)) (hs : swapsWithSole [t.ast] e.ast p.line X.env = pure false) (ht : tgB N sc fnp t = true) (hh : (match t with
    | .nm _ => true
    | .tup _ _ _ => !isTup e) = true) : PS X (.Assign [t.ast] e.ast p) (tS X.K fns (fun ρ => do
    let (d, ρ1) ← g ρ
    let ρ2 ← setT t d ρ1
    pure (.nx, ρ2)) (tgSlots t)) := by
  have hw : swappedStores [t.ast] e.ast X.env = pure none := by
    cases t with
    | nm t => exact noSwapN_ok _ _ _ e
    | tup ts k tp => exact noSwap_ok _ _ _ _ e (by simpa using hh)
  have h1 : (assignEach [t.ast] X.env).map (·.2) = [assign t.ast X.env] := by cases t <;> rfl
  refine PS.imp (ps_asg h (g_all G ht) hs hw h1) fun Dn σ H q => ?_
  obtain ⟨F, ρ, fs, fl, ρ', w, en, q, aft⟩ := q
  simp only [Option.bind_eq_bind, Option.bind_eq_some_iff, Prod.exists, Option.pure_def, Option.some.injEq, Prod.mk.injEq] at q
  obtain ⟨d, ρ1, q1, ρ2, q2, rfl, rfl⟩ := q
  refine ⟨F, ρ, fs, d, _, w, en, q1, fun F1 H1 fs1 x P p => ?_⟩
  exact ⟨F1, d, P, ρ1, fs1, _, p.wf, p.env, p.rep, p.own, p.dj, q2, fun σ' fs' e' hn hs' hl' => aft _ _ _ _ (p.set e' hn hs')⟩
/-- name = [..] on one line -/
theorem st_asgC {t : TgN} {s : Stmt} {g : EvT} {te : TE} (h : PS X s (tAsg te (gName t.i))) (i : ∀ σ H Q, tE X.K fns g σ H Q → te σ H Q) : PS X s (tS X.K fns (fun ρ => do
    let (d, ρ1) ← g ρ
    pure (.nx, ρ1.set t.i (some d))) [t.i]) := by
  refine PS.imp h fun Dn σ H q => ?_
  obtain ⟨F, ρ, fs, fl, ρ', w, en, q, aft⟩ := q
  simp only [Option.bind_eq_bind, Option.bind_eq_some_iff, Prod.exists, Option.pure_def, Option.some.injEq, Prod.mk.injEq] at q
  obtain ⟨d, ρ1, q1, rfl, rfl⟩ := q
  refine i σ H _ ⟨F, ρ, fs, d, ρ1, w, en, q1, fun F1 H1 fs1 x P p => ?_⟩
  exact aft _ _ _ _ (p.set (p.env.set p.rep p.own fun j _ a z u => p.dj a z ⟨j, u⟩) (fun a z => (UU_fupd z).symm) fun j hj => set_out fun e => hj (by simp [e]))
def augS (op : Operator) (i : Nat) (g : EvT) : Rho → Option (Fl × Rho) := fun ρ => do
  match ρ[i]? with
  | some (some (.int a)) => do
    let (y, ρ1) ← g ρ
    let r ← augI op a y
    pure (.nx, ρ1.set i (some r))
  | _ => none
theorem st_aug (G : GX fns T C N sc fnp X) {op : Operator} {t : TgN} {e : E} {g : EvT} {p : Pos} (h : PE X e.ast (tE X.K fns g)) (ht : tgnB N sc fnp t = true) (ho : op = .Add ∨ op = .Sub) : PS X (.AugAssign t.ast op e.ast p) (tS X.K fns (augS op t.i g) [t.i]) := by
  unfold tgnB at ht
  simp only [Bool.and_eq_true, decide_eq_true_eq] at ht
  have loc : Loc X.env.scope t.x ∧ (X.fn t.x = true ∨ X.env.scope.names.lookup t.x = some .local) := by
    rw [G.sc, G.fnp]
    have h2 := ht.2
    split at h2
    · exact ⟨.inl ‹_›, .inr ‹_›⟩
    · exact ⟨.inr ‹_›, .inl h2⟩
    · cases h2
  have main : ∀ {f : Int → Int → Int}, PIp X op (ipI f) → (∀ a y r, augI op a y = some r → ∃ j, y = .int j ∧ r = .int (f a j)) → PS X (.AugAssign t.ast op e.ast p) (tS X.K fns (augS op t.i g) [t.i]) := by
    intro f ip hf
    refine PS.imp (ps_aug (by rw [G.eN]; exact G.nd) (by rw [G.eN]; exact ht.1) loc.1 h ip loc.2) fun Dn σ H q => ?_
    obtain ⟨F, ρ, fs, fl, ρ', w, en, q, aft⟩ := q
    unfold augS at q
    split at q
    · rename_i a ha
      simp only [Option.bind_eq_bind, Option.bind_eq_some_iff, Prod.exists, Option.pure_def, Option.some.injEq, Prod.mk.injEq] at q
      obtain ⟨y, ρ1, q1, r, q2, rfl, rfl⟩ := q
      obtain ⟨v, hv, rv⟩ := en.rep _ _ ha
      cases (show v = _ from rv)
      obtain ⟨j, rfl, rfl⟩ := hf _ _ _ q2
      refine ⟨_, hv, F, ρ, fs, _, ρ1, w, en, q1, fun F1 H1 fs1 x P p => ?_⟩
      cases (show x = _ from p.rep)
      refine ⟨_, _, rfl, rfl, aft _ _ _ _ ((p.drop (x := .int (f a j)) (d := .int (f a j)) rfl).set ((p.env).set (P := Emp) rfl OwnS.emp fun _ _ _ z => z.elim) (fun a z => (UU_fupd z).symm) fun j hj => set_out fun e => hj (by simp [e]))⟩
    · cases q
  rcases ho with rfl | rfl
  · exact main ip_add fun a y r h => by cases y <;> first | (cases h; done) | exact ⟨_, rfl, (Option.some.inj h).symm⟩
  · exact main ip_sub fun a y r h => by cases y <;> first | (cases h; done) | exact ⟨_, rfl, (Option.some.inj h).symm⟩
/-- a, b = e1, e2 -/
theorem st_par {t u : TgN} {a b : E} {ga gb : EvT} {s : Stmt} {ta : TA} (h : PS X s (tPar t.i u.i ta)) (htu : t.i ≠ u.i) (ht : ta = tCons (tE X.K fns ga) (tCons (tE X.K fns gb) tNil)) : PS X s (tS X.K fns (fun ρ => do
    let (x, ρ1) ← ga ρ
    let (y, ρ2) ← gb ρ1
    pure (.nx, (ρ2.set t.i (some x)).set u.i (some y))) [t.i, u.i]) := by
  subst ht
  refine PS.imp h fun Dn σ H q => ?_
  obtain ⟨F, ρ, fs, fl, ρ', w, en, q, aft⟩ := q
  simp only [Option.bind_eq_bind, Option.bind_eq_some_iff, Prod.exists, Option.pure_def, Option.some.injEq, Prod.mk.injEq] at q
  obtain ⟨d, ρ1, q1, e, ρ2, q2, rfl, rfl⟩ := q
  refine ⟨F, ρ, fs, d, ρ1, w, en, q1, fun F1 H1 fs1 x P p1 => ?_⟩
  refine ⟨F1, ρ1, fs1, e, ρ2, p1.wf, p1.env, q2, fun F2 H2 fs2 y Q p2 => ?_⟩
  have p := p1.two p2
  obtain ⟨PA, PB, sa, sb, dj, rx, ry⟩ := p.rep.of2
  refine ⟨x, y, rfl, ?_⟩
  have e1 := p.env.set (i := t.i) rx (p.own.sb sa) fun j _ a z u => p.dj a (sa a z) ⟨j, u⟩
  have e2 := e1.set (i := u.i) ry (p.own.sb sb) fun j hj a z v => by
    by_cases hjt : j = t.i
    · subst hjt; rw [fupd_same] at v; exact dj a v z
    · rw [fupd_ne hjt] at v; exact p.dj a (sb a z) ⟨j, v⟩
  refine aft _ _ _ _ ⟨p.step, p.wf, e2, fun a z => ?_, fun j hj => ?_⟩
  · rcases UU_fupd z with z | z
    · exact p.new a (.inl (sb a z))
    · rcases UU_fupd z with z | z
      · exact p.new a (.inl (sa a z))
      · exact p.new a (.inr z)
  · have hj : j ≠ t.i ∧ j ≠ u.i := by simpa using hj
    rw [set_out hj.2, set_out hj.1]
/-! ### name[i] = v -/
theorem set_dict (hu : X.A.units + 1 < cLine) : PSet X (fun o i v H Q => ∃ a H', o = .ref a ∧ DPut H a i v H' ∧ Q H') := by
  intro pins s σ H o i v ov iv u Q I ro ri rv q
  obtain ⟨a, H', rfl, g, q⟩ := q
  cases ro
  exact d_setItem hu I g ri rv fun s' I' => ⟨H', I', q⟩
theorem PSet.or {r r' : TSet} (h : PSet X r) (h' : PSet X r') : PSet X (fun o i v H Q => r o i v H Q ∨ r' o i v H Q) := by
  intro pins s σ H o i v ov iv u Q I ro ri rv q
  rcases q with q | q
  · exact h pins s σ H o i v ov iv u Q I ro ri rv q
  · exact h' pins s σ H o i v ov iv u Q I ro ri rv q
theorem RepP.repl {K : PySem.W.Frag} {F Q : PS_} {H : Hp} {k : Key} {d : D} {v : V} (r : Rep K fns F H d v Q) : ∀ {kvs : List (Key × D)} {kw : List (Key × V)} {P : PS_}, RepP K fns F H kvs kw P → (kvs.map (·.1)).Nodup → Dj P Q →
    RepP K fns F H (kvs.map (fun kv => if kv.1 = k then (kv.1, d) else kv)) (kw.map (fun kv => if kv.1 = k then (kv.1, v) else kv)) (Un2 P Q)
  | [], _, _, h, _, _ => by cases (show _ = [] from h); rfl
  | (k0, d0) :: ds, _, _, ⟨v0, w, P1, P2, e, s1, s2, dj, h1, h2⟩, nd, dq => by
    subst e
    obtain ⟨n1, n2⟩ := List.nodup_cons.mp nd
    rw [List.map_cons, List.map_cons]
    by_cases hk : k0 = k
    · subst hk
      have e1 : ds.map (fun kv => if kv.1 = k0 then (kv.1, d) else kv) = ds := by
        conv => rhs; rw [← List.map_id ds]
        apply List.map_congr_left
        intro kv hkv
        have hne : ¬ kv.1 = k0 := fun e => n1 (by rw [← e]; exact List.mem_map.mpr ⟨kv, hkv, rfl⟩)
        rw [if_neg hne]; rfl
      have keys : w.map (·.1) = ds.map (·.1) := by
        clear e1 n1 n2 nd
        revert h2
        have : ∀ {ds : List (Key × D)} {w : List (Key × V)} {P : PS_}, RepP K fns F H ds w P → w.map (·.1) = ds.map (·.1) := by
          intro ds
          induction ds with
          | nil => intro w P h; cases (show w = [] from h); rfl
          | cons p ds ih =>
            intro w P h
            obtain ⟨k1, d1⟩ := p
            obtain ⟨v1, w1, _, _, e, _, _, _, _, h⟩ := h
            subst e
            rw [List.map_cons, List.map_cons, ih h]
        exact fun h => this h
      have e2 : w.map (fun kv => if kv.1 = k0 then (kv.1, v) else kv) = w := by
        conv => rhs; rw [← List.map_id w]
        apply List.map_congr_left
        intro kv hkv
        have hne : ¬ kv.1 = k0 := fun e => n1 (by rw [← keys, ← e]; exact List.mem_map.mpr ⟨kv, hkv, rfl⟩)
        rw [if_neg hne]; rfl
      rw [e1, e2, if_pos rfl, if_pos rfl]
      exact ⟨v, w, Q, P2, rfl, fun _ => .inr, fun a z => .inl (s2 a z), fun a z u => dq a (s2 a u) z, r, h2⟩
    · rw [if_neg hk, if_neg hk]
      exact ⟨v0, _, P1, _, rfl, fun a z => .inl (s1 a z), fun a z => z.imp (s2 a) id, fun a z u => u.elim (dj a z) (dq a (s1 a z)), h1, RepP.repl r h2 n2 fun a z => dq a (s2 a z)⟩
theorem RepP.snoc {K : PySem.W.Frag} {F Q : PS_} {H : Hp} {k : Key} {d : D} {v : V} (r : Rep K fns F H d v Q) : ∀ {kvs : List (Key × D)} {kw : List (Key × V)} {P : PS_}, RepP K fns F H kvs kw P → Dj P Q → RepP K fns F H (kvs ++ [(k, d)]) (kw ++ [(k, v)]) (Un2 P Q)
  | [], _, _, h, _ => by
    cases (show _ = [] from h)
    exact ⟨v, [], Q, Emp, rfl, fun _ => .inr, Emp.sb, fun _ _ z => z, r, rfl⟩
  | (k0, d0) :: ds, _, _, ⟨v0, w, P1, P2, e, s1, s2, dj, h1, h2⟩, dq => by
    subst e
    exact ⟨v0, _, P1, _, rfl, fun a z => .inl (s1 a z), fun a z => z.imp (s2 a) id, fun a z u => u.elim (dj a z) (dq a (s1 a z)), h1, RepP.snoc r h2 fun a z => dq a (s2 a z)⟩
theorem RepP.anyK {K : PySem.W.Frag} {F : PS_} {H : Hp} (k : Key) : ∀ {kvs : List (Key × D)} {kw : List (Key × V)} {P : PS_}, RepP K fns F H kvs kw P → (kw.any fun kv => decide (kv.1 = k)) = (kvs.any fun kv => decide (kv.1 = k))
  | [], _, _, h => by cases (show _ = [] from h); rfl
  | (k0, d0) :: ds, _, _, ⟨v0, w, P1, P2, e, _, _, _, _, h2⟩ => by
    subst e
    rw [List.any_cons, List.any_cons, RepP.anyK k h2]
theorem RepP.len {K : PySem.W.Frag} {F : PS_} {H : Hp} : ∀ {kvs : List (Key × D)} {kw : List (Key × V)} {P : PS_}, RepP K fns F H kvs kw P → kw.length = kvs.length
  | [], _, _, h => by cases (show _ = [] from h); rfl
  | (k0, d0) :: ds, _, _, ⟨v0, w, P1, P2, e, _, _, _, _, h2⟩ => by
    subst e
    rw [List.length_cons, List.length_cons, RepP.len h2]
theorem RepP.put {K : PySem.W.Frag} {F P Q : PS_} {H : Hp} {k : Key} {d : D} {v : V} {kvs : List (Key × D)} {kw : List (Key × V)} (h : RepP K fns F H kvs kw P) (nd : (kvs.map (·.1)).Nodup) (r : Rep K fns F H d v Q) (dj : Dj P Q) :
    RepP K fns F H (putD kvs k d) (putK kw k v) (Un2 P Q) ∧ ((putD kvs k d).map (·.1)).Nodup := by
  unfold putD putK
  rw [RepP.anyK k h]
  by_cases hk : (kvs.any fun kv => decide (kv.1 = k)) = true
  · rw [if_pos hk, if_pos hk]
    refine ⟨RepP.repl r h nd dj, ?_⟩
    rw [List.map_map]
    have : ((fun x : Key × D => x.1) ∘ fun kv => if kv.1 = k then (kv.1, d) else kv) = fun x => x.1 := by
      funext kv
      show (if kv.1 = k then (kv.1, d) else kv).1 = kv.1
      split <;> rfl
    rw [this]
    exact nd
  · rw [if_neg hk, if_neg hk]
    refine ⟨RepP.snoc r h dj, ?_⟩
    rw [List.map_append, List.map_singleton]
    refine List.nodup_append.mpr ⟨nd, by simp, ?_⟩
    rintro a ha b hb rfl
    have hb : a = k := by simpa using hb
    subst hb
    obtain ⟨p, hp, e⟩ := List.mem_map.mp ha
    exact hk (List.any_eq_true.mpr ⟨p, hp, decide_eq_true e⟩)
end
end VK

set_option Elab.async false
set_option linter.all false
set_option maxRecDepth 100000
namespace VK
open PySem PySem.Spec PyProof.Rows L2
section
variable {X : Cx} {fns : List Addr} {T : Tab} {C : CallF} {N : List Str} {sc : Scope} {fnp : Str → Bool}
/-! ### displays of dicts -/
structure PPost (K : PySem.W.Frag) (fns : List Addr) (F : PS_) (H : Hp) (fs : Nat → PS_) (F' : PS_) (H' : Hp) (fs' : Nat → PS_) (σ : L2.St) (ρ' : Rho) (ds : List (Key × D)) (xs : List (Key × V)) (P : PS_) : Prop where
  step : Step (UU fs) F F' H H'
  wf : WfF F' H'
  env : EnvR K fns F' H' σ ρ' fs'
  rep : RepP K fns F' H' ds xs P
  own : OwnS F' H' P
  dj : Dj P (UU fs')
  new : ∀ a, P a ∨ UU fs' a → UU fs a ∨ H a = none
def tP (K : PySem.W.Frag) (fns : List Addr) (g : Rho → Option (List (Key × D) × Rho)) : L2.St → Hp → (List (V × V) → Hp → Prop) → Prop := fun σ H Q => ∃ F ρ fs ds ρ', WfF F H ∧ EnvR K fns F H σ ρ fs ∧ g ρ = some (ds, ρ') ∧
  ∀ F' H' fs' xs P, PPost K fns F H fs F' H' fs' σ ρ' ds xs P → Q (xs.map fun kv => (kV kv.1, kv.2)) H'
def pairE (gk gv : EvT) (gr : Rho → Option (List (Key × D) × Rho)) : Rho → Option (List (Key × D) × Rho) := fun ρ => do
  let (x, ρ1) ← gk ρ
  let (y, ρ2) ← gv ρ1
  let (r, ρ3) ← gr ρ2
  let k ← keyD x
  pure ((k, y) :: r, ρ3)
theorem key_rep {K : PySem.W.Frag} {F P : PS_} {H : Hp} {d : D} {x : V} {k : Key} (r : Rep K fns F H d x P) (h : keyD d = some k) : x = kV k := by
  cases d with
  | int i => cases h; exact r
  | str z => cases h; exact r
  | _ => cases h
theorem tP_nil {K : PySem.W.Frag} {σ : L2.St} {H : Hp} {Q : List (V × V) → Hp → Prop} (h : tP K fns (fun ρ => some ([], ρ)) σ H Q) : tPairs [] σ H Q := by
  obtain ⟨F, ρ, fs, ds, ρ', w, e, q, post⟩ := h
  cases q
  exact post _ _ _ [] Emp ⟨Step.refl, w, e, rfl, OwnS.emp, fun _ z => z.elim, fun _ z => z.elim False.elim .inl⟩
theorem tP_cons {K : PySem.W.Frag} {gk gv : EvT} {gr : Rho → Option (List (Key × D) × Rho)} {trs : List (TE × TE)} (hr : ∀ σ H Q, tP K fns gr σ H Q → tPairs trs σ H Q) {σ : L2.St} {H : Hp} {Q : List (V × V) → Hp → Prop} (h : tP K fns (pairE gk gv gr) σ H Q) :
    tPairs ((tE K fns gk, tE K fns gv) :: trs) σ H Q := by
  obtain ⟨F, ρ, fs, ds, ρ', w, e, q, post⟩ := h
  simp only [pairE, Option.bind_eq_bind, Option.bind_eq_some_iff, Prod.exists, Option.pure_def, Option.some.injEq, Prod.mk.injEq] at q
  obtain ⟨x, ρ1, q1, y, ρ2, q2, r, ρ3, q3, k, q4, rfl, rfl⟩ := q
  refine ⟨F, ρ, fs, x, ρ1, w, e, q1, fun F1 H1 fs1 vx P1 p1 => ?_⟩
  refine ⟨F1, ρ1, fs1, y, ρ2, p1.wf, p1.env, q2, fun F2 H2 fs2 vy P2 p2 => ?_⟩
  refine hr σ H2 _ ⟨F2, ρ2, fs2, r, ρ3, p2.wf, p2.env, q3, fun F3 H3 fs3 xs P3 p3 => ?_⟩
  have ek := key_rep p1.rep q4
  subst ek
  have p := p1.seq p2
  have out : ∀ a, P2 a → ¬ (UU fs2 a ∨ H2 a = none) := fun a z u => by
    rcases u with u | u
    · exact p.dj a z u
    · obtain ⟨_, o, e, _⟩ := p.own a z; rw [e] at u; cases u
  have rr := post F3 H3 fs3 ((k, vy) :: xs) (Un2 P2 P3) ⟨p.step.trans p3.step fun c h => p.new c (.inr h), p3.wf, p3.env,
    ⟨vy, xs, P2, P3, rfl, fun _ => .inl, fun _ => .inr, fun a z u => out a z (p3.new a (.inl u)), p3.step.rep p.env.own (fun a z u => p.dj a z u) p.rep, p3.rep⟩, (p3.step.own (fun a z u => p.dj a z u) p.own).un p3.own,
    fun a z u => z.elim (fun z => out a z (p3.new a (.inr u))) fun z => p3.dj a z u, fun a z => ?_⟩
  · exact rr
  · rcases z with (z | z) | z
    · exact p.new a (.inl z)
    · exact back_new p.step (fun a h => p.new a (.inr h)) (p3.new a (.inl z))
    · exact back_new p.step (fun a h => p.new a (.inr h)) (p3.new a (.inr z))
theorem RepP.merge {K : PySem.W.Frag} {F : PS_} {H : Hp} : ∀ {kvs : List (Key × D)} {kw : List (Key × V)} {P : PS_} {acc : List (Key × D)} {aw : List (Key × V)} {PA : PS_}, RepP K fns F H kvs kw P → RepP K fns F H acc aw PA → (acc.map (·.1)).Nodup → Dj PA P →
    RepP K fns F H (mergeD acc kvs) (mergeK aw kw) (Un2 PA P) ∧ ((mergeD acc kvs).map (·.1)).Nodup
  | [], _, _, acc, aw, PA, h, ha, nd, _ => by cases (show _ = [] from h); exact ⟨ha.mono fun _ => .inl, nd⟩
  | (k, d) :: r, _, P, acc, aw, PA, ⟨v, w, P1, P2, e, s1, s2, dj, h1, h2⟩, ha, nd, dp => by
    subst e
    obtain ⟨r1, n1⟩ := RepP.put (k := k) ha nd h1 fun a z u => dp a z (s1 a u)
    obtain ⟨r2, n2⟩ := RepP.merge h2 r1 n1 fun a z u => z.elim (fun z => dp a z (s2 a u)) fun z => dj a z u
    exact ⟨r2.mono fun a z => z.elim (fun z => z.elim .inl fun z => .inr (s1 a z)) fun z => .inr (s2 a z), n2⟩
def dctE (g : Rho → Option (List (Key × D) × Rho)) : EvT := fun ρ => do
  let (kvs, ρ1) ← g ρ
  if kvs.length ≤ 15 then pure (.dct .own (mergeD [] kvs), ρ1) else none
theorem dctE_some {g : Rho → Option (List (Key × D) × Rho)} {ρ : Rho} {d : D} {ρ' : Rho} (h : dctE g ρ = some (d, ρ')) : ∃ kvs, g ρ = some (kvs, ρ') ∧ kvs.length ≤ 15 ∧ d = .dct .own (mergeD [] kvs) := by
  simp only [dctE, Option.bind_eq_bind, Option.bind_eq_some_iff, Prod.exists] at h
  obtain ⟨kvs, ρ1, h1, h2⟩ := h
  split at h2
  · cases h2; exact ⟨kvs, h1, ‹_›, rfl⟩
  · cases h2
theorem s_dct0 {p : Pos} : PE X (.Dict [] [] p) (tE X.K fns (dctE fun ρ => some ([], ρ))) := by
  refine PE.imp pe_dnewK fun σ H Q q => ?_
  obtain ⟨F, ρ, fs, d, ρ', w, e, q, post⟩ := q
  obtain ⟨kvs, h1, h2, rfl⟩ := dctE_some q
  cases h1
  intro a na
  have p0 : APost X.K fns F H fs F H fs σ _ [] [] Emp := .nil w e
  exact post _ _ _ _ _ (p0.fin (.newOwn w na trivial OwnS.emp ⟨a, [], rfl, upd_same, .inr rfl, rfl, .nil⟩))
theorem s_dct {ks : List (Option Expr)} {vs : List Expr} {trs : List (TE × TE)} {g : Rho → Option (List (Key × D) × Rho)} {p : Pos} (h : PPs X p ks vs trs) (hall : ks.all (·.isSome) = true) (hl : ks.length = vs.length) (h0 : ks ≠ []) (h15 : ks.length ≤ 15)
    (ht : ∀ σ H Q, tP X.K fns g σ H Q → tPairs trs σ H Q) : PE X (.Dict ks vs p) (tE X.K fns (dctE g)) := by
  refine PE.imp (pe_disp h hall hl h0 h15) fun σ H Q q => ?_
  obtain ⟨F, ρ, fs, d, ρ', w, e, q, post⟩ := q
  obtain ⟨kvs, h1, h2, rfl⟩ := dctE_some q
  intro a na
  have st : Step Emp F F H (upd H a (.dK [])) := ⟨Sb.rfl, fun b u e _ => upd_keep na e, fun _ f => .inl f⟩
  have e1 := e.step st OwnS.emp fun _ _ z => z
  have w1 : WfF F (upd H a (.dK [])) := fun b f => by obtain ⟨u, e⟩ := w b f; exact ⟨u, upd_keep na e⟩
  have nfs : ¬ UU fs a := fun u => by obtain ⟨_, o, e, _⟩ := e.own a u; rw [e] at na; cases na
  have nF : ¬ F a := fun u => by obtain ⟨o, e⟩ := w a u; rw [e] at na; cases na
  refine ht σ _ _ ⟨F, ρ, fs, kvs, ρ', w1, e1, h1, fun F2 H2 fs2 kw P p2 => ?_⟩
  have hA : H2 a = some (.dK []) := p2.step.keep _ _ upd_same nfs
  have out : ¬ (UU fs a ∨ (upd H a (.dK [])) a = none) := fun u => u.elim nfs fun u => by rw [upd_same] at u; cases u
  have nP : ¬ P a := fun z => out (p2.new a (.inl z))
  have nfs2 : ¬ UU fs2 a := fun z => out (p2.new a (.inr z))
  have nF2 : ¬ F2 a := fun f => by
    rcases p2.step.new a f with z | z | z
    · exact nF z
    · exact nfs z
    · rw [upd_same] at z; cases z
  refine ⟨hA, kw, rfl, by rw [p2.rep.len]; exact h2, ?_⟩
  have oA : OwnS F2 H2 (fun b => b = a) := fun b z => by subst z; exact ⟨nF2, _, hA, trivial⟩
  have sA : Step (fun b => b = a) F2 F2 H2 (upd H2 a (.dK (mergeK [] kw))) := ⟨Sb.rfl, fun b o e n => by rw [upd_ne n]; exact e, fun _ f => .inl f⟩
  obtain ⟨rm, nd⟩ := RepP.merge (acc := []) (aw := []) (PA := Emp) (RepP.frame (F' := F2) (H' := upd H2 a (.dK (mergeK [] kw))) Sb.rfl kvs kw P (fun b o e z => by
    rw [upd_ne (fun e' => by subst e'; exact z.elim nP nF2)]; exact e) p2.rep) rfl .nil fun _ z => z.elim
  have st2 : Step (UU fs) F F2 H (upd H2 a (.dK (mergeK [] kw))) := ((st.weak Emp.sb).trans p2.step fun c z => .inl z).trans sA fun c z => by subst z; exact .inr na
  have bk : ∀ b, UU fs b ∨ (upd H a (.dK [])) b = none → UU fs b ∨ H b = none := fun b z => z.imp id fun z => by
    cases e : H b with
    | none => rfl
    | some o => rw [upd_keep na e] at z; cases z
  refine post F2 _ fs2 (.ref a) (fun b => P b ∨ b = a) ⟨st2, fun b f => ?_, p2.env.step sA oA fun b z e => by subst e; exact nfs2 z, ⟨a, _, rfl, upd_same, .inr rfl, rm.mono fun b z => ⟨.inl (z.resolve_left id), fun e => nP (e ▸ z.resolve_left id)⟩, nd⟩, fun b z => ?_, fun b z u => ?_, fun b z => ?_⟩
  · obtain ⟨o, e⟩ := p2.wf b f
    exact ⟨o, by rw [upd_ne (fun e' => by subst e'; exact nF2 f)]; exact e⟩
  · rcases z with z | z
    · exact sA.own (P := P) (fun b z e => by subst e; exact nP z) p2.own b z
    · subst z; exact ⟨nF2, _, upd_same, trivial⟩
  · rcases z with z | z
    · exact p2.dj b z u
    · subst z; exact nfs2 u
  · rcases z with (z | z) | z
    · exact bk b (p2.new b (.inl z))
    · subst z; exact .inr na
    · exact bk b (p2.new b (.inr z))
/-! ### dicts that are locked while they are walked -/
section
variable {K : PySem.W.Frag} {F F' P : PS_} {H : Hp} {a : Addr} {od : Obj} {kw : List (Key × V)}
def Lk (H : Hp) (a : Addr) (od : Obj) (kw : List (Key × V)) : Hp := upd H a (.frz od (.dK kw))
theorem rd_lock {b : Addr} {u : HO} (e : H a = some (.dK kw)) (h : Rd H b u) : Rd (Lk H a od kw) b u := by
  by_cases hb : b = a
  · subst hb
    rcases h with h | ⟨o, h⟩
    · rw [e] at h; cases h; exact .inr ⟨od, upd_same⟩
    · rw [e] at h; cases h
  · unfold Rd; rw [show Lk H a od kw b = H b from upd_ne hb]; exact h
theorem rd_unlock {b : Addr} {u : HO} (e : H a = some (.frz od (.dK kw))) (nu : ∀ o w, u ≠ .frz o w) (h : Rd H b u) : Rd (upd H a (.dK kw)) b u := by
  by_cases hb : b = a
  · subst hb
    rcases h with h | ⟨o, h⟩
    · rw [e] at h; cases h; exact absurd rfl (nu _ _)
    · rw [e] at h; cases h; exact .inl upd_same
  · unfold Rd; rw [upd_ne hb]; exact h
mutual
theorem Rep.relay {H' : Hp} (hr : ∀ b u, (∀ o w, u ≠ HO.frz o w) → Rd H b u → Rd H' b u) (hl : ∀ b vs, H b = some (.lst vs) → H' b = some (.lst vs)) (ht : ∀ b vs, H b = some (.tup vs) → H' b = some (.tup vs)) (hd : ∀ b kvs, b ≠ a → H b = some (.dK kvs) → H' b = some (.dK kvs)) :
    ∀ (d : D) (v : V) (P : PS_), ¬ P a → Rep K fns F H d v P → Rep K fns F H' d v P
  | .non, _, _, _, h => h
  | .bl _, _, _, _, h => h
  | .int _, _, _, _, h => h
  | .str _, _, _, _, h => h
  | .fn _, _, _, _, h => h
  | .lst .own ds, v, P, n, h => by
    obtain ⟨b, vs, e, h1, h2, h3⟩ := h
    exact ⟨b, vs, e, hl b vs h1, h2, RepL.relay hr hl ht hd ds vs _ (fun z => n z.1) h3⟩
  | .lst .shr ds, v, P, n, h => by
    obtain ⟨b, vs, e, h1, h2, h3⟩ := h
    exact ⟨b, vs, e, hl b vs h1, h2, RepL.relay hr hl ht hd ds vs _ id h3⟩
  | .lst .ext ds, v, P, n, h => by
    obtain ⟨b, vs, e, h1, h3⟩ := h
    exact ⟨b, vs, e, h1.imp (fun z => ⟨hr _ _ (fun _ _ h => nomatch h) z.1, z.2⟩) id, RepL.relay hr hl ht hd ds vs _ id h3⟩
  | .tup ds, v, P, n, h => by
    obtain ⟨b, vs, e, h1, h3⟩ := h
    exact ⟨b, vs, e, h1.imp (fun z => ⟨ht _ _ z.1, z.2⟩) id, RepL.relay hr hl ht hd ds vs _ n h3⟩
  | .dct .own ds, v, P, n, h => by
    obtain ⟨b, vs, e, h1, h2, h3, nd⟩ := h
    exact ⟨b, vs, e, hd b vs (fun e => n (e ▸ h2)) h1, h2, RepP.relay hr hl ht hd ds vs _ (fun z => n z.1) h3, nd⟩
  | .dct .shr ds, v, P, n, h => by
    obtain ⟨b, vs, e, h1, h2, h3, nd⟩ := h
    exact ⟨b, vs, e, hr _ _ (fun _ _ h => nomatch h) h1, h2, RepP.relay hr hl ht hd ds vs _ id h3, nd⟩
  | .dct .ext ds, v, P, n, h => by
    obtain ⟨b, vs, e, h1, h2, h3, nd⟩ := h
    exact ⟨b, vs, e, hr _ _ (fun _ _ h => nomatch h) h1, h2, RepP.relay hr hl ht hd ds vs _ id h3, nd⟩
theorem RepL.relay {H' : Hp} (hr : ∀ b u, (∀ o w, u ≠ HO.frz o w) → Rd H b u → Rd H' b u) (hl : ∀ b vs, H b = some (.lst vs) → H' b = some (.lst vs)) (ht : ∀ b vs, H b = some (.tup vs) → H' b = some (.tup vs)) (hd : ∀ b kvs, b ≠ a → H b = some (.dK kvs) → H' b = some (.dK kvs)) :
    ∀ (ds : List D) (vs : List V) (P : PS_), ¬ P a → RepL K fns F H ds vs P → RepL K fns F H' ds vs P
  | [], _, _, _, h => h
  | d :: ds, vs, P, n, h => by
    obtain ⟨v, r, P1, P2, e, s1, s2, dj, h1, h2⟩ := h
    exact ⟨v, r, P1, P2, e, s1, s2, dj, Rep.relay hr hl ht hd d v P1 (fun z => n (s1 a z)) h1, RepL.relay hr hl ht hd ds r P2 (fun z => n (s2 a z)) h2⟩
theorem RepP.relay {H' : Hp} (hr : ∀ b u, (∀ o w, u ≠ HO.frz o w) → Rd H b u → Rd H' b u) (hl : ∀ b vs, H b = some (.lst vs) → H' b = some (.lst vs)) (ht : ∀ b vs, H b = some (.tup vs) → H' b = some (.tup vs)) (hd : ∀ b kvs, b ≠ a → H b = some (.dK kvs) → H' b = some (.dK kvs)) :
    ∀ (ds : List (Key × D)) (vs : List (Key × V)) (P : PS_), ¬ P a → RepP K fns F H ds vs P → RepP K fns F H' ds vs P
  | [], _, _, _, h => h
  | (k0, d) :: ds, vs, P, n, h => by
    obtain ⟨v, r, P1, P2, e, s1, s2, dj, h1, h2⟩ := h
    exact ⟨v, r, P1, P2, e, s1, s2, dj, Rep.relay hr hl ht hd d v P1 (fun z => n (s1 a z)) h1, RepP.relay hr hl ht hd ds r P2 (fun z => n (s2 a z)) h2⟩
end
theorem Rep.lock (e : H a = some (.dK kw)) {d : D} {v : V} (n : ¬ P a) (h : Rep K fns F H d v P) : Rep K fns F (Lk H a od kw) d v P :=
  Rep.relay (a := a) (fun _ _ _ h => rd_lock e h) (fun b vs h => by rw [show Lk H a od kw b = H b from upd_ne (fun q => by rw [q, e] at h; cases h)]; exact h) (fun b vs h => by rw [show Lk H a od kw b = H b from upd_ne (fun q => by rw [q, e] at h; cases h)]; exact h)
    (fun b kvs hb h => by rw [show Lk H a od kw b = H b from upd_ne hb]; exact h) d v P n h
theorem Rep.unlock (e : H a = some (.frz od (.dK kw))) {d : D} {v : V} (n : ¬ P a) (h : Rep K fns F H d v P) : Rep K fns F (L2.upd H a (.dK kw)) d v P :=
  Rep.relay (a := a) (fun _ _ nu h => rd_unlock e nu h) (fun b vs h => by rw [upd_ne (fun q => by rw [q, e] at h; cases h)]; exact h) (fun b vs h => by rw [upd_ne (fun q => by rw [q, e] at h; cases h)]; exact h)
    (fun b kvs hb h => by rw [upd_ne hb]; exact h) d v P n h
theorem OwnS.lock (e : H a = some (.dK kw)) (n : ¬ P a) (h : OwnS F H P) : OwnS F (Lk H a od kw) P := fun b z => by
  obtain ⟨nf, o, eo, i⟩ := h b z
  exact ⟨nf, o, by rw [show Lk H a od kw b = H b from upd_ne (fun q => n (by rw [← q]; exact z))]; exact eo, i⟩
theorem OwnS.unlock (n : ¬ P a) (h : OwnS F H P) : OwnS F (upd H a (.dK kw)) P := fun b z => by
  obtain ⟨nf, o, eo, i⟩ := h b z
  exact ⟨nf, o, by rw [upd_ne (fun q => n (by rw [← q]; exact z))]; exact eo, i⟩
theorem WfF.lock (h : WfF F H) : WfF F (Lk H a od kw) := fun b f => by
  by_cases hb : b = a
  · subst hb; exact ⟨_, upd_same⟩
  · obtain ⟨o, e⟩ := h b f; exact ⟨o, by rw [show Lk H a od kw b = H b from upd_ne hb]; exact e⟩
theorem WfF.unlock (h : WfF F H) : WfF F (upd H a (.dK kw)) := fun b f => by
  by_cases hb : b = a
  · subst hb; exact ⟨_, upd_same⟩
  · obtain ⟨o, e⟩ := h b f; exact ⟨o, by rw [upd_ne hb]; exact e⟩
theorem EnvR.lock {σ : L2.St} {ρ : Rho} {fs : Nat → PS_} (e : H a = some (.dK kw)) (n : ¬ UU fs a) (h : EnvR K fns F H σ ρ fs) : EnvR K fns F (Lk H a od kw) σ ρ fs :=
  ⟨h.len, fun i d q => let ⟨v, h1, h2⟩ := h.rep i d q; ⟨v, h1, h2.lock e fun z => n ⟨i, z⟩⟩, h.sep, h.own.lock e n⟩
theorem EnvR.unlock {σ : L2.St} {ρ : Rho} {fs : Nat → PS_} (e : H a = some (.frz od (.dK kw))) (n : ¬ UU fs a) (h : EnvR K fns F H σ ρ fs) : EnvR K fns F (upd H a (.dK kw)) σ ρ fs :=
  ⟨h.len, fun i d q => let ⟨v, h1, h2⟩ := h.rep i d q; ⟨v, h1, h2.unlock e fun z => n ⟨i, z⟩⟩, h.sep, h.own.unlock n⟩
/-- a step under the lock, seen from without -/
theorem Step.unlock {fs fs1 : Nat → PS_} {F1 : PS_} {H' : Hp} (e : H a = some (.dK kw)) (h0 : Step (UU fs) F F1 H H) (hs : ∀ b, UU fs1 b → UU fs b) (n : ¬ UU fs1 a) (h : Step (UU fs1) F1 F' (Lk H a od kw) H') : Step (UU fs) F F' H (upd H' a (.dK kw)) ∧ H' a = some (.frz od (.dK kw)) := by
  have ha : H' a = some (.frz od (.dK kw)) := h.keep _ _ upd_same n
  refine ⟨⟨h0.ff.trans h.ff, fun b o q nb => ?_, fun b f => ?_⟩, ha⟩
  · by_cases hb : b = a
    · subst hb; rw [e] at q; cases q; exact upd_same
    · rw [upd_ne hb]
      exact h.keep b o (by rw [show Lk H a od kw b = H b from upd_ne hb]; exact q) fun z => nb (hs b z)
  · rcases h.new b f with z | z | z
    · exact h0.new b z
    · exact .inr (.inl (hs b z))
    · by_cases hb : b = a
      · subst hb
        have z : (upd H b (.frz od (.dK kw))) b = none := z
        rw [upd_same] at z; cases z
      · exact .inr (.inr (by rw [show Lk H a od kw b = H b from upd_ne hb] at z; exact z))
end
theorem PE.or {e : Expr} {t u : TE} (h : PE X e t) (h' : PE X e u) : PE X e (fun σ H Q => t σ H Q ∨ u σ H Q) := ⟨fun pins s σ H Q I q => q.elim (h.run pins s σ H Q I) (h'.run pins s σ H Q I)⟩
theorem PS.or {st : Stmt} {t u : TS} (h : PS X st t) (h' : PS X st u) : PS X st (fun Dn σ H => t Dn σ H ∨ u Dn σ H) := ⟨fun pins s σ H Q I q => q.elim (h.run pins s σ H Q I) (h'.run pins s σ H Q I)⟩
mutual
theorem frz_frz : ∀ d : D, frz (frz d) = frz d
  | .non => rfl
  | .bl _ => rfl
  | .int _ => rfl
  | .str _ => rfl
  | .fn _ => rfl
  | .lst o xs => by rw [frz, frz, frzL_frzL xs]; cases o <;> rfl
  | .tup xs => by rw [frz, frz, frzL_frzL xs]
  | .dct o xs => by rw [frz, frz, frzP_frzP xs]; cases o <;> rfl
theorem frzL_frzL : ∀ ds : List D, frzL (frzL ds) = frzL ds
  | [] => rfl
  | d :: ds => by rw [frzL, frzL, frz_frz d, frzL_frzL ds]
theorem frzP_frzP : ∀ ds : List (Key × D), frzP (frzP ds) = frzP ds
  | [] => rfl
  | (k, d) :: ds => by rw [frzP, frzP, frz_frz d, frzP_frzP ds]
end
theorem dctI_frz {i : Nat} {f : List (Key × D) → List D} {ρ : Rho} {o : Ow} {kvs : List (Key × D)} (h : ρ[i]? = some (some (.dct o kvs))) : dctI i f (ρ.set i (some (frz (.dct o kvs)))) = dctI i f ρ := by
  unfold dctI
  have hl := (List.getElem?_eq_some_iff.mp h).1
  rw [List.getElem?_set, if_pos rfl, if_pos hl, h]
  show some (f (frzP (frzP kvs)), (ρ.set i (some (frz (.dct o kvs)))).set i (some (frz (frz (.dct o kvs))))) = some (f (frzP kvs), ρ.set i (some (frz (.dct o kvs))))
  rw [frz_frz, frzP_frzP, List.set_set]
/-- a walk's reading under the lock, from that without it -/
theorem tE_lock {K : PySem.W.Frag} {i : Nat} {g : EvT} (hg : ∀ ρ d ρ', g ρ = some (d, ρ') → ∃ o kvs, ρ[i]? = some (some (.dct o kvs)) ∧ g (ρ.set i (some (frz (.dct o kvs)))) = g ρ) {t1 : TE}
    (h1 : ∀ σ H Q, (∃ a od kw, σ[i]? = some (some (.ref a)) ∧ H a = some (.frz od (.dK kw))) → tE K fns g σ H Q → t1 σ H Q) {σ : L2.St} {H : Hp} {Q : VK} (h : tE K fns g σ H Q) : tLockE t1 σ H Q ∨ t1 σ H Q := by
  obtain ⟨F, ρ, fs, d, ρ', w, e, q, post⟩ := id h
  obtain ⟨o, kvs, hi, hg'⟩ := hg _ _ _ q
  obtain ⟨v, hv, pz⟩ := e.freeze w hi
  have rz : Rep K fns (FzI F fs i) H (frz (.dct o kvs)) v Emp := pz.rep
  obtain ⟨a, kw, rfl, rd, rr, nd⟩ := dct_rd (show Rep K fns (FzI F fs i) H (.dct o.fz (frzP kvs)) v Emp from rz)
  rcases rd with rd | ⟨od, rd⟩
  · refine .inl ⟨a, .dK kw, rd, trivial, fun od => h1 _ _ _ ⟨a, od, kw, hv, upd_same⟩ ?_⟩
    have fa : FzI F fs i a := by
      have : ∃ b kw', V.ref a = .ref b ∧ Rd H b (.dK kw') ∧ FzI F fs i b := by
        cases o <;> exact ⟨_, _, rz.choose_spec.choose_spec.1, rz.choose_spec.choose_spec.2.1, rz.choose_spec.choose_spec.2.2.1⟩
      obtain ⟨b, _, e, _, f⟩ := this
      cases e
      exact f
    have nfs : ¬ UU (fupd fs i Emp) a := fun u => (pz.env.own a u).1 fa
    refine ⟨FzI F fs i, _, _, d, ρ', pz.wf.lock, pz.env.lock rd nfs, hg'.trans q, fun F2 H2 fs2 x P p2 => ?_⟩
    obtain ⟨s2, hA⟩ := Step.unlock rd pz.step (fun b u => (UU_fupd u).elim False.elim id) nfs p2.step
    have n2 : ∀ b, P b ∨ UU fs2 b → UU fs b ∨ H b = none := fun b z => by
      rcases p2.new b z with z | z
      · exact .inl ((UU_fupd z).elim False.elim id)
      · by_cases hb : b = a
        · subst hb
          have z : (upd H b (.frz od (.dK kw))) b = none := z
          rw [upd_same] at z; cases z
        · exact .inr (by rw [upd_ne hb] at z; exact z)
    have fa2 : F2 a := p2.step.ff a fa
    have nP : ¬ P a := fun z => (p2.own a z).1 fa2
    have nf2 : ¬ UU fs2 a := fun z => (p2.env.own a z).1 fa2
    exact ⟨hA, post F2 _ fs2 x P ⟨s2, p2.wf.unlock, p2.env.unlock hA nf2, p2.rep.unlock hA nP, p2.own.unlock nP, p2.dj, n2⟩⟩
  · exact .inr (h1 _ _ _ ⟨a, od, kw, hv, rd⟩ h)
theorem tS_lock {K : PySem.W.Frag} {i : Nat} {g : Rho → Option (Fl × Rho)} {as : List Nat} (hg : ∀ ρ d ρ', g ρ = some (d, ρ') → ∃ o kvs, ρ[i]? = some (some (.dct o kvs)) ∧ g (ρ.set i (some (frz (.dct o kvs)))) = g ρ) {t1 : TS}
    (h1 : ∀ Dn σ H, (∃ a od kw, σ[i]? = some (some (.ref a)) ∧ H a = some (.frz od (.dK kw))) → tS K fns g as Dn σ H → t1 Dn σ H) {Dn : Ends} {σ : L2.St} {H : Hp} (h : tS K fns g as Dn σ H) : tLock t1 Dn σ H ∨ t1 Dn σ H := by
  obtain ⟨F, ρ, fs, fl, ρ', w, e, q, aft⟩ := id h
  obtain ⟨o, kvs, hi, hg'⟩ := hg _ _ _ q
  obtain ⟨v, hv, pz⟩ := e.freeze w hi
  have rz : Rep K fns (FzI F fs i) H (frz (.dct o kvs)) v Emp := pz.rep
  obtain ⟨a, kw, rfl, rd, rr, nd⟩ := dct_rd (show Rep K fns (FzI F fs i) H (.dct o.fz (frzP kvs)) v Emp from rz)
  rcases rd with rd | ⟨od, rd⟩
  · refine .inl ⟨a, .dK kw, rd, trivial, fun od => h1 _ _ _ ⟨a, od, kw, hv, upd_same⟩ ?_⟩
    have fa : FzI F fs i a := by
      have : ∃ b kw', V.ref a = .ref b ∧ Rd H b (.dK kw') ∧ FzI F fs i b := by
        cases o <;> exact ⟨_, _, rz.choose_spec.choose_spec.1, rz.choose_spec.choose_spec.2.1, rz.choose_spec.choose_spec.2.2.1⟩
      obtain ⟨b, _, e, _, f⟩ := this
      cases e
      exact f
    have nfs : ¬ UU (fupd fs i Emp) a := fun u => (pz.env.own a u).1 fa
    have tr : ∀ {F2 : PS_} {H2 : Hp} {fs2 : Nat → PS_} {σ2 : L2.St} {ρ2 : Rho}, SPost K fns (FzI F fs i) (Lk H a od kw) (fupd fs i Emp) σ F2 H2 fs2 σ2 ρ2 as → H2 a = some (.frz od (.dK kw)) ∧ F2 a ∧ SPost K fns F H fs σ F2 (upd H2 a (.dK kw)) fs2 σ2 ρ2 as := by
      intro F2 H2 fs2 σ2 ρ2 p2
      obtain ⟨s2, hA⟩ := Step.unlock rd pz.step (fun b u => (UU_fupd u).elim False.elim id) nfs p2.step
      have fa2 : F2 a := p2.step.ff a fa
      have nf2 : ¬ UU fs2 a := fun z => (p2.env.own a z).1 fa2
      refine ⟨hA, fa2, s2, p2.wf.unlock, p2.env.unlock hA nf2, fun b z => ?_, p2.same⟩
      rcases p2.new b z with z | z
      · exact .inl ((UU_fupd z).elim False.elim id)
      · by_cases hb : b = a
        · subst hb
          have z : (upd H b (.frz od (.dK kw))) b = none := z
          rw [upd_same] at z; cases z
        · exact .inr (by first | (rw [show Lk H a od kw b = H b from upd_ne hb] at z; exact z) | (rw [upd_ne hb] at z; exact z))
    refine ⟨FzI F fs i, _, _, fl, ρ', pz.wf.lock, pz.env.lock rd nfs, hg'.trans q, ?_⟩
    cases fl with
    | nx => exact fun F2 H2 fs2 σ2 p2 => let ⟨x, _, z⟩ := tr p2; ⟨x, aft _ _ _ _ z⟩
    | bk => exact fun F2 H2 fs2 σ2 p2 => let ⟨x, _, z⟩ := tr p2; ⟨x, aft _ _ _ _ z⟩
    | ct => exact fun F2 H2 fs2 σ2 p2 => let ⟨x, _, z⟩ := tr p2; ⟨x, aft _ _ _ _ z⟩
    | rt d =>
      intro F2 H2 fs2 σ2 x P p2
      obtain ⟨hA, fa2, z⟩ := tr p2.post
      have nP : ¬ P a := fun z => (p2.own a z).1 fa2
      refine ⟨hA, aft _ _ _ _ x P ⟨z, p2.rep.unlock hA nP, p2.own.unlock nP, p2.dj, fun b z => ?_⟩⟩
      rcases p2.new b z with z | z
      · exact .inl ((UU_fupd z).elim False.elim id)
      · by_cases hb : b = a
        · subst hb
          have z : (upd H b (.frz od (.dK kw))) b = none := z
          rw [upd_same] at z; cases z
        · exact .inr (by first | (rw [show Lk H a od kw b = H b from upd_ne hb] at z; exact z) | (rw [upd_ne hb] at z; exact z))
  · exact .inr (h1 _ _ _ ⟨a, od, kw, hv, rd⟩ h)
end
end VK

set_option Elab.async false
set_option linter.all false
set_option maxRecDepth 100000
namespace VK
open PySem PySem.Spec PyProof.Rows L2
section
variable {X : Cx} {fns : List Addr} {T : Tab} {C : CallF} {N : List Str} {sc : Scope} {fnp : Str → Bool}
theorem Step.repP {K : PySem.W.Frag} {F F' P Q : PS_} {H H' : Hp} {ds : List (Key × D)} {vs : List (Key × V)} (s : Step Q F F' H H') (oq : OwnS F H Q) (dj : Dj P Q) (h : RepP K fns F H ds vs P) : RepP K fns F' H' ds vs P :=
  RepP.frame s.ff ds vs P (fun a o h z => s.keep a o h fun q => z.elim (fun p => dj a p q) fun f => (oq a q).1 f) h
/-- the turn's state of a comprehension -/
structure DcW (K : PySem.W.Frag) (fns : List Addr) (σ : L2.St) (F1 : PS_) (H1 : Hp) (U0 : PS_) (D0 : Addr) (vs : List Nat) (ok : PS_ → Hp → Prop) (F : PS_) (H : Hp) (ρ : Rho) (fs : Nat → PS_) (accs : List (Key × D)) (avs : List (Key × V)) (PA : PS_) : Prop where
  wf : WfF F H
  env : EnvR K fns F H (L2.wipe σ vs) ρ fs
  at_ : H D0 = some (.dK avs)
  acc : RepP K fns F H accs avs PA
  nd : (List.map (fun x : Key × D => x.1) accs).Nodup
  own : OwnS F H PA
  dj : Dj PA (UU fs)
  nD : ¬ UU fs D0 ∧ ¬ PA D0 ∧ ¬ F D0
  ok : ok F H
  step : Step U0 F1 F H1 H
  new : ∀ a, UU fs a ∨ PA a → U0 a ∨ H1 a = none
theorem dcGo_cons {set : D → Rho → Option Rho} {test kx vx : EvT} {wp : List Nat} {d : D} {ds : List D} {acc : List (Key × D)} {ρ : Rho} {r : List (Key × D) × Rho} (h : dcGo set test kx vx wp (d :: ds) ρ acc = some r) :
    ∃ ρ1 t ρ2 b, set d ρ = some ρ1 ∧ test ρ1 = some (t, ρ2) ∧ truD t = some b ∧
      (if b = true then ∃ y ρ3 z ρ4 k, kx ρ2 = some (y, ρ3) ∧ vx ρ3 = some (z, ρ4) ∧ keyD y = some k ∧ acc.length < sizeLine ∧ dcGo set test kx vx wp ds (wipeE ρ4 wp) (putD acc k z) = some r else dcGo set test kx vx wp ds (wipeE ρ2 wp) acc = some r) := by
  rw [dcGo] at h
  simp only [Option.bind_eq_bind, Option.bind_eq_some_iff, Prod.exists] at h
  obtain ⟨ρ1, h1, t, ρ2, h2, b, h3, h4⟩ := h
  refine ⟨ρ1, t, ρ2, b, h1, h2, h3, ?_⟩
  cases b with
  | true =>
    simp only [if_pos, Option.bind_eq_some_iff, Prod.exists] at h4
    obtain ⟨y, ρ3, h5, z, ρ4, h5', k, h5k, h6⟩ := h4
    split at h6
    · exact iteT ⟨y, ρ3, z, ρ4, k, h5, h5', h5k, ‹_›, h6⟩
    · cases h6
  | false => exact iteF h4
def dcE (gi : Rho → Option (List D × Rho)) (tg : Tg) (test kx vx : EvT) (vs : List Nat) : EvT := fun ρ => do
  let (ds, ρ1) ← gi ρ
  let (ys, ρ2) ← dcGo (setT tg) test kx vx vs ds (wipeE ρ1 vs) []
  pure (.dct .own ys, backE ρ2 ρ1 vs)
theorem dc_main {K : PySem.W.Frag} {gi : Rho → Option (List D × Rho)} {tg : Tg} {test kx vx : EvT} {vs : List Nat} {σ : L2.St} {H0 : Hp} {Q : VK} (hs : ∀ i ∈ tgSlots tg, i ∈ vs) (h : tE K fns (dcE gi tg test kx vx vs) σ H0 Q) :
    tDc (tI K fns gi) (tG K fns tg) (tT K fns test) (tE K fns kx) (tE K fns vx) vs σ H0 Q := by
  obtain ⟨F0, ρ0, fs0, d0, ρ0', w0, e0, q, post⟩ := h
  simp only [dcE, Option.bind_eq_bind, Option.bind_eq_some_iff, Prod.exists, Option.pure_def, Option.some.injEq, Prod.mk.injEq] at q
  obtain ⟨ds, ρ1, q1, ys, ρe, q2, rfl, rfl⟩ := q
  refine ⟨F0, ρ0, fs0, ds, ρ1, w0, e0, q1, fun F1 H1 fs1 J ip => ?_⟩
  obtain ⟨p1, ok, hok, drv⟩ := ip
  intro D0 nD
  refine ⟨fun i m H => m = ds.length - i ∧ i ≤ ds.length ∧ ∃ F ρ fs acc avs PA, DcW K fns σ F1 H1 (UU (wipeF fs1 vs)) D0 vs ok F H ρ fs acc avs PA ∧ dcGo (setT tg) test kx vx vs (ds.drop i) ρ acc = some (ys, ρe), ⟨ds.length, by simp, Nat.zero_le _, ?_⟩, ?_⟩
  · -- the start
    have ew := p1.env.wipe vs
    have st : Step Emp F1 F1 H1 (upd H1 D0 (.dK [])) := ⟨Sb.rfl, fun a u e _ => upd_keep nD e, fun _ f => .inl f⟩
    refine ⟨F1, _, _, [], [], Emp, ⟨fun a f => ?_, ew.step st OwnS.emp fun _ _ z => z, upd_same, rfl, .nil, OwnS.emp, fun _ z => z.elim, ⟨fun u => ?_, id, fun f => ?_⟩, drv.stay _ _ _ _ _ hok st OwnS.emp, st.weak Emp.sb, fun a z => z.elim .inl False.elim⟩, q2⟩
    · obtain ⟨u, e⟩ := p1.wf a f; exact ⟨u, upd_keep nD e⟩
    · obtain ⟨_, o, e, _⟩ := ew.own _ u; rw [e] at nD; cases nD
    · obtain ⟨u, e⟩ := p1.wf _ f; rw [e] at nD; cases nD
  rintro i m H ⟨rfl, hi, F, ρ, fs, acc, avs, PA, W, hgo⟩
  by_cases hlt : i < ds.length
  · -- a turn
    have hd : ds[i]? = some ds[i] := List.getElem?_eq_getElem hlt
    rw [List.drop_eq_getElem_cons hlt] at hgo
    obtain ⟨ρa, t, ρb, b, g1, g2, g3, g4⟩ := dcGo_cons hgo
    obtain ⟨go, yl⟩ := drv.go i _ F H W.wf W.ok hd
    refine .inr ⟨go, fun H' => ∃ F ρ fs acc avs PA, DcW K fns σ F1 H1 (UU (wipeF fs1 vs)) D0 vs ok F H' ρ fs acc avs PA ∧ dcGo (setT tg) test kx vx vs (ds.drop (i + 1)) ρ acc = some (ys, ρe), fun H' hw => ⟨ds.length - (i + 1), by omega, rfl, hlt, hw⟩, fun x H' y => ?_⟩
    obtain ⟨F', st, wf', rx⟩ := yl x H' y
    have e1 : EnvR K fns F' H' (L2.wipe σ vs) ρ fs := W.env.step st OwnS.emp fun _ _ z => z
    refine ⟨F', _, Emp, ρ, fs, ρa, wf', e1, rx, OwnS.emp, fun _ z => z.elim, g1, fun σ2 fs2 e2 hn2 hs2 hl2 => ?_⟩
    refine ⟨wipe_ext hl2 (fun j hj => hs2 j fun hm => hj (hs j hm)) |>.trans ?_, ?_⟩
    · exact wipe_ext (L2.wipe_length σ vs) fun j hj => L2.wipe_out hj
    have ws : L2.wipe σ2 vs = L2.wipe σ vs := (wipe_ext hl2 fun j hj => hs2 j fun hm => hj (hs j hm)).trans (wipe_ext (L2.wipe_length σ vs) fun j hj => L2.wipe_out hj)
    have un2 : ∀ a, UU fs2 a → UU fs a := fun a z => (hn2 a z).resolve_right id
    -- what is carried on, whatever happens behind the target
    have carry : ∀ {F4 : PS_} {H4 : Hp} {fs4 : Nat → PS_} {ρ4 : Rho} {dy : D} {y : V} {P4 : PS_}, EPost K fns F' H' fs2 F4 H4 fs4 σ2 ρ4 dy y P4 →
        H4 D0 = some (.dK avs) ∧ RepP K fns F4 H4 acc avs PA ∧ OwnS F4 H4 PA ∧ Dj PA (UU fs4) ∧ Dj PA P4 ∧ (¬ UU fs4 D0 ∧ ¬ PA D0 ∧ ¬ F4 D0 ∧ ¬ P4 D0) ∧ ok F4 H4 ∧ Step (UU (wipeF fs1 vs)) F1 F4 H1 H4 ∧ (∀ a, UU fs4 a ∨ P4 a → UU (wipeF fs1 vs) a ∨ H1 a = none) := by
      intro F4 H4 fs4 ρ4 dy y P4 p4
      have hD' : H' D0 = some (.dK avs) := st.keep _ _ W.at_ id
      have nD2 : ¬ UU fs2 D0 := fun z => W.nD.1 (un2 _ z)
      have dj2 : Dj PA (UU fs2) := fun a z u => W.dj a z (un2 a u)
      have acc' := st.repP OwnS.emp (fun _ _ z => z) W.acc
      have own' : OwnS F' H' PA := st.own (fun _ _ z => z) W.own
      have stF : ¬ F' D0 := fun f => (st.new _ f).elim W.nD.2.2 fun z => z.elim id fun z => by rw [W.at_] at z; cases z
      have step' : Step (UU (wipeF fs1 vs)) F1 F' H1 H' := W.step.trans st fun _ z => z.elim
      have nw' : ∀ a, UU fs2 a ∨ H' a = none → UU (wipeF fs1 vs) a ∨ H1 a = none := fun a z => by
        rcases z with z | z
        · exact W.new a (.inl (un2 a z))
        · cases e : H1 a with
          | none => exact .inr rfl
          | some o =>
            by_cases hp : UU (wipeF fs1 vs) a
            · exact .inl hp
            · rw [step'.keep a o e hp] at z; cases z
      have out : ∀ a, PA a → ¬ (UU fs2 a ∨ H' a = none) := fun a z u => by
        rcases u with u | u
        · exact dj2 a z u
        · obtain ⟨_, o, e, _⟩ := own' a z; rw [e] at u; cases u
      have outD : ¬ (UU fs2 D0 ∨ H' D0 = none) := fun u => by
        rcases u with u | u
        · exact nD2 u
        · rw [hD'] at u; cases u
      refine ⟨p4.step.keep _ _ hD' nD2, p4.step.repP e2.own dj2 acc', p4.step.own dj2 own', fun a z u => out a z (p4.new a (.inr u)), fun a z u => out a z (p4.new a (.inl u)), ⟨fun u => outD (p4.new _ (.inr u)), W.nD.2.1, fun f => ?_, fun u => outD (p4.new _ (.inl u))⟩, drv.stay _ _ _ _ _ (drv.stay _ _ _ _ _ W.ok st OwnS.emp) p4.step e2.own, step'.trans p4.step fun c z => nw' c (.inl z), fun a z => nw' a (p4.new a z.symm)⟩
      rcases p4.step.new _ f with z | z | z
      · exact stF z
      · exact nD2 z
      · rw [hD'] at z; cases z
    refine ⟨F', ρa, fs2, t, ρb, b, wf', e2, g2, g3, fun F3 H3 fs3 xt P3 p3 => ?_⟩
    cases b with
    | false =>
      obtain ⟨c1, c2, c3, c4, _, ⟨c5, c6, c7, _⟩, c8, c9, c10⟩ := carry p3
      have ew := p3.env.wipe vs
      rw [ws] at ew
      exact iteF ⟨F3, _, _, acc, avs, PA, ⟨p3.wf, ew, c1, c2, W.nd, c3, fun a z u => by obtain ⟨j, _, u⟩ := UU_wipe u; exact c4 a z ⟨j, u⟩, ⟨fun u => by obtain ⟨j, _, u⟩ := UU_wipe u; exact c5 ⟨j, u⟩, c6, c7⟩, c8, c9, fun a z => by
        rcases z with z | z
        · obtain ⟨j, _, z⟩ := UU_wipe z; exact c10 a (.inl ⟨j, z⟩)
        · exact W.new a (.inr z)⟩, (show dcGo (setT tg) test kx vx vs (ds.drop (i + 1)) (wipeE ρb vs) acc = some (ys, ρe) from g4)⟩
    | true =>
      obtain ⟨y, ρc, z, ρd, k, g5, g5', g5k, g6, g7⟩ := (show ∃ y ρ3 z ρ4 k, kx ρb = some (y, ρ3) ∧ vx ρ3 = some (z, ρ4) ∧ keyD y = some k ∧ acc.length < sizeLine ∧ dcGo (setT tg) test kx vx vs (ds.drop (i + 1)) (wipeE ρ4 vs) (putD acc k z) = some (ys, ρe) from g4)
      refine iteT ⟨F3, ρb, fs3, y, ρc, p3.wf, p3.env, g5, fun F3' H3' fs3' kv P3' p3' => ?_⟩
      have ek := key_rep p3'.rep g5k
      subst ek
      refine ⟨F3', ρc, fs3', z, ρd, p3'.wf, p3'.env, g5', fun F4 H4 fs4 yv P4 p4 => ?_⟩
      have p5 := (p3.seq p3').seq p4
      obtain ⟨c1, c2, c3, c4, c4', ⟨c5, c6, c7, c7'⟩, c8, c9, c10⟩ := carry p5
      refine ⟨avs, k, rfl, c1, by rw [c2.len]; exact g6, ?_⟩
      have oD : OwnS F4 H4 (fun a => a = D0) := fun a z => by subst z; exact ⟨c7, _, c1, trivial⟩
      have sD : Step (fun a => a = D0) F4 F4 H4 (upd H4 D0 (.dK (putK avs k yv))) := ⟨Sb.rfl, fun a o e n => by rw [upd_ne n]; exact e, fun _ f => .inl f⟩
      have ew := (p5.env.step sD oD fun a z e => by subst e; exact c5 z).wipe vs
      rw [ws] at ew
      obtain ⟨ra, na⟩ := RepP.put (k := k) (sD.repP oD (fun a z e => by subst e; exact c6 z) c2) W.nd (sD.rep oD (fun a z e => by subst e; exact c7' z) p5.rep) c4'
      have oa : OwnS F4 (upd H4 D0 (.dK (putK avs k yv))) (Un2 PA P4) := sD.own (fun a z e => by subst e; exact z.elim c6 c7') (c3.un p5.own)
      refine ⟨F4, _, _, putD acc k z, putK avs k yv, Un2 PA P4, ⟨fun a f => ?_, ew, upd_same, ra, na, oa, fun a z u => ?_, ⟨fun u => ?_, fun z => z.elim c6 c7', c7⟩, drv.stay _ _ _ _ _ c8 sD oD, c9.trans sD fun c z => ?_, fun a z => ?_⟩, g7⟩
      · obtain ⟨o, e⟩ := p5.wf a f
        by_cases ha : a = D0
        · subst ha; exact ⟨_, upd_same⟩
        · exact ⟨o, by rw [upd_ne ha]; exact e⟩
      · obtain ⟨j, _, u⟩ := UU_wipe u
        exact z.elim (fun z => c4 a z ⟨j, u⟩) fun z => p5.dj a z ⟨j, u⟩
      · obtain ⟨j, _, u⟩ := UU_wipe u; exact c5 ⟨j, u⟩
      · subst z; exact .inr nD
      · rcases z with z | z | z
        · obtain ⟨j, _, z⟩ := UU_wipe z; exact c10 a (.inl ⟨j, z⟩)
        · exact W.new a (.inr z)
        · exact c10 a (.inr z)
  · -- the end
    have ei : i = ds.length := by omega
    subst ei
    refine .inl ⟨drv.stop _ F H W.ok (Nat.le_refl _), ?_⟩
    rw [List.drop_length] at hgo
    have hgo : some (acc, ρ) = some (ys, ρe) := hgo
    cases hgo
    have hw0 : ∀ a, UU (wipeF fs1 vs) a → UU fs1 a := fun a z => by obtain ⟨j, _, z⟩ := UU_wipe z; exact ⟨j, z⟩
    have low : OwnS F1 H1 (UU (wipeF fs1 vs)) := p1.env.own.sb hw0
    have apart : ∀ j, j ∈ vs → ∀ a, fs1 j a → ¬ UU (wipeF fs1 vs) a := fun j hj a z u => by
      obtain ⟨k, hk, u⟩ := UU_wipe u
      exact hk (p1.env.sep j k a z u ▸ hj)
    have lenρ : ρe.length = ρ1.length := by rw [W.env.len, L2.wipe_length, p1.env.len]
    let fsE : Nat → PS_ := fun j => if j ∈ vs then fs1 j else fs j
    have fe_in : ∀ {j}, j ∈ vs → fsE j = fs1 j := fun h => if_pos h
    have fe_out : ∀ {j}, j ∉ vs → fsE j = fs j := fun h => if_neg h
    have eE : EnvR K fns F H σ (backE ρe ρ1 vs) fsE := by
      refine ⟨by rw [backE_len, lenρ, p1.env.len], fun j d h => ?_, fun j k a p q => ?_, fun a z => ?_⟩
      · rcases backE_get lenρ h with ⟨hj, h⟩ | ⟨hj, h⟩
        · obtain ⟨v, hv, r⟩ := p1.env.rep j d h
          exact ⟨v, hv, by rw [fe_in hj]; exact W.step.rep low (fun a z u => apart j hj a z u) r⟩
        · obtain ⟨v, hv, r⟩ := W.env.rep j d h
          exact ⟨v, by rw [L2.wipe_out hj] at hv; exact hv, by rw [fe_out hj]; exact r⟩
      · have mix : ∀ j k, j ∈ vs → k ∉ vs → fs1 j a → fs k a → False := fun j k hj hk z u => by
          rcases W.new a (.inl ⟨k, u⟩) with u | u
          · exact apart j hj a z u
          · obtain ⟨_, o, e, _⟩ := p1.env.own a ⟨j, z⟩; rw [e] at u; cases u
        by_cases hj : j ∈ vs
        · rw [fe_in hj] at p
          by_cases hk : k ∈ vs
          · rw [fe_in hk] at q; exact p1.env.sep j k a p q
          · rw [fe_out hk] at q; exact (mix j k hj hk p q).elim
        · rw [fe_out hj] at p
          by_cases hk : k ∈ vs
          · rw [fe_in hk] at q; exact (mix k j hk hj q p).elim
          · rw [fe_out hk] at q; exact W.env.sep j k a p q
      · obtain ⟨j, z⟩ := z
        by_cases hj : j ∈ vs
        · rw [fe_in hj] at z; exact W.step.own (P := fs1 j) (fun a z u => apart j hj a z u) (p1.env.own.sb fun a z => ⟨j, z⟩) a z
        · rw [fe_out hj] at z; exact W.env.own a ⟨j, z⟩
    have bk : ∀ a, UU (wipeF fs1 vs) a ∨ H1 a = none → UU fs0 a ∨ H0 a = none := fun a z => by
      rcases z with z | z
      · exact p1.new a (.inr (hw0 a z))
      · exact back_new p1.step (fun a h => p1.new a (.inr h)) (.inr z)
    refine post F H fsE (.ref D0) (fun a => PA a ∨ a = D0) ⟨p1.step.trans W.step fun c z => p1.new c (.inr (hw0 c z)), W.wf, eE, ⟨D0, avs, rfl, W.at_, .inr rfl, W.acc.mono fun a z => ⟨.inl z, fun e => W.nD.2.1 (e ▸ z)⟩, W.nd⟩, fun a z => ?_, fun a z u => ?_, fun a z => ?_⟩
    · rcases z with z | z
      · exact W.own a z
      · subst z; exact ⟨W.nD.2.2, _, W.at_, trivial⟩
    · obtain ⟨j, u⟩ := u
      by_cases hj : j ∈ vs
      · rw [fe_in hj] at u
        have h1 : ¬ (UU (wipeF fs1 vs) a ∨ H1 a = none) := fun h => by
          rcases h with h | h
          · exact apart j hj a u h
          · obtain ⟨_, o, e, _⟩ := p1.env.own a ⟨j, u⟩; rw [e] at h; cases h
        rcases z with z | z
        · exact h1 (W.new a (.inr z))
        · subst z; exact h1 (.inr nD)
      · rw [fe_out hj] at u
        rcases z with z | z
        · exact W.dj a z ⟨j, u⟩
        · subst z; exact W.nD.1 ⟨j, u⟩
    · rcases z with (z | z) | ⟨j, z⟩
      · exact bk a (W.new a (.inr z))
      · subst z; exact bk _ (.inr nD)
      · by_cases hj : j ∈ vs
        · rw [fe_in hj] at z; exact p1.new a (.inr ⟨j, z⟩)
        · rw [fe_out hj] at z; exact bk a (W.new a (.inl ⟨j, z⟩))

/-! ### walks over dicts -/
/-- the slot of the dict that must be locked -/
def lockOf : It → Option Nat
  | .keys i _ _ => some i
  | .items i _ _ _ _ => some i
  | .values i _ _ _ _ => some i
  | _ => none
def Lkd (i : Nat) (σ : L2.St) (H : Hp) : Prop := ∃ a od kw, σ[i]? = some (some (.ref a)) ∧ H a = some (.frz od (.dK kw))
def tIx (K : PySem.W.Frag) (fns : List Addr) (l : Option Nat) (g : Rho → Option (List D × Rho)) : TI := fun σ H R => (∀ i, l = some i → Lkd i σ H) ∧ tI K fns g σ H R
section
variable {K : PySem.W.Frag}
theorem kV_rep {F : PS_} {H : Hp} (k : Key) : Rep K fns F H (keyOf k) (kV k) Emp := by cases k <;> rfl
theorem RepP.get {F : PS_} {H : Hp} : ∀ {kvs : List (Key × D)} {kw : List (Key × V)} {i : Nat} {k : Key} {d : D}, RepP K fns F H kvs kw Emp → kvs[i]? = some (k, d) → ∃ v, kw[i]? = some (k, v) ∧ Rep K fns F H d v Emp
  | [], _, i, k, d, h, hd => by simp at hd
  | (k0, d0) :: ds, _, 0, k, d, ⟨v, w, P1, P2, e, s1, s2, dj, h1, h2⟩, hd => by
    subst e
    have hd : some (k0, d0) = some (k, d) := hd
    cases hd
    exact ⟨v, rfl, h1.mono s1⟩
  | (k0, d0) :: ds, _, i + 1, k, d, ⟨v, w, P1, P2, e, s1, s2, dj, h1, h2⟩, hd => by
    subst e
    exact RepP.get (i := i) (h2.mono s2) (by simpa using hd)
/-- what is known of a locked dict -/
def LkOk (K : PySem.W.Frag) (fns : List Addr) (a : Addr) (od : Obj) (kw : List (Key × V)) (kvs : List (Key × D)) (F : PS_) (H : Hp) : Prop := H a = some (.frz od (.dK kw)) ∧ F a ∧ RepP K fns F H kvs kw Emp
theorem LkOk.stay {a : Addr} {od : Obj} {kw : List (Key × V)} {kvs : List (Key × D)} {F F' Q : PS_} {H H' : Hp} (h : LkOk K fns a od kw kvs F H) (s : Step Q F F' H H') (o : OwnS F H Q) : LkOk K fns a od kw kvs F' H' :=
  ⟨s.keep _ _ h.1 fun q => (o a q).1 h.2.1, s.ff a h.2.1, s.repP o (fun _ z => z.elim) h.2.2⟩
theorem drv_keys {a : Addr} {od : Obj} {kw : List (Key × V)} {kvs : List (Key × D)} : Drv K fns (Itk a od kw) (LkOk K fns a od kw kvs) (kvs.map fun kv => keyOf kv.1) where
  stop := fun i F H h hl => ⟨h.1, by rw [h.2.2.len]; simpa using hl⟩
  go := fun i d F H w h hd => by
    rw [List.getElem?_map] at hd
    obtain ⟨⟨k, c⟩, hc, rfl⟩ := Option.map_eq_some_iff.mp hd
    obtain ⟨v, hv, rv⟩ := h.2.2.get hc
    refine ⟨⟨h.1, (List.getElem?_eq_some_iff.mp hv).1⟩, fun x H' y => ?_⟩
    obtain ⟨rfl, k', v', e1, rfl⟩ := y
    rw [hv] at e1
    cases e1
    exact ⟨F, Step.refl, w, kV_rep k⟩
  stay := fun F H F' H' Q h s o => h.stay s o
theorem drv_values {a : Addr} {od : Obj} {kw : List (Key × V)} {kvs : List (Key × D)} : Drv K fns (Itd a od kw) (LkOk K fns a od kw kvs) (kvs.map fun kv => kv.2) where
  stop := fun i F H h hl => ⟨h.1, by rw [h.2.2.len]; simpa using hl⟩
  go := fun i d F H w h hd => by
    rw [List.getElem?_map] at hd
    obtain ⟨⟨k, c⟩, hc, rfl⟩ := Option.map_eq_some_iff.mp hd
    obtain ⟨v, hv, rv⟩ := h.2.2.get hc
    refine ⟨⟨h.1, (List.getElem?_eq_some_iff.mp hv).1⟩, fun x H' y => ?_⟩
    obtain ⟨rfl, k', e1⟩ := y
    rw [hv] at e1
    cases e1
    exact ⟨F, Step.refl, w, rv⟩
  stay := fun F H F' H' Q h s o => h.stay s o
theorem drv_items {a : Addr} {od : Obj} {kw : List (Key × V)} {kvs : List (Key × D)} : Drv K fns (Iti a od kw) (LkOk K fns a od kw kvs) (kvs.map fun kv => .tup [keyOf kv.1, kv.2]) where
  stop := fun i F H h hl => ⟨h.1, by rw [h.2.2.len]; simpa using hl⟩
  go := fun i d F H w h hd => by
    rw [List.getElem?_map] at hd
    obtain ⟨⟨k, c⟩, hc, rfl⟩ := Option.map_eq_some_iff.mp hd
    obtain ⟨v, hv, rv⟩ := h.2.2.get hc
    refine ⟨⟨h.1, (List.getElem?_eq_some_iff.mp hv).1⟩, fun x H' y => ?_⟩
    obtain ⟨T, k', v', e1, rfl, nT, rfl⟩ := y
    rw [hv] at e1
    cases e1
    exact new_tup w nT (.two (kV_rep k) rv)
  stay := fun F H F' H' Q h s o => h.stay s o
theorem tIx_dct {i : Nat} {f : List (Key × D) → List D} {J : Addr → Obj → List (Key × V) → L2.It} (hJ : ∀ a od kw kvs, Drv K fns (J a od kw) (LkOk K fns a od kw kvs) (f kvs)) {σ : L2.St} {H : Hp} {R : L2.It → Hp → Prop} (q : tIx K fns (some i) (dctI i f) σ H R) :
    ∃ a od kw, σ[i]? = some (some (.ref a)) ∧ H a = some (.frz od (.dK kw)) ∧ R (J a od kw) H := by
  obtain ⟨lk, F, ρ, fs, ds, ρ', w, e, q, post⟩ := q
  obtain ⟨a, od, kw, h1, h2⟩ := lk i rfl
  refine ⟨a, od, kw, h1, h2, ?_⟩
  unfold dctI at q
  split at q
  · rename_i o kvs hi
    cases q
    obtain ⟨v, hv, pz⟩ := e.freeze w hi
    rw [h1] at hv
    cases hv
    have rz : Rep K fns (FzI F fs i) H (.dct o.fz (frzP kvs)) (.ref a) Emp := pz.rep
    have fa : FzI F fs i a ∧ RepP K fns (FzI F fs i) H (frzP kvs) kw Emp := by
      have : ∃ b kw', V.ref a = .ref b ∧ Rd H b (.dK kw') ∧ FzI F fs i b ∧ RepP K fns (FzI F fs i) H (frzP kvs) kw' Emp := by
        obtain ⟨b, kw', z1, z2, z3, z4, _⟩ := (show Rep K fns (FzI F fs i) H (.dct .ext (frzP kvs)) (.ref a) Emp from by cases o <;> exact rz)
        exact ⟨b, kw', z1, z2, z3, z4⟩
      obtain ⟨b, kw', e, rd, f, r⟩ := this
      cases e
      rcases rd with rd | ⟨o', rd⟩
      · rw [h2] at rd; cases rd
      · rw [h2] at rd; cases rd; exact ⟨f, r⟩
    exact post _ _ _ _ ⟨pz.drop rfl, _, ⟨h2, fa⟩, hJ a od kw _⟩
  · cases q
end
theorem i_keys (G : GX fns T C N sc fnp X) {i : Nat} {x : Str} {p : Pos} {tg : Expr} (h : nmB N sc i x = true) : PI X tg (.Name x p) (tIx X.K fns (some i) (dctI i fun kvs => kvs.map fun kv => keyOf kv.1)) := by
  refine PI.imp (pi_keys (G.var h)) fun σ H R q => ?_
  obtain ⟨a, od, kw, h1, h2, r⟩ := tIx_dct (J := Itk) (fun _ _ _ _ => drv_keys) q
  exact ⟨_, h1, a, od, rfl, .inl ⟨kw, h2, r⟩⟩
theorem i_values (G : GX fns T C N sc fnp X) {i : Nat} {x : Str} {px pa p : Pos} {tg : Expr} (h : nmB N sc i x = true) (hl : oneLine pa p = true) : PI X tg (.Call (.Attribute (.Name x px) "values" pa) [] [] p) (tIx X.K fns (some i) (dctI i fun kvs => kvs.map fun kv => kv.2)) := by
  refine PI.imp (pi_values (G.var h) rfl hl) fun σ H R q => ?_
  obtain ⟨a, od, kw, h1, h2, r⟩ := tIx_dct (J := Itd) (fun _ _ _ _ => drv_values) q
  exact ⟨_, h1, a, od, kw, rfl, h2, r⟩
theorem i_items (G : GX fns T C N sc fnp X) {i : Nat} {x : Str} {px pa p : Pos} {tg : Tg} (h : nmB N sc i x = true) (hl : oneLine pa p = true) (ht : tgTup tg = true) : PI X tg.ast (.Call (.Attribute (.Name x px) "items" pa) [] [] p) (tIx X.K fns (some i) (dctI i fun kvs => kvs.map fun kv => .tup [keyOf kv.1, kv.2])) := by
  obtain ⟨elts, k, tp, et⟩ := tupAst ht
  rw [et]
  refine PI.imp (pi_items (G.var h) rfl hl) fun σ H R q => ?_
  obtain ⟨a, od, kw, h1, h2, r⟩ := tIx_dct (J := Iti) (fun _ _ _ _ => drv_items) q
  exact ⟨_, h1, a, od, kw, rfl, h2, r⟩

/-! ### what is locked on the way -/
theorem pe_locked {e : Expr} {l : Option Nat} {g : EvT} {t1 : TE} (h : PE X e t1) (h1 : ∀ σ H Q, (∀ i, l = some i → Lkd i σ H) → tE X.K fns g σ H Q → t1 σ H Q)
    (hg : ∀ i, l = some i → ∀ ρ d ρ', g ρ = some (d, ρ') → ∃ o kvs, ρ[i]? = some (some (.dct o kvs)) ∧ g (ρ.set i (some (frz (.dct o kvs)))) = g ρ) : PE X e (tE X.K fns g) := by
  cases l with
  | none => exact PE.imp h fun σ H Q q => h1 σ H Q (fun _ z => nomatch z) q
  | some i => exact PE.imp (PE.or (pe_lock h) h) fun σ H Q q => tE_lock (hg i rfl) (fun σ H Q lk q => h1 σ H Q (fun j z => by cases z; exact lk) q) q
theorem ps_locked {s : Stmt} {l : Option Nat} {g : Rho → Option (Fl × Rho)} {as : List Nat} {t1 : TS} (h : PS X s t1) (h1 : ∀ Dn σ H, (∀ i, l = some i → Lkd i σ H) → tS X.K fns g as Dn σ H → t1 Dn σ H)
    (hg : ∀ i, l = some i → ∀ ρ d ρ', g ρ = some (d, ρ') → ∃ o kvs, ρ[i]? = some (some (.dct o kvs)) ∧ g (ρ.set i (some (frz (.dct o kvs)))) = g ρ) : PS X s (tS X.K fns g as) := by
  cases l with
  | none => exact PS.imp h fun σ H Q q => h1 σ H Q (fun _ z => nomatch z) q
  | some i => exact PS.imp (PS.or (ps_lock h) h) fun σ H Q q => tS_lock (hg i rfl) (fun σ H Q lk q => h1 σ H Q (fun j z => by cases z; exact lk) q) q
theorem dctI_some {i : Nat} {f : List (Key × D) → List D} {ρ : Rho} {r : List D × Rho} (h : dctI i f ρ = some r) : ∃ o kvs, ρ[i]? = some (some (.dct o kvs)) ∧ dctI i f (ρ.set i (some (frz (.dct o kvs)))) = dctI i f ρ := by
  cases e : ρ[i]? with
  | none => unfold dctI at h; rw [e] at h; cases h
  | some y =>
    cases y with
    | none => unfold dctI at h; rw [e] at h; cases h
    | some d =>
      cases d with
      | dct o kvs => exact ⟨o, kvs, rfl, dctI_frz e⟩
      | _ => unfold dctI at h; rw [e] at h; cases h
section
variable {opBi : Bi → List D → Option D} {opMt : Mt → D → List D → Option D} {opMu : Mu → D → List D → Option (D × D)}
theorem evIt_lock {it : It} {i : Nat} (h : lockOf it = some i) : ∃ f, evIt opBi opMt opMu T C it = dctI i f := by
  cases it <;> first | (cases h; done) | (cases h; exact ⟨_, by rw [evIt]⟩)
theorem bind_lock {β : Type} {it : It} {k : List D × Rho → Option β} {i : Nat} (h : lockOf it = some i) (ρ : Rho) (r : β) (q : (evIt opBi opMt opMu T C it ρ).bind k = some r) :
    ∃ o kvs, ρ[i]? = some (some (.dct o kvs)) ∧ (evIt opBi opMt opMu T C it (ρ.set i (some (frz (.dct o kvs))))).bind k = (evIt opBi opMt opMu T C it ρ).bind k := by
  obtain ⟨f, hf⟩ := evIt_lock (opBi := opBi) (opMt := opMt) (opMu := opMu) (T := T) (C := C) h
  rw [hf] at q ⊢
  obtain ⟨y, h1, h2⟩ := Option.bind_eq_some_iff.mp q
  obtain ⟨o, kvs, h3, h4⟩ := dctI_some h1
  exact ⟨o, kvs, h3, by rw [h4]⟩
end
theorem st_forX (G : GX fns T C N sc fnp X) (hx : X.xe = fun _ _ => False) {t : Tg} {iter : Expr} {b : List Stmt} {l : Option Nat} {gi : Rho → Option (List D × Rho)} {g : Rho → Option (Fl × Rho)} {as : List Nat} {p : Pos} (ht : tgB N sc fnp t = true) (hi : PI X t.ast iter (tIx X.K fns l gi))
    (hf : ∀ x, foldedSetIterable iter X.env x = pure x) (hb : PSs X b (tS X.K fns g as)) (hg : ∀ i, l = some i → ∀ ρ d ρ', forE gi t g ρ = some (d, ρ') → ∃ o kvs, ρ[i]? = some (some (.dct o kvs)) ∧ forE gi t g (ρ.set i (some (frz (.dct o kvs)))) = forE gi t g ρ) :
    PS X (.For t.ast iter b [] p) (tS X.K fns (forE gi t g) (tgSlots t ++ as)) :=
  ps_locked (l := l) (ps_for (by rw [hx]; exact PassesOwn.never) G.calm hi (g_all G ht) hb hf) (fun Dn σ H lk q => ⟨lk, for_main q⟩) hg
end
end VK

set_option Elab.async false
set_option linter.all false
set_option maxRecDepth 100000
namespace VK
open PySem PySem.Spec PyProof.Rows L2
section
variable {fns : List Addr} {T : Tab} {C : CallF}
def mtE (f : D → List D → Option D) (go : EvT) (gs : Rho → Option (List D × Rho)) : EvT := fun ρ => do
  let (x, ρ1) ← go ρ
  let (ds, ρ2) ← gs ρ1
  let r ← f x ds
  pure (r, ρ2)
def muE (f : D → List D → Option (D × D)) (i : Nat) (gs : Rho → Option (List D × Rho)) : EvT := fun ρ => match ρ[i]? with
  | some (some (.lst .own _)) => do
    let (ds, ρ1) ← gs ρ
    match ρ1[i]? with
    | some (some x) => do
      let (r, x') ← f x ds
      pure (r, ρ1.set i (some x'))
    | _ => none
  | _ => none
theorem tA_consX {K : PySem.W.Frag} {ga : EvT} {gb : Rho → Option (List D × Rho)} {tk : TA} (hk : ∀ σ H Q, tA K fns gb σ H Q → tk σ H Q) {σ : L2.St} {H : Hp} {Q : List V → Hp → Prop} (h : tA K fns (consE ga gb) σ H Q) : tCons (tE K fns ga) tk σ H Q := by
  obtain ⟨F, ρ, fs, d, ρ', w, e, q, post⟩ := tA_cons h
  exact ⟨F, ρ, fs, d, ρ', w, e, q, fun F' H' fs' x P p => hk _ _ _ (post F' H' fs' x P p)⟩
structure ArgsOf (es : Es) (gs : Rho → Option (List D × Rho)) : Prop where
  len : ∀ ρ ds ρ', gs ρ = some (ds, ρ') → ds.length = es.ast.length
  nil : es = .nil → gs = fun ρ => some ([], ρ)
/-- the built-ins, the methods keep what is told of them -/
structure OpsOk (fns : List Addr) (T : Tab) (C : CallF) (opBi : Bi → List D → Option D) (opMt : Mt → D → List D → Option D) (opMu : Mu → D → List D → Option (D × D)) : Prop where
  bi : ∀ {N sc fnp X}, GX fns T C N sc fnp X → ∀ (b : Bi) (e : E) (es : Es) (gs : Rho → Option (List D × Rho)) (pn p : Pos), glbB sc b.nm = true → PA X (e.ast :: es.ast) (tA X.K fns gs) → PE X (.Call (.Name b.nm pn) (e.ast :: es.ast) [] p) (tE X.K fns (opEN (opBi b) gs))
  mt : ∀ {N sc fnp X}, GX fns T C N sc fnp X → ∀ (m : Mt) (o : E) (es : Es) (go : EvT) (gs : Rho → Option (List D × Rho)) (pa p : Pos), ArgsOf es gs → baseB o = true → oneLine pa p = true → PE X o.ast (tE X.K fns go) → PA X es.ast (tA X.K fns gs) → PE X (.Call (.Attribute o.ast m.nm pa) es.ast [] p) (tE X.K fns (mtE (opMt m) go gs))
  mu : ∀ {N sc fnp X}, GX fns T C N sc fnp X → ∀ (m : Mu) (i : Nat) (x : Str) (px : Pos) (es : Es) (gs : Rho → Option (List D × Rho)) (pa p : Pos), ArgsOf es gs → nmB N sc i x = true → oneLine pa p = true → PA X es.ast (tA X.K fns gs) → PE X (.Call (.Attribute (.Name x px) m.nm pa) es.ast [] p) (tE X.K fns (muE (opMu m) i gs))
variable {opBi : Bi → List D → Option D} {opMt : Mt → D → List D → Option D} {opMu : Mu → D → List D → Option (D × D)}
theorem PTs.imp {X : Cx} {es : List Expr} {t u : TT} (h : PTs X es t) (i : ∀ σ H Q, u σ H Q → t σ H Q) : PTs X es u := ⟨fun pins s σ H Q I q => h.run pins s σ H Q I (i σ H Q q)⟩
theorem evs_len : ∀ (es : Es) (ρ : Rho) (ds : List D) (ρ' : Rho), evs opBi opMt opMu T C es ρ = some (ds, ρ') → ds.length = es.ast.length
  | .nil, ρ, ds, ρ', h => by
    have h : some (([] : List D), ρ) = some (ds, ρ') := h
    cases h
    rfl
  | .cons e es, ρ, ds, ρ', h => by
    have h : argE e (ev opBi opMt opMu T C e) (evs opBi opMt opMu T C es) ρ = some (ds, ρ') := h
    have key : ∀ {ga : EvT}, consE ga (evs opBi opMt opMu T C es) ρ = some (ds, ρ') → ds.length = (Es.cons e es).ast.length := fun {ga} h => by
      simp only [consE, Option.bind_eq_bind, Option.bind_eq_some_iff, Prod.exists, Option.pure_def, Option.some.injEq, Prod.mk.injEq] at h
      obtain ⟨d, ρ1, _, ds1, ρ2, h2, rfl, rfl⟩ := h
      show _ + 1 = _ + 1
      rw [evs_len es _ _ _ h2]
    cases e with
    | mv i x p =>
      have h : lateE i (evs opBi opMt opMu T C es) ρ = some (ds, ρ') := h
      unfold lateE at h
      split at h
      · simp only [Option.bind_eq_bind, Option.bind_eq_some_iff, Prod.exists] at h
        obtain ⟨ds2, ρ1, q2, q3⟩ := h
        split at q3
        · cases q3
          show _ + 1 = _ + 1
          rw [evs_len es _ _ _ q2]
        · cases q3
      · cases h
    | _ => exact key h
theorem evs_args (es : Es) : ArgsOf es (evs opBi opMt opMu T C es) := ⟨evs_len es, fun h => by subst h; rfl⟩
theorem kast_all : ∀ ps : Ps, ps.kast.all (·.isSome) = true
  | .nil => rfl
  | .cons k v ps => by show (true && _) = true; rw [kast_all ps]; rfl
theorem kast_len : ∀ ps : Ps, ps.kast.length = ps.vast.length
  | .nil => rfl
  | .cons k v ps => by show _ + 1 = _ + 1; rw [kast_len ps]
theorem i_none {X : Cx} {tg e : Expr} {g : Rho → Option (List D × Rho)} (h : PI X tg e (tI X.K fns g)) : PI X tg e (tIx X.K fns none g) := PI.imp h fun σ H R q => q.2
mutual
theorem ev_ok (O : OpsOk fns T C opBi opMt opMu) : ∀ (e : E) {N : List Str} {sc : Scope} {fnp : Str → Bool} {X : Cx}, GX fns T C N sc fnp X → okE T N sc fnp e = true → Snd X fns e.ast (ev opBi opMt opMu T C e)
  | .cst c k p, _, _, _, _, G, h => .gen (s_cst h)
  | .cp i x p, _, _, _, _, G, h => .gen (s_cp G h)
  | .mv i x p, _, _, _, _, G, h => .gen (s_mv G h)
  | .glb x p, _, _, _, _, G, h => .gen (s_glb G h)
  | .pur e, _, _, _, _, G, h => by
    have s := ev_ok O e G h
    exact ⟨PE.imp s.val fun _ _ _ q => tE_pur q, PT.imp s.tst fun _ _ _ q => tT_pur q⟩
  | .neg a p, _, _, _, _, G, h => .gen (s_neg (ev_ok O a G h).val)
  | .bin op a b p, _, _, _, _, G, h => by
    rw [okE, Bool.and_eq_true] at h
    exact .gen (s_bin (ev_ok O a G h.1).val (ev_ok O b G h.2).val)
  | .cmp op a b p, _, _, _, _, G, h => by
    rw [okE, Bool.and_eq_true] at h
    have s := s_cmp (op := op) (p := p) G (ev_ok O a G h.1).val (ev_ok O b G h.2).val
    exact ⟨s.1, s.2⟩
  | .chn op op' a b c p, _, _, _, _, G, h => by
    rw [okE, Bool.and_eq_true, Bool.and_eq_true] at h
    exact s_chn G (ev_ok O a G h.1.1) (ev_ok O b G h.1.2) (ev_ok O c G h.2)
  | .and_ es p, _, _, _, _, G, h => (evAnd_ok O es p G h).snd
  | .or_ es p, _, _, _, _, G, h => (evOr_ok O es p G h).snd
  | .not_ a p, _, _, _, _, G, h => s_not (ev_ok O a G h)
  | .ife c a b p, _, _, _, _, G, h => by
    rw [okE, Bool.and_eq_true, Bool.and_eq_true] at h
    exact s_ife (ev_ok O c G h.1.1) (ev_ok O a G h.1.2) (ev_ok O b G h.2)
  | .lst es p, _, _, _, _, G, h => .gen (s_lst (evs_ok O es G h))
  | .tup es k p, _, _, _, _, G, h => .gen (s_tup (evs_ok O es G h))
  | .ix a i p, _, _, _, _, G, h => by
    rw [okE, Bool.and_eq_true] at h
    exact .gen (s_ix G (ev_ok O a G h.1).val (ev_ok O i G h.2).val)
  | .sl a lo hi p2 p, _, _, _, _, G, h => by
    rw [okE, Bool.and_eq_true, Bool.and_eq_true] at h
    exact .gen (s_sl (ev_ok O a G h.1.1).val (evO_ok O lo G h.1.2) (evO_ok O hi G h.2))
  | .rev a k p1 p2 p3 p, _, _, _, _, G, h => .gen (s_rev (ev_ok O a G h).val)
  | .isi a t pn p, _, _, _, _, G, h => by
    rw [okE, Bool.and_eq_true, Bool.and_eq_true] at h
    exact .gen (s_isi G h.1.2 h.2 (ev_ok O a G h.1.1).val)
  | .bi b .nil pn p, _, _, _, _, G, h => by
    rw [okE, Bool.and_eq_true, Bool.and_eq_true] at h
    exact absurd h.1.1 (by simp [Es.isNil])
  | .bi b (.cons e es) pn p, _, _, _, _, G, h => by
    rw [okE, Bool.and_eq_true, Bool.and_eq_true] at h
    exact .gen (O.bi G b e es _ pn p h.2 (pa_plain (evs_ok O (.cons e es) G h.1.2)))
  | .call f x .nil pn p, _, _, _, _, G, h => by
    rw [okE, Bool.and_eq_true, Bool.and_eq_true] at h
    exact .gen (s_call0 G h.1.2 (of_decide_eq_true h.2))
  | .call f x (.cons e es) pn p, _, _, _, _, G, h => by
    rw [okE, Bool.and_eq_true, Bool.and_eq_true] at h
    exact .gen (s_call G h.1.2 (of_decide_eq_true h.2) (evs_ok O (.cons e es) G h.1.1))
  | .callK f x es ks q kes pn p, _, _, _, _, G, h => by
    rw [okE] at h
    simp only [Bool.and_eq_true, decide_eq_true_eq] at h
    obtain ⟨⟨⟨⟨⟨⟨h1, h2⟩, h3⟩, h4⟩, h5⟩, h6⟩, h7⟩ := h
    obtain ⟨tk, k1, k2⟩ := evs_ks O kes G h2
    exact .gen (s_callQ G h3 h4 h5 h6 h7 (evs_len es) (fun h => by subst h; rfl) (evs_len kes) (pa_plain (evs_ok O es G h1)) k1 k2)
  | .mt m o es pa p, _, _, _, _, G, h => by
    rw [okE, Bool.and_eq_true, Bool.and_eq_true, Bool.and_eq_true] at h
    exact .gen (O.mt G m o es _ _ pa p (evs_args es) h.1.1.1 h.2 (ev_ok O o G h.1.1.2).val (pa_plain (evs_ok O es G h.1.2)))
  | .mu m i x px es pa p, _, _, _, _, G, h => by
    rw [okE, Bool.and_eq_true, Bool.and_eq_true] at h
    exact .gen (O.mu G m i x px es _ pa p (evs_args es) h.1.1 h.2 (pa_plain (evs_ok O es G h.1.2)))
  | .lc elt tg it cd scope own p, N, sc, fnp, X, G, h => by
    rw [okE] at h
    simp only [Bool.and_eq_true] at h
    obtain ⟨⟨⟨⟨⟨h1, h2⟩, h3⟩, h4⟩, h5⟩, h6⟩ := h
    have hs : ∀ i ∈ tgSlots tg, i ∈ own.map (·.2) := fun i hi => by
      have := List.all_eq_true.mp h4 i hi
      obtain ⟨q, hq, e⟩ := List.any_eq_true.mp this
      exact List.mem_map.mpr ⟨q, hq, by simpa using e⟩
    refine .gen (pe_locked (l := lockOf it) (pe_lc (own := own) G.calm (by rw [G.eN]; exact G.nd) (evIt_ok O it G h1) (by rw [G.eN, G.sc]; exact blkOk_by h2)
      (fun s H A cl fp => g_all (G.blk scope s H A cl fp) h3) (fun s H A cl fp => evT_ok O cd (G.blk scope s H A cl fp) h5) (fun s H A cl fp => (ev_ok O elt (G.blk scope s H A cl fp) h6).val) (foldI_ok X.env it)) (fun σ H Q lk q => ⟨lk, lc_main hs q⟩) fun i hl ρ d ρ' q => bind_lock hl ρ _ q)
  | .dct .nil p, _, _, _, _, G, h => .gen s_dct0
  | .dct (.cons k v ps) p, _, _, _, _, G, h => by
    rw [okE, Bool.and_eq_true] at h
    obtain ⟨trs, h1, h2⟩ := evPs_ok O (.cons k v ps) p G h.1
    exact .gen (s_dct h1 (kast_all _) (kast_len _) (by intro e; cases e) (of_decide_eq_true h.2) h2)
  | .dc kx vx tg it cd scope own p, N, sc, fnp, X, G, h => by
    rw [okE] at h
    simp only [Bool.and_eq_true] at h
    obtain ⟨⟨⟨⟨⟨⟨h1, h2⟩, h3⟩, h4⟩, h5⟩, h6⟩, h7⟩ := h
    have hs : ∀ i ∈ tgSlots tg, i ∈ own.map (·.2) := fun i hi => by
      have := List.all_eq_true.mp h4 i hi
      obtain ⟨q, hq, e⟩ := List.any_eq_true.mp this
      exact List.mem_map.mpr ⟨q, hq, by simpa using e⟩
    refine .gen (pe_locked (l := lockOf it) (pe_dc (own := own) G.calm (by rw [G.eN]; exact G.nd) (evIt_ok O it G h1) (by rw [G.eN, G.sc]; exact blkOk_by h2)
      (fun s H A cl fp => g_all (G.blk scope s H A cl fp) h3) (fun s H A cl fp => evT_ok O cd (G.blk scope s H A cl fp) h5) (fun s H A cl fp => (ev_ok O kx (G.blk scope s H A cl fp) h6).val) (fun s H A cl fp => (ev_ok O vx (G.blk scope s H A cl fp) h7).val) (foldI_ok X.env it)) (fun σ H Q lk q => ⟨lk, dc_main hs q⟩) fun i hl ρ d ρ' q => bind_lock hl ρ _ q)
theorem evPs_ok (O : OpsOk fns T C opBi opMt opMu) : ∀ (ps : Ps) (pos : Pos) {N : List Str} {sc : Scope} {fnp : Str → Bool} {X : Cx}, GX fns T C N sc fnp X → okPs T N sc fnp ps = true → ∃ trs, PPs X pos ps.kast ps.vast trs ∧ ∀ σ H Q, tP X.K fns (evPs opBi opMt opMu T C ps) σ H Q → tPairs trs σ H Q
  | .nil, pos, _, _, _, _, G, h => ⟨[], pps_nil, fun σ H Q q => tP_nil q⟩
  | .cons k v ps, pos, _, _, _, _, G, h => by
    rw [okPs, Bool.and_eq_true, Bool.and_eq_true] at h
    obtain ⟨trs, h1, h2⟩ := evPs_ok O ps pos G h.2
    exact ⟨_, pps_cons (ev_ok O k G h.1.1).val (ev_ok O v G h.1.2).val h1, fun σ H Q q => tP_cons h2 q⟩
theorem evs_ks (O : OpsOk fns T C opBi opMt opMu) : ∀ (es : Es) {N : List Str} {sc : Scope} {fnp : Str → Bool} {X : Cx}, GX fns T C N sc fnp X → okEs T N sc fnp es = true → ∃ tk, PKs X es.ast tk ∧ ∀ σ H Q, tA X.K fns (evs opBi opMt opMu T C es) σ H Q → tk σ H Q
  | .nil, _, _, _, _, G, h => ⟨_, .nil, fun σ H Q q => tA_nil q⟩
  | .cons e es, _, _, _, _, G, h => by
    rw [okEs, Bool.and_eq_true] at h
    obtain ⟨tk, h1, h2⟩ := evs_ks O es G h.2
    have key : (∃ i x p, e = .mv i x p) ∨ ∀ ga gb, argE e ga gb = consE ga gb := by
      cases e <;> first | exact .inr fun _ _ => rfl | exact .inl ⟨_, _, _, rfl⟩
    rcases key with ⟨i, x, p, rfl⟩ | key
    · refine ⟨_, .cons (G.var (by simpa [okE] using h.1)) h1, fun σ H Q q => ?_⟩
      obtain ⟨F, ρ, fs, ds, ρ', w, en, q, post⟩ := q
      obtain ⟨v, ds2, ρ1, hv, q2, k⟩ := late_main en q
      refine ⟨v, hv, h2 _ _ _ ⟨F, ρ, fs, ds2, ρ1, w, en, q2, fun F2 H2 fs2 ys P2 p2 => ?_⟩⟩
      obtain ⟨fs3, P3, p3⟩ := k _ _ _ _ _ p2
      exact post _ _ _ _ _ p3
    · refine ⟨_, .cons (ev_ok O e G h.1).val h1, fun σ H Q q => ?_⟩
      have q : tA _ fns (argE e (ev opBi opMt opMu T C e) (evs opBi opMt opMu T C es)) σ H Q := q
      rw [key] at q
      exact tA_consX h2 q
theorem evO_ok (O : OpsOk fns T C opBi opMt opMu) : ∀ (e : Oe) {N : List Str} {sc : Scope} {fnp : Str → Bool} {X : Cx}, GX fns T C N sc fnp X → okO T N sc fnp e = true → PO X e.ast (tOpt X.K fns (evO opBi opMt opMu T C e))
  | .no, _, _, _, _, G, h => o_none
  | .yes e, _, _, _, _, G, h => o_some (ev_ok O e G h).val
theorem evT_ok (O : OpsOk fns T C opBi opMt opMu) : ∀ (e : Oe) {N : List Str} {sc : Scope} {fnp : Str → Bool} {X : Cx}, GX fns T C N sc fnp X → okO T N sc fnp e = true → PTs X e.astL (tT X.K fns (evT opBi opMt opMu T C e))
  | .no, _, _, _, _, G, h => by
    refine PTs.imp pts_nil fun σ H Q q => ?_
    obtain ⟨F, ρ, fs, d', ρ', b, w, e, q, hb, post⟩ := q
    cases q
    have hb : some true = some b := hb
    cases hb
    exact post _ _ _ _ _ (.flat (v := .bl true) w e rfl)
  | .yes e, _, _, _, _, G, h => pts_one (ev_ok O e G h).tst
theorem evs_ok (O : OpsOk fns T C opBi opMt opMu) : ∀ (es : Es) {N : List Str} {sc : Scope} {fnp : Str → Bool} {X : Cx}, GX fns T C N sc fnp X → okEs T N sc fnp es = true → PA X es.ast (tAio X.K fns (evs opBi opMt opMu T C es) (iosOf 0 es))
  | .nil, _, _, _, _, G, h => args_nil
  | .cons e es, _, _, _, _, G, h => by
    rw [okEs, Bool.and_eq_true] at h
    have key : (iosOf 0 (.cons e es) = iosOf 1 es ∧ ∀ ga gb, argE e ga gb = consE ga gb) ∨ ∃ i x p, e = .mv i x p := by
      cases e <;> first | exact .inl ⟨rfl, fun _ _ => rfl⟩ | exact .inr ⟨_, _, _, rfl⟩
    rcases key with ⟨key, k2⟩ | ⟨i, x, p, rfl⟩
    · rw [key, iosOf_succ]
      show PA _ _ (tAio _ fns (argE e (ev opBi opMt opMu T C e) (evs opBi opMt opMu T C es)) _)
      rw [k2]
      exact args_cons (ev_ok O e G h.1).val (evs_ok O es G h.2)
    · have := args_mv (p := p) G (by simpa [okE] using h.1) (evs_ok O es G h.2)
      rw [← iosOf_succ] at this
      exact this
theorem evAnd_ok (O : OpsOk fns T C opBi opMt opMu) : ∀ (es : Es) (p : Pos) {N : List Str} {sc : Scope} {fnp : Str → Bool} {X : Cx}, GX fns T C N sc fnp X → okEs T N sc fnp es = true → SndB X fns (.BoolOp .And es.ast p) (evAnd opBi opMt opMu T C es)
  | .nil, p, _, _, _, _, G, h => s_bool0
  | .cons e .nil, p, _, _, _, _, G, h => by
    rw [okEs, Bool.and_eq_true] at h
    exact s_and1 (ev_ok O e G h.1)
  | .cons e (.cons e2 es), p, _, _, _, _, G, h => by
    rw [okEs, Bool.and_eq_true] at h
    exact s_and (ev_ok O e G h.1) (evAnd_ok O (.cons e2 es) p G h.2)
theorem evOr_ok (O : OpsOk fns T C opBi opMt opMu) : ∀ (es : Es) (p : Pos) {N : List Str} {sc : Scope} {fnp : Str → Bool} {X : Cx}, GX fns T C N sc fnp X → okEs T N sc fnp es = true → SndB X fns (.BoolOp .Or es.ast p) (evOr opBi opMt opMu T C es)
  | .nil, p, _, _, _, _, G, h => s_bool0
  | .cons e .nil, p, _, _, _, _, G, h => by
    rw [okEs, Bool.and_eq_true] at h
    exact s_or1 (ev_ok O e G h.1)
  | .cons e (.cons e2 es), p, _, _, _, _, G, h => by
    rw [okEs, Bool.and_eq_true] at h
    exact s_or (ev_ok O e G h.1) (evOr_ok O (.cons e2 es) p G h.2)
theorem evIt_ok (O : OpsOk fns T C opBi opMt opMu) : ∀ (it : It) {N : List Str} {sc : Scope} {fnp : Str → Bool} {X : Cx} {tg : Tg}, GX fns T C N sc fnp X → okI T N sc fnp tg it = true → PI X tg.ast it.ast (tIx X.K fns (lockOf it) (evIt opBi opMt opMu T C it))
  | .any e, _, _, _, _, _, G, h => i_none (i_any (ev_ok O e G h).val)
  | .lst e, _, _, _, _, _, G, h => i_none (i_lst (ev_ok O e G h).val)
  | .tup e, _, _, _, _, _, G, h => i_none (i_tup (ev_ok O e G h).val)
  | .str e, _, _, _, _, _, G, h => i_none (i_str (ev_ok O e G h).val)
  | .rng1 a pn p, _, _, _, _, _, G, h => by
    rw [okI, Bool.and_eq_true] at h
    exact i_none (i_rng1 G h.2 (ev_ok O a G h.1).val)
  | .rng2 a b pn p, _, _, _, _, _, G, h => by
    rw [okI, Bool.and_eq_true, Bool.and_eq_true] at h
    exact i_none (i_rng2 G h.2 (ev_ok O a G h.1.1).val (ev_ok O b G h.1.2).val)
  | .zip a b pn p, _, _, _, _, _, G, h => by
    rw [okI, Bool.and_eq_true, Bool.and_eq_true, Bool.and_eq_true] at h
    exact i_none (i_zip G h.1.2 h.2 (ev_ok O a G h.1.1.1).val (ev_ok O b G h.1.1.2).val)
  | .enum a pn p, _, _, _, _, _, G, h => by
    rw [okI, Bool.and_eq_true, Bool.and_eq_true] at h
    exact i_none (i_enum G h.1.2 h.2 (ev_ok O a G h.1.1).val)
  | .keys i x p, _, _, _, _, _, G, h => i_keys G h
  | .items i x px pa p, _, _, _, _, _, G, h => by
    rw [okI, Bool.and_eq_true, Bool.and_eq_true] at h
    exact i_items G h.1.1 h.1.2 h.2
  | .values i x px pa p, _, _, _, _, _, G, h => by
    rw [okI, Bool.and_eq_true] at h
    exact i_values G h.1 h.2
end
end
end VK

set_option Elab.async false
set_option linter.all false
set_option maxRecDepth 100000
namespace VK
open PySem PySem.Spec PyProof.Rows L2
section
variable {K : PySem.W.Frag} {fns : List Addr} {F F' F1 F2 F3 P Q P' : PS_} {H H' H1 H2 H3 H4 : Hp} {σ : L2.St} {ρ ρ' ρ3 : Rho} {fs fs' fs3 : Nat → PS_} {d : D} {x vc : V} {ds : List D} {xs : List V} {as : List Nat} {i : Nat} {X' : D}
theorem RepL.setI {d : D} {v : V} (r : Rep K fns F H d v Q) : ∀ {ds : List D} {vs : List V} {P : PS_} (j : Nat), RepL K fns F H ds vs P → Dj P Q → RepL K fns F H (ds.set j d) (vs.set j v) (Un2 P Q)
  | [], _, P, j, h, _ => by cases (show _ = [] from h); rfl
  | d0 :: ds, _, P, 0, ⟨v0, w, P1, P2, e, s1, s2, dj, h1, h2⟩, dq => by
    subst e
    exact ⟨v, w, Q, P2, rfl, fun _ => .inr, fun a z => .inl (s2 a z), fun a z u => dq a (s2 a u) z, r, h2⟩
  | d0 :: ds, _, P, j + 1, ⟨v0, w, P1, P2, e, s1, s2, dj, h1, h2⟩, dq => by
    subst e
    exact ⟨v0, _, P1, _, rfl, fun a z => .inl (s1 a z), fun a z => z.imp (s2 a) id, fun a z u => u.elim (dj a z) (dq a (s1 a z)), h1, RepL.setI r j h2 fun a z => dq a (s2 a z)⟩
theorem set_self {σ : L2.St} (hv : σ[i]? = some (some vc)) : σ.set i (some vc) = σ := by
  apply List.ext_getElem?
  intro j
  by_cases hj : j = i
  · subst hj
    rw [List.getElem?_set, if_pos rfl, if_pos (List.getElem?_eq_some_iff.mp hv).1, hv]
  · rw [List.getElem?_set_ne (Ne.symm hj)]
/-- an owned object that is written in its place -/
theorem APost.mut (p : APost K fns F H fs F3 H3 fs3 σ ρ3 ds xs P) (hv : σ[i]? = some (some vc)) (r : Rep K fns F3 H4 X' vc P') (sb : Sb P' P) (st : Step P' F3 F3 H3 H4) (ow : OwnS F3 H4 P') :
    SPost K fns F H fs σ F3 H4 (fupd fs3 i P') σ (ρ3.set i (some X')) as := by
  have e1 := p.env.step st (p.own.sb sb) fun a z u => p.dj a (sb a u) z
  have e2 := e1.set (i := i) r ow fun j _ a z u => p.dj a (sb a z) ⟨j, u⟩
  rw [set_self hv] at e2
  refine ⟨p.step.trans st fun c z => p.new c (.inl (sb c z)), fun a f => ?_, e2, fun a z => ?_, fun _ _ => rfl⟩
  · obtain ⟨o, e⟩ := p.wf a f
    exact ⟨o, st.keep a o e fun z => (p.own a (sb a z)).1 f⟩
  · rcases UU_fupd z with z | z
    · exact p.new a (.inl (sb a z))
    · exact p.new a (.inr z)
theorem mut_step {a : Addr} {o : HO} : Step (fun b => b = a) F F H (upd H a o) := ⟨Sb.rfl, fun b u e n => by rw [upd_ne n]; exact e, fun _ f => .inl f⟩
end
section
variable {X : Cx} {fns : List Addr} {T : Tab} {C : CallF} {N : List Str} {sc : Scope} {fnp : Str → Bool}
/-! ### name[i] = v -/
theorem swapsI_ok (o i : Expr) (p : Pos) (l : Nat) (env : PySem.Env) (e : E) : swapsWith e.ast (some (.Subscript o i p)) l env = pure false := by
  apply E.rec (motive_1 := fun e => swapsWith e.ast (some (.Subscript o i p)) l env = pure false) (motive_2 := fun _ => True) (motive_3 := fun _ => True) (motive_4 := fun _ => True) (motive_5 := fun _ => True) <;> intros <;> first | rfl | trivial | assumption
theorem noSwapI_ok (o i : Expr) (p : Pos) (env : PySem.Env) (e : E) : swappedStores [.Subscript o i p] e.ast env = pure none := by
  apply E.rec (motive_1 := fun e => swappedStores [.Subscript o i p] e.ast env = pure none) (motive_2 := fun _ => True) (motive_3 := fun _ => True) (motive_4 := fun _ => True) (motive_5 := fun _ => True) <;> intros <;> first | rfl | trivial | assumption
theorem asgI_ok (o : Expr) (p : Pos) (env : PySem.Env) (i : E) : ∀ v, assign (.Subscript o i.ast p) env v = (do
      let ov ← holding [v] (eval o env)
      let iv ← holding [v, ov] (eval i.ast env)
      standAt p
      holding [v, ov, iv] (setItem ov iv v)
      release [v, ov, iv] []) := by
  apply E.rec (motive_1 := fun i => ∀ v, assign (.Subscript o i.ast p) env v = (do
      let ov ← holding [v] (eval o env)
      let iv ← holding [v, ov] (eval i.ast env)
      standAt p
      holding [v, ov, iv] (setItem ov iv v)
      release [v, ov, iv] [])) (motive_2 := fun _ => True) (motive_3 := fun _ => True) (motive_4 := fun _ => True) (motive_5 := fun _ => True) <;> intros <;> first | rfl | trivial | (rename_i h _; exact h _)
def setxE (i : Nat) (ge gi : EvT) : Rho → Option (Fl × Rho) := fun ρ => do
  let (v, ρ1) ← ge ρ
  match ρ1[i]? with
  | some (some x) => do
    let (k, ρ2) ← gi (ρ1.set i none)
    let x' ← setxD x k v
    pure (.nx, ρ2.set i (some x'))
  | _ => none
theorem st_setx (G : GX fns T C N sc fnp X) {t : TgN} {i e : E} {ge gi : EvT} {ps p : Pos} (he : PE X e.ast (tE X.K fns ge)) (hi : PE X i.ast (tE X.K fns gi)) (ht : nmB N sc t.i t.x = true) : PS X (.Assign [.Subscript t.ast i.ast ps] e.ast p) (tS X.K fns (setxE t.i ge gi) []) := by
  have hu : X.A.units + 1 < cLine := by have := G.hu; omega
  refine PS.imp (ps_asg he (pg_sub (G.var ht) hi (PSet.or set_list (set_dict hu)) (asgI_ok t.ast ps X.env i)) (swapsI_ok t.ast i.ast ps p.line X.env e) (noSwapI_ok t.ast i.ast ps X.env e)) fun Dn σ H q => ?_
  obtain ⟨F, ρ, fs, fl, ρ', w, en, q, aft⟩ := q
  simp only [setxE, Option.bind_eq_bind, Option.bind_eq_some_iff, Prod.exists] at q
  obtain ⟨dv, ρ1, q1, q2⟩ := q
  split at q2
  · rename_i dx hx
    simp only [Option.bind_eq_some_iff, Prod.exists, Option.pure_def, Option.some.injEq, Prod.mk.injEq] at q2
    obtain ⟨dk, ρ2, q2, dx', q3, rfl, rfl⟩ := q2
    refine ⟨F, ρ, fs, dv, ρ1, w, en, q1, fun F1 H1 fs1 x P p1 => ?_⟩
    obtain ⟨vc, hv, pm⟩ := p1.env.move p1.wf hx
    refine ⟨vc, hv, F1, _, _, dk, ρ2, pm.wf, pm.env, q2, fun F3 H3 fs3 kx Pk pk => ?_⟩
    have ap := p1.cons (pm.two pk)
    generalize Un2 P _ = PA at ap
    obtain ⟨_, _, A1, A2, ea, s1, s2, dj, r1, _, _, B1, B2, eb, t1, t2, dj2, r2, _, _, C1, C2, ec, u1, u2, dj3, r3, _⟩ := ap.rep
    cases ec; cases eb; cases ea
    have sAB : Sb (Un2 B1 A1) PA := fun a z => z.elim (fun z => s2 a (t1 a z)) (s1 a)
    have dBA : Dj B1 A1 := fun a z u => dj a u (t1 a z)
    unfold setxD at q3
    split at q3
    · rename_i xs k
      obtain ⟨j, hj, rfl⟩ := Option.map_eq_some_iff.mp q3
      obtain ⟨a, vs, rfl, ha, ba, rl⟩ := r2
      cases (show kx = _ from r3)
      refine .inl ⟨a, vs, k, j, rfl, rfl, ha, by rw [rl.len]; exact hj, ?_⟩
      refine aft _ _ _ _ (ap.mut (P' := Un2 B1 A1) hv ?_ sAB (mut_step.weak fun b z => .inl (by subst z; exact ba)) fun b z => ?_)
      · have oA : OwnS F3 H3 (fun b => b = a) := fun b z => by subst z; exact ap.own _ (sAB _ (.inl ba))
        have rl' := (mut_step (o := .lst (vs.set j x))).repL oA (fun b z e => z.2 e) rl
        have r1' := (mut_step (o := .lst (vs.set j x))).rep oA (fun b z e => by subst e; exact dBA _ ba z) r1
        exact ⟨a, _, rfl, upd_same, .inl ba, (RepL.setI r1' j rl' fun b z u => dBA b z.1 u).mono fun b z => z.elim (fun z => ⟨.inl z.1, z.2⟩) fun z => ⟨.inr z, fun e => dBA b (e ▸ ba) z⟩⟩
      · by_cases hb : b = a
        · subst hb; exact ⟨(ap.own _ (sAB _ z)).1, _, upd_same, trivial⟩
        · obtain ⟨n, o, e, io⟩ := ap.own b (sAB b z)
          exact ⟨n, o, by rw [upd_ne hb]; exact e, io⟩
    · rename_i kvs k v
      split at q3
      · rename_i hlen
        obtain ⟨k', hk, rfl⟩ := Option.map_eq_some_iff.mp q3
        obtain ⟨a, kw, rfl, ha, ba, rl, nd⟩ := r2
        have := key_rep r3 hk
        subst this
        refine .inr ⟨a, _, rfl, .k ha (by rw [rl.len]; exact hlen), ?_⟩
        refine aft _ _ _ _ (ap.mut (P' := Un2 B1 A1) hv ?_ sAB (mut_step.weak fun b z => .inl (by subst z; exact ba)) fun b z => ?_)
        · have oA : OwnS F3 H3 (fun b => b = a) := fun b z => by subst z; exact ap.own _ (sAB _ (.inl ba))
          have rl' := (mut_step (o := .dK (putK kw k' x))).repP oA (fun b z e => z.2 e) rl
          have r1' := (mut_step (o := .dK (putK kw k' x))).rep oA (fun b z e => by subst e; exact dBA _ ba z) r1
          obtain ⟨rp, np⟩ := RepP.put (k := k') rl' nd r1' fun b z u => dBA b z.1 u
          exact ⟨a, _, rfl, upd_same, .inl ba, rp.mono fun b z => z.elim (fun z => ⟨.inl z.1, z.2⟩) fun z => ⟨.inr z, fun e => dBA b (e ▸ ba) z⟩, np⟩
        · by_cases hb : b = a
          · subst hb; exact ⟨(ap.own _ (sAB _ z)).1, _, upd_same, trivial⟩
          · obtain ⟨n, o, e, io⟩ := ap.own b (sAB b z)
            exact ⟨n, o, by rw [upd_ne hb]; exact e, io⟩
      · cases q3
    · cases q3
  · cases q2
end
end VK

set_option Elab.async false
set_option linter.all false
set_option maxRecDepth 100000
namespace VK
open PySem PySem.Spec PyProof.Rows L2
section
variable {X : Cx}
/-- name = {..} on one line, the name a local -/
theorem ps_setDc {i : Nat} {y : Str} {py : Pos} {kx vx tg iter : Expr} {ifs : List Expr} {scope : Scope} {own : List (Str × Nat)} {pos spos : Pos} {wi : TI} {g : TG} {tt : TT} {tk tv : TE} (hc : X.calm = true) (hN : X.N.Nodup) (hy : X.N[i]? = some y) (hyl : X.env.scope.names.lookup y = some .local)
    (hsw : swapsWith (.DictComp kx vx [⟨tg, iter, ifs, 0⟩] scope pos) (some (.Name y py)) spos.line X.env = pure true) (hi : PI X tg iter wi) (ok : BlkOk X.N X.env.scope scope own)
    (hg : ∀ (s : Shared) (H : Hp) (C : Addr) (cl : List (Str × Addr)) (fp : List Addr), PG (X.blk s H scope (compEnvC scope cl C X.env) fp) tg g) (ht : ∀ (s : Shared) (H : Hp) (C : Addr) (cl : List (Str × Addr)) (fp : List Addr), PTs (X.blk s H scope (compEnvC scope cl C X.env) fp) ifs tt)
    (hk : ∀ (s : Shared) (H : Hp) (C : Addr) (cl : List (Str × Addr)) (fp : List Addr), PE (X.blk s H scope (compEnvC scope cl C X.env) fp) kx tk)
    (he : ∀ (s : Shared) (H : Hp) (C : Addr) (cl : List (Str × Addr)) (fp : List Addr), PE (X.blk s H scope (compEnvC scope cl C X.env) fp) vx tv) (hs : ∀ x, foldedSetIterable iter X.env x = pure x := by intro _; rfl) :
    PS X (.Assign [.Name y py] (.DictComp kx vx [⟨tg, iter, ifs, 0⟩] scope pos) spos) (tAsg (tDc wi g tt tk tv (own.map (·.2))) (gName i)) := by
  refine ⟨fun pins s σ H D I h => ?_⟩
  rw [exec_Assign_Name_used _ _ _ _ hsw]
  refine wpAny_bind (wpAny_standAt (wpAny_bind ?_))
  show wpAny _ X.A (do let _ ← comprehension (.DictComp kx vx [⟨tg, iter, ifs, 0⟩] scope pos) scope X.env (firstIterPos [⟨tg, iter, ifs, 0⟩] pos) newDict false (eval iter X.env) (some (assign (.Name y py) X.env))) _ _ s
  have h : tDc wi g tt tk tv (own.map (·.2)) σ H (fun x H1 => gName i x σ H1 D.nx) := h
  refine wpAny_bind (thn (dc_core (Qf := fun _ s' => SP X pins D .next s') hc hN I hi ok hg ht hk he hs h fun L C s' m H' I' q hn f => ?_) fun _ s' hq => wpAny_pure (wpAny_pure hq))
  show wpAny _ _ (assign (.Name y py) X.env (.ref L)) _ _ _
  refine wpAny_assign_Name (store_ok2 (v := V.ref L) I' hN hy (.inl hyl) rfl (fun s2 I2 ⟨a, sb, ha⟩ => ?_) (.inr hyl))
  obtain ⟨f0, f1, f2, f3, f4, f5⟩ := f
  have haC : C ≠ a := by
    rcases ha with z | z
    · rw [z]; exact f1
    · exact fun e => f4 y a z e.symm
  refine ⟨m, hn.sameBut sb haC, fun h3 sb3 => ?_⟩
  exact ⟨_, H', I2.turned (t' := s2.toks) (fun b o hb e => (sb3.2 b hb).trans e) f0 f1 f3 f4 f5, q⟩
end
/-! ### whether the store is swapped in -/
def swB (sc : Scope) (x : Str) (p : Pos) : E → Bool
  | .pur e => swB sc x p e
  | .lc _ _ _ _ scope _ pe => sc.kind == .function && sc.names.lookup x == some .local && p.line == pe.line && !(scope.names.any fun (n, k) => n == x && (k == .local || k == .cell))
  | .dc _ _ _ _ _ scope _ pe => sc.kind == .function && sc.names.lookup x == some .local && p.line == pe.line && !(scope.names.any fun (n, k) => n == x && (k == .local || k == .cell))
  | _ => false
theorem blk_fun {env : PySem.Env} : env.scope.kind = .function → env.blockKind = .function := fun h => by unfold Env.blockKind; rw [h]; rfl
def annS : ScopeKind → Bool
  | .module => false
  | .function => false
  | .class => false
  | _ => true
theorem swB_ok (sc : Scope) (x : Str) (p : Pos) (l : Nat) (env : PySem.Env) (hsc : env.scope = sc) (hk : sc.kind = .function) (e : E) : swapsWith e.ast (some (.Name x p)) l env = pure (swB sc x p e) := by
  have hb : env.blockKind = .function := blk_fun (by rw [hsc]; exact hk)
  have hy : env.kindOf x = sc.names.lookup x := by rw [← hsc]; rfl
  apply E.rec (motive_1 := fun e => swapsWith e.ast (some (.Name x p)) l env = pure (swB sc x p e)) (motive_2 := fun _ => True) (motive_3 := fun _ => True) (motive_4 := fun _ => True) (motive_5 := fun _ => True) <;> intros <;> first | rfl | trivial | assumption | skip
  all_goals
    unfold swapsWith
    simp only [E.ast, hb, hy, swB, hk]
    rfl
section
variable {X : Cx} {fns : List Addr} {T : Tab} {C : CallF} {N : List Str} {sc : Scope} {fnp : Str → Bool}
variable {opBi : Bi → List D → Option D} {opMt : Mt → D → List D → Option D} {opMu : Mu → D → List D → Option (D × D)}
/-! ### a, b = .., .. -/
def parB (sc : Scope) (t u : TgN) (a b : E) : Bool :=
  sc.kind == .function && sc.names.lookup t.x == some .local && sc.names.lookup u.x == some .local && decide (t.p.line = u.p.line) && !(t.x == u.x) && !([a.ast, b.ast].all (foldedForSure 8)) && !([a.ast, b.ast].all (constantsAlone 8))
theorem noStar_ok (e : E) : (match e.ast with
    | .Starred .. => true
    | _ => false) = false := by
  apply E.rec (motive_1 := fun e => (match e.ast with
    | .Starred .. => true
    | _ => false) = false) (motive_2 := fun _ => True) (motive_3 := fun _ => True) (motive_4 := fun _ => True) (motive_5 := fun _ => True) <;> intros <;> first | rfl | trivial | assumption
theorem par_ok {env : PySem.Env} {t u : TgN} {a b : E} {kt : Nat} {pt : Pos} {k2 : Nat} {pt2 : Pos} (hsc : env.scope = sc) (h : parB sc t u a b = true) :
    swappedStores [.Tuple [t.ast, u.ast] kt pt] (.Tuple [a.ast, b.ast] k2 pt2) env = pure (some [t.x, u.x]) := by
  unfold parB at h
  simp only [Bool.and_eq_true, beq_iff_eq, decide_eq_true_eq, Bool.not_eq_true'] at h
  obtain ⟨⟨⟨⟨⟨⟨h1, h2⟩, h3⟩, h4⟩, h5⟩, h6⟩, h7⟩ := h
  have hb : env.blockKind = .function := blk_fun (by rw [hsc]; exact h1)
  have k1 : env.kindOf t.x = some .local := by show env.scope.names.lookup t.x = _; rw [hsc]; exact h2
  have k2 : env.kindOf u.x = some .local := by show env.scope.names.lookup u.x = _; rw [hsc]; exact h3
  have ns : ([a.ast, b.ast].any fun | .Starred .. => true | _ => false) = false := by
    show ((match a.ast with
    | .Starred .. => true
    | _ => false) || ((match b.ast with
    | .Starred .. => true
    | _ => false) || false)) = false
    rw [noStar_ok a, noStar_ok b]; rfl
  unfold swappedStores
  simp only [hb, List.length_cons, List.length_nil, TgN.ast, List.head?, List.filterMap, k1, k2, h4, h6, h7, Option.map, Expr.pos, Option.getD]
  have hc : (some NameKind.local == some NameKind.local && u.p.line == u.p.line) = true := by rw [beq_self_eq_true, beq_self_eq_true]; rfl
  have he : [t.x, u.x].eraseDups = [t.x, u.x] := by
    have h5 : (u.x == t.x) = false := by rw [← h5]; exact Bool.eq_iff_iff.mpr ⟨fun h => by simpa using (by simpa using h : u.x = t.x).symm, fun h => by simpa using (by simpa using h : t.x = u.x).symm⟩
    simp [List.eraseDups_cons, h5]
  rw [if_pos hc, if_pos hc]
  have e1 : ([t.x, u.x].length != 0 + 1 + 1 || [t.x, u.x].eraseDups.length != [t.x, u.x].length) = false := by rw [he]; rfl
  refine (if_neg (by decide)).trans ((if_neg (fun h => absurd (ns.symm.trans h) (by decide))).trans ((if_neg (by rw [e1]; decide)).trans ((if_neg (by decide)).trans (if_neg (by decide)))))
theorem st_par' (G : GX fns T C N sc fnp X) {t u : TgN} {a b : E} {ga gb : EvT} {kt : Nat} {pt : Pos} {k2 : Nat} {pt2 p : Pos} (ha : PE X a.ast (tE X.K fns ga)) (hb : PE X b.ast (tE X.K fns gb)) (ht : N[t.i]? = some t.x) (hu : N[u.i]? = some u.x) (h : parB sc t u a b = true) :
    PS X (.Assign [.Tuple [t.ast, u.ast] kt pt] (.Tuple [a.ast, b.ast] k2 pt2) p) (tS X.K fns (fun ρ => do
    let (x, ρ1) ← ga ρ
    let (y, ρ2) ← gb ρ1
    pure (.nx, (ρ2.set t.i (some x)).set u.i (some y))) [t.i, u.i]) := by
  have h' := h
  unfold parB at h
  simp only [Bool.and_eq_true, beq_iff_eq, decide_eq_true_eq, Bool.not_eq_true'] at h
  obtain ⟨⟨⟨⟨⟨⟨h1, h2⟩, h3⟩, h4⟩, h5⟩, h6⟩, h7⟩ := h
  have hne : t.i ≠ u.i := fun e => by
    rw [e, hu] at ht
    have : u.x = t.x := Option.some.inj ht
    rw [this] at h5
    simp at h5
  refine st_par (a := a) (b := b) (ta := tCons (tE X.K fns ga) (tCons (tE X.K fns gb) tNil)) (ps_par G.calm (by rw [G.eN]; exact G.nd) (by rw [G.eN]; exact ht) (by rw [G.eN]; exact hu) hne (by rw [G.sc]; exact h2) (by rw [G.sc]; exact h3) (pa_cons ha (pa_cons hb pa_nil (star_ok _ _ b)) (star_ok _ _ a)) (par_ok G.sc h')) hne rfl
/-! ### what is looked at ahead in statements -/
def asgB (sc : Scope) (e : E) : Tg → Bool
  | .nm t => !swB sc t.x t.p e
  | .tup _ _ _ => !isTup e
def isComp : E → Bool
  | .lc _ _ _ _ _ _ _ => true
  | .dc _ _ _ _ _ _ _ _ => true
  | _ => false
def augB : Operator → Bool
  | .Add => true
  | .Sub => true
  | _ => false
variable (T) (N) in
mutual
def okS (sc : Scope) (fnp : Str → Bool) : S → Bool
  | .expr e _ => okE T N sc fnp e && !isLc e
  | .asg t e _ => okE T N sc fnp e && tgB N sc fnp t && sc.kind == .function && asgB sc e t
  | .asgC t e _ => okE T N sc fnp e && decide (N[t.i]? = some t.x) && sc.names.lookup t.x == some .local && sc.kind == .function && swB sc t.x t.p e && isComp e
  | .par t u a b _ _ _ _ _ => okE T N sc fnp a && okE T N sc fnp b && decide (N[t.i]? = some t.x) && decide (N[u.i]? = some u.x) && parB sc t u a b
  | .aug op t e _ => okE T N sc fnp e && tgnB N sc fnp t && augB op
  | .setx t i e _ _ => okE T N sc fnp e && okE T N sc fnp i && nmB N sc t.i t.x
  | .ret e _ => okE T N sc fnp e
  | .retN _ => true
  | .ite c a b _ => okE T N sc fnp c && okSs sc fnp a && okSs sc fnp b
  | .whl c b _ => okE T N sc fnp c && okSs sc fnp b
  | .for_ t it b _ => okI T N sc fnp t it && tgB N sc fnp t && okSs sc fnp b
  | .pas _ => true
  | .brk _ => true
  | .cnt _ => true
  | .bad _ => true
def okSs (sc : Scope) (fnp : Str → Bool) : Ss → Bool
  | .nil => true
  | .cons s ss => okS sc fnp s && okSs sc fnp ss
end
mutual
def asS : S → List Nat
  | .expr _ _ => []
  | .asg t _ _ => tgSlots t
  | .asgC t _ _ => [t.i]
  | .par t u _ _ _ _ _ _ _ => [t.i, u.i]
  | .aug _ t _ _ => [t.i]
  | .setx t _ _ _ _ => []
  | .ret _ _ => []
  | .retN _ => []
  | .ite _ a b _ => asSs a ++ asSs b
  | .whl _ b _ => asSs b
  | .for_ t _ b _ => tgSlots t ++ asSs b
  | .pas _ => []
  | .brk _ => []
  | .cnt _ => []
  | .bad _ => []
def asSs : Ss → List Nat
  | .nil => []
  | .cons s ss => asS s ++ asSs ss
end
def setcE (i : Nat) (g : EvT) : Rho → Option (Fl × Rho) := fun ρ => do
  let (d, ρ1) ← g ρ
  pure (.nx, ρ1.set i (some d))
theorem asgC_read {K : PySem.W.Frag} {i : Nat} {g : EvT} {Dn : Ends} {σ : L2.St} {H : Hp} (q : tS K fns (setcE i g) [i] Dn σ H) : tE K fns g σ H (fun x H1 => gName i x σ H1 Dn.nx) := by
  obtain ⟨F, ρ, fs, fl, ρ', w, en, q, aft⟩ := q
  simp only [setcE, Option.bind_eq_bind, Option.bind_eq_some_iff, Prod.exists, Option.pure_def, Option.some.injEq, Prod.mk.injEq] at q
  obtain ⟨d, ρ1, q1, rfl, rfl⟩ := q
  refine ⟨F, ρ, fs, d, ρ1, w, en, q1, fun F1 H1 fs1 x P p => ?_⟩
  exact aft _ _ _ _ (p.set (p.env.set p.rep p.own fun j _ a z u => p.dj a z ⟨j, u⟩) (fun a z => (UU_fupd z).symm) fun j hj => set_out fun e => hj (by simp [e]))
theorem setc_lock {i j : Nat} {g : EvT} (h : ∀ ρ r, g ρ = some r → ∃ o kvs, ρ[i]? = some (some (.dct o kvs)) ∧ g (ρ.set i (some (frz (.dct o kvs)))) = g ρ) (ρ : Rho) (d : Fl) (ρ' : Rho) (q : setcE j g ρ = some (d, ρ')) :
    ∃ o kvs, ρ[i]? = some (some (.dct o kvs)) ∧ setcE j g (ρ.set i (some (frz (.dct o kvs)))) = setcE j g ρ := by
  unfold setcE at q
  simp only [Option.bind_eq_bind, Option.bind_eq_some_iff, Prod.exists] at q
  obtain ⟨y, ρ1, q1, q2⟩ := q
  obtain ⟨o, kvs, h1, h2⟩ := h ρ _ q1
  exact ⟨o, kvs, h1, by unfold setcE; rw [h2]⟩
theorem st_asgCl (O : OpsOk fns T C opBi opMt opMu) (G : GX fns T C N sc fnp X) {t : TgN} {p : Pos} (ht : N[t.i]? = some t.x) (hl : sc.names.lookup t.x = some .local) (hk : sc.kind = .function) {elt : E} {tg : Tg} {it : It} {cd : Oe} {scope : Scope} {own : List (Str × Nat)} {pe : Pos}
    (h : okE T N sc fnp (.lc elt tg it cd scope own pe) = true) (hw : swB sc t.x t.p (.lc elt tg it cd scope own pe) = true) :
    PS X (.Assign [t.ast] (E.lc elt tg it cd scope own pe).ast p) (tS X.K fns (setcE t.i (ev opBi opMt opMu T C (.lc elt tg it cd scope own pe))) [t.i]) := by
  have hsw := swB_ok sc t.x t.p p.line X.env G.sc hk (.lc elt tg it cd scope own pe)
  rw [hw] at hsw
  rw [okE] at h
  simp only [Bool.and_eq_true] at h
  obtain ⟨⟨⟨⟨⟨h1, h2⟩, h3⟩, h4⟩, h5⟩, h6⟩ := h
  have hs : ∀ i ∈ tgSlots tg, i ∈ own.map (·.2) := fun i hi => by
    have := List.all_eq_true.mp h4 i hi
    obtain ⟨q, hq, e⟩ := List.any_eq_true.mp this
    exact List.mem_map.mpr ⟨q, hq, by simpa using e⟩
  refine ps_locked (l := lockOf it) (ps_setLc (wi := tIx X.K fns (lockOf it) (evIt opBi opMt opMu T C it)) (g := tG X.K fns tg) (tt := tT X.K fns (evT opBi opMt opMu T C cd)) (te := tE X.K fns (ev opBi opMt opMu T C elt)) (own := own) G.calm (by rw [G.eN]; exact G.nd) (by rw [G.eN]; exact ht) (by rw [G.sc]; exact hl) hsw (evIt_ok O it G h1) (by rw [G.eN, G.sc]; exact blkOk_by h2)
    (fun s H A cl fp => g_all (G.blk scope s H A cl fp) h3) (fun s H A cl fp => evT_ok O cd (G.blk scope s H A cl fp) h5) (fun s H A cl fp => (ev_ok O elt (G.blk scope s H A cl fp) h6).val) (foldI_ok X.env it)) (fun Dn σ H lk q => ⟨lk, lc_main hs (asgC_read q)⟩) fun i hl ρ d ρ' q => setc_lock (fun ρ r q => bind_lock hl ρ r q) ρ d ρ' q
theorem st_asgCd (O : OpsOk fns T C opBi opMt opMu) (G : GX fns T C N sc fnp X) {t : TgN} {p : Pos} (ht : N[t.i]? = some t.x) (hl : sc.names.lookup t.x = some .local) (hk : sc.kind = .function) {kx vx : E} {tg : Tg} {it : It} {cd : Oe} {scope : Scope} {own : List (Str × Nat)} {pe : Pos}
    (h : okE T N sc fnp (.dc kx vx tg it cd scope own pe) = true) (hw : swB sc t.x t.p (.dc kx vx tg it cd scope own pe) = true) :
    PS X (.Assign [t.ast] (E.dc kx vx tg it cd scope own pe).ast p) (tS X.K fns (setcE t.i (ev opBi opMt opMu T C (.dc kx vx tg it cd scope own pe))) [t.i]) := by
  have hsw := swB_ok sc t.x t.p p.line X.env G.sc hk (.dc kx vx tg it cd scope own pe)
  rw [hw] at hsw
  rw [okE] at h
  simp only [Bool.and_eq_true] at h
  obtain ⟨⟨⟨⟨⟨⟨h1, h2⟩, h3⟩, h4⟩, h5⟩, h6⟩, h7⟩ := h
  have hs : ∀ i ∈ tgSlots tg, i ∈ own.map (·.2) := fun i hi => by
    have := List.all_eq_true.mp h4 i hi
    obtain ⟨q, hq, e⟩ := List.any_eq_true.mp this
    exact List.mem_map.mpr ⟨q, hq, by simpa using e⟩
  refine ps_locked (l := lockOf it) (ps_setDc (wi := tIx X.K fns (lockOf it) (evIt opBi opMt opMu T C it)) (g := tG X.K fns tg) (tt := tT X.K fns (evT opBi opMt opMu T C cd)) (tk := tE X.K fns (ev opBi opMt opMu T C kx)) (tv := tE X.K fns (ev opBi opMt opMu T C vx)) (own := own) G.calm (by rw [G.eN]; exact G.nd) (by rw [G.eN]; exact ht) (by rw [G.sc]; exact hl) hsw (evIt_ok O it G h1) (by rw [G.eN, G.sc]; exact blkOk_by h2)
    (fun s H A cl fp => g_all (G.blk scope s H A cl fp) h3) (fun s H A cl fp => evT_ok O cd (G.blk scope s H A cl fp) h5) (fun s H A cl fp => (ev_ok O kx (G.blk scope s H A cl fp) h6).val) (fun s H A cl fp => (ev_ok O vx (G.blk scope s H A cl fp) h7).val) (foldI_ok X.env it)) (fun Dn σ H lk q => ⟨lk, dc_main hs (asgC_read q)⟩) fun i hl ρ d ρ' q => setc_lock (fun ρ r q => bind_lock hl ρ r q) ρ d ρ' q

variable (W : Nat)
mutual
theorem exec_ok (O : OpsOk fns T C opBi opMt opMu) (hx : X.xe = fun _ _ => False) (G : GX fns T C N sc fnp X) : ∀ s : S, okS T N sc fnp s = true → PS X s.ast (tS X.K fns (exec opBi opMt opMu T C W s) (asS s))
  | .expr e p, h => by
    rw [okS, Bool.and_eq_true] at h
    exact st_expr (ev_ok O e G h.1).val (by simpa using h.2)
  | .asg t e p, h => by
    rw [okS, Bool.and_eq_true, Bool.and_eq_true, Bool.and_eq_true] at h
    have hk : sc.kind = .function := by simpa using h.1.2
    refine st_asg2 G (ev_ok O e G h.1.1.1).val ?_ h.1.1.2 ?_
    · cases t with
      | nm t =>
        show swapsWith e.ast (some (.Name t.x t.p)) p.line X.env = pure false
        rw [swB_ok sc t.x t.p p.line X.env G.sc hk e]
        have h2 : (!swB sc t.x t.p e) = true := h.2
        simp only [Bool.not_eq_true'] at h2
        rw [h2]
      | tup ts k tp => exact swapsT_ok (ts.map TgN.ast) k tp p.line X.env e
    · cases t with
      | nm t => rfl
      | tup ts k tp => exact h.2
  | .asgC t e p, h => by
    rw [okS] at h
    simp only [Bool.and_eq_true, decide_eq_true_eq, beq_iff_eq] at h
    obtain ⟨⟨⟨⟨⟨h1, h2⟩, h3⟩, h4⟩, h5⟩, h6⟩ := h
    cases e <;> first | (cases h6; done) | exact st_asgCl O G h2 h3 h4 h1 h5 | exact st_asgCd O G h2 h3 h4 h1 h5
  | .par t u a b kt pt k2 pt2 p, h => by
    rw [okS] at h
    simp only [Bool.and_eq_true, decide_eq_true_eq] at h
    obtain ⟨⟨⟨⟨h1, h2⟩, h3⟩, h4⟩, h5⟩ := h
    exact st_par' G (ev_ok O a G h1).val (ev_ok O b G h2).val h3 h4 h5
  | .aug op t e p, h => by
    rw [okS, Bool.and_eq_true, Bool.and_eq_true] at h
    refine st_aug G (ev_ok O e G h.1.1).val h.1.2 ?_
    have h2 := h.2
    cases op <;> first | exact .inl rfl | exact .inr rfl | cases h2
  | .setx t i e ps p, h => by
    rw [okS, Bool.and_eq_true, Bool.and_eq_true] at h
    exact st_setx G (ev_ok O e G h.1.1).val (ev_ok O i G h.1.2).val h.2
  | .ret e p, h => st_ret (ev_ok O e G h).val
  | .retN p, h => st_retN
  | .ite c a b p, h => by
    rw [okS, Bool.and_eq_true, Bool.and_eq_true] at h
    exact st_ite (ev_ok O c G h.1.1) (execs_ok O hx G a h.1.2) (execs_ok O hx G b h.2)
  | .whl c b p, h => by
    rw [okS, Bool.and_eq_true] at h
    exact st_whl hx W (ev_ok O c G h.1) (execs_ok O hx G b h.2)
  | .for_ t it b p, h => by
    rw [okS, Bool.and_eq_true, Bool.and_eq_true] at h
    exact st_forX G hx h.1.2 (evIt_ok O it G h.1.1) (foldI_ok X.env it) (execs_ok O hx G b h.2) fun i hl ρ d ρ' q => bind_lock hl ρ _ q
  | .pas p, h => st_pas
  | .brk p, h => st_brk
  | .cnt p, h => st_cnt
  | .bad s, h => ⟨fun pins s σ H D I q => by obtain ⟨F, ρ, fs, fl, ρ', w, en, q, aft⟩ := q; cases q⟩
theorem execs_ok (O : OpsOk fns T C opBi opMt opMu) (hx : X.xe = fun _ _ => False) (G : GX fns T C N sc fnp X) : ∀ ss : Ss, okSs T N sc fnp ss = true → PSs X ss.ast (tS X.K fns (execs opBi opMt opMu T C W ss) (asSs ss))
  | .nil, h => st_nil
  | .cons s ss, h => by
    rw [okSs, Bool.and_eq_true] at h
    exact st_cons (exec_ok O hx G s h.1) (execs_ok O hx G ss h.2)
end
end
end VK

set_option Elab.async false
set_option linter.all false
set_option maxRecDepth 100000
namespace VK
open PySem PySem.Spec PyProof.Rows L2
/-! ### functions -/
structure Df where
  nm : Str
  N : List Str
  np : Nat
  sc : Scope
  body : Ss
  ios : List Nat
section
variable (opBi : Bi → List D → Option D) (opMt : Mt → D → List D → Option D) (opMu : Mu → D → List D → Option (D × D))
variable (T : Tab) (W : Nat)
def outsOf (ios : List Nat) (ρ : Rho) : List (Nat × Option D) := ios.map fun j => (j, ρ.getD j none)
def runFn (C : CallF) (f : Df) (ds : List D) : Option (D × List (Nat × Option D)) :=
  if ds.length = f.np then
    match execs opBi opMt opMu T C W f.body (ds.map some ++ List.replicate (f.N.length - f.np) none) with
    | some (.nx, ρ) => some (.non, outsOf f.ios ρ)
    | some (.rt d, ρ) => some (d, outsOf f.ios ρ)
    | _ => none
  else none
def callN (pr : List Df) : Nat → CallF
  | 0 => fun _ _ => none
  | d + 1 => fun i ds => match pr[i]? with
    | some f => runFn opBi opMt opMu T W (callN pr d) f ds
    | none => none
end
section
variable {K : PySem.W.Frag} {fns : List Addr} {F F' P : PS_} {H H' : Hp}
theorem RepL.split : ∀ {ds : List D} {vs : List V} {P : PS_}, RepL K fns F H ds vs P → ∃ fs : Nat → PS_, (∀ i d, ds[i]? = some d → ∃ v, vs[i]? = some v ∧ Rep K fns F H d v (fs i)) ∧ (∀ i a, fs i a → P a) ∧ ∀ i j a, fs i a → fs j a → i = j
  | [], _, _, _ => ⟨fun _ => Emp, fun i d h => by simp at h, fun _ _ z => z.elim, fun _ _ _ z => z.elim⟩
  | d :: ds, _, P, ⟨v, w, P1, P2, e, s1, s2, dj, h1, h2⟩ => by
    subst e
    obtain ⟨fs, q1, q2, q3⟩ := RepL.split h2
    refine ⟨fun i => match i with
      | 0 => P1
      | i + 1 => fs i, fun i d' h => ?_, fun i a z => ?_, fun i j a z u => ?_⟩
    · cases i with
      | zero => cases (show some d = some d' from h); exact ⟨v, rfl, h1⟩
      | succ i => exact q1 i d' (by simpa using h)
    · cases i with
      | zero => exact s1 a z
      | succ i => exact s2 a (q2 i a z)
    · cases i with
      | zero =>
        cases j with
        | zero => rfl
        | succ j => exact (dj a z (q2 j a u)).elim
      | succ i =>
        cases j with
        | zero => exact (dj a u (q2 i a z)).elim
        | succ j => rw [q3 i j a z u]
theorem start_env {N : List Str} {ds : List D} {vs : List V} (r : RepL K fns F H ds vs P) (o : OwnS F H P) : ∃ fs, EnvR K fns F H (L2.start N vs) (ds.map some ++ List.replicate (N.length - ds.length) none) fs ∧ ∀ i a, fs i a → P a := by
  obtain ⟨fs, q1, q2, q3⟩ := r.split
  have hl := r.len
  refine ⟨fs, ⟨by unfold L2.start; simp [hl], fun i d h => ?_, q3, o.sb fun a ⟨i, z⟩ => q2 i a z⟩, q2⟩
  by_cases hi : i < ds.length
  · rw [List.getElem?_append_left (by simpa using hi), List.getElem?_map, List.getElem?_eq_getElem hi] at h
    cases h
    obtain ⟨v, hv, rv⟩ := q1 i _ (List.getElem?_eq_getElem hi)
    refine ⟨v, ?_, rv⟩
    unfold L2.start
    rw [List.getElem?_append_left (by simpa [hl] using hi), List.getElem?_map, hv]
    rfl
  · rw [List.getElem?_append_right (by simpa using hi), List.getElem?_replicate] at h
    split at h <;> cases h
theorem lookup_outs {ρ : Rho} {j : Nat} {o : Option D} : ∀ {ios : List Nat}, (outsOf ios ρ).lookup j = some o → j ∈ ios ∧ o = ρ.getD j none
  | [], h => by simp [outsOf] at h
  | k :: ios, h => by
    unfold outsOf at h
    rw [List.map_cons, List.lookup_cons] at h
    split at h
    · rename_i e
      have e : j = k := by simpa using e
      subst e
      exact ⟨List.mem_cons_self, (Option.some.inj h).symm⟩
    · obtain ⟨h1, h2⟩ := lookup_outs (ios := ios) h
      exact ⟨List.mem_cons_of_mem _ h1, h2⟩
end
/-! ### a def by its body -/
theorem okG {P : Program} {w : World} {K : PySem.W.Frag} {mg : Str → Option Value} {base : Heap} {x qual : Str} {st : Stmt} {f : Addr} {fd : FuncData} {N ps : List Str} {k : Nat} {sp : Sp} (Fn : L2.Fun K x qual st f fd) (S : FnScope N ps (defScope st)) (len : ∀ vs H Q E, sp vs H Q E → vs.length = ps.length)
    (hbody : ∀ (cdv : Value) (A : Around) (outer : List Env) (s : Shared) (H : Hp) (vs : List V) (Q : VK) (E : XK), A.guards = some [] → Room k (A.deeper (envOfC qual (defScope st) s.heap.objs.size f cdv)) → sp vs H Q E →
      ∃ t, PSs (cxOf L2.CX0 P w K mg base N qual (defScope st) f cdv A outer s H E).nox (defBody st) t ∧ t { nx := fun _ H' => Q .non H', rt := Q } (L2.start N vs) H) : FnOkG P w K mg base (k + 1) f fd ps sp := by
  obtain ⟨oc, od, kV, doc, pm, an, cdv, ct, osl, rfl, lk, hcd⟩ := Fn.ex
  refine ⟨len, fun A outer s H args us vs Q E hgd hr e0 hb r hsp => ?_⟩
  have KX : K.In s.heap := e0.mod.kin.keeps fun b o e => (e0.bs b o e).1
  have par : ∀ y ∈ ps.zip us, (defScope st).names.lookup y.1 = some .local ∨ ((defScope st).names.lookup y.1 = some .cell ∧ ((cellsFrom (s.heap.objs.size + 1) (defScope st).names []).lookup y.1).isSome = true) := fun y hy =>
    (S.par y.1 (List.of_mem_zip (a := y.1) (b := y.2) hy).1).imp id fun q => ⟨q, PySem.W.cellsFrom_some _ _ _ (.inl q)⟩
  refine codeAny_call_function hr.depth (KX _ _ lk) rfl S.co S.gen rfl (PySem.W.codeRec_of KX hcd) (hb _ _ _ _ (wpAny_newFunctionEnv_cells S.kind par fun env he s1 hx => ?_))
  subst he
  refine ⟨(e0.mod.nolimit.keeps fun b o e => (e0.bs b o e).1).keeps hx.toInCall.keep, codeAny_func ?_⟩
  obtain ⟨t, ht, hq⟩ := hbody cdv A outer s H vs Q E hgd (hr.deeper _) hsp
  have J0 := inv_start (CX := L2.CX0) (qual := qual) (cd := cdv) (E := E) S hr.hd e0 (len _ _ _ _ hsp) r hx
  refine wpAny_mono (ht.nox.run [] s1 (L2.start N vs) H _ J0 hq) (fun fl s' hs => ?_) fun e s' hs => hs
  cases fl with
  | ret u =>
    obtain ⟨v, σ', H', J, rv, q⟩ := hs
    exact ⟨v, H', J.os, J.bare, J.base, J.hok, rv, q⟩
  | next =>
    obtain ⟨σ', H', J, q⟩ := hs
    exact ⟨.non, H', J.os, J.bare, J.base, J.hok, rfl, q⟩
  | brk => obtain ⟨_, _, _, q⟩ := hs; exact q.elim
  | cont => obtain ⟨_, _, _, q⟩ := hs; exact q.elim
/-! ### the table of the text -/
structure FnIn (P : Program) (w : World) (K : PySem.W.Frag) (mg : Str → Option Value) (fns : List Addr) (T : Tab) (i : Nat) (f : Df) : Prop where
  ex : ∃ st fa fd, fns[i]? = some fa ∧ mg f.nm = some (.ref fa) ∧ L2.Fun K f.nm f.nm st fa fd ∧ defBody st = f.body.ast ∧ defScope st = f.sc ∧ Binds K fd (f.N.take f.np) [] ∧ KwOk T.kw i fd (f.N.take f.np)
  dbg : (f.nm == ("__debug__" : Str)) = false
  S : FnScope f.N (f.N.take f.np) f.sc
  np : f.np ≤ f.N.length
  ok : okSs T f.N f.sc (fun _ => true) f.body = true
  io : f.ios.all (fun j => decide (j < f.np) && !(asSs f.body).contains j) = true
structure CtxIn (K : PySem.W.Frag) (mg : Str → Option Value) (fns : List Addr) (T : Tab) : Prop where
  blt : ∀ x ∈ bltNames, mg x = none
  glb : ∀ x d, T.glb.lookup x = some d → (∃ u v, mg x = some u ∧ RelV v u ∧ ∀ F H, Rep K fns F H d v Emp) ∧ (x == ("__debug__" : Str)) = false
section
variable {P : Program} {w : World} {K : PySem.W.Frag} {mg : Str → Option Value} {base : Heap} {fns : List Addr} {T : Tab} {W : Nat} {pr : List Df}
variable {opBi : Bi → List D → Option D} {opMt : Mt → D → List D → Option D} {opMu : Mu → D → List D → Option (D × D)}
theorem run_ok (O : ∀ C, OpsOk fns T C opBi opMt opMu) (cx : CtxIn K mg fns T) (hT : T.fn = pr.map (·.nm)) (hpr : ∀ i f, pr[i]? = some f → FnIn P w K mg fns T i f) {d : Nat}
    (ih : ∀ i f, pr[i]? = some f → ∀ fa fd ps, fns[i]? = some fa → mg f.nm = some (.ref fa) → ∀ st, L2.Fun K f.nm f.nm st fa fd → defBody st = f.body.ast → defScope st = f.sc → Binds K fd ps [] → ps = f.N.take f.np →
      FnOkG P w K mg base d fa fd ps (spF K fns (callN opBi opMt opMu T W pr d i)))
    {i : Nat} {f : Df} (hf : pr[i]? = some f) {fa : Addr} {fd : FuncData} {st : Stmt} (Fn : L2.Fun K f.nm f.nm st fa fd) (hb : defBody st = f.body.ast) (hs : defScope st = f.sc) :
    FnOkG P w K mg base (d + 1) fa fd (f.N.take f.np) (spF K fns (callN opBi opMt opMu T W pr (d + 1) i)) := by
  have I := hpr i f hf
  have key : ∀ ds r, callN opBi opMt opMu T W pr (d + 1) i ds = some r → ds.length = f.np ∧ ∃ fl ρ', execs opBi opMt opMu T (callN opBi opMt opMu T W pr d) W f.body (ds.map some ++ List.replicate (f.N.length - f.np) none) = some (fl, ρ') ∧ r.2 = outsOf f.ios ρ' ∧ (fl = .nx ∧ r.1 = .non ∨ fl = .rt r.1) := by
    intro ds r h
    have h : runFn opBi opMt opMu T W (callN opBi opMt opMu T W pr d) f ds = some r := by
      have : callN opBi opMt opMu T W pr (d + 1) i ds = (match pr[i]? with
        | some f => runFn opBi opMt opMu T W (callN opBi opMt opMu T W pr d) f ds
        | none => none) := rfl
      rw [this, hf] at h
      exact h
    unfold runFn at h
    split at h
    · rename_i hl
      refine ⟨hl, ?_⟩
      split at h
      · rename_i ρ e; cases h; exact ⟨_, ρ, e, rfl, .inl ⟨rfl, rfl⟩⟩
      · rename_i dd ρ e; cases h; exact ⟨_, ρ, e, rfl, .inr rfl⟩
      · cases h
    · cases h
  have lt : (f.N.take f.np).length = f.np := by rw [List.length_take]; exact Nat.min_eq_left I.np
  refine okG (N := f.N) Fn (by rw [hs]; exact I.S) (fun vs H Q E h => ?_) (fun cdv A outer s H vs Q E hgd hr h => ?_)
  · obtain ⟨F, ds, P, r, outs, w, rep, own, q, post⟩ := h
    rw [lt, rep.len]
    exact (key ds _ q).1
  · obtain ⟨F, ds, P, r, outs, wf, rep, own, q, post⟩ := h
    obtain ⟨hl, fl, ρ', q1, q2, q3⟩ := key ds _ q
    obtain ⟨fs, en, sub⟩ := start_env (N := f.N) rep own
    rw [hl] at en
    generalize hX : (cxOf L2.CX0 _ w K mg base f.N f.nm (defScope st) fa cdv A outer s H E).nox = X
    have G : GX fns T (callN opBi opMt opMu T W pr d) f.N f.sc (fun _ => true) X := by
      subst hX
      refine ⟨rfl, I.S.nd, hs, rfl, rfl, cx.blt, cx.glb, fun j x hj => ?_, hr.mono (Nat.zero_le _), hgd⟩
      rw [hT, List.getElem?_map] at hj
      obtain ⟨g, hg, rfl⟩ := Option.map_eq_some_iff.mp hj
      have J := hpr j g hg
      obtain ⟨st', fa', fd', e1, e2, e3, e4, e5, e6, e7⟩ := J.ex
      exact ⟨J.dbg, fa', fd', _, d, e1, e2, e3.kp, e6, hr, ih j g hg fa' fd' _ e1 e2 st' e3 e4 e5 e6 rfl, e7⟩
    have hK : X.K = K := by subst hX; rfl
    have ok := execs_ok W (O _) (by subst hX; rfl) G f.body I.ok
    rw [hK] at ok
    rw [hb]
    refine ⟨_, ok, F, _, fs, fl, ρ', wf, en, q1, ?_⟩
    have fin : ∀ {F' : PS_} {H' : Hp} {fs' : Nat → PS_} {σ' : L2.St} {z : V} {P' : PS_}, RPost K fns F H fs (L2.start f.N vs) F' H' fs' σ' ρ' (asSs f.body) r z P' → Q z H' := by
      intro F' H' fs' σ' z P' p
      refine post F' H' z P' (fun j => if j ∈ f.ios then fs' j else Emp) ⟨p.post.step.weak fun a ⟨i, z⟩ => sub i a z, p.post.wf, p.rep, p.own, fun j dd hj => ?_, fun i j a z u => ?_, p.post.env.own.sb fun a ⟨i, z⟩ => ?_, fun a z u => ?_, fun a z => ?_⟩
      · have q2 : outs = outsOf f.ios ρ' := q2
        rw [q2] at hj
        obtain ⟨h1, h2⟩ := lookup_outs hj
        have h3 : ρ'[j]? = some (some dd) := by
          rw [List.getD_eq_getElem?_getD] at h2
          cases e : ρ'[j]? with
          | none => rw [e] at h2; cases h2
          | some o => rw [e] at h2; exact congrArg some h2.symm
        obtain ⟨v, hv, rv⟩ := p.post.env.rep j dd h3
        have hio := List.all_eq_true.mp I.io j h1
        simp only [Bool.and_eq_true, decide_eq_true_eq, Bool.not_eq_true', List.contains_eq_mem, decide_eq_false_iff_not] at hio
        rw [p.post.same j hio.2] at hv
        refine ⟨v, ?_, ?_⟩
        · have hj' : j < vs.length := by rw [rep.len, hl]; exact hio.1
          unfold L2.start at hv
          rw [List.getElem?_append_left (by simpa using hj'), List.getElem?_map, List.getElem?_eq_getElem hj'] at hv
          cases hv
          exact List.getElem?_eq_getElem hj'
        · show Rep K fns F' H' dd v (if j ∈ f.ios then fs' j else Emp)
          rw [if_pos h1]; exact rv
      · have z : (if i ∈ f.ios then fs' i else Emp) a := z
        have u : (if j ∈ f.ios then fs' j else Emp) a := u
        split at z
        · split at u
          · exact p.post.env.sep i j a z u
          · exact u.elim
        · exact z.elim
      · have z : (if i ∈ f.ios then fs' i else Emp) a := z
        split at z
        · exact ⟨i, z⟩
        · exact z.elim
      · obtain ⟨j, u⟩ := u
        have u : (if j ∈ f.ios then fs' j else Emp) a := u
        split at u
        · exact p.dj a z ⟨j, u⟩
        · exact u.elim
      · rcases z with z | ⟨j, z⟩
        · rcases p.new a z with ⟨i, z⟩ | z
          · exact .inl (sub i a z)
          · exact .inr z
        · have z : (if j ∈ f.ios then fs' j else Emp) a := z
          split at z
          · rcases p.post.new a ⟨j, z⟩ with ⟨i, z⟩ | z
            · exact .inl (sub i a z)
            · exact .inr z
          · exact z.elim
    rcases q3 with ⟨rfl, e⟩ | rfl
    · have e : r = .non := e
      subst e
      exact fun F' H' fs' σ' p => fin (z := .non) (P' := Emp) ⟨p, rfl, OwnS.emp, fun _ z => z.elim, fun _ z => z.elim⟩
    · exact fun F' H' fs' σ' x P p => fin p
theorem all_ok (O : ∀ C, OpsOk fns T C opBi opMt opMu) (cx : CtxIn K mg fns T) (hT : T.fn = pr.map (·.nm)) (hpr : ∀ i f, pr[i]? = some f → FnIn P w K mg fns T i f) :
    ∀ d i f, pr[i]? = some f → ∀ fa fd ps, fns[i]? = some fa → mg f.nm = some (.ref fa) → ∀ st, L2.Fun K f.nm f.nm st fa fd → defBody st = f.body.ast → defScope st = f.sc → Binds K fd ps [] → ps = f.N.take f.np →
      FnOkG P w K mg base d fa fd ps (spF K fns (callN opBi opMt opMu T W pr d i))
  | 0, i, f, hf, fa, fd, ps, h1, h2, st, h3, h4, h5, h6, h7 => by
    refine ⟨fun vs H Q E h => ?_, fun A outer s H args us vs Q E _ _ _ _ _ h => ?_⟩
    · obtain ⟨_, _, _, _, _, _, _, _, q, _⟩ := h; cases q
    · obtain ⟨_, _, _, _, _, _, _, _, q, _⟩ := h; cases q
  | d + 1, i, f, hf, fa, fd, ps, h1, h2, st, h3, h4, h5, h6, h7 => by
    subst h7
    exact run_ok O cx hT hpr (all_ok O cx hT hpr d) hf h3 h4 h5
end
end VK

set_option Elab.async false
set_option linter.all false
set_option maxRecDepth 100000
namespace VK
open PySem PySem.Spec PyProof.Rows L2
/-! ### the law's own call -/
/-- what is wanted of the law's call -/
def Told (s₁ : Shared) (r : Result) (s' : Shared) : Prop := r = .ok (.ret (.bool true)) ∧ OldK s₁.heap s'.heap ∧ s'.os = s₁.os ∧ AllBare s'.gens
section
variable {P : Program} {w : World} {K : PySem.W.Frag} {mg mb : Str → Option Value} {k : Nat} {fa a : Addr} {fd : FuncData} {x : Str} {sp : Sp} {s₁ : Shared} {vs : List Value} {ns : List Int}
/-- one look at the heap: the script alone may be tracked -/
theorem law_at (KX : K.In s₁.heap) (hns : s₁.heap.Ns mainGlobals mg) (hb : s₁.heap.Ns builtinsNs mb) (hbb : ∀ x : Str, x ≠ "__name__" → mb x = bootBuiltins x) (hlim : s₁.heap.NoLimit) (hg : s₁.gens = #[])
    (ha : s₁.heap.get? a = some { cls := .type "list", data := .seq vs.toArray }) (hr : Room k callerA) (F : ∀ base : Heap, K.In base → base.Ns mainGlobals mg → FnOkG P w K mg base k fa fd [x] sp) (hbind : ∀ (s : Shared) (u : Value), BindsTo s fd ⟨[u], []⟩ [(x, u)])
    {H : Hp} (hO : Only H) (hok : HOk P w H s₁.heap) (hA : ∀ b, H b ≠ none → b = a) (hK : H a ≠ none → K.lookup a = none) (hsp : sp [.ref a] H (fun v _ => v = .bl true) fun _ _ _ => False) :
    codeAny (model P w) callerA (.call (.ref fa) ⟨[.ref a], []⟩) (Told s₁) s₁ := by
  have inB : ∀ {b : Addr} {o : Obj}, s₁.heap.get? b = some o → (H b ≠ none → b = a → False) → (hidT s₁.heap H).get? b = some o := fun {b o} e n => hidT_get e (by
    cases q : H b with
    | none => rfl
    | some u => exact (n (by rw [q]; simp) (hA b (by rw [q]; simp))).elim)
  have nsB : ∀ {b : Addr} {m : Str → Option Value}, s₁.heap.Ns b m → (hidT s₁.heap H).Ns b m := fun {b m} ⟨o, es, ep, e, d, r⟩ => ⟨o, es, ep, inB e (fun _ z => by
    subst z
    rw [ha] at e
    cases e
    exact nomatch (show Data.seq vs.toArray _ = Data.dict es ep from d)), d, r⟩
  have hKb : K.In (hidT s₁.heap H) := fun b o e => inB (KX b o e) (fun n z => by
    subst z
    rw [hK n] at e
    exact nomatch e)
  have hM : Mod K mg (hidT s₁.heap H) := ⟨hKb, nsB hns, ⟨mb, nsB hb, hbb⟩, let ⟨mc, h1, h2⟩ := hlim; ⟨mc, nsB h1, h2⟩⟩
  refine codeAny_mono ((F _ hKb (nsB hns)).run callerA [] s₁ H ⟨[.ref a], []⟩ [.ref a] [.ref a] _ _ rfl hr ⟨rfl, hM, fun b o e => of_hidT e, Nat.le_of_eq (hidT_size _ _), trivial, (fun b hb => nomatch hb), hok, .of_eq hg⟩ (hbind s₁ (.ref a)) (.cons rfl .nil) hsp) fun r s' h => ?_
  cases r with
  | error e => exact h.elim
  | ok fl =>
    cases fl with
    | next => exact h.elim
    | brk => exact h.elim
    | cont => exact h.elim
    | ret u =>
      obtain ⟨v, H', os, bare, un, hok', r', q⟩ := h
      cases (show v = .bl true from q)
      cases (show u = Value.bool true from r')
      refine ⟨rfl, OldK.of_keep fun b o e => ?_, os, bare⟩
      rcases hO b with z | ⟨ob, xs, z⟩
      · exact un.keep b o e z (fun z => nomatch z) (by simp)
      · obtain ⟨e1, _⟩ := hok b _ z
        rw [e] at e1
        cases e1
        exact (hok' b _ (un.frzs b _ _ z)).1
theorem law_callG (KX : K.In s₁.heap) (hns : s₁.heap.Ns mainGlobals mg) (hb : s₁.heap.Ns builtinsNs mb) (hbb : ∀ x : Str, x ≠ "__name__" → mb x = bootBuiltins x) (hlim : s₁.heap.NoLimit) (hg : s₁.gens = #[])
    (ha : s₁.heap.get? a = some { cls := .type "list", data := .seq vs.toArray }) (hi : IntsAre vs ns) (hl : ns.length ≤ sizeLine) (hr : Room k callerA) (F : ∀ base : Heap, K.In base → base.Ns mainGlobals mg → FnOkG P w K mg base k fa fd [x] sp) (hbind : ∀ (s : Shared) (u : Value), BindsTo s fd ⟨[u], []⟩ [(x, u)])
    (hsp : ∀ H : Hp, Only H → SqL K H a (ns.map V.int) → sp [.ref a] H (fun v _ => v = .bl true) fun _ _ _ => False) : codeAny (model P w) callerA (.call (.ref fa) ⟨[.ref a], []⟩) (Told s₁) s₁ := by
  have rv := vals_ints hi
  cases hk : K.lookup a with
  | some o =>
    have e := KX a o hk
    rw [ha] at e
    cases e
    have O : Only (fun _ => none) := fun _ => .inl rfl
    exact law_at KX hns hb hbb hlim hg ha hr F hbind O (fun b u z => nomatch z) (fun b z => absurd rfl z) (fun z => absurd rfl z) (hsp _ O (.inr ⟨_, vs.toArray, _, hk, rfl, rfl, rfl, by rw [List.size_toArray, hi.length]; exact hl, by simpa using rv⟩))
  | none =>
    have one : ∀ b, (upd (fun _ => none) a (.frz { cls := .type "list", data := .seq vs.toArray } (.lst (ns.map V.int)))) b ≠ none → b = a := fun b z => by
      by_cases hb : b = a
      · exact hb
      · rw [upd_ne hb] at z; exact absurd rfl z
    have O : Only (upd (fun _ => none) a (.frz { cls := .type "list", data := .seq vs.toArray } (.lst (ns.map V.int)))) := fun b => by
      by_cases hb : b = a
      · subst hb; exact .inr ⟨_, _, upd_same⟩
      · exact .inl (upd_ne hb)
    refine law_at KX hns hb hbb hlim hg ha hr F hbind O (fun b u z => ?_) one (fun _ => hk) (hsp _ O (.inl (.inr ⟨_, upd_same⟩)))
    have hb := one b (by rw [z]; simp)
    subst hb
    rw [upd_same] at z
    cases z
    exact ⟨ha, by rw [List.length_map]; exact hl, vs, _, rv, ha⟩
end
theorem walk_ofG {l : PySem.W.OpenLaw} {n k : Nat} {q : Program} {loose : List Str} {XP : (Str → Option Value) → Heap → Prop} {YP : World → Heap → Prop} {d : DefRec} {K : Params → PySem.W.Frag} {sp : World → Sp} {x : Str}
    (hn : l.most = some n) (hn2 : n ≤ sizeLine) (hdf : d.params.defaults = []) (hr : Room k callerA) (hY : ∀ (w : World) (h : Heap), YP w h → (K w.params).In h)
    (F : ∀ (w : World) (mg : Str → Option Value) (fa : Addr) (h : Heap), (K w.params).In h → h.Ns mainGlobals mg → mg d.name = some (.ref fa) →
      ∃ fd : FuncData, (∀ (s : Shared) (u : Value), BindsTo s fd ⟨[u], []⟩ [(x, u)]) ∧ ∀ base : Heap, (K w.params).In base → base.Ns mainGlobals mg → FnOkG l.prog w (K w.params) mg base k fa fd [x] (sp w))
    (hsp : ∀ (w : World) (H : Hp) (a : Addr) (ns : List Int), ns.length ≤ n → (∀ z ∈ ns, Builtin.Int.intBits z ≤ 1048576) → Only H → SqL (K w.params) H a (ns.map V.int) → sp w [.ref a] H (fun v _ => v = .bl true) fun _ _ _ => False) :
    PySem.W.WalkO q loose XP YP l.row.toRowW d [] (fun f vs => PySem.call f vs) := by
  refine Att.attach_callB hn hdf fun w s₀ s₁ mg mb fa o pm cd doc a vs ns G Y ho hd hcd hmg hobj hints hlen hbits hg => ?_
  have KX := hY w _ Y
  obtain ⟨fd, hb, hF⟩ := F w mg fa _ KX G.T.g hmg
  exact law_callG KX G.T.g G.T.b G.T.builtins G.T.nolimit hg hobj hints (Nat.le_trans hlen hn2) hr hF hb fun H hO hS => hsp w H a ns hlen hbits hO hS
/-! ### what is promised of the law's def -/
def spTold (K : PySem.W.Frag) (n : Nat) : Sp := fun vs H Q _ => ∃ (a : Addr) (ns : List Int), vs = [.ref a] ∧ SqL K H a (ns.map V.int) ∧ ns.length ≤ n ∧ (∀ z ∈ ns, Builtin.Int.intBits z ≤ 1048576) ∧ ∀ H', Q (.bl true) H'
theorem repL_ints {K : PySem.W.Frag} {fns : List Addr} {F P : PS_} {H : Hp} : ∀ ns : List Int, RepL K fns F H (ns.map .int) (ns.map V.int) P
  | [] => rfl
  | i :: ns => ⟨_, _, Emp, Emp, rfl, Emp.sb, Emp.sb, fun _ z => z.elim, rfl, repL_ints ns⟩
theorem FnOkG.imp {P : Program} {w : World} {K : PySem.W.Frag} {mg : Str → Option Value} {base : Heap} {k : Nat} {f : Addr} {fd : FuncData} {ps : List Str} {sp sp' : Sp} (F : FnOkG P w K mg base k f fd ps sp)
    (h : ∀ vs H Q E, sp' vs H Q E → sp vs H Q E) : FnOkG P w K mg base k f fd ps sp' :=
  ⟨fun vs H Q E q => F.len vs H Q E (h _ _ _ _ q), fun A outer s H args us vs Q E hg hr he hb hv hs => F.run A outer s H args us vs Q E hg hr he hb hv (h _ _ _ _ hs)⟩
theorem told_of {P : Program} {w : World} {K : PySem.W.Frag} {mg : Str → Option Value} {base : Heap} {k n : Nat} {f : Addr} {fd : FuncData} {ps : List Str} {fns : List Addr} {g : List D → Option (D × List (Nat × Option D))} (F : FnOkG P w K mg base k f fd ps (spF K fns g))
    (h : ∀ ns : List Int, ns.length ≤ n → (∀ z ∈ ns, Builtin.Int.intBits z ≤ 1048576) → ∃ outs, g [.lst .ext (ns.map .int)] = some (.bl true, outs)) : FnOkG P w K mg base k f fd ps (spTold K n) := by
  refine F.imp fun vs H Q E q => ?_
  obtain ⟨a, ns, rfl, hS, hl, hb, post⟩ := q
  obtain ⟨outs, hg⟩ := h ns hl hb
  have rS : Rep K fns (fun b => b = a ∧ H a ≠ none) H (.lst .ext (ns.map .int)) (.ref a) Emp := by
    refine ⟨a, _, rfl, ?_, repL_ints ns⟩
    rcases hS with (h | ⟨o, h⟩) | h
    · exact .inl ⟨.inl h, rfl, by rw [h]; simp⟩
    · exact .inl ⟨.inr ⟨o, h⟩, rfl, by rw [h]; simp⟩
    · exact .inr h
  refine ⟨fun b => b = a ∧ H a ≠ none, [.lst .ext (ns.map .int)], Emp, _, outs, fun b z => ?_, ⟨.ref a, [], Emp, Emp, rfl, Emp.sb, Emp.sb, (fun _ z => z.elim), rS, rfl⟩, OwnS.emp, hg, fun F' H' z P' fo p => ?_⟩
  · obtain ⟨rfl, z⟩ := z
    cases e : H b with
    | none => exact absurd e z
    | some o => exact ⟨o, rfl⟩
  · cases (show z = _ from p.rep)
    exact post H'
end VK

set_option Elab.async false
set_option linter.all false
set_option maxRecDepth 100000
namespace VK
open PySem PySem.Spec PyProof.Rows L2
/-! ### built-in functions on data -/
def intsD : List D → Option (List Int)
  | [] => some []
  | .int i :: ds => (intsD ds).map (i :: ·)
  | _ :: _ => none
def blsD : List D → Option (List Bool)
  | [] => some []
  | .bl i :: ds => (blsD ds).map (i :: ·)
  | _ :: _ => none
def lenD : D → Option D
  | .str z => if z.length ≤ sizeLine then some (.int z.length) else none
  | .lst _ xs => some (.int xs.length)
  | .tup xs => some (.int xs.length)
  | .dct _ kvs => some (.int kvs.length)
  | _ => none
def sumD : D → Option D
  | .lst _ xs => (intsD xs).map fun ns => .int ns.sum
  | _ => none
def maxD : List D → Option D
  | [.int i, .int j] => some (.int (if j > i then j else i))
  | [.lst _ xs] => (intsD xs).bind fun ns => ns.max?.map .int
  | _ => none
def minD : List D → Option D
  | [.int i, .int j] => some (.int (if j < i then j else i))
  | [.lst _ xs] => (intsD xs).bind fun ns => ns.min?.map .int
  | _ => none
def absD : D → Option D
  | .int i => some (.int (if i < 0 then -i else i))
  | _ => none
def allD : D → Option D
  | .lst _ xs => (blsD xs).map fun bs => .bl (bs.all id)
  | _ => none
def anyD : D → Option D
  | .lst _ xs => (blsD xs).map fun bs => .bl (bs.any id)
  | _ => none
def intD : D → Option D
  | .int i => some (.int i)
  | .bl b => some (.int (if b then 1 else 0))
  | _ => none
def strD : D → Option D
  | .int i => if i.natAbs.log2 < 1920 then some (.str (toString i)) else none
  | .str x => some (.str x)
  | _ => none
def boolD : D → Option D
  | .int i => some (.bl (i != 0))
  | .bl b => some (.bl b)
  | _ => none
def listD : D → Option D
  | .lst _ xs => some (.lst .own (frzL xs))
  | .tup xs => some (.lst .own (frzL xs))
  | .str x => if x.length ≤ sizeLine then some (.lst .own (x.cps.toList.map fun c => .str ⟨#[c]⟩)) else none
  | .dct _ kvs => some (.lst .own (kvs.map fun kv => keyOf kv.1))
  | _ => none
def tupleD : D → Option D
  | .lst _ xs => some (.tup (frzL xs))
  | .tup xs => some (.tup (frzL xs))
  | _ => none
def pairsD : List D → Option (List (Key × D))
  | [] => some []
  | .tup [k, v] :: ds => match keyD k, pairsD ds with
    | some k, some r => some ((k, frz v) :: r)
    | _, _ => none
  | _ :: _ => none
def dictD : D → Option D
  | .lst _ xs => (pairsD xs).map fun kvs => .dct .own (mergeD [] kvs)
  | .dct _ kvs => some (.dct .own (frzP kvs))
  | _ => none
def sortable (ds : List D) : Bool :=
  ds.all (fun d => (toPy d).canLay0 && decide ((toPy d).depth ≤ 60)) && ds.all (fun a => ds.all fun b => PySem.W.alike (toPy a) (toPy b)) &&
    (ds.all (fun d => match d with
      | .tup (_ :: _) => true
      | _ => false) || ds.all (fun d => match d with
      | .tup _ => false
      | .non => false
      | _ => true))
def sortedD : D → Option D
  | .lst _ xs => if sortable (frzL xs) = true then some (.lst .own ((frzL xs).mergeSort (PySem.W.dataLe false toPy))) else none
  | .str x => none
  | _ => none
def flatD : D → Bool
  | .non => true
  | .bl _ => true
  | .int _ => true
  | .str _ => true
  | _ => false
def keyPy : Key → PyData
  | .inl i => .int i
  | .inr x => .str x
def reprD : D → Option D
  | .dct _ kvs => if kvs.all (fun kv => flatD kv.2) = true ∧ PyData.showable (.dict (kvs.map fun kv => (keyPy kv.1, toPy kv.2))) = true ∧ (PyData.shown (.dict (kvs.map fun kv => (keyPy kv.1, toPy kv.2)))).length ≤ sizeLine
    then some (.str (PyData.shown (.dict (kvs.map fun kv => (keyPy kv.1, toPy kv.2))))) else none
  | d => if (toPy d).canLay0 = true ∧ (toPy d).showable = true ∧ (toPy d).depth ≤ 60 ∧ (toPy d).shown.length ≤ sizeLine then some (.str (toPy d).shown) else none
/-! ### what they keep -/
section
variable {K : PySem.W.Frag} {fns : List Addr} {F F' P Q : PS_} {H H' : Hp}
theorem repL_int : ∀ {ds : List D} {vs : List V} {P : PS_} {ns : List Int}, RepL K fns F H ds vs P → intsD ds = some ns → ds = ns.map .int ∧ vs = ns.map V.int
  | [], _, _, ns, h, e => by cases (show _ = [] from h); cases e; exact ⟨rfl, rfl⟩
  | d :: ds, _, _, ns, ⟨v, r, P1, P2, e1, s1, s2, dj, h1, h2⟩, e => by
    cases d <;> try (cases e; done)
    rename_i i
    obtain ⟨ms, h3, rfl⟩ := Option.map_eq_some_iff.mp (show (intsD ds).map (i :: ·) = some ns from e)
    obtain ⟨rfl, rfl⟩ := repL_int h2 h3
    cases (show v = _ from h1)
    exact ⟨rfl, e1⟩
theorem repL_bls : ∀ {ds : List D} {vs : List V} {P : PS_} {ns : List Bool}, RepL K fns F H ds vs P → blsD ds = some ns → ds = ns.map .bl ∧ vs = ns.map V.bl
  | [], _, _, ns, h, e => by cases (show _ = [] from h); cases e; exact ⟨rfl, rfl⟩
  | d :: ds, _, _, ns, ⟨v, r, P1, P2, e1, s1, s2, dj, h1, h2⟩, e => by
    cases d <;> try (cases e; done)
    rename_i i
    obtain ⟨ms, h3, rfl⟩ := Option.map_eq_some_iff.mp (show (blsD ds).map (i :: ·) = some ns from e)
    obtain ⟨rfl, rfl⟩ := repL_bls h2 h3
    cases (show v = _ from h1)
    exact ⟨rfl, e1⟩
end
section
variable {X : Cx} {fns : List Addr}
theorem CallR.imp {f : Value} {r r' : List V → Hp → VK → Prop} (h : CallR X f r) (i : ∀ xs H Q, r' xs H Q → r xs H Q) : CallR X f r' := fun pins s σ H xs us Q I rv q => h pins s σ H xs us Q I rv (i xs H Q q)
/-- one argument -/
def on1 (f : D → Option D) : List D → Option D
  | [d] => f d
  | _ => none
theorem rN_one {K : PySem.W.Frag} {f : D → Option D} {xs : List V} {H : Hp} {Q : VK} (h : rN K fns (on1 f) xs H Q) : ∃ x F d P r, xs = [x] ∧ WfF F H ∧ Rep K fns F H d x P ∧ OwnS F H P ∧ f d = some r ∧ ∀ F' H' z P', VPost K fns F H P F' H' r z P' → Q z H' := by
  obtain ⟨F, ds, P, r, w, rep, own, e, post⟩ := h
  match ds, e with
  | [d], e =>
    obtain ⟨x, rfl, rx⟩ := rep.of1
    exact ⟨x, F, d, P, r, rfl, w, rx, own, e, post⟩
theorem VPost.flat0 {K : PySem.W.Frag} {F P : PS_} {H : Hp} {d : D} {z : V} (w : WfF F H) (r : Rep K fns F H d z Emp) : VPost K fns F H P F H d z Emp := ⟨Step.refl, w, r, OwnS.emp, fun _ z => z.elim⟩
theorem bi_len : CallR X (.builtin "len") (rN X.K fns (on1 lenD)) := by
  have hd : CallR X (.builtin "len") (fun xs H Q => ∃ a kvs, xs = [.ref a] ∧ Rd H a (.dK kvs) ∧ Q (.int kvs.length) H) := by
    intro pins s σ H xs us Q I r h
    obtain ⟨a, kvs, rfl, rd, q⟩ := h
    obtain ⟨u, rfl, rx⟩ := vals1 r
    cases rx
    exact d_len I rd fun t s' I' => ⟨.int _, H, I', ⟨t, rfl⟩, q⟩
  refine CallR.imp (CallR.or call_len_seq (CallR.or call_len_str hd)) fun xs H Q h => ?_
  obtain ⟨x, F, d, P, r, rfl, w, rep, own, e, post⟩ := rN_one h
  cases d <;> simp only [lenD] at e <;> try (cases e; done)
  · split at e
    · cases e
      cases (show x = _ from rep)
      exact .inr (.inl ⟨_, rfl, ‹_›, post _ _ _ _ (.flat w rfl)⟩)
    · cases e
  · cases e
    obtain ⟨a, vs, rfl, h1, h2⟩ := rep.list
    exact .inl ⟨a, vs, rfl, .inl h1, by rw [h2.len]; exact post _ _ _ _ (.flat w rfl)⟩
  · cases e
    obtain ⟨a, vs, rfl, h1, h2⟩ := rep.tupl
    exact .inl ⟨a, vs, rfl, .inr h1, by rw [h2.len]; exact post _ _ _ _ (.flat w rfl)⟩
  · cases e
    obtain ⟨a, kw, rfl, h1, h2, _⟩ := dct_rd rep
    exact .inr (.inr ⟨a, kw, rfl, h1, by rw [h2.len]; exact post _ _ _ _ (.flat w rfl)⟩)
theorem bi_sum (hc : X.calm = true) : CallR X (.builtin "sum") (rN X.K fns (on1 sumD)) := by
  refine CallR.imp (cr_sum hc) fun xs H Q h => ?_
  obtain ⟨x, F, d, P, r, rfl, w, rep, own, e, post⟩ := rN_one h
  cases d <;> simp only [sumD] at e <;> try (cases e; done)
  obtain ⟨ns, h3, rfl⟩ := Option.map_eq_some_iff.mp e
  obtain ⟨a, vs, rfl, h1, h2⟩ := rep.list
  obtain ⟨rfl, rfl⟩ := repL_int h2 h3
  exact ⟨a, ns, rfl, h1, post _ _ _ _ (.flat w rfl)⟩
theorem two_ints {K : PySem.W.Frag} {F P : PS_} {H : Hp} {i j : Int} {xs : List V} (rep : RepL K fns F H [.int i, .int j] xs P) : xs = [.int i, .int j] := by
  obtain ⟨v, r, P1, P2, e, s1, s2, dj, h1, h2⟩ := rep
  obtain ⟨z, e2, h3⟩ := h2.of1
  cases (show v = _ from h1)
  cases (show z = _ from h3)
  subst e2
  exact e
theorem bi_max (hc : X.calm = true) : CallR X (.builtin "max") (rN X.K fns maxD) := by
  refine CallR.imp (CallR.or (call_max2 hc) (cr_max hc)) fun xs H Q h => ?_
  obtain ⟨F, ds, P, r, w, rep, own, e, post⟩ := h
  unfold maxD at e
  split at e
  · rename_i i j
    cases e
    exact .inl ⟨i, j, two_ints rep, post _ _ _ _ (.flat w rfl)⟩
  · rename_i o ys
    obtain ⟨ns, h3, e⟩ := Option.bind_eq_some_iff.mp e
    obtain ⟨m, h4, rfl⟩ := Option.map_eq_some_iff.mp e
    obtain ⟨x, rfl, rx⟩ := rep.of1
    obtain ⟨a, vs, rfl, h1, h2⟩ := rx.list
    obtain ⟨rfl, rfl⟩ := repL_int h2 h3
    obtain ⟨k1, k2⟩ := List.max?_eq_some_iff.mp h4
    refine .inr ⟨a, ns, rfl, h1, List.length_pos_of_mem k1, fun m' g1 g2 => ?_⟩
    have : m' = m := Int.le_antisymm (k2 m' g1) (g2 m k1)
    subst this
    exact post _ _ _ _ (.flat w rfl)
  · cases e
theorem bi_min (hc : X.calm = true) : CallR X (.builtin "min") (rN X.K fns minD) := by
  refine CallR.imp (CallR.or (call_min2 hc) (cr_min hc)) fun xs H Q h => ?_
  obtain ⟨F, ds, P, r, w, rep, own, e, post⟩ := h
  unfold minD at e
  split at e
  · rename_i i j
    cases e
    exact .inl ⟨i, j, two_ints rep, post _ _ _ _ (.flat w rfl)⟩
  · rename_i o ys
    obtain ⟨ns, h3, e⟩ := Option.bind_eq_some_iff.mp e
    obtain ⟨m, h4, rfl⟩ := Option.map_eq_some_iff.mp e
    obtain ⟨x, rfl, rx⟩ := rep.of1
    obtain ⟨a, vs, rfl, h1, h2⟩ := rx.list
    obtain ⟨rfl, rfl⟩ := repL_int h2 h3
    obtain ⟨k1, k2⟩ := List.min?_eq_some_iff.mp h4
    refine .inr ⟨a, ns, rfl, h1, List.length_pos_of_mem k1, fun m' g1 g2 => ?_⟩
    have : m' = m := Int.le_antisymm (g2 m k1) (k2 m' g1)
    subst this
    exact post _ _ _ _ (.flat w rfl)
  · cases e
theorem bi_abs : CallR X (.builtin "abs") (rN X.K fns (on1 absD)) := by
  refine CallR.imp call_abs fun xs H Q h => ?_
  obtain ⟨x, F, d, P, r, rfl, w, rep, own, e, post⟩ := rN_one h
  cases d <;> simp only [absD] at e <;> try (cases e; done)
  cases e
  cases (show x = _ from rep)
  exact ⟨_, rfl, post _ _ _ _ (.flat w rfl)⟩
theorem bi_all (hc : X.calm = true) : CallR X (.builtin "all") (rN X.K fns (on1 allD)) := by
  refine CallR.imp (cr_all hc) fun xs H Q h => ?_
  obtain ⟨x, F, d, P, r, rfl, w, rep, own, e, post⟩ := rN_one h
  cases d <;> simp only [allD] at e <;> try (cases e; done)
  obtain ⟨ns, h3, rfl⟩ := Option.map_eq_some_iff.mp e
  obtain ⟨a, vs, rfl, h1, h2⟩ := rep.list
  obtain ⟨rfl, rfl⟩ := repL_bls h2 h3
  exact ⟨a, ns, rfl, h1, post _ _ _ _ (.flat w rfl)⟩
theorem bi_any (hc : X.calm = true) : CallR X (.builtin "any") (rN X.K fns (on1 anyD)) := by
  refine CallR.imp (cr_any hc) fun xs H Q h => ?_
  obtain ⟨x, F, d, P, r, rfl, w, rep, own, e, post⟩ := rN_one h
  cases d <;> simp only [anyD] at e <;> try (cases e; done)
  obtain ⟨ns, h3, rfl⟩ := Option.map_eq_some_iff.mp e
  obtain ⟨a, vs, rfl, h1, h2⟩ := rep.list
  obtain ⟨rfl, rfl⟩ := repL_bls h2 h3
  exact ⟨a, ns, rfl, h1, post _ _ _ _ (.flat w rfl)⟩
theorem bi_int : CallR X (.type "int") (rN X.K fns (on1 intD)) := by
  refine CallR.imp call_int1 fun xs H Q h => ?_
  obtain ⟨x, F, d, P, r, rfl, w, rep, own, e, post⟩ := rN_one h
  cases d <;> simp only [intD] at e <;> try (cases e; done)
  · cases e
    cases (show x = _ from rep)
    exact .inr ⟨_, rfl, post _ _ _ _ (.flat w rfl)⟩
  · cases e
    cases (show x = _ from rep)
    exact .inl ⟨_, rfl, post _ _ _ _ (.flat w rfl)⟩
theorem bi_bool : CallR X (.type "bool") (rN X.K fns (on1 boolD)) := by
  refine CallR.imp call_bool1 fun xs H Q h => ?_
  obtain ⟨x, F, d, P, r, rfl, w, rep, own, e, post⟩ := rN_one h
  cases d <;> simp only [boolD] at e <;> try (cases e; done)
  · cases e
    cases (show x = _ from rep)
    exact .inr ⟨_, rfl, post _ _ _ _ (.flat w rfl)⟩
  · cases e
    cases (show x = _ from rep)
    exact .inl ⟨_, rfl, post _ _ _ _ (.flat w rfl)⟩
theorem bi_str : CallR X (.type "str") (rN X.K fns (on1 strD)) := by
  refine CallR.imp (CallR.or call_str_int SkE.call_str_str) fun xs H Q h => ?_
  obtain ⟨x, F, d, P, r, rfl, w, rep, own, e, post⟩ := rN_one h
  cases d <;> simp only [strD] at e <;> try (cases e; done)
  · split at e
    · cases e
      cases (show x = _ from rep)
      exact .inl ⟨_, rfl, ‹_›, post _ _ _ _ (.flat w rfl)⟩
    · cases e
  · cases e
    cases (show x = _ from rep)
    exact .inr ⟨_, rfl, post _ _ _ _ (.flat w rfl)⟩
end
end VK

set_option Elab.async false
set_option linter.all false
set_option maxRecDepth 100000
namespace VK
open PySem PySem.Spec PyProof.Rows L2
section
variable {K : PySem.W.Frag} {fns : List Addr} {F F' P P' Q : PS_} {H H' : Hp} {d : D} {z : V}
def FzP (F P : PS_) : PS_ := fun a => F a ∨ P a
theorem WfF.fz (w : WfF F H) (o : OwnS F H P) : WfF (FzP F P) H := fun a f => f.elim (w a) fun p => let ⟨_, u, e, _⟩ := o a p; ⟨u, e⟩
theorem VPost.fz (v : VPost K fns (FzP F P) H Emp F' H' d z P') : VPost K fns F H P F' H' d z P' :=
  ⟨⟨fun a f => v.step.ff a (.inl f), fun a o e _ => v.step.keep a o e id, fun a f => by
    rcases v.step.new a f with (h | h) | h | h
    · exact .inl h
    · exact .inr (.inl h)
    · exact h.elim
    · exact .inr (.inr h)⟩, v.wf, v.rep, v.own, fun a h => (v.new a h).elim False.elim .inr⟩
theorem RepL.fz {ds : List D} {vs : List V} (r : RepL K fns F H ds vs P) : RepL K fns (FzP F P) H (frzL ds) vs Emp := RepL.freeze (fun _ => .inl) ds vs P (fun _ => .inr) r
theorem RepP.fz {ds : List (Key × D)} {vs : List (Key × V)} (r : RepP K fns F H ds vs P) : RepP K fns (FzP F P) H (frzP ds) vs Emp := RepP.freeze (fun _ => .inl) ds vs P (fun _ => .inr) r
theorem Rep.fz (r : Rep K fns F H d z P) : Rep K fns (FzP F P) H (frz d) z Emp := Rep.freeze (fun _ => .inl) d z P (fun _ => .inr) r
theorem RepL.ofAll : ∀ {ws : List (D × V)}, (∀ w ∈ ws, Rep K fns F H w.1 w.2 Emp) → RepL K fns F H (ws.map (·.1)) (ws.map (·.2)) Emp
  | [], _ => rfl
  | w :: ws, h => ⟨_, _, Emp, Emp, rfl, Emp.sb, Emp.sb, fun _ z => z.elim, h w List.mem_cons_self, RepL.ofAll fun w hw => h w (List.mem_cons_of_mem _ hw)⟩
theorem RepL.zips : ∀ {ds : List D} {vs : List V}, RepL K fns F H ds vs Emp → ∃ ws : List (D × V), ds = ws.map (·.1) ∧ vs = ws.map (·.2) ∧ ∀ w ∈ ws, Rep K fns F H w.1 w.2 Emp
  | [], vs, h => by cases (show vs = [] from h); exact ⟨[], rfl, rfl, fun _ h => nomatch h⟩
  | d :: ds, _, ⟨v, r, P1, P2, e, s1, s2, dj, h1, h2⟩ => by
    obtain ⟨ws, rfl, rfl, h3⟩ := RepL.zips (h2.mono s2)
    refine ⟨(d, v) :: ws, rfl, e, fun w hw => ?_⟩
    rcases List.mem_cons.mp hw with rfl | hw
    · exact h1.mono s1
    · exact h3 w hw
/-- a new dict of frozen things -/
theorem VPost.newDct {kvs : List (Key × D)} {kw : List (Key × V)} {p : Addr} (w : WfF F H) (np : H p = none) (oq : OwnS F H P) (r : RepP K fns F H kvs kw P) (nd : (kvs.map (·.1)).Nodup) : VPost K fns F H P F (upd H p (.dK kw)) (.dct .own kvs) (.ref p) (fun a => P a ∨ a = p) :=
  .newOwn w np trivial oq ⟨p, kw, rfl, upd_same, .inr rfl, (RepP.frame Sb.rfl kvs kw P (fun a o e z => upd_keep np e) r).mono fun a z => ⟨.inl z, fun e => ofOwn w oq np (e ▸ z)⟩, nd⟩
end
section
variable {X : Cx} {fns : List Addr}
theorem chars_rep {K : PySem.W.Frag} {F P : PS_} {H : Hp} : ∀ cs : List Nat, RepL K fns F H (cs.map fun c => .str ⟨#[c]⟩) (cs.map fun c => V.str ⟨#[c]⟩) P
  | [] => rfl
  | c :: cs => ⟨_, _, Emp, Emp, rfl, Emp.sb, Emp.sb, fun _ z => z.elim, rfl, chars_rep cs⟩
theorem keys_rep {K : PySem.W.Frag} {F F' Q : PS_} {H : Hp} : ∀ {kvs : List (Key × D)} {kw : List (Key × V)} {P : PS_}, RepP K fns F H kvs kw P → RepL K fns F' H (kvs.map fun kv => keyOf kv.1) (kw.map fun kv => kV kv.1) Q
  | [], _, _, h => by cases (show _ = [] from h); rfl
  | (k, d) :: kvs, _, _, ⟨v, w, P1, P2, e, s1, s2, dj, h1, h2⟩ => by
    subst e
    exact ⟨_, _, Emp, Q, rfl, Emp.sb, Sb.rfl, fun _ z => z.elim, kV_rep k, keys_rep h2⟩
theorem call_list_strX (hc : X.calm = true) : CallR X (.type "list") (fun xs H Q => ∃ z, xs = [.str z] ∧ z.length ≤ sizeLine ∧ ∀ l, H l = none → Q (.ref l) (upd H l (.lst (z.cps.toList.map fun c => V.str ⟨#[c]⟩)))) := by
  intro pins s σ H xs us Q I r h
  obtain ⟨z, rfl, hz, q⟩ := h
  obtain ⟨u, rfl, t, rfl⟩ := vals1 r
  have hz : z.cps.size ≤ sizeLine := hz
  refine call_list_str (I.ok.hd hc) z t (fun h' tk acc' c' hk hS hacc => ?_) hz
  have rv : Vals (z.cps.toList.map fun c => V.str ⟨#[c]⟩) acc'.toList := by
    refine vals_of_at (by rw [List.length_map, Array.length_toList, Array.length_toList, hacc.1]) fun j x u e1 e2 => ?_
    obtain ⟨c, w, e3, rfl⟩ := hacc.2 j u (by rw [← Array.getElem?_toList]; exact e2)
    rw [List.getElem?_map, Array.getElem?_toList, e3] at e1
    cases e1
    exact ⟨w, rfl⟩
  exact ⟨.ref s.heap.objs.size, _, I.laid (t' := tk) hk (Nat.le_refl _) (show ObjOk X.prog X.w _ h' _ (.lst _) from ⟨by rw [List.length_map, Array.length_toList]; exact hz, acc'.toList, c', rv, by rw [Array.toArray_toList]; exact hS⟩), rfl, q _ (I.hok.fresh (Nat.le_refl _))⟩
theorem bi_list (hc : X.calm = true) : CallR X (.type "list") (rN X.K fns (on1 listD)) := by
  refine CallR.imp (CallR.or call_list_of (CallR.or (call_list_strX hc) (call_listD hc))) fun xs H Q h => ?_
  obtain ⟨x, F, d, P, r, rfl, w, rep, own, e, post⟩ := rN_one h
  cases d <;> simp only [listD] at e <;> try (cases e; done)
  · split at e
    · cases e
      cases (show x = _ from rep)
      refine .inr (.inl ⟨_, rfl, ‹_›, fun l nl => post _ _ _ _ (VPost.fz (.newLst (P := Emp) (w.fz own) nl OwnS.emp (chars_rep _)))⟩)
    · cases e
  · cases e
    obtain ⟨a, vs, rfl, h1, h2⟩ := rep.list
    exact .inl ⟨a, vs, rfl, .inl h1, fun l nl => post _ _ _ _ (VPost.fz (.newLst (P := Emp) (w.fz own) nl OwnS.emp h2.fz))⟩
  · cases e
    obtain ⟨a, vs, rfl, h1, h2⟩ := rep.tupl
    exact .inl ⟨a, vs, rfl, .inr h1, fun l nl => post _ _ _ _ (VPost.fz (.newLst (P := Emp) (w.fz own) nl OwnS.emp h2.fz))⟩
  · cases e
    obtain ⟨a, kw, rfl, h1, h2, _⟩ := dct_rd rep
    exact .inr (.inr ⟨a, kw, rfl, h1, fun l nl => post _ _ _ _ (VPost.fz (.newLst (P := Emp) (w.fz own) nl OwnS.emp (keys_rep h2)))⟩)
theorem bi_tuple : CallR X (.type "tuple") (rN X.K fns (on1 tupleD)) := by
  refine CallR.imp call_tuple_of fun xs H Q h => ?_
  obtain ⟨x, F, d, P, r, rfl, w, rep, own, e, post⟩ := rN_one h
  cases d <;> simp only [tupleD] at e <;> try (cases e; done)
  · cases e
    obtain ⟨a, vs, rfl, h1, h2⟩ := rep.list
    exact ⟨a, vs, rfl, .inl ⟨h1, fun l nl => post _ _ _ _ (VPost.fz (.newTup (P := Emp) (w.fz own) nl OwnS.emp h2.fz))⟩⟩
  · cases e
    have rf : Rep X.K fns (FzP F P) H (.tup (frzL _)) x Emp := rep.fz
    obtain ⟨a, vs, rfl, h1, h2⟩ := rep.tupl
    exact ⟨a, vs, rfl, .inr ⟨h1, post _ _ _ _ (VPost.fz (.flat (w.fz own) rf))⟩⟩
theorem pairs_rep {F P : PS_} {H : Hp} : ∀ {ds : List D} {vs : List V} {P : PS_} {kvs : List (Key × D)}, RepL X.K fns F H ds vs P → pairsD ds = some kvs →
    ∃ (ps : List Addr) (kw : List (Key × V)), vs = ps.map V.ref ∧ Paired (fun p kv => SqT X.K H p [kV kv.1, kv.2]) ps kw ∧ RepP X.K fns (FzP F P) H kvs kw Emp
  | [], _, _, kvs, h, e => by cases (show _ = [] from h); cases e; exact ⟨[], [], rfl, .nil, rfl⟩
  | d :: ds, _, P, kvs, ⟨v, r, P1, P2, e1, s1, s2, dj, h1, h2⟩, e => by
    unfold pairsD at e
    split at e
    · rename_i heq; cases heq
    · rename_i k0 v0 ds0 heq
      cases heq
      split at e
      · rename_i k1 r1 hk hr
        cases e
        obtain ⟨ps, kw, e2, pr, rp⟩ := pairs_rep (P := P2) h2 hr
        obtain ⟨a, ws, rfl, q1, q2⟩ := h1.tupl
        obtain ⟨x, r, PA, PB, e3, t1, t2, dj2, r1, r2⟩ := q2
        obtain ⟨y, e4, r3⟩ := r2.of1
        subst e4
        subst e3
        have := key_rep r1 hk
        subst this
        refine ⟨a :: ps, (k1, y) :: kw, by rw [e1, e2]; rfl, .cons q1 pr, y, kw, Emp, Emp, rfl, Emp.sb, Emp.sb, (fun _ z => z.elim), ?_, RepP.frame (fun b f => f.elim .inl fun z => .inr (s2 b z)) _ _ _ (fun _ _ e _ => e) rp⟩
        exact Rep.freeze (fun _ => .inl) _ _ PB (fun b z => .inr (s1 b (t2 b z))) r3
      · cases e
    · cases e
theorem bi_dict (hc : X.calm = true) : CallR X (.type "dict") (rN X.K fns (on1 dictD)) := by
  refine CallR.imp (CallR.or (call_dictP hc) call_dictD) fun xs H Q h => ?_
  obtain ⟨x, F, d, P, r, rfl, w, rep, own, e, post⟩ := rN_one h
  cases d <;> simp only [dictD] at e <;> try (cases e; done)
  · obtain ⟨kvs, hk, rfl⟩ := Option.map_eq_some_iff.mp e
    obtain ⟨a, vs, rfl, h1, h2⟩ := rep.list
    obtain ⟨ps, kw, rfl, pr, rp⟩ := pairs_rep (P := P) h2 hk
    obtain ⟨rm, nd⟩ := RepP.merge (acc := []) (aw := []) (PA := Emp) rp rfl .nil fun _ z => z.elim
    exact .inl ⟨a, ps, kw, rfl, h1, pr, fun p np => post _ _ _ _ (VPost.fz (.newDct (P := Emp) (w.fz own) np OwnS.emp (rm.mono fun a z => z.elim id id) nd))⟩
  · cases e
    obtain ⟨a, kw, rfl, h1, h2, nd⟩ := dct_rd rep
    exact .inr ⟨a, kw, rfl, h1, fun p np => post _ _ _ _ (VPost.fz (.newDct (P := Emp) (w.fz own) np OwnS.emp h2.fz (by rw [frzP_keys]; exact nd)))⟩
end
end VK

set_option Elab.async false
set_option linter.all false
set_option maxRecDepth 100000
namespace VK
open PySem PySem.Spec PyProof.Rows L2
section
variable {X : Cx} {fns : List Addr}
/-! ### sorted(xs) -/
theorem each_vals {β : Type} {f : β → V} : ∀ {zs : List β} {us : List Value}, Vals (zs.map f) us → PySem.W.EachIs (fun u z => RelV (f z) u) us zs
  | [], us, r => by
    rw [List.map_nil] at r
    cases r
    exact .nil
  | z :: zs, us, r => by
    rw [List.map_cons] at r
    cases r with
    | cons h t => exact .cons h (each_vals t)
theorem vals_each {β : Type} {f : β → V} : ∀ {zs : List β} {us : List Value}, PySem.W.EachIs (fun u z => RelV (f z) u) us zs → Vals (zs.map f) us
  | _, _, .nil => .nil
  | _, _, .cons h t => .cons h (vals_each t)
theorem each_mem {α β : Type} {R : α → β → Prop} : ∀ {us : List α} {zs : List β}, PySem.W.EachIs R us zs → PySem.W.EachIs (fun u z => R u z ∧ z ∈ zs) us zs
  | _, _, .nil => .nil
  | _, _, .cons h t => .cons ⟨h, List.mem_cons_self⟩ ((each_mem t).mono fun _ _ q => ⟨q.1, List.mem_cons_of_mem _ q.2⟩)
theorem call_sortedG (hu : X.A.units + 64 < cLine) : CallR X (.builtin "sorted") (fun xs H Q => ∃ (a : Addr) (zs : List (D × V)), xs = [.ref a] ∧ SqL X.K H a (zs.map (·.2)) ∧ (∀ z ∈ zs, Dp X.K H z.2 (toPy z.1)) ∧ PySem.W.AllAlike (zs.map fun z => toPy z.1) ∧ PySem.W.Sortable (zs.map fun z => toPy z.1) ∧ (∀ z ∈ zs, (toPy z.1).depth ≤ 60) ∧
    ∀ p, H p = none → Q (.ref p) (upd H p (.lst ((zs.mergeSort (PySem.W.dataLe false fun z : D × V => toPy z.1)).map (·.2))))) := by
  intro pins s σ H xs us Q I r h
  obtain ⟨a, zs, rfl, hs, hd, h1, h2, h3, q⟩ := h
  obtain ⟨u, rfl, rx⟩ := vals1 r
  cases rx
  obtain ⟨its, rv, pl, hz⟩ := I.list hs
  rw [List.length_map] at hz
  have e := each_vals rv
  refine PySem.W.sorted_data (enc := fun z : D × V => toPy z.1) (R := fun u z => RelV z.2 u) pl.isList e ((each_mem e).mono fun u z q => Dp.reads I _ _ _ (hd z q.2) q.1) h1 h2 hz (fun z hz => by have := h3 z hz; omega) fun out ho eo => ?_
  obtain ⟨ep, he⟩ := PyProof.Rows.sortedAll_at s.heap its out.toArray
  have ro := vals_each eo
  have hl : ((zs.mergeSort (PySem.W.dataLe false fun z : D × V => toPy z.1)).map (·.2)).length ≤ sizeLine := by rw [List.length_map, List.length_mergeSort]; exact hz
  exact ⟨.ref _, upd H (s.heap.objs.size + 1) (.lst _), I.laid (t' := s.toks) (fun _ _ => PyProof.Rows.sortedAll_old) (Nat.le_succ _) ⟨hl, out, ep, ro, he⟩, rfl, q _ (I.hok.fresh (Nat.le_succ _))⟩
theorem sortable_ok {ds : List D} (h : sortable ds = true) : (∀ d ∈ ds, (toPy d).canLay0 = true ∧ (toPy d).depth ≤ 60) ∧ PySem.W.AllAlike (ds.map toPy) ∧ PySem.W.Sortable (ds.map toPy) := by
  unfold sortable at h
  simp only [Bool.and_eq_true, Bool.or_eq_true] at h
  obtain ⟨⟨h1, h2⟩, h3⟩ := h
  refine ⟨fun d hd => ?_, fun d hd d' hd' => ?_, ?_⟩
  · have := List.all_eq_true.mp h1 d hd
    simpa using this
  · obtain ⟨a, ha, rfl⟩ := List.mem_map.mp hd
    obtain ⟨b, hb, rfl⟩ := List.mem_map.mp hd'
    exact List.all_eq_true.mp (List.all_eq_true.mp h2 a ha) b hb
  · rcases h3 with h3 | h3
    · refine .inl fun d hd => ?_
      obtain ⟨a, ha, rfl⟩ := List.mem_map.mp hd
      have := List.all_eq_true.mp h3 a ha
      cases a with
      | tup xs =>
        cases xs with
        | nil => cases this
        | cons x xs => exact ⟨toPy x, toPyL xs, by rw [toPy, toPyL]⟩
      | _ => cases this
    · refine .inr fun d hd => ?_
      obtain ⟨a, ha, rfl⟩ := List.mem_map.mp hd
      have := List.all_eq_true.mp h3 a ha
      cases a <;> simp [toPy] at this ⊢
theorem bi_sorted (hu : X.A.units + 64 < cLine) : CallR X (.builtin "sorted") (rN X.K fns (on1 sortedD)) := by
  refine CallR.imp (call_sortedG hu) fun xs H Q h => ?_
  obtain ⟨x, F, d, P, r, rfl, w, rep, own, e, post⟩ := rN_one h
  cases d <;> simp only [sortedD] at e <;> try (cases e; done)
  split at e
  · rename_i o ds hs
    cases e
    obtain ⟨a, vs, rfl, h1, h2⟩ := rep.list
    obtain ⟨ws, e1, e2, h3⟩ := h2.fz.zips
    rw [e1] at hs
    rw [e1] at post
    obtain ⟨k1, k2, k3⟩ := sortable_ok hs
    rw [List.map_map] at k2 k3
    refine ⟨a, ws, rfl, by rw [← e2]; exact h1, fun z hz => (h3 z hz).dp _ _ _ (k1 _ (List.mem_map.mpr ⟨z, hz, rfl⟩)).1, k2, k3, fun z hz => (k1 _ (List.mem_map.mpr ⟨z, hz, rfl⟩)).2, fun p np => ?_⟩
    have em : (ws.mergeSort (PySem.W.dataLe false fun z : D × V => toPy z.1)).map (·.1) = (ws.map (·.1)).mergeSort (PySem.W.dataLe false toPy) := List.map_mergeSort fun a _ b _ => rfl
    have rs : RepL X.K fns (FzP F P) H ((ws.map (·.1)).mergeSort (PySem.W.dataLe false toPy)) ((ws.mergeSort (PySem.W.dataLe false fun z : D × V => toPy z.1)).map (·.2)) Emp := by
      rw [← em]
      exact RepL.ofAll fun z hz => h3 z (List.mem_mergeSort.mp hz)
    exact post _ _ _ _ (VPost.fz (.newLst (P := Emp) (w.fz own) np OwnS.emp rs))
  · cases e
/-! ### repr -/
theorem shape_kv : ∀ {kvs : List (Key × D)}, kvs.all (fun kv => flatD kv.2) = true → True := fun _ => trivial
theorem flat_reads {F P : PS_} {H : Hp} {d : D} {x : V} {u : Value} {h : Heap} (r : Rep X.K fns F H d x P) (hf : flatD d = true) (ru : RelV x u) : Reads h u (toPy d) [] := by
  cases d <;> try (cases hf; done)
  · cases (show x = _ from r); cases (show u = _ from ru); exact .none
  · cases (show x = _ from r); cases (show u = _ from ru); exact .bool _
  · cases (show x = _ from r); obtain ⟨t, rfl⟩ := ru; exact .int _ _
  · cases (show x = _ from r); obtain ⟨t, rfl⟩ := ru; exact .str _ _
theorem dict_reads {F : PS_} {H : Hp} {h : Heap} : ∀ {kvs : List (Key × D)} {kw : List (Key × V)} {P : PS_} {vs : List (Key × Value)} {es : List DictEntry}, RepP X.K fns F H kvs kw P → kvs.all (fun kv => flatD kv.2) = true → KV kw vs → Pairs (mixKind X.prog X.w) es vs →
    ReadsAll h (es.map (·.key)) (kvs.map fun kv => keyPy kv.1) [] ∧ ReadsAll h (es.map (·.val)) (kvs.map fun kv => toPy kv.2) []
  | [], kw, P, vs, es, r, _, k, p => by
    cases (show kw = [] from r)
    cases k
    cases p
    exact ⟨.nil, .nil⟩
  | (k0, d) :: kvs, _, P, vs, es, ⟨v, w, P1, P2, e, s1, s2, dj, h1, h2⟩, hf, k, p => by
    subst e
    rw [List.all_cons, Bool.and_eq_true] at hf
    cases k with
    | cons hk hr =>
      cases p with
      | cons p1 p2 p3 =>
        obtain ⟨q1, q2⟩ := dict_reads h2 hf.2 hr p3
        refine ⟨.cons (as := []) ?_ q1, .cons (as := []) ?_ q2⟩
        · rw [← hk.1] at p1
          rcases keyIs_shape p1 with ⟨i, t, ek, ev⟩ | ⟨z, t, ek, ev⟩
          · dsimp only; rw [show k0 = _ from ek, ev]; exact .int _ _
          · dsimp only; rw [show k0 = _ from ek, ev]; exact .str _ _
        · dsimp only
          rw [p2]
          exact flat_reads h1 hf.1 hk.2
theorem bi_repr (hg : X.A.guards = some []) (hu : X.A.units + 64 < cLine) : CallR X (.builtin "repr") (rN X.K fns (on1 reprD)) := by
  intro pins s σ H xs us Q I rv h
  obtain ⟨x, F, d, P, r, rfl, w, rep, own, e, post⟩ := rN_one h
  obtain ⟨u, rfl, rx⟩ := vals1 rv
  have gen : ∀ r', (if (toPy d).canLay0 = true ∧ (toPy d).showable = true ∧ (toPy d).depth ≤ 60 ∧ (toPy d).shown.length ≤ sizeLine then some (D.str (toPy d).shown) else none) = some r' → r' = r → wpAny (model X.prog X.w) X.A (call (.builtin "repr") [u]) (EP X pins σ Q) X.xe s := by
    intro r' e er
    split at e
    · rename_i hc
      cases e
      subst er
      obtain ⟨as, q1⟩ := Dp.reads I _ x u (rep.dp _ _ _ hc.1) rx
      have q := post F H (.str (toPy d).shown) Emp (.flat w rfl)
      have nd := PyData.hasDict_of_canLay _ hc.1
      have fin : ∀ h' tk t, (∀ b o, s.heap.get? b = some o → h'.get? b = some o) → EP X pins σ Q (.str (toPy d).shown t) { s with heap := h', toks := tk } := fun h' tk t hk => ⟨.str _, H, I.kept hk, ⟨t, rfl⟩, q⟩
      cases d with
      | non =>
        cases (show x = _ from rep); cases (show u = _ from rx)
        exact PySem.P.repr_of_none (fin _ _ _ fun _ _ e => e)
      | bl b =>
        cases (show x = _ from rep); cases (show u = _ from rx)
        refine PySem.P.repr_of_bool ?_
        have := fin s.heap (s.toks + 1) s.toks fun _ _ e => e
        simp only [toPy, PyData.shown] at this
        exact this
      | int i =>
        cases (show x = _ from rep); obtain ⟨t, rfl⟩ := rx
        have hs : (PyData.int i).showable = true := hc.2.1
        refine PySem.P.repr_of_int (by simpa [PyData.showable] using hs) ?_
        have := fin s.heap (s.toks + 1) s.toks fun _ _ e => e
        simp only [toPy, PyData.shown] at this
        exact this
      | str z =>
        cases (show x = _ from rep); obtain ⟨t, rfl⟩ := rx
        have := fin s.heap (s.toks + 1) s.toks fun _ _ e => e
        have hz := hc.2.2.2
        simp only [toPy, PyData.shown] at this hz
        exact PySem.P.repr_of_str this hz
      | lst o ds =>
        obtain ⟨a, vs, rfl, h1, h2⟩ := rep.list
        cases (show u = _ from rx)
        exact repr_of_reads' q1 hc.2.1 (PyData.noDict_hsm nd) hg (by have := hc.2.2.1; omega) (fun _ _ e => e) (fun h' t tk hk => fin h' tk t hk) hc.2.2.2
      | tup ds =>
        obtain ⟨a, vs, rfl, h1, h2⟩ := rep.tupl
        cases (show u = _ from rx)
        exact repr_of_reads' q1 hc.2.1 (PyData.noDict_hsm nd) hg (by have := hc.2.2.1; omega) (fun _ _ e => e) (fun h' t tk hk => fin h' tk t hk) hc.2.2.2
      | dct o kvs => simp [toPy, PyData.canLay0] at hc
      | fn i => simp [toPy, PyData.canLay0] at hc
    · cases e
  cases d with
  | dct o kvs =>
    simp only [reprD] at e
    split at e
    · rename_i hc
      cases e
      obtain ⟨hf, hs, hz⟩ := hc
      obtain ⟨a, kw, rfl, rd, rp, nd⟩ := dct_rd rep
      cases (show u = _ from rx)
      obtain ⟨z, lo, vs, rel, ob, es, ep, h1, h2, h3, h4, h5, h6⟩ := dk_rd I.hok rd
      obtain ⟨q1, q2⟩ := dict_reads rp hf rel h5
      have rd : Reads s.heap (.ref a) (.dict (kvs.map fun kv => (keyPy kv.1, toPy kv.2))) _ := .dict h1 h2.1 h3 (by rw [List.map_map]; exact q1) (by rw [List.map_map]; exact q2)
      refine repr_of_reads' rd hs (fun _ hm => ?_) hg ?_ (fun _ _ e => e) (fun h' t tk hk => ⟨.str _, H, I.kept hk, ⟨t, rfl⟩, post _ _ _ _ (.flat w rfl)⟩) hz
      · have : sysModules = a := by simpa using hm
        rw [this, beq_self_eq_true] at lo
        cases lo
      · have : (PyData.dict (kvs.map fun kv => (keyPy kv.1, toPy kv.2))).depth ≤ 1 := by
          rw [PyData.depth]
          have key : ∀ kvs : List (Key × D), kvs.all (fun kv => flatD kv.2) = true → PyData.depthKv (kvs.map fun kv => (keyPy kv.1, toPy kv.2)) = 0 := by
            intro kvs
            induction kvs with
            | nil => intro _; rfl
            | cons kv kvs ih =>
              intro h
              rw [List.all_cons, Bool.and_eq_true] at h
              obtain ⟨k, d⟩ := kv
              rw [List.map_cons, PyData.depthKv, ih h.2]
              have hd : (toPy d).depth = 0 := by
                have h1 := h.1
                cases d <;> first | (cases h1; done) | simp [toPy, PyData.depth]
              rw [hd]
              cases k <;> simp [keyPy, PyData.depth]
          rw [key kvs hf]
          exact Nat.le_refl 1
        omega
    · cases e
  | _ => exact gen r e rfl
end
end VK

set_option Elab.async false
set_option linter.all false
set_option maxRecDepth 100000
namespace VK
open PySem PySem.Spec PyProof.Rows L2
/-! ### methods -/
def strsD : List D → Option (List Str)
  | [] => some []
  | .str z :: ds => (strsD ds).map (z :: ·)
  | _ :: _ => none
def joinD : Str → D → Option D
  | a, .lst _ xs => (strsD xs).bind fun ys => if (ys.map (·.length)).sum + ys.length * a.length ≤ 16777216 then some (.str (Txt.join a ys)) else none
  | a, .tup xs => (strsD xs).bind fun ys => if (ys.map (·.length)).sum + ys.length * a.length ≤ 16777216 then some (.str (Txt.join a ys)) else none
  | _, _ => none
def indexD (ds : List PyData) (d : PyData) : Option Nat := ds.findIdx? fun z => PyData.eqv z d
def mJoin : D → List D → Option D
  | .str a, [x] => joinD a x
  | _, _ => none
def mCount : D → List D → Option D
  | .str a, [.str b] => some (.int (Txt.count a b))
  | _, _ => none
def mBits : D → List D → Option D
  | .int i, [] => some (.int (Builtin.Int.intBits i : Nat))
  | _, _ => none
def mGet : D → List D → Option D
  | .dct _ kvs, [k] => (keyD k).map fun k => (getD' kvs k).getD .non
  | .dct _ kvs, [k, v] => (keyD k).map fun k => (getD' kvs k).getD v
  | _, _ => none
def mStarts : D → List D → Option D
  | .str a, [.str b] => some (.bl (Txt.startswith a b))
  | _, _ => none
def mEnds : D → List D → Option D
  | .str a, [.str b] => some (.bl (Txt.endswith a b))
  | _, _ => none
def mIndex : D → List D → Option D
  | .lst _ xs, [d] => if SeqAt.shaped (.list (toPyL xs)) = true ∧ SeqAt.shaped (toPy d) = true then (indexD (toPyL xs) (toPy d)).map fun j => .int (j : Nat) else none
  | _, _ => none
def opMt0 : Mt → D → List D → Option D
  | .join => mJoin
  | .count => mCount
  | .bitLength => mBits
  | .get => mGet
  | .startswith => mStarts
  | .endswith => mEnds
  | .index => mIndex
theorem base_ok (env : PySem.Env) (nm : Str) (e : E) : baseB e = true → attributeBase e.ast nm env (eval e.ast env) = eval e.ast env := by
  apply E.rec (motive_1 := fun e => baseB e = true → attributeBase e.ast nm env (eval e.ast env) = eval e.ast env) (motive_2 := fun _ => True) (motive_3 := fun _ => True) (motive_4 := fun _ => True) (motive_5 := fun _ => True) <;> intros <;> first | rfl | trivial | (rename_i ih h; exact ih h) | skip
  · rename_i b es pn p _ h
    cases es with
    | nil => cases h
    | cons e es => rfl
  · rename_i b x es pn p _ h
    cases es with
    | nil => cases h
    | cons e es => rfl
section
variable {K : PySem.W.Frag} {fns : List Addr} {F F' P Q : PS_} {H H' : Hp}
theorem repL_strs : ∀ {ds : List D} {vs : List V} {P : PS_} {ns : List Str}, RepL K fns F H ds vs P → strsD ds = some ns → vs = ns.map V.str
  | [], _, _, ns, h, e => by cases (show _ = [] from h); cases e; rfl
  | d :: ds, _, _, ns, ⟨v, r, P1, P2, e1, s1, s2, dj, h1, h2⟩, e => by
    cases d <;> try (cases e; done)
    rename_i i
    obtain ⟨ms, h3, rfl⟩ := Option.map_eq_some_iff.mp (show (strsD ds).map (i :: ·) = some ns from e)
    have := repL_strs h2 h3
    subst this
    cases (show v = _ from h1)
    exact e1
end
section
variable {X : Cx} {fns : List Addr}
def hd1 (f : D → List D → Option D) : List D → Option D
  | d :: ds => f d ds
  | [] => none
theorem tE_mt {K : PySem.W.Frag} {T : String} {f : D → List D → Option D} {go : EvT} {gs : Rho → Option (List D × Rho)} {r : V → List V → Hp → VK → Prop} (hty : ∀ F H d x P ds r', Rep K fns F H d x P → f d ds = some r' → tyV K T x H) (hr : ∀ x xs H Q, rN K fns (hd1 f) (x :: xs) H Q → r x xs H Q)
    {σ : L2.St} {H : Hp} {Q : VK} (h : tE K fns (mtE f go gs) σ H Q) : tBM K T r (tE K fns go) (tA K fns gs) σ H Q := by
  obtain ⟨F, ρ, fs, d, ρ', w, e, q, post⟩ := h
  simp only [mtE, Option.bind_eq_bind, Option.bind_eq_some_iff, Prod.exists, Option.pure_def, Option.some.injEq, Prod.mk.injEq] at q
  obtain ⟨dx, ρ1, q1, ds, ρ2, q2, r', q3, rfl, rfl⟩ := q
  refine ⟨F, ρ, fs, dx, ρ1, w, e, q1, fun F1 H1 fs1 x P1 p1 => ⟨hty _ _ _ _ _ _ _ p1.rep q3, ?_⟩⟩
  refine ⟨F1, ρ1, fs1, ds, ρ2, p1.wf, p1.env, q2, fun F2 H2 fs2 xs P2 p2 => ?_⟩
  have p := p1.cons p2
  exact hr x xs H2 Q ⟨F2, _, _, _, p.wf, p.rep, p.own, q3, fun F' H' z P' v => post _ _ _ _ _ (p.fin v)⟩
theorem tE_mt0 {K : PySem.W.Frag} {T : String} {f : D → List D → Option D} {go : EvT} {r : V → List V → Hp → VK → Prop} (hty : ∀ F H d x P ds r', Rep K fns F H d x P → f d ds = some r' → tyV K T x H) (hr : ∀ x xs H Q, rN K fns (hd1 f) (x :: xs) H Q → r x xs H Q)
    {σ : L2.St} {H : Hp} {Q : VK} (h : tE K fns (mtE f go fun ρ => some ([], ρ)) σ H Q) : tBM0 K T r (tE K fns go) σ H Q := by
  obtain ⟨F, ρ, fs, d, ρ', w, e, q, post⟩ := h
  simp only [mtE, Option.bind_eq_bind, Option.bind_eq_some_iff, Prod.exists, Option.pure_def, Option.some.injEq, Prod.mk.injEq] at q
  obtain ⟨dx, ρ1, q1, ds, ρ2, ⟨rfl, rfl⟩, r', q3, rfl, rfl⟩ := q
  refine ⟨F, ρ, fs, dx, ρ1, w, e, q1, fun F1 H1 fs1 x P1 p1 => ⟨hty _ _ _ _ _ _ _ p1.rep q3, ?_⟩⟩
  have p := p1.one
  exact hr x [] H1 Q ⟨F1, _, _, _, p.wf, p.rep, p.own, q3, fun F' H' z P' v => post _ _ _ _ _ (p.fin v)⟩
theorem MtR.or {id : String} {r r' : V → List V → Hp → VK → Prop} (h : MtR X id r) (h' : MtR X id r') : MtR X id (fun x xs H Q => r x xs H Q ∨ r' x xs H Q) := fun pins s σ H x xs v us Q I rx rv q => q.elim (h pins s σ H x xs v us Q I rx rv) (h' pins s σ H x xs v us Q I rx rv)
theorem MtR.imp {id : String} {r r' : V → List V → Hp → VK → Prop} (h : MtR X id r) (i : ∀ x xs H Q, r' x xs H Q → r x xs H Q) : MtR X id r' := fun pins s σ H x xs v us Q I rx rv q => h pins s σ H x xs v us Q I rx rv (i x xs H Q q)
theorem few_ok (env : PySem.Env) (pos : Pos) (e : E) : ((backTo pos (starEach [e.ast] env)).all (fun x => !x.1) && (backToKw pos (keywordEach [] env)).all (fun x => x.1.isSome)
      && decide (([e.ast] : List Expr).length + ([] : List Keyword).length + (if ([] : List Keyword).isEmpty then 0 else 1) < 30)) = true := by
  rw [star_ok]; rfl
theorem few_ok2 (env : PySem.Env) (pos : Pos) (e f : E) : ((backTo pos (starEach [e.ast, f.ast] env)).all (fun x => !x.1) && (backToKw pos (keywordEach [] env)).all (fun x => x.1.isSome)
      && decide (([e.ast, f.ast] : List Expr).length + ([] : List Keyword).length + (if ([] : List Keyword).isEmpty then 0 else 1) < 30)) = true := by
  rw [star_ok, star_ok]; rfl
theorem tE_none {K : PySem.W.Frag} {g : EvT} {σ : L2.St} {H : Hp} {Q : VK} (hg : ∀ ρ r, g ρ = some r → False) (h : tE K fns g σ H Q) : False := by
  obtain ⟨F, ρ, fs, d, ρ', w, e, q, post⟩ := h
  exact hg _ _ q
theorem PE.no {e : Expr} {g : EvT} (hg : ∀ ρ r, g ρ = some r → False) : PE X e (tE X.K fns g) := ⟨fun pins s σ H Q I q => (tE_none hg q).elim⟩
/-- a method with one argument -/
theorem mt_one {T id : String} {o e : E} {m : Mt} {f : D → List D → Option D} {go : EvT} {gs : Rho → Option (List D × Rho)} {pa p : Pos} {r : V → List V → Hp → VK → Prop} (pt : PlainAttrs T) (slot : Slot T m.nm id) (hty : typeOf (.builtin id) = pure (.type "method_descriptor")) (hm : MtR X id r)
    (ty : ∀ F H d x P ds r', Rep X.K fns F H d x P → f d ds = some r' → tyV X.K T x H) (hr : ∀ x xs H Q, rN X.K fns (hd1 f) (x :: xs) H Q → r x xs H Q) (hb : baseB o = true) (hl : oneLine pa p = true) (ho : PE X o.ast (tE X.K fns go)) (ha : PA X [e.ast] (tA X.K fns gs)) :
    PE X (.Call (.Attribute o.ast m.nm pa) [e.ast] [] p) (tE X.K fns (mtE f go gs)) :=
  PE.imp (pe_bm pt slot hty hm ho ha (base_ok _ _ o hb) (few_ok _ _ e) hl (star_ok _ _ e) rfl) fun σ H Q q => tE_mt ty hr q

/-! ### d.get(..) -/
theorem RepP.valN {K : PySem.W.Frag} {F : PS_} {H : Hp} {k : Key} : ∀ {kvs : List (Key × D)} {kw : List (Key × V)} {P : PS_}, RepP K fns F H kvs kw P → getD' kvs k = none → valV kw k = none
  | [], _, _, h, _ => by cases (show _ = [] from h); rfl
  | (k0, d) :: kvs, _, _, ⟨v, w, P1, P2, e, s1, s2, dj, h1, h2⟩, h => by
    subst e
    unfold getD' at h
    unfold valV
    rw [List.find?_cons] at h ⊢
    split at h
    · cases h
    · rename_i hk
      have hk : decide (k0 = k) = false := hk
      show Option.map _ (match decide (k0 = k) with
        | true => some (k0, v)
        | false => _) = none
      rw [hk]
      exact RepP.valN h2 h
def rGetA : V → List V → Hp → VK → Prop := fun x xs H Q => ∃ a y o, x = .ref a ∧ DGet H a y o ∧ ((xs = [y] ∧ Q (o.getD .non) H) ∨ ∃ z, xs = [y, z] ∧ Q (o.getD z) H)
theorem mt_getA (hu : X.A.units + 1 < cLine) : MtR X "dict.get" rGetA := by
  intro pins s σ H x xs v us Q I rx rv h
  obtain ⟨a, y, o, rfl, g, h⟩ := h
  cases rx
  rcases h with ⟨rfl, q⟩ | ⟨z, rfl, q⟩
  · obtain ⟨u, rfl, ry⟩ := vals1 rv
    exact d_get1 hu I g ry fun w' s' I' r' => ⟨_, H, I', r', q⟩
  · obtain ⟨u, w, rfl, ry, rz⟩ := vals2 rv
    exact d_get2 hu I g ry rz fun w' s' I' r' => ⟨_, H, I', r', q⟩
def tBMD (r : V → List V → Hp → VK → Prop) (to : TE) (t : TA) : TE := fun σ H Q => to σ H fun x H1 => ∃ a, x = .ref a ∧ IsD H1 a ∧ t σ H1 fun xs H2 => r x xs H2 Q
theorem pe_bmD {id : String} {o e : Expr} {es : List Expr} {to : TE} {t : TA} {name : Str} {apos cpos : Pos} {r : V → List V → Hp → VK → Prop} (pa : PlainAttrs "dict") (slot : Slot "dict" name id) (hty : typeOf (.builtin id) = pure (.type "method_descriptor")) (hm : MtR X id r) (ho : PE X o to) (ha : PA X (e :: es) t)
    (hbase : attributeBase o name X.env (eval o X.env) = eval o X.env)
    (hfew : ((backTo cpos (starEach (e :: es) X.env)).all (fun x => !x.1) && (backToKw cpos (keywordEach [] X.env)).all (fun x => x.1.isSome)
      && decide ((e :: es).length + ([] : List Keyword).length + (if ([] : List Keyword).isEmpty then 0 else 1) < 30)) = true)
    (hline : (apos.endLine == cpos.line) = true) (hs : starEach (e :: es) X.env = (false, eval e X.env) :: starEach es X.env) (hplain : (backTo cpos (starEach es X.env)).any (·.1) = false) :
    PE X (.Call (.Attribute o name apos) (e :: es) [] cpos) (tBMD r to t) := by
  refine ⟨fun pins s σ H Q I h => ?_⟩
  refine wpAny_Call_method_late hbase hfew hline rfl (thn (ho.run pins s σ H _ I h) fun v s1 ⟨x, H1, I1, r1, a, ex, d, q1⟩ => ?_)
  subst ex
  obtain rfl : v = Value.ref a := r1
  obtain ⟨t1, t2, _⟩ := isD_at I1 d
  refine ⟨"dict", id, pa, slot, hty, t1, t2, ?_⟩
  have hA := ha.run cpos pins s1 σ H1 _ I1 q1
  rw [hs] at hA ⊢
  refine Calls.callWith_builtin (by show (false || (backTo cpos (starEach es X.env)).any (·.1)) = false; rw [hplain] <;> rfl) (Calls.evalArgs_plain ?_)
  exact thn hA fun us s2 ⟨vs, H2, I2, r2, q2⟩ => hm pins s2 σ H2 (.ref a) vs (.ref a) us Q I2 rfl r2 q2
theorem tE_mtD {K : PySem.W.Frag} {f : D → List D → Option D} {go : EvT} {gs : Rho → Option (List D × Rho)} {r : V → List V → Hp → VK → Prop} (hty : ∀ d ds r', f d ds = some r' → ∃ o kvs, d = .dct o kvs) (hr : ∀ x xs H Q, rN K fns (hd1 f) (x :: xs) H Q → r x xs H Q)
    {σ : L2.St} {H : Hp} {Q : VK} (h : tE K fns (mtE f go gs) σ H Q) : tBMD r (tE K fns go) (tA K fns gs) σ H Q := by
  obtain ⟨F, ρ, fs, d, ρ', w, e, q, post⟩ := h
  simp only [mtE, Option.bind_eq_bind, Option.bind_eq_some_iff, Prod.exists, Option.pure_def, Option.some.injEq, Prod.mk.injEq] at q
  obtain ⟨dx, ρ1, q1, ds, ρ2, q2, r', q3, rfl, rfl⟩ := q
  refine ⟨F, ρ, fs, dx, ρ1, w, e, q1, fun F1 H1 fs1 x P1 p1 => ?_⟩
  obtain ⟨o, kvs, rfl⟩ := hty _ _ _ q3
  obtain ⟨a, kw, rfl, rd, _⟩ := dct_rd p1.rep
  refine ⟨a, rfl, .inl ⟨kw, rd⟩, F1, ρ1, fs1, ds, ρ2, p1.wf, p1.env, q2, fun F2 H2 fs2 xs P2 p2 => ?_⟩
  have p := p1.cons p2
  exact hr _ xs H2 Q ⟨F2, _, _, _, p.wf, p.rep, p.own, q3, fun F' H' z P' v => post _ _ _ _ _ (p.fin v)⟩
theorem rN_two {K : PySem.W.Frag} {f : D → List D → Option D} {x y : V} {H : Hp} {Q : VK} (h : rN K fns (hd1 f) [x, y] H Q) : ∃ F d e P r, WfF F H ∧ Rep K fns F H d x P ∧ Rep K fns F H e y P ∧ OwnS F H P ∧ f d [e] = some r ∧ ∀ F' H' z P', VPost K fns F H P F' H' r z P' → Q z H' := by
  obtain ⟨F, ds, P, r, w, rep, own, e, post⟩ := h
  have hl := rep.len
  match ds, hl with
  | [d, e2], _ =>
    obtain ⟨P1, P2, s1, s2, _, r1, r2⟩ := rep.of2
    exact ⟨F, d, e2, P, r, w, r1.mono s1, r2.mono s2, own, e, post⟩
end
end VK

set_option Elab.async false
set_option linter.all false
set_option maxRecDepth 100000
namespace VK
open PySem PySem.Spec PyProof.Rows L2
def opBi0 : Bi → List D → Option D
  | .len => on1 lenD
  | .sorted => on1 sortedD
  | .sum => on1 sumD
  | .max => maxD
  | .min => minD
  | .abs => on1 absD
  | .all => on1 allD
  | .any => on1 anyD
  | .repr => on1 reprD
  | .int => on1 intD
  | .str => on1 strD
  | .list => on1 listD
  | .tuple => on1 tupleD
  | .dict => on1 dictD
  | .bool => on1 boolD
def appendD : D → List D → Option (D × D)
  | .lst .own xs, [y] => if xs.length < sizeLine then some (.non, .lst .own (xs ++ [y])) else none
  | _, _ => none
def popD : D → List D → Option (D × D)
  | .lst .own xs, [] => (xs[xs.length - 1]?).map fun y => (y, .lst .own xs.dropLast)
  | _, _ => none
def popAtD : D → List D → Option (D × D)
  | .lst .own xs, [.int i] => if -(2 ^ 63) ≤ i ∧ i < 2 ^ 63 then (seqIndex? i xs.length).bind fun k => (xs[k]?).map fun y => (y, .lst .own (xs.eraseIdx k)) else none
  | _, _ => none
def opMu0 : Mu → D → List D → Option (D × D)
  | .append => appendD
  | .pop => popD
  | .popAt => popAtD
section
variable {K : PySem.W.Frag} {fns : List Addr} {F F1 F3 P P' Pz : PS_} {H H1 H3 H4 : Hp} {σ : L2.St} {ρ1 ρ3 : Rho} {fs fs1 fs3 : Nat → PS_} {d X' : D} {z vc : V} {ds : List D} {xs : List V} {i : Nat}
theorem APost.mutE (p : APost K fns F H fs F3 H3 fs3 σ ρ3 ds xs P) (hv : σ[i]? = some (some vc)) (r : Rep K fns F3 H4 X' vc P') (rz : Rep K fns F3 H4 d z Pz) (sb : Sb P' P) (sz : Sb Pz P) (dz : Dj Pz P') (st : Step P' F3 F3 H3 H4) (ow : OwnS F3 H4 P') (oz : OwnS F3 H4 Pz) :
    EPost K fns F H fs F3 H4 (fupd fs3 i P') σ (ρ3.set i (some X')) d z Pz := by
  have q := p.mut (as := []) hv r sb st ow
  refine ⟨q.step, q.wf, q.env, rz, oz, fun a x u => ?_, fun a x => ?_⟩
  · rcases UU_fupd u with u | u
    · exact dz a x u
    · exact p.dj a (sz a x) u
  · rcases x with x | x
    · exact p.new a (.inl (sz a x))
    · exact q.new a x
end
section
variable {X : Cx} {fns : List Addr} {T : Tab} {C : CallF} {N : List Str} {sc : Scope} {fnp : Str → Bool}
theorem own_upd {F P : PS_} {H : Hp} {a : Addr} {o : HO} (h : OwnS F H P) (io : isOw o) (nf : P a → True) : OwnS F (upd H a o) P := fun b z => by
  obtain ⟨n, u, e, i⟩ := h b z
  by_cases hb : b = a
  · subst hb; exact ⟨n, _, upd_same, io⟩
  · exact ⟨n, u, by rw [upd_ne hb]; exact e, i⟩
/-- a list of a name is changed -/
theorem tE_mu {K : PySem.W.Frag} {f : D → List D → Option (D × D)} {i : Nat} {gs : Rho → Option (List D × Rho)} {r : V → List V → Hp → VK → Prop}
    (hr : ∀ (l : Addr) (xs : List V) (H : Hp) (Q : VK) (F : PS_) (A B : PS_) (ys : List D) (vs : List V) (ds : List D) (rz X' : D), H l = some (.lst vs) → A l → RepL K fns F H ys vs (fun b => A b ∧ b ≠ l) → RepL K fns F H ds xs B → Dj A B → OwnS F H (Un2 A B) → f (.lst .own ys) ds = some (rz, X') →
      (∀ H4 z P' Pz, Rep K fns F H4 X' (.ref l) P' → Rep K fns F H4 rz z Pz → Sb P' (Un2 A B) → Sb Pz (Un2 A B) → Dj Pz P' → Step P' F F H H4 → OwnS F H4 P' → OwnS F H4 Pz → Q z H4) → r (.ref l) xs H Q)
    (hown : ∀ x ds r', f x ds = some r' → ∃ ys, x = .lst .own ys)
    {σ : L2.St} {H : Hp} {Q : VK} (h : tE K fns (muE f i gs) σ H Q) : tBM K "list" r (tVar i) (tA K fns gs) σ H Q := by
  obtain ⟨F, ρ, fs, d, ρ', w, e, q, post⟩ := h
  unfold muE at q
  split at q
  · rename_i ys0 hi
    simp only [Option.bind_eq_bind, Option.bind_eq_some_iff, Prod.exists] at q
    obtain ⟨ds, ρ1, q1, q2⟩ := q
    split at q2
    · rename_i x hx
      simp only [Option.bind_eq_some_iff, Prod.exists, Option.pure_def, Option.some.injEq, Prod.mk.injEq] at q2
      obtain ⟨rz, X', q3, rfl, rfl⟩ := q2
      obtain ⟨ys, rfl⟩ := hown _ _ _ q3
      obtain ⟨v, hv, rv⟩ := e.rep _ _ hi
      obtain ⟨l, vs, rfl, h1, h2, h3⟩ := rv
      refine ⟨.ref l, hv, .inl ⟨rfl, vs, SqL.of h1⟩, F, ρ, fs, ds, ρ1, w, e, q1, fun F2 H2 fs2 xs P p => ?_⟩
      obtain ⟨v2, hv2, p2⟩ := p.move hx
      rw [hv] at hv2
      cases hv2
      obtain ⟨_, _, A, B, ea, s1, s2, dj, r1, r2⟩ := p2.rep
      cases ea
      obtain ⟨l2, vs2, el, k1, k2, k3⟩ := r1
      cases el
      refine hr l xs H2 Q F2 A B ys vs2 ds rz X' k1 k2 k3 r2 dj (p2.own.sb fun a z => z.elim (s1 a) (s2 a)) q3 fun H4 z P' Pz t1 t2 t3 t4 t5 t6 t7 t8 => ?_
      have := p2.mutE hv t1 t2 (fun a z => (t3 a z).elim (s1 a) (s2 a)) (fun a z => (t4 a z).elim (s1 a) (s2 a)) t5 t6 t7 t8
      rw [List.set_set] at this
      exact post _ _ _ _ _ this
    · cases q2
  · cases q
theorem RepL.last {K : PySem.W.Frag} {F : PS_} {H : Hp} {y : D} : ∀ {ys : List D} {vs : List V} {P : PS_} {k : Nat}, RepL K fns F H ys vs P → ys[k]? = some y → ∃ v A B, vs[k]? = some v ∧ Sb A P ∧ Sb B P ∧ Dj A B ∧ Rep K fns F H y v A ∧ RepL K fns F H (ys.eraseIdx k) (vs.eraseIdx k) B
  | [], _, _, k, _, h => by simp at h
  | d :: ds, _, P, 0, ⟨v, r, P1, P2, e, s1, s2, dj, h1, h2⟩, h => by
    subst e
    cases (show some d = some y from h)
    exact ⟨v, P1, P2, rfl, s1, s2, dj, h1, h2⟩
  | d :: ds, _, P, k + 1, ⟨v, r, P1, P2, e, s1, s2, dj, h1, h2⟩, h => by
    subst e
    obtain ⟨u, A, B, q1, q2, q3, q4, q5, q6⟩ := RepL.last (k := k) h2 (by simpa using h)
    exact ⟨u, A, Un2 P1 B, by simpa using q1, fun a z => s2 a (q2 a z), fun a z => z.elim (s1 a) fun z => s2 a (q3 a z), fun a z u => u.elim (fun u => dj a u (q2 a z)) (q4 a z), q5, ⟨v, _, P1, B, rfl, fun _ => .inl, fun _ => .inr, fun a z u => dj a z (q3 a u), h1, q6⟩⟩
theorem eraseLast {α : Type} (xs : List α) : xs.eraseIdx (xs.length - 1) = xs.dropLast := by
  rw [List.eraseIdx_eq_take_drop_succ, List.dropLast_eq_take]
  by_cases h : xs = []
  · subst h; rfl
  · have : xs.length - 1 + 1 = xs.length := by have := List.length_pos_iff.mpr h; omega
    rw [this, List.drop_length, List.append_nil]
theorem own_mut {F P Q : PS_} {H : Hp} {l : Addr} {o : HO} (ow : OwnS F H P) (s : Sb Q P) (io : isOw o) : OwnS F (upd H l o) Q := own_upd (ow.sb s) io fun _ => trivial
variable {K : PySem.W.Frag} {F A B : PS_} {H : Hp} {Q : VK} {l : Addr} {xs vs : List V} {ys ds : List D} {rz X' : D}
/-- one is taken out -/
theorem mu_out {y : D} {k : Nat} (h1 : H l = some (.lst vs)) (hA : A l) (r1 : RepL K fns F H ys vs (fun b => A b ∧ b ≠ l)) (ow : OwnS F H (Un2 A B)) (hy : ys[k]? = some y) : ∃ v P' Pz, vs[k]? = some v ∧ Rep K fns F (upd H l (.lst (vs.eraseIdx k))) (.lst .own (ys.eraseIdx k)) (.ref l) P' ∧
    Rep K fns F (upd H l (.lst (vs.eraseIdx k))) y v Pz ∧ Sb P' (Un2 A B) ∧ Sb Pz (Un2 A B) ∧ Dj Pz P' ∧ Step P' F F H (upd H l (.lst (vs.eraseIdx k))) ∧ OwnS F (upd H l (.lst (vs.eraseIdx k))) P' ∧ OwnS F (upd H l (.lst (vs.eraseIdx k))) Pz := by
  obtain ⟨v, A1, B1, q1, q2, q3, q4, q5, q6⟩ := r1.last hy
  have oL : OwnS F H (fun b => b = l) := fun b z => by subst z; exact ow _ (.inl hA)
  have st : Step (fun b => b = l) F F H (upd H l (.lst (vs.eraseIdx k))) := mut_step
  refine ⟨v, fun b => B1 b ∨ b = l, A1, q1, ⟨l, _, rfl, upd_same, .inr rfl, (st.repL oL (fun b z e => (q3 b z).2 e) q6).mono fun b z => ⟨.inl z, (q3 b z).2⟩⟩, st.rep oL (fun b z e => (q2 b z).2 e) q5,
    fun b z => .inl (z.elim (fun z => (q3 b z).1) fun z => by subst z; exact hA), fun b z => .inl (q2 b z).1, fun b z u => u.elim (q4 b z) (q2 b z).2, st.weak fun b z => .inr z, ?_, ?_⟩
  · exact own_mut ow (fun b z => .inl (z.elim (fun z => (q3 b z).1) fun z => by subst z; exact hA)) trivial
  · exact own_mut ow (fun b z => .inl (q2 b z).1) trivial
theorem mu_append (h1 : H l = some (.lst vs)) (hA : A l) (r1 : RepL K fns F H ys vs (fun b => A b ∧ b ≠ l)) (r2 : RepL K fns F H ds xs B) (dj : Dj A B) (ow : OwnS F H (Un2 A B))
    (e : appendD (.lst .own ys) ds = some (rz, X')) (k : ∀ H4 z P' Pz, Rep K fns F H4 X' (.ref l) P' → Rep K fns F H4 rz z Pz → Sb P' (Un2 A B) → Sb Pz (Un2 A B) → Dj Pz P' → Step P' F F H H4 → OwnS F H4 P' → OwnS F H4 Pz → Q z H4) : rAppend (.ref l) xs H Q := by
  match ds, e with
  | [y], e =>
    simp only [appendD] at e
    split at e
    · rename_i hlen
      cases e
      obtain ⟨x, rfl, rx⟩ := r2.of1
      have oL : OwnS F H (fun b => b = l) := fun b z => by subst z; exact ow _ (.inl hA)
      have st : Step (fun b => b = l) F F H (upd H l (.lst (vs ++ [x]))) := mut_step
      refine ⟨l, vs, x, rfl, rfl, h1, by rw [r1.len]; exact hlen, k _ .non (Un2 A B) Emp ⟨l, _, rfl, upd_same, .inl hA, ?_⟩ rfl Sb.rfl Emp.sb (fun _ z => z.elim) (st.weak fun b z => by subst z; exact .inl hA) (own_mut ow Sb.rfl trivial) OwnS.emp⟩
      have a1 := st.repL oL (fun b z e => z.2 e) r1
      have a2 := st.rep oL (fun b z e => by subst e; exact dj _ hA z) rx
      exact (a1.append (RepL.one a2) fun b z u => dj b z.1 u).mono fun b z => z.elim (fun z => ⟨.inl z.1, z.2⟩) fun z => ⟨.inr z, fun e => dj b (e ▸ hA) z⟩
    · cases e
theorem mu_pop (h1 : H l = some (.lst vs)) (hA : A l) (r1 : RepL K fns F H ys vs (fun b => A b ∧ b ≠ l)) (r2 : RepL K fns F H ds xs B) (dj : Dj A B) (ow : OwnS F H (Un2 A B))
    (e : popD (.lst .own ys) ds = some (rz, X')) (k : ∀ H4 z P' Pz, Rep K fns F H4 X' (.ref l) P' → Rep K fns F H4 rz z Pz → Sb P' (Un2 A B) → Sb Pz (Un2 A B) → Dj Pz P' → Step P' F F H H4 → OwnS F H4 P' → OwnS F H4 Pz → Q z H4) : rPop (.ref l) xs H Q := by
  match ds, e with
  | [], e =>
    obtain ⟨y, hy, e⟩ := Option.map_eq_some_iff.mp (show (ys[ys.length - 1]?).map (fun y => (y, D.lst .own ys.dropLast)) = some (rz, X') from e)
    cases e
    cases (show xs = [] from r2)
    obtain ⟨v, P', Pz, q1, q2, q3, q4, q5, q6, q7, q8, q9⟩ := mu_out h1 hA r1 ow hy
    rw [eraseLast] at q2
    have el : ys.length = vs.length := r1.len.symm
    rw [el] at q1 q2 q3 q7 q8 q9
    rw [eraseLast] at q2 q3 q7 q8 q9
    exact ⟨l, vs, v, rfl, rfl, h1, q1, k _ v P' Pz q2 q3 q4 q5 q6 q7 q8 q9⟩
theorem mu_popAt (h1 : H l = some (.lst vs)) (hA : A l) (r1 : RepL K fns F H ys vs (fun b => A b ∧ b ≠ l)) (r2 : RepL K fns F H ds xs B) (dj : Dj A B) (ow : OwnS F H (Un2 A B))
    (e : popAtD (.lst .own ys) ds = some (rz, X')) (k : ∀ H4 z P' Pz, Rep K fns F H4 X' (.ref l) P' → Rep K fns F H4 rz z Pz → Sb P' (Un2 A B) → Sb Pz (Un2 A B) → Dj Pz P' → Step P' F F H H4 → OwnS F H4 P' → OwnS F H4 Pz → Q z H4) : rPopAt (.ref l) xs H Q := by
  unfold popAtD at e
  split at e
  · rename_i ys' i heq
    cases heq
    split at e
    · rename_i hb
      obtain ⟨j, hj, e⟩ := Option.bind_eq_some_iff.mp e
      obtain ⟨y, hy, e⟩ := Option.map_eq_some_iff.mp e
      cases e
      obtain ⟨x, rfl, rx⟩ := r2.of1
      cases (show x = _ from rx)
      obtain ⟨v, P', Pz, q1, q2, q3, q4, q5, q6, q7, q8, q9⟩ := mu_out h1 hA r1 ow hy
      exact ⟨l, vs, i, j, v, rfl, rfl, h1, hb.1, hb.2, by rw [r1.len]; exact hj, q1, k _ v P' Pz q2 q3 q4 q5 q6 q7 q8 q9⟩
    · cases e
  · cases e
end
end VK

set_option Elab.async false
set_option linter.all false
set_option maxRecDepth 100000
namespace VK
open PySem PySem.Spec PyProof.Rows L2
section
variable {X : Cx} {fns : List Addr} {T : Tab} {C : CallF} {N : List Str} {sc : Scope} {fnp : Str → Bool}
theorem bi_in (b : Bi) : b.nm ∈ bltNames := by cases b <;> decide +kernel
theorem all_bi (G : GX fns T C N sc fnp X) (b : Bi) (e : E) (es : Es) (gs : Rho → Option (List D × Rho)) (pn p : Pos) (h : glbB sc b.nm = true) (ha : PA X (e.ast :: es.ast) (tA X.K fns gs)) : PE X (.Call (.Name b.nm pn) (e.ast :: es.ast) [] p) (tE X.K fns (opEN (opBi0 b) gs)) := by
  have hg := G.gl h
  have hm := G.blt _ (bi_in b)
  have hu : X.A.units + 64 < cLine := by have := G.hu; omega
  have f : ∀ {id : String}, CallR X (.builtin id) (rN X.K fns (opBi0 b)) → bootBuiltins b.nm = some (.builtin id) → PE X (.Call (.Name b.nm pn) (e.ast :: es.ast) [] p) (tE X.K fns (opEN (opBi0 b) gs)) := fun {id} c hv =>
    PE.imp (pe_callB c hg hm hv ha (by cases b <;> decide) (by cases b <;> decide) (star_ok _ _ e) (plain_ok _ _ es)) fun σ H Q q => tE_opN q
  have t : ∀ {id : String}, CallR X (.type id) (rN X.K fns (opBi0 b)) → bootBuiltins b.nm = some (.type id) → PE X (.Call (.Name b.nm pn) (e.ast :: es.ast) [] p) (tE X.K fns (opEN (opBi0 b) gs)) := fun {id} c hv =>
    PE.imp (pe_callTy c hg hm hv ha (by cases b <;> decide) (by cases b <;> decide) (star_ok _ _ e) (plain_ok _ _ es)) fun σ H Q q => tE_opN q
  cases b with
  | len => exact f bi_len (by decide +kernel)
  | sorted => exact f (bi_sorted hu) (by decide +kernel)
  | sum => exact f (bi_sum G.calm) (by decide +kernel)
  | max => exact f (bi_max G.calm) (by decide +kernel)
  | min => exact f (bi_min G.calm) (by decide +kernel)
  | abs => exact f bi_abs (by decide +kernel)
  | all => exact f (bi_all G.calm) (by decide +kernel)
  | any => exact f (bi_any G.calm) (by decide +kernel)
  | repr => exact f (bi_repr G.gd hu) (by decide +kernel)
  | int => exact t bi_int (by decide +kernel)
  | str => exact t bi_str (by decide +kernel)
  | list => exact t (bi_list G.calm) (by decide +kernel)
  | tuple => exact t bi_tuple (by decide +kernel)
  | dict => exact t (bi_dict G.calm) (by decide +kernel)
  | bool => exact t bi_bool (by decide +kernel)
theorem all_mu (G : GX fns T C N sc fnp X) (m : Mu) (i : Nat) (x : Str) (px : Pos) (es : Es) (gs : Rho → Option (List D × Rho)) (pa p : Pos) (hn : ArgsOf es gs) (hx : nmB N sc i x = true) (hl : oneLine pa p = true) (ha : PA X es.ast (tA X.K fns gs)) :
    PE X (.Call (.Attribute (.Name x px) m.nm pa) es.ast [] p) (tE X.K fns (muE (opMu0 m) i gs)) := by
  have no : (∀ ds : List D, ds.length = es.ast.length → ∀ d, opMu0 m d ds = none) → PE X (.Call (.Attribute (.Name x px) m.nm pa) es.ast [] p) (tE X.K fns (muE (opMu0 m) i gs)) := fun h => PE.no fun ρ r q => by
    unfold muE at q
    split at q
    · simp only [Option.bind_eq_bind, Option.bind_eq_some_iff, Prod.exists] at q
      obtain ⟨ds, ρ1, q1, q2⟩ := q
      split at q2
      · rename_i x hx
        simp only [Option.bind_eq_some_iff, Prod.exists] at q2
        obtain ⟨_, _, q3, _⟩ := q2
        rw [h ds (hn.len _ _ _ q1)] at q3
        cases q3
      · cases q2
    · cases q
  have ow : ∀ x ds r', opMu0 m x ds = some r' → ∃ ys, x = .lst .own ys := fun x ds r' h => by
    cases m <;> simp only [opMu0, appendD, popD, popAtD] at h <;> (split at h <;> first | exact ⟨_, rfl⟩ | cases h)
  have av := G.var (p := px) hx
  have n0 : ∀ {f : D → List D → Option (D × D)} {ds : List D}, True := fun {_ _} => trivial
  cases m with
  | append =>
    cases es with
    | nil =>
      refine no fun ds hd d => ?_
      cases (List.length_eq_zero_iff.mp hd)
      cases d <;> first | rfl | (rename_i o _; cases o <;> rfl)
    | cons e es =>
      cases es with
      | nil => exact PE.imp (pe_bm PySem.F.plainAttrs_list PySem.F.slot_list_append PySem.F.type_list_append mt_append av ha rfl (few_ok _ _ e) hl (star_ok _ _ e) rfl) fun σ H Q q => tE_mu (fun l xs H Q F A B ys vs ds rz X' h1 h2 h3 h4 h5 h6 h7 h8 => mu_append h1 h2 h3 h4 h5 h6 h7 h8) ow q
      | cons e2 es =>
        refine no fun ds hd d => ?_
        match ds, hd with
        | _ :: _ :: _, _ => cases d <;> first | rfl | (rename_i o _; cases o <;> rfl)
  | pop =>
    cases es with
    | nil =>
      have hg := hn.nil rfl
      subst hg
      refine PE.imp (pe_bm0 PySem.F.plainAttrs_list PySem.F.slot_list_pop PySem.F.type_list_pop mt_pop av rfl hl) fun σ H Q q => ?_
      obtain ⟨v, hv, ty, F, ρ, fs, ds, ρ', w, e, q1, post⟩ := tE_mu (r := rPop) (fun l xs H Q F A B ys vs ds rz X' h1 h2 h3 h4 h5 h6 h7 h8 => mu_pop h1 h2 h3 h4 h5 h6 h7 h8) ow q
      cases q1
      exact ⟨v, hv, ty, post _ _ _ _ _ (.nil w e)⟩
    | cons e es =>
      refine no fun ds hd d => ?_
      match ds, hd with
      | _ :: _, _ => cases d <;> first | rfl | (rename_i o _; cases o <;> rfl)
  | popAt =>
    cases es with
    | nil =>
      refine no fun ds hd d => ?_
      cases (List.length_eq_zero_iff.mp hd)
      cases d <;> first | rfl | (rename_i o _; cases o <;> rfl)
    | cons e es =>
      cases es with
      | nil => exact PE.imp (pe_bm PySem.F.plainAttrs_list PySem.F.slot_list_pop PySem.F.type_list_pop mt_popAt av ha rfl (few_ok _ _ e) hl (star_ok _ _ e) rfl) fun σ H Q q => tE_mu (fun l xs H Q F A B ys vs ds rz X' h1 h2 h3 h4 h5 h6 h7 h8 => mu_popAt h1 h2 h3 h4 h5 h6 h7 h8) ow q
      | cons e2 es =>
        refine no fun ds hd d => ?_
        match ds, hd with
        | x :: _ :: _, _ => cases d <;> first | rfl | (rename_i o _; cases o <;> cases x <;> rfl)
/-! ### methods -/
theorem rN_fst {K : PySem.W.Frag} {f : D → List D → Option D} {x : V} {xs : List V} {H : Hp} {Q : VK} (h : rN K fns (hd1 f) (x :: xs) H Q) : ∃ F d ds P r, WfF F H ∧ Rep K fns F H d x P ∧ RepL K fns F H ds xs P ∧ OwnS F H P ∧ f d ds = some r ∧ ∀ F' H' z P', VPost K fns F H P F' H' r z P' → Q z H' := by
  obtain ⟨F, ds, P, r, w, rep, own, e, post⟩ := h
  match ds, rep, e with
  | d :: ds, ⟨v, r', P1, P2, e1, s1, s2, dj, h1, h2⟩, e =>
    cases e1
    exact ⟨F, d, ds, P, r, w, h1.mono s1, h2.mono s2, own, e, post⟩
theorem all_mt (G : GX fns T C N sc fnp X) (m : Mt) (o : E) (es : Es) (go : EvT) (gs : Rho → Option (List D × Rho)) (pa p : Pos) (hn : ArgsOf es gs) (hb : baseB o = true) (hl : oneLine pa p = true) (ho : PE X o.ast (tE X.K fns go)) (ha : PA X es.ast (tA X.K fns gs)) :
    PE X (.Call (.Attribute o.ast m.nm pa) es.ast [] p) (tE X.K fns (mtE (opMt0 m) go gs)) := by
  have hu : X.A.units + 65 < cLine := G.hu
  have no : (∀ ds : List D, ds.length = es.ast.length → ∀ d, opMt0 m d ds = none) → PE X (.Call (.Attribute o.ast m.nm pa) es.ast [] p) (tE X.K fns (mtE (opMt0 m) go gs)) := fun h => PE.no fun ρ r q => by
    simp only [mtE, Option.bind_eq_bind, Option.bind_eq_some_iff, Prod.exists] at q
    obtain ⟨x, ρ1, q1, ds, ρ2, q2, r', q3, _⟩ := q
    rw [h ds (hn.len _ _ _ q2)] at q3
    cases q3
  have no0 : es = .nil → (∀ d, opMt0 m d [] = none) → PE X (.Call (.Attribute o.ast m.nm pa) es.ast [] p) (tE X.K fns (mtE (opMt0 m) go gs)) := fun h k => no fun ds hd d => by
    subst h
    cases (List.length_eq_zero_iff.mp hd)
    exact k d
  have no2 : ∀ e1 e2 r, es = .cons e1 (.cons e2 r) → (∀ d a b c, opMt0 m d (a :: b :: c) = none) → PE X (.Call (.Attribute o.ast m.nm pa) es.ast [] p) (tE X.K fns (mtE (opMt0 m) go gs)) := fun e1 e2 r h k => no fun ds hd d => by
    subst h
    match ds, hd with
    | a :: b :: c, _ => exact k d a b c
  have tstr : (∀ d ds r', opMt0 m d ds = some r' → ∃ a, d = .str a) → ∀ F H d x P ds r', Rep X.K fns F H d x P → opMt0 m d ds = some r' → tyV X.K "str" x H := fun hm F H d x P ds r' r e => by
    obtain ⟨a, rfl⟩ := hm _ _ _ e
    cases (show x = _ from r)
    rfl
  have twoS : ∀ {x : V} {xs : List V} {H : Hp} {Q : VK} {g : Str → Str → D} {h : Str → Str → V}, (∀ F H a b, Rep X.K fns F H (g a b) (h a b) Emp) → (∀ d ds r', opMt0 m d ds = some r' → ∃ a b, d = .str a ∧ ds = [.str b] ∧ r' = g a b) → rN X.K fns (hd1 (opMt0 m)) (x :: xs) H Q → ∃ a b, x = .str a ∧ xs = [.str b] ∧ Q (h a b) H := by
    intro x xs H Q g h hrep hm hh
    obtain ⟨F, d, ds, P, r, w, r1, r2, own, e, post⟩ := rN_fst hh
    obtain ⟨a, b, rfl, rfl, rfl⟩ := hm _ _ _ e
    cases (show x = _ from r1)
    obtain ⟨z, rfl, rz⟩ := r2.of1
    cases (show z = _ from rz)
    exact ⟨a, b, rfl, rfl, post _ _ _ _ (.flat w (hrep _ _ _ _))⟩
  cases m with
  | join =>
    cases es with
    | nil => exact no0 rfl fun d => by cases d <;> rfl
    | cons e es =>
      cases es with
      | nil =>
        refine mt_one PySem.F.plainAttrs_str PySem.F.slot_str_join PySem.F.type_str_join mt_join (tstr fun d ds r' h => ?_) (fun x xs H Q h => ?_) hb hl ho ha
        · simp only [opMt0, mJoin] at h; split at h <;> first | exact ⟨_, rfl⟩ | cases h
        · obtain ⟨F, d, ds, P, r, w, r1, r2, own, e, post⟩ := rN_fst h
          simp only [opMt0, mJoin] at e
          split at e <;> try (cases e; done)
          · rename_i a y
            cases (show x = _ from r1)
            obtain ⟨z, rfl, rz⟩ := r2.of1
            cases y <;> simp only [joinD] at e <;> try (cases e; done)
            · obtain ⟨ys, hy, e⟩ := Option.bind_eq_some_iff.mp e
              split at e
              · cases e
                obtain ⟨q, vs, rfl, k1, k2⟩ := rz.list
                cases repL_strs k2 hy
                exact ⟨a, q, ys, rfl, rfl, .inl k1, ‹_›, post _ _ _ _ (.flat w rfl)⟩
              · cases e
            · obtain ⟨ys, hy, e⟩ := Option.bind_eq_some_iff.mp e
              split at e
              · cases e
                obtain ⟨q, vs, rfl, k1, k2⟩ := rz.tupl
                cases repL_strs k2 hy
                exact ⟨a, q, ys, rfl, rfl, .inr k1, ‹_›, post _ _ _ _ (.flat w rfl)⟩
              · cases e
      | cons e2 es => exact no2 _ _ _ rfl fun d a b c => by cases d <;> rfl
  | count =>
    cases es with
    | nil => exact no0 rfl fun d => by cases d <;> rfl
    | cons e es =>
      cases es with
      | nil =>
        have hm : ∀ d ds r', opMt0 .count d ds = some r' → ∃ a b, d = .str a ∧ ds = [.str b] ∧ r' = .int (Txt.count a b) := fun d ds r' h => by
          simp only [opMt0, mCount] at h; split at h <;> first | (cases h; exact ⟨_, _, rfl, rfl, rfl⟩) | cases h
        exact mt_one PySem.F.plainAttrs_str PySem.F.slot_str_count PySem.F.type_str_count mt_count (tstr fun d ds r' h => let ⟨a, _, h, _⟩ := hm d ds r' h; ⟨a, h⟩) (fun x xs H Q h => twoS (g := fun a b => .int (Txt.count a b)) (h := fun a b => .int (Txt.count a b)) (fun _ _ _ _ => rfl) hm h) hb hl ho ha
      | cons e2 es => exact no2 _ _ _ rfl fun d a b c => by cases d <;> first | rfl | (cases a <;> rfl)
  | startswith =>
    cases es with
    | nil => exact no0 rfl fun d => by cases d <;> rfl
    | cons e es =>
      cases es with
      | nil =>
        have hm : ∀ d ds r', opMt0 .startswith d ds = some r' → ∃ a b, d = .str a ∧ ds = [.str b] ∧ r' = .bl (Txt.startswith a b) := fun d ds r' h => by
          simp only [opMt0, mStarts] at h; split at h <;> first | (cases h; exact ⟨_, _, rfl, rfl, rfl⟩) | cases h
        exact mt_one PySem.F.plainAttrs_str PySem.F.slot_str_startswith PySem.F.type_str_startswith mt_startswith (tstr fun d ds r' h => let ⟨a, _, h, _⟩ := hm d ds r' h; ⟨a, h⟩) (fun x xs H Q h => twoS (g := fun a b => .bl (Txt.startswith a b)) (h := fun a b => .bl (Txt.startswith a b)) (fun _ _ _ _ => rfl) hm h) hb hl ho ha
      | cons e2 es => exact no2 _ _ _ rfl fun d a b c => by cases d <;> first | rfl | (cases a <;> rfl)
  | endswith =>
    cases es with
    | nil => exact no0 rfl fun d => by cases d <;> rfl
    | cons e es =>
      cases es with
      | nil =>
        have hm : ∀ d ds r', opMt0 .endswith d ds = some r' → ∃ a b, d = .str a ∧ ds = [.str b] ∧ r' = .bl (Txt.endswith a b) := fun d ds r' h => by
          simp only [opMt0, mEnds] at h; split at h <;> first | (cases h; exact ⟨_, _, rfl, rfl, rfl⟩) | cases h
        exact mt_one PySem.F.plainAttrs_str PySem.F.slot_str_endswith PySem.F.type_str_endswith mt_endswith (tstr fun d ds r' h => let ⟨a, _, h, _⟩ := hm d ds r' h; ⟨a, h⟩) (fun x xs H Q h => twoS (g := fun a b => .bl (Txt.endswith a b)) (h := fun a b => .bl (Txt.endswith a b)) (fun _ _ _ _ => rfl) hm h) hb hl ho ha
      | cons e2 es => exact no2 _ _ _ rfl fun d a b c => by cases d <;> first | rfl | (cases a <;> rfl)
  | bitLength =>
    cases es with
    | nil =>
      have hg := hn.nil rfl
      subst hg
      refine PE.imp (pe_bits ho (base_ok _ _ o hb) hl) fun σ H Q q => ?_
      obtain ⟨F, ρ, fs, d, ρ', w, e, q, post⟩ := q
      simp only [mtE, Option.bind_eq_bind, Option.bind_eq_some_iff, Prod.exists, Option.pure_def, Option.some.injEq, Prod.mk.injEq] at q
      obtain ⟨dx, ρ1, q1, ds, ρ2, ⟨rfl, rfl⟩, r', q3, rfl, rfl⟩ := q
      refine ⟨F, ρ, fs, dx, ρ1, w, e, q1, fun F1 H1 fs1 x P1 p1 => ?_⟩
      simp only [opMt0, mBits] at q3
      split at q3 <;> try (cases q3; done)
      cases q3
      cases (show x = _ from p1.rep)
      exact ⟨_, rfl, post _ _ _ _ _ (p1.drop rfl)⟩
    | cons e es =>
      refine no fun ds hd d => ?_
      match ds, hd with
      | a :: c, _ => cases d <;> rfl
  | get =>
    have hty : ∀ d ds r', opMt0 .get d ds = some r' → ∃ o kvs, d = .dct o kvs := fun d ds r' h => by
      simp only [opMt0, mGet] at h; split at h <;> first | exact ⟨_, _, rfl⟩ | cases h
    have hr : ∀ x xs H Q, rN X.K fns (hd1 (opMt0 .get)) (x :: xs) H Q → rGetA x xs H Q := fun x xs H Q h => by
      obtain ⟨F, d, ds, P, r, w, r1, r2, own, e, post⟩ := rN_fst h
      simp only [opMt0, mGet] at e
      split at e <;> try (cases e; done)
      · rename_i o kvs k
        obtain ⟨k', hk, rfl⟩ := Option.map_eq_some_iff.mp e
        obtain ⟨a, kw, rfl, rd, rp, nd⟩ := dct_rd r1
        obtain ⟨z, rfl, rz⟩ := r2.of1
        cases key_rep rz hk
        cases hv : getD' kvs k' with
        | none =>
          rw [hv] at post
          exact ⟨a, _, none, rfl, .inl ⟨kw, k', rd, rfl, (rp.valN hv).symm⟩, .inl ⟨rfl, post _ _ _ _ (.flat w rfl)⟩⟩
        | some dv =>
          rw [hv] at post
          obtain ⟨v, e1, rv⟩ := rp.val hv
          exact ⟨a, _, some v, rfl, .inl ⟨kw, k', rd, rfl, e1.symm⟩, .inl ⟨rfl, post _ _ _ _ (.part w own rv)⟩⟩
      · rename_i o kvs k dv0
        obtain ⟨k', hk, rfl⟩ := Option.map_eq_some_iff.mp e
        obtain ⟨a, kw, rfl, rd, rp, nd⟩ := dct_rd r1
        obtain ⟨z, r', P1, P2, e3, t1, t2, dj2, rz, r3⟩ := r2
        obtain ⟨y, e4, ry⟩ := r3.of1
        subst e4
        subst e3
        cases key_rep rz hk
        cases hv : getD' kvs k' with
        | none =>
          rw [hv] at post
          exact ⟨a, _, none, rfl, .inl ⟨kw, k', rd, rfl, (rp.valN hv).symm⟩, .inr ⟨y, rfl, post _ _ _ _ (.part w own (ry.mono t2))⟩⟩
        | some dv =>
          rw [hv] at post
          obtain ⟨v, e1, rv⟩ := rp.val hv
          exact ⟨a, _, some v, rfl, .inl ⟨kw, k', rd, rfl, e1.symm⟩, .inr ⟨y, rfl, post _ _ _ _ (.part w own rv)⟩⟩
    cases es with
    | nil => exact no0 rfl fun d => by cases d <;> rfl
    | cons e es =>
      cases es with
      | nil => exact PE.imp (pe_bmD PySem.F.plainAttrs_dict PySem.F.slot_dict_get PySem.F.type_dict_get (mt_getA (by omega)) ho ha (base_ok _ _ o hb) (few_ok _ _ e) hl (star_ok _ _ e) rfl) fun σ H Q q => tE_mtD hty hr q
      | cons e2 es =>
        cases es with
        | nil => exact PE.imp (pe_bmD PySem.F.plainAttrs_dict PySem.F.slot_dict_get PySem.F.type_dict_get (mt_getA (by omega)) ho ha (base_ok _ _ o hb) (few_ok2 _ _ e e2) hl (star_ok _ _ e) (plain_ok _ _ (.cons e2 .nil))) fun σ H Q q => tE_mtD hty hr q
        | cons e3 es =>
          refine no fun ds hd d => ?_
          match ds, hd with
          | _ :: _ :: _ :: _, _ => cases d <;> rfl
  | index =>
    cases es with
    | nil => exact no0 rfl fun d => by cases d <;> rfl
    | cons e es =>
      cases es with
      | nil =>
        refine mt_one PySem.F.plainAttrs_list PySem.F.slot_list_index PySem.F.type_list_index (mt_indexD hu) (fun F H d x P ds r' r h => ?_) (fun x xs H Q h => ?_) hb hl ho ha
        · simp only [opMt0, mIndex] at h
          split at h <;> try (cases h; done)
          obtain ⟨a, vs, rfl, k1, k2⟩ := r.list
          exact .inl ⟨rfl, vs, k1⟩
        · obtain ⟨F, d, ds, P, r, w, r1, r2, own, e, post⟩ := rN_fst h
          simp only [opMt0, mIndex] at e
          split at e <;> try (cases e; done)
          split at e
          · rename_i o ys dy hs
            obtain ⟨j, hj, rfl⟩ := Option.map_eq_some_iff.mp e
            obtain ⟨z, rfl, rz⟩ := r2.of1
            have d1 := r1.dp _ _ _ (SeqAt.canLay_of_shaped hs.1)
            have d2 := rz.dp _ _ _ (SeqAt.canLay_of_shaped hs.2)
            obtain ⟨a, vs, rfl, k1, k2⟩ := r1.list
            obtain ⟨hlt, h5, h6⟩ := List.findIdx?_eq_some_iff_getElem.mp (show (toPyL ys).findIdx? (fun z => PyData.eqv z (toPy dy)) = some j from hj)
            exact ⟨a, z, toPy dy, toPyL ys, j, _, rfl, rfl, d1, d2, hs.1, hs.2, List.getElem?_eq_getElem hlt, h5, fun m z' hm hz' => by
              obtain ⟨hl', rfl⟩ := List.getElem?_eq_some_iff.mp hz'
              simpa using h6 m hm, post _ _ _ _ (.flat w rfl)⟩
          · cases e
      | cons e2 es => exact no2 _ _ _ rfl fun d a b c => by cases d <;> rfl
theorem ops0 (C : CallF) : OpsOk fns T C opBi0 opMt0 opMu0 := ⟨fun G b e es gs pn p => all_bi G b e es gs pn p, fun G m o es go gs pa p => all_mt G m o es go gs pa p, fun G m i x px es gs pa p => all_mu G m i x px es gs pa p⟩
end
end VK

set_option Elab.async false
set_option linter.all false
set_option maxRecDepth 100000
namespace VK
open PySem PySem.Spec PyProof.Rows L2
/-! ### reasoning about runs -/
theorem lcGo_inv {set : D → Rho → Option Rho} {test elt : EvT} {wp : List Nat} (P : List D → Rho → List D → Prop)
    (step : ∀ d ds ρ acc, P (d :: ds) ρ acc → acc.length < sizeLine ∧ ∃ ρ1 t ρ2 b, set d ρ = some ρ1 ∧ test ρ1 = some (t, ρ2) ∧ truD t = some b ∧ (if b = true then ∃ y ρ3, elt ρ2 = some (y, ρ3) ∧ P ds (wipeE ρ3 wp) (acc ++ [y]) else P ds (wipeE ρ2 wp) acc)) :
    ∀ (ds : List D) (ρ : Rho) (acc : List D), P ds ρ acc → ∃ ys ρ', lcGo set test elt wp ds ρ acc = some (ys, ρ') ∧ P [] ρ' ys
  | [], ρ, acc, h => ⟨acc, ρ, rfl, h⟩
  | d :: ds, ρ, acc, h => by
    obtain ⟨hl, ρ1, t, ρ2, b, h1, h2, h3, h4⟩ := step d ds ρ acc h
    rw [lcGo]
    simp only [h1, h2, h3, Option.bind_eq_bind, Option.bind_some]
    cases b with
    | true =>
      obtain ⟨y, ρ3, h5, h6⟩ := (show ∃ y ρ3, elt ρ2 = some (y, ρ3) ∧ P ds (wipeE ρ3 wp) (acc ++ [y]) from h4)
      simp only [h5, Option.bind_some, if_pos, hl]
      exact lcGo_inv P step ds _ _ h6
    | false =>
      have h4 : P ds (wipeE ρ2 wp) acc := h4
      simp only [Bool.false_eq_true, if_false]
      exact lcGo_inv P step ds _ _ h4
/-- a comprehension that leaves the scope as it is -/
theorem lcGo_pure {set : D → Rho → Option Rho} {test elt : EvT} {wp : List Nat} {ρ : Rho} (b : D → Bool) (f : D → D) : ∀ (ds : List D) (acc : List D), acc.length + ds.length ≤ sizeLine →
    (∀ d ∈ ds, ∃ ρ1 t ρ2, set d ρ = some ρ1 ∧ test ρ1 = some (t, ρ2) ∧ truD t = some (b d) ∧ (b d = true → ∃ ρ3, elt ρ2 = some (f d, ρ3) ∧ wipeE ρ3 wp = ρ) ∧ (b d = false → wipeE ρ2 wp = ρ)) →
    lcGo set test elt wp ds ρ acc = some (acc ++ (ds.filter b).map f, ρ)
  | [], acc, _, _ => by rw [lcGo]; simp
  | d :: ds, acc, hl, h => by
    obtain ⟨ρ1, t, ρ2, h1, h2, h3, h4, h5⟩ := h d List.mem_cons_self
    have hl' : acc.length < sizeLine := by rw [List.length_cons] at hl; omega
    rw [lcGo]
    simp only [h1, h2, h3, Option.bind_eq_bind, Option.bind_some]
    cases e : b d with
    | true =>
      obtain ⟨ρ3, h6, h7⟩ := h4 e
      simp only [h6, Option.bind_some, if_pos, hl']
      rw [h7, lcGo_pure b f ds _ (by rw [List.length_append, List.length_cons, List.length_nil]; rw [List.length_cons] at hl; omega) fun d' hd => h d' (List.mem_cons_of_mem _ hd), List.filter_cons, e]
      simp
    | false =>
      simp only [Bool.false_eq_true, if_false]
      rw [h5 e, lcGo_pure b f ds acc (by rw [List.length_cons] at hl; omega) fun d' hd => h d' (List.mem_cons_of_mem _ hd), List.filter_cons, e]
      simp
end VK
namespace VK
open PySem PySem.Spec PyProof.Rows L2
/-! ### runs, forward -/
section
variable (T : Tab) (C : CallF) (W : Nat)
structure EO (e : E) (ρ : Rho) (Q : D → Rho → Prop) : Prop where
  ex : ∃ d ρ', ev opBi0 opMt0 opMu0 T C e ρ = some (d, ρ') ∧ Q d ρ'
structure ESO (es : Es) (ρ : Rho) (Q : List D → Rho → Prop) : Prop where
  ex : ∃ ds ρ', evs opBi0 opMt0 opMu0 T C es ρ = some (ds, ρ') ∧ Q ds ρ'
structure EIO (it : It) (ρ : Rho) (Q : List D → Rho → Prop) : Prop where
  ex : ∃ ds ρ', evIt opBi0 opMt0 opMu0 T C it ρ = some (ds, ρ') ∧ Q ds ρ'
structure EOO (o : Oe) (ρ : Rho) (Q : Option Int → Rho → Prop) : Prop where
  ex : ∃ x ρ', evO opBi0 opMt0 opMu0 T C o ρ = some (x, ρ') ∧ Q x ρ'
structure SO (s : S) (ρ : Rho) (Q : Fl → Rho → Prop) : Prop where
  ex : ∃ f ρ', exec opBi0 opMt0 opMu0 T C W s ρ = some (f, ρ') ∧ Q f ρ'
structure SSO (ss : Ss) (ρ : Rho) (Q : Fl → Rho → Prop) : Prop where
  ex : ∃ f ρ', execs opBi0 opMt0 opMu0 T C W ss ρ = some (f, ρ') ∧ Q f ρ'
end
section
variable {T : Tab} {C : CallF} {W : Nat} {ρ : Rho} {Q : D → Rho → Prop} {QS : List D → Rho → Prop} {QF : Fl → Rho → Prop} {QO : Option Int → Rho → Prop} {p pn pa px p2 p1 p3 : Pos} {k : Nat}
theorem eo_cst {c : Const} {d : D} (h : cstD c = some d) (q : Q d ρ) : EO T C (.cst c k p) ρ Q := ⟨d, ρ, by rw [ev, h]; rfl, q⟩
theorem set_same {i : Nat} {d : D} (h : ρ[i]? = some (some d)) : ρ.set i (some d) = ρ := by
  apply List.ext_getElem?
  intro j
  by_cases hj : j = i
  · subst hj
    rw [List.getElem?_set, if_pos rfl, if_pos (List.getElem?_eq_some_iff.mp h).1, h]
  · rw [List.getElem?_set_ne (Ne.symm hj)]
theorem eo_cp {i : Nat} {x : Str} {d : D} (h : ρ[i]? = some (some d)) (hf : frz d = d) (q : Q d ρ) : EO T C (.cp i x p) ρ Q := ⟨d, ρ, by rw [ev]; dsimp only; rw [h]; simp only [hf]; rw [set_same h], q⟩
theorem eo_cpF {i : Nat} {x : Str} {d : D} (h : ρ[i]? = some (some d)) (q : Q (frz d) (ρ.set i (some (frz d)))) : EO T C (.cp i x p) ρ Q := ⟨_, _, by rw [ev]; dsimp only; rw [h], q⟩
theorem eo_mv {i : Nat} {x : Str} {d : D} (h : ρ[i]? = some (some d)) (q : Q d (ρ.set i none)) : EO T C (.mv i x p) ρ Q := ⟨_, _, by rw [ev]; dsimp only; rw [h], q⟩
theorem eo_glb {x : Str} {d : D} (h : T.glb.lookup x = some d) (q : Q d ρ) : EO T C (.glb x p) ρ Q := ⟨d, ρ, by rw [ev, h]; rfl, q⟩
theorem eo_pur {e : E} (h : EO T C e (frzE ρ) fun d _ => nsh d = true ∧ Q d ρ) : EO T C (.pur e) ρ Q := by
  obtain ⟨d, ρ', h1, h2, h3⟩ := h
  exact ⟨d, ρ, by rw [ev]; dsimp only; rw [h1]; simp only [h2, if_pos], h3⟩
theorem eo_neg {a : E} (h : EO T C a ρ fun x ρ1 => ∃ r, negD x = some r ∧ Q r ρ1) : EO T C (.neg a p) ρ Q := by
  obtain ⟨x, ρ1, h1, r, h2, h3⟩ := h
  exact ⟨r, ρ1, by rw [ev]; simp only [opE1, h1, h2, Option.bind_eq_bind, Option.bind_some, Option.pure_def], h3⟩
theorem eo_bin {op : Operator} {a b : E} (h : EO T C a ρ fun x ρ1 => EO T C b ρ1 fun y ρ2 => ∃ r, opB op x y = some r ∧ Q r ρ2) : EO T C (.bin op a b p) ρ Q := by
  obtain ⟨x, ρ1, h1, y, ρ2, h2, r, h3, h4⟩ := h
  exact ⟨r, ρ2, by rw [ev]; simp only [opE2, h1, h2, h3, Option.bind_eq_bind, Option.bind_some, Option.pure_def], h4⟩
structure MulO (x y : D) (Q : D → Prop) : Prop where
  ex : ∃ r, opB .Mult x y = some r ∧ Q r
structure PowO (x y : D) (Q : D → Prop) : Prop where
  ex : ∃ r, opB .Pow x y = some r ∧ Q r
structure DivO (op : Operator) (x y : D) (Q : D → Prop) : Prop where
  ex : ∃ r, opB op x y = some r ∧ Q r
theorem eo_mod {a b : E} (h : EO T C a ρ fun x ρ1 => EO T C b ρ1 fun y ρ2 => DivO .Mod x y fun r => Q r ρ2) : EO T C (.bin .Mod a b p) ρ Q := by
  obtain ⟨x, ρ1, h1, y, ρ2, h2, r, h3, h4⟩ := h
  exact eo_bin ⟨x, ρ1, h1, y, ρ2, h2, r, h3, h4⟩
theorem eo_fdiv {a b : E} (h : EO T C a ρ fun x ρ1 => EO T C b ρ1 fun y ρ2 => DivO .FloorDiv x y fun r => Q r ρ2) : EO T C (.bin .FloorDiv a b p) ρ Q := by
  obtain ⟨x, ρ1, h1, y, ρ2, h2, r, h3, h4⟩ := h
  exact eo_bin ⟨x, ρ1, h1, y, ρ2, h2, r, h3, h4⟩
theorem eo_mul {a b : E} (h : EO T C a ρ fun x ρ1 => EO T C b ρ1 fun y ρ2 => MulO x y fun r => Q r ρ2) : EO T C (.bin .Mult a b p) ρ Q := by
  obtain ⟨x, ρ1, h1, y, ρ2, h2, r, h3, h4⟩ := h
  exact eo_bin ⟨x, ρ1, h1, y, ρ2, h2, r, h3, h4⟩
theorem eo_pow {a b : E} (h : EO T C a ρ fun x ρ1 => EO T C b ρ1 fun y ρ2 => PowO x y fun r => Q r ρ2) : EO T C (.bin .Pow a b p) ρ Q := by
  obtain ⟨x, ρ1, h1, y, ρ2, h2, r, h3, h4⟩ := h
  exact eo_bin ⟨x, ρ1, h1, y, ρ2, h2, r, h3, h4⟩
structure CmpO (op : CmpOp) (x y : D) (Q : Bool → Prop) : Prop where
  ex : ∃ r, opC op x y = some r ∧ Q r
theorem cmp_rfl {op : CmpOp} {x y : D} {r : Bool} {Q : Bool → Prop} (h : opC op x y = some r) (q : Q r) : CmpO op x y Q := ⟨r, h, q⟩
theorem eo_cmp {op : CmpOp} {a b : E} (h : EO T C a ρ fun x ρ1 => EO T C b ρ1 fun y ρ2 => CmpO op x y fun r => Q (.bl r) ρ2) : EO T C (.cmp op a b p) ρ Q := by
  obtain ⟨x, ρ1, h1, y, ρ2, h2, r, h3, h4⟩ := h
  exact ⟨_, ρ2, by rw [ev]; simp only [opE2, h1, h2, h3, Option.bind_eq_bind, Option.bind_some, Option.pure_def, Option.map_some], h4⟩
theorem eo_chn {op op' : CmpOp} {a b c : E} (h : EO T C a ρ fun x ρ1 => EO T C b ρ1 fun y ρ2 => CmpO op x y fun r => if r = true then EO T C c ρ2 fun z ρ3 => CmpO op' y z fun l => Q (.bl l) ρ3 else Q (.bl false) ρ2) : EO T C (.chn op op' a b c p) ρ Q := by
  obtain ⟨x, ρ1, h1, y, ρ2, h2, r, h3, h4⟩ := h
  cases r with
  | true =>
    obtain ⟨z, ρ3, h5, l, h6, h7⟩ := (show EO T C c ρ2 fun z ρ3 => CmpO op' y z fun l => Q (.bl l) ρ3 from h4)
    exact ⟨_, ρ3, by rw [ev]; simp only [h1, h2, h3, h5, h6, Option.bind_eq_bind, Option.bind_some, Option.pure_def, if_pos], h7⟩
  | false => exact ⟨_, ρ2, by rw [ev]; simp only [h1, h2, h3, Option.bind_eq_bind, Option.bind_some, Option.pure_def, Bool.false_eq_true, if_false], (show Q (.bl false) ρ2 from h4)⟩
theorem eo_and1 {e : E} (h : EO T C e ρ Q) : EO T C (.and_ (.cons e .nil) p) ρ Q := by
  obtain ⟨x, ρ1, h1, h2⟩ := h
  exact ⟨x, ρ1, by rw [ev, evAnd]; exact h1, h2⟩
theorem eo_and {e e2 : E} {es : Es} (h : EO T C e ρ fun x ρ1 => ∃ b, truD x = some b ∧ if b = true then EO T C (.and_ (.cons e2 es) p) ρ1 Q else Q x ρ1) : EO T C (.and_ (.cons e (.cons e2 es)) p) ρ Q := by
  obtain ⟨x, ρ1, h1, b, h2, h3⟩ := h
  cases b with
  | true =>
    obtain ⟨y, ρ2, h4, h5⟩ := (show EO T C (.and_ (.cons e2 es) p) ρ1 Q from h3)
    rw [ev] at h4
    exact ⟨y, ρ2, by rw [ev, evAnd]; simp only [h1, h2, Option.bind_eq_bind, Option.bind_some, if_pos]; exact h4; exact (fun h => nomatch h), h5⟩
  | false => exact ⟨x, ρ1, by rw [ev, evAnd]; simp only [h1, h2, Option.bind_eq_bind, Option.bind_some, Option.pure_def, Bool.false_eq_true, if_false]; exact (fun h => nomatch h), (show Q x ρ1 from h3)⟩
theorem eo_or1 {e : E} (h : EO T C e ρ Q) : EO T C (.or_ (.cons e .nil) p) ρ Q := by
  obtain ⟨x, ρ1, h1, h2⟩ := h
  exact ⟨x, ρ1, by rw [ev, evOr]; exact h1, h2⟩
theorem eo_or {e e2 : E} {es : Es} (h : EO T C e ρ fun x ρ1 => ∃ b, truD x = some b ∧ if b = true then Q x ρ1 else EO T C (.or_ (.cons e2 es) p) ρ1 Q) : EO T C (.or_ (.cons e (.cons e2 es)) p) ρ Q := by
  obtain ⟨x, ρ1, h1, b, h2, h3⟩ := h
  cases b with
  | false =>
    obtain ⟨y, ρ2, h4, h5⟩ := (show EO T C (.or_ (.cons e2 es) p) ρ1 Q from h3)
    rw [ev] at h4
    exact ⟨y, ρ2, by rw [ev, evOr]; simp only [h1, h2, Option.bind_eq_bind, Option.bind_some, Bool.false_eq_true, if_false]; exact h4; exact (fun h => nomatch h), h5⟩
  | true => exact ⟨x, ρ1, by rw [ev, evOr]; simp only [h1, h2, Option.bind_eq_bind, Option.bind_some, Option.pure_def, if_pos]; exact (fun h => nomatch h), (show Q x ρ1 from h3)⟩
theorem eo_not {a : E} (h : EO T C a ρ fun x ρ1 => ∃ b, truD x = some b ∧ Q (.bl (!b)) ρ1) : EO T C (.not_ a p) ρ Q := by
  obtain ⟨x, ρ1, h1, b, h2, h3⟩ := h
  exact ⟨_, ρ1, by rw [ev]; simp only [h1, h2, Option.bind_eq_bind, Option.bind_some, Option.pure_def], h3⟩
theorem eo_ife {c a b : E} (h : EO T C c ρ fun x ρ1 => ∃ k, truD x = some k ∧ if k = true then EO T C a ρ1 Q else EO T C b ρ1 Q) : EO T C (.ife c a b p) ρ Q := by
  obtain ⟨x, ρ1, h1, k, h2, h3⟩ := h
  cases k with
  | true =>
    obtain ⟨y, ρ2, h4, h5⟩ := (show EO T C a ρ1 Q from h3)
    exact ⟨y, ρ2, by rw [ev]; simp only [h1, h2, Option.bind_eq_bind, Option.bind_some, if_pos]; exact h4, h5⟩
  | false =>
    obtain ⟨y, ρ2, h4, h5⟩ := (show EO T C b ρ1 Q from h3)
    exact ⟨y, ρ2, by rw [ev]; simp only [h1, h2, Option.bind_eq_bind, Option.bind_some, Bool.false_eq_true, if_false]; exact h4, h5⟩
theorem eo_lst {es : Es} (h : ESO T C es ρ fun ds ρ1 => ds.length ≤ sizeLine ∧ Q (.lst .own ds) ρ1) : EO T C (.lst es p) ρ Q := by
  obtain ⟨ds, ρ1, h1, h2, h3⟩ := h
  exact ⟨_, ρ1, by rw [ev]; simp only [opEN, h1, h2, Option.bind_eq_bind, Option.bind_some, Option.pure_def, if_pos], h3⟩
theorem eo_tup {es : Es} (h : ESO T C es ρ fun ds ρ1 => ds.length ≤ sizeLine ∧ Q (.tup ds) ρ1) : EO T C (.tup es k p) ρ Q := by
  obtain ⟨ds, ρ1, h1, h2, h3⟩ := h
  exact ⟨_, ρ1, by rw [ev]; simp only [opEN, h1, h2, Option.bind_eq_bind, Option.bind_some, Option.pure_def, if_pos], h3⟩
theorem eo_ix {a i : E} (h : EO T C a ρ fun x ρ1 => EO T C i ρ1 fun y ρ2 => ∃ r, opIx x y = some r ∧ Q r ρ2) : EO T C (.ix a i p) ρ Q := by
  obtain ⟨x, ρ1, h1, y, ρ2, h2, r, h3, h4⟩ := h
  exact ⟨r, ρ2, by rw [ev]; simp only [opE2, h1, h2, h3, Option.bind_eq_bind, Option.bind_some, Option.pure_def], h4⟩
theorem eo_sl {a : E} {lo hi : Oe} (h : EO T C a ρ fun x ρ1 => EOO T C lo ρ1 fun l ρ2 => EOO T C hi ρ2 fun h ρ3 => ∃ r, sliceD x l h = some r ∧ Q r ρ3) : EO T C (.sl a lo hi p2 p) ρ Q := by
  obtain ⟨x, ρ1, h1, l, ρ2, h2, h', ρ3, h3, r, h4, h5⟩ := h
  exact ⟨r, ρ3, by rw [ev]; simp only [h1, h2, h3, h4, Option.bind_eq_bind, Option.bind_some, Option.pure_def], h5⟩
theorem eoo_no (q : QO none ρ) : EOO T C .no ρ QO := ⟨none, ρ, by rw [evO], q⟩
theorem eoo_yes {e : E} (h : EO T C e ρ fun x ρ1 => ∃ i, x = .int i ∧ QO (some i) ρ1) : EOO T C (.yes e) ρ QO := by
  obtain ⟨x, ρ1, h1, i, rfl, h2⟩ := h
  exact ⟨some i, ρ1, by rw [evO]; simp only [h1, intO, Option.bind_eq_bind, Option.bind_some, Option.pure_def], h2⟩
theorem eo_rev {a : E} (h : EO T C a ρ fun x ρ1 => ∃ r, revD x = some r ∧ Q r ρ1) : EO T C (.rev a k p1 p2 p3 p) ρ Q := by
  obtain ⟨x, ρ1, h1, r, h2, h3⟩ := h
  exact ⟨r, ρ1, by rw [ev]; simp only [opE1, h1, h2, Option.bind_eq_bind, Option.bind_some, Option.pure_def], h3⟩
theorem eo_isi {a : E} {t : TyE} (h : EO T C a ρ fun x ρ1 => ∃ b, tyE t x = some b ∧ Q (.bl b) ρ1) : EO T C (.isi a t pn p) ρ Q := by
  obtain ⟨x, ρ1, h1, r, h2, h3⟩ := h
  exact ⟨_, ρ1, by rw [ev]; simp only [opE1, h1, h2, Option.bind_eq_bind, Option.bind_some, Option.pure_def, Option.map_some], h3⟩
theorem eo_bi {b : Bi} {es : Es} (h : ESO T C es ρ fun ds ρ1 => ∃ r, opBi0 b ds = some r ∧ Q r ρ1) : EO T C (.bi b es pn p) ρ Q := by
  obtain ⟨ds, ρ1, h1, r, h2, h3⟩ := h
  exact ⟨r, ρ1, by rw [ev]; simp only [opEN, h1, h2, Option.bind_eq_bind, Option.bind_some, Option.pure_def], h3⟩
theorem eo_call {f : Nat} {x : Str} {es : Es} (h : ESO T C es ρ fun ds ρ1 => ∃ r outs, C f ds = some (r, outs) ∧ Q r (outsE outs (iosOf 0 es) ρ1)) : EO T C (.call f x es pn p) ρ Q := by
  obtain ⟨ds, ρ1, h1, r, outs, h2, h3⟩ := h
  exact ⟨r, _, by rw [ev]; simp only [h1, h2, Option.bind_eq_bind, Option.bind_some, Option.pure_def], h3⟩
theorem outsE_nil (outs : List (Nat × Option D)) (ρ : Rho) : outsE outs [] ρ = ρ := rfl
theorem eo_callN {f : Nat} {x : Str} {es : Es} (hn : iosOf 0 es = []) (h : ESO T C es ρ fun ds ρ1 => ∃ r outs, C f ds = some (r, outs) ∧ Q r ρ1) : EO T C (.call f x es pn p) ρ Q := by
  obtain ⟨ds, ρ1, h1, r, outs, h2, h3⟩ := h
  exact eo_call ⟨ds, ρ1, h1, r, outs, h2, by rw [hn]; exact h3⟩
theorem eo_callK {f : Nat} {x : Str} {es kes : Es} {ks : List (Str × Pos)} {q : List Nat} (h : ESO T C es ρ fun ds ρ1 => ESO T C kes ρ1 fun zs ρ2 => ∃ r outs, C f (permD q (ds ++ zs)) = some (r, outs) ∧ Q r ρ2) : EO T C (.callK f x es ks q kes pn p) ρ Q := by
  obtain ⟨ds, ρ1, h1, zs, ρ2, h2, r, outs, h3, h4⟩ := h
  exact ⟨r, _, by rw [ev]; simp only [h1, h2, h3, Option.bind_eq_bind, Option.bind_some, Option.pure_def], h4⟩
theorem eo_mt {m : Mt} {o : E} {es : Es} (h : EO T C o ρ fun x ρ1 => ESO T C es ρ1 fun ds ρ2 => ∃ r, opMt0 m x ds = some r ∧ Q r ρ2) : EO T C (.mt m o es pa p) ρ Q := by
  obtain ⟨x, ρ1, h1, ds, ρ2, h2, r, h3, h4⟩ := h
  exact ⟨r, ρ2, by rw [ev]; simp only [h1, h2, h3, Option.bind_eq_bind, Option.bind_some, Option.pure_def], h4⟩
theorem eo_mu {m : Mu} {i : Nat} {x : Str} {es : Es} {ys : List D} (h0 : ρ[i]? = some (some (.lst .own ys))) (h : ESO T C es ρ fun ds ρ1 => ∃ d r x', ρ1[i]? = some (some d) ∧ opMu0 m d ds = some (r, x') ∧ Q r (ρ1.set i (some x'))) : EO T C (.mu m i x px es pa p) ρ Q := by
  obtain ⟨ds, ρ1, h1, d, r, x', h2, h3, h4⟩ := h
  exact ⟨r, _, by rw [ev]; dsimp only; rw [h0]; simp only [h1, h2, h3, Option.bind_eq_bind, Option.bind_some, Option.pure_def], h4⟩
theorem eso_nil (q : QS [] ρ) : ESO T C .nil ρ QS := ⟨[], ρ, by rw [evs], q⟩
theorem eso_cons {e : E} {es : Es} (hm : ∀ ga gb, argE e ga gb = consE ga gb) (h : EO T C e ρ fun x ρ1 => ESO T C es ρ1 fun ds ρ2 => QS (x :: ds) ρ2) : ESO T C (.cons e es) ρ QS := by
  obtain ⟨x, ρ1, h1, ds, ρ2, h2, h3⟩ := h
  exact ⟨_, ρ2, by rw [evs, hm]; simp only [consE, h1, h2, Option.bind_eq_bind, Option.bind_some, Option.pure_def], h3⟩
theorem eso_mv {i : Nat} {x : Str} {es : Es} {d0 : D} (h0 : ρ[i]? = some (some d0)) (h : ESO T C es ρ fun ds ρ1 => ∃ d, ρ1[i]? = some (some d) ∧ QS (d :: ds) (ρ1.set i none)) : ESO T C (.cons (.mv i x p) es) ρ QS := by
  obtain ⟨ds, ρ1, h1, d, h2, h3⟩ := h
  refine ⟨_, _, ?_, h3⟩
  rw [evs]
  show lateE i _ ρ = _
  unfold lateE
  rw [h0]
  simp only [h1, h2, Option.bind_eq_bind, Option.bind_some, Option.pure_def]

/-! ### walks -/
theorem eio_any {e : E} (h : EO T C e ρ fun x ρ1 => (∃ o xs, x = .lst o xs ∧ QS (frzL xs) ρ1) ∨ (∃ xs, x = .tup xs ∧ QS (frzL xs) ρ1) ∨ ∃ z : Str, x = .str z ∧ QS (z.cps.toList.map fun c => .str ⟨#[c]⟩) ρ1) : EIO T C (.any e) ρ QS := by
  obtain ⟨x, ρ1, h1, h2⟩ := h
  rcases h2 with ⟨o, xs, rfl, q⟩ | ⟨xs, rfl, q⟩ | ⟨z, rfl, q⟩
  · exact ⟨_, ρ1, by rw [evIt]; simp only [h1, Option.bind_eq_bind, Option.bind_some], q⟩
  · exact ⟨_, ρ1, by rw [evIt]; simp only [h1, Option.bind_eq_bind, Option.bind_some], q⟩
  · exact ⟨_, ρ1, by rw [evIt]; simp only [h1, Option.bind_eq_bind, Option.bind_some], q⟩
theorem eio_rng1 {a : E} (h : EO T C a ρ fun x ρ1 => ∃ j : Int, x = .int j ∧ -(2 ^ 62) ≤ j ∧ j < 2 ^ 62 ∧ QS ((List.range j.toNat).map fun (k : Nat) => .int (k : Int)) ρ1) : EIO T C (.rng1 a pn p) ρ QS := by
  obtain ⟨x, ρ1, h1, j, rfl, h2, h3, h4⟩ := h
  exact ⟨_, ρ1, by rw [evIt]; simp only [h1, Option.bind_eq_bind, Option.bind_some]; rw [if_pos ⟨h2, h3⟩], h4⟩
theorem eio_rng2 {a b : E} (h : EO T C a ρ fun x ρ1 => EO T C b ρ1 fun y ρ2 => ∃ i j : Int, x = .int i ∧ y = .int j ∧ (-(2 ^ 62) ≤ i ∧ i < 2 ^ 62 ∧ -(2 ^ 62) ≤ j ∧ j < 2 ^ 62) ∧ QS ((List.range (j - i).toNat).map fun (k : Nat) => .int (i + (k : Int))) ρ2) : EIO T C (.rng2 a b pn p) ρ QS := by
  obtain ⟨x, ρ1, h1, y, ρ2, h2, i, j, rfl, rfl, h3, h4⟩ := h
  exact ⟨_, ρ2, by rw [evIt]; simp only [h1, h2, Option.bind_eq_bind, Option.bind_some]; rw [if_pos h3], h4⟩
theorem eio_zip {a b : E} (h : EO T C a ρ fun x ρ1 => EO T C b ρ1 fun y ρ2 => (∃ o u xs ys, x = .lst o xs ∧ y = .lst u ys ∧ QS (List.zipWith (fun x y => .tup [x, y]) (frzL xs) (frzL ys)) ρ2) ∨ ∃ xs ys, x = .tup xs ∧ y = .tup ys ∧ QS (List.zipWith (fun x y => .tup [x, y]) (frzL xs) (frzL ys)) ρ2) : EIO T C (.zip a b pn p) ρ QS := by
  obtain ⟨x, ρ1, h1, y, ρ2, h2, h3⟩ := h
  rcases h3 with ⟨o, u, xs, ys, rfl, rfl, q⟩ | ⟨xs, ys, rfl, rfl, q⟩
  · exact ⟨_, ρ2, by rw [evIt]; simp only [h1, h2, Option.bind_eq_bind, Option.bind_some], q⟩
  · exact ⟨_, ρ2, by rw [evIt]; simp only [h1, h2, Option.bind_eq_bind, Option.bind_some], q⟩
theorem eio_keys {i : Nat} {x : Str} {o : Ow} {kvs : List (Key × D)} (h : ρ[i]? = some (some (.dct o kvs))) (q : QS (kvs.map fun kv => keyOf kv.1) (ρ.set i (some (frz (.dct o kvs))))) : EIO T C (.keys i x p) ρ QS := by
  refine ⟨_, _, by rw [evIt]; unfold dctI; dsimp only; rw [h], ?_⟩
  have : (frzP kvs).map (fun kv => keyOf kv.1) = kvs.map fun kv => keyOf kv.1 := by
    have e := congrArg (List.map keyOf) (frzP_keys kvs)
    rw [List.map_map, List.map_map] at e
    exact e
  rw [this]
  exact q
/-! ### comprehensions -/
theorem eo_lc {elt : E} {tg : Tg} {it : It} {cd : Oe} {sc : Scope} {own : List (Str × Nat)} (h : EIO T C it ρ fun ds ρ1 => ∃ ys ρ2, lcGo (setT tg) (evT opBi0 opMt0 opMu0 T C cd) (ev opBi0 opMt0 opMu0 T C elt) (own.map (·.2)) ds (wipeE ρ1 (own.map (·.2))) [] = some (ys, ρ2) ∧ Q (.lst .own ys) (backE ρ2 ρ1 (own.map (·.2)))) : EO T C (.lc elt tg it cd sc own p) ρ Q := by
  obtain ⟨ds, ρ1, h1, ys, ρ2, h2, h3⟩ := h
  exact ⟨_, _, by rw [ev]; simp only [h1, h2, Option.bind_eq_bind, Option.bind_some, Option.pure_def], h3⟩
structure TO (T : Tab) (C : CallF) (o : Oe) (ρ : Rho) (Q : D → Rho → Prop) : Prop where
  ex : ∃ d ρ', evT opBi0 opMt0 opMu0 T C o ρ = some (d, ρ') ∧ Q d ρ'
theorem to_no (q : Q (.bl true) ρ) : TO T C .no ρ Q := ⟨_, ρ, by rw [evT], q⟩
theorem to_yes {e : E} (h : EO T C e ρ Q) : TO T C (.yes e) ρ Q := by
  obtain ⟨d, ρ', h1, h2⟩ := h
  exact ⟨d, ρ', by rw [evT]; exact h1, h2⟩
theorem wipe_get {ρ : Rho} {vs : List Nat} {i : Nat} (h : i ∉ vs) : (wipeE ρ vs)[i]? = ρ[i]? := by
  induction vs with
  | nil => rfl
  | cons v vs ih =>
    have h : ¬ i = v ∧ i ∉ vs := by simpa using h
    unfold wipeE
    rw [List.getElem?_set_ne (Ne.symm h.1), ih h.2]
theorem back_get {ρ ρ0 : Rho} {vs : List Nat} {i : Nat} (h : i ∉ vs) : (backE ρ ρ0 vs)[i]? = ρ[i]? := by
  induction vs with
  | nil => rfl
  | cons v vs ih =>
    have h : ¬ i = v ∧ i ∉ vs := by simpa using h
    unfold backE
    rw [List.getElem?_set_ne (Ne.symm h.1), ih h.2]
theorem back_wipe (ρ : Rho) (vs : List Nat) : backE (wipeE ρ vs) ρ vs = ρ := by
  have key : ∀ (us : List Nat) (σ : Rho), σ.length = ρ.length → (∀ i, i ∉ us → σ[i]? = ρ[i]?) → backE σ ρ us = ρ := by
    intro us
    induction us with
    | nil => intro σ _ h; exact List.ext_getElem? fun i => h i (by simp)
    | cons v us ih =>
      intro σ hl h
      unfold backE
      apply List.ext_getElem?
      intro i
      by_cases hi : v = i
      · subst hi
        rw [List.getElem?_set, if_pos rfl, backE_len, hl]
        by_cases hv : v < ρ.length
        · rw [if_pos hv, List.getElem?_eq_getElem hv, List.getD_eq_getElem?_getD, List.getElem?_eq_getElem hv]; rfl
        · rw [if_neg hv, List.getElem?_eq_none (Nat.le_of_not_lt hv)]
      · rw [List.getElem?_set_ne hi]
        by_cases hu : i ∈ us
        · -- put back by a later one
          have : ∀ (us : List Nat) (σ : Rho), σ.length = ρ.length → i ∈ us → (backE σ ρ us)[i]? = ρ[i]? := by
            intro us
            induction us with
            | nil => intro _ _ h; cases h
            | cons w us ih2 =>
              intro σ hl hm
              unfold backE
              by_cases hw : w = i
              · subst hw
                rw [List.getElem?_set, if_pos rfl, backE_len, hl]
                by_cases hv : w < ρ.length
                · rw [if_pos hv, List.getElem?_eq_getElem hv, List.getD_eq_getElem?_getD, List.getElem?_eq_getElem hv]; rfl
                · rw [if_neg hv, List.getElem?_eq_none (Nat.le_of_not_lt hv)]
              · rw [List.getElem?_set_ne hw]
                exact ih2 σ hl ((List.mem_cons.mp hm).resolve_left fun e => hw e.symm)
          exact this us σ hl hu
        · rw [back_get hu]
          exact h i (by simp only [List.mem_cons, not_or]; exact ⟨fun e => hi e.symm, hu⟩)
  exact key vs _ (wipeE_len _ _) fun i hi => wipe_get hi
/-- a comprehension that changes nothing -/
theorem eo_lcP {elt : E} {tg : Tg} {it : It} {cd : Oe} {sc : Scope} {own : List (Str × Nat)} (b : D → Bool) (f : D → D) (h : EIO T C it ρ fun ds ρ1 => ds.length ≤ sizeLine ∧
    (∀ d ∈ ds, ∃ ρ2, setT tg d (wipeE ρ1 (own.map (·.2))) = some ρ2 ∧ TO T C cd ρ2 fun t ρ3 => truD t = some (b d) ∧ if b d = true then EO T C elt ρ3 fun y ρ4 => y = f d ∧ wipeE ρ4 (own.map (·.2)) = wipeE ρ1 (own.map (·.2)) else wipeE ρ3 (own.map (·.2)) = wipeE ρ1 (own.map (·.2))) ∧
    Q (.lst .own ((ds.filter b).map f)) ρ1) : EO T C (.lc elt tg it cd sc own p) ρ Q := by
  obtain ⟨ds, ρ1, h1, h2, h3, h4⟩ := h
  refine eo_lc ⟨ds, ρ1, h1, _, _, lcGo_pure b f ds [] (by rw [List.length_nil, Nat.zero_add]; exact h2) fun d hd => ?_, ?_⟩
  · obtain ⟨ρ2, k1, t, ρ3, k2, k3, k4⟩ := h3 d hd
    refine ⟨ρ2, t, ρ3, k1, k2, k3, fun hb => ?_, fun hb => ?_⟩
    · rw [hb, if_pos rfl] at k4
      obtain ⟨y, ρ4, k5, rfl, k6⟩ := k4
      exact ⟨ρ4, k5, k6⟩
    · rw [hb, if_neg Bool.false_ne_true] at k4
      exact k4
  · rw [back_wipe]
    exact h4
/-- a comprehension, by what stays true -/
theorem eo_lcI {elt : E} {tg : Tg} {it : It} {cd : Oe} {sc : Scope} {own : List (Str × Nat)} (h : EIO T C it ρ fun ds ρ1 => ∃ P : List D → Rho → List D → Prop, P ds (wipeE ρ1 (own.map (·.2))) [] ∧
    (∀ d ds ρ2 acc, P (d :: ds) ρ2 acc → acc.length < sizeLine ∧ ∃ ρ3, setT tg d ρ2 = some ρ3 ∧ TO T C cd ρ3 fun t ρ4 => ∃ b, truD t = some b ∧ if b = true then EO T C elt ρ4 fun y ρ5 => P ds (wipeE ρ5 (own.map (·.2))) (acc ++ [y]) else P ds (wipeE ρ4 (own.map (·.2))) acc) ∧
    ∀ ys ρ2, P [] ρ2 ys → Q (.lst .own ys) (backE ρ2 ρ1 (own.map (·.2)))) : EO T C (.lc elt tg it cd sc own p) ρ Q := by
  obtain ⟨ds, ρ1, h1, P, h2, h3, h4⟩ := h
  obtain ⟨ys, ρ2, h5, h6⟩ := lcGo_inv (set := setT tg) (test := evT opBi0 opMt0 opMu0 T C cd) (elt := ev opBi0 opMt0 opMu0 T C elt) (wp := own.map (·.2)) P (fun d ds ρ2 acc hp => by
    obtain ⟨k0, ρ3, k1, t, ρ4, k2, b, k3, k4⟩ := h3 d ds ρ2 acc hp
    refine ⟨k0, ρ3, t, ρ4, b, k1, k2, k3, ?_⟩
    cases b with
    | true => exact (show EO T C elt ρ4 _ from k4).ex
    | false => exact k4) ds _ [] h2
  exact eo_lc ⟨ds, ρ1, h1, ys, ρ2, h5, h4 ys ρ2 h6⟩
theorem forGo_inv {set : D → Rho → Option Rho} {body : Rho → Option (Fl × Rho)} (P : List D → Rho → Prop) (R : Fl → Rho → Prop)
    (step : ∀ d ds ρ, P (d :: ds) ρ → ∃ ρ1 f ρ2, set d ρ = some ρ1 ∧ body ρ1 = some (f, ρ2) ∧ match f with
      | .nx => P ds ρ2
      | .ct => P ds ρ2
      | .bk => R .nx ρ2
      | .rt d => R (.rt d) ρ2) (fin : ∀ ρ, P [] ρ → R .nx ρ) : ∀ (ds : List D) (ρ : Rho), P ds ρ → ∃ f ρ', forGo set body ds ρ = some (f, ρ') ∧ R f ρ'
  | [], ρ, h => ⟨.nx, ρ, rfl, fin ρ h⟩
  | d :: ds, ρ, h => by
    obtain ⟨ρ1, f, ρ2, h1, h2, h3⟩ := step d ds ρ h
    rw [forGo]
    simp only [h1, h2, Option.bind_eq_bind, Option.bind_some]
    cases f with
    | nx => exact forGo_inv P R step fin ds _ h3
    | ct => exact forGo_inv P R step fin ds _ h3
    | bk => exact ⟨_, _, rfl, h3⟩
    | rt d => exact ⟨_, _, rfl, h3⟩
theorem so_forI {t : Tg} {it : It} {b : Ss} (h : EIO T C it ρ fun ds ρ1 => ∃ P : List D → Rho → Prop, P ds ρ1 ∧
    (∀ d ds ρ2, P (d :: ds) ρ2 → ∃ ρ3, setT t d ρ2 = some ρ3 ∧ SSO T C W b ρ3 fun f ρ4 => match f with
      | .nx => P ds ρ4
      | .ct => P ds ρ4
      | .bk => QF .nx ρ4
      | .rt d => QF (.rt d) ρ4) ∧ ∀ ρ2, P [] ρ2 → QF .nx ρ2) : SO T C W (.for_ t it b p) ρ QF := by
  obtain ⟨ds, ρ1, h1, P, h2, h3, h4⟩ := h
  obtain ⟨f, ρ2, h5, h6⟩ := forGo_inv (set := setT t) (body := execs opBi0 opMt0 opMu0 T C W b) P QF (fun d ds ρ2 hp => by
    obtain ⟨ρ3, k1, f, ρ4, k2, k3⟩ := h3 d ds ρ2 hp
    exact ⟨ρ3, f, ρ4, k1, k2, k3⟩) h4 ds ρ1 h2
  exact ⟨f, ρ2, by rw [exec]; simp only [h1, Option.bind_eq_bind, Option.bind_some]; exact h5, h6⟩
/-! ### statements -/
theorem so_expr {e : E} (h : EO T C e ρ fun _ ρ1 => QF .nx ρ1) : SO T C W (.expr e p) ρ QF := by
  obtain ⟨x, ρ1, h1, h2⟩ := h
  exact ⟨_, _, by rw [exec]; simp only [h1, Option.bind_eq_bind, Option.bind_some, Option.pure_def], h2⟩
theorem so_asg {t : Tg} {e : E} (h : EO T C e ρ fun d ρ1 => ∃ ρ2, setT t d ρ1 = some ρ2 ∧ QF .nx ρ2) : SO T C W (.asg t e p) ρ QF := by
  obtain ⟨x, ρ1, h1, ρ2, h2, h3⟩ := h
  exact ⟨_, _, by rw [exec]; simp only [h1, h2, Option.bind_eq_bind, Option.bind_some, Option.pure_def], h3⟩
theorem so_asgC {t : TgN} {e : E} (h : EO T C e ρ fun d ρ1 => QF .nx (ρ1.set t.i (some d))) : SO T C W (.asgC t e p) ρ QF := by
  obtain ⟨x, ρ1, h1, h2⟩ := h
  exact ⟨_, _, by rw [exec]; simp only [h1, Option.bind_eq_bind, Option.bind_some, Option.pure_def], h2⟩
theorem so_par {t u : TgN} {a b : E} {kt k2 : Nat} {pt pt2 : Pos} (h : EO T C a ρ fun x ρ1 => EO T C b ρ1 fun y ρ2 => QF .nx ((ρ2.set t.i (some x)).set u.i (some y))) : SO T C W (.par t u a b kt pt k2 pt2 p) ρ QF := by
  obtain ⟨x, ρ1, h1, y, ρ2, h2, h3⟩ := h
  exact ⟨_, _, by rw [exec]; simp only [h1, h2, Option.bind_eq_bind, Option.bind_some, Option.pure_def], h3⟩
theorem so_aug {op : Operator} {t : TgN} {e : E} {i : Int} (h0 : ρ[t.i]? = some (some (.int i))) (h : EO T C e ρ fun y ρ1 => ∃ r, augI op i y = some r ∧ QF .nx (ρ1.set t.i (some r))) : SO T C W (.aug op t e p) ρ QF := by
  obtain ⟨y, ρ1, h1, r, h2, h3⟩ := h
  exact ⟨_, _, by rw [exec]; dsimp only; rw [h0]; simp only [h1, h2, Option.bind_eq_bind, Option.bind_some, Option.pure_def], h3⟩
theorem so_setx {t : TgN} {i e : E} {ps : Pos} (h : EO T C e ρ fun v ρ1 => ∃ x, ρ1[t.i]? = some (some x) ∧ EO T C i (ρ1.set t.i none) fun k ρ2 => ∃ x', setxD x k v = some x' ∧ QF .nx (ρ2.set t.i (some x'))) : SO T C W (.setx t i e ps p) ρ QF := by
  obtain ⟨v, ρ1, h1, x, h2, k, ρ2, h3, x', h4, h5⟩ := h
  exact ⟨_, _, by rw [exec]; simp only [h1, h2, h3, h4, Option.bind_eq_bind, Option.bind_some, Option.pure_def], h5⟩
theorem so_ret {e : E} (h : EO T C e ρ fun d ρ1 => QF (.rt d) ρ1) : SO T C W (.ret e p) ρ QF := by
  obtain ⟨x, ρ1, h1, h2⟩ := h
  exact ⟨_, _, by rw [exec]; simp only [h1, Option.bind_eq_bind, Option.bind_some, Option.pure_def], h2⟩
theorem so_ite {c : E} {a b : Ss} (h : EO T C c ρ fun x ρ1 => ∃ k, truD x = some k ∧ if k = true then SSO T C W a ρ1 QF else SSO T C W b ρ1 QF) : SO T C W (.ite c a b p) ρ QF := by
  obtain ⟨x, ρ1, h1, k, h2, h3⟩ := h
  cases k with
  | true =>
    obtain ⟨f, ρ2, h4, h5⟩ := (show SSO T C W a ρ1 QF from h3)
    exact ⟨f, ρ2, by rw [exec]; simp only [h1, h2, Option.bind_eq_bind, Option.bind_some, if_pos]; exact h4, h5⟩
  | false =>
    obtain ⟨f, ρ2, h4, h5⟩ := (show SSO T C W b ρ1 QF from h3)
    exact ⟨f, ρ2, by rw [exec]; simp only [h1, h2, Option.bind_eq_bind, Option.bind_some, Bool.false_eq_true, if_false]; exact h4, h5⟩
theorem so_for {t : Tg} {it : It} {b : Ss} (h : EIO T C it ρ fun ds ρ1 => ∃ f ρ2, forGo (setT t) (execs opBi0 opMt0 opMu0 T C W b) ds ρ1 = some (f, ρ2) ∧ QF f ρ2) : SO T C W (.for_ t it b p) ρ QF := by
  obtain ⟨ds, ρ1, h1, f, ρ2, h2, h3⟩ := h
  exact ⟨_, _, by rw [exec]; simp only [h1, Option.bind_eq_bind, Option.bind_some]; exact h2, h3⟩
theorem sso_nil (q : QF .nx ρ) : SSO T C W .nil ρ QF := ⟨_, _, by rw [execs], q⟩
theorem sso_cons {s : S} {ss : Ss} (h : SO T C W s ρ fun f ρ1 => match f with
    | .nx => SSO T C W ss ρ1 QF
    | f => QF f ρ1) : SSO T C W (.cons s ss) ρ QF := by
  obtain ⟨f, ρ1, h1, h2⟩ := h
  cases f with
  | nx =>
    obtain ⟨g, ρ2, h3, h4⟩ := (show SSO T C W ss ρ1 QF from h2)
    exact ⟨g, ρ2, by rw [execs]; simp only [h1, Option.bind_eq_bind, Option.bind_some]; exact h3, h4⟩
  | bk => exact ⟨_, ρ1, by rw [execs]; simp only [h1, Option.bind_eq_bind, Option.bind_some], h2⟩
  | ct => exact ⟨_, ρ1, by rw [execs]; simp only [h1, Option.bind_eq_bind, Option.bind_some], h2⟩
  | rt d => exact ⟨_, ρ1, by rw [execs]; simp only [h1, Option.bind_eq_bind, Option.bind_some], h2⟩
/-- a def -/
theorem run_of {f : Df} {ds : List D} {R : D → List (Nat × Option D) → Prop} (hl : ds.length = f.np) (h : SSO T C W f.body (ds.map some ++ List.replicate (f.N.length - f.np) none) fun g ρ => match g with
    | .nx => R .non (outsOf f.ios ρ)
    | .rt d => R d (outsOf f.ios ρ)
    | _ => False) : ∃ r outs, runFn opBi0 opMt0 opMu0 T W C f ds = some (r, outs) ∧ R r outs := by
  obtain ⟨g, ρ, h1, h2⟩ := h
  unfold runFn
  rw [if_pos hl, h1]
  cases g with
  | nx => exact ⟨_, _, rfl, h2⟩
  | rt d => exact ⟨_, _, rfl, h2⟩
  | bk => exact h2.elim
  | ct => exact h2.elim
end
end VK

set_option Elab.async false
set_option linter.all false
set_option maxRecDepth 100000
namespace VK
open PySem PySem.Spec PyProof.Rows L2
/-! ### data, in plain words -/
theorem sizeLine_val : sizeLine = 16777216 := sizeLine_eq
theorem line_ge {n : Nat} (h : n ≤ 16777216) : n ≤ sizeLine := by rw [sizeLine_eq]; exact h
def okS_ (z : Str) : Prop := PyData.strOk z = true
theorem canLay_str (z : Str) : (toPy (.str z)).canLay0 = PyData.strOk z := by simp [toPy, PyData.canLay0]
/-- data that == reads: depth at most n -/
def Dat (n : Nat) (d : D) : Prop := (toPy d).canLay0 = true ∧ (toPy d).depth ≤ n
theorem Dat.shaped {n : Nat} {d : D} (h : Dat n d) (hn : n ≤ 64) : SeqAt.shaped (toPy d) = true := by
  unfold SeqAt.shaped
  rw [h.1, decide_eq_true (Nat.le_trans h.2 hn)]; rfl
theorem Dat.mono {n m : Nat} {d : D} (h : Dat n d) (hn : n ≤ m) : Dat m d := ⟨h.1, Nat.le_trans h.2 hn⟩
theorem dat_int (i : Int) : Dat 0 (.int i) := ⟨by simp [toPy, PyData.canLay0], by simp [toPy, PyData.depth]⟩
theorem dat_bl (b : Bool) : Dat 0 (.bl b) := ⟨by simp [toPy, PyData.canLay0], by simp [toPy, PyData.depth]⟩
theorem dat_non : Dat 0 .non := ⟨by simp [toPy, PyData.canLay0], by simp [toPy, PyData.depth]⟩
theorem dat_str {z : Str} (h : PyData.strOk z = true) : Dat 0 (.str z) := ⟨by rw [canLay_str]; exact h, by simp [toPy, PyData.depth]⟩
theorem dats {n : Nat} : ∀ {ds : List D}, (∀ d ∈ ds, Dat n d) → PyData.canLayAll0 (toPyL ds) = true ∧ PyData.depthAll (toPyL ds) ≤ n
  | [], _ => ⟨by simp [toPyL, PyData.canLayAll0], by simp [toPyL, PyData.depthAll]⟩
  | d :: ds, h => by
    obtain ⟨h1, h2⟩ := dats (n := n) (ds := ds) fun d hd => h d (List.mem_cons_of_mem _ hd)
    have hd := h d List.mem_cons_self
    rw [toPyL, PyData.canLayAll0, PyData.depthAll, hd.1, h1]
    exact ⟨rfl, Nat.max_le.mpr ⟨hd.2, h2⟩⟩
theorem dat_lst {n : Nat} {o : Ow} {ds : List D} (h : ∀ d ∈ ds, Dat n d) : Dat (n + 1) (.lst o ds) := by
  obtain ⟨h1, h2⟩ := dats h
  exact ⟨by rw [toPy, PyData.canLay0]; exact h1, by rw [toPy, PyData.depth]; omega⟩
theorem dat_tup {n : Nat} {ds : List D} (h : ∀ d ∈ ds, Dat n d) : Dat (n + 1) (.tup ds) := by
  obtain ⟨h1, h2⟩ := dats h
  exact ⟨by rw [toPy, PyData.canLay0]; exact h1, by rw [toPy, PyData.depth]; omega⟩
theorem eqD_dat {n m : Nat} {a b : D} (ha : Dat n a) (hb : Dat m b) (hn : n ≤ 64) (hm : m ≤ 64) : eqD a b = some (PyData.eqv (toPy a) (toPy b)) := by
  unfold eqD
  rw [if_pos ⟨ha.shaped hn, hb.shaped hm⟩]
theorem eqv_nil {o u : Ow} (ds : List D) : PyData.eqv (toPy (.lst o ds)) (toPy (.lst u [])) = ds.isEmpty := by
  cases ds with
  | nil => simp [toPy, toPyL, PyData.eqv, PyData.eqvAll]
  | cons d ds => simp [toPy, toPyL, PyData.eqv, PyData.eqvAll]
/-- xs == [] -/
theorem eq_nil {n : Nat} {o u : Ow} {ds : List D} (h : ∀ d ∈ ds, Dat n d) (hn : n ≤ 63) : opC .Eq (.lst o ds) (.lst u []) = some ds.isEmpty := by
  show eqD _ _ = _
  rw [eqD_dat (dat_lst h) (dat_lst (n := 0) (ds := []) fun _ h => nomatch h) (by omega) (by omega), eqv_nil]
theorem strOk_iff {z : Str} : PyData.strOk z = true ↔ ∀ c ∈ z.cps.toList, c < 0x110000 := by
  unfold PyData.strOk
  rw [Array.all_eq_true_iff_forall_mem]
  constructor
  · intro h c hc
    have := h c (by simpa using hc)
    simpa using this
  · intro h c hc
    have := h c (by simpa using hc)
    simpa using this
theorem strOk_one {z : Str} {c : Nat} (h : PyData.strOk z = true) (hc : c ∈ z.cps.toList) : PyData.strOk ⟨#[c]⟩ = true := strOk_iff.mpr fun d hd => by
  have : d = c := by simpa using hd
  subst this
  exact strOk_iff.mp h d hc
theorem filt_nil {α : Type} (b : α → Bool) : ∀ ds : List α, (ds.filter b).isEmpty = ds.all fun d => !b d
  | [] => rfl
  | d :: ds => by
    rw [List.filter_cons, List.all_cons, ← filt_nil b ds]
    cases b d <;> simp
theorem one_in {c : Nat} {s : Str} : (s.cps.toList.any fun c' => decide ((⟨#[c]⟩ : Str) = ⟨#[c']⟩)) = decide (c ∈ s.cps.toList) := by
  rw [Bool.eq_iff_iff, List.any_eq_true, decide_eq_true_iff]
  constructor
  · rintro ⟨c', h1, h2⟩
    have h2 : (⟨#[c]⟩ : Str) = ⟨#[c']⟩ := of_decide_eq_true h2
    have : c = c' := by injection h2 with h2; simpa using h2
    rw [this]; exact h1
  · exact fun h => ⟨c, h, decide_eq_true rfl⟩
/-- what [sign for sign in text if sign not in signs] looks for -/
def outB (s : Str) : D → Bool
  | .str x => !(s.cps.toList.any fun c => decide (x = ⟨#[c]⟩))
  | _ => false
theorem outB_one {c : Nat} {s : Str} : outB s (.str ⟨#[c]⟩) = !decide (c ∈ s.cps.toList) := by
  show (!(s.cps.toList.any fun c' => decide ((⟨#[c]⟩ : Str) = ⟨#[c']⟩))) = _
  rw [one_in]
theorem out_nil {z s : Str} : (((z.cps.toList.map fun c => D.str ⟨#[c]⟩).filter (outB s)).map id).isEmpty = z.cps.toList.all fun c => decide (c ∈ s.cps.toList) := by
  rw [List.map_id, filt_nil, List.all_map]
  congr 1
  funext c
  show (!outB s (.str ⟨#[c]⟩)) = _
  rw [outB_one, Bool.not_not]
theorem ltc_int {f : PyData → PyData → Bool} {a b : Int} : ltcD f (.int a) (.int b) = some (f (.int a) (.int b)) := by
  unfold ltcD
  rw [if_pos ⟨(dat_int a).shaped (by decide), (dat_int b).shaped (by decide), by simp [toPy, PySem.W.alike], rfl⟩]
  rfl
theorem lt_int {a b : Int} : opC .Lt (.int a) (.int b) = some (decide (a < b)) := by
  show ltcD _ _ _ = _
  rw [ltc_int, PySem.W.dataLt_int]
theorem gt_int {a b : Int} : opC .Gt (.int a) (.int b) = some (decide (b < a)) := by
  show ltcD (fun a b => PySem.W.dataLt b a) _ _ = _
  rw [ltc_int, PySem.W.dataLt_int]
theorem le_int {a b : Int} : opC .LtE (.int a) (.int b) = some (decide (a ≤ b)) := by
  show ltcD (fun a b => !PySem.W.dataLt b a) _ _ = _
  rw [ltc_int, PySem.W.dataLt_int]
  congr 1
  rw [Bool.eq_iff_iff]; simp
theorem ge_int {a b : Int} : opC .GtE (.int a) (.int b) = some (decide (b ≤ a)) := by
  show ltcD (fun a b => !PySem.W.dataLt a b) _ _ = _
  rw [ltc_int, PySem.W.dataLt_int]
  congr 1
  rw [Bool.eq_iff_iff]; simp
theorem ltc_str {f : PyData → PyData → Bool} {a b : Str} (ha : PyData.strOk a = true) (hb : PyData.strOk b = true) : ltcD f (.str a) (.str b) = some (f (.str a) (.str b)) := by
  unfold ltcD
  rw [if_pos ⟨(dat_str ha).shaped (by decide), (dat_str hb).shaped (by decide), by simp [toPy, PySem.W.alike], rfl⟩]
  rfl
theorem ge_str {a b : Str} (ha : PyData.strOk a = true) (hb : PyData.strOk b = true) : opC .GtE (.str a) (.str b) = some (!decide (a.cps.toList < b.cps.toList)) := by
  show ltcD (fun a b => !PySem.W.dataLt a b) _ _ = _
  rw [ltc_str ha hb, PySem.W.dataLt_str]
theorem eq_int {a b : Int} : opC .Eq (.int a) (.int b) = some (a == b) := by
  show eqD _ _ = _
  rw [eqD_dat (dat_int a) (dat_int b) (by decide) (by decide)]
  simp [toPy, PyData.eqv]
theorem eq_str {a b : Str} (ha : PyData.strOk a = true) (hb : PyData.strOk b = true) : opC .Eq (.str a) (.str b) = some (a == b) := by
  show eqD _ _ = _
  rw [eqD_dat (dat_str ha) (dat_str hb) (by decide) (by decide)]
  simp [toPy, PyData.eqv]
theorem len_str {z : Str} (h : z.length ≤ sizeLine) : opBi0 .len [.str z] = some (.int z.length) := by
  show lenD (.str z) = _
  unfold lenD
  dsimp only
  rw [if_pos h]
theorem ix_str0 {z : Str} {c : Nat} {cs : List Nat} (h : z.cps.toList = c :: cs) (hz : z.length ≤ sizeLine) : opIx (.str z) (.int 0) = some (.str ⟨#[c]⟩) := by
  unfold opIx
  dsimp only
  rw [if_pos hz, h]
  have : L2.atI (c :: cs) 0 = some c := L2.atI_nat (j := 0) rfl
  rw [this]
  rfl
theorem len_cps (z : Str) : z.length = z.cps.toList.length := by rw [Array.length_toList]; rfl
theorem bits_le {i : Int} {n : Nat} (h : i.natAbs < 2 ^ n) : Builtin.Int.intBits i ≤ n := by
  unfold Builtin.Int.intBits
  split
  · omega
  · rename_i h0
    have h0 : i.natAbs ≠ 0 := by
      intro e
      apply h0
      simpa using Int.natAbs_eq_zero.mp e
    have := (Nat.log2_lt h0).mpr h
    omega
/-- products of numbers that are not enormous -/
theorem mul_ok {i j : Int} {n m : Nat} (hi : i.natAbs < 2 ^ n) (hj : j.natAbs < 2 ^ m) (h : n + m ≤ 134217728) : opB .Mult (.int i) (.int j) = some (.int (i * j)) := by
  have h1 := bits_le hi
  have h2 := bits_le hj
  show (if (Builtin.Int.intBits i : Int) + (Builtin.Int.intBits j : Int) ≤ 134217728 then some (D.int (i * j)) else none) = _
  rw [if_pos (by omega)]
theorem mulO_ok {i j : Int} {Q : D → Prop} (n m : Nat) (hi : i.natAbs < 2 ^ n) (hj : j.natAbs < 2 ^ m) (h : n + m ≤ 134217728) (q : Q (.int (i * j))) : MulO (.int i) (.int j) Q := ⟨_, mul_ok hi hj h, q⟩
theorem mul_lt {i j : Int} {n m : Nat} (hi : i.natAbs < 2 ^ n) (hj : j.natAbs < 2 ^ m) : (i * j).natAbs < 2 ^ (n + m) := by
  rw [Int.natAbs_mul, Nat.pow_add]
  exact Nat.mul_lt_mul'' hi hj
theorem mod_ok {i j : Int} (h : 0 < j) : opB .Mod (.int i) (.int j) = some (.int (i % j)) := by
  show (if 0 < j then some (D.int (i % j)) else none) = _
  rw [if_pos h]
theorem modO_ok {i j : Int} {Q : D → Prop} (h : 0 < j) (q : Q (.int (i % j))) : DivO .Mod (.int i) (.int j) Q := ⟨_, mod_ok h, q⟩
theorem divO_ok {i j : Int} {Q : D → Prop} (h : 0 < j) (h2 : j.natAbs.log2 < 9000) (q : Q (.int (i / j))) : DivO .FloorDiv (.int i) (.int j) Q := ⟨_, by
  show (if 0 < j ∧ j.natAbs.log2 < 9000 then some (D.int (i / j)) else none) = _
  rw [if_pos ⟨h, h2⟩], q⟩
theorem powO_ok {i j : Int} {Q : D → Prop} (h : 0 ≤ j ∧ (Builtin.Int.intBits i : Int) * j ≤ 134217728) (q : Q (.int (i ^ j.toNat))) : PowO (.int i) (.int j) Q := ⟨_, by
  show (if 0 ≤ j ∧ (Builtin.Int.intBits i : Int) * j ≤ 134217728 then some (D.int (i ^ j.toNat)) else none) = _
  rw [if_pos h], q⟩
theorem frzL_ints : ∀ ns : List Int, frzL (ns.map .int) = ns.map .int
  | [] => rfl
  | i :: ns => by rw [List.map_cons, frzL, frzL_ints ns]; rfl
theorem frz_ints (ns : List Int) : frz (.lst .ext (ns.map .int)) = .lst .ext (ns.map .int) := by
  rw [frz, frzL_ints]; rfl
theorem intsD_map : ∀ ns : List Int, intsD (ns.map .int) = some ns
  | [] => rfl
  | i :: ns => by rw [List.map_cons, intsD, intsD_map ns]; rfl
theorem ix_nat {o : Ow} {xs : List D} {j : Nat} {d : D} (h : xs[j]? = some d) : opIx (.lst o xs) (.int (j : Int)) = some d := L2.atI_nat h
theorem sum_ints {o : Ow} (l : List Int) : opBi0 .sum [.lst o (l.map .int)] = some (.int l.sum) := by
  show (intsD (l.map .int)).map _ = _
  rw [intsD_map]; rfl
theorem cut_ints (ns : List Int) (m n : Nat) : List.take n (List.drop m (ns.map D.int)) = ((ns.drop m).take n).map D.int := by rw [List.map_take, List.map_drop]
theorem sm_of {i : Int} {n : Nat} (h : i.natAbs < 2 ^ n) (hn : n ≤ 1048576) : Builtin.Int.intBits i ≤ 1048576 := Nat.le_trans (bits_le h) hn
theorem cmp_lt {a b : Int} {Q : Bool → Prop} (q : Q (decide (a < b))) : CmpO .Lt (.int a) (.int b) Q := ⟨_, lt_int, q⟩
theorem cmp_le {a b : Int} {Q : Bool → Prop} (q : Q (decide (a ≤ b))) : CmpO .LtE (.int a) (.int b) Q := ⟨_, le_int, q⟩
theorem cmp_gt {a b : Int} {Q : Bool → Prop} (q : Q (decide (b < a))) : CmpO .Gt (.int a) (.int b) Q := ⟨_, gt_int, q⟩
theorem cmp_ge {a b : Int} {Q : Bool → Prop} (q : Q (decide (b ≤ a))) : CmpO .GtE (.int a) (.int b) Q := ⟨_, ge_int, q⟩
theorem cmp_eq {a b : Int} {Q : Bool → Prop} (q : Q (a == b)) : CmpO .Eq (.int a) (.int b) Q := ⟨_, eq_int, q⟩
end VK
namespace VK
open PySem PySem.Spec PyProof.Rows L2
structure BiO (b : Bi) (ds : List D) (Q : D → Prop) : Prop where
  ex : ∃ r, opBi0 b ds = some r ∧ Q r
theorem eo_repr {T : Tab} {C : CallF} {es : Es} {ρ : Rho} {Q : D → Rho → Prop} {pn p : Pos} (h : ESO T C es ρ fun ds ρ1 => BiO .repr ds fun r => Q r ρ1) : EO T C (.bi .repr es pn p) ρ Q := by
  obtain ⟨ds, ρ1, h1, r, h2, h3⟩ := h
  exact eo_bi ⟨ds, ρ1, h1, r, h2, h3⟩
theorem eo_sorted {T : Tab} {C : CallF} {es : Es} {ρ : Rho} {Q : D → Rho → Prop} {pn p : Pos} (h : ESO T C es ρ fun ds ρ1 => BiO .sorted ds fun r => Q r ρ1) : EO T C (.bi .sorted es pn p) ρ Q := by
  obtain ⟨ds, ρ1, h1, r, h2, h3⟩ := h
  exact eo_bi ⟨ds, ρ1, h1, r, h2, h3⟩
end VK
namespace VK
open PySem PySem.Spec PyProof.Rows L2
theorem cmp_is {x y : D} {r : Bool} {Q : Bool → Prop} (h : isD x y = some r) (q : Q r) : CmpO .Is x y Q := ⟨r, h, q⟩
theorem cmp_isn {x y : D} {r : Bool} {Q : Bool → Prop} (h : isD x y = some r) (q : Q (!r)) : CmpO .IsNot x y Q := ⟨!r, by
  show (isD x y).map _ = _
  rw [h]; rfl, q⟩
theorem cmp_in1 {c : Nat} {y : Str} {Q : Bool → Prop} (q : Q (decide (c ∈ y.cps.toList))) : CmpO .In (.str ⟨#[c]⟩) (.str y) Q := ⟨_, rfl, q⟩
theorem cmp_nin1 {c : Nat} {y : Str} {Q : Bool → Prop} (q : Q (!decide (c ∈ y.cps.toList))) : CmpO .NotIn (.str ⟨#[c]⟩) (.str y) Q := ⟨_, rfl, q⟩
theorem cmp_eqs {a b : Str} {Q : Bool → Prop} (ha : PyData.strOk a = true) (hb : PyData.strOk b = true) (q : Q (a == b)) : CmpO .Eq (.str a) (.str b) Q := ⟨_, eq_str ha hb, q⟩
end VK
namespace VK
open PySem PySem.Spec PyProof.Rows L2
/-! ### calls -/
theorem coN {c : Option (D × List (Nat × Option D))} {v : D} {Q : D → List (Nat × Option D) → Prop} (h : ∃ r outs, c = some (r, outs) ∧ r = v ∧ outs = []) (q : Q v []) : ∃ r outs, c = some (r, outs) ∧ Q r outs := by
  obtain ⟨r, outs, h1, rfl, rfl⟩ := h
  exact ⟨_, _, h1, q⟩
theorem coG {c : Option (D × List (Nat × Option D))} {R G : D → Prop} {Q : D → List (Nat × Option D) → Prop} (h : ∃ r outs, c = some (r, outs) ∧ R r ∧ ∃ g, outs = [(0, some g)] ∧ G g) (q : ∀ r g, R r → G g → Q r [(0, some g)]) : ∃ r outs, c = some (r, outs) ∧ Q r outs := by
  obtain ⟨r, outs, h1, h2, g, rfl, h3⟩ := h
  exact ⟨_, _, h1, q r g h2 h3⟩
theorem coP {c : Option (D × List (Nat × Option D))} {R : D → Prop} {Q : D → List (Nat × Option D) → Prop} (h : ∃ r outs, c = some (r, outs) ∧ R r ∧ outs = []) (q : ∀ r, R r → Q r []) : ∃ r outs, c = some (r, outs) ∧ Q r outs := by
  obtain ⟨r, outs, h1, h2, rfl⟩ := h
  exact ⟨_, _, h1, q r h2⟩
end VK
namespace VK
open PySem PySem.Spec PyProof.Rows L2
/-! ### short lists -/
def short : Nat → List D → Bool
  | _, [] => true
  | 0, _ :: _ => false
  | n + 1, _ :: ds => short n ds
theorem short_len : ∀ {n : Nat} {ds : List D}, short n ds = true → ds.length ≤ n
  | _, [], _ => Nat.zero_le _
  | 0, _ :: _, h => by cases h
  | n + 1, d :: ds, h => Nat.succ_le_succ (short_len (n := n) h)
theorem short_le {ds : List D} (h : short 300 ds = true) : ds.length ≤ sizeLine := line_ge (Nat.le_trans (short_len h) (by decide))
end VK
namespace VK
open PySem PySem.Spec PyProof.Rows L2
theorem append_ok {ys : List D} {y : D} (h : ys.length < 16777216) : opMu0 .append (.lst .own ys) [y] = some (.non, .lst .own (ys ++ [y])) := by
  show (if ys.length < sizeLine then _ else _) = _
  rw [if_pos (by rw [sizeLine_eq]; exact h)]
end VK

set_option Elab.async false
set_option linter.all false
set_option maxRecDepth 100000
namespace VK
open PySem PySem.Spec PyProof.Rows L2
/-! ### the signs of shown data -/
theorem chr_ok (c : Char) : c.toNat < 0x110000 := by
  have h : c.val.toNat < 0xd800 ∨ (0xdfff < c.val.toNat ∧ c.val.toNat < 0x110000) := c.valid
  show c.val.toNat < _
  omega
theorem ok_ofString (s : String) : PyData.strOk (Str.ofString s) = true := by
  rw [Str.ofString_eq_toList]
  refine strOk_iff.mpr fun c hc => ?_
  obtain ⟨a, _, rfl⟩ := List.mem_map.mp (show c ∈ s.toList.map Char.toNat from by simpa using hc)
  exact chr_ok a
theorem ok_app {a b : Str} (ha : PyData.strOk a = true) (hb : PyData.strOk b = true) : PyData.strOk (a ++ b) = true := strOk_iff.mpr fun c hc => by
  rcases mem_cps_append.mp hc with h | h
  · exact strOk_iff.mp ha c h
  · exact strOk_iff.mp hb c h
theorem ok_join {x : Str} (hx : PyData.strOk x = true) : ∀ {ts : List Str}, (∀ t ∈ ts, PyData.strOk t = true) → PyData.strOk (Str.join x ts) = true
  | [], _ => (show PyData.strOk Str.empty = true from by decide +kernel)
  | [t], h => h t List.mem_cons_self
  | t :: u :: ts, h => by
    show PyData.strOk (t ++ x ++ Str.join x (u :: ts)) = true
    exact ok_app (ok_app (h t List.mem_cons_self) hx) (ok_join hx fun t ht => h t (List.mem_cons_of_mem _ ht))
theorem ok_hex {w c e : Nat} (h : e ∈ List.replicate (w - ((Nat.toDigits 16 c).map Char.toNat).length) 48 ++ (Nat.toDigits 16 c).map Char.toNat) : e < 0x110000 := by
  rcases List.mem_append.mp h with h | h
  · rw [List.eq_of_mem_replicate h]; decide
  · obtain ⟨a, _, rfl⟩ := List.mem_map.mp h
    exact chr_ok a
theorem ok_reprChar {q c : Nat} (hc : c < 0x110000) : ∀ e ∈ Builtin.Str.reprChar q c, e < 0x110000 := by
  intro e he
  unfold Builtin.Str.reprChar at he
  dsimp only at he
  have k : ∀ {a b : Nat} {l : List Nat}, e ∈ [a, b] ++ l → a < 0x110000 → b < 0x110000 → (e ∈ l → e < 0x110000) → e < 0x110000 := by
    intro a b l h ha hb hl
    rcases List.mem_append.mp h with h | h
    · have : e = a ∨ e = b := by simpa using h
      rcases this with rfl | rfl <;> assumption
    · exact hl h
  have k2 : ∀ {a b : Nat}, e ∈ [a, b] → a < 0x110000 → b < 0x110000 → e < 0x110000 := by
    intro a b h ha hb
    have : e = a ∨ e = b := by simpa using h
    rcases this with rfl | rfl <;> assumption
  split at he
  · exact k2 he (by decide) hc
  split at he
  · exact k2 he (by decide) (by decide)
  split at he
  · exact k2 he (by decide) (by decide)
  split at he
  · exact k2 he (by decide) (by decide)
  split at he
  · have : e = c := by simpa using he
    rw [this]; exact hc
  split at he
  · exact k he (by decide) (by decide) ok_hex
  split at he
  · exact k he (by decide) (by decide) ok_hex
  · exact k he (by decide) (by decide) ok_hex
theorem ok_fold (q : Nat) : ∀ (l : List Nat) (acc : Array Nat), (∀ c ∈ l, c < 0x110000) → (∀ c ∈ acc.toList, c < 0x110000) → ∀ c ∈ (l.foldl (fun out c => out ++ (Builtin.Str.reprChar q c).toArray) acc).toList, c < 0x110000
  | [], acc, _, h => h
  | a :: l, acc, h1, h2 => by
    rw [List.foldl_cons]
    refine ok_fold q l _ (fun c hc => h1 c (List.mem_cons_of_mem _ hc)) fun c hc => ?_
    rw [Array.toList_append, List.mem_append] at hc
    rcases hc with hc | hc
    · exact h2 c hc
    · exact ok_reprChar (h1 a List.mem_cons_self) c (by simpa using hc)
theorem ok_reprText {x : Str} (hx : PyData.strOk x = true) : PyData.strOk (reprText x) = true := by
  have hq : PySem.reprQuote x < 0x110000 := by unfold PySem.reprQuote; split <;> decide
  refine strOk_iff.mpr fun c hc => ?_
  have hc : c ∈ ((x.cps.foldl (fun out c => out ++ (Builtin.Str.reprChar (reprQuote x) c).toArray) #[reprQuote x]).push (reprQuote x)).toList := hc
  rw [Array.toList_push, ← Array.foldl_toList, List.mem_append] at hc
  rcases hc with hc | hc
  · exact ok_fold _ _ _ (strOk_iff.mp hx) (fun c hc => by
      have : c = reprQuote x := by simpa using hc
      rw [this]; exact hq) c hc
  · have : c = reprQuote x := by simpa using hc
    rw [this]; exact hq
theorem ok_lit (s : String) : PyData.strOk (s : Str) = true := ok_ofString s
/-! ### data that repr shows -/
structure Rp (n m : Nat) (d : D) : Prop where
  lay : (toPy d).canLay0 = true
  shw : (toPy d).showable = true
  dep : (toPy d).depth ≤ n
  len : (toPy d).shown.length ≤ m
  ok : PyData.strOk (toPy d).shown = true
theorem Rp.dat {n m : Nat} {d : D} (h : Rp n m d) : Dat n d := ⟨h.lay, h.dep⟩
theorem Rp.mono {n m n' m' : Nat} {d : D} (h : Rp n m d) (hn : n ≤ n') (hm : m ≤ m') : Rp n' m' d := ⟨h.lay, h.shw, Nat.le_trans h.dep hn, Nat.le_trans h.len hm, h.ok⟩
theorem rp_non : Rp 0 4 .non := ⟨dat_non.1, by simp [toPy, PyData.showable], dat_non.2, by rw [toPy, PyData.shown_none]; decide +kernel, by rw [toPy, PyData.shown_none]; decide +kernel⟩
theorem rp_bl (b : Bool) : Rp 0 5 (.bl b) := ⟨(dat_bl b).1, by simp [toPy, PyData.showable], (dat_bl b).2, by rw [toPy, PyData.shown_bool]; cases b <;> decide +kernel, by rw [toPy, PyData.shown_bool]; cases b <;> decide +kernel⟩
theorem pow_log {a k : Nat} (hk : k ≤ 500) (h : a < 10 ^ k) : a.log2 < 1920 := by
  by_cases h0 : a = 0
  · subst h0; decide
  · refine (Nat.log2_lt h0).mpr (Nat.lt_of_lt_of_le h (Nat.le_trans (Nat.pow_le_pow_right (by decide) hk) ?_))
    decide +kernel
theorem rp_int {i : Int} (k : Nat) (hk : 0 < k ∧ k ≤ 500) (h : i.natAbs < 10 ^ k) : Rp 0 (k + 1) (.int i) := by
  refine ⟨(dat_int i).1, ?_, (dat_int i).2, ?_, by rw [toPy, PyData.shown_int]; exact ok_ofString _⟩
  · have := pow_log hk.2 h
    simp only [toPy, PyData.showable, decide_eq_true_eq]
    exact this
  · rw [toPy, PyData.shown_int]
    have := int_text_length_le10 hk.1 h
    show (Str.ofString (toString i)).length ≤ _
    rw [PySem.ofString_length]
    exact this
theorem rp_str {z : Str} {k : Nat} (h : PyData.strOk z = true) (hl : z.length ≤ k) : Rp 0 (10 * k + 2) (.str z) := by
  refine ⟨(dat_str h).1, by simp [toPy, PyData.showable], (dat_str h).2, ?_, by rw [toPy, PyData.shown_str]; exact ok_reprText h⟩
  rw [toPy, PyData.shown_str]
  have := PySem.StrLaws.reprText_len z fun c hc => Nat.lt_of_lt_of_le (strOk_iff.mp h c hc) (by decide)
  omega
theorem piled_le {m : Nat} : ∀ {ts : List Str}, (∀ t ∈ ts, t.length ≤ m) → piled ts ≤ ts.length * (m + 2)
  | [], _ => by simp [piled]
  | t :: ts, h => by
    have h1 := piled_le fun t ht => h t (List.mem_cons_of_mem _ ht)
    have h2 := h t List.mem_cons_self
    rw [piled_cons, List.length_cons, Nat.succ_mul]
    omega
theorem join_le {m : Nat} {ts : List Str} (h : ∀ t ∈ ts, t.length ≤ m) : (Str.join ", " ts).length ≤ ts.length * (m + 2) := by
  by_cases h0 : ts = []
  · subst h0; show 0 ≤ _; exact Nat.zero_le _
  · have h1 := join_length_add ts h0
    have h2 := piled_le h
    omega
theorem rps {n m : Nat} : ∀ {ds : List D}, (∀ d ∈ ds, Rp n m d) → PyData.showableAll (toPyL ds) = true ∧ (∀ t ∈ PyData.shownAll (toPyL ds), t.length ≤ m ∧ PyData.strOk t = true) ∧ (PyData.shownAll (toPyL ds)).length = ds.length
  | [], _ => by
    rw [toPyL, PyData.shownAll_nil]
    exact ⟨by simp [PyData.showableAll], fun t ht => (List.not_mem_nil ht).elim, rfl⟩
  | d :: ds, h => by
    obtain ⟨h1, h2, h3⟩ := rps (n := n) (m := m) (ds := ds) fun d hd => h d (List.mem_cons_of_mem _ hd)
    have hd := h d List.mem_cons_self
    rw [toPyL, PyData.shownAll_cons]
    refine ⟨?_, fun t ht => ?_, ?_⟩
    · rw [PyData.showableAll, hd.shw, h1]; rfl
    · rcases List.mem_cons.mp ht with rfl | ht
      · exact ⟨hd.len, hd.ok⟩
      · exact h2 t ht
    · rw [List.length_cons, h3, List.length_cons]
theorem rp_lst {n m k : Nat} {o : Ow} {ds : List D} (h : ∀ d ∈ ds, Rp n m d) (hk : ds.length ≤ k) : Rp (n + 1) (k * (m + 2) + 2) (.lst o ds) := by
  obtain ⟨h1, h2, h3⟩ := rps h
  have hd := dat_lst (o := o) fun d hd => (h d hd).dat
  refine ⟨hd.1, ?_, hd.2, ?_, by rw [toPy, PyData.shown_list]; exact ok_app (ok_app (ok_lit _) (ok_join (ok_lit _) fun t ht => (h2 t ht).2)) (ok_lit _)⟩
  · rw [toPy, PyData.showable]; exact h1
  · rw [toPy, PyData.shown_list, strLen_append, strLen_append]
    have e1 : (((("[" : String)) : Str)).length = 1 := rfl
    have e2 : (((("]" : String)) : Str)).length = 1 := rfl
    have := join_le fun t ht => (h2 t ht).1
    rw [h3] at this
    have := Nat.mul_le_mul_right (m + 2) hk
    omega
theorem rp_tup {n m k : Nat} {ds : List D} (h : ∀ d ∈ ds, Rp n m d) (hk : ds.length ≤ k) : Rp (n + 1) (k * (m + 2) + 3) (.tup ds) := by
  obtain ⟨h1, h2, h3⟩ := rps h
  have hd := dat_tup fun d hd => (h d hd).dat
  refine ⟨hd.1, ?_, hd.2, ?_, by rw [toPy, PyData.shown_tuple]; exact ok_app (ok_app (ok_lit _) (ok_join (ok_lit _) fun t ht => (h2 t ht).2)) (ok_lit _)⟩
  · rw [toPy, PyData.showable]; exact h1
  · rw [toPy, PyData.shown_tuple, strLen_append, strLen_append]
    have e1 : (((("(" : String)) : Str)).length = 1 := rfl
    have e2 : (((if (toPyL ds).length == 1 then ",)" else ")" : String)) : Str).length ≤ 2 := by split <;> decide
    have := join_le fun t ht => (h2 t ht).1
    rw [h3] at this
    have := Nat.mul_le_mul_right (m + 2) hk
    omega
def notDct : D → Bool
  | .dct _ _ => false
  | _ => true
theorem Rp.repr {n m : Nat} {d : D} (h : Rp n m d) (hn : n ≤ 60) (hm : m ≤ 16777216) (hd : notDct d = true) : reprD d = some (.str (toPy d).shown) := by
  have e : reprD d = if (toPy d).canLay0 = true ∧ (toPy d).showable = true ∧ (toPy d).depth ≤ 60 ∧ (toPy d).shown.length ≤ sizeLine then some (.str (toPy d).shown) else none := by
    cases d <;> first | rfl | cases hd
  rw [e, if_pos ⟨h.lay, h.shw, Nat.le_trans h.dep hn, line_ge (Nat.le_trans h.len hm)⟩]
end VK
namespace VK
open PySem PySem.Spec PyProof.Rows L2
/-! ### texts: pieces, in -/
theorem slice_str {z : Str} {lo hi : Option Int} (h : z.length ≤ sizeLine) : sliceD (.str z) lo hi = some (.str (cutS z lo hi)) := by
  show (if z.length ≤ sizeLine then _ else _) = _
  rw [if_pos h]
theorem cut_first (z : Str) : cutS z none (some 1) = ⟨(z.cps.toList.take 1).toArray⟩ := by
  unfold cutS
  have e : HT.sIx z.length z.length (some 1) = min 1 z.length := HT.sIx_nat _ _ 1
  rw [HT.sIx_none, e, len_cps]
  congr 2
  rw [List.drop_zero, Nat.sub_zero]
  exact List.take_eq_take_iff.mpr (by omega)
theorem toPyL_strs : ∀ ws : List Str, toPyL (ws.map .str) = ws.map .str
  | [] => rfl
  | w :: ws => by rw [List.map_cons, toPyL, toPyL_strs ws]; rfl
theorem toPyL_ints : ∀ ws : List Int, toPyL (ws.map .int) = ws.map .int
  | [] => rfl
  | w :: ws => by rw [List.map_cons, toPyL, toPyL_ints ws]; rfl
theorem shaped_strs {o : Ow} {ws : List Str} (h : ∀ w ∈ ws, PyData.strOk w = true) : SeqAt.shaped (toPy (.lst o (ws.map .str))) = true := by
  refine Dat.shaped (n := 1) (dat_lst (n := 0) fun d hd => ?_) (by decide)
  obtain ⟨w, hw, rfl⟩ := List.mem_map.mp hd
  exact dat_str (h w hw)
theorem shaped_ints {o : Ow} (ws : List Int) : SeqAt.shaped (toPy (.lst o (ws.map .int))) = true := by
  refine Dat.shaped (n := 1) (dat_lst (n := 0) fun d hd => ?_) (by decide)
  obtain ⟨w, hw, rfl⟩ := List.mem_map.mp hd
  exact dat_int w
theorem any_strs (w : Str) : ∀ ws : List Str, ((ws.map PyData.str).any fun z => PyData.eqv z (.str w)) = decide (w ∈ ws)
  | [] => rfl
  | u :: ws => by
    rw [List.map_cons, List.any_cons, any_strs w ws, Bool.eq_iff_iff, Bool.or_eq_true, decide_eq_true_iff, decide_eq_true_iff, List.mem_cons]
    simp only [PyData.eqv, beq_iff_eq]
    rw [eq_comm]
theorem any_ints (w : Int) : ∀ ws : List Int, ((ws.map PyData.int).any fun z => PyData.eqv z (.int w)) = decide (w ∈ ws)
  | [] => rfl
  | u :: ws => by
    rw [List.map_cons, List.any_cons, any_ints w ws, Bool.eq_iff_iff, Bool.or_eq_true, decide_eq_true_iff, decide_eq_true_iff, List.mem_cons]
    simp only [PyData.eqv, beq_iff_eq]
    rw [eq_comm]
theorem in_strs {o : Ow} {w : Str} {ws : List Str} (hw : PyData.strOk w = true) (h : ∀ w ∈ ws, PyData.strOk w = true) : inD (.str w) (.lst o (ws.map .str)) = some (decide (w ∈ ws)) := by
  show (if SeqAt.shaped (.str w) = true ∧ SeqAt.shaped (.list (toPyL (ws.map .str))) = true then some ((toPyL (ws.map .str)).any fun z => PyData.eqv z (.str w)) else none) = _
  rw [if_pos ⟨(dat_str hw).shaped (by decide), shaped_strs (o := .own) h⟩, toPyL_strs, any_strs]
theorem in_ints {o : Ow} {w : Int} {ws : List Int} : inD (.int w) (.lst o (ws.map .int)) = some (decide (w ∈ ws)) := by
  show (if SeqAt.shaped (.int w) = true ∧ SeqAt.shaped (.list (toPyL (ws.map .int))) = true then some ((toPyL (ws.map .int)).any fun z => PyData.eqv z (.int w)) else none) = _
  rw [if_pos ⟨(dat_int w).shaped (by decide), shaped_ints (o := .own) ws⟩, toPyL_ints, any_ints]
theorem notin_strs {o : Ow} {w : Str} {ws : List Str} (hw : PyData.strOk w = true) (h : ∀ w ∈ ws, PyData.strOk w = true) : opC .NotIn (.str w) (.lst o (ws.map .str)) = some !(decide (w ∈ ws)) := by
  show (inD _ _).map _ = _
  rw [in_strs hw h]; rfl
theorem notin_ints {o : Ow} {w : Int} {ws : List Int} : opC .NotIn (.int w) (.lst o (ws.map .int)) = some !(decide (w ∈ ws)) := by
  show (inD _ _).map _ = _
  rw [in_ints]; rfl
theorem one_inj {a b : Nat} : (⟨#[a]⟩ : Str) = ⟨#[b]⟩ ↔ a = b := by
  constructor
  · intro h; injection h with h; simpa using h
  · intro h; rw [h]
end VK
namespace VK
open PySem PySem.Spec PyProof.Rows L2
theorem neq_nil {n : Nat} {o u : Ow} {ds : List D} (h : ∀ d ∈ ds, Dat n d) (hn : n ≤ 63) : opC .NotEq (.lst o ds) (.lst u []) = some !ds.isEmpty := by
  show (eqD _ _).map _ = _
  have e : eqD (.lst o ds) (.lst u []) = some ds.isEmpty := eq_nil h hn
  rw [e]; rfl
theorem out_all (b : D → Bool) (ds : List D) : ((ds.filter fun x => !b x).map id).isEmpty = ds.all b := by
  rw [List.map_id, filt_nil]
  congr 1
  funext d
  exact Bool.not_not _
end VK
namespace VK
open PySem PySem.Spec PyProof.Rows L2
/-! ### join -/
theorem strsD_map : ∀ ws : List Str, strsD (ws.map .str) = some ws
  | [] => rfl
  | w :: ws => by rw [List.map_cons, strsD, strsD_map ws]; rfl
theorem sum_lens {k : Nat} : ∀ {ws : List Str}, (∀ w ∈ ws, w.length ≤ k) → (ws.map (·.length)).sum ≤ ws.length * k
  | [], _ => Nat.zero_le _
  | w :: ws, h => by
    have h1 := sum_lens fun w hw => h w (List.mem_cons_of_mem _ hw)
    have h2 := h w List.mem_cons_self
    rw [List.map_cons, List.sum_cons, List.length_cons, Nat.succ_mul]
    omega
theorem join_strs {a : Str} {o : Ow} {ws : List Str} {k : Nat} (h : ∀ w ∈ ws, w.length ≤ k) (hk : ws.length * k + ws.length * a.length ≤ 16777216) : opMt0 .join (.str a) [.lst o (ws.map .str)] = some (.str (Str.join a ws)) := by
  show (strsD (ws.map .str)).bind _ = _
  rw [strsD_map]
  show (if _ then _ else _) = _
  have := sum_lens h
  rw [if_pos (by omega)]
  show some (D.str (Builtin.Str.glued a ws)) = _
  rw [StrLaws.glued_eq_join]
theorem join_len {a : Str} {ws : List Str} {k : Nat} (h : ∀ w ∈ ws, w.length ≤ k) : (Str.join a ws).length ≤ ws.length * k + ws.length * a.length := by
  have := StrLaws.join_length_le a ws
  have := sum_lens h
  omega
end VK

set_option Elab.async false
set_option linter.all false
set_option maxRecDepth 100000
namespace PLAW
open PySem PySem.Spec PyProof.Rows L2 VK
/-! ### the text of law_k01_names_and_lots_of_names -/
def topS (i : Nat) : Stmt := PySem.Challenge.pw_wordhall_k01_names_and_lots_of_names.main.body.getD i (.Pass ⟨0, 0, 0, 0⟩)
def d0 : Df := { nm := "is_signs", N := ["value", "signs", "sign"], np := 2, sc := defScope (topS 4), ios := [], body :=
    (.cons (.ret (.and_ (.cons (.isi (.cp 0 "value" ⟨6, 22, 6, 27⟩) (.one .str ⟨6, 29, 6, 32⟩) ⟨6, 11, 6, 21⟩ ⟨6, 11, 6, 33⟩) (.cons (.cmp PySem.CmpOp.Eq (.lc (.cp 2 "sign" ⟨6, 39, 6, 43⟩) (.nm ⟨2, "sign", ⟨6, 48, 6, 52⟩⟩) (.any (.cp 0 "value" ⟨6, 56, 6, 61⟩)) (.yes (.cmp PySem.CmpOp.NotIn (.cp 2 "sign" ⟨6, 65, 6, 69⟩) (.cp 1 "signs" ⟨6, 77, 6, 82⟩) ⟨6, 65, 6, 82⟩)) { kind := PySem.ScopeKind.function, names := [((PySem.Str.ofString ".0"), PySem.NameKind.local), ((PySem.Str.ofString "sign"), PySem.NameKind.local), ((PySem.Str.ofString "signs"), PySem.NameKind.free)], isGenerator := false, isCoroutine := false, more := [] } [("sign", 2)] ⟨6, 38, 6, 83⟩) (.lst .nil ⟨6, 87, 6, 89⟩) ⟨6, 38, 6, 89⟩) .nil)) ⟨6, 11, 6, 89⟩) ⟨6, 4, 6, 89⟩)
    .nil) }
def d1 : Df := { nm := "is_name", N := ["value"], np := 1, sc := defScope (topS 5), ios := [], body :=
    (.cons (.ret (.and_ (.cons (.call 0 "is_signs" (.cons (.cp 0 "value" ⟨8, 20, 8, 25⟩) (.cons (.bin PySem.Operator.Add (.glb "SMALL" ⟨8, 27, 8, 32⟩) (.glb "FIGURES" ⟨8, 35, 8, 42⟩) ⟨8, 27, 8, 42⟩) .nil)) ⟨8, 11, 8, 19⟩ ⟨8, 11, 8, 43⟩) (.cons (.chn PySem.CmpOp.Lt PySem.CmpOp.LtE (.cst (PySem.Const.int 0) 0 ⟨8, 48, 8, 49⟩) (.bi .len (.cons (.cp 0 "value" ⟨8, 56, 8, 61⟩) .nil) ⟨8, 52, 8, 55⟩ ⟨8, 52, 8, 62⟩) (.glb "MOST_NAME" ⟨8, 66, 8, 75⟩) ⟨8, 48, 8, 75⟩) (.cons (.cmp PySem.CmpOp.In (.ix (.cp 0 "value" ⟨8, 81, 8, 86⟩) (.cst (PySem.Const.int 0) 0 ⟨8, 87, 8, 88⟩) ⟨8, 81, 8, 89⟩) (.glb "SMALL" ⟨8, 93, 8, 98⟩) ⟨8, 81, 8, 98⟩) .nil))) ⟨8, 11, 8, 99⟩) ⟨8, 4, 8, 99⟩)
    .nil) }
def d2 : Df := { nm := "ascends", N := ["items", "at"], np := 1, sc := defScope (topS 6), ios := [], body :=
    (.cons (.ret (.cmp PySem.CmpOp.Eq (.lc (.cp 1 "at" ⟨10, 12, 10, 14⟩) (.nm ⟨1, "at", ⟨10, 19, 10, 21⟩⟩) (.rng2 (.cst (PySem.Const.int 1) 0 ⟨10, 31, 10, 32⟩) (.bi .len (.cons (.cp 0 "items" ⟨10, 38, 10, 43⟩) .nil) ⟨10, 34, 10, 37⟩ ⟨10, 34, 10, 44⟩) ⟨10, 25, 10, 30⟩ ⟨10, 25, 10, 45⟩) (.yes (.cmp PySem.CmpOp.GtE (.ix (.cp 0 "items" ⟨10, 49, 10, 54⟩) (.bin PySem.Operator.Sub (.cp 1 "at" ⟨10, 55, 10, 57⟩) (.cst (PySem.Const.int 1) 0 ⟨10, 60, 10, 61⟩) ⟨10, 55, 10, 61⟩) ⟨10, 49, 10, 62⟩) (.ix (.cp 0 "items" ⟨10, 66, 10, 71⟩) (.cp 1 "at" ⟨10, 72, 10, 74⟩) ⟨10, 66, 10, 75⟩) ⟨10, 49, 10, 75⟩)) { kind := PySem.ScopeKind.function, names := [((PySem.Str.ofString ".0"), PySem.NameKind.local), ((PySem.Str.ofString "at"), PySem.NameKind.local), ((PySem.Str.ofString "items"), PySem.NameKind.free)], isGenerator := false, isCoroutine := false, more := [] } [("at", 1)] ⟨10, 11, 10, 76⟩) (.lst .nil ⟨10, 80, 10, 82⟩) ⟨10, 11, 10, 82⟩) ⟨10, 4, 10, 82⟩)
    .nil) }
def d3 : Df := { nm := "is_names", N := ["value", "item"], np := 1, sc := defScope (topS 7), ios := [], body :=
    (.cons (.ite (.or_ (.cons (.not_ (.isi (.cp 0 "value" ⟨12, 22, 12, 27⟩) (.one .list ⟨12, 29, 12, 33⟩) ⟨12, 11, 12, 21⟩ ⟨12, 11, 12, 34⟩) ⟨12, 7, 12, 34⟩) (.cons (.cmp PySem.CmpOp.NotEq (.lc (.cp 1 "item" ⟨12, 39, 12, 43⟩) (.nm ⟨1, "item", ⟨12, 48, 12, 52⟩⟩) (.any (.cp 0 "value" ⟨12, 56, 12, 61⟩)) (.yes (.not_ (.call 1 "is_name" (.cons (.cp 1 "item" ⟨12, 77, 12, 81⟩) .nil) ⟨12, 69, 12, 76⟩ ⟨12, 69, 12, 82⟩) ⟨12, 65, 12, 82⟩)) { kind := PySem.ScopeKind.function, names := [((PySem.Str.ofString ".0"), PySem.NameKind.local), ((PySem.Str.ofString "item"), PySem.NameKind.local), ((PySem.Str.ofString "is_name"), PySem.NameKind.globalImplicit)], isGenerator := false, isCoroutine := false, more := [] } [("item", 1)] ⟨12, 38, 12, 83⟩) (.lst .nil ⟨12, 87, 12, 89⟩) ⟨12, 38, 12, 89⟩) .nil)) ⟨12, 7, 12, 89⟩) (.cons (.ret (.cst (PySem.Const.bool false) 0 ⟨13, 15, 13, 20⟩) ⟨13, 8, 13, 20⟩)
    .nil) .nil ⟨12, 4, 13, 20⟩)
    (.cons (.ret (.call 2 "ascends" (.cons (.cp 0 "value" ⟨14, 19, 14, 24⟩) .nil) ⟨14, 11, 14, 18⟩ ⟨14, 11, 14, 25⟩) ⟨14, 4, 14, 25⟩)
    .nil)) }
def d4 : Df := { nm := "_law_hash", N := ["seed", "index", "mixed"], np := 2, sc := defScope (topS 9), ios := [], body :=
    (.cons (.asg (.nm ⟨2, "mixed", ⟨17, 4, 17, 9⟩⟩) (.bin PySem.Operator.Mod (.bi .int (.cons (.bin PySem.Operator.Add (.bin PySem.Operator.Add (.bin PySem.Operator.Add (.bin PySem.Operator.Mult (.cp 0 "seed" ⟨17, 16, 17, 20⟩) (.cst (PySem.Const.int 1140671) 0 ⟨17, 23, 17, 30⟩) ⟨17, 16, 17, 30⟩) (.bin PySem.Operator.Mult (.bin PySem.Operator.Mult (.cst (PySem.Const.int 27644437) 0 ⟨17, 33, 17, 41⟩) (.cp 1 "index" ⟨17, 44, 17, 49⟩) ⟨17, 33, 17, 49⟩) (.cp 1 "index" ⟨17, 52, 17, 57⟩) ⟨17, 33, 17, 57⟩) ⟨17, 16, 17, 57⟩) (.bin PySem.Operator.Mult (.cst (PySem.Const.int 131) 0 ⟨17, 60, 17, 63⟩) (.cp 1 "index" ⟨17, 66, 17, 71⟩) ⟨17, 60, 17, 71⟩) ⟨17, 16, 17, 71⟩) (.cst (PySem.Const.int 19) 0 ⟨17, 74, 17, 76⟩) ⟨17, 16, 17, 76⟩) .nil) ⟨17, 12, 17, 15⟩ ⟨17, 12, 17, 77⟩) (.cst (PySem.Const.int 2147483629) 0 ⟨17, 80, 17, 90⟩) ⟨17, 12, 17, 90⟩) ⟨17, 4, 17, 90⟩)
    (.cons (.asg (.nm ⟨2, "mixed", ⟨18, 4, 18, 9⟩⟩) (.bin PySem.Operator.Mod (.bi .int (.cons (.bin PySem.Operator.Add (.bin PySem.Operator.Add (.bin PySem.Operator.Mult (.cp 2 "mixed" ⟨18, 16, 18, 21⟩) (.cp 2 "mixed" ⟨18, 24, 18, 29⟩) ⟨18, 16, 18, 29⟩) (.bin PySem.Operator.Mult (.cst (PySem.Const.int 62089) 0 ⟨18, 32, 18, 37⟩) (.cp 1 "index" ⟨18, 40, 18, 45⟩) ⟨18, 32, 18, 45⟩) ⟨18, 16, 18, 45⟩) (.cst (PySem.Const.int 32416187) 0 ⟨18, 48, 18, 56⟩) ⟨18, 16, 18, 56⟩) .nil) ⟨18, 12, 18, 15⟩ ⟨18, 12, 18, 57⟩) (.cst (PySem.Const.int 2147483587) 0 ⟨18, 60, 18, 70⟩) ⟨18, 12, 18, 70⟩) ⟨18, 4, 18, 70⟩)
    (.cons (.ret (.bin PySem.Operator.Mod (.bi .int (.cons (.bin PySem.Operator.Mult (.cp 2 "mixed" ⟨19, 15, 19, 20⟩) (.cst (PySem.Const.int 48271) 0 ⟨19, 23, 19, 28⟩) ⟨19, 15, 19, 28⟩) .nil) ⟨19, 11, 19, 14⟩ ⟨19, 11, 19, 29⟩) (.cst (PySem.Const.int 2147483647) 0 ⟨19, 32, 19, 42⟩) ⟨19, 11, 19, 42⟩) ⟨19, 4, 19, 42⟩)
    .nil))) }
def d5 : Df := { nm := "_law_cell", N := ["script", "index"], np := 2, sc := defScope (topS 10), ios := [], body :=
    (.cons (.ite (.cmp PySem.CmpOp.Lt (.cp 1 "index" ⟨21, 7, 21, 12⟩) (.bi .len (.cons (.cp 0 "script" ⟨21, 19, 21, 25⟩) .nil) ⟨21, 15, 21, 18⟩ ⟨21, 15, 21, 26⟩) ⟨21, 7, 21, 26⟩) (.cons (.ret (.ix (.cp 0 "script" ⟨22, 15, 22, 21⟩) (.cp 1 "index" ⟨22, 22, 22, 27⟩) ⟨22, 15, 22, 28⟩) ⟨22, 8, 22, 28⟩)
    .nil) .nil ⟨21, 4, 22, 28⟩)
    (.cons (.ret (.bin PySem.Operator.Mod (.bi .sum (.cons (.sl (.cp 0 "script" ⟨23, 15, 23, 21⟩) .no (.yes (.cst (PySem.Const.int 1) 0 ⟨23, 23, 23, 24⟩)) ⟨23, 22, 23, 24⟩ ⟨23, 15, 23, 25⟩) .nil) ⟨23, 11, 23, 14⟩ ⟨23, 11, 23, 26⟩) (.cst (PySem.Const.int 1000003) 0 ⟨23, 29, 23, 36⟩) ⟨23, 11, 23, 36⟩) ⟨23, 4, 23, 36⟩)
    .nil)) }
def d6 : Df := { nm := "_law_generator", N := ["script", "index", "seed"], np := 2, sc := defScope (topS 11), ios := [], body :=
    (.cons (.asg (.nm ⟨2, "seed", ⟨25, 4, 25, 8⟩⟩) (.call 5 "_law_cell" (.cons (.cp 0 "script" ⟨25, 21, 25, 27⟩) (.cons (.cp 1 "index" ⟨25, 29, 25, 34⟩) .nil)) ⟨25, 11, 25, 20⟩ ⟨25, 11, 25, 35⟩) ⟨25, 4, 25, 35⟩)
    (.cons (.ret (.lst (.cons (.bin PySem.Operator.Mod (.bi .int (.cons (.bi .max (.cons (.bin PySem.Operator.Sub (.cp 2 "seed" ⟨26, 20, 26, 24⟩) (.bin PySem.Operator.Pow (.cst (PySem.Const.int 10) 0 ⟨26, 27, 26, 29⟩) (.cst (PySem.Const.int 18) 0 ⟨26, 33, 26, 35⟩) ⟨26, 27, 26, 35⟩) ⟨26, 20, 26, 35⟩) (.cons (.cst (PySem.Const.int 0) 0 ⟨26, 37, 26, 38⟩) .nil)) ⟨26, 16, 26, 19⟩ ⟨26, 16, 26, 39⟩) .nil) ⟨26, 12, 26, 15⟩ ⟨26, 12, 26, 40⟩) (.bin PySem.Operator.Pow (.bin PySem.Operator.Pow (.cst (PySem.Const.int 10) 0 ⟨26, 44, 26, 46⟩) (.cst (PySem.Const.int 60) 0 ⟨26, 50, 26, 52⟩) ⟨26, 44, 26, 52⟩) (.cst (PySem.Const.int 10) 0 ⟨26, 57, 26, 59⟩) ⟨26, 43, 26, 59⟩) ⟨26, 12, 26, 59⟩) (.cons (.bin PySem.Operator.Mod (.bi .int (.cons (.cp 2 "seed" ⟨26, 65, 26, 69⟩) .nil) ⟨26, 61, 26, 64⟩ ⟨26, 61, 26, 70⟩) (.cst (PySem.Const.int 2147483647) 0 ⟨26, 73, 26, 83⟩) ⟨26, 61, 26, 83⟩) (.cons (.bin PySem.Operator.Mult (.cst (PySem.Const.int 1000) 0 ⟨26, 85, 26, 89⟩) (.cp 1 "index" ⟨26, 92, 26, 97⟩) ⟨26, 85, 26, 97⟩) .nil))) ⟨26, 11, 26, 98⟩) ⟨26, 4, 26, 98⟩)
    .nil)) }
def d7 : Df := { nm := "_law_random", N := ["generator", "bound", "drawn", "turn"], np := 2, sc := defScope (topS 12), ios := [0], body :=
    (.cons (.ite (.pur (.cmp PySem.CmpOp.Gt (.ix (.cp 0 "generator" ⟨28, 7, 28, 16⟩) (.cst (PySem.Const.int 0) 0 ⟨28, 17, 28, 18⟩) ⟨28, 7, 28, 19⟩) (.cst (PySem.Const.int 0) 0 ⟨28, 22, 28, 23⟩) ⟨28, 7, 28, 23⟩)) (.cons (.asg (.nm ⟨2, "drawn", ⟨29, 8, 29, 13⟩⟩) (.pur (.bin PySem.Operator.Mod (.bi .int (.cons (.ix (.cp 0 "generator" ⟨29, 20, 29, 29⟩) (.cst (PySem.Const.int 0) 0 ⟨29, 30, 29, 31⟩) ⟨29, 20, 29, 32⟩) .nil) ⟨29, 16, 29, 19⟩ ⟨29, 16, 29, 33⟩) (.cp 1 "bound" ⟨29, 36, 29, 41⟩) ⟨29, 16, 29, 41⟩)) ⟨29, 8, 29, 41⟩)
    (.cons (.setx ⟨0, "generator", ⟨30, 8, 30, 17⟩⟩ (.cst (PySem.Const.int 0) 0 ⟨30, 18, 30, 19⟩) (.pur (.bin PySem.Operator.FloorDiv (.ix (.cp 0 "generator" ⟨30, 23, 30, 32⟩) (.cst (PySem.Const.int 0) 0 ⟨30, 33, 30, 34⟩) ⟨30, 23, 30, 35⟩) (.cp 1 "bound" ⟨30, 39, 30, 44⟩) ⟨30, 23, 30, 44⟩)) ⟨30, 8, 30, 20⟩ ⟨30, 8, 30, 44⟩)
    (.cons (.ret (.mv 2 "drawn" ⟨31, 15, 31, 20⟩) ⟨31, 8, 31, 20⟩)
    .nil))) .nil ⟨28, 4, 31, 20⟩)
    (.cons (.asg (.nm ⟨2, "drawn", ⟨32, 4, 32, 9⟩⟩) (.cst (PySem.Const.int 0) 0 ⟨32, 12, 32, 13⟩) ⟨32, 4, 32, 13⟩)
    (.cons (.for_ (.nm ⟨3, "turn", ⟨33, 8, 33, 12⟩⟩) (.rng1 (.bin PySem.Operator.Add (.cst (PySem.Const.int 1) 0 ⟨33, 22, 33, 23⟩) (.bin PySem.Operator.FloorDiv (.mt .bitLength (.cp 1 "bound" ⟨33, 26, 33, 31⟩) .nil ⟨33, 26, 33, 42⟩ ⟨33, 26, 33, 44⟩) (.cst (PySem.Const.int 30) 0 ⟨33, 48, 33, 50⟩) ⟨33, 26, 33, 50⟩) ⟨33, 22, 33, 50⟩) ⟨33, 16, 33, 21⟩ ⟨33, 16, 33, 51⟩) (.cons (.setx ⟨0, "generator", ⟨34, 8, 34, 17⟩⟩ (.cst (PySem.Const.int 2) 0 ⟨34, 18, 34, 19⟩) (.pur (.bin PySem.Operator.Add (.ix (.cp 0 "generator" ⟨34, 23, 34, 32⟩) (.cst (PySem.Const.int 2) 0 ⟨34, 33, 34, 34⟩) ⟨34, 23, 34, 35⟩) (.cst (PySem.Const.int 1) 0 ⟨34, 38, 34, 39⟩) ⟨34, 23, 34, 39⟩)) ⟨34, 8, 34, 20⟩ ⟨34, 8, 34, 39⟩)
    (.cons (.asg (.nm ⟨2, "drawn", ⟨35, 8, 35, 13⟩⟩) (.pur (.bin PySem.Operator.Add (.bin PySem.Operator.Mult (.cp 2 "drawn" ⟨35, 16, 35, 21⟩) (.cst (PySem.Const.int 2147483587) 0 ⟨35, 24, 35, 34⟩) ⟨35, 16, 35, 34⟩) (.call 4 "_law_hash" (.cons (.ix (.cp 0 "generator" ⟨35, 47, 35, 56⟩) (.cst (PySem.Const.int 1) 0 ⟨35, 57, 35, 58⟩) ⟨35, 47, 35, 59⟩) (.cons (.ix (.cp 0 "generator" ⟨35, 61, 35, 70⟩) (.cst (PySem.Const.int 2) 0 ⟨35, 71, 35, 72⟩) ⟨35, 61, 35, 73⟩) .nil)) ⟨35, 37, 35, 46⟩ ⟨35, 37, 35, 74⟩) ⟨35, 16, 35, 74⟩)) ⟨35, 8, 35, 74⟩)
    .nil)) ⟨33, 4, 35, 74⟩)
    (.cons (.ret (.bin PySem.Operator.Mod (.bi .int (.cons (.cp 2 "drawn" ⟨36, 15, 36, 20⟩) .nil) ⟨36, 11, 36, 14⟩ ⟨36, 11, 36, 21⟩) (.cp 1 "bound" ⟨36, 24, 36, 29⟩) ⟨36, 11, 36, 29⟩) ⟨36, 4, 36, 29⟩)
    .nil)))) }
def d8 : Df := { nm := "_law_pick", N := ["generator", "things"], np := 2, sc := defScope (topS 13), ios := [0], body :=
    (.cons (.ret (.ix (.cp 1 "things" ⟨38, 11, 38, 17⟩) (.call 7 "_law_random" (.cons (.mv 0 "generator" ⟨38, 30, 38, 39⟩) (.cons (.bi .len (.cons (.cp 1 "things" ⟨38, 45, 38, 51⟩) .nil) ⟨38, 41, 38, 44⟩ ⟨38, 41, 38, 52⟩) .nil)) ⟨38, 18, 38, 29⟩ ⟨38, 18, 38, 53⟩) ⟨38, 11, 38, 54⟩) ⟨38, 4, 38, 54⟩)
    .nil) }
def d9 : Df := { nm := "_law_copied", N := ["value", "item", "key"], np := 1, sc := defScope (topS 14), ios := [], body :=
    (.cons (.ite (.isi (.cp 0 "value" ⟨40, 18, 40, 23⟩) (.one .list ⟨40, 25, 40, 29⟩) ⟨40, 7, 40, 17⟩ ⟨40, 7, 40, 30⟩) (.cons (.ret (.lc (.call 9 "_law_copied" (.cons (.cp 1 "item" ⟨41, 28, 41, 32⟩) .nil) ⟨41, 16, 41, 27⟩ ⟨41, 16, 41, 33⟩) (.nm ⟨1, "item", ⟨41, 38, 41, 42⟩⟩) (.any (.cp 0 "value" ⟨41, 46, 41, 51⟩)) .no { kind := PySem.ScopeKind.function, names := [((PySem.Str.ofString ".0"), PySem.NameKind.local), ((PySem.Str.ofString "item"), PySem.NameKind.local), ((PySem.Str.ofString "_law_copied"), PySem.NameKind.globalImplicit)], isGenerator := false, isCoroutine := false, more := [] } [("item", 1)] ⟨41, 15, 41, 52⟩) ⟨41, 8, 41, 52⟩)
    .nil) .nil ⟨40, 4, 41, 52⟩)
    (.cons (.ite (.isi (.cp 0 "value" ⟨42, 18, 42, 23⟩) (.one .tuple ⟨42, 25, 42, 30⟩) ⟨42, 7, 42, 17⟩ ⟨42, 7, 42, 31⟩) (.cons (.ret (.bi .tuple (.cons (.lc (.call 9 "_law_copied" (.cons (.cp 1 "item" ⟨43, 34, 43, 38⟩) .nil) ⟨43, 22, 43, 33⟩ ⟨43, 22, 43, 39⟩) (.nm ⟨1, "item", ⟨43, 44, 43, 48⟩⟩) (.any (.cp 0 "value" ⟨43, 52, 43, 57⟩)) .no { kind := PySem.ScopeKind.function, names := [((PySem.Str.ofString ".0"), PySem.NameKind.local), ((PySem.Str.ofString "item"), PySem.NameKind.local), ((PySem.Str.ofString "_law_copied"), PySem.NameKind.globalImplicit)], isGenerator := false, isCoroutine := false, more := [] } [("item", 1)] ⟨43, 21, 43, 58⟩) .nil) ⟨43, 15, 43, 20⟩ ⟨43, 15, 43, 59⟩) ⟨43, 8, 43, 59⟩)
    .nil) .nil ⟨42, 4, 43, 59⟩)
    (.cons (.ret (.ife (.isi (.cp 0 "value" ⟨44, 81, 44, 86⟩) (.one .dict ⟨44, 88, 44, 92⟩) ⟨44, 70, 44, 80⟩ ⟨44, 70, 44, 93⟩) (.bi .dict (.cons (.lc (.tup (.cons (.cp 2 "key" ⟨44, 18, 44, 21⟩) (.cons (.call 9 "_law_copied" (.cons (.ix (.cp 0 "value" ⟨44, 35, 44, 40⟩) (.cp 2 "key" ⟨44, 41, 44, 44⟩) ⟨44, 35, 44, 45⟩) .nil) ⟨44, 23, 44, 34⟩ ⟨44, 23, 44, 46⟩) .nil)) 0 ⟨44, 17, 44, 47⟩) (.nm ⟨2, "key", ⟨44, 52, 44, 55⟩⟩) (.keys 0 "value" ⟨44, 59, 44, 64⟩) .no { kind := PySem.ScopeKind.function, names := [((PySem.Str.ofString ".0"), PySem.NameKind.local), ((PySem.Str.ofString "key"), PySem.NameKind.local), ((PySem.Str.ofString "_law_copied"), PySem.NameKind.globalImplicit), ((PySem.Str.ofString "value"), PySem.NameKind.free)], isGenerator := false, isCoroutine := false, more := [] } [("key", 2)] ⟨44, 16, 44, 65⟩) .nil) ⟨44, 11, 44, 15⟩ ⟨44, 11, 44, 66⟩) (.cp 0 "value" ⟨44, 99, 44, 104⟩) ⟨44, 11, 44, 104⟩) ⟨44, 4, 44, 104⟩)
    .nil))) }
def d10 : Df := { nm := "_law_exact", N := ["told", "due", "one", "other"], np := 2, sc := defScope (topS 15), ios := [], body :=
    (.cons (.ite (.isi (.cp 1 "due" ⟨46, 18, 46, 21⟩) (.one .list ⟨46, 23, 46, 27⟩) ⟨46, 7, 46, 17⟩ ⟨46, 7, 46, 28⟩) (.cons (.ret (.and_ (.cons (.isi (.cp 0 "told" ⟨47, 26, 47, 30⟩) (.one .list ⟨47, 32, 47, 36⟩) ⟨47, 15, 47, 25⟩ ⟨47, 15, 47, 37⟩) (.cons (.cmp PySem.CmpOp.Eq (.bi .len (.cons (.cp 0 "told" ⟨47, 46, 47, 50⟩) .nil) ⟨47, 42, 47, 45⟩ ⟨47, 42, 47, 51⟩) (.bi .len (.cons (.cp 1 "due" ⟨47, 59, 47, 62⟩) .nil) ⟨47, 55, 47, 58⟩ ⟨47, 55, 47, 63⟩) ⟨47, 42, 47, 63⟩) (.cons (.cmp PySem.CmpOp.NotIn (.cst (PySem.Const.bool false) 0 ⟨47, 69, 47, 74⟩) (.lc (.call 10 "_law_exact" (.cons (.cp 2 "one" ⟨47, 94, 47, 97⟩) (.cons (.cp 3 "other" ⟨47, 99, 47, 104⟩) .nil)) ⟨47, 83, 47, 93⟩ ⟨47, 83, 47, 105⟩) (.tup [⟨2, "one", ⟨47, 110, 47, 113⟩⟩, ⟨3, "other", ⟨47, 115, 47, 120⟩⟩] 0 ⟨47, 110, 47, 120⟩) (.zip (.cp 0 "told" ⟨47, 128, 47, 132⟩) (.cp 1 "due" ⟨47, 134, 47, 137⟩) ⟨47, 124, 47, 127⟩ ⟨47, 124, 47, 138⟩) .no { kind := PySem.ScopeKind.function, names := [((PySem.Str.ofString ".0"), PySem.NameKind.local), ((PySem.Str.ofString "one"), PySem.NameKind.local), ((PySem.Str.ofString "other"), PySem.NameKind.local), ((PySem.Str.ofString "_law_exact"), PySem.NameKind.globalImplicit)], isGenerator := false, isCoroutine := false, more := [] } [("one", 2), ("other", 3)] ⟨47, 82, 47, 139⟩) ⟨47, 69, 47, 139⟩) .nil))) ⟨47, 15, 47, 140⟩) ⟨47, 8, 47, 140⟩)
    .nil) .nil ⟨46, 4, 47, 140⟩)
    (.cons (.ite (.isi (.cp 1 "due" ⟨48, 18, 48, 21⟩) (.one .tuple ⟨48, 23, 48, 28⟩) ⟨48, 7, 48, 17⟩ ⟨48, 7, 48, 29⟩) (.cons (.ret (.and_ (.cons (.isi (.cp 0 "told" ⟨49, 26, 49, 30⟩) (.one .tuple ⟨49, 32, 49, 37⟩) ⟨49, 15, 49, 25⟩ ⟨49, 15, 49, 38⟩) (.cons (.cmp PySem.CmpOp.Eq (.bi .len (.cons (.cp 0 "told" ⟨49, 47, 49, 51⟩) .nil) ⟨49, 43, 49, 46⟩ ⟨49, 43, 49, 52⟩) (.bi .len (.cons (.cp 1 "due" ⟨49, 60, 49, 63⟩) .nil) ⟨49, 56, 49, 59⟩ ⟨49, 56, 49, 64⟩) ⟨49, 43, 49, 64⟩) (.cons (.cmp PySem.CmpOp.NotIn (.cst (PySem.Const.bool false) 0 ⟨49, 70, 49, 75⟩) (.lc (.call 10 "_law_exact" (.cons (.cp 2 "one" ⟨49, 95, 49, 98⟩) (.cons (.cp 3 "other" ⟨49, 100, 49, 105⟩) .nil)) ⟨49, 84, 49, 94⟩ ⟨49, 84, 49, 106⟩) (.tup [⟨2, "one", ⟨49, 111, 49, 114⟩⟩, ⟨3, "other", ⟨49, 116, 49, 121⟩⟩] 0 ⟨49, 111, 49, 121⟩) (.zip (.cp 0 "told" ⟨49, 129, 49, 133⟩) (.cp 1 "due" ⟨49, 135, 49, 138⟩) ⟨49, 125, 49, 128⟩ ⟨49, 125, 49, 139⟩) .no { kind := PySem.ScopeKind.function, names := [((PySem.Str.ofString ".0"), PySem.NameKind.local), ((PySem.Str.ofString "one"), PySem.NameKind.local), ((PySem.Str.ofString "other"), PySem.NameKind.local), ((PySem.Str.ofString "_law_exact"), PySem.NameKind.globalImplicit)], isGenerator := false, isCoroutine := false, more := [] } [("one", 2), ("other", 3)] ⟨49, 83, 49, 140⟩) ⟨49, 70, 49, 140⟩) .nil))) ⟨49, 15, 49, 141⟩) ⟨49, 8, 49, 141⟩)
    .nil) .nil ⟨48, 4, 49, 141⟩)
    (.cons (.ite (.cmp PySem.CmpOp.Is (.cp 1 "due" ⟨50, 7, 50, 10⟩) (.cst PySem.Const.none 0 ⟨50, 14, 50, 18⟩) ⟨50, 7, 50, 18⟩) (.cons (.ret (.cmp PySem.CmpOp.Is (.cp 0 "told" ⟨51, 15, 51, 19⟩) (.cst PySem.Const.none 0 ⟨51, 23, 51, 27⟩) ⟨51, 15, 51, 27⟩) ⟨51, 8, 51, 27⟩)
    .nil) .nil ⟨50, 4, 51, 27⟩)
    (.cons (.ite (.cmp PySem.CmpOp.Is (.cp 1 "due" ⟨52, 7, 52, 10⟩) (.cst (PySem.Const.bool true) 0 ⟨52, 14, 52, 18⟩) ⟨52, 7, 52, 18⟩) (.cons (.ret (.cmp PySem.CmpOp.Is (.cp 0 "told" ⟨53, 15, 53, 19⟩) (.cst (PySem.Const.bool true) 0 ⟨53, 23, 53, 27⟩) ⟨53, 15, 53, 27⟩) ⟨53, 8, 53, 27⟩)
    .nil) .nil ⟨52, 4, 53, 27⟩)
    (.cons (.ite (.cmp PySem.CmpOp.Is (.cp 1 "due" ⟨54, 7, 54, 10⟩) (.cst (PySem.Const.bool false) 0 ⟨54, 14, 54, 19⟩) ⟨54, 7, 54, 19⟩) (.cons (.ret (.cmp PySem.CmpOp.Is (.cp 0 "told" ⟨55, 15, 55, 19⟩) (.cst (PySem.Const.bool false) 0 ⟨55, 23, 55, 28⟩) ⟨55, 15, 55, 28⟩) ⟨55, 8, 55, 28⟩)
    .nil) .nil ⟨54, 4, 55, 28⟩)
    (.cons (.ite (.isi (.cp 1 "due" ⟨56, 18, 56, 21⟩) (.one .int ⟨56, 23, 56, 26⟩) ⟨56, 7, 56, 17⟩ ⟨56, 7, 56, 27⟩) (.cons (.ret (.and_ (.cons (.isi (.cp 0 "told" ⟨57, 26, 57, 30⟩) (.one .int ⟨57, 32, 57, 35⟩) ⟨57, 15, 57, 25⟩ ⟨57, 15, 57, 36⟩) (.cons (.not_ (.isi (.cp 0 "told" ⟨57, 57, 57, 61⟩) (.one .bool ⟨57, 63, 57, 67⟩) ⟨57, 46, 57, 56⟩ ⟨57, 46, 57, 68⟩) ⟨57, 42, 57, 68⟩) (.cons (.cmp PySem.CmpOp.Eq (.cp 0 "told" ⟨57, 75, 57, 79⟩) (.cp 1 "due" ⟨57, 83, 57, 86⟩) ⟨57, 75, 57, 86⟩) .nil))) ⟨57, 15, 57, 87⟩) ⟨57, 8, 57, 87⟩)
    .nil) .nil ⟨56, 4, 57, 87⟩)
    (.cons (.ret (.and_ (.cons (.isi (.cp 0 "told" ⟨58, 22, 58, 26⟩) (.one .str ⟨58, 28, 58, 31⟩) ⟨58, 11, 58, 21⟩ ⟨58, 11, 58, 32⟩) (.cons (.cmp PySem.CmpOp.Eq (.cp 0 "told" ⟨58, 37, 58, 41⟩) (.cp 1 "due" ⟨58, 45, 58, 48⟩) ⟨58, 37, 58, 48⟩) .nil)) ⟨58, 11, 58, 48⟩) ⟨58, 4, 58, 48⟩)
    .nil))))))) }
def d11 : Df := { nm := "_law_unlike", N := ["items", "found", "item"], np := 1, sc := defScope (topS 16), ios := [], body :=
    (.cons (.asg (.nm ⟨1, "found", ⟨60, 4, 60, 9⟩⟩) (.lst .nil ⟨60, 12, 60, 14⟩) ⟨60, 4, 60, 14⟩)
    (.cons (.for_ (.nm ⟨2, "item", ⟨61, 8, 61, 12⟩⟩) (.any (.bi .sorted (.cons (.cp 0 "items" ⟨61, 23, 61, 28⟩) .nil) ⟨61, 16, 61, 22⟩ ⟨61, 16, 61, 29⟩)) (.cons (.ite (.pur (.cmp PySem.CmpOp.NotIn (.cp 2 "item" ⟨62, 11, 62, 15⟩) (.cp 1 "found" ⟨62, 23, 62, 28⟩) ⟨62, 11, 62, 28⟩)) (.cons (.expr (.mu .append 1 "found" ⟨63, 12, 63, 17⟩ (.cons (.cp 2 "item" ⟨63, 25, 63, 29⟩) .nil) ⟨63, 12, 63, 24⟩ ⟨63, 12, 63, 30⟩) ⟨63, 12, 63, 30⟩)
    .nil) .nil ⟨62, 8, 63, 30⟩)
    .nil) ⟨61, 4, 63, 30⟩)
    (.cons (.ret (.mv 1 "found" ⟨64, 11, 64, 16⟩) ⟨64, 4, 64, 16⟩)
    .nil))) }
def d12 : Df := { nm := "_law_any", N := ["generator", "menu"], np := 1, sc := defScope (topS 17), ios := [0], body :=
    (.cons (.asg (.nm ⟨1, "menu", ⟨66, 4, 66, 8⟩⟩) (.lst (.cons (.cst PySem.Const.none 0 ⟨66, 12, 66, 16⟩) (.cons (.cst (PySem.Const.bool true) 0 ⟨66, 18, 66, 22⟩) (.cons (.cst (PySem.Const.bool false) 0 ⟨66, 24, 66, 29⟩) (.cons (.cst (PySem.Const.int 0) 0 ⟨66, 31, 66, 32⟩) (.cons (.cst (PySem.Const.int 1) 0 ⟨66, 34, 66, 35⟩) (.cons (.neg (.cst (PySem.Const.int 1) 0 ⟨66, 38, 66, 39⟩) ⟨66, 37, 66, 39⟩) (.cons (.bin PySem.Operator.Pow (.cst (PySem.Const.int 10) 0 ⟨66, 41, 66, 43⟩) (.cst (PySem.Const.int 11) 0 ⟨66, 47, 66, 49⟩) ⟨66, 41, 66, 49⟩) (.cons (.cst (PySem.Const.str "") 0 ⟨66, 51, 66, 53⟩) (.cons (.cst (PySem.Const.str "a") 0 ⟨66, 55, 66, 58⟩) (.cons (.cst (PySem.Const.str "A") 0 ⟨66, 60, 66, 63⟩) (.cons (.cst (PySem.Const.str "ab") 0 ⟨66, 65, 66, 69⟩) (.cons (.cst (PySem.Const.str "a b") 0 ⟨66, 71, 66, 76⟩) (.cons (.cst (PySem.Const.str "1a") 0 ⟨66, 78, 66, 82⟩) (.cons (.cst (PySem.Const.str "a1") 0 ⟨66, 84, 66, 88⟩) (.cons (.cst (PySem.Const.str " ") 0 ⟨66, 90, 66, 93⟩) (.cons (.cst (PySem.Const.str "a\n") 0 ⟨66, 95, 66, 100⟩) (.cons (.bin PySem.Operator.Mult (.cst (PySem.Const.str "z") 0 ⟨66, 102, 66, 105⟩) (.cst (PySem.Const.int 20) 0 ⟨66, 108, 66, 110⟩) ⟨66, 102, 66, 110⟩) (.cons (.bin PySem.Operator.Mult (.cst (PySem.Const.str "z") 0 ⟨66, 112, 66, 115⟩) (.cst (PySem.Const.int 21) 0 ⟨66, 118, 66, 120⟩) ⟨66, 112, 66, 120⟩) (.cons (.cst (PySem.Const.str "abcdefgh") 0 ⟨66, 122, 66, 132⟩) (.cons (.cst (PySem.Const.str "abcdefghi") 0 ⟨66, 134, 66, 145⟩) .nil)))))))))))))))))))) ⟨66, 11, 66, 146⟩) ⟨66, 4, 66, 146⟩)
    (.cons (.asg (.nm ⟨1, "menu", ⟨67, 4, 67, 8⟩⟩) (.bin PySem.Operator.Add (.cp 1 "menu" ⟨67, 11, 67, 15⟩) (.lst (.cons (.lst .nil ⟨67, 19, 67, 21⟩) (.cons (.tup .nil 0 ⟨67, 23, 67, 25⟩) (.cons (.dct .nil ⟨67, 27, 67, 29⟩) (.cons (.lst (.cons (.cst (PySem.Const.int 0) 0 ⟨67, 32, 67, 33⟩) .nil) ⟨67, 31, 67, 34⟩) (.cons (.lst (.cons (.cst (PySem.Const.int 1) 0 ⟨67, 37, 67, 38⟩) (.cons (.cst (PySem.Const.int 0) 0 ⟨67, 40, 67, 41⟩) .nil)) ⟨67, 36, 67, 42⟩) (.cons (.lst (.cons (.cst (PySem.Const.int 0) 0 ⟨67, 45, 67, 46⟩) (.cons (.cst (PySem.Const.str "a") 0 ⟨67, 48, 67, 51⟩) .nil)) ⟨67, 44, 67, 52⟩) (.cons (.lst (.cons (.cst (PySem.Const.str "a") 0 ⟨67, 55, 67, 58⟩) (.cons (.cst (PySem.Const.int 0) 0 ⟨67, 60, 67, 61⟩) .nil)) ⟨67, 54, 67, 62⟩) (.cons (.lst (.cons (.cst PySem.Const.none 0 ⟨67, 65, 67, 69⟩) (.cons (.cst (PySem.Const.int 0) 0 ⟨67, 71, 67, 72⟩) .nil)) ⟨67, 64, 67, 73⟩) (.cons (.lst (.cons (.cst (PySem.Const.int 0) 0 ⟨67, 76, 67, 77⟩) (.cons (.lst (.cons (.cst (PySem.Const.int 1) 0 ⟨67, 80, 67, 81⟩) .nil) ⟨67, 79, 67, 82⟩) .nil)) ⟨67, 75, 67, 83⟩) (.cons (.lst (.cons (.cst (PySem.Const.int 0) 0 ⟨67, 86, 67, 87⟩) (.cons (.tup (.cons (.cst (PySem.Const.int 1) 0 ⟨67, 90, 67, 91⟩) .nil) 0 ⟨67, 89, 67, 93⟩) .nil)) ⟨67, 85, 67, 94⟩) (.cons (.lst (.cons (.cst (PySem.Const.bool true) 0 ⟨67, 97, 67, 101⟩) .nil) ⟨67, 96, 67, 102⟩) (.cons (.lst (.cons (.cst (PySem.Const.int 0) 0 ⟨67, 105, 67, 106⟩) (.cons (.cst (PySem.Const.int 1) 0 ⟨67, 108, 67, 109⟩) .nil)) ⟨67, 104, 67, 110⟩) (.cons (.lst (.cons (.cst (PySem.Const.int 0) 0 ⟨67, 113, 67, 114⟩) (.cons (.cst (PySem.Const.int 0) 0 ⟨67, 116, 67, 117⟩) .nil)) ⟨67, 112, 67, 118⟩) (.cons (.tup (.cons (.cst (PySem.Const.int 0) 0 ⟨67, 121, 67, 122⟩) (.cons (.cst (PySem.Const.int 1) 0 ⟨67, 124, 67, 125⟩) .nil)) 0 ⟨67, 120, 67, 126⟩) (.cons (.lst (.cons (.cst (PySem.Const.str "a") 0 ⟨67, 129, 67, 132⟩) .nil) ⟨67, 128, 67, 133⟩) (.cons (.lst (.cons (.lst .nil ⟨67, 136, 67, 138⟩) .nil) ⟨67, 135, 67, 139⟩) .nil)))))))))))))))) ⟨67, 18, 67, 140⟩) ⟨67, 11, 67, 140⟩) ⟨67, 4, 67, 140⟩)
    (.cons (.asg (.nm ⟨1, "menu", ⟨68, 4, 68, 8⟩⟩) (.bin PySem.Operator.Add (.cp 1 "menu" ⟨68, 11, 68, 15⟩) (.lst (.cons (.dct (.cons (.cst (PySem.Const.str "a") 0 ⟨68, 20, 68, 23⟩) (.cst (PySem.Const.int 1) 0 ⟨68, 25, 68, 26⟩) .nil) ⟨68, 19, 68, 27⟩) (.cons (.lst (.cons (.cst (PySem.Const.int 1) 0 ⟨68, 30, 68, 31⟩) (.cons (.cst (PySem.Const.int 2) 0 ⟨68, 33, 68, 34⟩) (.cons (.bin PySem.Operator.Pow (.cst (PySem.Const.int 10) 0 ⟨68, 36, 68, 38⟩) (.cst (PySem.Const.int 11) 0 ⟨68, 42, 68, 44⟩) ⟨68, 36, 68, 44⟩) .nil))) ⟨68, 29, 68, 45⟩) (.cons (.lst (.cons (.neg (.cst (PySem.Const.int 1) 0 ⟨68, 49, 68, 50⟩) ⟨68, 48, 68, 50⟩) .nil) ⟨68, 47, 68, 51⟩) (.cons (.cst (PySem.Const.str "a_b") 0 ⟨68, 53, 68, 58⟩) (.cons (.cst (PySem.Const.str "aB") 0 ⟨68, 60, 68, 64⟩) (.cons (.bin PySem.Operator.Mult (.cst (PySem.Const.str "a") 0 ⟨68, 66, 68, 69⟩) (.cst (PySem.Const.int 200) 0 ⟨68, 72, 68, 75⟩) ⟨68, 66, 68, 75⟩) (.cons (.cst (PySem.Const.str "e0") 0 ⟨68, 77, 68, 81⟩) (.cons (.cst (PySem.Const.str "0") 0 ⟨68, 83, 68, 86⟩) (.cons (.cst (PySem.Const.str "house") 0 ⟨68, 88, 68, 95⟩) (.cons (.tup (.cons (.cst (PySem.Const.str "house") 0 ⟨68, 98, 68, 105⟩) .nil) 0 ⟨68, 97, 68, 107⟩) .nil)))))))))) ⟨68, 18, 68, 108⟩) ⟨68, 11, 68, 108⟩) ⟨68, 4, 68, 108⟩)
    (.cons (.ret (.call 9 "_law_copied" (.cons (.call 8 "_law_pick" (.cons (.mv 0 "generator" ⟨69, 33, 69, 42⟩) (.cons (.cp 1 "menu" ⟨69, 44, 69, 48⟩) .nil)) ⟨69, 23, 69, 32⟩ ⟨69, 23, 69, 49⟩) .nil) ⟨69, 11, 69, 22⟩ ⟨69, 11, 69, 50⟩) ⟨69, 4, 69, 50⟩)
    .nil)))) }
def d13 : Df := { nm := "_law_name", N := ["value", "sign"], np := 1, sc := defScope (topS 18), ios := [], body :=
    (.cons (.ite (.or_ (.cons (.not_ (.isi (.cp 0 "value" ⟨71, 22, 71, 27⟩) (.one .str ⟨71, 29, 71, 32⟩) ⟨71, 11, 71, 21⟩ ⟨71, 11, 71, 33⟩) ⟨71, 7, 71, 33⟩) (.cons (.cmp PySem.CmpOp.Gt (.bi .len (.cons (.cp 0 "value" ⟨71, 41, 71, 46⟩) .nil) ⟨71, 37, 71, 40⟩ ⟨71, 37, 71, 47⟩) (.cst (PySem.Const.int 8) 0 ⟨71, 50, 71, 51⟩) ⟨71, 37, 71, 51⟩) (.cons (.cmp PySem.CmpOp.NotIn (.sl (.cp 0 "value" ⟨71, 55, 71, 60⟩) .no (.yes (.cst (PySem.Const.int 1) 0 ⟨71, 62, 71, 63⟩)) ⟨71, 61, 71, 63⟩ ⟨71, 55, 71, 64⟩) (.bi .list (.cons (.cst (PySem.Const.str "abcdefghijklmnopqrstuvwxyz") 0 ⟨71, 77, 71, 105⟩) .nil) ⟨71, 72, 71, 76⟩ ⟨71, 72, 71, 106⟩) ⟨71, 55, 71, 106⟩) .nil))) ⟨71, 7, 71, 106⟩) (.cons (.ret (.cst (PySem.Const.bool false) 0 ⟨72, 15, 72, 20⟩) ⟨72, 8, 72, 20⟩)
    .nil) .nil ⟨71, 4, 72, 20⟩)
    (.cons (.ret (.cmp PySem.CmpOp.Eq (.lc (.cp 1 "sign" ⟨73, 12, 73, 16⟩) (.nm ⟨1, "sign", ⟨73, 21, 73, 25⟩⟩) (.any (.cp 0 "value" ⟨73, 29, 73, 34⟩)) (.yes (.cmp PySem.CmpOp.NotIn (.cp 1 "sign" ⟨73, 38, 73, 42⟩) (.cst (PySem.Const.str "abcdefghijklmnopqrstuvwxyz0123456789") 0 ⟨73, 50, 73, 88⟩) ⟨73, 38, 73, 88⟩)) { kind := PySem.ScopeKind.function, names := [((PySem.Str.ofString ".0"), PySem.NameKind.local), ((PySem.Str.ofString "sign"), PySem.NameKind.local)], isGenerator := false, isCoroutine := false, more := [] } [("sign", 1)] ⟨73, 11, 73, 89⟩) (.lst .nil ⟨73, 93, 73, 95⟩) ⟨73, 11, 73, 95⟩) ⟨73, 4, 73, 95⟩)
    .nil)) }
def d14 : Df := { nm := "_law_rise", N := ["items", "at"], np := 1, sc := defScope (topS 19), ios := [], body :=
    (.cons (.ret (.cmp PySem.CmpOp.Eq (.lc (.cp 1 "at" ⟨75, 12, 75, 14⟩) (.nm ⟨1, "at", ⟨75, 19, 75, 21⟩⟩) (.rng2 (.cst (PySem.Const.int 1) 0 ⟨75, 31, 75, 32⟩) (.bi .len (.cons (.cp 0 "items" ⟨75, 38, 75, 43⟩) .nil) ⟨75, 34, 75, 37⟩ ⟨75, 34, 75, 44⟩) ⟨75, 25, 75, 30⟩ ⟨75, 25, 75, 45⟩) (.yes (.cmp PySem.CmpOp.GtE (.ix (.cp 0 "items" ⟨75, 49, 75, 54⟩) (.bin PySem.Operator.Sub (.cp 1 "at" ⟨75, 55, 75, 57⟩) (.cst (PySem.Const.int 1) 0 ⟨75, 60, 75, 61⟩) ⟨75, 55, 75, 61⟩) ⟨75, 49, 75, 62⟩) (.ix (.cp 0 "items" ⟨75, 66, 75, 71⟩) (.cp 1 "at" ⟨75, 72, 75, 74⟩) ⟨75, 66, 75, 75⟩) ⟨75, 49, 75, 75⟩)) { kind := PySem.ScopeKind.function, names := [((PySem.Str.ofString ".0"), PySem.NameKind.local), ((PySem.Str.ofString "at"), PySem.NameKind.local), ((PySem.Str.ofString "items"), PySem.NameKind.free)], isGenerator := false, isCoroutine := false, more := [] } [("at", 1)] ⟨75, 11, 75, 76⟩) (.lst .nil ⟨75, 80, 75, 82⟩) ⟨75, 11, 75, 82⟩) ⟨75, 4, 75, 82⟩)
    .nil) }
def d15 : Df := { nm := "_law_string", N := ["generator", "signs", "turn"], np := 1, sc := defScope (topS 20), ios := [0], body :=
    (.cons (.asg (.nm ⟨1, "signs", ⟨77, 4, 77, 9⟩⟩) (.call 8 "_law_pick" (.cons (.mv 0 "generator" ⟨77, 22, 77, 31⟩) (.cons (.lst (.cons (.cst (PySem.Const.str "ab") 0 ⟨77, 34, 77, 38⟩) (.cons (.cst (PySem.Const.str "abcdefghijklmnopqrstuvwxyz") 0 ⟨77, 40, 77, 68⟩) (.cons (.cst (PySem.Const.str "a0123456789") 0 ⟨77, 70, 77, 83⟩) (.cons (.cst (PySem.Const.str "aZ_ -~") 0 ⟨77, 85, 77, 93⟩) (.cons (.cst (PySem.Const.str "a0\n\t") 0 ⟨77, 95, 77, 103⟩) .nil))))) ⟨77, 33, 77, 104⟩) .nil)) ⟨77, 12, 77, 21⟩ ⟨77, 12, 77, 105⟩) ⟨77, 4, 77, 105⟩)
    (.cons (.ret (.mt .join (.cst (PySem.Const.str "") 0 ⟨78, 11, 78, 13⟩) (.cons (.lc (.call 8 "_law_pick" (.cons (.mv 0 "generator" ⟨78, 30, 78, 39⟩) (.cons (.cp 1 "signs" ⟨78, 41, 78, 46⟩) .nil)) ⟨78, 20, 78, 29⟩ ⟨78, 20, 78, 47⟩) (.nm ⟨2, "turn", ⟨78, 52, 78, 56⟩⟩) (.rng1 (.call 7 "_law_random" (.cons (.mv 0 "generator" ⟨78, 78, 78, 87⟩) (.cons (.cst (PySem.Const.int 24) 0 ⟨78, 89, 78, 91⟩) .nil)) ⟨78, 66, 78, 77⟩ ⟨78, 66, 78, 92⟩) ⟨78, 60, 78, 65⟩ ⟨78, 60, 78, 93⟩) .no { kind := PySem.ScopeKind.function, names := [((PySem.Str.ofString ".0"), PySem.NameKind.local), ((PySem.Str.ofString "turn"), PySem.NameKind.local), ((PySem.Str.ofString "_law_pick"), PySem.NameKind.globalImplicit), ((PySem.Str.ofString "generator"), PySem.NameKind.free), ((PySem.Str.ofString "signs"), PySem.NameKind.free)], isGenerator := false, isCoroutine := false, more := [] } [("turn", 2)] ⟨78, 19, 78, 94⟩) .nil) ⟨78, 11, 78, 18⟩ ⟨78, 11, 78, 95⟩) ⟨78, 4, 78, 95⟩)
    .nil)) }
def d16 : Df := { nm := "_law_numbers", N := ["generator", "turn"], np := 1, sc := defScope (topS 21), ios := [0], body :=
    (.cons (.ret (.lc (.bin PySem.Operator.Sub (.call 7 "_law_random" (.cons (.mv 0 "generator" ⟨80, 24, 80, 33⟩) (.cons (.call 8 "_law_pick" (.cons (.mv 0 "generator" ⟨80, 45, 80, 54⟩) (.cons (.lst (.cons (.cst (PySem.Const.int 3) 0 ⟨80, 57, 80, 58⟩) (.cons (.cst (PySem.Const.int 9) 0 ⟨80, 60, 80, 61⟩) (.cons (.bin PySem.Operator.Pow (.cst (PySem.Const.int 10) 0 ⟨80, 63, 80, 65⟩) (.cst (PySem.Const.int 12) 0 ⟨80, 69, 80, 71⟩) ⟨80, 63, 80, 71⟩) .nil))) ⟨80, 56, 80, 72⟩) .nil)) ⟨80, 35, 80, 44⟩ ⟨80, 35, 80, 73⟩) .nil)) ⟨80, 12, 80, 23⟩ ⟨80, 12, 80, 74⟩) (.call 7 "_law_random" (.cons (.mv 0 "generator" ⟨80, 89, 80, 98⟩) (.cons (.cst (PySem.Const.int 2) 0 ⟨80, 100, 80, 101⟩) .nil)) ⟨80, 77, 80, 88⟩ ⟨80, 77, 80, 102⟩) ⟨80, 12, 80, 102⟩) (.nm ⟨1, "turn", ⟨80, 107, 80, 111⟩⟩) (.rng1 (.call 7 "_law_random" (.cons (.mv 0 "generator" ⟨80, 133, 80, 142⟩) (.cons (.cst (PySem.Const.int 6) 0 ⟨80, 144, 80, 145⟩) .nil)) ⟨80, 121, 80, 132⟩ ⟨80, 121, 80, 146⟩) ⟨80, 115, 80, 120⟩ ⟨80, 115, 80, 147⟩) .no { kind := PySem.ScopeKind.function, names := [((PySem.Str.ofString ".0"), PySem.NameKind.local), ((PySem.Str.ofString "turn"), PySem.NameKind.local), ((PySem.Str.ofString "_law_random"), PySem.NameKind.globalImplicit), ((PySem.Str.ofString "_law_pick"), PySem.NameKind.globalImplicit), ((PySem.Str.ofString "generator"), PySem.NameKind.free)], isGenerator := false, isCoroutine := false, more := [] } [("turn", 1)] ⟨80, 11, 80, 148⟩) ⟨80, 4, 80, 148⟩)
    .nil) }
def d17 : Df := { nm := "_law_judged", N := ["value", "kept", "lots", "due", "told", "again", "item"], np := 1, sc := defScope (topS 22), ios := [], body :=
    (.cons (.asg (.nm ⟨1, "kept", ⟨82, 4, 82, 8⟩⟩) (.bi .repr (.cons (.cp 0 "value" ⟨82, 16, 82, 21⟩) .nil) ⟨82, 11, 82, 15⟩ ⟨82, 11, 82, 22⟩) ⟨82, 4, 82, 22⟩)
    (.cons (.asg (.nm ⟨2, "lots", ⟨83, 4, 83, 8⟩⟩) (.and_ (.cons (.isi (.cp 0 "value" ⟨83, 22, 83, 27⟩) (.one .list ⟨83, 29, 83, 33⟩) ⟨83, 11, 83, 21⟩ ⟨83, 11, 83, 34⟩) (.cons (.cmp PySem.CmpOp.Eq (.lc (.cp 6 "item" ⟨83, 40, 83, 44⟩) (.nm ⟨6, "item", ⟨83, 49, 83, 53⟩⟩) (.any (.cp 0 "value" ⟨83, 57, 83, 62⟩)) (.yes (.not_ (.call 13 "_law_name" (.cons (.cp 6 "item" ⟨83, 80, 83, 84⟩) .nil) ⟨83, 70, 83, 79⟩ ⟨83, 70, 83, 85⟩) ⟨83, 66, 83, 85⟩)) { kind := PySem.ScopeKind.function, names := [((PySem.Str.ofString ".0"), PySem.NameKind.local), ((PySem.Str.ofString "item"), PySem.NameKind.local), ((PySem.Str.ofString "_law_name"), PySem.NameKind.globalImplicit)], isGenerator := false, isCoroutine := false, more := [] } [("item", 6)] ⟨83, 39, 83, 86⟩) (.lst .nil ⟨83, 90, 83, 92⟩) ⟨83, 39, 83, 92⟩) .nil)) ⟨83, 11, 83, 92⟩) ⟨83, 4, 83, 92⟩)
    (.cons (.asg (.nm ⟨3, "due", ⟨84, 4, 84, 7⟩⟩) (.lst (.cons (.call 13 "_law_name" (.cons (.cp 0 "value" ⟨84, 21, 84, 26⟩) .nil) ⟨84, 11, 84, 20⟩ ⟨84, 11, 84, 27⟩) (.cons (.and_ (.cons (.cp 2 "lots" ⟨84, 29, 84, 33⟩) (.cons (.call 14 "_law_rise" (.cons (.cp 0 "value" ⟨84, 48, 84, 53⟩) .nil) ⟨84, 38, 84, 47⟩ ⟨84, 38, 84, 54⟩) .nil)) ⟨84, 29, 84, 54⟩) .nil)) ⟨84, 10, 84, 55⟩) ⟨84, 4, 84, 55⟩)
    (.cons (.asg (.nm ⟨4, "told", ⟨85, 4, 85, 8⟩⟩) (.lst (.cons (.call 1 "is_name" (.cons (.cp 0 "value" ⟨85, 20, 85, 25⟩) .nil) ⟨85, 12, 85, 19⟩ ⟨85, 12, 85, 26⟩) (.cons (.call 3 "is_names" (.cons (.cp 0 "value" ⟨85, 37, 85, 42⟩) .nil) ⟨85, 28, 85, 36⟩ ⟨85, 28, 85, 43⟩) .nil)) ⟨85, 11, 85, 44⟩) ⟨85, 4, 85, 44⟩)
    (.cons (.asg (.nm ⟨5, "again", ⟨86, 4, 86, 9⟩⟩) (.lst (.cons (.callK 1 "is_name" .nil [("value", ⟨86, 21, 86, 32⟩)] [0] (.cons (.cp 0 "value" ⟨86, 27, 86, 32⟩) .nil) ⟨86, 13, 86, 20⟩ ⟨86, 13, 86, 33⟩) (.cons (.callK 3 "is_names" .nil [("value", ⟨86, 44, 86, 55⟩)] [0] (.cons (.cp 0 "value" ⟨86, 50, 86, 55⟩) .nil) ⟨86, 35, 86, 43⟩ ⟨86, 35, 86, 56⟩) .nil)) ⟨86, 12, 86, 57⟩) ⟨86, 4, 86, 57⟩)
    (.cons (.ret (.and_ (.cons (.call 10 "_law_exact" (.cons (.cp 4 "told" ⟨87, 22, 87, 26⟩) (.cons (.cp 3 "due" ⟨87, 28, 87, 31⟩) .nil)) ⟨87, 11, 87, 21⟩ ⟨87, 11, 87, 32⟩) (.cons (.call 10 "_law_exact" (.cons (.cp 5 "again" ⟨87, 48, 87, 53⟩) (.cons (.cp 3 "due" ⟨87, 55, 87, 58⟩) .nil)) ⟨87, 37, 87, 47⟩ ⟨87, 37, 87, 59⟩) (.cons (.cmp PySem.CmpOp.Eq (.bi .repr (.cons (.cp 0 "value" ⟨87, 70, 87, 75⟩) .nil) ⟨87, 65, 87, 69⟩ ⟨87, 65, 87, 76⟩) (.cp 1 "kept" ⟨87, 80, 87, 84⟩) ⟨87, 65, 87, 84⟩) .nil))) ⟨87, 11, 87, 85⟩) ⟨87, 4, 87, 85⟩)
    .nil)))))) }
def d18 : Df := { nm := "law", N := ["script", "index", "generator", "turn", "numbers", "menu", "names", "good", "lists", "value", "many", "due", "at", "name"], np := 1, sc := defScope (topS 23), ios := [], body :=
    (.cons (.for_ (.nm ⟨1, "index", ⟨89, 8, 89, 13⟩⟩) (.rng1 (.cst (PySem.Const.int 3) 0 ⟨89, 23, 89, 24⟩) ⟨89, 17, 89, 22⟩ ⟨89, 17, 89, 25⟩) (.cons (.asg (.nm ⟨2, "generator", ⟨90, 8, 90, 17⟩⟩) (.call 6 "_law_generator" (.cons (.cp 0 "script" ⟨90, 35, 90, 41⟩) (.cons (.cp 1 "index" ⟨90, 43, 90, 48⟩) .nil)) ⟨90, 20, 90, 34⟩ ⟨90, 20, 90, 49⟩) ⟨90, 8, 90, 49⟩)
    (.cons (.for_ (.nm ⟨3, "turn", ⟨91, 12, 91, 16⟩⟩) (.rng1 (.cst (PySem.Const.int 12) 0 ⟨91, 26, 91, 28⟩) ⟨91, 20, 91, 25⟩ ⟨91, 20, 91, 29⟩) (.cons (.asg (.nm ⟨4, "numbers", ⟨92, 12, 92, 19⟩⟩) (.call 16 "_law_numbers" (.cons (.mv 2 "generator" ⟨92, 35, 92, 44⟩) .nil) ⟨92, 22, 92, 34⟩ ⟨92, 22, 92, 45⟩) ⟨92, 12, 92, 45⟩)
    (.cons (.asg (.nm ⟨5, "menu", ⟨93, 12, 93, 16⟩⟩) (.lst (.cons (.cst (PySem.Const.str "a") 0 ⟨93, 20, 93, 23⟩) (.cons (.cst (PySem.Const.str "b") 0 ⟨93, 25, 93, 28⟩) (.cons (.cst (PySem.Const.str "ab") 0 ⟨93, 30, 93, 34⟩) (.cons (.cst (PySem.Const.str "a1") 0 ⟨93, 36, 93, 40⟩) (.cons (.cst (PySem.Const.str "z") 0 ⟨93, 42, 93, 45⟩) (.cons (.cst (PySem.Const.str "abcdefgh") 0 ⟨93, 47, 93, 57⟩) (.cons (.cst (PySem.Const.str "abcdefghi") 0 ⟨93, 59, 93, 70⟩) (.cons (.cst (PySem.Const.str "A") 0 ⟨93, 72, 93, 75⟩) (.cons (.cst (PySem.Const.str "") 0 ⟨93, 77, 93, 79⟩) (.cons (.cst (PySem.Const.str "1a") 0 ⟨93, 81, 93, 85⟩) (.cons (.cst (PySem.Const.int 1) 0 ⟨93, 87, 93, 88⟩) (.cons (.cst PySem.Const.none 0 ⟨93, 90, 93, 94⟩) (.cons (.cst (PySem.Const.str "arm") 0 ⟨93, 96, 93, 101⟩) (.cons (.cst (PySem.Const.str "old") 0 ⟨93, 103, 93, 108⟩) (.cons (.cst (PySem.Const.str "a b") 0 ⟨93, 110, 93, 115⟩) (.cons (.cst (PySem.Const.str "aB") 0 ⟨93, 117, 93, 121⟩) (.cons (.cst (PySem.Const.str "a_b") 0 ⟨93, 123, 93, 128⟩) (.cons (.cst (PySem.Const.str "a\n") 0 ⟨93, 130, 93, 135⟩) (.cons (.cst (PySem.Const.str "a1b") 0 ⟨93, 137, 93, 142⟩) (.cons (.cst (PySem.Const.str "z0z0z0z0") 0 ⟨93, 144, 93, 154⟩) .nil)))))))))))))))))))) ⟨93, 19, 93, 155⟩) ⟨93, 12, 93, 155⟩)
    (.cons (.asgC ⟨6, "names", ⟨94, 12, 94, 17⟩⟩ (.lc (.call 8 "_law_pick" (.cons (.mv 2 "generator" ⟨94, 31, 94, 40⟩) (.cons (.cp 5 "menu" ⟨94, 42, 94, 46⟩) .nil)) ⟨94, 21, 94, 30⟩ ⟨94, 21, 94, 47⟩) (.nm ⟨12, "at", ⟨94, 52, 94, 54⟩⟩) (.rng1 (.call 7 "_law_random" (.cons (.mv 2 "generator" ⟨94, 76, 94, 85⟩) (.cons (.cst (PySem.Const.int 5) 0 ⟨94, 87, 94, 88⟩) .nil)) ⟨94, 64, 94, 75⟩ ⟨94, 64, 94, 89⟩) ⟨94, 58, 94, 63⟩ ⟨94, 58, 94, 90⟩) .no { kind := PySem.ScopeKind.function, names := [((PySem.Str.ofString ".0"), PySem.NameKind.local), ((PySem.Str.ofString "at"), PySem.NameKind.local), ((PySem.Str.ofString "_law_pick"), PySem.NameKind.globalImplicit), ((PySem.Str.ofString "generator"), PySem.NameKind.free), ((PySem.Str.ofString "menu"), PySem.NameKind.free)], isGenerator := false, isCoroutine := false, more := [] } [("at", 12)] ⟨94, 20, 94, 91⟩) ⟨94, 12, 94, 91⟩)
    (.cons (.asgC ⟨7, "good", ⟨95, 12, 95, 16⟩⟩ (.lc (.cp 13 "name" ⟨95, 20, 95, 24⟩) (.nm ⟨13, "name", ⟨95, 29, 95, 33⟩⟩) (.any (.cp 6 "names" ⟨95, 37, 95, 42⟩)) (.yes (.and_ (.cons (.isi (.cp 13 "name" ⟨95, 57, 95, 61⟩) (.one .str ⟨95, 63, 95, 66⟩) ⟨95, 46, 95, 56⟩ ⟨95, 46, 95, 67⟩) (.cons (.call 13 "_law_name" (.cons (.cp 13 "name" ⟨95, 82, 95, 86⟩) .nil) ⟨95, 72, 95, 81⟩ ⟨95, 72, 95, 87⟩) .nil)) ⟨95, 46, 95, 87⟩)) { kind := PySem.ScopeKind.function, names := [((PySem.Str.ofString ".0"), PySem.NameKind.local), ((PySem.Str.ofString "name"), PySem.NameKind.local), ((PySem.Str.ofString "isinstance"), PySem.NameKind.globalImplicit), ((PySem.Str.ofString "str"), PySem.NameKind.globalImplicit), ((PySem.Str.ofString "_law_name"), PySem.NameKind.globalImplicit)], isGenerator := false, isCoroutine := false, more := [] } [("name", 13)] ⟨95, 19, 95, 88⟩) ⟨95, 12, 95, 88⟩)
    (.cons (.asg (.nm ⟨8, "lists", ⟨96, 12, 96, 17⟩⟩) (.lst (.cons (.cp 6 "names" ⟨96, 21, 96, 26⟩) (.cons (.cp 7 "good" ⟨96, 28, 96, 32⟩) (.cons (.bi .sorted (.cons (.cp 7 "good" ⟨96, 41, 96, 45⟩) .nil) ⟨96, 34, 96, 40⟩ ⟨96, 34, 96, 46⟩) (.cons (.call 11 "_law_unlike" (.cons (.cp 7 "good" ⟨96, 60, 96, 64⟩) .nil) ⟨96, 48, 96, 59⟩ ⟨96, 48, 96, 65⟩) (.cons (.bi .tuple (.cons (.call 11 "_law_unlike" (.cons (.cp 7 "good" ⟨96, 85, 96, 89⟩) .nil) ⟨96, 73, 96, 84⟩ ⟨96, 73, 96, 90⟩) .nil) ⟨96, 67, 96, 72⟩ ⟨96, 67, 96, 91⟩) (.cons (.sl (.call 11 "_law_unlike" (.cons (.cp 7 "good" ⟨96, 105, 96, 109⟩) .nil) ⟨96, 93, 96, 104⟩ ⟨96, 93, 96, 110⟩) .no (.yes (.cst (PySem.Const.int 1) 0 ⟨96, 112, 96, 113⟩)) ⟨96, 111, 96, 113⟩ ⟨96, 93, 96, 114⟩) (.cons (.rev (.call 11 "_law_unlike" (.cons (.cp 7 "good" ⟨96, 128, 96, 132⟩) .nil) ⟨96, 116, 96, 127⟩ ⟨96, 116, 96, 133⟩) 0 ⟨96, 137, 96, 138⟩ ⟨96, 136, 96, 138⟩ ⟨96, 134, 96, 138⟩ ⟨96, 116, 96, 139⟩) .nil))))))) ⟨96, 20, 96, 140⟩) ⟨96, 12, 96, 140⟩)
    (.cons (.for_ (.nm ⟨9, "value", ⟨97, 16, 97, 21⟩⟩) (.any (.bin PySem.Operator.Add (.lst (.cons (.call 12 "_law_any" (.cons (.mv 2 "generator" ⟨97, 35, 97, 44⟩) .nil) ⟨97, 26, 97, 34⟩ ⟨97, 26, 97, 45⟩) (.cons (.call 15 "_law_string" (.cons (.mv 2 "generator" ⟨97, 59, 97, 68⟩) .nil) ⟨97, 47, 97, 58⟩ ⟨97, 47, 97, 69⟩) (.cons (.cp 4 "numbers" ⟨97, 71, 97, 78⟩) (.cons (.bi .sorted (.cons (.cp 4 "numbers" ⟨97, 87, 97, 94⟩) .nil) ⟨97, 80, 97, 86⟩ ⟨97, 80, 97, 95⟩) (.cons (.call 11 "_law_unlike" (.cons (.cp 4 "numbers" ⟨97, 109, 97, 116⟩) .nil) ⟨97, 97, 97, 108⟩ ⟨97, 97, 97, 117⟩) (.cons (.bi .tuple (.cons (.call 11 "_law_unlike" (.cons (.cp 4 "numbers" ⟨97, 137, 97, 144⟩) .nil) ⟨97, 125, 97, 136⟩ ⟨97, 125, 97, 145⟩) .nil) ⟨97, 119, 97, 124⟩ ⟨97, 119, 97, 146⟩) .nil)))))) ⟨97, 25, 97, 147⟩) (.cp 8 "lists" ⟨97, 150, 97, 155⟩) ⟨97, 25, 97, 155⟩)) (.cons (.ite (.not_ (.call 17 "_law_judged" (.cons (.cp 9 "value" ⟨98, 35, 98, 40⟩) .nil) ⟨98, 23, 98, 34⟩ ⟨98, 23, 98, 41⟩) ⟨98, 19, 98, 41⟩) (.cons (.ret (.cst (PySem.Const.bool false) 0 ⟨99, 27, 99, 32⟩) ⟨99, 20, 99, 32⟩)
    .nil) .nil ⟨98, 16, 99, 32⟩)
    .nil) ⟨97, 12, 99, 32⟩)
    .nil)))))) ⟨91, 8, 99, 32⟩)
    .nil)) ⟨89, 4, 99, 32⟩)
    (.cons (.asgC ⟨10, "many", ⟨100, 4, 100, 8⟩⟩ (.lc (.bin PySem.Operator.Add (.cst (PySem.Const.str "n") 0 ⟨100, 12, 100, 15⟩) (.bi .str (.cons (.bin PySem.Operator.Add (.cst (PySem.Const.int 10) 0 ⟨100, 22, 100, 24⟩) (.cp 12 "at" ⟨100, 27, 100, 29⟩) ⟨100, 22, 100, 29⟩) .nil) ⟨100, 18, 100, 21⟩ ⟨100, 18, 100, 30⟩) ⟨100, 12, 100, 30⟩) (.nm ⟨12, "at", ⟨100, 35, 100, 37⟩⟩) (.rng1 (.cst (PySem.Const.int 60) 0 ⟨100, 47, 100, 49⟩) ⟨100, 41, 100, 46⟩ ⟨100, 41, 100, 50⟩) .no { kind := PySem.ScopeKind.function, names := [((PySem.Str.ofString ".0"), PySem.NameKind.local), ((PySem.Str.ofString "at"), PySem.NameKind.local), ((PySem.Str.ofString "str"), PySem.NameKind.globalImplicit)], isGenerator := false, isCoroutine := false, more := [] } [("at", 12)] ⟨100, 11, 100, 51⟩) ⟨100, 4, 100, 51⟩)
    (.cons (.asgC ⟨11, "due", ⟨101, 4, 101, 7⟩⟩ (.lc (.call 17 "_law_judged" (.cons (.cp 9 "value" ⟨101, 23, 101, 28⟩) .nil) ⟨101, 11, 101, 22⟩ ⟨101, 11, 101, 29⟩) (.nm ⟨9, "value", ⟨101, 34, 101, 39⟩⟩) (.any (.lst (.cons (.cp 10 "many" ⟨101, 44, 101, 48⟩) (.cons (.bin PySem.Operator.Add (.sl (.cp 10 "many" ⟨101, 50, 101, 54⟩) .no (.yes (.cst (PySem.Const.int 58) 0 ⟨101, 56, 101, 58⟩)) ⟨101, 55, 101, 58⟩ ⟨101, 50, 101, 59⟩) (.lst (.cons (.ix (.cp 10 "many" ⟨101, 63, 101, 67⟩) (.cst (PySem.Const.int 59) 0 ⟨101, 68, 101, 70⟩) ⟨101, 63, 101, 71⟩) (.cons (.ix (.cp 10 "many" ⟨101, 73, 101, 77⟩) (.cst (PySem.Const.int 58) 0 ⟨101, 78, 101, 80⟩) ⟨101, 73, 101, 81⟩) .nil)) ⟨101, 62, 101, 82⟩) ⟨101, 50, 101, 82⟩) (.cons (.bin PySem.Operator.Add (.sl (.cp 10 "many" ⟨101, 84, 101, 88⟩) .no (.yes (.cst (PySem.Const.int 59) 0 ⟨101, 90, 101, 92⟩)) ⟨101, 89, 101, 92⟩ ⟨101, 84, 101, 93⟩) (.lst (.cons (.ix (.cp 10 "many" ⟨101, 97, 101, 101⟩) (.cst (PySem.Const.int 58) 0 ⟨101, 102, 101, 104⟩) ⟨101, 97, 101, 105⟩) .nil) ⟨101, 96, 101, 106⟩) ⟨101, 84, 101, 106⟩) (.cons (.bin PySem.Operator.Add (.cp 10 "many" ⟨101, 108, 101, 112⟩) (.lst (.cons (.cst (PySem.Const.str "A") 0 ⟨101, 116, 101, 119⟩) .nil) ⟨101, 115, 101, 120⟩) ⟨101, 108, 101, 120⟩) .nil)))) ⟨101, 43, 101, 121⟩)) .no { kind := PySem.ScopeKind.function, names := [((PySem.Str.ofString ".0"), PySem.NameKind.local), ((PySem.Str.ofString "value"), PySem.NameKind.local), ((PySem.Str.ofString "_law_judged"), PySem.NameKind.globalImplicit)], isGenerator := false, isCoroutine := false, more := [] } [("value", 9)] ⟨101, 10, 101, 122⟩) ⟨101, 4, 101, 122⟩)
    (.cons (.asg (.nm ⟨11, "due", ⟨102, 4, 102, 7⟩⟩) (.bin PySem.Operator.Add (.cp 11 "due" ⟨102, 10, 102, 13⟩) (.lc (.call 17 "_law_judged" (.cons (.cp 9 "value" ⟨102, 29, 102, 34⟩) .nil) ⟨102, 17, 102, 28⟩ ⟨102, 17, 102, 35⟩) (.nm ⟨9, "value", ⟨102, 40, 102, 45⟩⟩) (.any (.lst (.cons (.lst (.cons (.cst (PySem.Const.int 0) 0 ⟨102, 51, 102, 52⟩) (.cons (.cst (PySem.Const.str "a") 0 ⟨102, 54, 102, 57⟩) .nil)) ⟨102, 50, 102, 58⟩) (.cons (.lst (.cons (.cst (PySem.Const.str "a") 0 ⟨102, 61, 102, 64⟩) (.cons (.cst (PySem.Const.int 0) 0 ⟨102, 66, 102, 67⟩) .nil)) ⟨102, 60, 102, 68⟩) (.cons (.lst (.cons (.cst PySem.Const.none 0 ⟨102, 71, 102, 75⟩) (.cons (.cst (PySem.Const.int 0) 0 ⟨102, 77, 102, 78⟩) .nil)) ⟨102, 70, 102, 79⟩) (.cons (.lst (.cons (.cst (PySem.Const.int 0) 0 ⟨102, 82, 102, 83⟩) (.cons (.lst (.cons (.cst (PySem.Const.int 1) 0 ⟨102, 86, 102, 87⟩) .nil) ⟨102, 85, 102, 88⟩) .nil)) ⟨102, 81, 102, 89⟩) (.cons (.cst (PySem.Const.int 0) 0 ⟨102, 91, 102, 92⟩) (.cons (.bin PySem.Operator.Pow (.cst (PySem.Const.int 10) 0 ⟨102, 94, 102, 96⟩) (.cst (PySem.Const.int 12) 0 ⟨102, 100, 102, 102⟩) ⟨102, 94, 102, 102⟩) (.cons (.cst (PySem.Const.bool true) 0 ⟨102, 104, 102, 108⟩) (.cons (.neg (.cst (PySem.Const.int 1) 0 ⟨102, 111, 102, 112⟩) ⟨102, 110, 102, 112⟩) (.cons (.bin PySem.Operator.Mult (.cst (PySem.Const.str "a") 0 ⟨102, 114, 102, 117⟩) (.cst (PySem.Const.int 8) 0 ⟨102, 120, 102, 121⟩) ⟨102, 114, 102, 121⟩) (.cons (.bin PySem.Operator.Mult (.cst (PySem.Const.str "a") 0 ⟨102, 123, 102, 126⟩) (.cst (PySem.Const.int 9) 0 ⟨102, 129, 102, 130⟩) ⟨102, 123, 102, 130⟩) (.cons (.cst (PySem.Const.str "a0") 0 ⟨102, 132, 102, 136⟩) (.cons (.cst (PySem.Const.str "0a") 0 ⟨102, 138, 102, 142⟩) (.cons (.lst .nil ⟨102, 144, 102, 146⟩) (.cons (.lst (.cons (.cst (PySem.Const.int 0) 0 ⟨102, 149, 102, 150⟩) .nil) ⟨102, 148, 102, 151⟩) (.cons (.lst (.cons (.cst (PySem.Const.int 0) 0 ⟨102, 154, 102, 155⟩) (.cons (.bin PySem.Operator.Pow (.cst (PySem.Const.int 10) 0 ⟨102, 157, 102, 159⟩) (.cst (PySem.Const.int 12) 0 ⟨102, 163, 102, 165⟩) ⟨102, 157, 102, 165⟩) .nil)) ⟨102, 153, 102, 166⟩) (.cons (.lst (.cons (.cst (PySem.Const.bool true) 0 ⟨102, 169, 102, 173⟩) .nil) ⟨102, 168, 102, 174⟩) (.cons (.lst (.cons (.cst (PySem.Const.int 1) 0 ⟨102, 177, 102, 178⟩) (.cons (.cst (PySem.Const.int 1) 0 ⟨102, 180, 102, 181⟩) .nil)) ⟨102, 176, 102, 182⟩) (.cons (.lst (.cons (.cst (PySem.Const.int 2) 0 ⟨102, 185, 102, 186⟩) (.cons (.cst (PySem.Const.int 1) 0 ⟨102, 188, 102, 189⟩) .nil)) ⟨102, 184, 102, 190⟩) .nil)))))))))))))))))) ⟨102, 49, 102, 191⟩)) .no { kind := PySem.ScopeKind.function, names := [((PySem.Str.ofString ".0"), PySem.NameKind.local), ((PySem.Str.ofString "value"), PySem.NameKind.local), ((PySem.Str.ofString "_law_judged"), PySem.NameKind.globalImplicit)], isGenerator := false, isCoroutine := false, more := [] } [("value", 9)] ⟨102, 16, 102, 192⟩) ⟨102, 10, 102, 192⟩) ⟨102, 4, 102, 192⟩)
    (.cons (.ret (.cmp PySem.CmpOp.NotIn (.cst (PySem.Const.bool false) 0 ⟨103, 11, 103, 16⟩) (.cp 11 "due" ⟨103, 24, 103, 27⟩) ⟨103, 11, 103, 27⟩) ⟨103, 4, 103, 27⟩)
    .nil))))) }
def pr : List Df := [d0, d1, d2, d3, d4, d5, d6, d7, d8, d9, d10, d11, d12, d13, d14, d15, d16, d17, d18]
def glbs : List (Str × D) := [("SMALL", .str "abcdefghijklmnopqrstuvwxyz"), ("FIGURES", .str "0123456789"), ("MOST_NAME", .int 8)]
def tab : Tab := { fn := pr.map (·.nm), glb := glbs, kw := [(3, 0, ["value"], [0]), (1, 0, ["value"], [0])] }

abbrev cal (d i : Nat) (ds : List D) := callN opBi0 opMt0 opMu0 tab 1000 pr d i ds
theorem cal_of {d i : Nat} {f : Df} {ds : List D} {R : D → List (Nat × Option D) → Prop} (hf : pr[i]? = some f) (hl : ds.length = f.np) (h : SSO tab (cal d) 1000 f.body (ds.map some ++ List.replicate (f.N.length - f.np) none) fun g ρ => match g with
    | .nx => R .non (outsOf f.ios ρ)
    | .rt d => R d (outsOf f.ios ρ)
    | _ => False) : ∃ r outs, cal (d + 1) i ds = some (r, outs) ∧ R r outs := by
  have e : cal (d + 1) i ds = runFn opBi0 opMt0 opMu0 tab 1000 (cal d) f ds := by
    show (match pr[i]? with
      | some f => runFn opBi0 opMt0 opMu0 tab 1000 (cal d) f ds
      | none => none) = _
    rw [hf]
  rw [e]
  exact run_of hl h
/-! ### is_signs -/
def signsB (s : Str) : D → Bool
  | .str z => z.cps.toList.all fun c => decide (c ∈ s.cps.toList)
  | _ => false
/-- data without defs, its texts in order -/
def Plain : D → Prop
  | .fn _ => False
  | .str z => PyData.strOk z = true ∧ z.length ≤ sizeLine
  | _ => True
theorem cal0 (d : Nat) (v : D) (s : Str) (hv : Plain v) (hf : frz v = v) : ∃ r outs, cal (d + 1) 0 [v, .str s] = some (r, outs) ∧ r = .bl (signsB s v) ∧ outs = [] := by
  refine cal_of (f := d0) rfl rfl ?_
  cases v with
  | str z =>
    repeat (first | refine sso_cons ?_ | refine so_ret ?_ | refine so_asg ?_ | refine so_asgC ?_ | refine so_ite ?_ | refine so_expr ?_ | refine so_par ?_ | refine so_setx ?_ | refine so_aug rfl ?_ | refine eso_nil ?_ | refine eso_mv rfl ?_ | refine eso_cons (fun _ _ => rfl) ?_ | refine eo_cst rfl ?_ | refine eo_cp rfl (by first | assumption | rfl) ?_ | refine eo_mv rfl ?_ | refine eo_glb rfl ?_ | refine eo_neg ?_ | refine eo_mod ?_ | refine eo_fdiv ?_ | refine eo_mul ?_ | refine eo_pow ?_ | refine eo_bin ?_ | refine eo_cmp ?_ | refine eo_chn ?_ | refine eo_and1 ?_ | refine eo_and ?_ | refine eo_or1 ?_ | refine eo_or ?_ | refine eo_not ?_ | refine eo_ife ?_ | refine eo_lst ?_ | refine eo_tup ?_ | refine eo_ix ?_ | refine eo_sl ?_ | refine eoo_no ?_ | refine eoo_yes ?_ | refine eo_rev ?_ | refine eo_isi ?_ | refine eo_repr ?_ | refine eo_sorted ?_ | refine eo_bi ?_ | refine eo_callN rfl ?_ | refine eo_call ?_ | refine eo_callK ?_ | refine eo_mt ?_ | refine eio_rng1 ?_ | refine eio_rng2 ?_ | refine eio_zip ?_ | refine eio_any ?_ | refine eo_pur ?_ | refine to_no ?_ | refine to_yes ?_ | refine sso_nil ?_ | refine cmp_lt ?_ | refine cmp_le ?_ | refine cmp_gt ?_ | refine cmp_ge ?_ | refine cmp_eq ?_ | refine cmp_is rfl ?_ | refine cmp_isn rfl ?_ | refine cmp_in1 ?_ | refine cmp_nin1 ?_ | refine cmp_eqs (by assumption) (by assumption) ?_ | refine And.intro (show nsh _ = true from rfl) ?_ | refine Exists.intro _ (And.intro rfl ?_))
    refine eo_lcP (outB s) id ?_
    repeat (first | refine sso_cons ?_ | refine so_ret ?_ | refine so_asg ?_ | refine so_asgC ?_ | refine so_ite ?_ | refine so_expr ?_ | refine so_par ?_ | refine so_setx ?_ | refine so_aug rfl ?_ | refine eso_nil ?_ | refine eso_mv rfl ?_ | refine eso_cons (fun _ _ => rfl) ?_ | refine eo_cst rfl ?_ | refine eo_cp rfl (by first | assumption | rfl) ?_ | refine eo_mv rfl ?_ | refine eo_glb rfl ?_ | refine eo_neg ?_ | refine eo_mod ?_ | refine eo_fdiv ?_ | refine eo_mul ?_ | refine eo_pow ?_ | refine eo_bin ?_ | refine eo_cmp ?_ | refine eo_chn ?_ | refine eo_and1 ?_ | refine eo_and ?_ | refine eo_or1 ?_ | refine eo_or ?_ | refine eo_not ?_ | refine eo_ife ?_ | refine eo_lst ?_ | refine eo_tup ?_ | refine eo_ix ?_ | refine eo_sl ?_ | refine eoo_no ?_ | refine eoo_yes ?_ | refine eo_rev ?_ | refine eo_isi ?_ | refine eo_repr ?_ | refine eo_sorted ?_ | refine eo_bi ?_ | refine eo_callN rfl ?_ | refine eo_call ?_ | refine eo_callK ?_ | refine eo_mt ?_ | refine eio_rng1 ?_ | refine eio_rng2 ?_ | refine eio_zip ?_ | refine eio_any ?_ | refine eo_pur ?_ | refine to_no ?_ | refine to_yes ?_ | refine sso_nil ?_ | refine cmp_lt ?_ | refine cmp_le ?_ | refine cmp_gt ?_ | refine cmp_ge ?_ | refine cmp_eq ?_ | refine cmp_is rfl ?_ | refine cmp_isn rfl ?_ | refine cmp_in1 ?_ | refine cmp_nin1 ?_ | refine cmp_eqs (by assumption) (by assumption) ?_ | refine And.intro (show nsh _ = true from rfl) ?_ | refine Exists.intro _ (And.intro rfl ?_))
    refine .inr (.inr ⟨_, rfl, ?_, fun x hx => ?_, ?_⟩)
    · rw [List.length_map, Array.length_toList]; exact hv.2
    · obtain ⟨c, hc, rfl⟩ := List.mem_map.mp hx
      refine ⟨_, rfl, ?_⟩
      repeat (first | refine sso_cons ?_ | refine so_ret ?_ | refine so_asg ?_ | refine so_asgC ?_ | refine so_ite ?_ | refine so_expr ?_ | refine so_par ?_ | refine so_setx ?_ | refine so_aug rfl ?_ | refine eso_nil ?_ | refine eso_mv rfl ?_ | refine eso_cons (fun _ _ => rfl) ?_ | refine eo_cst rfl ?_ | refine eo_cp rfl (by first | assumption | rfl) ?_ | refine eo_mv rfl ?_ | refine eo_glb rfl ?_ | refine eo_neg ?_ | refine eo_mod ?_ | refine eo_fdiv ?_ | refine eo_mul ?_ | refine eo_pow ?_ | refine eo_bin ?_ | refine eo_cmp ?_ | refine eo_chn ?_ | refine eo_and1 ?_ | refine eo_and ?_ | refine eo_or1 ?_ | refine eo_or ?_ | refine eo_not ?_ | refine eo_ife ?_ | refine eo_lst ?_ | refine eo_tup ?_ | refine eo_ix ?_ | refine eo_sl ?_ | refine eoo_no ?_ | refine eoo_yes ?_ | refine eo_rev ?_ | refine eo_isi ?_ | refine eo_repr ?_ | refine eo_sorted ?_ | refine eo_bi ?_ | refine eo_callN rfl ?_ | refine eo_call ?_ | refine eo_callK ?_ | refine eo_mt ?_ | refine eio_rng1 ?_ | refine eio_rng2 ?_ | refine eio_zip ?_ | refine eio_any ?_ | refine eo_pur ?_ | refine to_no ?_ | refine to_yes ?_ | refine sso_nil ?_ | refine cmp_lt ?_ | refine cmp_le ?_ | refine cmp_gt ?_ | refine cmp_ge ?_ | refine cmp_eq ?_ | refine cmp_is rfl ?_ | refine cmp_isn rfl ?_ | refine cmp_in1 ?_ | refine cmp_nin1 ?_ | refine cmp_eqs (by assumption) (by assumption) ?_ | refine And.intro (show nsh _ = true from rfl) ?_ | refine Exists.intro _ (And.intro rfl ?_))
      refine ⟨by rw [outB_one]; rfl, ite2 (fun _ => ?_) (fun _ => rfl)⟩
      repeat (first | refine sso_cons ?_ | refine so_ret ?_ | refine so_asg ?_ | refine so_asgC ?_ | refine so_ite ?_ | refine so_expr ?_ | refine so_par ?_ | refine so_setx ?_ | refine so_aug rfl ?_ | refine eso_nil ?_ | refine eso_mv rfl ?_ | refine eso_cons (fun _ _ => rfl) ?_ | refine eo_cst rfl ?_ | refine eo_cp rfl (by first | assumption | rfl) ?_ | refine eo_mv rfl ?_ | refine eo_glb rfl ?_ | refine eo_neg ?_ | refine eo_mod ?_ | refine eo_fdiv ?_ | refine eo_mul ?_ | refine eo_pow ?_ | refine eo_bin ?_ | refine eo_cmp ?_ | refine eo_chn ?_ | refine eo_and1 ?_ | refine eo_and ?_ | refine eo_or1 ?_ | refine eo_or ?_ | refine eo_not ?_ | refine eo_ife ?_ | refine eo_lst ?_ | refine eo_tup ?_ | refine eo_ix ?_ | refine eo_sl ?_ | refine eoo_no ?_ | refine eoo_yes ?_ | refine eo_rev ?_ | refine eo_isi ?_ | refine eo_repr ?_ | refine eo_sorted ?_ | refine eo_bi ?_ | refine eo_callN rfl ?_ | refine eo_call ?_ | refine eo_callK ?_ | refine eo_mt ?_ | refine eio_rng1 ?_ | refine eio_rng2 ?_ | refine eio_zip ?_ | refine eio_any ?_ | refine eo_pur ?_ | refine to_no ?_ | refine to_yes ?_ | refine sso_nil ?_ | refine cmp_lt ?_ | refine cmp_le ?_ | refine cmp_gt ?_ | refine cmp_ge ?_ | refine cmp_eq ?_ | refine cmp_is rfl ?_ | refine cmp_isn rfl ?_ | refine cmp_in1 ?_ | refine cmp_nin1 ?_ | refine cmp_eqs (by assumption) (by assumption) ?_ | refine And.intro (show nsh _ = true from rfl) ?_ | refine Exists.intro _ (And.intro rfl ?_))
      exact ⟨rfl, rfl⟩
    · repeat (first | refine sso_cons ?_ | refine so_ret ?_ | refine so_asg ?_ | refine so_asgC ?_ | refine so_ite ?_ | refine so_expr ?_ | refine so_par ?_ | refine so_setx ?_ | refine so_aug rfl ?_ | refine eso_nil ?_ | refine eso_mv rfl ?_ | refine eso_cons (fun _ _ => rfl) ?_ | refine eo_cst rfl ?_ | refine eo_cp rfl (by first | assumption | rfl) ?_ | refine eo_mv rfl ?_ | refine eo_glb rfl ?_ | refine eo_neg ?_ | refine eo_mod ?_ | refine eo_fdiv ?_ | refine eo_mul ?_ | refine eo_pow ?_ | refine eo_bin ?_ | refine eo_cmp ?_ | refine eo_chn ?_ | refine eo_and1 ?_ | refine eo_and ?_ | refine eo_or1 ?_ | refine eo_or ?_ | refine eo_not ?_ | refine eo_ife ?_ | refine eo_lst ?_ | refine eo_tup ?_ | refine eo_ix ?_ | refine eo_sl ?_ | refine eoo_no ?_ | refine eoo_yes ?_ | refine eo_rev ?_ | refine eo_isi ?_ | refine eo_repr ?_ | refine eo_sorted ?_ | refine eo_bi ?_ | refine eo_callN rfl ?_ | refine eo_call ?_ | refine eo_callK ?_ | refine eo_mt ?_ | refine eio_rng1 ?_ | refine eio_rng2 ?_ | refine eio_zip ?_ | refine eio_any ?_ | refine eo_pur ?_ | refine to_no ?_ | refine to_yes ?_ | refine sso_nil ?_ | refine cmp_lt ?_ | refine cmp_le ?_ | refine cmp_gt ?_ | refine cmp_ge ?_ | refine cmp_eq ?_ | refine cmp_is rfl ?_ | refine cmp_isn rfl ?_ | refine cmp_in1 ?_ | refine cmp_nin1 ?_ | refine cmp_eqs (by assumption) (by assumption) ?_ | refine And.intro (show nsh _ = true from rfl) ?_ | refine Exists.intro _ (And.intro rfl ?_))
      refine ⟨line_ge (by decide), _, eq_nil (n := 0) (fun d hd => ?_) (by decide), ?_⟩
      · rw [List.map_id] at hd
        obtain ⟨c, hc, rfl⟩ := List.mem_map.mp (List.mem_filter.mp hd).1
        exact dat_str (strOk_one hv.1 hc)
      · exact ⟨by rw [out_nil]; rfl, rfl⟩
  | fn i => exact hv.elim
  | _ =>
    repeat (first | refine sso_cons ?_ | refine so_ret ?_ | refine so_asg ?_ | refine so_asgC ?_ | refine so_ite ?_ | refine so_expr ?_ | refine so_par ?_ | refine so_setx ?_ | refine so_aug rfl ?_ | refine eso_nil ?_ | refine eso_mv rfl ?_ | refine eso_cons (fun _ _ => rfl) ?_ | refine eo_cst rfl ?_ | refine eo_cp rfl (by first | assumption | rfl) ?_ | refine eo_mv rfl ?_ | refine eo_glb rfl ?_ | refine eo_neg ?_ | refine eo_mod ?_ | refine eo_fdiv ?_ | refine eo_mul ?_ | refine eo_pow ?_ | refine eo_bin ?_ | refine eo_cmp ?_ | refine eo_chn ?_ | refine eo_and1 ?_ | refine eo_and ?_ | refine eo_or1 ?_ | refine eo_or ?_ | refine eo_not ?_ | refine eo_ife ?_ | refine eo_lst ?_ | refine eo_tup ?_ | refine eo_ix ?_ | refine eo_sl ?_ | refine eoo_no ?_ | refine eoo_yes ?_ | refine eo_rev ?_ | refine eo_isi ?_ | refine eo_repr ?_ | refine eo_sorted ?_ | refine eo_bi ?_ | refine eo_callN rfl ?_ | refine eo_call ?_ | refine eo_callK ?_ | refine eo_mt ?_ | refine eio_rng1 ?_ | refine eio_rng2 ?_ | refine eio_zip ?_ | refine eio_any ?_ | refine eo_pur ?_ | refine to_no ?_ | refine to_yes ?_ | refine sso_nil ?_ | refine cmp_lt ?_ | refine cmp_le ?_ | refine cmp_gt ?_ | refine cmp_ge ?_ | refine cmp_eq ?_ | refine cmp_is rfl ?_ | refine cmp_isn rfl ?_ | refine cmp_in1 ?_ | refine cmp_nin1 ?_ | refine cmp_eqs (by assumption) (by assumption) ?_ | refine And.intro (show nsh _ = true from rfl) ?_ | refine Exists.intro _ (And.intro rfl ?_))
    exact ⟨rfl, rfl⟩
/-! ### is_name -/
def SMALL : Str := "abcdefghijklmnopqrstuvwxyz"
def SIGNS : Str := "abcdefghijklmnopqrstuvwxyz0123456789"
def headB (z : Str) : Bool := match z.cps.toList with
  | c :: _ => decide (c ∈ SMALL.cps.toList)
  | [] => false
def nameB : D → Bool
  | .str z => z.cps.toList.all (fun c => decide (c ∈ SIGNS.cps.toList)) && decide (0 < z.length) && decide (z.length ≤ 8) && headB z
  | _ => false
theorem cal1 (d : Nat) (v : D) (hv : Plain v) (hf : frz v = v) : ∃ r outs, cal (d + 2) 1 [v] = some (r, outs) ∧ r = .bl (nameB v) ∧ outs = [] := by
  refine cal_of (f := d1) rfl rfl ?_
  repeat (first | refine sso_cons ?_ | refine so_ret ?_ | refine so_asg ?_ | refine so_asgC ?_ | refine so_ite ?_ | refine so_expr ?_ | refine so_par ?_ | refine so_setx ?_ | refine so_aug rfl ?_ | refine eso_nil ?_ | refine eso_mv rfl ?_ | refine eso_cons (fun _ _ => rfl) ?_ | refine eo_cst rfl ?_ | refine eo_cp rfl (by first | assumption | rfl) ?_ | refine eo_mv rfl ?_ | refine eo_glb rfl ?_ | refine eo_neg ?_ | refine eo_mod ?_ | refine eo_fdiv ?_ | refine eo_mul ?_ | refine eo_pow ?_ | refine eo_bin ?_ | refine eo_cmp ?_ | refine eo_chn ?_ | refine eo_and1 ?_ | refine eo_and ?_ | refine eo_or1 ?_ | refine eo_or ?_ | refine eo_not ?_ | refine eo_ife ?_ | refine eo_lst ?_ | refine eo_tup ?_ | refine eo_ix ?_ | refine eo_sl ?_ | refine eoo_no ?_ | refine eoo_yes ?_ | refine eo_rev ?_ | refine eo_isi ?_ | refine eo_repr ?_ | refine eo_sorted ?_ | refine eo_bi ?_ | refine eo_callN rfl ?_ | refine eo_call ?_ | refine eo_callK ?_ | refine eo_mt ?_ | refine eio_rng1 ?_ | refine eio_rng2 ?_ | refine eio_zip ?_ | refine eio_any ?_ | refine eo_pur ?_ | refine to_no ?_ | refine to_yes ?_ | refine sso_nil ?_ | refine cmp_lt ?_ | refine cmp_le ?_ | refine cmp_gt ?_ | refine cmp_ge ?_ | refine cmp_eq ?_ | refine cmp_is rfl ?_ | refine cmp_isn rfl ?_ | refine cmp_in1 ?_ | refine cmp_nin1 ?_ | refine cmp_eqs (by assumption) (by assumption) ?_ | refine And.intro (show nsh _ = true from rfl) ?_ | refine Exists.intro _ (And.intro rfl ?_))
  obtain ⟨r, outs, h1, rfl, rfl⟩ := cal0 d v SIGNS hv hf
  refine ⟨_, _, h1, _, rfl, ite2 (fun hs => ?_) fun hs => ⟨?_, rfl⟩⟩
  · cases v <;> try (cases hs; done)
    rename_i z
    have hs : (z.cps.toList.all fun c => decide (c ∈ SIGNS.cps.toList)) = true := hs
    repeat (first | refine sso_cons ?_ | refine so_ret ?_ | refine so_asg ?_ | refine so_asgC ?_ | refine so_ite ?_ | refine so_expr ?_ | refine so_par ?_ | refine so_setx ?_ | refine so_aug rfl ?_ | refine eso_nil ?_ | refine eso_mv rfl ?_ | refine eso_cons (fun _ _ => rfl) ?_ | refine eo_cst rfl ?_ | refine eo_cp rfl (by first | assumption | rfl) ?_ | refine eo_mv rfl ?_ | refine eo_glb rfl ?_ | refine eo_neg ?_ | refine eo_mod ?_ | refine eo_fdiv ?_ | refine eo_mul ?_ | refine eo_pow ?_ | refine eo_bin ?_ | refine eo_cmp ?_ | refine eo_chn ?_ | refine eo_and1 ?_ | refine eo_and ?_ | refine eo_or1 ?_ | refine eo_or ?_ | refine eo_not ?_ | refine eo_ife ?_ | refine eo_lst ?_ | refine eo_tup ?_ | refine eo_ix ?_ | refine eo_sl ?_ | refine eoo_no ?_ | refine eoo_yes ?_ | refine eo_rev ?_ | refine eo_isi ?_ | refine eo_repr ?_ | refine eo_sorted ?_ | refine eo_bi ?_ | refine eo_callN rfl ?_ | refine eo_call ?_ | refine eo_callK ?_ | refine eo_mt ?_ | refine eio_rng1 ?_ | refine eio_rng2 ?_ | refine eio_zip ?_ | refine eio_any ?_ | refine eo_pur ?_ | refine to_no ?_ | refine to_yes ?_ | refine sso_nil ?_ | refine cmp_lt ?_ | refine cmp_le ?_ | refine cmp_gt ?_ | refine cmp_ge ?_ | refine cmp_eq ?_ | refine cmp_is rfl ?_ | refine cmp_isn rfl ?_ | refine cmp_in1 ?_ | refine cmp_nin1 ?_ | refine cmp_eqs (by assumption) (by assumption) ?_ | refine And.intro (show nsh _ = true from rfl) ?_ | refine Exists.intro _ (And.intro rfl ?_))
    refine ⟨_, len_str hv.2, ?_⟩
    repeat (first | refine sso_cons ?_ | refine so_ret ?_ | refine so_asg ?_ | refine so_asgC ?_ | refine so_ite ?_ | refine so_expr ?_ | refine so_par ?_ | refine so_setx ?_ | refine so_aug rfl ?_ | refine eso_nil ?_ | refine eso_mv rfl ?_ | refine eso_cons (fun _ _ => rfl) ?_ | refine eo_cst rfl ?_ | refine eo_cp rfl (by first | assumption | rfl) ?_ | refine eo_mv rfl ?_ | refine eo_glb rfl ?_ | refine eo_neg ?_ | refine eo_mod ?_ | refine eo_fdiv ?_ | refine eo_mul ?_ | refine eo_pow ?_ | refine eo_bin ?_ | refine eo_cmp ?_ | refine eo_chn ?_ | refine eo_and1 ?_ | refine eo_and ?_ | refine eo_or1 ?_ | refine eo_or ?_ | refine eo_not ?_ | refine eo_ife ?_ | refine eo_lst ?_ | refine eo_tup ?_ | refine eo_ix ?_ | refine eo_sl ?_ | refine eoo_no ?_ | refine eoo_yes ?_ | refine eo_rev ?_ | refine eo_isi ?_ | refine eo_repr ?_ | refine eo_sorted ?_ | refine eo_bi ?_ | refine eo_callN rfl ?_ | refine eo_call ?_ | refine eo_callK ?_ | refine eo_mt ?_ | refine eio_rng1 ?_ | refine eio_rng2 ?_ | refine eio_zip ?_ | refine eio_any ?_ | refine eo_pur ?_ | refine to_no ?_ | refine to_yes ?_ | refine sso_nil ?_ | refine cmp_lt ?_ | refine cmp_le ?_ | refine cmp_gt ?_ | refine cmp_ge ?_ | refine cmp_eq ?_ | refine cmp_is rfl ?_ | refine cmp_isn rfl ?_ | refine cmp_in1 ?_ | refine cmp_nin1 ?_ | refine cmp_eqs (by assumption) (by assumption) ?_ | refine And.intro (show nsh _ = true from rfl) ?_ | refine Exists.intro _ (And.intro rfl ?_))
    refine ite2 (fun h0 => ?_) fun h0 => ?_
    · repeat (first | refine sso_cons ?_ | refine so_ret ?_ | refine so_asg ?_ | refine so_asgC ?_ | refine so_ite ?_ | refine so_expr ?_ | refine so_par ?_ | refine so_setx ?_ | refine so_aug rfl ?_ | refine eso_nil ?_ | refine eso_mv rfl ?_ | refine eso_cons (fun _ _ => rfl) ?_ | refine eo_cst rfl ?_ | refine eo_cp rfl (by first | assumption | rfl) ?_ | refine eo_mv rfl ?_ | refine eo_glb rfl ?_ | refine eo_neg ?_ | refine eo_mod ?_ | refine eo_fdiv ?_ | refine eo_mul ?_ | refine eo_pow ?_ | refine eo_bin ?_ | refine eo_cmp ?_ | refine eo_chn ?_ | refine eo_and1 ?_ | refine eo_and ?_ | refine eo_or1 ?_ | refine eo_or ?_ | refine eo_not ?_ | refine eo_ife ?_ | refine eo_lst ?_ | refine eo_tup ?_ | refine eo_ix ?_ | refine eo_sl ?_ | refine eoo_no ?_ | refine eoo_yes ?_ | refine eo_rev ?_ | refine eo_isi ?_ | refine eo_repr ?_ | refine eo_sorted ?_ | refine eo_bi ?_ | refine eo_callN rfl ?_ | refine eo_call ?_ | refine eo_callK ?_ | refine eo_mt ?_ | refine eio_rng1 ?_ | refine eio_rng2 ?_ | refine eio_zip ?_ | refine eio_any ?_ | refine eo_pur ?_ | refine to_no ?_ | refine to_yes ?_ | refine sso_nil ?_ | refine cmp_lt ?_ | refine cmp_le ?_ | refine cmp_gt ?_ | refine cmp_ge ?_ | refine cmp_eq ?_ | refine cmp_is rfl ?_ | refine cmp_isn rfl ?_ | refine cmp_in1 ?_ | refine cmp_nin1 ?_ | refine cmp_eqs (by assumption) (by assumption) ?_ | refine And.intro (show nsh _ = true from rfl) ?_ | refine Exists.intro _ (And.intro rfl ?_))
      have h0 : (0 : Int) < z.length := of_decide_eq_true h0
      refine ite2 (fun h8 => ?_) fun h8 => ?_
      · have h8 : (z.length : Int) ≤ 8 := of_decide_eq_true h8
        repeat (first | refine sso_cons ?_ | refine so_ret ?_ | refine so_asg ?_ | refine so_asgC ?_ | refine so_ite ?_ | refine so_expr ?_ | refine so_par ?_ | refine so_setx ?_ | refine so_aug rfl ?_ | refine eso_nil ?_ | refine eso_mv rfl ?_ | refine eso_cons (fun _ _ => rfl) ?_ | refine eo_cst rfl ?_ | refine eo_cp rfl (by first | assumption | rfl) ?_ | refine eo_mv rfl ?_ | refine eo_glb rfl ?_ | refine eo_neg ?_ | refine eo_mod ?_ | refine eo_fdiv ?_ | refine eo_mul ?_ | refine eo_pow ?_ | refine eo_bin ?_ | refine eo_cmp ?_ | refine eo_chn ?_ | refine eo_and1 ?_ | refine eo_and ?_ | refine eo_or1 ?_ | refine eo_or ?_ | refine eo_not ?_ | refine eo_ife ?_ | refine eo_lst ?_ | refine eo_tup ?_ | refine eo_ix ?_ | refine eo_sl ?_ | refine eoo_no ?_ | refine eoo_yes ?_ | refine eo_rev ?_ | refine eo_isi ?_ | refine eo_repr ?_ | refine eo_sorted ?_ | refine eo_bi ?_ | refine eo_callN rfl ?_ | refine eo_call ?_ | refine eo_callK ?_ | refine eo_mt ?_ | refine eio_rng1 ?_ | refine eio_rng2 ?_ | refine eio_zip ?_ | refine eio_any ?_ | refine eo_pur ?_ | refine to_no ?_ | refine to_yes ?_ | refine sso_nil ?_ | refine cmp_lt ?_ | refine cmp_le ?_ | refine cmp_gt ?_ | refine cmp_ge ?_ | refine cmp_eq ?_ | refine cmp_is rfl ?_ | refine cmp_isn rfl ?_ | refine cmp_in1 ?_ | refine cmp_nin1 ?_ | refine cmp_eqs (by assumption) (by assumption) ?_ | refine And.intro (show nsh _ = true from rfl) ?_ | refine Exists.intro _ (And.intro rfl ?_))
        obtain ⟨c, cs, hc⟩ : ∃ c cs, z.cps.toList = c :: cs := by
          cases e : z.cps.toList with
          | nil => rw [len_cps, e] at h0; exact absurd h0 (by simp)
          | cons c cs => exact ⟨c, cs, rfl⟩
        refine ⟨_, ix_str0 hc hv.2, ?_⟩
        repeat (first | refine sso_cons ?_ | refine so_ret ?_ | refine so_asg ?_ | refine so_asgC ?_ | refine so_ite ?_ | refine so_expr ?_ | refine so_par ?_ | refine so_setx ?_ | refine so_aug rfl ?_ | refine eso_nil ?_ | refine eso_mv rfl ?_ | refine eso_cons (fun _ _ => rfl) ?_ | refine eo_cst rfl ?_ | refine eo_cp rfl (by first | assumption | rfl) ?_ | refine eo_mv rfl ?_ | refine eo_glb rfl ?_ | refine eo_neg ?_ | refine eo_mod ?_ | refine eo_fdiv ?_ | refine eo_mul ?_ | refine eo_pow ?_ | refine eo_bin ?_ | refine eo_cmp ?_ | refine eo_chn ?_ | refine eo_and1 ?_ | refine eo_and ?_ | refine eo_or1 ?_ | refine eo_or ?_ | refine eo_not ?_ | refine eo_ife ?_ | refine eo_lst ?_ | refine eo_tup ?_ | refine eo_ix ?_ | refine eo_sl ?_ | refine eoo_no ?_ | refine eoo_yes ?_ | refine eo_rev ?_ | refine eo_isi ?_ | refine eo_repr ?_ | refine eo_sorted ?_ | refine eo_bi ?_ | refine eo_callN rfl ?_ | refine eo_call ?_ | refine eo_callK ?_ | refine eo_mt ?_ | refine eio_rng1 ?_ | refine eio_rng2 ?_ | refine eio_zip ?_ | refine eio_any ?_ | refine eo_pur ?_ | refine to_no ?_ | refine to_yes ?_ | refine sso_nil ?_ | refine cmp_lt ?_ | refine cmp_le ?_ | refine cmp_gt ?_ | refine cmp_ge ?_ | refine cmp_eq ?_ | refine cmp_is rfl ?_ | refine cmp_isn rfl ?_ | refine cmp_in1 ?_ | refine cmp_nin1 ?_ | refine cmp_eqs (by assumption) (by assumption) ?_ | refine And.intro (show nsh _ = true from rfl) ?_ | refine Exists.intro _ (And.intro rfl ?_))
        refine ⟨?_, rfl⟩
        have hh : headB z = decide (c ∈ SMALL.cps.toList) := by unfold headB; rw [hc]
        show D.bl (decide (c ∈ SMALL.cps.toList)) = D.bl (_ && _ && _ && headB z)
        rw [hs, decide_eq_true (show 0 < z.length by omega), decide_eq_true (show z.length ≤ 8 by omega), hh]
        rfl
      · refine ⟨?_, rfl⟩
        have h8 : ¬ (z.length : Int) ≤ 8 := fun h => h8 (decide_eq_true h)
        show D.bl (decide ((z.length : Int) ≤ 8)) = D.bl (_ && _ && _ && _)
        rw [decide_eq_false h8, decide_eq_false (show ¬ z.length ≤ 8 by omega), Bool.and_false, Bool.false_and]
    · refine ⟨_, rfl, ?_⟩
      refine iteF ?_
      have h0 : ¬ (0 : Int) < z.length := fun h => h0 (decide_eq_true h)
      refine ⟨?_, rfl⟩
      show D.bl false = D.bl (_ && _ && _ && _)
      rw [decide_eq_false (show ¬ 0 < z.length by omega), Bool.and_false, Bool.false_and, Bool.false_and]
  · have : signsB SIGNS v = false := by simpa using hs
    cases v <;> first | exact congrArg D.bl this | skip
    rename_i z
    have this : (z.cps.toList.all fun c => decide (c ∈ SIGNS.cps.toList)) = false := this
    show D.bl (z.cps.toList.all fun c => decide (c ∈ SIGNS.cps.toList)) = D.bl (_ && _ && _ && _)
    rw [this, Bool.false_and, Bool.false_and, Bool.false_and]
/-! ### _law_hash -/
theorem cal4 (d : Nat) (a b : Int) (ha : 0 ≤ a ∧ a < 2 ^ 31) (hb : 0 ≤ b ∧ b < 2 ^ 100) : ∃ r outs, cal (d + 1) 4 [.int a, .int b] = some (r, outs) ∧ (∃ h : Int, r = .int h ∧ 0 ≤ h ∧ h < 2147483647) ∧ outs = [] := by
  refine cal_of (f := d4) rfl rfl ?_
  have na : a.natAbs < 2 ^ 31 := by omega
  have nb : b.natAbs < 2 ^ 100 := by omega
  repeat (first | refine sso_cons ?_ | refine so_ret ?_ | refine so_asg ?_ | refine so_asgC ?_ | refine so_ite ?_ | refine so_expr ?_ | refine so_par ?_ | refine so_setx ?_ | refine so_aug rfl ?_ | refine eso_nil ?_ | refine eso_mv rfl ?_ | refine eso_cons (fun _ _ => rfl) ?_ | refine eo_cst rfl ?_ | refine eo_cp rfl (by first | assumption | rfl) ?_ | refine eo_mv rfl ?_ | refine eo_glb rfl ?_ | refine eo_neg ?_ | refine eo_mod ?_ | refine eo_fdiv ?_ | refine eo_mul ?_ | refine eo_pow ?_ | refine eo_bin ?_ | refine eo_cmp ?_ | refine eo_chn ?_ | refine eo_and1 ?_ | refine eo_and ?_ | refine eo_or1 ?_ | refine eo_or ?_ | refine eo_not ?_ | refine eo_ife ?_ | refine eo_lst ?_ | refine eo_tup ?_ | refine eo_ix ?_ | refine eo_sl ?_ | refine eoo_no ?_ | refine eoo_yes ?_ | refine eo_rev ?_ | refine eo_isi ?_ | refine eo_repr ?_ | refine eo_sorted ?_ | refine eo_bi ?_ | refine eo_callN rfl ?_ | refine eo_call ?_ | refine eo_callK ?_ | refine eo_mt ?_ | refine eio_rng1 ?_ | refine eio_rng2 ?_ | refine eio_zip ?_ | refine eio_any ?_ | refine eo_pur ?_ | refine to_no ?_ | refine to_yes ?_ | refine sso_nil ?_ | refine cmp_lt ?_ | refine cmp_le ?_ | refine cmp_gt ?_ | refine cmp_ge ?_ | refine cmp_eq ?_ | refine cmp_is rfl ?_ | refine cmp_isn rfl ?_ | refine cmp_in1 ?_ | refine cmp_nin1 ?_ | refine cmp_eqs (by assumption) (by assumption) ?_ | refine And.intro (show nsh _ = true from rfl) ?_ | refine Exists.intro _ (And.intro rfl ?_))
  refine mulO_ok 31 21 na (by decide +kernel) (by decide +kernel) ?_
  repeat (first | refine sso_cons ?_ | refine so_ret ?_ | refine so_asg ?_ | refine so_asgC ?_ | refine so_ite ?_ | refine so_expr ?_ | refine so_par ?_ | refine so_setx ?_ | refine so_aug rfl ?_ | refine eso_nil ?_ | refine eso_mv rfl ?_ | refine eso_cons (fun _ _ => rfl) ?_ | refine eo_cst rfl ?_ | refine eo_cp rfl (by first | assumption | rfl) ?_ | refine eo_mv rfl ?_ | refine eo_glb rfl ?_ | refine eo_neg ?_ | refine eo_mod ?_ | refine eo_fdiv ?_ | refine eo_mul ?_ | refine eo_pow ?_ | refine eo_bin ?_ | refine eo_cmp ?_ | refine eo_chn ?_ | refine eo_and1 ?_ | refine eo_and ?_ | refine eo_or1 ?_ | refine eo_or ?_ | refine eo_not ?_ | refine eo_ife ?_ | refine eo_lst ?_ | refine eo_tup ?_ | refine eo_ix ?_ | refine eo_sl ?_ | refine eoo_no ?_ | refine eoo_yes ?_ | refine eo_rev ?_ | refine eo_isi ?_ | refine eo_repr ?_ | refine eo_sorted ?_ | refine eo_bi ?_ | refine eo_callN rfl ?_ | refine eo_call ?_ | refine eo_callK ?_ | refine eo_mt ?_ | refine eio_rng1 ?_ | refine eio_rng2 ?_ | refine eio_zip ?_ | refine eio_any ?_ | refine eo_pur ?_ | refine to_no ?_ | refine to_yes ?_ | refine sso_nil ?_ | refine cmp_lt ?_ | refine cmp_le ?_ | refine cmp_gt ?_ | refine cmp_ge ?_ | refine cmp_eq ?_ | refine cmp_is rfl ?_ | refine cmp_isn rfl ?_ | refine cmp_in1 ?_ | refine cmp_nin1 ?_ | refine cmp_eqs (by assumption) (by assumption) ?_ | refine And.intro (show nsh _ = true from rfl) ?_ | refine Exists.intro _ (And.intro rfl ?_))
  refine mulO_ok 25 100 (by decide +kernel) nb (by decide +kernel) ?_
  repeat (first | refine sso_cons ?_ | refine so_ret ?_ | refine so_asg ?_ | refine so_asgC ?_ | refine so_ite ?_ | refine so_expr ?_ | refine so_par ?_ | refine so_setx ?_ | refine so_aug rfl ?_ | refine eso_nil ?_ | refine eso_mv rfl ?_ | refine eso_cons (fun _ _ => rfl) ?_ | refine eo_cst rfl ?_ | refine eo_cp rfl (by first | assumption | rfl) ?_ | refine eo_mv rfl ?_ | refine eo_glb rfl ?_ | refine eo_neg ?_ | refine eo_mod ?_ | refine eo_fdiv ?_ | refine eo_mul ?_ | refine eo_pow ?_ | refine eo_bin ?_ | refine eo_cmp ?_ | refine eo_chn ?_ | refine eo_and1 ?_ | refine eo_and ?_ | refine eo_or1 ?_ | refine eo_or ?_ | refine eo_not ?_ | refine eo_ife ?_ | refine eo_lst ?_ | refine eo_tup ?_ | refine eo_ix ?_ | refine eo_sl ?_ | refine eoo_no ?_ | refine eoo_yes ?_ | refine eo_rev ?_ | refine eo_isi ?_ | refine eo_repr ?_ | refine eo_sorted ?_ | refine eo_bi ?_ | refine eo_callN rfl ?_ | refine eo_call ?_ | refine eo_callK ?_ | refine eo_mt ?_ | refine eio_rng1 ?_ | refine eio_rng2 ?_ | refine eio_zip ?_ | refine eio_any ?_ | refine eo_pur ?_ | refine to_no ?_ | refine to_yes ?_ | refine sso_nil ?_ | refine cmp_lt ?_ | refine cmp_le ?_ | refine cmp_gt ?_ | refine cmp_ge ?_ | refine cmp_eq ?_ | refine cmp_is rfl ?_ | refine cmp_isn rfl ?_ | refine cmp_in1 ?_ | refine cmp_nin1 ?_ | refine cmp_eqs (by assumption) (by assumption) ?_ | refine And.intro (show nsh _ = true from rfl) ?_ | refine Exists.intro _ (And.intro rfl ?_))
  refine mulO_ok 125 100 (mul_lt (n := 25) (m := 100) (by decide +kernel) nb) nb (by decide +kernel) ?_
  repeat (first | refine sso_cons ?_ | refine so_ret ?_ | refine so_asg ?_ | refine so_asgC ?_ | refine so_ite ?_ | refine so_expr ?_ | refine so_par ?_ | refine so_setx ?_ | refine so_aug rfl ?_ | refine eso_nil ?_ | refine eso_mv rfl ?_ | refine eso_cons (fun _ _ => rfl) ?_ | refine eo_cst rfl ?_ | refine eo_cp rfl (by first | assumption | rfl) ?_ | refine eo_mv rfl ?_ | refine eo_glb rfl ?_ | refine eo_neg ?_ | refine eo_mod ?_ | refine eo_fdiv ?_ | refine eo_mul ?_ | refine eo_pow ?_ | refine eo_bin ?_ | refine eo_cmp ?_ | refine eo_chn ?_ | refine eo_and1 ?_ | refine eo_and ?_ | refine eo_or1 ?_ | refine eo_or ?_ | refine eo_not ?_ | refine eo_ife ?_ | refine eo_lst ?_ | refine eo_tup ?_ | refine eo_ix ?_ | refine eo_sl ?_ | refine eoo_no ?_ | refine eoo_yes ?_ | refine eo_rev ?_ | refine eo_isi ?_ | refine eo_repr ?_ | refine eo_sorted ?_ | refine eo_bi ?_ | refine eo_callN rfl ?_ | refine eo_call ?_ | refine eo_callK ?_ | refine eo_mt ?_ | refine eio_rng1 ?_ | refine eio_rng2 ?_ | refine eio_zip ?_ | refine eio_any ?_ | refine eo_pur ?_ | refine to_no ?_ | refine to_yes ?_ | refine sso_nil ?_ | refine cmp_lt ?_ | refine cmp_le ?_ | refine cmp_gt ?_ | refine cmp_ge ?_ | refine cmp_eq ?_ | refine cmp_is rfl ?_ | refine cmp_isn rfl ?_ | refine cmp_in1 ?_ | refine cmp_nin1 ?_ | refine cmp_eqs (by assumption) (by assumption) ?_ | refine And.intro (show nsh _ = true from rfl) ?_ | refine Exists.intro _ (And.intro rfl ?_))
  refine mulO_ok 8 100 (by decide +kernel) nb (by decide +kernel) ?_
  repeat (first | refine sso_cons ?_ | refine so_ret ?_ | refine so_asg ?_ | refine so_asgC ?_ | refine so_ite ?_ | refine so_expr ?_ | refine so_par ?_ | refine so_setx ?_ | refine so_aug rfl ?_ | refine eso_nil ?_ | refine eso_mv rfl ?_ | refine eso_cons (fun _ _ => rfl) ?_ | refine eo_cst rfl ?_ | refine eo_cp rfl (by first | assumption | rfl) ?_ | refine eo_mv rfl ?_ | refine eo_glb rfl ?_ | refine eo_neg ?_ | refine eo_mod ?_ | refine eo_fdiv ?_ | refine eo_mul ?_ | refine eo_pow ?_ | refine eo_bin ?_ | refine eo_cmp ?_ | refine eo_chn ?_ | refine eo_and1 ?_ | refine eo_and ?_ | refine eo_or1 ?_ | refine eo_or ?_ | refine eo_not ?_ | refine eo_ife ?_ | refine eo_lst ?_ | refine eo_tup ?_ | refine eo_ix ?_ | refine eo_sl ?_ | refine eoo_no ?_ | refine eoo_yes ?_ | refine eo_rev ?_ | refine eo_isi ?_ | refine eo_repr ?_ | refine eo_sorted ?_ | refine eo_bi ?_ | refine eo_callN rfl ?_ | refine eo_call ?_ | refine eo_callK ?_ | refine eo_mt ?_ | refine eio_rng1 ?_ | refine eio_rng2 ?_ | refine eio_zip ?_ | refine eio_any ?_ | refine eo_pur ?_ | refine to_no ?_ | refine to_yes ?_ | refine sso_nil ?_ | refine cmp_lt ?_ | refine cmp_le ?_ | refine cmp_gt ?_ | refine cmp_ge ?_ | refine cmp_eq ?_ | refine cmp_is rfl ?_ | refine cmp_isn rfl ?_ | refine cmp_in1 ?_ | refine cmp_nin1 ?_ | refine cmp_eqs (by assumption) (by assumption) ?_ | refine And.intro (show nsh _ = true from rfl) ?_ | refine Exists.intro _ (And.intro rfl ?_))
  refine modO_ok (by decide +kernel) ?_
  repeat (first | refine sso_cons ?_ | refine so_ret ?_ | refine so_asg ?_ | refine so_asgC ?_ | refine so_ite ?_ | refine so_expr ?_ | refine so_par ?_ | refine so_setx ?_ | refine so_aug rfl ?_ | refine eso_nil ?_ | refine eso_mv rfl ?_ | refine eso_cons (fun _ _ => rfl) ?_ | refine eo_cst rfl ?_ | refine eo_cp rfl (by first | assumption | rfl) ?_ | refine eo_mv rfl ?_ | refine eo_glb rfl ?_ | refine eo_neg ?_ | refine eo_mod ?_ | refine eo_fdiv ?_ | refine eo_mul ?_ | refine eo_pow ?_ | refine eo_bin ?_ | refine eo_cmp ?_ | refine eo_chn ?_ | refine eo_and1 ?_ | refine eo_and ?_ | refine eo_or1 ?_ | refine eo_or ?_ | refine eo_not ?_ | refine eo_ife ?_ | refine eo_lst ?_ | refine eo_tup ?_ | refine eo_ix ?_ | refine eo_sl ?_ | refine eoo_no ?_ | refine eoo_yes ?_ | refine eo_rev ?_ | refine eo_isi ?_ | refine eo_repr ?_ | refine eo_sorted ?_ | refine eo_bi ?_ | refine eo_callN rfl ?_ | refine eo_call ?_ | refine eo_callK ?_ | refine eo_mt ?_ | refine eio_rng1 ?_ | refine eio_rng2 ?_ | refine eio_zip ?_ | refine eio_any ?_ | refine eo_pur ?_ | refine to_no ?_ | refine to_yes ?_ | refine sso_nil ?_ | refine cmp_lt ?_ | refine cmp_le ?_ | refine cmp_gt ?_ | refine cmp_ge ?_ | refine cmp_eq ?_ | refine cmp_is rfl ?_ | refine cmp_isn rfl ?_ | refine cmp_in1 ?_ | refine cmp_nin1 ?_ | refine cmp_eqs (by assumption) (by assumption) ?_ | refine And.intro (show nsh _ = true from rfl) ?_ | refine Exists.intro _ (And.intro rfl ?_))
  generalize hm : (a * 1140671 + 27644437 * b * b + 131 * b + 19) % 2147483629 = m
  have m1 : 0 ≤ m ∧ m < 2147483629 := by omega
  have nm : m.natAbs < 2 ^ 31 := by omega
  clear hm
  refine mulO_ok 31 31 nm nm (by decide +kernel) ?_
  repeat (first | refine sso_cons ?_ | refine so_ret ?_ | refine so_asg ?_ | refine so_asgC ?_ | refine so_ite ?_ | refine so_expr ?_ | refine so_par ?_ | refine so_setx ?_ | refine so_aug rfl ?_ | refine eso_nil ?_ | refine eso_mv rfl ?_ | refine eso_cons (fun _ _ => rfl) ?_ | refine eo_cst rfl ?_ | refine eo_cp rfl (by first | assumption | rfl) ?_ | refine eo_mv rfl ?_ | refine eo_glb rfl ?_ | refine eo_neg ?_ | refine eo_mod ?_ | refine eo_fdiv ?_ | refine eo_mul ?_ | refine eo_pow ?_ | refine eo_bin ?_ | refine eo_cmp ?_ | refine eo_chn ?_ | refine eo_and1 ?_ | refine eo_and ?_ | refine eo_or1 ?_ | refine eo_or ?_ | refine eo_not ?_ | refine eo_ife ?_ | refine eo_lst ?_ | refine eo_tup ?_ | refine eo_ix ?_ | refine eo_sl ?_ | refine eoo_no ?_ | refine eoo_yes ?_ | refine eo_rev ?_ | refine eo_isi ?_ | refine eo_repr ?_ | refine eo_sorted ?_ | refine eo_bi ?_ | refine eo_callN rfl ?_ | refine eo_call ?_ | refine eo_callK ?_ | refine eo_mt ?_ | refine eio_rng1 ?_ | refine eio_rng2 ?_ | refine eio_zip ?_ | refine eio_any ?_ | refine eo_pur ?_ | refine to_no ?_ | refine to_yes ?_ | refine sso_nil ?_ | refine cmp_lt ?_ | refine cmp_le ?_ | refine cmp_gt ?_ | refine cmp_ge ?_ | refine cmp_eq ?_ | refine cmp_is rfl ?_ | refine cmp_isn rfl ?_ | refine cmp_in1 ?_ | refine cmp_nin1 ?_ | refine cmp_eqs (by assumption) (by assumption) ?_ | refine And.intro (show nsh _ = true from rfl) ?_ | refine Exists.intro _ (And.intro rfl ?_))
  refine mulO_ok 16 100 (by decide +kernel) nb (by decide +kernel) ?_
  repeat (first | refine sso_cons ?_ | refine so_ret ?_ | refine so_asg ?_ | refine so_asgC ?_ | refine so_ite ?_ | refine so_expr ?_ | refine so_par ?_ | refine so_setx ?_ | refine so_aug rfl ?_ | refine eso_nil ?_ | refine eso_mv rfl ?_ | refine eso_cons (fun _ _ => rfl) ?_ | refine eo_cst rfl ?_ | refine eo_cp rfl (by first | assumption | rfl) ?_ | refine eo_mv rfl ?_ | refine eo_glb rfl ?_ | refine eo_neg ?_ | refine eo_mod ?_ | refine eo_fdiv ?_ | refine eo_mul ?_ | refine eo_pow ?_ | refine eo_bin ?_ | refine eo_cmp ?_ | refine eo_chn ?_ | refine eo_and1 ?_ | refine eo_and ?_ | refine eo_or1 ?_ | refine eo_or ?_ | refine eo_not ?_ | refine eo_ife ?_ | refine eo_lst ?_ | refine eo_tup ?_ | refine eo_ix ?_ | refine eo_sl ?_ | refine eoo_no ?_ | refine eoo_yes ?_ | refine eo_rev ?_ | refine eo_isi ?_ | refine eo_repr ?_ | refine eo_sorted ?_ | refine eo_bi ?_ | refine eo_callN rfl ?_ | refine eo_call ?_ | refine eo_callK ?_ | refine eo_mt ?_ | refine eio_rng1 ?_ | refine eio_rng2 ?_ | refine eio_zip ?_ | refine eio_any ?_ | refine eo_pur ?_ | refine to_no ?_ | refine to_yes ?_ | refine sso_nil ?_ | refine cmp_lt ?_ | refine cmp_le ?_ | refine cmp_gt ?_ | refine cmp_ge ?_ | refine cmp_eq ?_ | refine cmp_is rfl ?_ | refine cmp_isn rfl ?_ | refine cmp_in1 ?_ | refine cmp_nin1 ?_ | refine cmp_eqs (by assumption) (by assumption) ?_ | refine And.intro (show nsh _ = true from rfl) ?_ | refine Exists.intro _ (And.intro rfl ?_))
  refine modO_ok (by decide +kernel) ?_
  repeat (first | refine sso_cons ?_ | refine so_ret ?_ | refine so_asg ?_ | refine so_asgC ?_ | refine so_ite ?_ | refine so_expr ?_ | refine so_par ?_ | refine so_setx ?_ | refine so_aug rfl ?_ | refine eso_nil ?_ | refine eso_mv rfl ?_ | refine eso_cons (fun _ _ => rfl) ?_ | refine eo_cst rfl ?_ | refine eo_cp rfl (by first | assumption | rfl) ?_ | refine eo_mv rfl ?_ | refine eo_glb rfl ?_ | refine eo_neg ?_ | refine eo_mod ?_ | refine eo_fdiv ?_ | refine eo_mul ?_ | refine eo_pow ?_ | refine eo_bin ?_ | refine eo_cmp ?_ | refine eo_chn ?_ | refine eo_and1 ?_ | refine eo_and ?_ | refine eo_or1 ?_ | refine eo_or ?_ | refine eo_not ?_ | refine eo_ife ?_ | refine eo_lst ?_ | refine eo_tup ?_ | refine eo_ix ?_ | refine eo_sl ?_ | refine eoo_no ?_ | refine eoo_yes ?_ | refine eo_rev ?_ | refine eo_isi ?_ | refine eo_repr ?_ | refine eo_sorted ?_ | refine eo_bi ?_ | refine eo_callN rfl ?_ | refine eo_call ?_ | refine eo_callK ?_ | refine eo_mt ?_ | refine eio_rng1 ?_ | refine eio_rng2 ?_ | refine eio_zip ?_ | refine eio_any ?_ | refine eo_pur ?_ | refine to_no ?_ | refine to_yes ?_ | refine sso_nil ?_ | refine cmp_lt ?_ | refine cmp_le ?_ | refine cmp_gt ?_ | refine cmp_ge ?_ | refine cmp_eq ?_ | refine cmp_is rfl ?_ | refine cmp_isn rfl ?_ | refine cmp_in1 ?_ | refine cmp_nin1 ?_ | refine cmp_eqs (by assumption) (by assumption) ?_ | refine And.intro (show nsh _ = true from rfl) ?_ | refine Exists.intro _ (And.intro rfl ?_))
  generalize hm : (m * m + 62089 * b + 32416187) % 2147483587 = m2
  have m3 : 0 ≤ m2 ∧ m2 < 2147483587 := by omega
  have nm2 : m2.natAbs < 2 ^ 31 := by omega
  clear hm
  refine mulO_ok 31 16 nm2 (by decide +kernel) (by decide +kernel) ?_
  repeat (first | refine sso_cons ?_ | refine so_ret ?_ | refine so_asg ?_ | refine so_asgC ?_ | refine so_ite ?_ | refine so_expr ?_ | refine so_par ?_ | refine so_setx ?_ | refine so_aug rfl ?_ | refine eso_nil ?_ | refine eso_mv rfl ?_ | refine eso_cons (fun _ _ => rfl) ?_ | refine eo_cst rfl ?_ | refine eo_cp rfl (by first | assumption | rfl) ?_ | refine eo_mv rfl ?_ | refine eo_glb rfl ?_ | refine eo_neg ?_ | refine eo_mod ?_ | refine eo_fdiv ?_ | refine eo_mul ?_ | refine eo_pow ?_ | refine eo_bin ?_ | refine eo_cmp ?_ | refine eo_chn ?_ | refine eo_and1 ?_ | refine eo_and ?_ | refine eo_or1 ?_ | refine eo_or ?_ | refine eo_not ?_ | refine eo_ife ?_ | refine eo_lst ?_ | refine eo_tup ?_ | refine eo_ix ?_ | refine eo_sl ?_ | refine eoo_no ?_ | refine eoo_yes ?_ | refine eo_rev ?_ | refine eo_isi ?_ | refine eo_repr ?_ | refine eo_sorted ?_ | refine eo_bi ?_ | refine eo_callN rfl ?_ | refine eo_call ?_ | refine eo_callK ?_ | refine eo_mt ?_ | refine eio_rng1 ?_ | refine eio_rng2 ?_ | refine eio_zip ?_ | refine eio_any ?_ | refine eo_pur ?_ | refine to_no ?_ | refine to_yes ?_ | refine sso_nil ?_ | refine cmp_lt ?_ | refine cmp_le ?_ | refine cmp_gt ?_ | refine cmp_ge ?_ | refine cmp_eq ?_ | refine cmp_is rfl ?_ | refine cmp_isn rfl ?_ | refine cmp_in1 ?_ | refine cmp_nin1 ?_ | refine cmp_eqs (by assumption) (by assumption) ?_ | refine And.intro (show nsh _ = true from rfl) ?_ | refine Exists.intro _ (And.intro rfl ?_))
  refine modO_ok (by decide +kernel) ?_
  exact ⟨⟨_, rfl, by omega, by omega⟩, rfl⟩
/-! ### _law_cell, _law_generator -/
abbrev scr (ns : List Int) : D := .lst .ext (ns.map .int)
def Sm (i : Int) : Prop := Builtin.Int.intBits i ≤ 1048576
theorem cal5 (d : Nat) (ns : List Int) (hb : ∀ z ∈ ns, Sm z) (k : Nat) : ∃ r outs, cal (d + 1) 5 [scr ns, .int k] = some (r, outs) ∧ (∃ h : Int, r = .int h ∧ Sm h) ∧ outs = [] := by
  refine cal_of (f := d5) rfl rfl ?_
  have hf := frz_ints ns
  repeat (first | refine sso_cons ?_ | refine so_ret ?_ | refine so_asg ?_ | refine so_asgC ?_ | refine so_ite ?_ | refine so_expr ?_ | refine so_par ?_ | refine so_setx ?_ | refine so_aug rfl ?_ | refine eso_nil ?_ | refine eso_mv rfl ?_ | refine eso_cons (fun _ _ => rfl) ?_ | refine eo_cst rfl ?_ | refine eo_cp rfl (by first | assumption | rfl) ?_ | refine eo_mv rfl ?_ | refine eo_glb rfl ?_ | refine eo_neg ?_ | refine eo_mod ?_ | refine eo_fdiv ?_ | refine eo_mul ?_ | refine eo_pow ?_ | refine eo_bin ?_ | refine eo_cmp ?_ | refine eo_chn ?_ | refine eo_and1 ?_ | refine eo_and ?_ | refine eo_or1 ?_ | refine eo_or ?_ | refine eo_not ?_ | refine eo_ife ?_ | refine eo_lst ?_ | refine eo_tup ?_ | refine eo_ix ?_ | refine eo_sl ?_ | refine eoo_no ?_ | refine eoo_yes ?_ | refine eo_rev ?_ | refine eo_isi ?_ | refine eo_repr ?_ | refine eo_sorted ?_ | refine eo_bi ?_ | refine eo_callN rfl ?_ | refine eo_call ?_ | refine eo_callK ?_ | refine eo_mt ?_ | refine eio_rng1 ?_ | refine eio_rng2 ?_ | refine eio_zip ?_ | refine eio_any ?_ | refine eo_pur ?_ | refine to_no ?_ | refine to_yes ?_ | refine sso_nil ?_ | refine cmp_lt ?_ | refine cmp_le ?_ | refine cmp_gt ?_ | refine cmp_ge ?_ | refine cmp_eq ?_ | refine cmp_is rfl ?_ | refine cmp_isn rfl ?_ | refine cmp_in1 ?_ | refine cmp_nin1 ?_ | refine cmp_eqs (by assumption) (by assumption) ?_ | refine And.intro (show nsh _ = true from rfl) ?_ | refine Exists.intro _ (And.intro rfl ?_))
  refine ite2 (fun h => ?_) fun h => ?_
  · have h : (k : Int) < ((ns.map D.int).length : Nat) := of_decide_eq_true h
    have hk : k < ns.length := by rw [List.length_map] at h; omega
    repeat (first | refine sso_cons ?_ | refine so_ret ?_ | refine so_asg ?_ | refine so_asgC ?_ | refine so_ite ?_ | refine so_expr ?_ | refine so_par ?_ | refine so_setx ?_ | refine so_aug rfl ?_ | refine eso_nil ?_ | refine eso_mv rfl ?_ | refine eso_cons (fun _ _ => rfl) ?_ | refine eo_cst rfl ?_ | refine eo_cp rfl (by first | assumption | rfl) ?_ | refine eo_mv rfl ?_ | refine eo_glb rfl ?_ | refine eo_neg ?_ | refine eo_mod ?_ | refine eo_fdiv ?_ | refine eo_mul ?_ | refine eo_pow ?_ | refine eo_bin ?_ | refine eo_cmp ?_ | refine eo_chn ?_ | refine eo_and1 ?_ | refine eo_and ?_ | refine eo_or1 ?_ | refine eo_or ?_ | refine eo_not ?_ | refine eo_ife ?_ | refine eo_lst ?_ | refine eo_tup ?_ | refine eo_ix ?_ | refine eo_sl ?_ | refine eoo_no ?_ | refine eoo_yes ?_ | refine eo_rev ?_ | refine eo_isi ?_ | refine eo_repr ?_ | refine eo_sorted ?_ | refine eo_bi ?_ | refine eo_callN rfl ?_ | refine eo_call ?_ | refine eo_callK ?_ | refine eo_mt ?_ | refine eio_rng1 ?_ | refine eio_rng2 ?_ | refine eio_zip ?_ | refine eio_any ?_ | refine eo_pur ?_ | refine to_no ?_ | refine to_yes ?_ | refine sso_nil ?_ | refine cmp_lt ?_ | refine cmp_le ?_ | refine cmp_gt ?_ | refine cmp_ge ?_ | refine cmp_eq ?_ | refine cmp_is rfl ?_ | refine cmp_isn rfl ?_ | refine cmp_in1 ?_ | refine cmp_nin1 ?_ | refine cmp_eqs (by assumption) (by assumption) ?_ | refine And.intro (show nsh _ = true from rfl) ?_ | refine Exists.intro _ (And.intro rfl ?_))
    refine ⟨_, ix_nat (d := .int ns[k]) (by rw [List.getElem?_map, List.getElem?_eq_getElem hk]; rfl), ?_⟩
    exact ⟨⟨_, rfl, hb _ (List.getElem_mem hk)⟩, rfl⟩
  · repeat (first | refine sso_cons ?_ | refine so_ret ?_ | refine so_asg ?_ | refine so_asgC ?_ | refine so_ite ?_ | refine so_expr ?_ | refine so_par ?_ | refine so_setx ?_ | refine so_aug rfl ?_ | refine eso_nil ?_ | refine eso_mv rfl ?_ | refine eso_cons (fun _ _ => rfl) ?_ | refine eo_cst rfl ?_ | refine eo_cp rfl (by first | assumption | rfl) ?_ | refine eo_mv rfl ?_ | refine eo_glb rfl ?_ | refine eo_neg ?_ | refine eo_mod ?_ | refine eo_fdiv ?_ | refine eo_mul ?_ | refine eo_pow ?_ | refine eo_bin ?_ | refine eo_cmp ?_ | refine eo_chn ?_ | refine eo_and1 ?_ | refine eo_and ?_ | refine eo_or1 ?_ | refine eo_or ?_ | refine eo_not ?_ | refine eo_ife ?_ | refine eo_lst ?_ | refine eo_tup ?_ | refine eo_ix ?_ | refine eo_sl ?_ | refine eoo_no ?_ | refine eoo_yes ?_ | refine eo_rev ?_ | refine eo_isi ?_ | refine eo_repr ?_ | refine eo_sorted ?_ | refine eo_bi ?_ | refine eo_callN rfl ?_ | refine eo_call ?_ | refine eo_callK ?_ | refine eo_mt ?_ | refine eio_rng1 ?_ | refine eio_rng2 ?_ | refine eio_zip ?_ | refine eio_any ?_ | refine eo_pur ?_ | refine to_no ?_ | refine to_yes ?_ | refine sso_nil ?_ | refine cmp_lt ?_ | refine cmp_le ?_ | refine cmp_gt ?_ | refine cmp_ge ?_ | refine cmp_eq ?_ | refine cmp_is rfl ?_ | refine cmp_isn rfl ?_ | refine cmp_in1 ?_ | refine cmp_nin1 ?_ | refine cmp_eqs (by assumption) (by assumption) ?_ | refine And.intro (show nsh _ = true from rfl) ?_ | refine Exists.intro _ (And.intro rfl ?_))
    rw [cut_ints]
    refine ⟨_, sum_ints _, ?_⟩
    repeat (first | refine sso_cons ?_ | refine so_ret ?_ | refine so_asg ?_ | refine so_asgC ?_ | refine so_ite ?_ | refine so_expr ?_ | refine so_par ?_ | refine so_setx ?_ | refine so_aug rfl ?_ | refine eso_nil ?_ | refine eso_mv rfl ?_ | refine eso_cons (fun _ _ => rfl) ?_ | refine eo_cst rfl ?_ | refine eo_cp rfl (by first | assumption | rfl) ?_ | refine eo_mv rfl ?_ | refine eo_glb rfl ?_ | refine eo_neg ?_ | refine eo_mod ?_ | refine eo_fdiv ?_ | refine eo_mul ?_ | refine eo_pow ?_ | refine eo_bin ?_ | refine eo_cmp ?_ | refine eo_chn ?_ | refine eo_and1 ?_ | refine eo_and ?_ | refine eo_or1 ?_ | refine eo_or ?_ | refine eo_not ?_ | refine eo_ife ?_ | refine eo_lst ?_ | refine eo_tup ?_ | refine eo_ix ?_ | refine eo_sl ?_ | refine eoo_no ?_ | refine eoo_yes ?_ | refine eo_rev ?_ | refine eo_isi ?_ | refine eo_repr ?_ | refine eo_sorted ?_ | refine eo_bi ?_ | refine eo_callN rfl ?_ | refine eo_call ?_ | refine eo_callK ?_ | refine eo_mt ?_ | refine eio_rng1 ?_ | refine eio_rng2 ?_ | refine eio_zip ?_ | refine eio_any ?_ | refine eo_pur ?_ | refine to_no ?_ | refine to_yes ?_ | refine sso_nil ?_ | refine cmp_lt ?_ | refine cmp_le ?_ | refine cmp_gt ?_ | refine cmp_ge ?_ | refine cmp_eq ?_ | refine cmp_is rfl ?_ | refine cmp_isn rfl ?_ | refine cmp_in1 ?_ | refine cmp_nin1 ?_ | refine cmp_eqs (by assumption) (by assumption) ?_ | refine And.intro (show nsh _ = true from rfl) ?_ | refine Exists.intro _ (And.intro rfl ?_))
    refine modO_ok (by decide +kernel) ?_
    refine ⟨⟨_, rfl, sm_of (n := 20) ?_ (by decide)⟩, rfl⟩
    omega
/-- what a generator holds -/
def Gen (m : Nat) (g : D) : Prop := ∃ a b c : Int, g = .lst .own [.int a, .int b, .int c] ∧ 0 ≤ a ∧ a < (10 ^ 60) ^ 10 ∧ 0 ≤ b ∧ b < 2 ^ 31 ∧ 0 ≤ c ∧ c ≤ m
theorem cal6 (d : Nat) (ns : List Int) (hb : ∀ z ∈ ns, Sm z) (k : Nat) (hk : k ≤ 1000) : ∃ r outs, cal (d + 2) 6 [scr ns, .int k] = some (r, outs) ∧ Gen 1000000 r ∧ outs = [] := by
  refine cal_of (f := d6) rfl rfl ?_
  have hf := frz_ints ns
  repeat (first | refine sso_cons ?_ | refine so_ret ?_ | refine so_asg ?_ | refine so_asgC ?_ | refine so_ite ?_ | refine so_expr ?_ | refine so_par ?_ | refine so_setx ?_ | refine so_aug rfl ?_ | refine eso_nil ?_ | refine eso_mv rfl ?_ | refine eso_cons (fun _ _ => rfl) ?_ | refine eo_cst rfl ?_ | refine eo_cp rfl (by first | assumption | rfl) ?_ | refine eo_mv rfl ?_ | refine eo_glb rfl ?_ | refine eo_neg ?_ | refine eo_mod ?_ | refine eo_fdiv ?_ | refine eo_mul ?_ | refine eo_pow ?_ | refine eo_bin ?_ | refine eo_cmp ?_ | refine eo_chn ?_ | refine eo_and1 ?_ | refine eo_and ?_ | refine eo_or1 ?_ | refine eo_or ?_ | refine eo_not ?_ | refine eo_ife ?_ | refine eo_lst ?_ | refine eo_tup ?_ | refine eo_ix ?_ | refine eo_sl ?_ | refine eoo_no ?_ | refine eoo_yes ?_ | refine eo_rev ?_ | refine eo_isi ?_ | refine eo_repr ?_ | refine eo_sorted ?_ | refine eo_bi ?_ | refine eo_callN rfl ?_ | refine eo_call ?_ | refine eo_callK ?_ | refine eo_mt ?_ | refine eio_rng1 ?_ | refine eio_rng2 ?_ | refine eio_zip ?_ | refine eio_any ?_ | refine eo_pur ?_ | refine to_no ?_ | refine to_yes ?_ | refine sso_nil ?_ | refine cmp_lt ?_ | refine cmp_le ?_ | refine cmp_gt ?_ | refine cmp_ge ?_ | refine cmp_eq ?_ | refine cmp_is rfl ?_ | refine cmp_isn rfl ?_ | refine cmp_in1 ?_ | refine cmp_nin1 ?_ | refine cmp_eqs (by assumption) (by assumption) ?_ | refine And.intro (show nsh _ = true from rfl) ?_ | refine Exists.intro _ (And.intro rfl ?_))
  obtain ⟨r, outs, h1, ⟨s, rfl, hs⟩, rfl⟩ := cal5 d ns hb k
  refine ⟨_, _, h1, ?_⟩
  repeat (first | refine sso_cons ?_ | refine so_ret ?_ | refine so_asg ?_ | refine so_asgC ?_ | refine so_ite ?_ | refine so_expr ?_ | refine so_par ?_ | refine so_setx ?_ | refine so_aug rfl ?_ | refine eso_nil ?_ | refine eso_mv rfl ?_ | refine eso_cons (fun _ _ => rfl) ?_ | refine eo_cst rfl ?_ | refine eo_cp rfl (by first | assumption | rfl) ?_ | refine eo_mv rfl ?_ | refine eo_glb rfl ?_ | refine eo_neg ?_ | refine eo_mod ?_ | refine eo_fdiv ?_ | refine eo_mul ?_ | refine eo_pow ?_ | refine eo_bin ?_ | refine eo_cmp ?_ | refine eo_chn ?_ | refine eo_and1 ?_ | refine eo_and ?_ | refine eo_or1 ?_ | refine eo_or ?_ | refine eo_not ?_ | refine eo_ife ?_ | refine eo_lst ?_ | refine eo_tup ?_ | refine eo_ix ?_ | refine eo_sl ?_ | refine eoo_no ?_ | refine eoo_yes ?_ | refine eo_rev ?_ | refine eo_isi ?_ | refine eo_repr ?_ | refine eo_sorted ?_ | refine eo_bi ?_ | refine eo_callN rfl ?_ | refine eo_call ?_ | refine eo_callK ?_ | refine eo_mt ?_ | refine eio_rng1 ?_ | refine eio_rng2 ?_ | refine eio_zip ?_ | refine eio_any ?_ | refine eo_pur ?_ | refine to_no ?_ | refine to_yes ?_ | refine sso_nil ?_ | refine cmp_lt ?_ | refine cmp_le ?_ | refine cmp_gt ?_ | refine cmp_ge ?_ | refine cmp_eq ?_ | refine cmp_is rfl ?_ | refine cmp_isn rfl ?_ | refine cmp_in1 ?_ | refine cmp_nin1 ?_ | refine cmp_eqs (by assumption) (by assumption) ?_ | refine And.intro (show nsh _ = true from rfl) ?_ | refine Exists.intro _ (And.intro rfl ?_))
  refine powO_ok (by decide +kernel) ?_
  repeat (first | refine sso_cons ?_ | refine so_ret ?_ | refine so_asg ?_ | refine so_asgC ?_ | refine so_ite ?_ | refine so_expr ?_ | refine so_par ?_ | refine so_setx ?_ | refine so_aug rfl ?_ | refine eso_nil ?_ | refine eso_mv rfl ?_ | refine eso_cons (fun _ _ => rfl) ?_ | refine eo_cst rfl ?_ | refine eo_cp rfl (by first | assumption | rfl) ?_ | refine eo_mv rfl ?_ | refine eo_glb rfl ?_ | refine eo_neg ?_ | refine eo_mod ?_ | refine eo_fdiv ?_ | refine eo_mul ?_ | refine eo_pow ?_ | refine eo_bin ?_ | refine eo_cmp ?_ | refine eo_chn ?_ | refine eo_and1 ?_ | refine eo_and ?_ | refine eo_or1 ?_ | refine eo_or ?_ | refine eo_not ?_ | refine eo_ife ?_ | refine eo_lst ?_ | refine eo_tup ?_ | refine eo_ix ?_ | refine eo_sl ?_ | refine eoo_no ?_ | refine eoo_yes ?_ | refine eo_rev ?_ | refine eo_isi ?_ | refine eo_repr ?_ | refine eo_sorted ?_ | refine eo_bi ?_ | refine eo_callN rfl ?_ | refine eo_call ?_ | refine eo_callK ?_ | refine eo_mt ?_ | refine eio_rng1 ?_ | refine eio_rng2 ?_ | refine eio_zip ?_ | refine eio_any ?_ | refine eo_pur ?_ | refine to_no ?_ | refine to_yes ?_ | refine sso_nil ?_ | refine cmp_lt ?_ | refine cmp_le ?_ | refine cmp_gt ?_ | refine cmp_ge ?_ | refine cmp_eq ?_ | refine cmp_is rfl ?_ | refine cmp_isn rfl ?_ | refine cmp_in1 ?_ | refine cmp_nin1 ?_ | refine cmp_eqs (by assumption) (by assumption) ?_ | refine And.intro (show nsh _ = true from rfl) ?_ | refine Exists.intro _ (And.intro rfl ?_))
  refine powO_ok (by decide +kernel) ?_
  repeat (first | refine sso_cons ?_ | refine so_ret ?_ | refine so_asg ?_ | refine so_asgC ?_ | refine so_ite ?_ | refine so_expr ?_ | refine so_par ?_ | refine so_setx ?_ | refine so_aug rfl ?_ | refine eso_nil ?_ | refine eso_mv rfl ?_ | refine eso_cons (fun _ _ => rfl) ?_ | refine eo_cst rfl ?_ | refine eo_cp rfl (by first | assumption | rfl) ?_ | refine eo_mv rfl ?_ | refine eo_glb rfl ?_ | refine eo_neg ?_ | refine eo_mod ?_ | refine eo_fdiv ?_ | refine eo_mul ?_ | refine eo_pow ?_ | refine eo_bin ?_ | refine eo_cmp ?_ | refine eo_chn ?_ | refine eo_and1 ?_ | refine eo_and ?_ | refine eo_or1 ?_ | refine eo_or ?_ | refine eo_not ?_ | refine eo_ife ?_ | refine eo_lst ?_ | refine eo_tup ?_ | refine eo_ix ?_ | refine eo_sl ?_ | refine eoo_no ?_ | refine eoo_yes ?_ | refine eo_rev ?_ | refine eo_isi ?_ | refine eo_repr ?_ | refine eo_sorted ?_ | refine eo_bi ?_ | refine eo_callN rfl ?_ | refine eo_call ?_ | refine eo_callK ?_ | refine eo_mt ?_ | refine eio_rng1 ?_ | refine eio_rng2 ?_ | refine eio_zip ?_ | refine eio_any ?_ | refine eo_pur ?_ | refine to_no ?_ | refine to_yes ?_ | refine sso_nil ?_ | refine cmp_lt ?_ | refine cmp_le ?_ | refine cmp_gt ?_ | refine cmp_ge ?_ | refine cmp_eq ?_ | refine cmp_is rfl ?_ | refine cmp_isn rfl ?_ | refine cmp_in1 ?_ | refine cmp_nin1 ?_ | refine cmp_eqs (by assumption) (by assumption) ?_ | refine And.intro (show nsh _ = true from rfl) ?_ | refine Exists.intro _ (And.intro rfl ?_))
  refine powO_ok (by decide +kernel) ?_
  repeat (first | refine sso_cons ?_ | refine so_ret ?_ | refine so_asg ?_ | refine so_asgC ?_ | refine so_ite ?_ | refine so_expr ?_ | refine so_par ?_ | refine so_setx ?_ | refine so_aug rfl ?_ | refine eso_nil ?_ | refine eso_mv rfl ?_ | refine eso_cons (fun _ _ => rfl) ?_ | refine eo_cst rfl ?_ | refine eo_cp rfl (by first | assumption | rfl) ?_ | refine eo_mv rfl ?_ | refine eo_glb rfl ?_ | refine eo_neg ?_ | refine eo_mod ?_ | refine eo_fdiv ?_ | refine eo_mul ?_ | refine eo_pow ?_ | refine eo_bin ?_ | refine eo_cmp ?_ | refine eo_chn ?_ | refine eo_and1 ?_ | refine eo_and ?_ | refine eo_or1 ?_ | refine eo_or ?_ | refine eo_not ?_ | refine eo_ife ?_ | refine eo_lst ?_ | refine eo_tup ?_ | refine eo_ix ?_ | refine eo_sl ?_ | refine eoo_no ?_ | refine eoo_yes ?_ | refine eo_rev ?_ | refine eo_isi ?_ | refine eo_repr ?_ | refine eo_sorted ?_ | refine eo_bi ?_ | refine eo_callN rfl ?_ | refine eo_call ?_ | refine eo_callK ?_ | refine eo_mt ?_ | refine eio_rng1 ?_ | refine eio_rng2 ?_ | refine eio_zip ?_ | refine eio_any ?_ | refine eo_pur ?_ | refine to_no ?_ | refine to_yes ?_ | refine sso_nil ?_ | refine cmp_lt ?_ | refine cmp_le ?_ | refine cmp_gt ?_ | refine cmp_ge ?_ | refine cmp_eq ?_ | refine cmp_is rfl ?_ | refine cmp_isn rfl ?_ | refine cmp_in1 ?_ | refine cmp_nin1 ?_ | refine cmp_eqs (by assumption) (by assumption) ?_ | refine And.intro (show nsh _ = true from rfl) ?_ | refine Exists.intro _ (And.intro rfl ?_))
  refine modO_ok (by decide +kernel) ?_
  repeat (first | refine sso_cons ?_ | refine so_ret ?_ | refine so_asg ?_ | refine so_asgC ?_ | refine so_ite ?_ | refine so_expr ?_ | refine so_par ?_ | refine so_setx ?_ | refine so_aug rfl ?_ | refine eso_nil ?_ | refine eso_mv rfl ?_ | refine eso_cons (fun _ _ => rfl) ?_ | refine eo_cst rfl ?_ | refine eo_cp rfl (by first | assumption | rfl) ?_ | refine eo_mv rfl ?_ | refine eo_glb rfl ?_ | refine eo_neg ?_ | refine eo_mod ?_ | refine eo_fdiv ?_ | refine eo_mul ?_ | refine eo_pow ?_ | refine eo_bin ?_ | refine eo_cmp ?_ | refine eo_chn ?_ | refine eo_and1 ?_ | refine eo_and ?_ | refine eo_or1 ?_ | refine eo_or ?_ | refine eo_not ?_ | refine eo_ife ?_ | refine eo_lst ?_ | refine eo_tup ?_ | refine eo_ix ?_ | refine eo_sl ?_ | refine eoo_no ?_ | refine eoo_yes ?_ | refine eo_rev ?_ | refine eo_isi ?_ | refine eo_repr ?_ | refine eo_sorted ?_ | refine eo_bi ?_ | refine eo_callN rfl ?_ | refine eo_call ?_ | refine eo_callK ?_ | refine eo_mt ?_ | refine eio_rng1 ?_ | refine eio_rng2 ?_ | refine eio_zip ?_ | refine eio_any ?_ | refine eo_pur ?_ | refine to_no ?_ | refine to_yes ?_ | refine sso_nil ?_ | refine cmp_lt ?_ | refine cmp_le ?_ | refine cmp_gt ?_ | refine cmp_ge ?_ | refine cmp_eq ?_ | refine cmp_is rfl ?_ | refine cmp_isn rfl ?_ | refine cmp_in1 ?_ | refine cmp_nin1 ?_ | refine cmp_eqs (by assumption) (by assumption) ?_ | refine And.intro (show nsh _ = true from rfl) ?_ | refine Exists.intro _ (And.intro rfl ?_))
  refine modO_ok (by decide +kernel) ?_
  repeat (first | refine sso_cons ?_ | refine so_ret ?_ | refine so_asg ?_ | refine so_asgC ?_ | refine so_ite ?_ | refine so_expr ?_ | refine so_par ?_ | refine so_setx ?_ | refine so_aug rfl ?_ | refine eso_nil ?_ | refine eso_mv rfl ?_ | refine eso_cons (fun _ _ => rfl) ?_ | refine eo_cst rfl ?_ | refine eo_cp rfl (by first | assumption | rfl) ?_ | refine eo_mv rfl ?_ | refine eo_glb rfl ?_ | refine eo_neg ?_ | refine eo_mod ?_ | refine eo_fdiv ?_ | refine eo_mul ?_ | refine eo_pow ?_ | refine eo_bin ?_ | refine eo_cmp ?_ | refine eo_chn ?_ | refine eo_and1 ?_ | refine eo_and ?_ | refine eo_or1 ?_ | refine eo_or ?_ | refine eo_not ?_ | refine eo_ife ?_ | refine eo_lst ?_ | refine eo_tup ?_ | refine eo_ix ?_ | refine eo_sl ?_ | refine eoo_no ?_ | refine eoo_yes ?_ | refine eo_rev ?_ | refine eo_isi ?_ | refine eo_repr ?_ | refine eo_sorted ?_ | refine eo_bi ?_ | refine eo_callN rfl ?_ | refine eo_call ?_ | refine eo_callK ?_ | refine eo_mt ?_ | refine eio_rng1 ?_ | refine eio_rng2 ?_ | refine eio_zip ?_ | refine eio_any ?_ | refine eo_pur ?_ | refine to_no ?_ | refine to_yes ?_ | refine sso_nil ?_ | refine cmp_lt ?_ | refine cmp_le ?_ | refine cmp_gt ?_ | refine cmp_ge ?_ | refine cmp_eq ?_ | refine cmp_is rfl ?_ | refine cmp_isn rfl ?_ | refine cmp_in1 ?_ | refine cmp_nin1 ?_ | refine cmp_eqs (by assumption) (by assumption) ?_ | refine And.intro (show nsh _ = true from rfl) ?_ | refine Exists.intro _ (And.intro rfl ?_))
  refine mulO_ok 10 10 (by decide +kernel) (by omega) (by decide +kernel) ?_
  repeat (first | refine sso_cons ?_ | refine so_ret ?_ | refine so_asg ?_ | refine so_asgC ?_ | refine so_ite ?_ | refine so_expr ?_ | refine so_par ?_ | refine so_setx ?_ | refine so_aug rfl ?_ | refine eso_nil ?_ | refine eso_mv rfl ?_ | refine eso_cons (fun _ _ => rfl) ?_ | refine eo_cst rfl ?_ | refine eo_cp rfl (by first | assumption | rfl) ?_ | refine eo_mv rfl ?_ | refine eo_glb rfl ?_ | refine eo_neg ?_ | refine eo_mod ?_ | refine eo_fdiv ?_ | refine eo_mul ?_ | refine eo_pow ?_ | refine eo_bin ?_ | refine eo_cmp ?_ | refine eo_chn ?_ | refine eo_and1 ?_ | refine eo_and ?_ | refine eo_or1 ?_ | refine eo_or ?_ | refine eo_not ?_ | refine eo_ife ?_ | refine eo_lst ?_ | refine eo_tup ?_ | refine eo_ix ?_ | refine eo_sl ?_ | refine eoo_no ?_ | refine eoo_yes ?_ | refine eo_rev ?_ | refine eo_isi ?_ | refine eo_repr ?_ | refine eo_sorted ?_ | refine eo_bi ?_ | refine eo_callN rfl ?_ | refine eo_call ?_ | refine eo_callK ?_ | refine eo_mt ?_ | refine eio_rng1 ?_ | refine eio_rng2 ?_ | refine eio_zip ?_ | refine eio_any ?_ | refine eo_pur ?_ | refine to_no ?_ | refine to_yes ?_ | refine sso_nil ?_ | refine cmp_lt ?_ | refine cmp_le ?_ | refine cmp_gt ?_ | refine cmp_ge ?_ | refine cmp_eq ?_ | refine cmp_is rfl ?_ | refine cmp_isn rfl ?_ | refine cmp_in1 ?_ | refine cmp_nin1 ?_ | refine cmp_eqs (by assumption) (by assumption) ?_ | refine And.intro (show nsh _ = true from rfl) ?_ | refine Exists.intro _ (And.intro rfl ?_))
  refine ⟨line_ge (show 3 ≤ 16777216 by decide), ?_⟩
  have e : ((10 : Int) ^ Int.toNat 60) ^ Int.toNat 10 = (10 ^ 60) ^ 10 := by decide +kernel
  have e0 : (0 : Int) < (10 ^ 60) ^ 10 := by decide +kernel
  refine ⟨⟨_, _, _, rfl, ?_, ?_, ?_, ?_, ?_, ?_⟩, rfl⟩
  · rw [e]; exact Int.emod_nonneg _ (Int.ne_of_gt e0)
  · rw [e]; exact Int.emod_lt_of_pos _ e0
  all_goals omega
theorem pow_step {x k l : Nat} (e : l = k + 32) (h : x < 2 ^ k * 4294967296) : x < 2 ^ l := by
  subst e
  rw [Nat.pow_add]
  exact h
/-! ### _law_random -/
theorem cal7 (d m : Nat) (g : D) (hg : Gen m g) (hm : m ≤ 2 ^ 90) (n : Int) (hn : 0 < n ∧ n < 2 ^ 64) : ∃ r outs, cal (d + 2) 7 [g, .int n] = some (r, outs) ∧ (∃ h : Int, r = .int h ∧ 0 ≤ h ∧ h < n) ∧ ∃ g', outs = [(0, some g')] ∧ Gen (m + 4) g' := by
  obtain ⟨a, b, c, rfl, ha, ha2, hb, hb2, hc, hc2⟩ := hg
  refine cal_of (f := d7) rfl rfl ?_
  repeat (first | refine sso_cons ?_ | refine so_ret ?_ | refine so_asg ?_ | refine so_asgC ?_ | refine so_ite ?_ | refine so_expr ?_ | refine so_par ?_ | refine so_setx ?_ | refine so_aug rfl ?_ | refine eso_nil ?_ | refine eso_mv rfl ?_ | refine eso_cons (fun _ _ => rfl) ?_ | refine eo_cst rfl ?_ | refine eo_cp rfl (by first | assumption | rfl) ?_ | refine eo_mv rfl ?_ | refine eo_glb rfl ?_ | refine eo_neg ?_ | refine eo_mod ?_ | refine eo_fdiv ?_ | refine eo_mul ?_ | refine eo_pow ?_ | refine eo_bin ?_ | refine eo_cmp ?_ | refine eo_chn ?_ | refine eo_and1 ?_ | refine eo_and ?_ | refine eo_or1 ?_ | refine eo_or ?_ | refine eo_not ?_ | refine eo_ife ?_ | refine eo_lst ?_ | refine eo_tup ?_ | refine eo_ix ?_ | refine eo_sl ?_ | refine eoo_no ?_ | refine eoo_yes ?_ | refine eo_rev ?_ | refine eo_isi ?_ | refine eo_repr ?_ | refine eo_sorted ?_ | refine eo_bi ?_ | refine eo_callN rfl ?_ | refine eo_call ?_ | refine eo_callK ?_ | refine eo_mt ?_ | refine eio_rng1 ?_ | refine eio_rng2 ?_ | refine eio_zip ?_ | refine eio_any ?_ | refine eo_pur ?_ | refine to_no ?_ | refine to_yes ?_ | refine sso_nil ?_ | refine cmp_lt ?_ | refine cmp_le ?_ | refine cmp_gt ?_ | refine cmp_ge ?_ | refine cmp_eq ?_ | refine cmp_is rfl ?_ | refine cmp_isn rfl ?_ | refine cmp_in1 ?_ | refine cmp_nin1 ?_ | refine cmp_eqs (by assumption) (by assumption) ?_ | refine And.intro (show nsh _ = true from rfl) ?_ | refine Exists.intro _ (And.intro rfl ?_))
  have nn : n.natAbs.log2 < 9000 := by
    have : n.natAbs.log2 < 64 := (Nat.log2_lt (by omega)).mpr (by omega)
    omega
  refine ite2 (fun h => ?_) fun h => ?_
  · have h : 0 < a := of_decide_eq_true h
    repeat (first | refine sso_cons ?_ | refine so_ret ?_ | refine so_asg ?_ | refine so_asgC ?_ | refine so_ite ?_ | refine so_expr ?_ | refine so_par ?_ | refine so_setx ?_ | refine so_aug rfl ?_ | refine eso_nil ?_ | refine eso_mv rfl ?_ | refine eso_cons (fun _ _ => rfl) ?_ | refine eo_cst rfl ?_ | refine eo_cp rfl (by first | assumption | rfl) ?_ | refine eo_mv rfl ?_ | refine eo_glb rfl ?_ | refine eo_neg ?_ | refine eo_mod ?_ | refine eo_fdiv ?_ | refine eo_mul ?_ | refine eo_pow ?_ | refine eo_bin ?_ | refine eo_cmp ?_ | refine eo_chn ?_ | refine eo_and1 ?_ | refine eo_and ?_ | refine eo_or1 ?_ | refine eo_or ?_ | refine eo_not ?_ | refine eo_ife ?_ | refine eo_lst ?_ | refine eo_tup ?_ | refine eo_ix ?_ | refine eo_sl ?_ | refine eoo_no ?_ | refine eoo_yes ?_ | refine eo_rev ?_ | refine eo_isi ?_ | refine eo_repr ?_ | refine eo_sorted ?_ | refine eo_bi ?_ | refine eo_callN rfl ?_ | refine eo_call ?_ | refine eo_callK ?_ | refine eo_mt ?_ | refine eio_rng1 ?_ | refine eio_rng2 ?_ | refine eio_zip ?_ | refine eio_any ?_ | refine eo_pur ?_ | refine to_no ?_ | refine to_yes ?_ | refine sso_nil ?_ | refine cmp_lt ?_ | refine cmp_le ?_ | refine cmp_gt ?_ | refine cmp_ge ?_ | refine cmp_eq ?_ | refine cmp_is rfl ?_ | refine cmp_isn rfl ?_ | refine cmp_in1 ?_ | refine cmp_nin1 ?_ | refine cmp_eqs (by assumption) (by assumption) ?_ | refine And.intro (show nsh _ = true from rfl) ?_ | refine Exists.intro _ (And.intro rfl ?_))
    refine modO_ok hn.1 ?_
    repeat (first | refine sso_cons ?_ | refine so_ret ?_ | refine so_asg ?_ | refine so_asgC ?_ | refine so_ite ?_ | refine so_expr ?_ | refine so_par ?_ | refine so_setx ?_ | refine so_aug rfl ?_ | refine eso_nil ?_ | refine eso_mv rfl ?_ | refine eso_cons (fun _ _ => rfl) ?_ | refine eo_cst rfl ?_ | refine eo_cp rfl (by first | assumption | rfl) ?_ | refine eo_mv rfl ?_ | refine eo_glb rfl ?_ | refine eo_neg ?_ | refine eo_mod ?_ | refine eo_fdiv ?_ | refine eo_mul ?_ | refine eo_pow ?_ | refine eo_bin ?_ | refine eo_cmp ?_ | refine eo_chn ?_ | refine eo_and1 ?_ | refine eo_and ?_ | refine eo_or1 ?_ | refine eo_or ?_ | refine eo_not ?_ | refine eo_ife ?_ | refine eo_lst ?_ | refine eo_tup ?_ | refine eo_ix ?_ | refine eo_sl ?_ | refine eoo_no ?_ | refine eoo_yes ?_ | refine eo_rev ?_ | refine eo_isi ?_ | refine eo_repr ?_ | refine eo_sorted ?_ | refine eo_bi ?_ | refine eo_callN rfl ?_ | refine eo_call ?_ | refine eo_callK ?_ | refine eo_mt ?_ | refine eio_rng1 ?_ | refine eio_rng2 ?_ | refine eio_zip ?_ | refine eio_any ?_ | refine eo_pur ?_ | refine to_no ?_ | refine to_yes ?_ | refine sso_nil ?_ | refine cmp_lt ?_ | refine cmp_le ?_ | refine cmp_gt ?_ | refine cmp_ge ?_ | refine cmp_eq ?_ | refine cmp_is rfl ?_ | refine cmp_isn rfl ?_ | refine cmp_in1 ?_ | refine cmp_nin1 ?_ | refine cmp_eqs (by assumption) (by assumption) ?_ | refine And.intro (show nsh _ = true from rfl) ?_ | refine Exists.intro _ (And.intro rfl ?_))
    refine divO_ok hn.1 nn ?_
    repeat (first | refine sso_cons ?_ | refine so_ret ?_ | refine so_asg ?_ | refine so_asgC ?_ | refine so_ite ?_ | refine so_expr ?_ | refine so_par ?_ | refine so_setx ?_ | refine so_aug rfl ?_ | refine eso_nil ?_ | refine eso_mv rfl ?_ | refine eso_cons (fun _ _ => rfl) ?_ | refine eo_cst rfl ?_ | refine eo_cp rfl (by first | assumption | rfl) ?_ | refine eo_mv rfl ?_ | refine eo_glb rfl ?_ | refine eo_neg ?_ | refine eo_mod ?_ | refine eo_fdiv ?_ | refine eo_mul ?_ | refine eo_pow ?_ | refine eo_bin ?_ | refine eo_cmp ?_ | refine eo_chn ?_ | refine eo_and1 ?_ | refine eo_and ?_ | refine eo_or1 ?_ | refine eo_or ?_ | refine eo_not ?_ | refine eo_ife ?_ | refine eo_lst ?_ | refine eo_tup ?_ | refine eo_ix ?_ | refine eo_sl ?_ | refine eoo_no ?_ | refine eoo_yes ?_ | refine eo_rev ?_ | refine eo_isi ?_ | refine eo_repr ?_ | refine eo_sorted ?_ | refine eo_bi ?_ | refine eo_callN rfl ?_ | refine eo_call ?_ | refine eo_callK ?_ | refine eo_mt ?_ | refine eio_rng1 ?_ | refine eio_rng2 ?_ | refine eio_zip ?_ | refine eio_any ?_ | refine eo_pur ?_ | refine to_no ?_ | refine to_yes ?_ | refine sso_nil ?_ | refine cmp_lt ?_ | refine cmp_le ?_ | refine cmp_gt ?_ | refine cmp_ge ?_ | refine cmp_eq ?_ | refine cmp_is rfl ?_ | refine cmp_isn rfl ?_ | refine cmp_in1 ?_ | refine cmp_nin1 ?_ | refine cmp_eqs (by assumption) (by assumption) ?_ | refine And.intro (show nsh _ = true from rfl) ?_ | refine Exists.intro _ (And.intro rfl ?_))
    refine ⟨⟨_, rfl, Int.emod_nonneg _ (by omega), Int.emod_lt_of_pos _ hn.1⟩, _, rfl, _, _, _, rfl, ?_, ?_, hb, hb2, hc, by omega⟩
    · exact Int.ediv_nonneg ha (by omega)
    · exact Int.lt_of_le_of_lt (Int.ediv_le_self _ ha) ha2
  · repeat (first | refine sso_cons ?_ | refine so_ret ?_ | refine so_asg ?_ | refine so_asgC ?_ | refine so_ite ?_ | refine so_expr ?_ | refine so_par ?_ | refine so_setx ?_ | refine so_aug rfl ?_ | refine eso_nil ?_ | refine eso_mv rfl ?_ | refine eso_cons (fun _ _ => rfl) ?_ | refine eo_cst rfl ?_ | refine eo_cp rfl (by first | assumption | rfl) ?_ | refine eo_mv rfl ?_ | refine eo_glb rfl ?_ | refine eo_neg ?_ | refine eo_mod ?_ | refine eo_fdiv ?_ | refine eo_mul ?_ | refine eo_pow ?_ | refine eo_bin ?_ | refine eo_cmp ?_ | refine eo_chn ?_ | refine eo_and1 ?_ | refine eo_and ?_ | refine eo_or1 ?_ | refine eo_or ?_ | refine eo_not ?_ | refine eo_ife ?_ | refine eo_lst ?_ | refine eo_tup ?_ | refine eo_ix ?_ | refine eo_sl ?_ | refine eoo_no ?_ | refine eoo_yes ?_ | refine eo_rev ?_ | refine eo_isi ?_ | refine eo_repr ?_ | refine eo_sorted ?_ | refine eo_bi ?_ | refine eo_callN rfl ?_ | refine eo_call ?_ | refine eo_callK ?_ | refine eo_mt ?_ | refine eio_rng1 ?_ | refine eio_rng2 ?_ | refine eio_zip ?_ | refine eio_any ?_ | refine eo_pur ?_ | refine to_no ?_ | refine to_yes ?_ | refine sso_nil ?_ | refine cmp_lt ?_ | refine cmp_le ?_ | refine cmp_gt ?_ | refine cmp_ge ?_ | refine cmp_eq ?_ | refine cmp_is rfl ?_ | refine cmp_isn rfl ?_ | refine cmp_in1 ?_ | refine cmp_nin1 ?_ | refine cmp_eqs (by assumption) (by assumption) ?_ | refine And.intro (show nsh _ = true from rfl) ?_ | refine Exists.intro _ (And.intro rfl ?_))
    refine so_forI ?_
    repeat (first | refine sso_cons ?_ | refine so_ret ?_ | refine so_asg ?_ | refine so_asgC ?_ | refine so_ite ?_ | refine so_expr ?_ | refine so_par ?_ | refine so_setx ?_ | refine so_aug rfl ?_ | refine eso_nil ?_ | refine eso_mv rfl ?_ | refine eso_cons (fun _ _ => rfl) ?_ | refine eo_cst rfl ?_ | refine eo_cp rfl (by first | assumption | rfl) ?_ | refine eo_mv rfl ?_ | refine eo_glb rfl ?_ | refine eo_neg ?_ | refine eo_mod ?_ | refine eo_fdiv ?_ | refine eo_mul ?_ | refine eo_pow ?_ | refine eo_bin ?_ | refine eo_cmp ?_ | refine eo_chn ?_ | refine eo_and1 ?_ | refine eo_and ?_ | refine eo_or1 ?_ | refine eo_or ?_ | refine eo_not ?_ | refine eo_ife ?_ | refine eo_lst ?_ | refine eo_tup ?_ | refine eo_ix ?_ | refine eo_sl ?_ | refine eoo_no ?_ | refine eoo_yes ?_ | refine eo_rev ?_ | refine eo_isi ?_ | refine eo_repr ?_ | refine eo_sorted ?_ | refine eo_bi ?_ | refine eo_callN rfl ?_ | refine eo_call ?_ | refine eo_callK ?_ | refine eo_mt ?_ | refine eio_rng1 ?_ | refine eio_rng2 ?_ | refine eio_zip ?_ | refine eio_any ?_ | refine eo_pur ?_ | refine to_no ?_ | refine to_yes ?_ | refine sso_nil ?_ | refine cmp_lt ?_ | refine cmp_le ?_ | refine cmp_gt ?_ | refine cmp_ge ?_ | refine cmp_eq ?_ | refine cmp_is rfl ?_ | refine cmp_isn rfl ?_ | refine cmp_in1 ?_ | refine cmp_nin1 ?_ | refine cmp_eqs (by assumption) (by assumption) ?_ | refine And.intro (show nsh _ = true from rfl) ?_ | refine Exists.intro _ (And.intro rfl ?_))
    refine divO_ok (by decide) (by decide +kernel) ?_
    repeat (first | refine sso_cons ?_ | refine so_ret ?_ | refine so_asg ?_ | refine so_asgC ?_ | refine so_ite ?_ | refine so_expr ?_ | refine so_par ?_ | refine so_setx ?_ | refine so_aug rfl ?_ | refine eso_nil ?_ | refine eso_mv rfl ?_ | refine eso_cons (fun _ _ => rfl) ?_ | refine eo_cst rfl ?_ | refine eo_cp rfl (by first | assumption | rfl) ?_ | refine eo_mv rfl ?_ | refine eo_glb rfl ?_ | refine eo_neg ?_ | refine eo_mod ?_ | refine eo_fdiv ?_ | refine eo_mul ?_ | refine eo_pow ?_ | refine eo_bin ?_ | refine eo_cmp ?_ | refine eo_chn ?_ | refine eo_and1 ?_ | refine eo_and ?_ | refine eo_or1 ?_ | refine eo_or ?_ | refine eo_not ?_ | refine eo_ife ?_ | refine eo_lst ?_ | refine eo_tup ?_ | refine eo_ix ?_ | refine eo_sl ?_ | refine eoo_no ?_ | refine eoo_yes ?_ | refine eo_rev ?_ | refine eo_isi ?_ | refine eo_repr ?_ | refine eo_sorted ?_ | refine eo_bi ?_ | refine eo_callN rfl ?_ | refine eo_call ?_ | refine eo_callK ?_ | refine eo_mt ?_ | refine eio_rng1 ?_ | refine eio_rng2 ?_ | refine eio_zip ?_ | refine eio_any ?_ | refine eo_pur ?_ | refine to_no ?_ | refine to_yes ?_ | refine sso_nil ?_ | refine cmp_lt ?_ | refine cmp_le ?_ | refine cmp_gt ?_ | refine cmp_ge ?_ | refine cmp_eq ?_ | refine cmp_is rfl ?_ | refine cmp_isn rfl ?_ | refine cmp_in1 ?_ | refine cmp_nin1 ?_ | refine cmp_eqs (by assumption) (by assumption) ?_ | refine And.intro (show nsh _ = true from rfl) ?_ | refine Exists.intro _ (And.intro rfl ?_))
    have hb64 : Builtin.Int.intBits n ≤ 64 := bits_le (by omega)
    refine ⟨by omega, by omega, fun (ds : List D) (ρ : Rho) => ∃ (c' w : Int) (t : Option D), ρ = [some (.lst .own [.int a, .int b, .int c']), some (.int n), some (.int w), t] ∧ 0 ≤ c' ∧ c' + ds.length ≤ m + 3 ∧ ds.length ≤ 3 ∧ 0 ≤ w ∧ w.natAbs < 2 ^ (32 * (4 - ds.length)), ⟨c, 0, none, rfl, hc, ?_, ?_, by omega, ?_⟩, fun x ds ρ2 hp => ?_, fun ρ2 hp => ?_⟩
    · rw [List.length_map, List.length_range]; omega
    · rw [List.length_map, List.length_range]; omega
    · exact Nat.two_pow_pos _
    · obtain ⟨c', w, t, rfl, p1, p2, p3, p4, p5⟩ := hp
      rw [List.length_cons] at p2 p3 p5
      refine ⟨_, rfl, ?_⟩
      repeat (first | refine sso_cons ?_ | refine so_ret ?_ | refine so_asg ?_ | refine so_asgC ?_ | refine so_ite ?_ | refine so_expr ?_ | refine so_par ?_ | refine so_setx ?_ | refine so_aug rfl ?_ | refine eso_nil ?_ | refine eso_mv rfl ?_ | refine eso_cons (fun _ _ => rfl) ?_ | refine eo_cst rfl ?_ | refine eo_cp rfl (by first | assumption | rfl) ?_ | refine eo_mv rfl ?_ | refine eo_glb rfl ?_ | refine eo_neg ?_ | refine eo_mod ?_ | refine eo_fdiv ?_ | refine eo_mul ?_ | refine eo_pow ?_ | refine eo_bin ?_ | refine eo_cmp ?_ | refine eo_chn ?_ | refine eo_and1 ?_ | refine eo_and ?_ | refine eo_or1 ?_ | refine eo_or ?_ | refine eo_not ?_ | refine eo_ife ?_ | refine eo_lst ?_ | refine eo_tup ?_ | refine eo_ix ?_ | refine eo_sl ?_ | refine eoo_no ?_ | refine eoo_yes ?_ | refine eo_rev ?_ | refine eo_isi ?_ | refine eo_repr ?_ | refine eo_sorted ?_ | refine eo_bi ?_ | refine eo_callN rfl ?_ | refine eo_call ?_ | refine eo_callK ?_ | refine eo_mt ?_ | refine eio_rng1 ?_ | refine eio_rng2 ?_ | refine eio_zip ?_ | refine eio_any ?_ | refine eo_pur ?_ | refine to_no ?_ | refine to_yes ?_ | refine sso_nil ?_ | refine cmp_lt ?_ | refine cmp_le ?_ | refine cmp_gt ?_ | refine cmp_ge ?_ | refine cmp_eq ?_ | refine cmp_is rfl ?_ | refine cmp_isn rfl ?_ | refine cmp_in1 ?_ | refine cmp_nin1 ?_ | refine cmp_eqs (by assumption) (by assumption) ?_ | refine And.intro (show nsh _ = true from rfl) ?_ | refine Exists.intro _ (And.intro rfl ?_))
      refine mulO_ok (32 * (4 - (ds.length + 1))) 31 p5 (by decide +kernel) (by omega) ?_
      repeat (first | refine sso_cons ?_ | refine so_ret ?_ | refine so_asg ?_ | refine so_asgC ?_ | refine so_ite ?_ | refine so_expr ?_ | refine so_par ?_ | refine so_setx ?_ | refine so_aug rfl ?_ | refine eso_nil ?_ | refine eso_mv rfl ?_ | refine eso_cons (fun _ _ => rfl) ?_ | refine eo_cst rfl ?_ | refine eo_cp rfl (by first | assumption | rfl) ?_ | refine eo_mv rfl ?_ | refine eo_glb rfl ?_ | refine eo_neg ?_ | refine eo_mod ?_ | refine eo_fdiv ?_ | refine eo_mul ?_ | refine eo_pow ?_ | refine eo_bin ?_ | refine eo_cmp ?_ | refine eo_chn ?_ | refine eo_and1 ?_ | refine eo_and ?_ | refine eo_or1 ?_ | refine eo_or ?_ | refine eo_not ?_ | refine eo_ife ?_ | refine eo_lst ?_ | refine eo_tup ?_ | refine eo_ix ?_ | refine eo_sl ?_ | refine eoo_no ?_ | refine eoo_yes ?_ | refine eo_rev ?_ | refine eo_isi ?_ | refine eo_repr ?_ | refine eo_sorted ?_ | refine eo_bi ?_ | refine eo_callN rfl ?_ | refine eo_call ?_ | refine eo_callK ?_ | refine eo_mt ?_ | refine eio_rng1 ?_ | refine eio_rng2 ?_ | refine eio_zip ?_ | refine eio_any ?_ | refine eo_pur ?_ | refine to_no ?_ | refine to_yes ?_ | refine sso_nil ?_ | refine cmp_lt ?_ | refine cmp_le ?_ | refine cmp_gt ?_ | refine cmp_ge ?_ | refine cmp_eq ?_ | refine cmp_is rfl ?_ | refine cmp_isn rfl ?_ | refine cmp_in1 ?_ | refine cmp_nin1 ?_ | refine cmp_eqs (by assumption) (by assumption) ?_ | refine And.intro (show nsh _ = true from rfl) ?_ | refine Exists.intro _ (And.intro rfl ?_))
      obtain ⟨r, outs, h1, ⟨h, rfl, q1, q2⟩, rfl⟩ := cal4 d b (c' + 1) ⟨hb, hb2⟩ ⟨by omega, by omega⟩
      refine ⟨_, _, h1, ?_⟩
      refine Exists.intro _ (And.intro rfl ?_)
      refine And.intro (show nsh _ = true from rfl) ?_
      refine Exists.intro _ (And.intro rfl ?_)
      refine sso_nil ?_
      refine ⟨c' + 1, w * 2147483587 + h, some x, rfl, by omega, by omega, by omega, by omega, ?_⟩
      have e : 32 * (4 - ds.length) = 32 * (4 - (ds.length + 1)) + 32 := by omega
      have key : ∀ N : Nat, w.natAbs < N → (w * 2147483587 + h).natAbs < N * 4294967296 := fun N hN => by omega
      exact pow_step e (key _ p5)
    · obtain ⟨c', w, t, rfl, p1, p2, p3, p4, p5⟩ := hp
      repeat (first | refine sso_cons ?_ | refine so_ret ?_ | refine so_asg ?_ | refine so_asgC ?_ | refine so_ite ?_ | refine so_expr ?_ | refine so_par ?_ | refine so_setx ?_ | refine so_aug rfl ?_ | refine eso_nil ?_ | refine eso_mv rfl ?_ | refine eso_cons (fun _ _ => rfl) ?_ | refine eo_cst rfl ?_ | refine eo_cp rfl (by first | assumption | rfl) ?_ | refine eo_mv rfl ?_ | refine eo_glb rfl ?_ | refine eo_neg ?_ | refine eo_mod ?_ | refine eo_fdiv ?_ | refine eo_mul ?_ | refine eo_pow ?_ | refine eo_bin ?_ | refine eo_cmp ?_ | refine eo_chn ?_ | refine eo_and1 ?_ | refine eo_and ?_ | refine eo_or1 ?_ | refine eo_or ?_ | refine eo_not ?_ | refine eo_ife ?_ | refine eo_lst ?_ | refine eo_tup ?_ | refine eo_ix ?_ | refine eo_sl ?_ | refine eoo_no ?_ | refine eoo_yes ?_ | refine eo_rev ?_ | refine eo_isi ?_ | refine eo_repr ?_ | refine eo_sorted ?_ | refine eo_bi ?_ | refine eo_callN rfl ?_ | refine eo_call ?_ | refine eo_callK ?_ | refine eo_mt ?_ | refine eio_rng1 ?_ | refine eio_rng2 ?_ | refine eio_zip ?_ | refine eio_any ?_ | refine eo_pur ?_ | refine to_no ?_ | refine to_yes ?_ | refine sso_nil ?_ | refine cmp_lt ?_ | refine cmp_le ?_ | refine cmp_gt ?_ | refine cmp_ge ?_ | refine cmp_eq ?_ | refine cmp_is rfl ?_ | refine cmp_isn rfl ?_ | refine cmp_in1 ?_ | refine cmp_nin1 ?_ | refine cmp_eqs (by assumption) (by assumption) ?_ | refine And.intro (show nsh _ = true from rfl) ?_ | refine Exists.intro _ (And.intro rfl ?_))
      refine modO_ok hn.1 ?_
      refine ⟨⟨_, rfl, Int.emod_nonneg _ (by omega), Int.emod_lt_of_pos _ hn.1⟩, _, rfl, _, _, _, rfl, ha, ha2, hb, hb2, p1, ?_⟩
      rw [List.length_nil] at p2
      omega
/-! ### _law_pick -/
theorem cal8 (d m : Nat) (g : D) (hg : Gen m g) (hm : m ≤ 2 ^ 90) (o : Ow) (xs : List D) (hx : xs ≠ []) (hl : xs.length < 2 ^ 60) (hf : frz (.lst o xs) = .lst o xs) :
    ∃ r outs, cal (d + 3) 8 [g, .lst o xs] = some (r, outs) ∧ r ∈ xs ∧ ∃ g', outs = [(0, some g')] ∧ Gen (m + 4) g' := by
  refine cal_of (f := d8) rfl rfl ?_
  repeat (first | refine sso_cons ?_ | refine so_ret ?_ | refine so_asg ?_ | refine so_asgC ?_ | refine so_ite ?_ | refine so_expr ?_ | refine so_par ?_ | refine so_setx ?_ | refine so_aug rfl ?_ | refine eso_nil ?_ | refine eso_mv rfl ?_ | refine eso_cons (fun _ _ => rfl) ?_ | refine eo_cst rfl ?_ | refine eo_cp rfl (by first | assumption | rfl) ?_ | refine eo_mv rfl ?_ | refine eo_glb rfl ?_ | refine eo_neg ?_ | refine eo_mod ?_ | refine eo_fdiv ?_ | refine eo_mul ?_ | refine eo_pow ?_ | refine eo_bin ?_ | refine eo_cmp ?_ | refine eo_chn ?_ | refine eo_and1 ?_ | refine eo_and ?_ | refine eo_or1 ?_ | refine eo_or ?_ | refine eo_not ?_ | refine eo_ife ?_ | refine eo_lst ?_ | refine eo_tup ?_ | refine eo_ix ?_ | refine eo_sl ?_ | refine eoo_no ?_ | refine eoo_yes ?_ | refine eo_rev ?_ | refine eo_isi ?_ | refine eo_repr ?_ | refine eo_sorted ?_ | refine eo_bi ?_ | refine eo_callN rfl ?_ | refine eo_call ?_ | refine eo_callK ?_ | refine eo_mt ?_ | refine eio_rng1 ?_ | refine eio_rng2 ?_ | refine eio_zip ?_ | refine eio_any ?_ | refine eo_pur ?_ | refine to_no ?_ | refine to_yes ?_ | refine sso_nil ?_ | refine cmp_lt ?_ | refine cmp_le ?_ | refine cmp_gt ?_ | refine cmp_ge ?_ | refine cmp_eq ?_ | refine cmp_is rfl ?_ | refine cmp_isn rfl ?_ | refine cmp_in1 ?_ | refine cmp_nin1 ?_ | refine cmp_eqs (by assumption) (by assumption) ?_ | refine And.intro (show nsh _ = true from rfl) ?_ | refine Exists.intro _ (And.intro rfl ?_))
  have hp : 0 < xs.length := List.length_pos_iff.mpr hx
  obtain ⟨r, outs, h1, ⟨h, rfl, q1, q2⟩, g', rfl, hg'⟩ := cal7 d m g hg hm xs.length ⟨by omega, by omega⟩
  refine ⟨_, _, h1, ?_⟩
  obtain ⟨j, rfl⟩ := Int.eq_ofNat_of_zero_le q1
  have hj : j < xs.length := by omega
  refine ⟨_, ix_nat (List.getElem?_eq_getElem hj), ?_⟩
  exact ⟨List.getElem_mem hj, g', rfl, hg'⟩
/-! ### ascends -/
def fallB (zs : List Str) : D → Bool
  | .int i => !decide ((zs.getD (i.toNat - 1) Str.empty).cps.toList < (zs.getD i.toNat Str.empty).cps.toList)
  | _ => false
def riseL (zs : List Str) : List D := (((List.range ((zs.length : Int) - 1).toNat).map fun (k : Nat) => D.int (1 + (k : Int))).filter (fallB zs)).map id
theorem cal2 (d : Nat) (o : Ow) (zs : List Str) (hz : ∀ z ∈ zs, PyData.strOk z = true) (hl : zs.length ≤ 1000) (hf : frz (.lst o (zs.map .str)) = .lst o (zs.map .str)) :
    ∃ r outs, cal (d + 1) 2 [.lst o (zs.map .str)] = some (r, outs) ∧ r = .bl (riseL zs).isEmpty ∧ outs = [] := by
  refine cal_of (f := d2) rfl rfl ?_
  repeat (first | refine sso_cons ?_ | refine so_ret ?_ | refine so_asg ?_ | refine so_asgC ?_ | refine so_ite ?_ | refine so_expr ?_ | refine so_par ?_ | refine so_setx ?_ | refine so_aug rfl ?_ | refine eso_nil ?_ | refine eso_mv rfl ?_ | refine eso_cons (fun _ _ => rfl) ?_ | refine eo_cst rfl ?_ | refine eo_cp rfl (by first | assumption | rfl) ?_ | refine eo_mv rfl ?_ | refine eo_glb rfl ?_ | refine eo_neg ?_ | refine eo_mod ?_ | refine eo_fdiv ?_ | refine eo_mul ?_ | refine eo_pow ?_ | refine eo_bin ?_ | refine eo_cmp ?_ | refine eo_chn ?_ | refine eo_and1 ?_ | refine eo_and ?_ | refine eo_or1 ?_ | refine eo_or ?_ | refine eo_not ?_ | refine eo_ife ?_ | refine eo_lst ?_ | refine eo_tup ?_ | refine eo_ix ?_ | refine eo_sl ?_ | refine eoo_no ?_ | refine eoo_yes ?_ | refine eo_rev ?_ | refine eo_isi ?_ | refine eo_repr ?_ | refine eo_sorted ?_ | refine eo_bi ?_ | refine eo_callN rfl ?_ | refine eo_call ?_ | refine eo_callK ?_ | refine eo_mt ?_ | refine eio_rng1 ?_ | refine eio_rng2 ?_ | refine eio_zip ?_ | refine eio_any ?_ | refine eo_pur ?_ | refine to_no ?_ | refine to_yes ?_ | refine sso_nil ?_ | refine cmp_lt ?_ | refine cmp_le ?_ | refine cmp_gt ?_ | refine cmp_ge ?_ | refine cmp_eq ?_ | refine cmp_is rfl ?_ | refine cmp_isn rfl ?_ | refine cmp_in1 ?_ | refine cmp_nin1 ?_ | refine cmp_eqs (by assumption) (by assumption) ?_ | refine And.intro (show nsh _ = true from rfl) ?_ | refine Exists.intro _ (And.intro rfl ?_))
  refine eo_lcP (fallB zs) id ?_
  repeat (first | refine sso_cons ?_ | refine so_ret ?_ | refine so_asg ?_ | refine so_asgC ?_ | refine so_ite ?_ | refine so_expr ?_ | refine so_par ?_ | refine so_setx ?_ | refine so_aug rfl ?_ | refine eso_nil ?_ | refine eso_mv rfl ?_ | refine eso_cons (fun _ _ => rfl) ?_ | refine eo_cst rfl ?_ | refine eo_cp rfl (by first | assumption | rfl) ?_ | refine eo_mv rfl ?_ | refine eo_glb rfl ?_ | refine eo_neg ?_ | refine eo_mod ?_ | refine eo_fdiv ?_ | refine eo_mul ?_ | refine eo_pow ?_ | refine eo_bin ?_ | refine eo_cmp ?_ | refine eo_chn ?_ | refine eo_and1 ?_ | refine eo_and ?_ | refine eo_or1 ?_ | refine eo_or ?_ | refine eo_not ?_ | refine eo_ife ?_ | refine eo_lst ?_ | refine eo_tup ?_ | refine eo_ix ?_ | refine eo_sl ?_ | refine eoo_no ?_ | refine eoo_yes ?_ | refine eo_rev ?_ | refine eo_isi ?_ | refine eo_repr ?_ | refine eo_sorted ?_ | refine eo_bi ?_ | refine eo_callN rfl ?_ | refine eo_call ?_ | refine eo_callK ?_ | refine eo_mt ?_ | refine eio_rng1 ?_ | refine eio_rng2 ?_ | refine eio_zip ?_ | refine eio_any ?_ | refine eo_pur ?_ | refine to_no ?_ | refine to_yes ?_ | refine sso_nil ?_ | refine cmp_lt ?_ | refine cmp_le ?_ | refine cmp_gt ?_ | refine cmp_ge ?_ | refine cmp_eq ?_ | refine cmp_is rfl ?_ | refine cmp_isn rfl ?_ | refine cmp_in1 ?_ | refine cmp_nin1 ?_ | refine cmp_eqs (by assumption) (by assumption) ?_ | refine And.intro (show nsh _ = true from rfl) ?_ | refine Exists.intro _ (And.intro rfl ?_))
  rw [List.length_map]
  refine ⟨_, _, rfl, rfl, ⟨by decide, by decide, by omega, by omega⟩, ?_, fun x hx => ?_, ?_⟩
  · rw [List.length_map, List.length_range]; exact line_ge (by omega)
  · obtain ⟨k, hk, rfl⟩ := List.mem_map.mp hx
    have hk : k < ((zs.length : Int) - 1).toNat := List.mem_range.mp hk
    have h1 : k < zs.length := by omega
    have h2 : k + 1 < zs.length := by omega
    have g1 : (zs.map D.str)[k]? = some (.str zs[k]) := by rw [List.getElem?_map, List.getElem?_eq_getElem h1]; rfl
    have g2 : (zs.map D.str)[k + 1]? = some (.str zs[k + 1]) := by rw [List.getElem?_map, List.getElem?_eq_getElem h2]; rfl
    refine ⟨_, rfl, ?_⟩
    repeat (first | refine sso_cons ?_ | refine so_ret ?_ | refine so_asg ?_ | refine so_asgC ?_ | refine so_ite ?_ | refine so_expr ?_ | refine so_par ?_ | refine so_setx ?_ | refine so_aug rfl ?_ | refine eso_nil ?_ | refine eso_mv rfl ?_ | refine eso_cons (fun _ _ => rfl) ?_ | refine eo_cst rfl ?_ | refine eo_cp rfl (by first | assumption | rfl) ?_ | refine eo_mv rfl ?_ | refine eo_glb rfl ?_ | refine eo_neg ?_ | refine eo_mod ?_ | refine eo_fdiv ?_ | refine eo_mul ?_ | refine eo_pow ?_ | refine eo_bin ?_ | refine eo_cmp ?_ | refine eo_chn ?_ | refine eo_and1 ?_ | refine eo_and ?_ | refine eo_or1 ?_ | refine eo_or ?_ | refine eo_not ?_ | refine eo_ife ?_ | refine eo_lst ?_ | refine eo_tup ?_ | refine eo_ix ?_ | refine eo_sl ?_ | refine eoo_no ?_ | refine eoo_yes ?_ | refine eo_rev ?_ | refine eo_isi ?_ | refine eo_repr ?_ | refine eo_sorted ?_ | refine eo_bi ?_ | refine eo_callN rfl ?_ | refine eo_call ?_ | refine eo_callK ?_ | refine eo_mt ?_ | refine eio_rng1 ?_ | refine eio_rng2 ?_ | refine eio_zip ?_ | refine eio_any ?_ | refine eo_pur ?_ | refine to_no ?_ | refine to_yes ?_ | refine sso_nil ?_ | refine cmp_lt ?_ | refine cmp_le ?_ | refine cmp_gt ?_ | refine cmp_ge ?_ | refine cmp_eq ?_ | refine cmp_is rfl ?_ | refine cmp_isn rfl ?_ | refine cmp_in1 ?_ | refine cmp_nin1 ?_ | refine cmp_eqs (by assumption) (by assumption) ?_ | refine And.intro (show nsh _ = true from rfl) ?_ | refine Exists.intro _ (And.intro rfl ?_))
    refine ⟨_, by rw [show (1 + (k : Int) - 1) = (k : Int) by omega]; exact ix_nat g1, ?_⟩
    repeat (first | refine sso_cons ?_ | refine so_ret ?_ | refine so_asg ?_ | refine so_asgC ?_ | refine so_ite ?_ | refine so_expr ?_ | refine so_par ?_ | refine so_setx ?_ | refine so_aug rfl ?_ | refine eso_nil ?_ | refine eso_mv rfl ?_ | refine eso_cons (fun _ _ => rfl) ?_ | refine eo_cst rfl ?_ | refine eo_cp rfl (by first | assumption | rfl) ?_ | refine eo_mv rfl ?_ | refine eo_glb rfl ?_ | refine eo_neg ?_ | refine eo_mod ?_ | refine eo_fdiv ?_ | refine eo_mul ?_ | refine eo_pow ?_ | refine eo_bin ?_ | refine eo_cmp ?_ | refine eo_chn ?_ | refine eo_and1 ?_ | refine eo_and ?_ | refine eo_or1 ?_ | refine eo_or ?_ | refine eo_not ?_ | refine eo_ife ?_ | refine eo_lst ?_ | refine eo_tup ?_ | refine eo_ix ?_ | refine eo_sl ?_ | refine eoo_no ?_ | refine eoo_yes ?_ | refine eo_rev ?_ | refine eo_isi ?_ | refine eo_repr ?_ | refine eo_sorted ?_ | refine eo_bi ?_ | refine eo_callN rfl ?_ | refine eo_call ?_ | refine eo_callK ?_ | refine eo_mt ?_ | refine eio_rng1 ?_ | refine eio_rng2 ?_ | refine eio_zip ?_ | refine eio_any ?_ | refine eo_pur ?_ | refine to_no ?_ | refine to_yes ?_ | refine sso_nil ?_ | refine cmp_lt ?_ | refine cmp_le ?_ | refine cmp_gt ?_ | refine cmp_ge ?_ | refine cmp_eq ?_ | refine cmp_is rfl ?_ | refine cmp_isn rfl ?_ | refine cmp_in1 ?_ | refine cmp_nin1 ?_ | refine cmp_eqs (by assumption) (by assumption) ?_ | refine And.intro (show nsh _ = true from rfl) ?_ | refine Exists.intro _ (And.intro rfl ?_))
    refine ⟨_, by rw [show (1 + (k : Int)) = ((k + 1 : Nat) : Int) by omega]; exact ix_nat g2, ?_⟩
    refine cmp_rfl (ge_str (hz _ (List.getElem_mem h1)) (hz _ (List.getElem_mem h2))) ?_
    have e : fallB zs (.int (1 + (k : Int))) = !decide (zs[k].cps.toList < zs[k + 1].cps.toList) := by
      have t : (1 + (k : Int)).toNat = k + 1 := by omega
      unfold fallB
      dsimp only
      rw [t, Nat.add_sub_cancel, List.getD_eq_getElem?_getD, List.getD_eq_getElem?_getD, List.getElem?_eq_getElem h1, List.getElem?_eq_getElem h2]
      rfl
    refine ⟨by rw [e]; rfl, ite2 (fun _ => ?_) (fun _ => rfl)⟩
    repeat (first | refine sso_cons ?_ | refine so_ret ?_ | refine so_asg ?_ | refine so_asgC ?_ | refine so_ite ?_ | refine so_expr ?_ | refine so_par ?_ | refine so_setx ?_ | refine so_aug rfl ?_ | refine eso_nil ?_ | refine eso_mv rfl ?_ | refine eso_cons (fun _ _ => rfl) ?_ | refine eo_cst rfl ?_ | refine eo_cp rfl (by first | assumption | rfl) ?_ | refine eo_mv rfl ?_ | refine eo_glb rfl ?_ | refine eo_neg ?_ | refine eo_mod ?_ | refine eo_fdiv ?_ | refine eo_mul ?_ | refine eo_pow ?_ | refine eo_bin ?_ | refine eo_cmp ?_ | refine eo_chn ?_ | refine eo_and1 ?_ | refine eo_and ?_ | refine eo_or1 ?_ | refine eo_or ?_ | refine eo_not ?_ | refine eo_ife ?_ | refine eo_lst ?_ | refine eo_tup ?_ | refine eo_ix ?_ | refine eo_sl ?_ | refine eoo_no ?_ | refine eoo_yes ?_ | refine eo_rev ?_ | refine eo_isi ?_ | refine eo_repr ?_ | refine eo_sorted ?_ | refine eo_bi ?_ | refine eo_callN rfl ?_ | refine eo_call ?_ | refine eo_callK ?_ | refine eo_mt ?_ | refine eio_rng1 ?_ | refine eio_rng2 ?_ | refine eio_zip ?_ | refine eio_any ?_ | refine eo_pur ?_ | refine to_no ?_ | refine to_yes ?_ | refine sso_nil ?_ | refine cmp_lt ?_ | refine cmp_le ?_ | refine cmp_gt ?_ | refine cmp_ge ?_ | refine cmp_eq ?_ | refine cmp_is rfl ?_ | refine cmp_isn rfl ?_ | refine cmp_in1 ?_ | refine cmp_nin1 ?_ | refine cmp_eqs (by assumption) (by assumption) ?_ | refine And.intro (show nsh _ = true from rfl) ?_ | refine Exists.intro _ (And.intro rfl ?_))
    exact ⟨rfl, rfl⟩
  · repeat (first | refine sso_cons ?_ | refine so_ret ?_ | refine so_asg ?_ | refine so_asgC ?_ | refine so_ite ?_ | refine so_expr ?_ | refine so_par ?_ | refine so_setx ?_ | refine so_aug rfl ?_ | refine eso_nil ?_ | refine eso_mv rfl ?_ | refine eso_cons (fun _ _ => rfl) ?_ | refine eo_cst rfl ?_ | refine eo_cp rfl (by first | assumption | rfl) ?_ | refine eo_mv rfl ?_ | refine eo_glb rfl ?_ | refine eo_neg ?_ | refine eo_mod ?_ | refine eo_fdiv ?_ | refine eo_mul ?_ | refine eo_pow ?_ | refine eo_bin ?_ | refine eo_cmp ?_ | refine eo_chn ?_ | refine eo_and1 ?_ | refine eo_and ?_ | refine eo_or1 ?_ | refine eo_or ?_ | refine eo_not ?_ | refine eo_ife ?_ | refine eo_lst ?_ | refine eo_tup ?_ | refine eo_ix ?_ | refine eo_sl ?_ | refine eoo_no ?_ | refine eoo_yes ?_ | refine eo_rev ?_ | refine eo_isi ?_ | refine eo_repr ?_ | refine eo_sorted ?_ | refine eo_bi ?_ | refine eo_callN rfl ?_ | refine eo_call ?_ | refine eo_callK ?_ | refine eo_mt ?_ | refine eio_rng1 ?_ | refine eio_rng2 ?_ | refine eio_zip ?_ | refine eio_any ?_ | refine eo_pur ?_ | refine to_no ?_ | refine to_yes ?_ | refine sso_nil ?_ | refine cmp_lt ?_ | refine cmp_le ?_ | refine cmp_gt ?_ | refine cmp_ge ?_ | refine cmp_eq ?_ | refine cmp_is rfl ?_ | refine cmp_isn rfl ?_ | refine cmp_in1 ?_ | refine cmp_nin1 ?_ | refine cmp_eqs (by assumption) (by assumption) ?_ | refine And.intro (show nsh _ = true from rfl) ?_ | refine Exists.intro _ (And.intro rfl ?_))
    refine ⟨line_ge (by decide), _, eq_nil (n := 0) (fun d hd => ?_) (by decide), ?_⟩
    · rw [List.map_id] at hd
      obtain ⟨k, hk, rfl⟩ := List.mem_map.mp (List.mem_filter.mp hd).1
      exact dat_int _
    · exact ⟨rfl, rfl⟩
theorem cal14 (d : Nat) (o : Ow) (zs : List Str) (hz : ∀ z ∈ zs, PyData.strOk z = true) (hl : zs.length ≤ 1000) (hf : frz (.lst o (zs.map .str)) = .lst o (zs.map .str)) :
    ∃ r outs, cal (d + 1) 14 [.lst o (zs.map .str)] = some (r, outs) ∧ r = .bl (riseL zs).isEmpty ∧ outs = [] := by
  refine cal_of (f := d14) rfl rfl ?_
  repeat (first | refine sso_cons ?_ | refine so_ret ?_ | refine so_asg ?_ | refine so_asgC ?_ | refine so_ite ?_ | refine so_expr ?_ | refine so_par ?_ | refine so_setx ?_ | refine so_aug rfl ?_ | refine eso_nil ?_ | refine eso_mv rfl ?_ | refine eso_cons (fun _ _ => rfl) ?_ | refine eo_cst rfl ?_ | refine eo_cp rfl (by first | assumption | rfl) ?_ | refine eo_mv rfl ?_ | refine eo_glb rfl ?_ | refine eo_neg ?_ | refine eo_mod ?_ | refine eo_fdiv ?_ | refine eo_mul ?_ | refine eo_pow ?_ | refine eo_bin ?_ | refine eo_cmp ?_ | refine eo_chn ?_ | refine eo_and1 ?_ | refine eo_and ?_ | refine eo_or1 ?_ | refine eo_or ?_ | refine eo_not ?_ | refine eo_ife ?_ | refine eo_lst ?_ | refine eo_tup ?_ | refine eo_ix ?_ | refine eo_sl ?_ | refine eoo_no ?_ | refine eoo_yes ?_ | refine eo_rev ?_ | refine eo_isi ?_ | refine eo_repr ?_ | refine eo_sorted ?_ | refine eo_bi ?_ | refine eo_callN rfl ?_ | refine eo_call ?_ | refine eo_callK ?_ | refine eo_mt ?_ | refine eio_rng1 ?_ | refine eio_rng2 ?_ | refine eio_zip ?_ | refine eio_any ?_ | refine eo_pur ?_ | refine to_no ?_ | refine to_yes ?_ | refine sso_nil ?_ | refine cmp_lt ?_ | refine cmp_le ?_ | refine cmp_gt ?_ | refine cmp_ge ?_ | refine cmp_eq ?_ | refine cmp_is rfl ?_ | refine cmp_isn rfl ?_ | refine cmp_in1 ?_ | refine cmp_nin1 ?_ | refine cmp_eqs (by assumption) (by assumption) ?_ | refine And.intro (show nsh _ = true from rfl) ?_ | refine Exists.intro _ (And.intro rfl ?_))
  refine eo_lcP (fallB zs) id ?_
  repeat (first | refine sso_cons ?_ | refine so_ret ?_ | refine so_asg ?_ | refine so_asgC ?_ | refine so_ite ?_ | refine so_expr ?_ | refine so_par ?_ | refine so_setx ?_ | refine so_aug rfl ?_ | refine eso_nil ?_ | refine eso_mv rfl ?_ | refine eso_cons (fun _ _ => rfl) ?_ | refine eo_cst rfl ?_ | refine eo_cp rfl (by first | assumption | rfl) ?_ | refine eo_mv rfl ?_ | refine eo_glb rfl ?_ | refine eo_neg ?_ | refine eo_mod ?_ | refine eo_fdiv ?_ | refine eo_mul ?_ | refine eo_pow ?_ | refine eo_bin ?_ | refine eo_cmp ?_ | refine eo_chn ?_ | refine eo_and1 ?_ | refine eo_and ?_ | refine eo_or1 ?_ | refine eo_or ?_ | refine eo_not ?_ | refine eo_ife ?_ | refine eo_lst ?_ | refine eo_tup ?_ | refine eo_ix ?_ | refine eo_sl ?_ | refine eoo_no ?_ | refine eoo_yes ?_ | refine eo_rev ?_ | refine eo_isi ?_ | refine eo_repr ?_ | refine eo_sorted ?_ | refine eo_bi ?_ | refine eo_callN rfl ?_ | refine eo_call ?_ | refine eo_callK ?_ | refine eo_mt ?_ | refine eio_rng1 ?_ | refine eio_rng2 ?_ | refine eio_zip ?_ | refine eio_any ?_ | refine eo_pur ?_ | refine to_no ?_ | refine to_yes ?_ | refine sso_nil ?_ | refine cmp_lt ?_ | refine cmp_le ?_ | refine cmp_gt ?_ | refine cmp_ge ?_ | refine cmp_eq ?_ | refine cmp_is rfl ?_ | refine cmp_isn rfl ?_ | refine cmp_in1 ?_ | refine cmp_nin1 ?_ | refine cmp_eqs (by assumption) (by assumption) ?_ | refine And.intro (show nsh _ = true from rfl) ?_ | refine Exists.intro _ (And.intro rfl ?_))
  rw [List.length_map]
  refine ⟨_, _, rfl, rfl, ⟨by decide, by decide, by omega, by omega⟩, ?_, fun x hx => ?_, ?_⟩
  · rw [List.length_map, List.length_range]; exact line_ge (by omega)
  · obtain ⟨k, hk, rfl⟩ := List.mem_map.mp hx
    have hk : k < ((zs.length : Int) - 1).toNat := List.mem_range.mp hk
    have h1 : k < zs.length := by omega
    have h2 : k + 1 < zs.length := by omega
    have g1 : (zs.map D.str)[k]? = some (.str zs[k]) := by rw [List.getElem?_map, List.getElem?_eq_getElem h1]; rfl
    have g2 : (zs.map D.str)[k + 1]? = some (.str zs[k + 1]) := by rw [List.getElem?_map, List.getElem?_eq_getElem h2]; rfl
    refine ⟨_, rfl, ?_⟩
    repeat (first | refine sso_cons ?_ | refine so_ret ?_ | refine so_asg ?_ | refine so_asgC ?_ | refine so_ite ?_ | refine so_expr ?_ | refine so_par ?_ | refine so_setx ?_ | refine so_aug rfl ?_ | refine eso_nil ?_ | refine eso_mv rfl ?_ | refine eso_cons (fun _ _ => rfl) ?_ | refine eo_cst rfl ?_ | refine eo_cp rfl (by first | assumption | rfl) ?_ | refine eo_mv rfl ?_ | refine eo_glb rfl ?_ | refine eo_neg ?_ | refine eo_mod ?_ | refine eo_fdiv ?_ | refine eo_mul ?_ | refine eo_pow ?_ | refine eo_bin ?_ | refine eo_cmp ?_ | refine eo_chn ?_ | refine eo_and1 ?_ | refine eo_and ?_ | refine eo_or1 ?_ | refine eo_or ?_ | refine eo_not ?_ | refine eo_ife ?_ | refine eo_lst ?_ | refine eo_tup ?_ | refine eo_ix ?_ | refine eo_sl ?_ | refine eoo_no ?_ | refine eoo_yes ?_ | refine eo_rev ?_ | refine eo_isi ?_ | refine eo_repr ?_ | refine eo_sorted ?_ | refine eo_bi ?_ | refine eo_callN rfl ?_ | refine eo_call ?_ | refine eo_callK ?_ | refine eo_mt ?_ | refine eio_rng1 ?_ | refine eio_rng2 ?_ | refine eio_zip ?_ | refine eio_any ?_ | refine eo_pur ?_ | refine to_no ?_ | refine to_yes ?_ | refine sso_nil ?_ | refine cmp_lt ?_ | refine cmp_le ?_ | refine cmp_gt ?_ | refine cmp_ge ?_ | refine cmp_eq ?_ | refine cmp_is rfl ?_ | refine cmp_isn rfl ?_ | refine cmp_in1 ?_ | refine cmp_nin1 ?_ | refine cmp_eqs (by assumption) (by assumption) ?_ | refine And.intro (show nsh _ = true from rfl) ?_ | refine Exists.intro _ (And.intro rfl ?_))
    refine ⟨_, by rw [show (1 + (k : Int) - 1) = (k : Int) by omega]; exact ix_nat g1, ?_⟩
    repeat (first | refine sso_cons ?_ | refine so_ret ?_ | refine so_asg ?_ | refine so_asgC ?_ | refine so_ite ?_ | refine so_expr ?_ | refine so_par ?_ | refine so_setx ?_ | refine so_aug rfl ?_ | refine eso_nil ?_ | refine eso_mv rfl ?_ | refine eso_cons (fun _ _ => rfl) ?_ | refine eo_cst rfl ?_ | refine eo_cp rfl (by first | assumption | rfl) ?_ | refine eo_mv rfl ?_ | refine eo_glb rfl ?_ | refine eo_neg ?_ | refine eo_mod ?_ | refine eo_fdiv ?_ | refine eo_mul ?_ | refine eo_pow ?_ | refine eo_bin ?_ | refine eo_cmp ?_ | refine eo_chn ?_ | refine eo_and1 ?_ | refine eo_and ?_ | refine eo_or1 ?_ | refine eo_or ?_ | refine eo_not ?_ | refine eo_ife ?_ | refine eo_lst ?_ | refine eo_tup ?_ | refine eo_ix ?_ | refine eo_sl ?_ | refine eoo_no ?_ | refine eoo_yes ?_ | refine eo_rev ?_ | refine eo_isi ?_ | refine eo_repr ?_ | refine eo_sorted ?_ | refine eo_bi ?_ | refine eo_callN rfl ?_ | refine eo_call ?_ | refine eo_callK ?_ | refine eo_mt ?_ | refine eio_rng1 ?_ | refine eio_rng2 ?_ | refine eio_zip ?_ | refine eio_any ?_ | refine eo_pur ?_ | refine to_no ?_ | refine to_yes ?_ | refine sso_nil ?_ | refine cmp_lt ?_ | refine cmp_le ?_ | refine cmp_gt ?_ | refine cmp_ge ?_ | refine cmp_eq ?_ | refine cmp_is rfl ?_ | refine cmp_isn rfl ?_ | refine cmp_in1 ?_ | refine cmp_nin1 ?_ | refine cmp_eqs (by assumption) (by assumption) ?_ | refine And.intro (show nsh _ = true from rfl) ?_ | refine Exists.intro _ (And.intro rfl ?_))
    refine ⟨_, by rw [show (1 + (k : Int)) = ((k + 1 : Nat) : Int) by omega]; exact ix_nat g2, ?_⟩
    refine cmp_rfl (ge_str (hz _ (List.getElem_mem h1)) (hz _ (List.getElem_mem h2))) ?_
    have e : fallB zs (.int (1 + (k : Int))) = !decide (zs[k].cps.toList < zs[k + 1].cps.toList) := by
      have t : (1 + (k : Int)).toNat = k + 1 := by omega
      unfold fallB
      dsimp only
      rw [t, Nat.add_sub_cancel, List.getD_eq_getElem?_getD, List.getD_eq_getElem?_getD, List.getElem?_eq_getElem h1, List.getElem?_eq_getElem h2]
      rfl
    refine ⟨by rw [e]; rfl, ite2 (fun _ => ?_) (fun _ => rfl)⟩
    repeat (first | refine sso_cons ?_ | refine so_ret ?_ | refine so_asg ?_ | refine so_asgC ?_ | refine so_ite ?_ | refine so_expr ?_ | refine so_par ?_ | refine so_setx ?_ | refine so_aug rfl ?_ | refine eso_nil ?_ | refine eso_mv rfl ?_ | refine eso_cons (fun _ _ => rfl) ?_ | refine eo_cst rfl ?_ | refine eo_cp rfl (by first | assumption | rfl) ?_ | refine eo_mv rfl ?_ | refine eo_glb rfl ?_ | refine eo_neg ?_ | refine eo_mod ?_ | refine eo_fdiv ?_ | refine eo_mul ?_ | refine eo_pow ?_ | refine eo_bin ?_ | refine eo_cmp ?_ | refine eo_chn ?_ | refine eo_and1 ?_ | refine eo_and ?_ | refine eo_or1 ?_ | refine eo_or ?_ | refine eo_not ?_ | refine eo_ife ?_ | refine eo_lst ?_ | refine eo_tup ?_ | refine eo_ix ?_ | refine eo_sl ?_ | refine eoo_no ?_ | refine eoo_yes ?_ | refine eo_rev ?_ | refine eo_isi ?_ | refine eo_repr ?_ | refine eo_sorted ?_ | refine eo_bi ?_ | refine eo_callN rfl ?_ | refine eo_call ?_ | refine eo_callK ?_ | refine eo_mt ?_ | refine eio_rng1 ?_ | refine eio_rng2 ?_ | refine eio_zip ?_ | refine eio_any ?_ | refine eo_pur ?_ | refine to_no ?_ | refine to_yes ?_ | refine sso_nil ?_ | refine cmp_lt ?_ | refine cmp_le ?_ | refine cmp_gt ?_ | refine cmp_ge ?_ | refine cmp_eq ?_ | refine cmp_is rfl ?_ | refine cmp_isn rfl ?_ | refine cmp_in1 ?_ | refine cmp_nin1 ?_ | refine cmp_eqs (by assumption) (by assumption) ?_ | refine And.intro (show nsh _ = true from rfl) ?_ | refine Exists.intro _ (And.intro rfl ?_))
    exact ⟨rfl, rfl⟩
  · repeat (first | refine sso_cons ?_ | refine so_ret ?_ | refine so_asg ?_ | refine so_asgC ?_ | refine so_ite ?_ | refine so_expr ?_ | refine so_par ?_ | refine so_setx ?_ | refine so_aug rfl ?_ | refine eso_nil ?_ | refine eso_mv rfl ?_ | refine eso_cons (fun _ _ => rfl) ?_ | refine eo_cst rfl ?_ | refine eo_cp rfl (by first | assumption | rfl) ?_ | refine eo_mv rfl ?_ | refine eo_glb rfl ?_ | refine eo_neg ?_ | refine eo_mod ?_ | refine eo_fdiv ?_ | refine eo_mul ?_ | refine eo_pow ?_ | refine eo_bin ?_ | refine eo_cmp ?_ | refine eo_chn ?_ | refine eo_and1 ?_ | refine eo_and ?_ | refine eo_or1 ?_ | refine eo_or ?_ | refine eo_not ?_ | refine eo_ife ?_ | refine eo_lst ?_ | refine eo_tup ?_ | refine eo_ix ?_ | refine eo_sl ?_ | refine eoo_no ?_ | refine eoo_yes ?_ | refine eo_rev ?_ | refine eo_isi ?_ | refine eo_repr ?_ | refine eo_sorted ?_ | refine eo_bi ?_ | refine eo_callN rfl ?_ | refine eo_call ?_ | refine eo_callK ?_ | refine eo_mt ?_ | refine eio_rng1 ?_ | refine eio_rng2 ?_ | refine eio_zip ?_ | refine eio_any ?_ | refine eo_pur ?_ | refine to_no ?_ | refine to_yes ?_ | refine sso_nil ?_ | refine cmp_lt ?_ | refine cmp_le ?_ | refine cmp_gt ?_ | refine cmp_ge ?_ | refine cmp_eq ?_ | refine cmp_is rfl ?_ | refine cmp_isn rfl ?_ | refine cmp_in1 ?_ | refine cmp_nin1 ?_ | refine cmp_eqs (by assumption) (by assumption) ?_ | refine And.intro (show nsh _ = true from rfl) ?_ | refine Exists.intro _ (And.intro rfl ?_))
    refine ⟨line_ge (by decide), _, eq_nil (n := 0) (fun d hd => ?_) (by decide), ?_⟩
    · rw [List.map_id] at hd
      obtain ⟨k, hk, rfl⟩ := List.mem_map.mp (List.mem_filter.mp hd).1
      exact dat_int _
    · exact ⟨rfl, rfl⟩
/-! ### _law_exact -/
theorem cal10b (d : Nat) (a b : Bool) : ∃ r outs, cal (d + 1) 10 [.bl a, .bl b] = some (r, outs) ∧ r = .bl (a == b) ∧ outs = [] := by
  refine cal_of (f := d10) rfl rfl ?_
  cases b with
  | true =>
    repeat (first | refine sso_cons ?_ | refine so_ret ?_ | refine so_asg ?_ | refine so_asgC ?_ | refine so_ite ?_ | refine so_expr ?_ | refine so_par ?_ | refine so_setx ?_ | refine so_aug rfl ?_ | refine eso_nil ?_ | refine eso_mv rfl ?_ | refine eso_cons (fun _ _ => rfl) ?_ | refine eo_cst rfl ?_ | refine eo_cp rfl (by first | assumption | rfl) ?_ | refine eo_mv rfl ?_ | refine eo_glb rfl ?_ | refine eo_neg ?_ | refine eo_mod ?_ | refine eo_fdiv ?_ | refine eo_mul ?_ | refine eo_pow ?_ | refine eo_bin ?_ | refine eo_cmp ?_ | refine eo_chn ?_ | refine eo_and1 ?_ | refine eo_and ?_ | refine eo_or1 ?_ | refine eo_or ?_ | refine eo_not ?_ | refine eo_ife ?_ | refine eo_lst ?_ | refine eo_tup ?_ | refine eo_ix ?_ | refine eo_sl ?_ | refine eoo_no ?_ | refine eoo_yes ?_ | refine eo_rev ?_ | refine eo_isi ?_ | refine eo_repr ?_ | refine eo_sorted ?_ | refine eo_bi ?_ | refine eo_callN rfl ?_ | refine eo_call ?_ | refine eo_callK ?_ | refine eo_mt ?_ | refine eio_rng1 ?_ | refine eio_rng2 ?_ | refine eio_zip ?_ | refine eio_any ?_ | refine eo_pur ?_ | refine to_no ?_ | refine to_yes ?_ | refine sso_nil ?_ | refine cmp_lt ?_ | refine cmp_le ?_ | refine cmp_gt ?_ | refine cmp_ge ?_ | refine cmp_eq ?_ | refine cmp_is rfl ?_ | refine cmp_isn rfl ?_ | refine cmp_in1 ?_ | refine cmp_nin1 ?_ | refine cmp_eqs (by assumption) (by assumption) ?_ | refine And.intro (show nsh _ = true from rfl) ?_ | refine Exists.intro _ (And.intro rfl ?_))
    exact ⟨by cases a <;> rfl, rfl⟩
  | false =>
    repeat (first | refine sso_cons ?_ | refine so_ret ?_ | refine so_asg ?_ | refine so_asgC ?_ | refine so_ite ?_ | refine so_expr ?_ | refine so_par ?_ | refine so_setx ?_ | refine so_aug rfl ?_ | refine eso_nil ?_ | refine eso_mv rfl ?_ | refine eso_cons (fun _ _ => rfl) ?_ | refine eo_cst rfl ?_ | refine eo_cp rfl (by first | assumption | rfl) ?_ | refine eo_mv rfl ?_ | refine eo_glb rfl ?_ | refine eo_neg ?_ | refine eo_mod ?_ | refine eo_fdiv ?_ | refine eo_mul ?_ | refine eo_pow ?_ | refine eo_bin ?_ | refine eo_cmp ?_ | refine eo_chn ?_ | refine eo_and1 ?_ | refine eo_and ?_ | refine eo_or1 ?_ | refine eo_or ?_ | refine eo_not ?_ | refine eo_ife ?_ | refine eo_lst ?_ | refine eo_tup ?_ | refine eo_ix ?_ | refine eo_sl ?_ | refine eoo_no ?_ | refine eoo_yes ?_ | refine eo_rev ?_ | refine eo_isi ?_ | refine eo_repr ?_ | refine eo_sorted ?_ | refine eo_bi ?_ | refine eo_callN rfl ?_ | refine eo_call ?_ | refine eo_callK ?_ | refine eo_mt ?_ | refine eio_rng1 ?_ | refine eio_rng2 ?_ | refine eio_zip ?_ | refine eio_any ?_ | refine eo_pur ?_ | refine to_no ?_ | refine to_yes ?_ | refine sso_nil ?_ | refine cmp_lt ?_ | refine cmp_le ?_ | refine cmp_gt ?_ | refine cmp_ge ?_ | refine cmp_eq ?_ | refine cmp_is rfl ?_ | refine cmp_isn rfl ?_ | refine cmp_in1 ?_ | refine cmp_nin1 ?_ | refine cmp_eqs (by assumption) (by assumption) ?_ | refine And.intro (show nsh _ = true from rfl) ?_ | refine Exists.intro _ (And.intro rfl ?_))
    exact ⟨by cases a <;> rfl, rfl⟩
def sameT : D → D
  | .tup [.bl x, .bl y] => .bl (x == y)
  | _ => .bl false
theorem cal10l (d : Nat) (o u : Ow) (a b : Bool) (ho : frz (.lst o [.bl a, .bl b]) = .lst o [.bl a, .bl b]) (hu : frz (.lst u [.bl a, .bl b]) = .lst u [.bl a, .bl b]) : ∃ r outs, cal (d + 2) 10 [.lst o [.bl a, .bl b], .lst u [.bl a, .bl b]] = some (r, outs) ∧ r = .bl true ∧ outs = [] := by
  refine cal_of (f := d10) rfl rfl ?_
  repeat (first | refine sso_cons ?_ | refine so_ret ?_ | refine so_asg ?_ | refine so_asgC ?_ | refine so_ite ?_ | refine so_expr ?_ | refine so_par ?_ | refine so_setx ?_ | refine so_aug rfl ?_ | refine eso_nil ?_ | refine eso_mv rfl ?_ | refine eso_cons (fun _ _ => rfl) ?_ | refine eo_cst rfl ?_ | refine eo_cp rfl (by first | assumption | rfl) ?_ | refine eo_mv rfl ?_ | refine eo_glb rfl ?_ | refine eo_neg ?_ | refine eo_mod ?_ | refine eo_fdiv ?_ | refine eo_mul ?_ | refine eo_pow ?_ | refine eo_bin ?_ | refine eo_cmp ?_ | refine eo_chn ?_ | refine eo_and1 ?_ | refine eo_and ?_ | refine eo_or1 ?_ | refine eo_or ?_ | refine eo_not ?_ | refine eo_ife ?_ | refine eo_lst ?_ | refine eo_tup ?_ | refine eo_ix ?_ | refine eo_sl ?_ | refine eoo_no ?_ | refine eoo_yes ?_ | refine eo_rev ?_ | refine eo_isi ?_ | refine eo_repr ?_ | refine eo_sorted ?_ | refine eo_bi ?_ | refine eo_callN rfl ?_ | refine eo_call ?_ | refine eo_callK ?_ | refine eo_mt ?_ | refine eio_rng1 ?_ | refine eio_rng2 ?_ | refine eio_zip ?_ | refine eio_any ?_ | refine eo_pur ?_ | refine to_no ?_ | refine to_yes ?_ | refine sso_nil ?_ | refine cmp_lt ?_ | refine cmp_le ?_ | refine cmp_gt ?_ | refine cmp_ge ?_ | refine cmp_eq ?_ | refine cmp_is rfl ?_ | refine cmp_isn rfl ?_ | refine cmp_in1 ?_ | refine cmp_nin1 ?_ | refine cmp_eqs (by assumption) (by assumption) ?_ | refine And.intro (show nsh _ = true from rfl) ?_ | refine Exists.intro _ (And.intro rfl ?_))
  refine eo_lcP (fun _ => true) sameT ?_
  repeat (first | refine sso_cons ?_ | refine so_ret ?_ | refine so_asg ?_ | refine so_asgC ?_ | refine so_ite ?_ | refine so_expr ?_ | refine so_par ?_ | refine so_setx ?_ | refine so_aug rfl ?_ | refine eso_nil ?_ | refine eso_mv rfl ?_ | refine eso_cons (fun _ _ => rfl) ?_ | refine eo_cst rfl ?_ | refine eo_cp rfl (by first | assumption | rfl) ?_ | refine eo_mv rfl ?_ | refine eo_glb rfl ?_ | refine eo_neg ?_ | refine eo_mod ?_ | refine eo_fdiv ?_ | refine eo_mul ?_ | refine eo_pow ?_ | refine eo_bin ?_ | refine eo_cmp ?_ | refine eo_chn ?_ | refine eo_and1 ?_ | refine eo_and ?_ | refine eo_or1 ?_ | refine eo_or ?_ | refine eo_not ?_ | refine eo_ife ?_ | refine eo_lst ?_ | refine eo_tup ?_ | refine eo_ix ?_ | refine eo_sl ?_ | refine eoo_no ?_ | refine eoo_yes ?_ | refine eo_rev ?_ | refine eo_isi ?_ | refine eo_repr ?_ | refine eo_sorted ?_ | refine eo_bi ?_ | refine eo_callN rfl ?_ | refine eo_call ?_ | refine eo_callK ?_ | refine eo_mt ?_ | refine eio_rng1 ?_ | refine eio_rng2 ?_ | refine eio_zip ?_ | refine eio_any ?_ | refine eo_pur ?_ | refine to_no ?_ | refine to_yes ?_ | refine sso_nil ?_ | refine cmp_lt ?_ | refine cmp_le ?_ | refine cmp_gt ?_ | refine cmp_ge ?_ | refine cmp_eq ?_ | refine cmp_is rfl ?_ | refine cmp_isn rfl ?_ | refine cmp_in1 ?_ | refine cmp_nin1 ?_ | refine cmp_eqs (by assumption) (by assumption) ?_ | refine And.intro (show nsh _ = true from rfl) ?_ | refine Exists.intro _ (And.intro rfl ?_))
  refine .inl ⟨_, _, _, _, rfl, rfl, line_ge (show 2 ≤ 16777216 by decide), fun x hx => ?_, ?_⟩
  · have hx : x = .tup [.bl a, .bl a] ∨ x = .tup [.bl b, .bl b] := by
      have : x ∈ [D.tup [.bl a, .bl a], D.tup [.bl b, .bl b]] := hx
      simpa using this
    rcases hx with rfl | rfl
    · refine ⟨_, rfl, ?_⟩
      repeat (first | refine sso_cons ?_ | refine so_ret ?_ | refine so_asg ?_ | refine so_asgC ?_ | refine so_ite ?_ | refine so_expr ?_ | refine so_par ?_ | refine so_setx ?_ | refine so_aug rfl ?_ | refine eso_nil ?_ | refine eso_mv rfl ?_ | refine eso_cons (fun _ _ => rfl) ?_ | refine eo_cst rfl ?_ | refine eo_cp rfl (by first | assumption | rfl) ?_ | refine eo_mv rfl ?_ | refine eo_glb rfl ?_ | refine eo_neg ?_ | refine eo_mod ?_ | refine eo_fdiv ?_ | refine eo_mul ?_ | refine eo_pow ?_ | refine eo_bin ?_ | refine eo_cmp ?_ | refine eo_chn ?_ | refine eo_and1 ?_ | refine eo_and ?_ | refine eo_or1 ?_ | refine eo_or ?_ | refine eo_not ?_ | refine eo_ife ?_ | refine eo_lst ?_ | refine eo_tup ?_ | refine eo_ix ?_ | refine eo_sl ?_ | refine eoo_no ?_ | refine eoo_yes ?_ | refine eo_rev ?_ | refine eo_isi ?_ | refine eo_repr ?_ | refine eo_sorted ?_ | refine eo_bi ?_ | refine eo_callN rfl ?_ | refine eo_call ?_ | refine eo_callK ?_ | refine eo_mt ?_ | refine eio_rng1 ?_ | refine eio_rng2 ?_ | refine eio_zip ?_ | refine eio_any ?_ | refine eo_pur ?_ | refine to_no ?_ | refine to_yes ?_ | refine sso_nil ?_ | refine cmp_lt ?_ | refine cmp_le ?_ | refine cmp_gt ?_ | refine cmp_ge ?_ | refine cmp_eq ?_ | refine cmp_is rfl ?_ | refine cmp_isn rfl ?_ | refine cmp_in1 ?_ | refine cmp_nin1 ?_ | refine cmp_eqs (by assumption) (by assumption) ?_ | refine And.intro (show nsh _ = true from rfl) ?_ | refine Exists.intro _ (And.intro rfl ?_))
      refine ⟨rfl, iteT ?_⟩
      repeat (first | refine sso_cons ?_ | refine so_ret ?_ | refine so_asg ?_ | refine so_asgC ?_ | refine so_ite ?_ | refine so_expr ?_ | refine so_par ?_ | refine so_setx ?_ | refine so_aug rfl ?_ | refine eso_nil ?_ | refine eso_mv rfl ?_ | refine eso_cons (fun _ _ => rfl) ?_ | refine eo_cst rfl ?_ | refine eo_cp rfl (by first | assumption | rfl) ?_ | refine eo_mv rfl ?_ | refine eo_glb rfl ?_ | refine eo_neg ?_ | refine eo_mod ?_ | refine eo_fdiv ?_ | refine eo_mul ?_ | refine eo_pow ?_ | refine eo_bin ?_ | refine eo_cmp ?_ | refine eo_chn ?_ | refine eo_and1 ?_ | refine eo_and ?_ | refine eo_or1 ?_ | refine eo_or ?_ | refine eo_not ?_ | refine eo_ife ?_ | refine eo_lst ?_ | refine eo_tup ?_ | refine eo_ix ?_ | refine eo_sl ?_ | refine eoo_no ?_ | refine eoo_yes ?_ | refine eo_rev ?_ | refine eo_isi ?_ | refine eo_repr ?_ | refine eo_sorted ?_ | refine eo_bi ?_ | refine eo_callN rfl ?_ | refine eo_call ?_ | refine eo_callK ?_ | refine eo_mt ?_ | refine eio_rng1 ?_ | refine eio_rng2 ?_ | refine eio_zip ?_ | refine eio_any ?_ | refine eo_pur ?_ | refine to_no ?_ | refine to_yes ?_ | refine sso_nil ?_ | refine cmp_lt ?_ | refine cmp_le ?_ | refine cmp_gt ?_ | refine cmp_ge ?_ | refine cmp_eq ?_ | refine cmp_is rfl ?_ | refine cmp_isn rfl ?_ | refine cmp_in1 ?_ | refine cmp_nin1 ?_ | refine cmp_eqs (by assumption) (by assumption) ?_ | refine And.intro (show nsh _ = true from rfl) ?_ | refine Exists.intro _ (And.intro rfl ?_))
      obtain ⟨r, outs, h1, rfl, rfl⟩ := cal10b d a a
      exact ⟨_, _, h1, rfl, rfl⟩
    · refine ⟨_, rfl, ?_⟩
      repeat (first | refine sso_cons ?_ | refine so_ret ?_ | refine so_asg ?_ | refine so_asgC ?_ | refine so_ite ?_ | refine so_expr ?_ | refine so_par ?_ | refine so_setx ?_ | refine so_aug rfl ?_ | refine eso_nil ?_ | refine eso_mv rfl ?_ | refine eso_cons (fun _ _ => rfl) ?_ | refine eo_cst rfl ?_ | refine eo_cp rfl (by first | assumption | rfl) ?_ | refine eo_mv rfl ?_ | refine eo_glb rfl ?_ | refine eo_neg ?_ | refine eo_mod ?_ | refine eo_fdiv ?_ | refine eo_mul ?_ | refine eo_pow ?_ | refine eo_bin ?_ | refine eo_cmp ?_ | refine eo_chn ?_ | refine eo_and1 ?_ | refine eo_and ?_ | refine eo_or1 ?_ | refine eo_or ?_ | refine eo_not ?_ | refine eo_ife ?_ | refine eo_lst ?_ | refine eo_tup ?_ | refine eo_ix ?_ | refine eo_sl ?_ | refine eoo_no ?_ | refine eoo_yes ?_ | refine eo_rev ?_ | refine eo_isi ?_ | refine eo_repr ?_ | refine eo_sorted ?_ | refine eo_bi ?_ | refine eo_callN rfl ?_ | refine eo_call ?_ | refine eo_callK ?_ | refine eo_mt ?_ | refine eio_rng1 ?_ | refine eio_rng2 ?_ | refine eio_zip ?_ | refine eio_any ?_ | refine eo_pur ?_ | refine to_no ?_ | refine to_yes ?_ | refine sso_nil ?_ | refine cmp_lt ?_ | refine cmp_le ?_ | refine cmp_gt ?_ | refine cmp_ge ?_ | refine cmp_eq ?_ | refine cmp_is rfl ?_ | refine cmp_isn rfl ?_ | refine cmp_in1 ?_ | refine cmp_nin1 ?_ | refine cmp_eqs (by assumption) (by assumption) ?_ | refine And.intro (show nsh _ = true from rfl) ?_ | refine Exists.intro _ (And.intro rfl ?_))
      refine ⟨rfl, iteT ?_⟩
      repeat (first | refine sso_cons ?_ | refine so_ret ?_ | refine so_asg ?_ | refine so_asgC ?_ | refine so_ite ?_ | refine so_expr ?_ | refine so_par ?_ | refine so_setx ?_ | refine so_aug rfl ?_ | refine eso_nil ?_ | refine eso_mv rfl ?_ | refine eso_cons (fun _ _ => rfl) ?_ | refine eo_cst rfl ?_ | refine eo_cp rfl (by first | assumption | rfl) ?_ | refine eo_mv rfl ?_ | refine eo_glb rfl ?_ | refine eo_neg ?_ | refine eo_mod ?_ | refine eo_fdiv ?_ | refine eo_mul ?_ | refine eo_pow ?_ | refine eo_bin ?_ | refine eo_cmp ?_ | refine eo_chn ?_ | refine eo_and1 ?_ | refine eo_and ?_ | refine eo_or1 ?_ | refine eo_or ?_ | refine eo_not ?_ | refine eo_ife ?_ | refine eo_lst ?_ | refine eo_tup ?_ | refine eo_ix ?_ | refine eo_sl ?_ | refine eoo_no ?_ | refine eoo_yes ?_ | refine eo_rev ?_ | refine eo_isi ?_ | refine eo_repr ?_ | refine eo_sorted ?_ | refine eo_bi ?_ | refine eo_callN rfl ?_ | refine eo_call ?_ | refine eo_callK ?_ | refine eo_mt ?_ | refine eio_rng1 ?_ | refine eio_rng2 ?_ | refine eio_zip ?_ | refine eio_any ?_ | refine eo_pur ?_ | refine to_no ?_ | refine to_yes ?_ | refine sso_nil ?_ | refine cmp_lt ?_ | refine cmp_le ?_ | refine cmp_gt ?_ | refine cmp_ge ?_ | refine cmp_eq ?_ | refine cmp_is rfl ?_ | refine cmp_isn rfl ?_ | refine cmp_in1 ?_ | refine cmp_nin1 ?_ | refine cmp_eqs (by assumption) (by assumption) ?_ | refine And.intro (show nsh _ = true from rfl) ?_ | refine Exists.intro _ (And.intro rfl ?_))
      obtain ⟨r, outs, h1, rfl, rfl⟩ := cal10b d b b
      exact ⟨_, _, h1, rfl, rfl⟩
  · cases a <;> cases b <;> (refine cmp_rfl (r := true) (by decide +kernel) ?_; exact ⟨rfl, rfl⟩)
end PLAW

set_option Elab.async false
set_option linter.all false
set_option maxRecDepth 100000
namespace PLAW
open PySem PySem.Spec PyProof.Rows L2 VK
/-! ### _law_name -/
def LETS : List Str := SMALL.cps.toList.map fun c => ⟨#[c]⟩
theorem lets_ok : ∀ w ∈ LETS, PyData.strOk w = true := by decide +kernel
theorem in_lets {z : Str} : decide ((⟨(z.cps.toList.take 1).toArray⟩ : Str) ∈ LETS) = headB z := by
  unfold headB
  cases e : z.cps.toList with
  | nil => decide +kernel
  | cons c cs =>
    show decide ((⟨#[c]⟩ : Str) ∈ LETS) = decide (c ∈ SMALL.cps.toList)
    unfold LETS
    rw [Bool.eq_iff_iff, decide_eq_true_iff, decide_eq_true_iff, List.mem_map]
    constructor
    · rintro ⟨a, h1, h2⟩
      rw [← one_inj.mp h2]; exact h1
    · exact fun h => ⟨c, h, rfl⟩
theorem cal13 (d : Nat) (v : D) (hv : Plain v) (hf : frz v = v) : ∃ r outs, cal (d + 1) 13 [v] = some (r, outs) ∧ r = .bl (nameB v) ∧ outs = [] := by
  refine cal_of (f := d13) rfl rfl ?_
  cases v with
  | str z =>
    repeat (first | refine sso_cons ?_ | refine so_ret ?_ | refine so_asg ?_ | refine so_asgC ?_ | refine so_ite ?_ | refine so_expr ?_ | refine so_par ?_ | refine so_setx ?_ | refine so_aug rfl ?_ | refine eso_nil ?_ | refine eso_mv rfl ?_ | refine eso_cons (fun _ _ => rfl) ?_ | refine eo_cst rfl ?_ | refine eo_cp rfl (by first | assumption | rfl) ?_ | refine eo_mv rfl ?_ | refine eo_glb rfl ?_ | refine eo_neg ?_ | refine eo_mod ?_ | refine eo_fdiv ?_ | refine eo_mul ?_ | refine eo_pow ?_ | refine eo_bin ?_ | refine eo_cmp ?_ | refine eo_chn ?_ | refine eo_and1 ?_ | refine eo_and ?_ | refine eo_or1 ?_ | refine eo_or ?_ | refine eo_not ?_ | refine eo_ife ?_ | refine eo_lst ?_ | refine eo_tup ?_ | refine eo_ix ?_ | refine eo_sl ?_ | refine eoo_no ?_ | refine eoo_yes ?_ | refine eo_rev ?_ | refine eo_isi ?_ | refine eo_repr ?_ | refine eo_sorted ?_ | refine eo_bi ?_ | refine eo_callN rfl ?_ | refine eo_call ?_ | refine eo_callK ?_ | refine eo_mt ?_ | refine eio_rng1 ?_ | refine eio_rng2 ?_ | refine eio_zip ?_ | refine eio_any ?_ | refine eo_pur ?_ | refine to_no ?_ | refine to_yes ?_ | refine sso_nil ?_ | refine cmp_lt ?_ | refine cmp_le ?_ | refine cmp_gt ?_ | refine cmp_ge ?_ | refine cmp_eq ?_ | refine cmp_is rfl ?_ | refine cmp_isn rfl ?_ | refine cmp_in1 ?_ | refine cmp_nin1 ?_ | refine cmp_eqs (by assumption) (by assumption) ?_ | refine And.intro (show nsh _ = true from rfl) ?_ | refine Exists.intro _ (And.intro rfl ?_))
    refine ⟨_, len_str hv.2, ?_⟩
    repeat (first | refine sso_cons ?_ | refine so_ret ?_ | refine so_asg ?_ | refine so_asgC ?_ | refine so_ite ?_ | refine so_expr ?_ | refine so_par ?_ | refine so_setx ?_ | refine so_aug rfl ?_ | refine eso_nil ?_ | refine eso_mv rfl ?_ | refine eso_cons (fun _ _ => rfl) ?_ | refine eo_cst rfl ?_ | refine eo_cp rfl (by first | assumption | rfl) ?_ | refine eo_mv rfl ?_ | refine eo_glb rfl ?_ | refine eo_neg ?_ | refine eo_mod ?_ | refine eo_fdiv ?_ | refine eo_mul ?_ | refine eo_pow ?_ | refine eo_bin ?_ | refine eo_cmp ?_ | refine eo_chn ?_ | refine eo_and1 ?_ | refine eo_and ?_ | refine eo_or1 ?_ | refine eo_or ?_ | refine eo_not ?_ | refine eo_ife ?_ | refine eo_lst ?_ | refine eo_tup ?_ | refine eo_ix ?_ | refine eo_sl ?_ | refine eoo_no ?_ | refine eoo_yes ?_ | refine eo_rev ?_ | refine eo_isi ?_ | refine eo_repr ?_ | refine eo_sorted ?_ | refine eo_bi ?_ | refine eo_callN rfl ?_ | refine eo_call ?_ | refine eo_callK ?_ | refine eo_mt ?_ | refine eio_rng1 ?_ | refine eio_rng2 ?_ | refine eio_zip ?_ | refine eio_any ?_ | refine eo_pur ?_ | refine to_no ?_ | refine to_yes ?_ | refine sso_nil ?_ | refine cmp_lt ?_ | refine cmp_le ?_ | refine cmp_gt ?_ | refine cmp_ge ?_ | refine cmp_eq ?_ | refine cmp_is rfl ?_ | refine cmp_isn rfl ?_ | refine cmp_in1 ?_ | refine cmp_nin1 ?_ | refine cmp_eqs (by assumption) (by assumption) ?_ | refine And.intro (show nsh _ = true from rfl) ?_ | refine Exists.intro _ (And.intro rfl ?_))
    refine ite2 (fun h8 => ?_) (fun h8 => ?_)
    · refine ⟨true, congrArg some h8, ?_⟩
      have h8 : (8 : Int) < z.length := of_decide_eq_true h8
      refine iteT ?_
      repeat (first | refine sso_cons ?_ | refine so_ret ?_ | refine so_asg ?_ | refine so_asgC ?_ | refine so_ite ?_ | refine so_expr ?_ | refine so_par ?_ | refine so_setx ?_ | refine so_aug rfl ?_ | refine eso_nil ?_ | refine eso_mv rfl ?_ | refine eso_cons (fun _ _ => rfl) ?_ | refine eo_cst rfl ?_ | refine eo_cp rfl (by first | assumption | rfl) ?_ | refine eo_mv rfl ?_ | refine eo_glb rfl ?_ | refine eo_neg ?_ | refine eo_mod ?_ | refine eo_fdiv ?_ | refine eo_mul ?_ | refine eo_pow ?_ | refine eo_bin ?_ | refine eo_cmp ?_ | refine eo_chn ?_ | refine eo_and1 ?_ | refine eo_and ?_ | refine eo_or1 ?_ | refine eo_or ?_ | refine eo_not ?_ | refine eo_ife ?_ | refine eo_lst ?_ | refine eo_tup ?_ | refine eo_ix ?_ | refine eo_sl ?_ | refine eoo_no ?_ | refine eoo_yes ?_ | refine eo_rev ?_ | refine eo_isi ?_ | refine eo_repr ?_ | refine eo_sorted ?_ | refine eo_bi ?_ | refine eo_callN rfl ?_ | refine eo_call ?_ | refine eo_callK ?_ | refine eo_mt ?_ | refine eio_rng1 ?_ | refine eio_rng2 ?_ | refine eio_zip ?_ | refine eio_any ?_ | refine eo_pur ?_ | refine to_no ?_ | refine to_yes ?_ | refine sso_nil ?_ | refine cmp_lt ?_ | refine cmp_le ?_ | refine cmp_gt ?_ | refine cmp_ge ?_ | refine cmp_eq ?_ | refine cmp_is rfl ?_ | refine cmp_isn rfl ?_ | refine cmp_in1 ?_ | refine cmp_nin1 ?_ | refine cmp_eqs (by assumption) (by assumption) ?_ | refine And.intro (show nsh _ = true from rfl) ?_ | refine Exists.intro _ (And.intro rfl ?_))
      refine ⟨?_, rfl⟩
      show D.bl false = D.bl (_ && _ && _ && _)
      rw [decide_eq_false (show ¬ z.length ≤ 8 by omega), Bool.and_false, Bool.false_and]
    · have h8 : ¬ (8 : Int) < z.length := fun h => h8 (decide_eq_true h)
      repeat (first | refine sso_cons ?_ | refine so_ret ?_ | refine so_asg ?_ | refine so_asgC ?_ | refine so_ite ?_ | refine so_expr ?_ | refine so_par ?_ | refine so_setx ?_ | refine so_aug rfl ?_ | refine eso_nil ?_ | refine eso_mv rfl ?_ | refine eso_cons (fun _ _ => rfl) ?_ | refine eo_cst rfl ?_ | refine eo_cp rfl (by first | assumption | rfl) ?_ | refine eo_mv rfl ?_ | refine eo_glb rfl ?_ | refine eo_neg ?_ | refine eo_mod ?_ | refine eo_fdiv ?_ | refine eo_mul ?_ | refine eo_pow ?_ | refine eo_bin ?_ | refine eo_cmp ?_ | refine eo_chn ?_ | refine eo_and1 ?_ | refine eo_and ?_ | refine eo_or1 ?_ | refine eo_or ?_ | refine eo_not ?_ | refine eo_ife ?_ | refine eo_lst ?_ | refine eo_tup ?_ | refine eo_ix ?_ | refine eo_sl ?_ | refine eoo_no ?_ | refine eoo_yes ?_ | refine eo_rev ?_ | refine eo_isi ?_ | refine eo_repr ?_ | refine eo_sorted ?_ | refine eo_bi ?_ | refine eo_callN rfl ?_ | refine eo_call ?_ | refine eo_callK ?_ | refine eo_mt ?_ | refine eio_rng1 ?_ | refine eio_rng2 ?_ | refine eio_zip ?_ | refine eio_any ?_ | refine eo_pur ?_ | refine to_no ?_ | refine to_yes ?_ | refine sso_nil ?_ | refine cmp_lt ?_ | refine cmp_le ?_ | refine cmp_gt ?_ | refine cmp_ge ?_ | refine cmp_eq ?_ | refine cmp_is rfl ?_ | refine cmp_isn rfl ?_ | refine cmp_in1 ?_ | refine cmp_nin1 ?_ | refine cmp_eqs (by assumption) (by assumption) ?_ | refine And.intro (show nsh _ = true from rfl) ?_ | refine Exists.intro _ (And.intro rfl ?_))
      refine ⟨_, slice_str hv.2, ?_⟩
      repeat (first | refine sso_cons ?_ | refine so_ret ?_ | refine so_asg ?_ | refine so_asgC ?_ | refine so_ite ?_ | refine so_expr ?_ | refine so_par ?_ | refine so_setx ?_ | refine so_aug rfl ?_ | refine eso_nil ?_ | refine eso_mv rfl ?_ | refine eso_cons (fun _ _ => rfl) ?_ | refine eo_cst rfl ?_ | refine eo_cp rfl (by first | assumption | rfl) ?_ | refine eo_mv rfl ?_ | refine eo_glb rfl ?_ | refine eo_neg ?_ | refine eo_mod ?_ | refine eo_fdiv ?_ | refine eo_mul ?_ | refine eo_pow ?_ | refine eo_bin ?_ | refine eo_cmp ?_ | refine eo_chn ?_ | refine eo_and1 ?_ | refine eo_and ?_ | refine eo_or1 ?_ | refine eo_or ?_ | refine eo_not ?_ | refine eo_ife ?_ | refine eo_lst ?_ | refine eo_tup ?_ | refine eo_ix ?_ | refine eo_sl ?_ | refine eoo_no ?_ | refine eoo_yes ?_ | refine eo_rev ?_ | refine eo_isi ?_ | refine eo_repr ?_ | refine eo_sorted ?_ | refine eo_bi ?_ | refine eo_callN rfl ?_ | refine eo_call ?_ | refine eo_callK ?_ | refine eo_mt ?_ | refine eio_rng1 ?_ | refine eio_rng2 ?_ | refine eio_zip ?_ | refine eio_any ?_ | refine eo_pur ?_ | refine to_no ?_ | refine to_yes ?_ | refine sso_nil ?_ | refine cmp_lt ?_ | refine cmp_le ?_ | refine cmp_gt ?_ | refine cmp_ge ?_ | refine cmp_eq ?_ | refine cmp_is rfl ?_ | refine cmp_isn rfl ?_ | refine cmp_in1 ?_ | refine cmp_nin1 ?_ | refine cmp_eqs (by assumption) (by assumption) ?_ | refine And.intro (show nsh _ = true from rfl) ?_ | refine Exists.intro _ (And.intro rfl ?_))
      refine cmp_rfl (notin_strs (ws := LETS) ?_ lets_ok) ?_
      · rw [cut_first]
        exact strOk_iff.mpr fun c hc => strOk_iff.mp hv.1 c (List.mem_of_mem_take hc)
      rw [cut_first, in_lets]
      repeat (first | refine sso_cons ?_ | refine so_ret ?_ | refine so_asg ?_ | refine so_asgC ?_ | refine so_ite ?_ | refine so_expr ?_ | refine so_par ?_ | refine so_setx ?_ | refine so_aug rfl ?_ | refine eso_nil ?_ | refine eso_mv rfl ?_ | refine eso_cons (fun _ _ => rfl) ?_ | refine eo_cst rfl ?_ | refine eo_cp rfl (by first | assumption | rfl) ?_ | refine eo_mv rfl ?_ | refine eo_glb rfl ?_ | refine eo_neg ?_ | refine eo_mod ?_ | refine eo_fdiv ?_ | refine eo_mul ?_ | refine eo_pow ?_ | refine eo_bin ?_ | refine eo_cmp ?_ | refine eo_chn ?_ | refine eo_and1 ?_ | refine eo_and ?_ | refine eo_or1 ?_ | refine eo_or ?_ | refine eo_not ?_ | refine eo_ife ?_ | refine eo_lst ?_ | refine eo_tup ?_ | refine eo_ix ?_ | refine eo_sl ?_ | refine eoo_no ?_ | refine eoo_yes ?_ | refine eo_rev ?_ | refine eo_isi ?_ | refine eo_repr ?_ | refine eo_sorted ?_ | refine eo_bi ?_ | refine eo_callN rfl ?_ | refine eo_call ?_ | refine eo_callK ?_ | refine eo_mt ?_ | refine eio_rng1 ?_ | refine eio_rng2 ?_ | refine eio_zip ?_ | refine eio_any ?_ | refine eo_pur ?_ | refine to_no ?_ | refine to_yes ?_ | refine sso_nil ?_ | refine cmp_lt ?_ | refine cmp_le ?_ | refine cmp_gt ?_ | refine cmp_ge ?_ | refine cmp_eq ?_ | refine cmp_is rfl ?_ | refine cmp_isn rfl ?_ | refine cmp_in1 ?_ | refine cmp_nin1 ?_ | refine cmp_eqs (by assumption) (by assumption) ?_ | refine And.intro (show nsh _ = true from rfl) ?_ | refine Exists.intro _ (And.intro rfl ?_))
      refine ite2 (fun hl => ?_) (fun hl => ?_)
      · repeat (first | refine sso_cons ?_ | refine so_ret ?_ | refine so_asg ?_ | refine so_asgC ?_ | refine so_ite ?_ | refine so_expr ?_ | refine so_par ?_ | refine so_setx ?_ | refine so_aug rfl ?_ | refine eso_nil ?_ | refine eso_mv rfl ?_ | refine eso_cons (fun _ _ => rfl) ?_ | refine eo_cst rfl ?_ | refine eo_cp rfl (by first | assumption | rfl) ?_ | refine eo_mv rfl ?_ | refine eo_glb rfl ?_ | refine eo_neg ?_ | refine eo_mod ?_ | refine eo_fdiv ?_ | refine eo_mul ?_ | refine eo_pow ?_ | refine eo_bin ?_ | refine eo_cmp ?_ | refine eo_chn ?_ | refine eo_and1 ?_ | refine eo_and ?_ | refine eo_or1 ?_ | refine eo_or ?_ | refine eo_not ?_ | refine eo_ife ?_ | refine eo_lst ?_ | refine eo_tup ?_ | refine eo_ix ?_ | refine eo_sl ?_ | refine eoo_no ?_ | refine eoo_yes ?_ | refine eo_rev ?_ | refine eo_isi ?_ | refine eo_repr ?_ | refine eo_sorted ?_ | refine eo_bi ?_ | refine eo_callN rfl ?_ | refine eo_call ?_ | refine eo_callK ?_ | refine eo_mt ?_ | refine eio_rng1 ?_ | refine eio_rng2 ?_ | refine eio_zip ?_ | refine eio_any ?_ | refine eo_pur ?_ | refine to_no ?_ | refine to_yes ?_ | refine sso_nil ?_ | refine cmp_lt ?_ | refine cmp_le ?_ | refine cmp_gt ?_ | refine cmp_ge ?_ | refine cmp_eq ?_ | refine cmp_is rfl ?_ | refine cmp_isn rfl ?_ | refine cmp_in1 ?_ | refine cmp_nin1 ?_ | refine cmp_eqs (by assumption) (by assumption) ?_ | refine And.intro (show nsh _ = true from rfl) ?_ | refine Exists.intro _ (And.intro rfl ?_))
        refine ⟨?_, rfl⟩
        have hl : headB z = false := by simpa using hl
        show D.bl false = D.bl (_ && _ && _ && _)
        rw [hl, Bool.and_false]
      · repeat (first | refine sso_cons ?_ | refine so_ret ?_ | refine so_asg ?_ | refine so_asgC ?_ | refine so_ite ?_ | refine so_expr ?_ | refine so_par ?_ | refine so_setx ?_ | refine so_aug rfl ?_ | refine eso_nil ?_ | refine eso_mv rfl ?_ | refine eso_cons (fun _ _ => rfl) ?_ | refine eo_cst rfl ?_ | refine eo_cp rfl (by first | assumption | rfl) ?_ | refine eo_mv rfl ?_ | refine eo_glb rfl ?_ | refine eo_neg ?_ | refine eo_mod ?_ | refine eo_fdiv ?_ | refine eo_mul ?_ | refine eo_pow ?_ | refine eo_bin ?_ | refine eo_cmp ?_ | refine eo_chn ?_ | refine eo_and1 ?_ | refine eo_and ?_ | refine eo_or1 ?_ | refine eo_or ?_ | refine eo_not ?_ | refine eo_ife ?_ | refine eo_lst ?_ | refine eo_tup ?_ | refine eo_ix ?_ | refine eo_sl ?_ | refine eoo_no ?_ | refine eoo_yes ?_ | refine eo_rev ?_ | refine eo_isi ?_ | refine eo_repr ?_ | refine eo_sorted ?_ | refine eo_bi ?_ | refine eo_callN rfl ?_ | refine eo_call ?_ | refine eo_callK ?_ | refine eo_mt ?_ | refine eio_rng1 ?_ | refine eio_rng2 ?_ | refine eio_zip ?_ | refine eio_any ?_ | refine eo_pur ?_ | refine to_no ?_ | refine to_yes ?_ | refine sso_nil ?_ | refine cmp_lt ?_ | refine cmp_le ?_ | refine cmp_gt ?_ | refine cmp_ge ?_ | refine cmp_eq ?_ | refine cmp_is rfl ?_ | refine cmp_isn rfl ?_ | refine cmp_in1 ?_ | refine cmp_nin1 ?_ | refine cmp_eqs (by assumption) (by assumption) ?_ | refine And.intro (show nsh _ = true from rfl) ?_ | refine Exists.intro _ (And.intro rfl ?_))
        have hl : headB z = true := by simpa using hl
        refine eo_lcP (outB SIGNS) id ?_
        repeat (first | refine sso_cons ?_ | refine so_ret ?_ | refine so_asg ?_ | refine so_asgC ?_ | refine so_ite ?_ | refine so_expr ?_ | refine so_par ?_ | refine so_setx ?_ | refine so_aug rfl ?_ | refine eso_nil ?_ | refine eso_mv rfl ?_ | refine eso_cons (fun _ _ => rfl) ?_ | refine eo_cst rfl ?_ | refine eo_cp rfl (by first | assumption | rfl) ?_ | refine eo_mv rfl ?_ | refine eo_glb rfl ?_ | refine eo_neg ?_ | refine eo_mod ?_ | refine eo_fdiv ?_ | refine eo_mul ?_ | refine eo_pow ?_ | refine eo_bin ?_ | refine eo_cmp ?_ | refine eo_chn ?_ | refine eo_and1 ?_ | refine eo_and ?_ | refine eo_or1 ?_ | refine eo_or ?_ | refine eo_not ?_ | refine eo_ife ?_ | refine eo_lst ?_ | refine eo_tup ?_ | refine eo_ix ?_ | refine eo_sl ?_ | refine eoo_no ?_ | refine eoo_yes ?_ | refine eo_rev ?_ | refine eo_isi ?_ | refine eo_repr ?_ | refine eo_sorted ?_ | refine eo_bi ?_ | refine eo_callN rfl ?_ | refine eo_call ?_ | refine eo_callK ?_ | refine eo_mt ?_ | refine eio_rng1 ?_ | refine eio_rng2 ?_ | refine eio_zip ?_ | refine eio_any ?_ | refine eo_pur ?_ | refine to_no ?_ | refine to_yes ?_ | refine sso_nil ?_ | refine cmp_lt ?_ | refine cmp_le ?_ | refine cmp_gt ?_ | refine cmp_ge ?_ | refine cmp_eq ?_ | refine cmp_is rfl ?_ | refine cmp_isn rfl ?_ | refine cmp_in1 ?_ | refine cmp_nin1 ?_ | refine cmp_eqs (by assumption) (by assumption) ?_ | refine And.intro (show nsh _ = true from rfl) ?_ | refine Exists.intro _ (And.intro rfl ?_))
        refine .inr (.inr ⟨_, rfl, ?_, fun x hx => ?_, ?_⟩)
        · rw [List.length_map, Array.length_toList]; exact hv.2
        · obtain ⟨c, hc, rfl⟩ := List.mem_map.mp hx
          refine ⟨_, rfl, ?_⟩
          repeat (first | refine sso_cons ?_ | refine so_ret ?_ | refine so_asg ?_ | refine so_asgC ?_ | refine so_ite ?_ | refine so_expr ?_ | refine so_par ?_ | refine so_setx ?_ | refine so_aug rfl ?_ | refine eso_nil ?_ | refine eso_mv rfl ?_ | refine eso_cons (fun _ _ => rfl) ?_ | refine eo_cst rfl ?_ | refine eo_cp rfl (by first | assumption | rfl) ?_ | refine eo_mv rfl ?_ | refine eo_glb rfl ?_ | refine eo_neg ?_ | refine eo_mod ?_ | refine eo_fdiv ?_ | refine eo_mul ?_ | refine eo_pow ?_ | refine eo_bin ?_ | refine eo_cmp ?_ | refine eo_chn ?_ | refine eo_and1 ?_ | refine eo_and ?_ | refine eo_or1 ?_ | refine eo_or ?_ | refine eo_not ?_ | refine eo_ife ?_ | refine eo_lst ?_ | refine eo_tup ?_ | refine eo_ix ?_ | refine eo_sl ?_ | refine eoo_no ?_ | refine eoo_yes ?_ | refine eo_rev ?_ | refine eo_isi ?_ | refine eo_repr ?_ | refine eo_sorted ?_ | refine eo_bi ?_ | refine eo_callN rfl ?_ | refine eo_call ?_ | refine eo_callK ?_ | refine eo_mt ?_ | refine eio_rng1 ?_ | refine eio_rng2 ?_ | refine eio_zip ?_ | refine eio_any ?_ | refine eo_pur ?_ | refine to_no ?_ | refine to_yes ?_ | refine sso_nil ?_ | refine cmp_lt ?_ | refine cmp_le ?_ | refine cmp_gt ?_ | refine cmp_ge ?_ | refine cmp_eq ?_ | refine cmp_is rfl ?_ | refine cmp_isn rfl ?_ | refine cmp_in1 ?_ | refine cmp_nin1 ?_ | refine cmp_eqs (by assumption) (by assumption) ?_ | refine And.intro (show nsh _ = true from rfl) ?_ | refine Exists.intro _ (And.intro rfl ?_))
          refine ⟨by rw [outB_one]; rfl, ite2 (fun _ => ?_) (fun _ => rfl)⟩
          repeat (first | refine sso_cons ?_ | refine so_ret ?_ | refine so_asg ?_ | refine so_asgC ?_ | refine so_ite ?_ | refine so_expr ?_ | refine so_par ?_ | refine so_setx ?_ | refine so_aug rfl ?_ | refine eso_nil ?_ | refine eso_mv rfl ?_ | refine eso_cons (fun _ _ => rfl) ?_ | refine eo_cst rfl ?_ | refine eo_cp rfl (by first | assumption | rfl) ?_ | refine eo_mv rfl ?_ | refine eo_glb rfl ?_ | refine eo_neg ?_ | refine eo_mod ?_ | refine eo_fdiv ?_ | refine eo_mul ?_ | refine eo_pow ?_ | refine eo_bin ?_ | refine eo_cmp ?_ | refine eo_chn ?_ | refine eo_and1 ?_ | refine eo_and ?_ | refine eo_or1 ?_ | refine eo_or ?_ | refine eo_not ?_ | refine eo_ife ?_ | refine eo_lst ?_ | refine eo_tup ?_ | refine eo_ix ?_ | refine eo_sl ?_ | refine eoo_no ?_ | refine eoo_yes ?_ | refine eo_rev ?_ | refine eo_isi ?_ | refine eo_repr ?_ | refine eo_sorted ?_ | refine eo_bi ?_ | refine eo_callN rfl ?_ | refine eo_call ?_ | refine eo_callK ?_ | refine eo_mt ?_ | refine eio_rng1 ?_ | refine eio_rng2 ?_ | refine eio_zip ?_ | refine eio_any ?_ | refine eo_pur ?_ | refine to_no ?_ | refine to_yes ?_ | refine sso_nil ?_ | refine cmp_lt ?_ | refine cmp_le ?_ | refine cmp_gt ?_ | refine cmp_ge ?_ | refine cmp_eq ?_ | refine cmp_is rfl ?_ | refine cmp_isn rfl ?_ | refine cmp_in1 ?_ | refine cmp_nin1 ?_ | refine cmp_eqs (by assumption) (by assumption) ?_ | refine And.intro (show nsh _ = true from rfl) ?_ | refine Exists.intro _ (And.intro rfl ?_))
          exact ⟨rfl, rfl⟩
        · repeat (first | refine sso_cons ?_ | refine so_ret ?_ | refine so_asg ?_ | refine so_asgC ?_ | refine so_ite ?_ | refine so_expr ?_ | refine so_par ?_ | refine so_setx ?_ | refine so_aug rfl ?_ | refine eso_nil ?_ | refine eso_mv rfl ?_ | refine eso_cons (fun _ _ => rfl) ?_ | refine eo_cst rfl ?_ | refine eo_cp rfl (by first | assumption | rfl) ?_ | refine eo_mv rfl ?_ | refine eo_glb rfl ?_ | refine eo_neg ?_ | refine eo_mod ?_ | refine eo_fdiv ?_ | refine eo_mul ?_ | refine eo_pow ?_ | refine eo_bin ?_ | refine eo_cmp ?_ | refine eo_chn ?_ | refine eo_and1 ?_ | refine eo_and ?_ | refine eo_or1 ?_ | refine eo_or ?_ | refine eo_not ?_ | refine eo_ife ?_ | refine eo_lst ?_ | refine eo_tup ?_ | refine eo_ix ?_ | refine eo_sl ?_ | refine eoo_no ?_ | refine eoo_yes ?_ | refine eo_rev ?_ | refine eo_isi ?_ | refine eo_repr ?_ | refine eo_sorted ?_ | refine eo_bi ?_ | refine eo_callN rfl ?_ | refine eo_call ?_ | refine eo_callK ?_ | refine eo_mt ?_ | refine eio_rng1 ?_ | refine eio_rng2 ?_ | refine eio_zip ?_ | refine eio_any ?_ | refine eo_pur ?_ | refine to_no ?_ | refine to_yes ?_ | refine sso_nil ?_ | refine cmp_lt ?_ | refine cmp_le ?_ | refine cmp_gt ?_ | refine cmp_ge ?_ | refine cmp_eq ?_ | refine cmp_is rfl ?_ | refine cmp_isn rfl ?_ | refine cmp_in1 ?_ | refine cmp_nin1 ?_ | refine cmp_eqs (by assumption) (by assumption) ?_ | refine And.intro (show nsh _ = true from rfl) ?_ | refine Exists.intro _ (And.intro rfl ?_))
          refine ⟨line_ge (by decide), _, eq_nil (n := 0) (fun d hd => ?_) (by decide), ?_⟩
          · rw [List.map_id] at hd
            obtain ⟨c, hc, rfl⟩ := List.mem_map.mp (List.mem_filter.mp hd).1
            exact dat_str (strOk_one hv.1 hc)
          · refine ⟨?_, rfl⟩
            rw [out_nil]
            show D.bl _ = D.bl (_ && _ && _ && _)
            have hp : 0 < z.length := by
              rw [len_cps]
              cases e : z.cps.toList with
              | nil => unfold headB at hl; rw [e] at hl; cases hl
              | cons c cs => exact Nat.succ_pos _
            rw [hl, decide_eq_true hp, decide_eq_true (show z.length ≤ 8 by omega), Bool.and_true, Bool.and_true, Bool.and_true]
  | fn i => exact hv.elim
  | _ =>
    repeat (first | refine sso_cons ?_ | refine so_ret ?_ | refine so_asg ?_ | refine so_asgC ?_ | refine so_ite ?_ | refine so_expr ?_ | refine so_par ?_ | refine so_setx ?_ | refine so_aug rfl ?_ | refine eso_nil ?_ | refine eso_mv rfl ?_ | refine eso_cons (fun _ _ => rfl) ?_ | refine eo_cst rfl ?_ | refine eo_cp rfl (by first | assumption | rfl) ?_ | refine eo_mv rfl ?_ | refine eo_glb rfl ?_ | refine eo_neg ?_ | refine eo_mod ?_ | refine eo_fdiv ?_ | refine eo_mul ?_ | refine eo_pow ?_ | refine eo_bin ?_ | refine eo_cmp ?_ | refine eo_chn ?_ | refine eo_and1 ?_ | refine eo_and ?_ | refine eo_or1 ?_ | refine eo_or ?_ | refine eo_not ?_ | refine eo_ife ?_ | refine eo_lst ?_ | refine eo_tup ?_ | refine eo_ix ?_ | refine eo_sl ?_ | refine eoo_no ?_ | refine eoo_yes ?_ | refine eo_rev ?_ | refine eo_isi ?_ | refine eo_repr ?_ | refine eo_sorted ?_ | refine eo_bi ?_ | refine eo_callN rfl ?_ | refine eo_call ?_ | refine eo_callK ?_ | refine eo_mt ?_ | refine eio_rng1 ?_ | refine eio_rng2 ?_ | refine eio_zip ?_ | refine eio_any ?_ | refine eo_pur ?_ | refine to_no ?_ | refine to_yes ?_ | refine sso_nil ?_ | refine cmp_lt ?_ | refine cmp_le ?_ | refine cmp_gt ?_ | refine cmp_ge ?_ | refine cmp_eq ?_ | refine cmp_is rfl ?_ | refine cmp_isn rfl ?_ | refine cmp_in1 ?_ | refine cmp_nin1 ?_ | refine cmp_eqs (by assumption) (by assumption) ?_ | refine And.intro (show nsh _ = true from rfl) ?_ | refine Exists.intro _ (And.intro rfl ?_))
    exact ⟨rfl, rfl⟩
/-- items that the law looks at -/
structure Itm (d : D) : Prop where
  pl : Plain d
  fz : frz d = d
  rp : Rp 0 10002 d
def strsOf (ds : List D) : List Str := ds.filterMap fun d => match d with
  | .str z => some z
  | _ => none
theorem strs_of_names : ∀ {xs : List D}, xs.all nameB = true → xs = (strsOf xs).map .str
  | [], _ => rfl
  | x :: xs, h => by
    rw [List.all_cons, Bool.and_eq_true] at h
    have ih := strs_of_names h.2
    cases x <;> try (cases h.1; done)
    rename_i z
    show D.str z :: xs = .str z :: (strsOf xs).map .str
    rw [← ih]
def namesB : D → Bool
  | .lst _ xs => xs.all nameB && (riseL (strsOf xs)).isEmpty
  | _ => false
theorem cal3l (d : Nat) (o : Ow) (xs : List D) (hX : ∀ x ∈ xs, Itm x) (hl : xs.length ≤ 1000) (hf : frz (.lst o xs) = .lst o xs) (hfl : frzL xs = xs) : ∃ r outs, cal (d + 3) 3 [.lst o xs] = some (r, outs) ∧ r = .bl (namesB (.lst o xs)) ∧ outs = [] := by
  refine cal_of (f := d3) rfl rfl ?_
  repeat (first | refine sso_cons ?_ | refine so_ret ?_ | refine so_asg ?_ | refine so_asgC ?_ | refine so_ite ?_ | refine so_expr ?_ | refine so_par ?_ | refine so_setx ?_ | refine so_aug rfl ?_ | refine eso_nil ?_ | refine eso_mv rfl ?_ | refine eso_cons (fun _ _ => rfl) ?_ | refine eo_cst rfl ?_ | refine eo_cp rfl (by first | assumption | rfl) ?_ | refine eo_mv rfl ?_ | refine eo_glb rfl ?_ | refine eo_neg ?_ | refine eo_mod ?_ | refine eo_fdiv ?_ | refine eo_mul ?_ | refine eo_pow ?_ | refine eo_bin ?_ | refine eo_cmp ?_ | refine eo_chn ?_ | refine eo_and1 ?_ | refine eo_and ?_ | refine eo_or1 ?_ | refine eo_or ?_ | refine eo_not ?_ | refine eo_ife ?_ | refine eo_lst ?_ | refine eo_tup ?_ | refine eo_ix ?_ | refine eo_sl ?_ | refine eoo_no ?_ | refine eoo_yes ?_ | refine eo_rev ?_ | refine eo_isi ?_ | refine eo_repr ?_ | refine eo_sorted ?_ | refine eo_bi ?_ | refine eo_callN rfl ?_ | refine eo_call ?_ | refine eo_callK ?_ | refine eo_mt ?_ | refine eio_rng1 ?_ | refine eio_rng2 ?_ | refine eio_zip ?_ | refine eio_any ?_ | refine eo_pur ?_ | refine to_no ?_ | refine to_yes ?_ | refine sso_nil ?_ | refine cmp_lt ?_ | refine cmp_le ?_ | refine cmp_gt ?_ | refine cmp_ge ?_ | refine cmp_eq ?_ | refine cmp_is rfl ?_ | refine cmp_isn rfl ?_ | refine cmp_in1 ?_ | refine cmp_nin1 ?_ | refine cmp_eqs (by assumption) (by assumption) ?_ | refine And.intro (show nsh _ = true from rfl) ?_ | refine Exists.intro _ (And.intro rfl ?_))
  refine eo_lcP (fun x => !nameB x) id ?_
  repeat (first | refine sso_cons ?_ | refine so_ret ?_ | refine so_asg ?_ | refine so_asgC ?_ | refine so_ite ?_ | refine so_expr ?_ | refine so_par ?_ | refine so_setx ?_ | refine so_aug rfl ?_ | refine eso_nil ?_ | refine eso_mv rfl ?_ | refine eso_cons (fun _ _ => rfl) ?_ | refine eo_cst rfl ?_ | refine eo_cp rfl (by first | assumption | rfl) ?_ | refine eo_mv rfl ?_ | refine eo_glb rfl ?_ | refine eo_neg ?_ | refine eo_mod ?_ | refine eo_fdiv ?_ | refine eo_mul ?_ | refine eo_pow ?_ | refine eo_bin ?_ | refine eo_cmp ?_ | refine eo_chn ?_ | refine eo_and1 ?_ | refine eo_and ?_ | refine eo_or1 ?_ | refine eo_or ?_ | refine eo_not ?_ | refine eo_ife ?_ | refine eo_lst ?_ | refine eo_tup ?_ | refine eo_ix ?_ | refine eo_sl ?_ | refine eoo_no ?_ | refine eoo_yes ?_ | refine eo_rev ?_ | refine eo_isi ?_ | refine eo_repr ?_ | refine eo_sorted ?_ | refine eo_bi ?_ | refine eo_callN rfl ?_ | refine eo_call ?_ | refine eo_callK ?_ | refine eo_mt ?_ | refine eio_rng1 ?_ | refine eio_rng2 ?_ | refine eio_zip ?_ | refine eio_any ?_ | refine eo_pur ?_ | refine to_no ?_ | refine to_yes ?_ | refine sso_nil ?_ | refine cmp_lt ?_ | refine cmp_le ?_ | refine cmp_gt ?_ | refine cmp_ge ?_ | refine cmp_eq ?_ | refine cmp_is rfl ?_ | refine cmp_isn rfl ?_ | refine cmp_in1 ?_ | refine cmp_nin1 ?_ | refine cmp_eqs (by assumption) (by assumption) ?_ | refine And.intro (show nsh _ = true from rfl) ?_ | refine Exists.intro _ (And.intro rfl ?_))
  refine .inl ⟨_, _, rfl, ?_, fun x hx => ?_, ?_⟩
  · rw [hfl]; exact line_ge (by omega)
  · rw [hfl] at hx
    have ix := hX x hx
    have hfx := ix.fz
    refine ⟨_, rfl, ?_⟩
    repeat (first | refine sso_cons ?_ | refine so_ret ?_ | refine so_asg ?_ | refine so_asgC ?_ | refine so_ite ?_ | refine so_expr ?_ | refine so_par ?_ | refine so_setx ?_ | refine so_aug rfl ?_ | refine eso_nil ?_ | refine eso_mv rfl ?_ | refine eso_cons (fun _ _ => rfl) ?_ | refine eo_cst rfl ?_ | refine eo_cp rfl (by first | assumption | rfl) ?_ | refine eo_mv rfl ?_ | refine eo_glb rfl ?_ | refine eo_neg ?_ | refine eo_mod ?_ | refine eo_fdiv ?_ | refine eo_mul ?_ | refine eo_pow ?_ | refine eo_bin ?_ | refine eo_cmp ?_ | refine eo_chn ?_ | refine eo_and1 ?_ | refine eo_and ?_ | refine eo_or1 ?_ | refine eo_or ?_ | refine eo_not ?_ | refine eo_ife ?_ | refine eo_lst ?_ | refine eo_tup ?_ | refine eo_ix ?_ | refine eo_sl ?_ | refine eoo_no ?_ | refine eoo_yes ?_ | refine eo_rev ?_ | refine eo_isi ?_ | refine eo_repr ?_ | refine eo_sorted ?_ | refine eo_bi ?_ | refine eo_callN rfl ?_ | refine eo_call ?_ | refine eo_callK ?_ | refine eo_mt ?_ | refine eio_rng1 ?_ | refine eio_rng2 ?_ | refine eio_zip ?_ | refine eio_any ?_ | refine eo_pur ?_ | refine to_no ?_ | refine to_yes ?_ | refine sso_nil ?_ | refine cmp_lt ?_ | refine cmp_le ?_ | refine cmp_gt ?_ | refine cmp_ge ?_ | refine cmp_eq ?_ | refine cmp_is rfl ?_ | refine cmp_isn rfl ?_ | refine cmp_in1 ?_ | refine cmp_nin1 ?_ | refine cmp_eqs (by assumption) (by assumption) ?_ | refine And.intro (show nsh _ = true from rfl) ?_ | refine Exists.intro _ (And.intro rfl ?_))
    refine coN (cal1 d x ix.pl hfx) ?_
    repeat (first | refine sso_cons ?_ | refine so_ret ?_ | refine so_asg ?_ | refine so_asgC ?_ | refine so_ite ?_ | refine so_expr ?_ | refine so_par ?_ | refine so_setx ?_ | refine so_aug rfl ?_ | refine eso_nil ?_ | refine eso_mv rfl ?_ | refine eso_cons (fun _ _ => rfl) ?_ | refine eo_cst rfl ?_ | refine eo_cp rfl (by first | assumption | rfl) ?_ | refine eo_mv rfl ?_ | refine eo_glb rfl ?_ | refine eo_neg ?_ | refine eo_mod ?_ | refine eo_fdiv ?_ | refine eo_mul ?_ | refine eo_pow ?_ | refine eo_bin ?_ | refine eo_cmp ?_ | refine eo_chn ?_ | refine eo_and1 ?_ | refine eo_and ?_ | refine eo_or1 ?_ | refine eo_or ?_ | refine eo_not ?_ | refine eo_ife ?_ | refine eo_lst ?_ | refine eo_tup ?_ | refine eo_ix ?_ | refine eo_sl ?_ | refine eoo_no ?_ | refine eoo_yes ?_ | refine eo_rev ?_ | refine eo_isi ?_ | refine eo_repr ?_ | refine eo_sorted ?_ | refine eo_bi ?_ | refine eo_callN rfl ?_ | refine eo_call ?_ | refine eo_callK ?_ | refine eo_mt ?_ | refine eio_rng1 ?_ | refine eio_rng2 ?_ | refine eio_zip ?_ | refine eio_any ?_ | refine eo_pur ?_ | refine to_no ?_ | refine to_yes ?_ | refine sso_nil ?_ | refine cmp_lt ?_ | refine cmp_le ?_ | refine cmp_gt ?_ | refine cmp_ge ?_ | refine cmp_eq ?_ | refine cmp_is rfl ?_ | refine cmp_isn rfl ?_ | refine cmp_in1 ?_ | refine cmp_nin1 ?_ | refine cmp_eqs (by assumption) (by assumption) ?_ | refine And.intro (show nsh _ = true from rfl) ?_ | refine Exists.intro _ (And.intro rfl ?_))
    refine ⟨rfl, ite2 (fun _ => ?_) (fun _ => rfl)⟩
    repeat (first | refine sso_cons ?_ | refine so_ret ?_ | refine so_asg ?_ | refine so_asgC ?_ | refine so_ite ?_ | refine so_expr ?_ | refine so_par ?_ | refine so_setx ?_ | refine so_aug rfl ?_ | refine eso_nil ?_ | refine eso_mv rfl ?_ | refine eso_cons (fun _ _ => rfl) ?_ | refine eo_cst rfl ?_ | refine eo_cp rfl (by first | assumption | rfl) ?_ | refine eo_mv rfl ?_ | refine eo_glb rfl ?_ | refine eo_neg ?_ | refine eo_mod ?_ | refine eo_fdiv ?_ | refine eo_mul ?_ | refine eo_pow ?_ | refine eo_bin ?_ | refine eo_cmp ?_ | refine eo_chn ?_ | refine eo_and1 ?_ | refine eo_and ?_ | refine eo_or1 ?_ | refine eo_or ?_ | refine eo_not ?_ | refine eo_ife ?_ | refine eo_lst ?_ | refine eo_tup ?_ | refine eo_ix ?_ | refine eo_sl ?_ | refine eoo_no ?_ | refine eoo_yes ?_ | refine eo_rev ?_ | refine eo_isi ?_ | refine eo_repr ?_ | refine eo_sorted ?_ | refine eo_bi ?_ | refine eo_callN rfl ?_ | refine eo_call ?_ | refine eo_callK ?_ | refine eo_mt ?_ | refine eio_rng1 ?_ | refine eio_rng2 ?_ | refine eio_zip ?_ | refine eio_any ?_ | refine eo_pur ?_ | refine to_no ?_ | refine to_yes ?_ | refine sso_nil ?_ | refine cmp_lt ?_ | refine cmp_le ?_ | refine cmp_gt ?_ | refine cmp_ge ?_ | refine cmp_eq ?_ | refine cmp_is rfl ?_ | refine cmp_isn rfl ?_ | refine cmp_in1 ?_ | refine cmp_nin1 ?_ | refine cmp_eqs (by assumption) (by assumption) ?_ | refine And.intro (show nsh _ = true from rfl) ?_ | refine Exists.intro _ (And.intro rfl ?_))
    exact ⟨rfl, rfl⟩
  · repeat (first | refine sso_cons ?_ | refine so_ret ?_ | refine so_asg ?_ | refine so_asgC ?_ | refine so_ite ?_ | refine so_expr ?_ | refine so_par ?_ | refine so_setx ?_ | refine so_aug rfl ?_ | refine eso_nil ?_ | refine eso_mv rfl ?_ | refine eso_cons (fun _ _ => rfl) ?_ | refine eo_cst rfl ?_ | refine eo_cp rfl (by first | assumption | rfl) ?_ | refine eo_mv rfl ?_ | refine eo_glb rfl ?_ | refine eo_neg ?_ | refine eo_mod ?_ | refine eo_fdiv ?_ | refine eo_mul ?_ | refine eo_pow ?_ | refine eo_bin ?_ | refine eo_cmp ?_ | refine eo_chn ?_ | refine eo_and1 ?_ | refine eo_and ?_ | refine eo_or1 ?_ | refine eo_or ?_ | refine eo_not ?_ | refine eo_ife ?_ | refine eo_lst ?_ | refine eo_tup ?_ | refine eo_ix ?_ | refine eo_sl ?_ | refine eoo_no ?_ | refine eoo_yes ?_ | refine eo_rev ?_ | refine eo_isi ?_ | refine eo_repr ?_ | refine eo_sorted ?_ | refine eo_bi ?_ | refine eo_callN rfl ?_ | refine eo_call ?_ | refine eo_callK ?_ | refine eo_mt ?_ | refine eio_rng1 ?_ | refine eio_rng2 ?_ | refine eio_zip ?_ | refine eio_any ?_ | refine eo_pur ?_ | refine to_no ?_ | refine to_yes ?_ | refine sso_nil ?_ | refine cmp_lt ?_ | refine cmp_le ?_ | refine cmp_gt ?_ | refine cmp_ge ?_ | refine cmp_eq ?_ | refine cmp_is rfl ?_ | refine cmp_isn rfl ?_ | refine cmp_in1 ?_ | refine cmp_nin1 ?_ | refine cmp_eqs (by assumption) (by assumption) ?_ | refine And.intro (show nsh _ = true from rfl) ?_ | refine Exists.intro _ (And.intro rfl ?_))
    refine ⟨line_ge (by decide), _, neq_nil (n := 0) (fun d hd => ?_) (by decide), ?_⟩
    · rw [List.map_id, hfl] at hd
      exact (hX d (List.mem_filter.mp hd).1).rp.dat
    · rw [out_all, hfl]
      refine ⟨_, rfl, ite2 (fun hn => ?_) (fun hn => ?_)⟩
      · repeat (first | refine sso_cons ?_ | refine so_ret ?_ | refine so_asg ?_ | refine so_asgC ?_ | refine so_ite ?_ | refine so_expr ?_ | refine so_par ?_ | refine so_setx ?_ | refine so_aug rfl ?_ | refine eso_nil ?_ | refine eso_mv rfl ?_ | refine eso_cons (fun _ _ => rfl) ?_ | refine eo_cst rfl ?_ | refine eo_cp rfl (by first | assumption | rfl) ?_ | refine eo_mv rfl ?_ | refine eo_glb rfl ?_ | refine eo_neg ?_ | refine eo_mod ?_ | refine eo_fdiv ?_ | refine eo_mul ?_ | refine eo_pow ?_ | refine eo_bin ?_ | refine eo_cmp ?_ | refine eo_chn ?_ | refine eo_and1 ?_ | refine eo_and ?_ | refine eo_or1 ?_ | refine eo_or ?_ | refine eo_not ?_ | refine eo_ife ?_ | refine eo_lst ?_ | refine eo_tup ?_ | refine eo_ix ?_ | refine eo_sl ?_ | refine eoo_no ?_ | refine eoo_yes ?_ | refine eo_rev ?_ | refine eo_isi ?_ | refine eo_repr ?_ | refine eo_sorted ?_ | refine eo_bi ?_ | refine eo_callN rfl ?_ | refine eo_call ?_ | refine eo_callK ?_ | refine eo_mt ?_ | refine eio_rng1 ?_ | refine eio_rng2 ?_ | refine eio_zip ?_ | refine eio_any ?_ | refine eo_pur ?_ | refine to_no ?_ | refine to_yes ?_ | refine sso_nil ?_ | refine cmp_lt ?_ | refine cmp_le ?_ | refine cmp_gt ?_ | refine cmp_ge ?_ | refine cmp_eq ?_ | refine cmp_is rfl ?_ | refine cmp_isn rfl ?_ | refine cmp_in1 ?_ | refine cmp_nin1 ?_ | refine cmp_eqs (by assumption) (by assumption) ?_ | refine And.intro (show nsh _ = true from rfl) ?_ | refine Exists.intro _ (And.intro rfl ?_))
        have hn : xs.all nameB = false := by simpa using hn
        refine ⟨?_, rfl⟩
        show D.bl false = D.bl (_ && _)
        rw [hn]; rfl
      · repeat (first | refine sso_cons ?_ | refine so_ret ?_ | refine so_asg ?_ | refine so_asgC ?_ | refine so_ite ?_ | refine so_expr ?_ | refine so_par ?_ | refine so_setx ?_ | refine so_aug rfl ?_ | refine eso_nil ?_ | refine eso_mv rfl ?_ | refine eso_cons (fun _ _ => rfl) ?_ | refine eo_cst rfl ?_ | refine eo_cp rfl (by first | assumption | rfl) ?_ | refine eo_mv rfl ?_ | refine eo_glb rfl ?_ | refine eo_neg ?_ | refine eo_mod ?_ | refine eo_fdiv ?_ | refine eo_mul ?_ | refine eo_pow ?_ | refine eo_bin ?_ | refine eo_cmp ?_ | refine eo_chn ?_ | refine eo_and1 ?_ | refine eo_and ?_ | refine eo_or1 ?_ | refine eo_or ?_ | refine eo_not ?_ | refine eo_ife ?_ | refine eo_lst ?_ | refine eo_tup ?_ | refine eo_ix ?_ | refine eo_sl ?_ | refine eoo_no ?_ | refine eoo_yes ?_ | refine eo_rev ?_ | refine eo_isi ?_ | refine eo_repr ?_ | refine eo_sorted ?_ | refine eo_bi ?_ | refine eo_callN rfl ?_ | refine eo_call ?_ | refine eo_callK ?_ | refine eo_mt ?_ | refine eio_rng1 ?_ | refine eio_rng2 ?_ | refine eio_zip ?_ | refine eio_any ?_ | refine eo_pur ?_ | refine to_no ?_ | refine to_yes ?_ | refine sso_nil ?_ | refine cmp_lt ?_ | refine cmp_le ?_ | refine cmp_gt ?_ | refine cmp_ge ?_ | refine cmp_eq ?_ | refine cmp_is rfl ?_ | refine cmp_isn rfl ?_ | refine cmp_in1 ?_ | refine cmp_nin1 ?_ | refine cmp_eqs (by assumption) (by assumption) ?_ | refine And.intro (show nsh _ = true from rfl) ?_ | refine Exists.intro _ (And.intro rfl ?_))
        have hn : xs.all nameB = true := by simpa using hn
        have e := strs_of_names hn
        have hz : ∀ z ∈ strsOf xs, PyData.strOk z = true := fun z hz => by
          have hm : D.str z ∈ xs := by rw [e]; exact List.mem_map_of_mem hz
          exact (hX _ hm).pl.1
        have el : (strsOf xs).length = xs.length := by
          have := congrArg List.length e
          rw [List.length_map] at this
          exact this.symm
        obtain ⟨r, outs, h1, rfl, rfl⟩ := cal2 (d + 1) o (strsOf xs) hz (by omega) (by rw [← e]; exact hf)
        rw [← e] at h1
        refine ⟨_, _, h1, ?_⟩
        refine ⟨?_, rfl⟩
        show D.bl _ = D.bl (_ && _)
        rw [hn]; rfl
end PLAW

set_option Elab.async false
set_option linter.all false
set_option maxRecDepth 100000
namespace PLAW
open PySem PySem.Spec PyProof.Rows L2 VK
def isLst : D → Bool
  | .lst _ _ => true
  | _ => false
theorem cal3o (d : Nat) (v : D) (hv : Plain v) (hl : isLst v = false) (hf : frz v = v) : ∃ r outs, cal (d + 3) 3 [v] = some (r, outs) ∧ r = .bl false ∧ outs = [] := by
  refine cal_of (f := d3) rfl rfl ?_
  cases v with
  | lst o xs => cases hl
  | fn i => exact hv.elim
  | _ =>
    repeat (first | refine sso_cons ?_ | refine so_ret ?_ | refine so_asg ?_ | refine so_asgC ?_ | refine so_ite ?_ | refine so_expr ?_ | refine so_par ?_ | refine so_setx ?_ | refine so_aug rfl ?_ | refine eso_nil ?_ | refine eso_mv rfl ?_ | refine eso_cons (fun _ _ => rfl) ?_ | refine eo_cst rfl ?_ | refine eo_cp rfl (by first | assumption | rfl) ?_ | refine eo_mv rfl ?_ | refine eo_glb rfl ?_ | refine eo_neg ?_ | refine eo_mod ?_ | refine eo_fdiv ?_ | refine eo_mul ?_ | refine eo_pow ?_ | refine eo_bin ?_ | refine eo_cmp ?_ | refine eo_chn ?_ | refine eo_and1 ?_ | refine eo_and ?_ | refine eo_or1 ?_ | refine eo_or ?_ | refine eo_not ?_ | refine eo_ife ?_ | refine eo_lst ?_ | refine eo_tup ?_ | refine eo_ix ?_ | refine eo_sl ?_ | refine eoo_no ?_ | refine eoo_yes ?_ | refine eo_rev ?_ | refine eo_isi ?_ | refine eo_repr ?_ | refine eo_sorted ?_ | refine eo_bi ?_ | refine eo_callN rfl ?_ | refine eo_call ?_ | refine eo_callK ?_ | refine eo_mt ?_ | refine eio_rng1 ?_ | refine eio_rng2 ?_ | refine eio_zip ?_ | refine eio_any ?_ | refine eo_pur ?_ | refine to_no ?_ | refine to_yes ?_ | refine sso_nil ?_ | refine cmp_lt ?_ | refine cmp_le ?_ | refine cmp_gt ?_ | refine cmp_ge ?_ | refine cmp_eq ?_ | refine cmp_is rfl ?_ | refine cmp_isn rfl ?_ | refine cmp_in1 ?_ | refine cmp_nin1 ?_ | refine cmp_eqs (by assumption) (by assumption) ?_ | refine And.intro (show nsh _ = true from rfl) ?_ | refine Exists.intro _ (And.intro rfl ?_))
    exact ⟨rfl, rfl⟩
theorem eo_join {T : Tab} {C : CallF} {c : Bool} {e : E} {ρ : Rho} {Q : D → Rho → Prop} {x : D} (y : D) (h1 : c = true → EO T C e ρ fun z ρ1 => z = y ∧ ρ1 = ρ) (h2 : c = false → x = y) (q : Q y ρ) : if c = true then EO T C e ρ Q else Q x ρ := by
  cases c with
  | true =>
    obtain ⟨z, ρ1, h3, rfl, rfl⟩ := h1 rfl
    exact iteT ⟨_, _, h3, q⟩
  | false =>
    rw [h2 rfl]
    exact iteF q

/-- a list is judged as it is -/
theorem cal17l (d m : Nat) (o : Ow) (xs : List D) (hX : ∀ x ∈ xs, Itm x) (hl : xs.length ≤ 1000) (hf : frz (.lst o xs) = .lst o xs) (hfl : frzL xs = xs) : ∃ r outs, cal (d + 4) 17 [.lst o xs] = some (r, outs) ∧ r = .bl true ∧ outs = [] := by
  refine cal_of (f := d17) rfl rfl ?_
  obtain ⟨S, hrr, hok⟩ : ∃ S, opBi0 .repr [.lst o xs] = some (.str S) ∧ PyData.strOk S = true := by
    have hr := (rp_lst (o := o) (fun x hx => (hX x hx).rp) hl)
    exact ⟨_, hr.repr (by decide) (by decide) rfl, hr.ok⟩
  repeat (first | refine sso_cons ?_ | refine so_ret ?_ | refine so_asg ?_ | refine so_asgC ?_ | refine so_ite ?_ | refine so_expr ?_ | refine so_par ?_ | refine so_setx ?_ | refine so_aug rfl ?_ | refine eso_nil ?_ | refine eso_mv rfl ?_ | refine eso_cons (fun _ _ => rfl) ?_ | refine eo_cst rfl ?_ | refine eo_cp rfl (by first | assumption | rfl) ?_ | refine eo_mv rfl ?_ | refine eo_glb rfl ?_ | refine eo_neg ?_ | refine eo_mod ?_ | refine eo_fdiv ?_ | refine eo_mul ?_ | refine eo_pow ?_ | refine eo_bin ?_ | refine eo_cmp ?_ | refine eo_chn ?_ | refine eo_and1 ?_ | refine eo_and ?_ | refine eo_or1 ?_ | refine eo_or ?_ | refine eo_not ?_ | refine eo_ife ?_ | refine eo_lst ?_ | refine eo_tup ?_ | refine eo_ix ?_ | refine eo_sl ?_ | refine eoo_no ?_ | refine eoo_yes ?_ | refine eo_rev ?_ | refine eo_isi ?_ | refine eo_repr ?_ | refine eo_sorted ?_ | refine eo_bi ?_ | refine eo_callN rfl ?_ | refine eo_call ?_ | refine eo_callK ?_ | refine eo_mt ?_ | refine eio_rng1 ?_ | refine eio_rng2 ?_ | refine eio_zip ?_ | refine eio_any ?_ | refine eo_pur ?_ | refine to_no ?_ | refine to_yes ?_ | refine sso_nil ?_ | refine cmp_lt ?_ | refine cmp_le ?_ | refine cmp_gt ?_ | refine cmp_ge ?_ | refine cmp_eq ?_ | refine cmp_is rfl ?_ | refine cmp_isn rfl ?_ | refine cmp_in1 ?_ | refine cmp_nin1 ?_ | refine cmp_eqs (by assumption) (by assumption) ?_ | refine And.intro (show nsh _ = true from rfl) ?_ | refine Exists.intro _ (And.intro rfl ?_))
  refine ⟨_, hrr, ?_⟩
  repeat (first | refine sso_cons ?_ | refine so_ret ?_ | refine so_asg ?_ | refine so_asgC ?_ | refine so_ite ?_ | refine so_expr ?_ | refine so_par ?_ | refine so_setx ?_ | refine so_aug rfl ?_ | refine eso_nil ?_ | refine eso_mv rfl ?_ | refine eso_cons (fun _ _ => rfl) ?_ | refine eo_cst rfl ?_ | refine eo_cp rfl (by first | assumption | rfl) ?_ | refine eo_mv rfl ?_ | refine eo_glb rfl ?_ | refine eo_neg ?_ | refine eo_mod ?_ | refine eo_fdiv ?_ | refine eo_mul ?_ | refine eo_pow ?_ | refine eo_bin ?_ | refine eo_cmp ?_ | refine eo_chn ?_ | refine eo_and1 ?_ | refine eo_and ?_ | refine eo_or1 ?_ | refine eo_or ?_ | refine eo_not ?_ | refine eo_ife ?_ | refine eo_lst ?_ | refine eo_tup ?_ | refine eo_ix ?_ | refine eo_sl ?_ | refine eoo_no ?_ | refine eoo_yes ?_ | refine eo_rev ?_ | refine eo_isi ?_ | refine eo_repr ?_ | refine eo_sorted ?_ | refine eo_bi ?_ | refine eo_callN rfl ?_ | refine eo_call ?_ | refine eo_callK ?_ | refine eo_mt ?_ | refine eio_rng1 ?_ | refine eio_rng2 ?_ | refine eio_zip ?_ | refine eio_any ?_ | refine eo_pur ?_ | refine to_no ?_ | refine to_yes ?_ | refine sso_nil ?_ | refine cmp_lt ?_ | refine cmp_le ?_ | refine cmp_gt ?_ | refine cmp_ge ?_ | refine cmp_eq ?_ | refine cmp_is rfl ?_ | refine cmp_isn rfl ?_ | refine cmp_in1 ?_ | refine cmp_nin1 ?_ | refine cmp_eqs (by assumption) (by assumption) ?_ | refine And.intro (show nsh _ = true from rfl) ?_ | refine Exists.intro _ (And.intro rfl ?_))
  refine eo_lcP (fun x => !nameB x) id ?_
  repeat (first | refine sso_cons ?_ | refine so_ret ?_ | refine so_asg ?_ | refine so_asgC ?_ | refine so_ite ?_ | refine so_expr ?_ | refine so_par ?_ | refine so_setx ?_ | refine so_aug rfl ?_ | refine eso_nil ?_ | refine eso_mv rfl ?_ | refine eso_cons (fun _ _ => rfl) ?_ | refine eo_cst rfl ?_ | refine eo_cp rfl (by first | assumption | rfl) ?_ | refine eo_mv rfl ?_ | refine eo_glb rfl ?_ | refine eo_neg ?_ | refine eo_mod ?_ | refine eo_fdiv ?_ | refine eo_mul ?_ | refine eo_pow ?_ | refine eo_bin ?_ | refine eo_cmp ?_ | refine eo_chn ?_ | refine eo_and1 ?_ | refine eo_and ?_ | refine eo_or1 ?_ | refine eo_or ?_ | refine eo_not ?_ | refine eo_ife ?_ | refine eo_lst ?_ | refine eo_tup ?_ | refine eo_ix ?_ | refine eo_sl ?_ | refine eoo_no ?_ | refine eoo_yes ?_ | refine eo_rev ?_ | refine eo_isi ?_ | refine eo_repr ?_ | refine eo_sorted ?_ | refine eo_bi ?_ | refine eo_callN rfl ?_ | refine eo_call ?_ | refine eo_callK ?_ | refine eo_mt ?_ | refine eio_rng1 ?_ | refine eio_rng2 ?_ | refine eio_zip ?_ | refine eio_any ?_ | refine eo_pur ?_ | refine to_no ?_ | refine to_yes ?_ | refine sso_nil ?_ | refine cmp_lt ?_ | refine cmp_le ?_ | refine cmp_gt ?_ | refine cmp_ge ?_ | refine cmp_eq ?_ | refine cmp_is rfl ?_ | refine cmp_isn rfl ?_ | refine cmp_in1 ?_ | refine cmp_nin1 ?_ | refine cmp_eqs (by assumption) (by assumption) ?_ | refine And.intro (show nsh _ = true from rfl) ?_ | refine Exists.intro _ (And.intro rfl ?_))
  refine .inl ⟨_, _, rfl, ?_, fun x hx => ?_, ?_⟩
  · rw [hfl]; exact line_ge (by omega)
  · rw [hfl] at hx
    have ix := hX x hx
    have hfx := ix.fz
    refine ⟨_, rfl, ?_⟩
    repeat (first | refine sso_cons ?_ | refine so_ret ?_ | refine so_asg ?_ | refine so_asgC ?_ | refine so_ite ?_ | refine so_expr ?_ | refine so_par ?_ | refine so_setx ?_ | refine so_aug rfl ?_ | refine eso_nil ?_ | refine eso_mv rfl ?_ | refine eso_cons (fun _ _ => rfl) ?_ | refine eo_cst rfl ?_ | refine eo_cp rfl (by first | assumption | rfl) ?_ | refine eo_mv rfl ?_ | refine eo_glb rfl ?_ | refine eo_neg ?_ | refine eo_mod ?_ | refine eo_fdiv ?_ | refine eo_mul ?_ | refine eo_pow ?_ | refine eo_bin ?_ | refine eo_cmp ?_ | refine eo_chn ?_ | refine eo_and1 ?_ | refine eo_and ?_ | refine eo_or1 ?_ | refine eo_or ?_ | refine eo_not ?_ | refine eo_ife ?_ | refine eo_lst ?_ | refine eo_tup ?_ | refine eo_ix ?_ | refine eo_sl ?_ | refine eoo_no ?_ | refine eoo_yes ?_ | refine eo_rev ?_ | refine eo_isi ?_ | refine eo_repr ?_ | refine eo_sorted ?_ | refine eo_bi ?_ | refine eo_callN rfl ?_ | refine eo_call ?_ | refine eo_callK ?_ | refine eo_mt ?_ | refine eio_rng1 ?_ | refine eio_rng2 ?_ | refine eio_zip ?_ | refine eio_any ?_ | refine eo_pur ?_ | refine to_no ?_ | refine to_yes ?_ | refine sso_nil ?_ | refine cmp_lt ?_ | refine cmp_le ?_ | refine cmp_gt ?_ | refine cmp_ge ?_ | refine cmp_eq ?_ | refine cmp_is rfl ?_ | refine cmp_isn rfl ?_ | refine cmp_in1 ?_ | refine cmp_nin1 ?_ | refine cmp_eqs (by assumption) (by assumption) ?_ | refine And.intro (show nsh _ = true from rfl) ?_ | refine Exists.intro _ (And.intro rfl ?_))
    refine coN (cal13 (d + 2) x ix.pl hfx) ?_
    repeat (first | refine sso_cons ?_ | refine so_ret ?_ | refine so_asg ?_ | refine so_asgC ?_ | refine so_ite ?_ | refine so_expr ?_ | refine so_par ?_ | refine so_setx ?_ | refine so_aug rfl ?_ | refine eso_nil ?_ | refine eso_mv rfl ?_ | refine eso_cons (fun _ _ => rfl) ?_ | refine eo_cst rfl ?_ | refine eo_cp rfl (by first | assumption | rfl) ?_ | refine eo_mv rfl ?_ | refine eo_glb rfl ?_ | refine eo_neg ?_ | refine eo_mod ?_ | refine eo_fdiv ?_ | refine eo_mul ?_ | refine eo_pow ?_ | refine eo_bin ?_ | refine eo_cmp ?_ | refine eo_chn ?_ | refine eo_and1 ?_ | refine eo_and ?_ | refine eo_or1 ?_ | refine eo_or ?_ | refine eo_not ?_ | refine eo_ife ?_ | refine eo_lst ?_ | refine eo_tup ?_ | refine eo_ix ?_ | refine eo_sl ?_ | refine eoo_no ?_ | refine eoo_yes ?_ | refine eo_rev ?_ | refine eo_isi ?_ | refine eo_repr ?_ | refine eo_sorted ?_ | refine eo_bi ?_ | refine eo_callN rfl ?_ | refine eo_call ?_ | refine eo_callK ?_ | refine eo_mt ?_ | refine eio_rng1 ?_ | refine eio_rng2 ?_ | refine eio_zip ?_ | refine eio_any ?_ | refine eo_pur ?_ | refine to_no ?_ | refine to_yes ?_ | refine sso_nil ?_ | refine cmp_lt ?_ | refine cmp_le ?_ | refine cmp_gt ?_ | refine cmp_ge ?_ | refine cmp_eq ?_ | refine cmp_is rfl ?_ | refine cmp_isn rfl ?_ | refine cmp_in1 ?_ | refine cmp_nin1 ?_ | refine cmp_eqs (by assumption) (by assumption) ?_ | refine And.intro (show nsh _ = true from rfl) ?_ | refine Exists.intro _ (And.intro rfl ?_))
    refine ⟨rfl, ite2 (fun _ => ?_) (fun _ => rfl)⟩
    repeat (first | refine sso_cons ?_ | refine so_ret ?_ | refine so_asg ?_ | refine so_asgC ?_ | refine so_ite ?_ | refine so_expr ?_ | refine so_par ?_ | refine so_setx ?_ | refine so_aug rfl ?_ | refine eso_nil ?_ | refine eso_mv rfl ?_ | refine eso_cons (fun _ _ => rfl) ?_ | refine eo_cst rfl ?_ | refine eo_cp rfl (by first | assumption | rfl) ?_ | refine eo_mv rfl ?_ | refine eo_glb rfl ?_ | refine eo_neg ?_ | refine eo_mod ?_ | refine eo_fdiv ?_ | refine eo_mul ?_ | refine eo_pow ?_ | refine eo_bin ?_ | refine eo_cmp ?_ | refine eo_chn ?_ | refine eo_and1 ?_ | refine eo_and ?_ | refine eo_or1 ?_ | refine eo_or ?_ | refine eo_not ?_ | refine eo_ife ?_ | refine eo_lst ?_ | refine eo_tup ?_ | refine eo_ix ?_ | refine eo_sl ?_ | refine eoo_no ?_ | refine eoo_yes ?_ | refine eo_rev ?_ | refine eo_isi ?_ | refine eo_repr ?_ | refine eo_sorted ?_ | refine eo_bi ?_ | refine eo_callN rfl ?_ | refine eo_call ?_ | refine eo_callK ?_ | refine eo_mt ?_ | refine eio_rng1 ?_ | refine eio_rng2 ?_ | refine eio_zip ?_ | refine eio_any ?_ | refine eo_pur ?_ | refine to_no ?_ | refine to_yes ?_ | refine sso_nil ?_ | refine cmp_lt ?_ | refine cmp_le ?_ | refine cmp_gt ?_ | refine cmp_ge ?_ | refine cmp_eq ?_ | refine cmp_is rfl ?_ | refine cmp_isn rfl ?_ | refine cmp_in1 ?_ | refine cmp_nin1 ?_ | refine cmp_eqs (by assumption) (by assumption) ?_ | refine And.intro (show nsh _ = true from rfl) ?_ | refine Exists.intro _ (And.intro rfl ?_))
    exact ⟨rfl, rfl⟩
  · repeat (first | refine sso_cons ?_ | refine so_ret ?_ | refine so_asg ?_ | refine so_asgC ?_ | refine so_ite ?_ | refine so_expr ?_ | refine so_par ?_ | refine so_setx ?_ | refine so_aug rfl ?_ | refine eso_nil ?_ | refine eso_mv rfl ?_ | refine eso_cons (fun _ _ => rfl) ?_ | refine eo_cst rfl ?_ | refine eo_cp rfl (by first | assumption | rfl) ?_ | refine eo_mv rfl ?_ | refine eo_glb rfl ?_ | refine eo_neg ?_ | refine eo_mod ?_ | refine eo_fdiv ?_ | refine eo_mul ?_ | refine eo_pow ?_ | refine eo_bin ?_ | refine eo_cmp ?_ | refine eo_chn ?_ | refine eo_and1 ?_ | refine eo_and ?_ | refine eo_or1 ?_ | refine eo_or ?_ | refine eo_not ?_ | refine eo_ife ?_ | refine eo_lst ?_ | refine eo_tup ?_ | refine eo_ix ?_ | refine eo_sl ?_ | refine eoo_no ?_ | refine eoo_yes ?_ | refine eo_rev ?_ | refine eo_isi ?_ | refine eo_repr ?_ | refine eo_sorted ?_ | refine eo_bi ?_ | refine eo_callN rfl ?_ | refine eo_call ?_ | refine eo_callK ?_ | refine eo_mt ?_ | refine eio_rng1 ?_ | refine eio_rng2 ?_ | refine eio_zip ?_ | refine eio_any ?_ | refine eo_pur ?_ | refine to_no ?_ | refine to_yes ?_ | refine sso_nil ?_ | refine cmp_lt ?_ | refine cmp_le ?_ | refine cmp_gt ?_ | refine cmp_ge ?_ | refine cmp_eq ?_ | refine cmp_is rfl ?_ | refine cmp_isn rfl ?_ | refine cmp_in1 ?_ | refine cmp_nin1 ?_ | refine cmp_eqs (by assumption) (by assumption) ?_ | refine And.intro (show nsh _ = true from rfl) ?_ | refine Exists.intro _ (And.intro rfl ?_))
    refine ⟨line_ge (by decide), _, eq_nil (n := 0) (fun d hd => ?_) (by decide), ?_⟩
    · rw [List.map_id, hfl] at hd
      exact (hX d (List.mem_filter.mp hd).1).rp.dat
    · rw [out_all, hfl]
      repeat (first | refine sso_cons ?_ | refine so_ret ?_ | refine so_asg ?_ | refine so_asgC ?_ | refine so_ite ?_ | refine so_expr ?_ | refine so_par ?_ | refine so_setx ?_ | refine so_aug rfl ?_ | refine eso_nil ?_ | refine eso_mv rfl ?_ | refine eso_cons (fun _ _ => rfl) ?_ | refine eo_cst rfl ?_ | refine eo_cp rfl (by first | assumption | rfl) ?_ | refine eo_mv rfl ?_ | refine eo_glb rfl ?_ | refine eo_neg ?_ | refine eo_mod ?_ | refine eo_fdiv ?_ | refine eo_mul ?_ | refine eo_pow ?_ | refine eo_bin ?_ | refine eo_cmp ?_ | refine eo_chn ?_ | refine eo_and1 ?_ | refine eo_and ?_ | refine eo_or1 ?_ | refine eo_or ?_ | refine eo_not ?_ | refine eo_ife ?_ | refine eo_lst ?_ | refine eo_tup ?_ | refine eo_ix ?_ | refine eo_sl ?_ | refine eoo_no ?_ | refine eoo_yes ?_ | refine eo_rev ?_ | refine eo_isi ?_ | refine eo_repr ?_ | refine eo_sorted ?_ | refine eo_bi ?_ | refine eo_callN rfl ?_ | refine eo_call ?_ | refine eo_callK ?_ | refine eo_mt ?_ | refine eio_rng1 ?_ | refine eio_rng2 ?_ | refine eio_zip ?_ | refine eio_any ?_ | refine eo_pur ?_ | refine to_no ?_ | refine to_yes ?_ | refine sso_nil ?_ | refine cmp_lt ?_ | refine cmp_le ?_ | refine cmp_gt ?_ | refine cmp_ge ?_ | refine cmp_eq ?_ | refine cmp_is rfl ?_ | refine cmp_isn rfl ?_ | refine cmp_in1 ?_ | refine cmp_nin1 ?_ | refine cmp_eqs (by assumption) (by assumption) ?_ | refine And.intro (show nsh _ = true from rfl) ?_ | refine Exists.intro _ (And.intro rfl ?_))
      refine coN (cal13 (d + 2) (.lst o xs) trivial hf) ?_
      repeat (first | refine sso_cons ?_ | refine so_ret ?_ | refine so_asg ?_ | refine so_asgC ?_ | refine so_ite ?_ | refine so_expr ?_ | refine so_par ?_ | refine so_setx ?_ | refine so_aug rfl ?_ | refine eso_nil ?_ | refine eso_mv rfl ?_ | refine eso_cons (fun _ _ => rfl) ?_ | refine eo_cst rfl ?_ | refine eo_cp rfl (by first | assumption | rfl) ?_ | refine eo_mv rfl ?_ | refine eo_glb rfl ?_ | refine eo_neg ?_ | refine eo_mod ?_ | refine eo_fdiv ?_ | refine eo_mul ?_ | refine eo_pow ?_ | refine eo_bin ?_ | refine eo_cmp ?_ | refine eo_chn ?_ | refine eo_and1 ?_ | refine eo_and ?_ | refine eo_or1 ?_ | refine eo_or ?_ | refine eo_not ?_ | refine eo_ife ?_ | refine eo_lst ?_ | refine eo_tup ?_ | refine eo_ix ?_ | refine eo_sl ?_ | refine eoo_no ?_ | refine eoo_yes ?_ | refine eo_rev ?_ | refine eo_isi ?_ | refine eo_repr ?_ | refine eo_sorted ?_ | refine eo_bi ?_ | refine eo_callN rfl ?_ | refine eo_call ?_ | refine eo_callK ?_ | refine eo_mt ?_ | refine eio_rng1 ?_ | refine eio_rng2 ?_ | refine eio_zip ?_ | refine eio_any ?_ | refine eo_pur ?_ | refine to_no ?_ | refine to_yes ?_ | refine sso_nil ?_ | refine cmp_lt ?_ | refine cmp_le ?_ | refine cmp_gt ?_ | refine cmp_ge ?_ | refine cmp_eq ?_ | refine cmp_is rfl ?_ | refine cmp_isn rfl ?_ | refine cmp_in1 ?_ | refine cmp_nin1 ?_ | refine cmp_eqs (by assumption) (by assumption) ?_ | refine And.intro (show nsh _ = true from rfl) ?_ | refine Exists.intro _ (And.intro rfl ?_))
      refine eo_join (.bl (namesB (.lst o xs))) (fun hn => ?_) (fun hn => ?_) ?_
      · have e := strs_of_names hn
        have hz : ∀ z ∈ strsOf xs, PyData.strOk z = true := fun z hz => by
          have hm : D.str z ∈ xs := by rw [e]; exact List.mem_map_of_mem hz
          exact (hX _ hm).pl.1
        have el : (strsOf xs).length = xs.length := by
          have := congrArg List.length e
          rw [List.length_map] at this
          exact this.symm
        have hc := cal14 (d + 2) o (strsOf xs) hz (by omega) (by rw [← e]; exact hf)
        rw [← e] at hc
        clear e hz el
        repeat (first | refine sso_cons ?_ | refine so_ret ?_ | refine so_asg ?_ | refine so_asgC ?_ | refine so_ite ?_ | refine so_expr ?_ | refine so_par ?_ | refine so_setx ?_ | refine so_aug rfl ?_ | refine eso_nil ?_ | refine eso_mv rfl ?_ | refine eso_cons (fun _ _ => rfl) ?_ | refine eo_cst rfl ?_ | refine eo_cp rfl (by first | assumption | rfl) ?_ | refine eo_mv rfl ?_ | refine eo_glb rfl ?_ | refine eo_neg ?_ | refine eo_mod ?_ | refine eo_fdiv ?_ | refine eo_mul ?_ | refine eo_pow ?_ | refine eo_bin ?_ | refine eo_cmp ?_ | refine eo_chn ?_ | refine eo_and1 ?_ | refine eo_and ?_ | refine eo_or1 ?_ | refine eo_or ?_ | refine eo_not ?_ | refine eo_ife ?_ | refine eo_lst ?_ | refine eo_tup ?_ | refine eo_ix ?_ | refine eo_sl ?_ | refine eoo_no ?_ | refine eoo_yes ?_ | refine eo_rev ?_ | refine eo_isi ?_ | refine eo_repr ?_ | refine eo_sorted ?_ | refine eo_bi ?_ | refine eo_callN rfl ?_ | refine eo_call ?_ | refine eo_callK ?_ | refine eo_mt ?_ | refine eio_rng1 ?_ | refine eio_rng2 ?_ | refine eio_zip ?_ | refine eio_any ?_ | refine eo_pur ?_ | refine to_no ?_ | refine to_yes ?_ | refine sso_nil ?_ | refine cmp_lt ?_ | refine cmp_le ?_ | refine cmp_gt ?_ | refine cmp_ge ?_ | refine cmp_eq ?_ | refine cmp_is rfl ?_ | refine cmp_isn rfl ?_ | refine cmp_in1 ?_ | refine cmp_nin1 ?_ | refine cmp_eqs (by assumption) (by assumption) ?_ | refine And.intro (show nsh _ = true from rfl) ?_ | refine Exists.intro _ (And.intro rfl ?_))
        refine coN hc ⟨?_, rfl⟩
        show D.bl _ = D.bl (_ && _)
        rw [hn]; rfl
      · show D.bl _ = D.bl (_ && _)
        rw [hn]; rfl
      · repeat (first | refine sso_cons ?_ | refine so_ret ?_ | refine so_asg ?_ | refine so_asgC ?_ | refine so_ite ?_ | refine so_expr ?_ | refine so_par ?_ | refine so_setx ?_ | refine so_aug rfl ?_ | refine eso_nil ?_ | refine eso_mv rfl ?_ | refine eso_cons (fun _ _ => rfl) ?_ | refine eo_cst rfl ?_ | refine eo_cp rfl (by first | assumption | rfl) ?_ | refine eo_mv rfl ?_ | refine eo_glb rfl ?_ | refine eo_neg ?_ | refine eo_mod ?_ | refine eo_fdiv ?_ | refine eo_mul ?_ | refine eo_pow ?_ | refine eo_bin ?_ | refine eo_cmp ?_ | refine eo_chn ?_ | refine eo_and1 ?_ | refine eo_and ?_ | refine eo_or1 ?_ | refine eo_or ?_ | refine eo_not ?_ | refine eo_ife ?_ | refine eo_lst ?_ | refine eo_tup ?_ | refine eo_ix ?_ | refine eo_sl ?_ | refine eoo_no ?_ | refine eoo_yes ?_ | refine eo_rev ?_ | refine eo_isi ?_ | refine eo_repr ?_ | refine eo_sorted ?_ | refine eo_bi ?_ | refine eo_callN rfl ?_ | refine eo_call ?_ | refine eo_callK ?_ | refine eo_mt ?_ | refine eio_rng1 ?_ | refine eio_rng2 ?_ | refine eio_zip ?_ | refine eio_any ?_ | refine eo_pur ?_ | refine to_no ?_ | refine to_yes ?_ | refine sso_nil ?_ | refine cmp_lt ?_ | refine cmp_le ?_ | refine cmp_gt ?_ | refine cmp_ge ?_ | refine cmp_eq ?_ | refine cmp_is rfl ?_ | refine cmp_isn rfl ?_ | refine cmp_in1 ?_ | refine cmp_nin1 ?_ | refine cmp_eqs (by assumption) (by assumption) ?_ | refine And.intro (show nsh _ = true from rfl) ?_ | refine Exists.intro _ (And.intro rfl ?_))
        refine ⟨line_ge (show 2 ≤ 16777216 by decide), ?_⟩
        repeat (first | refine sso_cons ?_ | refine so_ret ?_ | refine so_asg ?_ | refine so_asgC ?_ | refine so_ite ?_ | refine so_expr ?_ | refine so_par ?_ | refine so_setx ?_ | refine so_aug rfl ?_ | refine eso_nil ?_ | refine eso_mv rfl ?_ | refine eso_cons (fun _ _ => rfl) ?_ | refine eo_cst rfl ?_ | refine eo_cp rfl (by first | assumption | rfl) ?_ | refine eo_mv rfl ?_ | refine eo_glb rfl ?_ | refine eo_neg ?_ | refine eo_mod ?_ | refine eo_fdiv ?_ | refine eo_mul ?_ | refine eo_pow ?_ | refine eo_bin ?_ | refine eo_cmp ?_ | refine eo_chn ?_ | refine eo_and1 ?_ | refine eo_and ?_ | refine eo_or1 ?_ | refine eo_or ?_ | refine eo_not ?_ | refine eo_ife ?_ | refine eo_lst ?_ | refine eo_tup ?_ | refine eo_ix ?_ | refine eo_sl ?_ | refine eoo_no ?_ | refine eoo_yes ?_ | refine eo_rev ?_ | refine eo_isi ?_ | refine eo_repr ?_ | refine eo_sorted ?_ | refine eo_bi ?_ | refine eo_callN rfl ?_ | refine eo_call ?_ | refine eo_callK ?_ | refine eo_mt ?_ | refine eio_rng1 ?_ | refine eio_rng2 ?_ | refine eio_zip ?_ | refine eio_any ?_ | refine eo_pur ?_ | refine to_no ?_ | refine to_yes ?_ | refine sso_nil ?_ | refine cmp_lt ?_ | refine cmp_le ?_ | refine cmp_gt ?_ | refine cmp_ge ?_ | refine cmp_eq ?_ | refine cmp_is rfl ?_ | refine cmp_isn rfl ?_ | refine cmp_in1 ?_ | refine cmp_nin1 ?_ | refine cmp_eqs (by assumption) (by assumption) ?_ | refine And.intro (show nsh _ = true from rfl) ?_ | refine Exists.intro _ (And.intro rfl ?_))
        refine coN (cal1 (d + 1) (.lst o xs) trivial hf) ?_
        repeat (first | refine sso_cons ?_ | refine so_ret ?_ | refine so_asg ?_ | refine so_asgC ?_ | refine so_ite ?_ | refine so_expr ?_ | refine so_par ?_ | refine so_setx ?_ | refine so_aug rfl ?_ | refine eso_nil ?_ | refine eso_mv rfl ?_ | refine eso_cons (fun _ _ => rfl) ?_ | refine eo_cst rfl ?_ | refine eo_cp rfl (by first | assumption | rfl) ?_ | refine eo_mv rfl ?_ | refine eo_glb rfl ?_ | refine eo_neg ?_ | refine eo_mod ?_ | refine eo_fdiv ?_ | refine eo_mul ?_ | refine eo_pow ?_ | refine eo_bin ?_ | refine eo_cmp ?_ | refine eo_chn ?_ | refine eo_and1 ?_ | refine eo_and ?_ | refine eo_or1 ?_ | refine eo_or ?_ | refine eo_not ?_ | refine eo_ife ?_ | refine eo_lst ?_ | refine eo_tup ?_ | refine eo_ix ?_ | refine eo_sl ?_ | refine eoo_no ?_ | refine eoo_yes ?_ | refine eo_rev ?_ | refine eo_isi ?_ | refine eo_repr ?_ | refine eo_sorted ?_ | refine eo_bi ?_ | refine eo_callN rfl ?_ | refine eo_call ?_ | refine eo_callK ?_ | refine eo_mt ?_ | refine eio_rng1 ?_ | refine eio_rng2 ?_ | refine eio_zip ?_ | refine eio_any ?_ | refine eo_pur ?_ | refine to_no ?_ | refine to_yes ?_ | refine sso_nil ?_ | refine cmp_lt ?_ | refine cmp_le ?_ | refine cmp_gt ?_ | refine cmp_ge ?_ | refine cmp_eq ?_ | refine cmp_is rfl ?_ | refine cmp_isn rfl ?_ | refine cmp_in1 ?_ | refine cmp_nin1 ?_ | refine cmp_eqs (by assumption) (by assumption) ?_ | refine And.intro (show nsh _ = true from rfl) ?_ | refine Exists.intro _ (And.intro rfl ?_))
        refine coN (cal3l d o xs hX hl hf hfl) ?_
        repeat (first | refine sso_cons ?_ | refine so_ret ?_ | refine so_asg ?_ | refine so_asgC ?_ | refine so_ite ?_ | refine so_expr ?_ | refine so_par ?_ | refine so_setx ?_ | refine so_aug rfl ?_ | refine eso_nil ?_ | refine eso_mv rfl ?_ | refine eso_cons (fun _ _ => rfl) ?_ | refine eo_cst rfl ?_ | refine eo_cp rfl (by first | assumption | rfl) ?_ | refine eo_mv rfl ?_ | refine eo_glb rfl ?_ | refine eo_neg ?_ | refine eo_mod ?_ | refine eo_fdiv ?_ | refine eo_mul ?_ | refine eo_pow ?_ | refine eo_bin ?_ | refine eo_cmp ?_ | refine eo_chn ?_ | refine eo_and1 ?_ | refine eo_and ?_ | refine eo_or1 ?_ | refine eo_or ?_ | refine eo_not ?_ | refine eo_ife ?_ | refine eo_lst ?_ | refine eo_tup ?_ | refine eo_ix ?_ | refine eo_sl ?_ | refine eoo_no ?_ | refine eoo_yes ?_ | refine eo_rev ?_ | refine eo_isi ?_ | refine eo_repr ?_ | refine eo_sorted ?_ | refine eo_bi ?_ | refine eo_callN rfl ?_ | refine eo_call ?_ | refine eo_callK ?_ | refine eo_mt ?_ | refine eio_rng1 ?_ | refine eio_rng2 ?_ | refine eio_zip ?_ | refine eio_any ?_ | refine eo_pur ?_ | refine to_no ?_ | refine to_yes ?_ | refine sso_nil ?_ | refine cmp_lt ?_ | refine cmp_le ?_ | refine cmp_gt ?_ | refine cmp_ge ?_ | refine cmp_eq ?_ | refine cmp_is rfl ?_ | refine cmp_isn rfl ?_ | refine cmp_in1 ?_ | refine cmp_nin1 ?_ | refine cmp_eqs (by assumption) (by assumption) ?_ | refine And.intro (show nsh _ = true from rfl) ?_ | refine Exists.intro _ (And.intro rfl ?_))
        refine ⟨line_ge (show 2 ≤ 16777216 by decide), ?_⟩
        repeat (first | refine sso_cons ?_ | refine so_ret ?_ | refine so_asg ?_ | refine so_asgC ?_ | refine so_ite ?_ | refine so_expr ?_ | refine so_par ?_ | refine so_setx ?_ | refine so_aug rfl ?_ | refine eso_nil ?_ | refine eso_mv rfl ?_ | refine eso_cons (fun _ _ => rfl) ?_ | refine eo_cst rfl ?_ | refine eo_cp rfl (by first | assumption | rfl) ?_ | refine eo_mv rfl ?_ | refine eo_glb rfl ?_ | refine eo_neg ?_ | refine eo_mod ?_ | refine eo_fdiv ?_ | refine eo_mul ?_ | refine eo_pow ?_ | refine eo_bin ?_ | refine eo_cmp ?_ | refine eo_chn ?_ | refine eo_and1 ?_ | refine eo_and ?_ | refine eo_or1 ?_ | refine eo_or ?_ | refine eo_not ?_ | refine eo_ife ?_ | refine eo_lst ?_ | refine eo_tup ?_ | refine eo_ix ?_ | refine eo_sl ?_ | refine eoo_no ?_ | refine eoo_yes ?_ | refine eo_rev ?_ | refine eo_isi ?_ | refine eo_repr ?_ | refine eo_sorted ?_ | refine eo_bi ?_ | refine eo_callN rfl ?_ | refine eo_call ?_ | refine eo_callK ?_ | refine eo_mt ?_ | refine eio_rng1 ?_ | refine eio_rng2 ?_ | refine eio_zip ?_ | refine eio_any ?_ | refine eo_pur ?_ | refine to_no ?_ | refine to_yes ?_ | refine sso_nil ?_ | refine cmp_lt ?_ | refine cmp_le ?_ | refine cmp_gt ?_ | refine cmp_ge ?_ | refine cmp_eq ?_ | refine cmp_is rfl ?_ | refine cmp_isn rfl ?_ | refine cmp_in1 ?_ | refine cmp_nin1 ?_ | refine cmp_eqs (by assumption) (by assumption) ?_ | refine And.intro (show nsh _ = true from rfl) ?_ | refine Exists.intro _ (And.intro rfl ?_))
        refine coN (cal1 (d + 1) (.lst o xs) trivial hf) ?_
        repeat (first | refine sso_cons ?_ | refine so_ret ?_ | refine so_asg ?_ | refine so_asgC ?_ | refine so_ite ?_ | refine so_expr ?_ | refine so_par ?_ | refine so_setx ?_ | refine so_aug rfl ?_ | refine eso_nil ?_ | refine eso_mv rfl ?_ | refine eso_cons (fun _ _ => rfl) ?_ | refine eo_cst rfl ?_ | refine eo_cp rfl (by first | assumption | rfl) ?_ | refine eo_mv rfl ?_ | refine eo_glb rfl ?_ | refine eo_neg ?_ | refine eo_mod ?_ | refine eo_fdiv ?_ | refine eo_mul ?_ | refine eo_pow ?_ | refine eo_bin ?_ | refine eo_cmp ?_ | refine eo_chn ?_ | refine eo_and1 ?_ | refine eo_and ?_ | refine eo_or1 ?_ | refine eo_or ?_ | refine eo_not ?_ | refine eo_ife ?_ | refine eo_lst ?_ | refine eo_tup ?_ | refine eo_ix ?_ | refine eo_sl ?_ | refine eoo_no ?_ | refine eoo_yes ?_ | refine eo_rev ?_ | refine eo_isi ?_ | refine eo_repr ?_ | refine eo_sorted ?_ | refine eo_bi ?_ | refine eo_callN rfl ?_ | refine eo_call ?_ | refine eo_callK ?_ | refine eo_mt ?_ | refine eio_rng1 ?_ | refine eio_rng2 ?_ | refine eio_zip ?_ | refine eio_any ?_ | refine eo_pur ?_ | refine to_no ?_ | refine to_yes ?_ | refine sso_nil ?_ | refine cmp_lt ?_ | refine cmp_le ?_ | refine cmp_gt ?_ | refine cmp_ge ?_ | refine cmp_eq ?_ | refine cmp_is rfl ?_ | refine cmp_isn rfl ?_ | refine cmp_in1 ?_ | refine cmp_nin1 ?_ | refine cmp_eqs (by assumption) (by assumption) ?_ | refine And.intro (show nsh _ = true from rfl) ?_ | refine Exists.intro _ (And.intro rfl ?_))
        refine coN (cal3l d o xs hX hl hf hfl) ?_
        repeat (first | refine sso_cons ?_ | refine so_ret ?_ | refine so_asg ?_ | refine so_asgC ?_ | refine so_ite ?_ | refine so_expr ?_ | refine so_par ?_ | refine so_setx ?_ | refine so_aug rfl ?_ | refine eso_nil ?_ | refine eso_mv rfl ?_ | refine eso_cons (fun _ _ => rfl) ?_ | refine eo_cst rfl ?_ | refine eo_cp rfl (by first | assumption | rfl) ?_ | refine eo_mv rfl ?_ | refine eo_glb rfl ?_ | refine eo_neg ?_ | refine eo_mod ?_ | refine eo_fdiv ?_ | refine eo_mul ?_ | refine eo_pow ?_ | refine eo_bin ?_ | refine eo_cmp ?_ | refine eo_chn ?_ | refine eo_and1 ?_ | refine eo_and ?_ | refine eo_or1 ?_ | refine eo_or ?_ | refine eo_not ?_ | refine eo_ife ?_ | refine eo_lst ?_ | refine eo_tup ?_ | refine eo_ix ?_ | refine eo_sl ?_ | refine eoo_no ?_ | refine eoo_yes ?_ | refine eo_rev ?_ | refine eo_isi ?_ | refine eo_repr ?_ | refine eo_sorted ?_ | refine eo_bi ?_ | refine eo_callN rfl ?_ | refine eo_call ?_ | refine eo_callK ?_ | refine eo_mt ?_ | refine eio_rng1 ?_ | refine eio_rng2 ?_ | refine eio_zip ?_ | refine eio_any ?_ | refine eo_pur ?_ | refine to_no ?_ | refine to_yes ?_ | refine sso_nil ?_ | refine cmp_lt ?_ | refine cmp_le ?_ | refine cmp_gt ?_ | refine cmp_ge ?_ | refine cmp_eq ?_ | refine cmp_is rfl ?_ | refine cmp_isn rfl ?_ | refine cmp_in1 ?_ | refine cmp_nin1 ?_ | refine cmp_eqs (by assumption) (by assumption) ?_ | refine And.intro (show nsh _ = true from rfl) ?_ | refine Exists.intro _ (And.intro rfl ?_))
        refine ⟨line_ge (show 2 ≤ 16777216 by decide), ?_⟩
        repeat (first | refine sso_cons ?_ | refine so_ret ?_ | refine so_asg ?_ | refine so_asgC ?_ | refine so_ite ?_ | refine so_expr ?_ | refine so_par ?_ | refine so_setx ?_ | refine so_aug rfl ?_ | refine eso_nil ?_ | refine eso_mv rfl ?_ | refine eso_cons (fun _ _ => rfl) ?_ | refine eo_cst rfl ?_ | refine eo_cp rfl (by first | assumption | rfl) ?_ | refine eo_mv rfl ?_ | refine eo_glb rfl ?_ | refine eo_neg ?_ | refine eo_mod ?_ | refine eo_fdiv ?_ | refine eo_mul ?_ | refine eo_pow ?_ | refine eo_bin ?_ | refine eo_cmp ?_ | refine eo_chn ?_ | refine eo_and1 ?_ | refine eo_and ?_ | refine eo_or1 ?_ | refine eo_or ?_ | refine eo_not ?_ | refine eo_ife ?_ | refine eo_lst ?_ | refine eo_tup ?_ | refine eo_ix ?_ | refine eo_sl ?_ | refine eoo_no ?_ | refine eoo_yes ?_ | refine eo_rev ?_ | refine eo_isi ?_ | refine eo_repr ?_ | refine eo_sorted ?_ | refine eo_bi ?_ | refine eo_callN rfl ?_ | refine eo_call ?_ | refine eo_callK ?_ | refine eo_mt ?_ | refine eio_rng1 ?_ | refine eio_rng2 ?_ | refine eio_zip ?_ | refine eio_any ?_ | refine eo_pur ?_ | refine to_no ?_ | refine to_yes ?_ | refine sso_nil ?_ | refine cmp_lt ?_ | refine cmp_le ?_ | refine cmp_gt ?_ | refine cmp_ge ?_ | refine cmp_eq ?_ | refine cmp_is rfl ?_ | refine cmp_isn rfl ?_ | refine cmp_in1 ?_ | refine cmp_nin1 ?_ | refine cmp_eqs (by assumption) (by assumption) ?_ | refine And.intro (show nsh _ = true from rfl) ?_ | refine Exists.intro _ (And.intro rfl ?_))
        generalize nameB (.lst o xs) = B1
        generalize namesB (.lst o xs) = B2
        refine eo_cpF rfl ?_
        repeat (first | refine sso_cons ?_ | refine so_ret ?_ | refine so_asg ?_ | refine so_asgC ?_ | refine so_ite ?_ | refine so_expr ?_ | refine so_par ?_ | refine so_setx ?_ | refine so_aug rfl ?_ | refine eso_nil ?_ | refine eso_mv rfl ?_ | refine eso_cons (fun _ _ => rfl) ?_ | refine eo_cst rfl ?_ | refine eo_cp rfl (by first | assumption | rfl) ?_ | refine eo_mv rfl ?_ | refine eo_glb rfl ?_ | refine eo_neg ?_ | refine eo_mod ?_ | refine eo_fdiv ?_ | refine eo_mul ?_ | refine eo_pow ?_ | refine eo_bin ?_ | refine eo_cmp ?_ | refine eo_chn ?_ | refine eo_and1 ?_ | refine eo_and ?_ | refine eo_or1 ?_ | refine eo_or ?_ | refine eo_not ?_ | refine eo_ife ?_ | refine eo_lst ?_ | refine eo_tup ?_ | refine eo_ix ?_ | refine eo_sl ?_ | refine eoo_no ?_ | refine eoo_yes ?_ | refine eo_rev ?_ | refine eo_isi ?_ | refine eo_repr ?_ | refine eo_sorted ?_ | refine eo_bi ?_ | refine eo_callN rfl ?_ | refine eo_call ?_ | refine eo_callK ?_ | refine eo_mt ?_ | refine eio_rng1 ?_ | refine eio_rng2 ?_ | refine eio_zip ?_ | refine eio_any ?_ | refine eo_pur ?_ | refine to_no ?_ | refine to_yes ?_ | refine sso_nil ?_ | refine cmp_lt ?_ | refine cmp_le ?_ | refine cmp_gt ?_ | refine cmp_ge ?_ | refine cmp_eq ?_ | refine cmp_is rfl ?_ | refine cmp_isn rfl ?_ | refine cmp_in1 ?_ | refine cmp_nin1 ?_ | refine cmp_eqs (by assumption) (by assumption) ?_ | refine And.intro (show nsh _ = true from rfl) ?_ | refine Exists.intro _ (And.intro rfl ?_))
        refine eo_cpF rfl ?_
        repeat (first | refine sso_cons ?_ | refine so_ret ?_ | refine so_asg ?_ | refine so_asgC ?_ | refine so_ite ?_ | refine so_expr ?_ | refine so_par ?_ | refine so_setx ?_ | refine so_aug rfl ?_ | refine eso_nil ?_ | refine eso_mv rfl ?_ | refine eso_cons (fun _ _ => rfl) ?_ | refine eo_cst rfl ?_ | refine eo_cp rfl (by first | assumption | rfl) ?_ | refine eo_mv rfl ?_ | refine eo_glb rfl ?_ | refine eo_neg ?_ | refine eo_mod ?_ | refine eo_fdiv ?_ | refine eo_mul ?_ | refine eo_pow ?_ | refine eo_bin ?_ | refine eo_cmp ?_ | refine eo_chn ?_ | refine eo_and1 ?_ | refine eo_and ?_ | refine eo_or1 ?_ | refine eo_or ?_ | refine eo_not ?_ | refine eo_ife ?_ | refine eo_lst ?_ | refine eo_tup ?_ | refine eo_ix ?_ | refine eo_sl ?_ | refine eoo_no ?_ | refine eoo_yes ?_ | refine eo_rev ?_ | refine eo_isi ?_ | refine eo_repr ?_ | refine eo_sorted ?_ | refine eo_bi ?_ | refine eo_callN rfl ?_ | refine eo_call ?_ | refine eo_callK ?_ | refine eo_mt ?_ | refine eio_rng1 ?_ | refine eio_rng2 ?_ | refine eio_zip ?_ | refine eio_any ?_ | refine eo_pur ?_ | refine to_no ?_ | refine to_yes ?_ | refine sso_nil ?_ | refine cmp_lt ?_ | refine cmp_le ?_ | refine cmp_gt ?_ | refine cmp_ge ?_ | refine cmp_eq ?_ | refine cmp_is rfl ?_ | refine cmp_isn rfl ?_ | refine cmp_in1 ?_ | refine cmp_nin1 ?_ | refine cmp_eqs (by assumption) (by assumption) ?_ | refine And.intro (show nsh _ = true from rfl) ?_ | refine Exists.intro _ (And.intro rfl ?_))
        refine coN (cal10l (d + 1) .shr .shr B1 B2 rfl rfl) ?_
        refine ⟨_, rfl, iteT ?_⟩
        repeat (first | refine sso_cons ?_ | refine so_ret ?_ | refine so_asg ?_ | refine so_asgC ?_ | refine so_ite ?_ | refine so_expr ?_ | refine so_par ?_ | refine so_setx ?_ | refine so_aug rfl ?_ | refine eso_nil ?_ | refine eso_mv rfl ?_ | refine eso_cons (fun _ _ => rfl) ?_ | refine eo_cst rfl ?_ | refine eo_cp rfl (by first | assumption | rfl) ?_ | refine eo_mv rfl ?_ | refine eo_glb rfl ?_ | refine eo_neg ?_ | refine eo_mod ?_ | refine eo_fdiv ?_ | refine eo_mul ?_ | refine eo_pow ?_ | refine eo_bin ?_ | refine eo_cmp ?_ | refine eo_chn ?_ | refine eo_and1 ?_ | refine eo_and ?_ | refine eo_or1 ?_ | refine eo_or ?_ | refine eo_not ?_ | refine eo_ife ?_ | refine eo_lst ?_ | refine eo_tup ?_ | refine eo_ix ?_ | refine eo_sl ?_ | refine eoo_no ?_ | refine eoo_yes ?_ | refine eo_rev ?_ | refine eo_isi ?_ | refine eo_repr ?_ | refine eo_sorted ?_ | refine eo_bi ?_ | refine eo_callN rfl ?_ | refine eo_call ?_ | refine eo_callK ?_ | refine eo_mt ?_ | refine eio_rng1 ?_ | refine eio_rng2 ?_ | refine eio_zip ?_ | refine eio_any ?_ | refine eo_pur ?_ | refine to_no ?_ | refine to_yes ?_ | refine sso_nil ?_ | refine cmp_lt ?_ | refine cmp_le ?_ | refine cmp_gt ?_ | refine cmp_ge ?_ | refine cmp_eq ?_ | refine cmp_is rfl ?_ | refine cmp_isn rfl ?_ | refine cmp_in1 ?_ | refine cmp_nin1 ?_ | refine cmp_eqs (by assumption) (by assumption) ?_ | refine And.intro (show nsh _ = true from rfl) ?_ | refine Exists.intro _ (And.intro rfl ?_))
        refine eo_cpF rfl ?_
        repeat (first | refine sso_cons ?_ | refine so_ret ?_ | refine so_asg ?_ | refine so_asgC ?_ | refine so_ite ?_ | refine so_expr ?_ | refine so_par ?_ | refine so_setx ?_ | refine so_aug rfl ?_ | refine eso_nil ?_ | refine eso_mv rfl ?_ | refine eso_cons (fun _ _ => rfl) ?_ | refine eo_cst rfl ?_ | refine eo_cp rfl (by first | assumption | rfl) ?_ | refine eo_mv rfl ?_ | refine eo_glb rfl ?_ | refine eo_neg ?_ | refine eo_mod ?_ | refine eo_fdiv ?_ | refine eo_mul ?_ | refine eo_pow ?_ | refine eo_bin ?_ | refine eo_cmp ?_ | refine eo_chn ?_ | refine eo_and1 ?_ | refine eo_and ?_ | refine eo_or1 ?_ | refine eo_or ?_ | refine eo_not ?_ | refine eo_ife ?_ | refine eo_lst ?_ | refine eo_tup ?_ | refine eo_ix ?_ | refine eo_sl ?_ | refine eoo_no ?_ | refine eoo_yes ?_ | refine eo_rev ?_ | refine eo_isi ?_ | refine eo_repr ?_ | refine eo_sorted ?_ | refine eo_bi ?_ | refine eo_callN rfl ?_ | refine eo_call ?_ | refine eo_callK ?_ | refine eo_mt ?_ | refine eio_rng1 ?_ | refine eio_rng2 ?_ | refine eio_zip ?_ | refine eio_any ?_ | refine eo_pur ?_ | refine to_no ?_ | refine to_yes ?_ | refine sso_nil ?_ | refine cmp_lt ?_ | refine cmp_le ?_ | refine cmp_gt ?_ | refine cmp_ge ?_ | refine cmp_eq ?_ | refine cmp_is rfl ?_ | refine cmp_isn rfl ?_ | refine cmp_in1 ?_ | refine cmp_nin1 ?_ | refine cmp_eqs (by assumption) (by assumption) ?_ | refine And.intro (show nsh _ = true from rfl) ?_ | refine Exists.intro _ (And.intro rfl ?_))
        refine coN (cal10l (d + 1) .shr .shr B1 B2 rfl rfl) ?_
        refine ⟨_, rfl, iteT ?_⟩
        repeat (first | refine sso_cons ?_ | refine so_ret ?_ | refine so_asg ?_ | refine so_asgC ?_ | refine so_ite ?_ | refine so_expr ?_ | refine so_par ?_ | refine so_setx ?_ | refine so_aug rfl ?_ | refine eso_nil ?_ | refine eso_mv rfl ?_ | refine eso_cons (fun _ _ => rfl) ?_ | refine eo_cst rfl ?_ | refine eo_cp rfl (by first | assumption | rfl) ?_ | refine eo_mv rfl ?_ | refine eo_glb rfl ?_ | refine eo_neg ?_ | refine eo_mod ?_ | refine eo_fdiv ?_ | refine eo_mul ?_ | refine eo_pow ?_ | refine eo_bin ?_ | refine eo_cmp ?_ | refine eo_chn ?_ | refine eo_and1 ?_ | refine eo_and ?_ | refine eo_or1 ?_ | refine eo_or ?_ | refine eo_not ?_ | refine eo_ife ?_ | refine eo_lst ?_ | refine eo_tup ?_ | refine eo_ix ?_ | refine eo_sl ?_ | refine eoo_no ?_ | refine eoo_yes ?_ | refine eo_rev ?_ | refine eo_isi ?_ | refine eo_repr ?_ | refine eo_sorted ?_ | refine eo_bi ?_ | refine eo_callN rfl ?_ | refine eo_call ?_ | refine eo_callK ?_ | refine eo_mt ?_ | refine eio_rng1 ?_ | refine eio_rng2 ?_ | refine eio_zip ?_ | refine eio_any ?_ | refine eo_pur ?_ | refine to_no ?_ | refine to_yes ?_ | refine sso_nil ?_ | refine cmp_lt ?_ | refine cmp_le ?_ | refine cmp_gt ?_ | refine cmp_ge ?_ | refine cmp_eq ?_ | refine cmp_is rfl ?_ | refine cmp_isn rfl ?_ | refine cmp_in1 ?_ | refine cmp_nin1 ?_ | refine cmp_eqs (by assumption) (by assumption) ?_ | refine And.intro (show nsh _ = true from rfl) ?_ | refine Exists.intro _ (And.intro rfl ?_))
        refine ⟨_, hrr, ?_⟩
        repeat (first | refine sso_cons ?_ | refine so_ret ?_ | refine so_asg ?_ | refine so_asgC ?_ | refine so_ite ?_ | refine so_expr ?_ | refine so_par ?_ | refine so_setx ?_ | refine so_aug rfl ?_ | refine eso_nil ?_ | refine eso_mv rfl ?_ | refine eso_cons (fun _ _ => rfl) ?_ | refine eo_cst rfl ?_ | refine eo_cp rfl (by first | assumption | rfl) ?_ | refine eo_mv rfl ?_ | refine eo_glb rfl ?_ | refine eo_neg ?_ | refine eo_mod ?_ | refine eo_fdiv ?_ | refine eo_mul ?_ | refine eo_pow ?_ | refine eo_bin ?_ | refine eo_cmp ?_ | refine eo_chn ?_ | refine eo_and1 ?_ | refine eo_and ?_ | refine eo_or1 ?_ | refine eo_or ?_ | refine eo_not ?_ | refine eo_ife ?_ | refine eo_lst ?_ | refine eo_tup ?_ | refine eo_ix ?_ | refine eo_sl ?_ | refine eoo_no ?_ | refine eoo_yes ?_ | refine eo_rev ?_ | refine eo_isi ?_ | refine eo_repr ?_ | refine eo_sorted ?_ | refine eo_bi ?_ | refine eo_callN rfl ?_ | refine eo_call ?_ | refine eo_callK ?_ | refine eo_mt ?_ | refine eio_rng1 ?_ | refine eio_rng2 ?_ | refine eio_zip ?_ | refine eio_any ?_ | refine eo_pur ?_ | refine to_no ?_ | refine to_yes ?_ | refine sso_nil ?_ | refine cmp_lt ?_ | refine cmp_le ?_ | refine cmp_gt ?_ | refine cmp_ge ?_ | refine cmp_eq ?_ | refine cmp_is rfl ?_ | refine cmp_isn rfl ?_ | refine cmp_in1 ?_ | refine cmp_nin1 ?_ | refine cmp_eqs (by assumption) (by assumption) ?_ | refine And.intro (show nsh _ = true from rfl) ?_ | refine Exists.intro _ (And.intro rfl ?_))
        
        exact ⟨congrArg D.bl (beq_self_eq_true S), rfl⟩
/-- so is what is no list -/
theorem cal17o (d m : Nat) (v : D) (hv : Plain v) (hl : isLst v = false) (hf : frz v = v) (hr : ∃ S, opBi0 .repr [v] = some (.str S) ∧ PyData.strOk S = true) : ∃ r outs, cal (d + 4) 17 [v] = some (r, outs) ∧ r = .bl true ∧ outs = [] := by
  refine cal_of (f := d17) rfl rfl ?_
  obtain ⟨S, hrr, hok⟩ := hr
  have ht : ∀ p, tyE (.one .list p) v = some false := by intro p; cases v <;> first | rfl | exact hv.elim | (cases hl; done)
  repeat (first | refine sso_cons ?_ | refine so_ret ?_ | refine so_asg ?_ | refine so_asgC ?_ | refine so_ite ?_ | refine so_expr ?_ | refine so_par ?_ | refine so_setx ?_ | refine so_aug rfl ?_ | refine eso_nil ?_ | refine eso_mv rfl ?_ | refine eso_cons (fun _ _ => rfl) ?_ | refine eo_cst rfl ?_ | refine eo_cp rfl (by first | assumption | rfl) ?_ | refine eo_mv rfl ?_ | refine eo_glb rfl ?_ | refine eo_neg ?_ | refine eo_mod ?_ | refine eo_fdiv ?_ | refine eo_mul ?_ | refine eo_pow ?_ | refine eo_bin ?_ | refine eo_cmp ?_ | refine eo_chn ?_ | refine eo_and1 ?_ | refine eo_and ?_ | refine eo_or1 ?_ | refine eo_or ?_ | refine eo_not ?_ | refine eo_ife ?_ | refine eo_lst ?_ | refine eo_tup ?_ | refine eo_ix ?_ | refine eo_sl ?_ | refine eoo_no ?_ | refine eoo_yes ?_ | refine eo_rev ?_ | refine eo_isi ?_ | refine eo_repr ?_ | refine eo_sorted ?_ | refine eo_bi ?_ | refine eo_callN rfl ?_ | refine eo_call ?_ | refine eo_callK ?_ | refine eo_mt ?_ | refine eio_rng1 ?_ | refine eio_rng2 ?_ | refine eio_zip ?_ | refine eio_any ?_ | refine eo_pur ?_ | refine to_no ?_ | refine to_yes ?_ | refine sso_nil ?_ | refine cmp_lt ?_ | refine cmp_le ?_ | refine cmp_gt ?_ | refine cmp_ge ?_ | refine cmp_eq ?_ | refine cmp_is rfl ?_ | refine cmp_isn rfl ?_ | refine cmp_in1 ?_ | refine cmp_nin1 ?_ | refine cmp_eqs (by assumption) (by assumption) ?_ | refine And.intro (show nsh _ = true from rfl) ?_ | refine Exists.intro _ (And.intro rfl ?_))
  refine ⟨_, hrr, ?_⟩
  repeat (first | refine sso_cons ?_ | refine so_ret ?_ | refine so_asg ?_ | refine so_asgC ?_ | refine so_ite ?_ | refine so_expr ?_ | refine so_par ?_ | refine so_setx ?_ | refine so_aug rfl ?_ | refine eso_nil ?_ | refine eso_mv rfl ?_ | refine eso_cons (fun _ _ => rfl) ?_ | refine eo_cst rfl ?_ | refine eo_cp rfl (by first | assumption | rfl) ?_ | refine eo_mv rfl ?_ | refine eo_glb rfl ?_ | refine eo_neg ?_ | refine eo_mod ?_ | refine eo_fdiv ?_ | refine eo_mul ?_ | refine eo_pow ?_ | refine eo_bin ?_ | refine eo_cmp ?_ | refine eo_chn ?_ | refine eo_and1 ?_ | refine eo_and ?_ | refine eo_or1 ?_ | refine eo_or ?_ | refine eo_not ?_ | refine eo_ife ?_ | refine eo_lst ?_ | refine eo_tup ?_ | refine eo_ix ?_ | refine eo_sl ?_ | refine eoo_no ?_ | refine eoo_yes ?_ | refine eo_rev ?_ | refine eo_isi ?_ | refine eo_repr ?_ | refine eo_sorted ?_ | refine eo_bi ?_ | refine eo_callN rfl ?_ | refine eo_call ?_ | refine eo_callK ?_ | refine eo_mt ?_ | refine eio_rng1 ?_ | refine eio_rng2 ?_ | refine eio_zip ?_ | refine eio_any ?_ | refine eo_pur ?_ | refine to_no ?_ | refine to_yes ?_ | refine sso_nil ?_ | refine cmp_lt ?_ | refine cmp_le ?_ | refine cmp_gt ?_ | refine cmp_ge ?_ | refine cmp_eq ?_ | refine cmp_is rfl ?_ | refine cmp_isn rfl ?_ | refine cmp_in1 ?_ | refine cmp_nin1 ?_ | refine cmp_eqs (by assumption) (by assumption) ?_ | refine And.intro (show nsh _ = true from rfl) ?_ | refine Exists.intro _ (And.intro rfl ?_))
  refine ⟨_, ht _, ?_⟩
  repeat (first | refine sso_cons ?_ | refine so_ret ?_ | refine so_asg ?_ | refine so_asgC ?_ | refine so_ite ?_ | refine so_expr ?_ | refine so_par ?_ | refine so_setx ?_ | refine so_aug rfl ?_ | refine eso_nil ?_ | refine eso_mv rfl ?_ | refine eso_cons (fun _ _ => rfl) ?_ | refine eo_cst rfl ?_ | refine eo_cp rfl (by first | assumption | rfl) ?_ | refine eo_mv rfl ?_ | refine eo_glb rfl ?_ | refine eo_neg ?_ | refine eo_mod ?_ | refine eo_fdiv ?_ | refine eo_mul ?_ | refine eo_pow ?_ | refine eo_bin ?_ | refine eo_cmp ?_ | refine eo_chn ?_ | refine eo_and1 ?_ | refine eo_and ?_ | refine eo_or1 ?_ | refine eo_or ?_ | refine eo_not ?_ | refine eo_ife ?_ | refine eo_lst ?_ | refine eo_tup ?_ | refine eo_ix ?_ | refine eo_sl ?_ | refine eoo_no ?_ | refine eoo_yes ?_ | refine eo_rev ?_ | refine eo_isi ?_ | refine eo_repr ?_ | refine eo_sorted ?_ | refine eo_bi ?_ | refine eo_callN rfl ?_ | refine eo_call ?_ | refine eo_callK ?_ | refine eo_mt ?_ | refine eio_rng1 ?_ | refine eio_rng2 ?_ | refine eio_zip ?_ | refine eio_any ?_ | refine eo_pur ?_ | refine to_no ?_ | refine to_yes ?_ | refine sso_nil ?_ | refine cmp_lt ?_ | refine cmp_le ?_ | refine cmp_gt ?_ | refine cmp_ge ?_ | refine cmp_eq ?_ | refine cmp_is rfl ?_ | refine cmp_isn rfl ?_ | refine cmp_in1 ?_ | refine cmp_nin1 ?_ | refine cmp_eqs (by assumption) (by assumption) ?_ | refine And.intro (show nsh _ = true from rfl) ?_ | refine Exists.intro _ (And.intro rfl ?_))
  refine coN (cal13 (d + 2) v hv hf) ?_
  repeat (first | refine sso_cons ?_ | refine so_ret ?_ | refine so_asg ?_ | refine so_asgC ?_ | refine so_ite ?_ | refine so_expr ?_ | refine so_par ?_ | refine so_setx ?_ | refine so_aug rfl ?_ | refine eso_nil ?_ | refine eso_mv rfl ?_ | refine eso_cons (fun _ _ => rfl) ?_ | refine eo_cst rfl ?_ | refine eo_cp rfl (by first | assumption | rfl) ?_ | refine eo_mv rfl ?_ | refine eo_glb rfl ?_ | refine eo_neg ?_ | refine eo_mod ?_ | refine eo_fdiv ?_ | refine eo_mul ?_ | refine eo_pow ?_ | refine eo_bin ?_ | refine eo_cmp ?_ | refine eo_chn ?_ | refine eo_and1 ?_ | refine eo_and ?_ | refine eo_or1 ?_ | refine eo_or ?_ | refine eo_not ?_ | refine eo_ife ?_ | refine eo_lst ?_ | refine eo_tup ?_ | refine eo_ix ?_ | refine eo_sl ?_ | refine eoo_no ?_ | refine eoo_yes ?_ | refine eo_rev ?_ | refine eo_isi ?_ | refine eo_repr ?_ | refine eo_sorted ?_ | refine eo_bi ?_ | refine eo_callN rfl ?_ | refine eo_call ?_ | refine eo_callK ?_ | refine eo_mt ?_ | refine eio_rng1 ?_ | refine eio_rng2 ?_ | refine eio_zip ?_ | refine eio_any ?_ | refine eo_pur ?_ | refine to_no ?_ | refine to_yes ?_ | refine sso_nil ?_ | refine cmp_lt ?_ | refine cmp_le ?_ | refine cmp_gt ?_ | refine cmp_ge ?_ | refine cmp_eq ?_ | refine cmp_is rfl ?_ | refine cmp_isn rfl ?_ | refine cmp_in1 ?_ | refine cmp_nin1 ?_ | refine cmp_eqs (by assumption) (by assumption) ?_ | refine And.intro (show nsh _ = true from rfl) ?_ | refine Exists.intro _ (And.intro rfl ?_))
  refine ⟨line_ge (show 2 ≤ 16777216 by decide), ?_⟩
  repeat (first | refine sso_cons ?_ | refine so_ret ?_ | refine so_asg ?_ | refine so_asgC ?_ | refine so_ite ?_ | refine so_expr ?_ | refine so_par ?_ | refine so_setx ?_ | refine so_aug rfl ?_ | refine eso_nil ?_ | refine eso_mv rfl ?_ | refine eso_cons (fun _ _ => rfl) ?_ | refine eo_cst rfl ?_ | refine eo_cp rfl (by first | assumption | rfl) ?_ | refine eo_mv rfl ?_ | refine eo_glb rfl ?_ | refine eo_neg ?_ | refine eo_mod ?_ | refine eo_fdiv ?_ | refine eo_mul ?_ | refine eo_pow ?_ | refine eo_bin ?_ | refine eo_cmp ?_ | refine eo_chn ?_ | refine eo_and1 ?_ | refine eo_and ?_ | refine eo_or1 ?_ | refine eo_or ?_ | refine eo_not ?_ | refine eo_ife ?_ | refine eo_lst ?_ | refine eo_tup ?_ | refine eo_ix ?_ | refine eo_sl ?_ | refine eoo_no ?_ | refine eoo_yes ?_ | refine eo_rev ?_ | refine eo_isi ?_ | refine eo_repr ?_ | refine eo_sorted ?_ | refine eo_bi ?_ | refine eo_callN rfl ?_ | refine eo_call ?_ | refine eo_callK ?_ | refine eo_mt ?_ | refine eio_rng1 ?_ | refine eio_rng2 ?_ | refine eio_zip ?_ | refine eio_any ?_ | refine eo_pur ?_ | refine to_no ?_ | refine to_yes ?_ | refine sso_nil ?_ | refine cmp_lt ?_ | refine cmp_le ?_ | refine cmp_gt ?_ | refine cmp_ge ?_ | refine cmp_eq ?_ | refine cmp_is rfl ?_ | refine cmp_isn rfl ?_ | refine cmp_in1 ?_ | refine cmp_nin1 ?_ | refine cmp_eqs (by assumption) (by assumption) ?_ | refine And.intro (show nsh _ = true from rfl) ?_ | refine Exists.intro _ (And.intro rfl ?_))
  refine coN (cal1 (d + 1) v hv hf) ?_
  repeat (first | refine sso_cons ?_ | refine so_ret ?_ | refine so_asg ?_ | refine so_asgC ?_ | refine so_ite ?_ | refine so_expr ?_ | refine so_par ?_ | refine so_setx ?_ | refine so_aug rfl ?_ | refine eso_nil ?_ | refine eso_mv rfl ?_ | refine eso_cons (fun _ _ => rfl) ?_ | refine eo_cst rfl ?_ | refine eo_cp rfl (by first | assumption | rfl) ?_ | refine eo_mv rfl ?_ | refine eo_glb rfl ?_ | refine eo_neg ?_ | refine eo_mod ?_ | refine eo_fdiv ?_ | refine eo_mul ?_ | refine eo_pow ?_ | refine eo_bin ?_ | refine eo_cmp ?_ | refine eo_chn ?_ | refine eo_and1 ?_ | refine eo_and ?_ | refine eo_or1 ?_ | refine eo_or ?_ | refine eo_not ?_ | refine eo_ife ?_ | refine eo_lst ?_ | refine eo_tup ?_ | refine eo_ix ?_ | refine eo_sl ?_ | refine eoo_no ?_ | refine eoo_yes ?_ | refine eo_rev ?_ | refine eo_isi ?_ | refine eo_repr ?_ | refine eo_sorted ?_ | refine eo_bi ?_ | refine eo_callN rfl ?_ | refine eo_call ?_ | refine eo_callK ?_ | refine eo_mt ?_ | refine eio_rng1 ?_ | refine eio_rng2 ?_ | refine eio_zip ?_ | refine eio_any ?_ | refine eo_pur ?_ | refine to_no ?_ | refine to_yes ?_ | refine sso_nil ?_ | refine cmp_lt ?_ | refine cmp_le ?_ | refine cmp_gt ?_ | refine cmp_ge ?_ | refine cmp_eq ?_ | refine cmp_is rfl ?_ | refine cmp_isn rfl ?_ | refine cmp_in1 ?_ | refine cmp_nin1 ?_ | refine cmp_eqs (by assumption) (by assumption) ?_ | refine And.intro (show nsh _ = true from rfl) ?_ | refine Exists.intro _ (And.intro rfl ?_))
  refine coN (cal3o d v hv hl hf) ?_
  repeat (first | refine sso_cons ?_ | refine so_ret ?_ | refine so_asg ?_ | refine so_asgC ?_ | refine so_ite ?_ | refine so_expr ?_ | refine so_par ?_ | refine so_setx ?_ | refine so_aug rfl ?_ | refine eso_nil ?_ | refine eso_mv rfl ?_ | refine eso_cons (fun _ _ => rfl) ?_ | refine eo_cst rfl ?_ | refine eo_cp rfl (by first | assumption | rfl) ?_ | refine eo_mv rfl ?_ | refine eo_glb rfl ?_ | refine eo_neg ?_ | refine eo_mod ?_ | refine eo_fdiv ?_ | refine eo_mul ?_ | refine eo_pow ?_ | refine eo_bin ?_ | refine eo_cmp ?_ | refine eo_chn ?_ | refine eo_and1 ?_ | refine eo_and ?_ | refine eo_or1 ?_ | refine eo_or ?_ | refine eo_not ?_ | refine eo_ife ?_ | refine eo_lst ?_ | refine eo_tup ?_ | refine eo_ix ?_ | refine eo_sl ?_ | refine eoo_no ?_ | refine eoo_yes ?_ | refine eo_rev ?_ | refine eo_isi ?_ | refine eo_repr ?_ | refine eo_sorted ?_ | refine eo_bi ?_ | refine eo_callN rfl ?_ | refine eo_call ?_ | refine eo_callK ?_ | refine eo_mt ?_ | refine eio_rng1 ?_ | refine eio_rng2 ?_ | refine eio_zip ?_ | refine eio_any ?_ | refine eo_pur ?_ | refine to_no ?_ | refine to_yes ?_ | refine sso_nil ?_ | refine cmp_lt ?_ | refine cmp_le ?_ | refine cmp_gt ?_ | refine cmp_ge ?_ | refine cmp_eq ?_ | refine cmp_is rfl ?_ | refine cmp_isn rfl ?_ | refine cmp_in1 ?_ | refine cmp_nin1 ?_ | refine cmp_eqs (by assumption) (by assumption) ?_ | refine And.intro (show nsh _ = true from rfl) ?_ | refine Exists.intro _ (And.intro rfl ?_))
  refine ⟨line_ge (show 2 ≤ 16777216 by decide), ?_⟩
  repeat (first | refine sso_cons ?_ | refine so_ret ?_ | refine so_asg ?_ | refine so_asgC ?_ | refine so_ite ?_ | refine so_expr ?_ | refine so_par ?_ | refine so_setx ?_ | refine so_aug rfl ?_ | refine eso_nil ?_ | refine eso_mv rfl ?_ | refine eso_cons (fun _ _ => rfl) ?_ | refine eo_cst rfl ?_ | refine eo_cp rfl (by first | assumption | rfl) ?_ | refine eo_mv rfl ?_ | refine eo_glb rfl ?_ | refine eo_neg ?_ | refine eo_mod ?_ | refine eo_fdiv ?_ | refine eo_mul ?_ | refine eo_pow ?_ | refine eo_bin ?_ | refine eo_cmp ?_ | refine eo_chn ?_ | refine eo_and1 ?_ | refine eo_and ?_ | refine eo_or1 ?_ | refine eo_or ?_ | refine eo_not ?_ | refine eo_ife ?_ | refine eo_lst ?_ | refine eo_tup ?_ | refine eo_ix ?_ | refine eo_sl ?_ | refine eoo_no ?_ | refine eoo_yes ?_ | refine eo_rev ?_ | refine eo_isi ?_ | refine eo_repr ?_ | refine eo_sorted ?_ | refine eo_bi ?_ | refine eo_callN rfl ?_ | refine eo_call ?_ | refine eo_callK ?_ | refine eo_mt ?_ | refine eio_rng1 ?_ | refine eio_rng2 ?_ | refine eio_zip ?_ | refine eio_any ?_ | refine eo_pur ?_ | refine to_no ?_ | refine to_yes ?_ | refine sso_nil ?_ | refine cmp_lt ?_ | refine cmp_le ?_ | refine cmp_gt ?_ | refine cmp_ge ?_ | refine cmp_eq ?_ | refine cmp_is rfl ?_ | refine cmp_isn rfl ?_ | refine cmp_in1 ?_ | refine cmp_nin1 ?_ | refine cmp_eqs (by assumption) (by assumption) ?_ | refine And.intro (show nsh _ = true from rfl) ?_ | refine Exists.intro _ (And.intro rfl ?_))
  refine coN (cal1 (d + 1) v hv hf) ?_
  repeat (first | refine sso_cons ?_ | refine so_ret ?_ | refine so_asg ?_ | refine so_asgC ?_ | refine so_ite ?_ | refine so_expr ?_ | refine so_par ?_ | refine so_setx ?_ | refine so_aug rfl ?_ | refine eso_nil ?_ | refine eso_mv rfl ?_ | refine eso_cons (fun _ _ => rfl) ?_ | refine eo_cst rfl ?_ | refine eo_cp rfl (by first | assumption | rfl) ?_ | refine eo_mv rfl ?_ | refine eo_glb rfl ?_ | refine eo_neg ?_ | refine eo_mod ?_ | refine eo_fdiv ?_ | refine eo_mul ?_ | refine eo_pow ?_ | refine eo_bin ?_ | refine eo_cmp ?_ | refine eo_chn ?_ | refine eo_and1 ?_ | refine eo_and ?_ | refine eo_or1 ?_ | refine eo_or ?_ | refine eo_not ?_ | refine eo_ife ?_ | refine eo_lst ?_ | refine eo_tup ?_ | refine eo_ix ?_ | refine eo_sl ?_ | refine eoo_no ?_ | refine eoo_yes ?_ | refine eo_rev ?_ | refine eo_isi ?_ | refine eo_repr ?_ | refine eo_sorted ?_ | refine eo_bi ?_ | refine eo_callN rfl ?_ | refine eo_call ?_ | refine eo_callK ?_ | refine eo_mt ?_ | refine eio_rng1 ?_ | refine eio_rng2 ?_ | refine eio_zip ?_ | refine eio_any ?_ | refine eo_pur ?_ | refine to_no ?_ | refine to_yes ?_ | refine sso_nil ?_ | refine cmp_lt ?_ | refine cmp_le ?_ | refine cmp_gt ?_ | refine cmp_ge ?_ | refine cmp_eq ?_ | refine cmp_is rfl ?_ | refine cmp_isn rfl ?_ | refine cmp_in1 ?_ | refine cmp_nin1 ?_ | refine cmp_eqs (by assumption) (by assumption) ?_ | refine And.intro (show nsh _ = true from rfl) ?_ | refine Exists.intro _ (And.intro rfl ?_))
  refine coN (cal3o d v hv hl hf) ?_
  repeat (first | refine sso_cons ?_ | refine so_ret ?_ | refine so_asg ?_ | refine so_asgC ?_ | refine so_ite ?_ | refine so_expr ?_ | refine so_par ?_ | refine so_setx ?_ | refine so_aug rfl ?_ | refine eso_nil ?_ | refine eso_mv rfl ?_ | refine eso_cons (fun _ _ => rfl) ?_ | refine eo_cst rfl ?_ | refine eo_cp rfl (by first | assumption | rfl) ?_ | refine eo_mv rfl ?_ | refine eo_glb rfl ?_ | refine eo_neg ?_ | refine eo_mod ?_ | refine eo_fdiv ?_ | refine eo_mul ?_ | refine eo_pow ?_ | refine eo_bin ?_ | refine eo_cmp ?_ | refine eo_chn ?_ | refine eo_and1 ?_ | refine eo_and ?_ | refine eo_or1 ?_ | refine eo_or ?_ | refine eo_not ?_ | refine eo_ife ?_ | refine eo_lst ?_ | refine eo_tup ?_ | refine eo_ix ?_ | refine eo_sl ?_ | refine eoo_no ?_ | refine eoo_yes ?_ | refine eo_rev ?_ | refine eo_isi ?_ | refine eo_repr ?_ | refine eo_sorted ?_ | refine eo_bi ?_ | refine eo_callN rfl ?_ | refine eo_call ?_ | refine eo_callK ?_ | refine eo_mt ?_ | refine eio_rng1 ?_ | refine eio_rng2 ?_ | refine eio_zip ?_ | refine eio_any ?_ | refine eo_pur ?_ | refine to_no ?_ | refine to_yes ?_ | refine sso_nil ?_ | refine cmp_lt ?_ | refine cmp_le ?_ | refine cmp_gt ?_ | refine cmp_ge ?_ | refine cmp_eq ?_ | refine cmp_is rfl ?_ | refine cmp_isn rfl ?_ | refine cmp_in1 ?_ | refine cmp_nin1 ?_ | refine cmp_eqs (by assumption) (by assumption) ?_ | refine And.intro (show nsh _ = true from rfl) ?_ | refine Exists.intro _ (And.intro rfl ?_))
  refine ⟨line_ge (show 2 ≤ 16777216 by decide), ?_⟩
  repeat (first | refine sso_cons ?_ | refine so_ret ?_ | refine so_asg ?_ | refine so_asgC ?_ | refine so_ite ?_ | refine so_expr ?_ | refine so_par ?_ | refine so_setx ?_ | refine so_aug rfl ?_ | refine eso_nil ?_ | refine eso_mv rfl ?_ | refine eso_cons (fun _ _ => rfl) ?_ | refine eo_cst rfl ?_ | refine eo_cp rfl (by first | assumption | rfl) ?_ | refine eo_mv rfl ?_ | refine eo_glb rfl ?_ | refine eo_neg ?_ | refine eo_mod ?_ | refine eo_fdiv ?_ | refine eo_mul ?_ | refine eo_pow ?_ | refine eo_bin ?_ | refine eo_cmp ?_ | refine eo_chn ?_ | refine eo_and1 ?_ | refine eo_and ?_ | refine eo_or1 ?_ | refine eo_or ?_ | refine eo_not ?_ | refine eo_ife ?_ | refine eo_lst ?_ | refine eo_tup ?_ | refine eo_ix ?_ | refine eo_sl ?_ | refine eoo_no ?_ | refine eoo_yes ?_ | refine eo_rev ?_ | refine eo_isi ?_ | refine eo_repr ?_ | refine eo_sorted ?_ | refine eo_bi ?_ | refine eo_callN rfl ?_ | refine eo_call ?_ | refine eo_callK ?_ | refine eo_mt ?_ | refine eio_rng1 ?_ | refine eio_rng2 ?_ | refine eio_zip ?_ | refine eio_any ?_ | refine eo_pur ?_ | refine to_no ?_ | refine to_yes ?_ | refine sso_nil ?_ | refine cmp_lt ?_ | refine cmp_le ?_ | refine cmp_gt ?_ | refine cmp_ge ?_ | refine cmp_eq ?_ | refine cmp_is rfl ?_ | refine cmp_isn rfl ?_ | refine cmp_in1 ?_ | refine cmp_nin1 ?_ | refine cmp_eqs (by assumption) (by assumption) ?_ | refine And.intro (show nsh _ = true from rfl) ?_ | refine Exists.intro _ (And.intro rfl ?_))
  generalize nameB v = B1
  refine eo_cpF rfl ?_
  repeat (first | refine sso_cons ?_ | refine so_ret ?_ | refine so_asg ?_ | refine so_asgC ?_ | refine so_ite ?_ | refine so_expr ?_ | refine so_par ?_ | refine so_setx ?_ | refine so_aug rfl ?_ | refine eso_nil ?_ | refine eso_mv rfl ?_ | refine eso_cons (fun _ _ => rfl) ?_ | refine eo_cst rfl ?_ | refine eo_cp rfl (by first | assumption | rfl) ?_ | refine eo_mv rfl ?_ | refine eo_glb rfl ?_ | refine eo_neg ?_ | refine eo_mod ?_ | refine eo_fdiv ?_ | refine eo_mul ?_ | refine eo_pow ?_ | refine eo_bin ?_ | refine eo_cmp ?_ | refine eo_chn ?_ | refine eo_and1 ?_ | refine eo_and ?_ | refine eo_or1 ?_ | refine eo_or ?_ | refine eo_not ?_ | refine eo_ife ?_ | refine eo_lst ?_ | refine eo_tup ?_ | refine eo_ix ?_ | refine eo_sl ?_ | refine eoo_no ?_ | refine eoo_yes ?_ | refine eo_rev ?_ | refine eo_isi ?_ | refine eo_repr ?_ | refine eo_sorted ?_ | refine eo_bi ?_ | refine eo_callN rfl ?_ | refine eo_call ?_ | refine eo_callK ?_ | refine eo_mt ?_ | refine eio_rng1 ?_ | refine eio_rng2 ?_ | refine eio_zip ?_ | refine eio_any ?_ | refine eo_pur ?_ | refine to_no ?_ | refine to_yes ?_ | refine sso_nil ?_ | refine cmp_lt ?_ | refine cmp_le ?_ | refine cmp_gt ?_ | refine cmp_ge ?_ | refine cmp_eq ?_ | refine cmp_is rfl ?_ | refine cmp_isn rfl ?_ | refine cmp_in1 ?_ | refine cmp_nin1 ?_ | refine cmp_eqs (by assumption) (by assumption) ?_ | refine And.intro (show nsh _ = true from rfl) ?_ | refine Exists.intro _ (And.intro rfl ?_))
  refine eo_cpF rfl ?_
  repeat (first | refine sso_cons ?_ | refine so_ret ?_ | refine so_asg ?_ | refine so_asgC ?_ | refine so_ite ?_ | refine so_expr ?_ | refine so_par ?_ | refine so_setx ?_ | refine so_aug rfl ?_ | refine eso_nil ?_ | refine eso_mv rfl ?_ | refine eso_cons (fun _ _ => rfl) ?_ | refine eo_cst rfl ?_ | refine eo_cp rfl (by first | assumption | rfl) ?_ | refine eo_mv rfl ?_ | refine eo_glb rfl ?_ | refine eo_neg ?_ | refine eo_mod ?_ | refine eo_fdiv ?_ | refine eo_mul ?_ | refine eo_pow ?_ | refine eo_bin ?_ | refine eo_cmp ?_ | refine eo_chn ?_ | refine eo_and1 ?_ | refine eo_and ?_ | refine eo_or1 ?_ | refine eo_or ?_ | refine eo_not ?_ | refine eo_ife ?_ | refine eo_lst ?_ | refine eo_tup ?_ | refine eo_ix ?_ | refine eo_sl ?_ | refine eoo_no ?_ | refine eoo_yes ?_ | refine eo_rev ?_ | refine eo_isi ?_ | refine eo_repr ?_ | refine eo_sorted ?_ | refine eo_bi ?_ | refine eo_callN rfl ?_ | refine eo_call ?_ | refine eo_callK ?_ | refine eo_mt ?_ | refine eio_rng1 ?_ | refine eio_rng2 ?_ | refine eio_zip ?_ | refine eio_any ?_ | refine eo_pur ?_ | refine to_no ?_ | refine to_yes ?_ | refine sso_nil ?_ | refine cmp_lt ?_ | refine cmp_le ?_ | refine cmp_gt ?_ | refine cmp_ge ?_ | refine cmp_eq ?_ | refine cmp_is rfl ?_ | refine cmp_isn rfl ?_ | refine cmp_in1 ?_ | refine cmp_nin1 ?_ | refine cmp_eqs (by assumption) (by assumption) ?_ | refine And.intro (show nsh _ = true from rfl) ?_ | refine Exists.intro _ (And.intro rfl ?_))
  refine coN (cal10l (d + 1) .shr .shr B1 false rfl rfl) ?_
  refine ⟨_, rfl, iteT ?_⟩
  repeat (first | refine sso_cons ?_ | refine so_ret ?_ | refine so_asg ?_ | refine so_asgC ?_ | refine so_ite ?_ | refine so_expr ?_ | refine so_par ?_ | refine so_setx ?_ | refine so_aug rfl ?_ | refine eso_nil ?_ | refine eso_mv rfl ?_ | refine eso_cons (fun _ _ => rfl) ?_ | refine eo_cst rfl ?_ | refine eo_cp rfl (by first | assumption | rfl) ?_ | refine eo_mv rfl ?_ | refine eo_glb rfl ?_ | refine eo_neg ?_ | refine eo_mod ?_ | refine eo_fdiv ?_ | refine eo_mul ?_ | refine eo_pow ?_ | refine eo_bin ?_ | refine eo_cmp ?_ | refine eo_chn ?_ | refine eo_and1 ?_ | refine eo_and ?_ | refine eo_or1 ?_ | refine eo_or ?_ | refine eo_not ?_ | refine eo_ife ?_ | refine eo_lst ?_ | refine eo_tup ?_ | refine eo_ix ?_ | refine eo_sl ?_ | refine eoo_no ?_ | refine eoo_yes ?_ | refine eo_rev ?_ | refine eo_isi ?_ | refine eo_repr ?_ | refine eo_sorted ?_ | refine eo_bi ?_ | refine eo_callN rfl ?_ | refine eo_call ?_ | refine eo_callK ?_ | refine eo_mt ?_ | refine eio_rng1 ?_ | refine eio_rng2 ?_ | refine eio_zip ?_ | refine eio_any ?_ | refine eo_pur ?_ | refine to_no ?_ | refine to_yes ?_ | refine sso_nil ?_ | refine cmp_lt ?_ | refine cmp_le ?_ | refine cmp_gt ?_ | refine cmp_ge ?_ | refine cmp_eq ?_ | refine cmp_is rfl ?_ | refine cmp_isn rfl ?_ | refine cmp_in1 ?_ | refine cmp_nin1 ?_ | refine cmp_eqs (by assumption) (by assumption) ?_ | refine And.intro (show nsh _ = true from rfl) ?_ | refine Exists.intro _ (And.intro rfl ?_))
  refine eo_cpF rfl ?_
  repeat (first | refine sso_cons ?_ | refine so_ret ?_ | refine so_asg ?_ | refine so_asgC ?_ | refine so_ite ?_ | refine so_expr ?_ | refine so_par ?_ | refine so_setx ?_ | refine so_aug rfl ?_ | refine eso_nil ?_ | refine eso_mv rfl ?_ | refine eso_cons (fun _ _ => rfl) ?_ | refine eo_cst rfl ?_ | refine eo_cp rfl (by first | assumption | rfl) ?_ | refine eo_mv rfl ?_ | refine eo_glb rfl ?_ | refine eo_neg ?_ | refine eo_mod ?_ | refine eo_fdiv ?_ | refine eo_mul ?_ | refine eo_pow ?_ | refine eo_bin ?_ | refine eo_cmp ?_ | refine eo_chn ?_ | refine eo_and1 ?_ | refine eo_and ?_ | refine eo_or1 ?_ | refine eo_or ?_ | refine eo_not ?_ | refine eo_ife ?_ | refine eo_lst ?_ | refine eo_tup ?_ | refine eo_ix ?_ | refine eo_sl ?_ | refine eoo_no ?_ | refine eoo_yes ?_ | refine eo_rev ?_ | refine eo_isi ?_ | refine eo_repr ?_ | refine eo_sorted ?_ | refine eo_bi ?_ | refine eo_callN rfl ?_ | refine eo_call ?_ | refine eo_callK ?_ | refine eo_mt ?_ | refine eio_rng1 ?_ | refine eio_rng2 ?_ | refine eio_zip ?_ | refine eio_any ?_ | refine eo_pur ?_ | refine to_no ?_ | refine to_yes ?_ | refine sso_nil ?_ | refine cmp_lt ?_ | refine cmp_le ?_ | refine cmp_gt ?_ | refine cmp_ge ?_ | refine cmp_eq ?_ | refine cmp_is rfl ?_ | refine cmp_isn rfl ?_ | refine cmp_in1 ?_ | refine cmp_nin1 ?_ | refine cmp_eqs (by assumption) (by assumption) ?_ | refine And.intro (show nsh _ = true from rfl) ?_ | refine Exists.intro _ (And.intro rfl ?_))
  refine coN (cal10l (d + 1) .shr .shr B1 false rfl rfl) ?_
  refine ⟨_, rfl, iteT ?_⟩
  repeat (first | refine sso_cons ?_ | refine so_ret ?_ | refine so_asg ?_ | refine so_asgC ?_ | refine so_ite ?_ | refine so_expr ?_ | refine so_par ?_ | refine so_setx ?_ | refine so_aug rfl ?_ | refine eso_nil ?_ | refine eso_mv rfl ?_ | refine eso_cons (fun _ _ => rfl) ?_ | refine eo_cst rfl ?_ | refine eo_cp rfl (by first | assumption | rfl) ?_ | refine eo_mv rfl ?_ | refine eo_glb rfl ?_ | refine eo_neg ?_ | refine eo_mod ?_ | refine eo_fdiv ?_ | refine eo_mul ?_ | refine eo_pow ?_ | refine eo_bin ?_ | refine eo_cmp ?_ | refine eo_chn ?_ | refine eo_and1 ?_ | refine eo_and ?_ | refine eo_or1 ?_ | refine eo_or ?_ | refine eo_not ?_ | refine eo_ife ?_ | refine eo_lst ?_ | refine eo_tup ?_ | refine eo_ix ?_ | refine eo_sl ?_ | refine eoo_no ?_ | refine eoo_yes ?_ | refine eo_rev ?_ | refine eo_isi ?_ | refine eo_repr ?_ | refine eo_sorted ?_ | refine eo_bi ?_ | refine eo_callN rfl ?_ | refine eo_call ?_ | refine eo_callK ?_ | refine eo_mt ?_ | refine eio_rng1 ?_ | refine eio_rng2 ?_ | refine eio_zip ?_ | refine eio_any ?_ | refine eo_pur ?_ | refine to_no ?_ | refine to_yes ?_ | refine sso_nil ?_ | refine cmp_lt ?_ | refine cmp_le ?_ | refine cmp_gt ?_ | refine cmp_ge ?_ | refine cmp_eq ?_ | refine cmp_is rfl ?_ | refine cmp_isn rfl ?_ | refine cmp_in1 ?_ | refine cmp_nin1 ?_ | refine cmp_eqs (by assumption) (by assumption) ?_ | refine And.intro (show nsh _ = true from rfl) ?_ | refine Exists.intro _ (And.intro rfl ?_))
  refine ⟨_, hrr, ?_⟩
  repeat (first | refine sso_cons ?_ | refine so_ret ?_ | refine so_asg ?_ | refine so_asgC ?_ | refine so_ite ?_ | refine so_expr ?_ | refine so_par ?_ | refine so_setx ?_ | refine so_aug rfl ?_ | refine eso_nil ?_ | refine eso_mv rfl ?_ | refine eso_cons (fun _ _ => rfl) ?_ | refine eo_cst rfl ?_ | refine eo_cp rfl (by first | assumption | rfl) ?_ | refine eo_mv rfl ?_ | refine eo_glb rfl ?_ | refine eo_neg ?_ | refine eo_mod ?_ | refine eo_fdiv ?_ | refine eo_mul ?_ | refine eo_pow ?_ | refine eo_bin ?_ | refine eo_cmp ?_ | refine eo_chn ?_ | refine eo_and1 ?_ | refine eo_and ?_ | refine eo_or1 ?_ | refine eo_or ?_ | refine eo_not ?_ | refine eo_ife ?_ | refine eo_lst ?_ | refine eo_tup ?_ | refine eo_ix ?_ | refine eo_sl ?_ | refine eoo_no ?_ | refine eoo_yes ?_ | refine eo_rev ?_ | refine eo_isi ?_ | refine eo_repr ?_ | refine eo_sorted ?_ | refine eo_bi ?_ | refine eo_callN rfl ?_ | refine eo_call ?_ | refine eo_callK ?_ | refine eo_mt ?_ | refine eio_rng1 ?_ | refine eio_rng2 ?_ | refine eio_zip ?_ | refine eio_any ?_ | refine eo_pur ?_ | refine to_no ?_ | refine to_yes ?_ | refine sso_nil ?_ | refine cmp_lt ?_ | refine cmp_le ?_ | refine cmp_gt ?_ | refine cmp_ge ?_ | refine cmp_eq ?_ | refine cmp_is rfl ?_ | refine cmp_isn rfl ?_ | refine cmp_in1 ?_ | refine cmp_nin1 ?_ | refine cmp_eqs (by assumption) (by assumption) ?_ | refine And.intro (show nsh _ = true from rfl) ?_ | refine Exists.intro _ (And.intro rfl ?_))
  exact ⟨congrArg D.bl (beq_self_eq_true S), rfl⟩
end PLAW

set_option Elab.async false
set_option linter.all false
set_option maxRecDepth 100000
namespace PLAW
open PySem PySem.Spec PyProof.Rows L2 VK
/-! ### a generator that may be drawn from n / 4 times more -/
def Bud (n : Nat) (g : D) : Prop := ∃ m, m + n ≤ 2 ^ 80 ∧ Gen m g
theorem Gen.mono {m m' : Nat} {g : D} (h : Gen m g) (hm : m ≤ m') : Gen m' g := by
  obtain ⟨a, b, c, rfl, h1, h2, h3, h4, h5, h6⟩ := h
  exact ⟨a, b, c, rfl, h1, h2, h3, h4, h5, by omega⟩
theorem Bud.mono {n n' : Nat} {g : D} (h : Bud n g) (hn : n' ≤ n) : Bud n' g := by
  obtain ⟨m, h1, h2⟩ := h
  exact ⟨m, by omega, h2⟩
theorem Bud.own {n : Nat} {g : D} (h : Bud n g) : ∃ xs, g = .lst .own xs := by
  obtain ⟨m, _, a, b, c, rfl, _⟩ := h
  exact ⟨_, rfl⟩
theorem bud6 (d : Nat) (ns : List Int) (hb : ∀ z ∈ ns, Sm z) (k : Nat) (hk : k ≤ 1000) : ∃ r outs, cal (d + 2) 6 [scr ns, .int k] = some (r, outs) ∧ Bud (2 ^ 79) r ∧ outs = [] := by
  obtain ⟨r, outs, h1, h2, h3⟩ := cal6 d ns hb k hk
  exact ⟨r, outs, h1, ⟨_, by decide +kernel, h2⟩, h3⟩
theorem bud7 (d n : Nat) (g : D) (hg : Bud (n + 4) g) (b : Int) (hb : 0 < b ∧ b < 2 ^ 64) : ∃ r outs, cal (d + 2) 7 [g, .int b] = some (r, outs) ∧ (∃ h : Int, r = .int h ∧ 0 ≤ h ∧ h < b) ∧ ∃ g', outs = [(0, some g')] ∧ Bud n g' := by
  obtain ⟨m, h1, h2⟩ := hg
  obtain ⟨r, outs, h3, h4, g', h5, h6⟩ := cal7 d m g h2 (by omega) b hb
  exact ⟨r, outs, h3, h4, g', h5, _, by omega, h6⟩
theorem fz_fz (o : Ow) : o.fz.fz = o.fz := by cases o <;> rfl
theorem bud8 (d n : Nat) (g : D) (hg : Bud (n + 4) g) (o : Ow) (xs : List D) (hx : xs ≠ []) (hl : xs.length < 2 ^ 60) (hf : frzL xs = xs) :
    ∃ r outs, cal (d + 3) 8 [g, .lst o xs] = some (r, outs) ∧ r ∈ xs ∧ ∃ g', outs = [(0, some g')] ∧ Bud n g' := by
  refine cal_of (f := d8) rfl rfl ?_
  have h1 : frz (.lst o xs) = .lst o.fz xs := by rw [frz, hf]
  have h2 : frz (.lst o.fz xs) = .lst o.fz xs := by rw [frz, hf, fz_fz]
  have hp : 0 < xs.length := List.length_pos_iff.mpr hx
  refine sso_cons ?_
  refine so_ret ?_
  refine eo_ix ?_
  refine eo_cpF rfl ?_
  rw [h1]
  repeat (first | refine sso_cons ?_ | refine so_ret ?_ | refine so_asg ?_ | refine so_asgC ?_ | refine so_ite ?_ | refine so_expr ?_ | refine so_par ?_ | refine so_setx ?_ | refine so_aug rfl ?_ | refine eso_nil ?_ | refine eso_mv rfl ?_ | refine eso_cons (fun _ _ => rfl) ?_ | refine eo_cst rfl ?_ | refine eo_cp rfl (by first | assumption | rfl) ?_ | refine eo_mv rfl ?_ | refine eo_glb rfl ?_ | refine eo_neg ?_ | refine eo_mod ?_ | refine eo_fdiv ?_ | refine eo_mul ?_ | refine eo_pow ?_ | refine eo_bin ?_ | refine eo_cmp ?_ | refine eo_chn ?_ | refine eo_and1 ?_ | refine eo_and ?_ | refine eo_or1 ?_ | refine eo_or ?_ | refine eo_not ?_ | refine eo_ife ?_ | refine eo_lst ?_ | refine eo_tup ?_ | refine eo_ix ?_ | refine eo_sl ?_ | refine eoo_no ?_ | refine eoo_yes ?_ | refine eo_rev ?_ | refine eo_isi ?_ | refine eo_repr ?_ | refine eo_sorted ?_ | refine eo_bi ?_ | refine eo_callN rfl ?_ | refine eo_call ?_ | refine eo_callK ?_ | refine eo_mt ?_ | refine eio_rng1 ?_ | refine eio_rng2 ?_ | refine eio_zip ?_ | refine eio_any ?_ | refine eo_pur ?_ | refine to_no ?_ | refine to_yes ?_ | refine sso_nil ?_ | refine cmp_lt ?_ | refine cmp_le ?_ | refine cmp_gt ?_ | refine cmp_ge ?_ | refine cmp_eq ?_ | refine cmp_is rfl ?_ | refine cmp_isn rfl ?_ | refine cmp_in1 ?_ | refine cmp_nin1 ?_ | refine cmp_eqs (by assumption) (by assumption) ?_ | refine And.intro (show nsh _ = true from rfl) ?_ | refine Exists.intro _ (And.intro rfl ?_))
  refine coG (bud7 d n g hg xs.length ⟨by omega, by omega⟩) ?_
  rintro r g' ⟨h, rfl, q1, q2⟩ hg'
  obtain ⟨j, rfl⟩ := Int.eq_ofNat_of_zero_le q1
  have hj : j < xs.length := by omega
  refine ⟨_, ix_nat (List.getElem?_eq_getElem hj), ?_⟩
  exact ⟨List.getElem_mem hj, g', rfl, hg'⟩
/-- a sign of a text is drawn -/
theorem bud8s (d n : Nat) (g : D) (hg : Bud (n + 4) g) (z : Str) (hz : z.length ≠ 0) (hl : z.length ≤ 1000) :
    ∃ r outs, cal (d + 3) 8 [g, .str z] = some (r, outs) ∧ (∃ c ∈ z.cps.toList, r = .str ⟨#[c]⟩) ∧ ∃ g', outs = [(0, some g')] ∧ Bud n g' := by
  refine cal_of (f := d8) rfl rfl ?_
  repeat (first | refine sso_cons ?_ | refine so_ret ?_ | refine so_asg ?_ | refine so_asgC ?_ | refine so_ite ?_ | refine so_expr ?_ | refine so_par ?_ | refine so_setx ?_ | refine so_aug rfl ?_ | refine eso_nil ?_ | refine eso_mv rfl ?_ | refine eso_cons (fun _ _ => rfl) ?_ | refine eo_cst rfl ?_ | refine eo_cp rfl (by first | assumption | rfl) ?_ | refine eo_mv rfl ?_ | refine eo_glb rfl ?_ | refine eo_neg ?_ | refine eo_mod ?_ | refine eo_fdiv ?_ | refine eo_mul ?_ | refine eo_pow ?_ | refine eo_bin ?_ | refine eo_cmp ?_ | refine eo_chn ?_ | refine eo_and1 ?_ | refine eo_and ?_ | refine eo_or1 ?_ | refine eo_or ?_ | refine eo_not ?_ | refine eo_ife ?_ | refine eo_lst ?_ | refine eo_tup ?_ | refine eo_ix ?_ | refine eo_sl ?_ | refine eoo_no ?_ | refine eoo_yes ?_ | refine eo_rev ?_ | refine eo_isi ?_ | refine eo_repr ?_ | refine eo_sorted ?_ | refine eo_bi ?_ | refine eo_callN rfl ?_ | refine eo_call ?_ | refine eo_callK ?_ | refine eo_mt ?_ | refine eio_rng1 ?_ | refine eio_rng2 ?_ | refine eio_zip ?_ | refine eio_any ?_ | refine eo_pur ?_ | refine to_no ?_ | refine to_yes ?_ | refine sso_nil ?_ | refine cmp_lt ?_ | refine cmp_le ?_ | refine cmp_gt ?_ | refine cmp_ge ?_ | refine cmp_eq ?_ | refine cmp_is rfl ?_ | refine cmp_isn rfl ?_ | refine cmp_in1 ?_ | refine cmp_nin1 ?_ | refine cmp_eqs (by assumption) (by assumption) ?_ | refine And.intro (show nsh _ = true from rfl) ?_ | refine Exists.intro _ (And.intro rfl ?_))
  refine ⟨_, len_str (line_ge (by omega)), ?_⟩
  repeat (first | refine sso_cons ?_ | refine so_ret ?_ | refine so_asg ?_ | refine so_asgC ?_ | refine so_ite ?_ | refine so_expr ?_ | refine so_par ?_ | refine so_setx ?_ | refine so_aug rfl ?_ | refine eso_nil ?_ | refine eso_mv rfl ?_ | refine eso_cons (fun _ _ => rfl) ?_ | refine eo_cst rfl ?_ | refine eo_cp rfl (by first | assumption | rfl) ?_ | refine eo_mv rfl ?_ | refine eo_glb rfl ?_ | refine eo_neg ?_ | refine eo_mod ?_ | refine eo_fdiv ?_ | refine eo_mul ?_ | refine eo_pow ?_ | refine eo_bin ?_ | refine eo_cmp ?_ | refine eo_chn ?_ | refine eo_and1 ?_ | refine eo_and ?_ | refine eo_or1 ?_ | refine eo_or ?_ | refine eo_not ?_ | refine eo_ife ?_ | refine eo_lst ?_ | refine eo_tup ?_ | refine eo_ix ?_ | refine eo_sl ?_ | refine eoo_no ?_ | refine eoo_yes ?_ | refine eo_rev ?_ | refine eo_isi ?_ | refine eo_repr ?_ | refine eo_sorted ?_ | refine eo_bi ?_ | refine eo_callN rfl ?_ | refine eo_call ?_ | refine eo_callK ?_ | refine eo_mt ?_ | refine eio_rng1 ?_ | refine eio_rng2 ?_ | refine eio_zip ?_ | refine eio_any ?_ | refine eo_pur ?_ | refine to_no ?_ | refine to_yes ?_ | refine sso_nil ?_ | refine cmp_lt ?_ | refine cmp_le ?_ | refine cmp_gt ?_ | refine cmp_ge ?_ | refine cmp_eq ?_ | refine cmp_is rfl ?_ | refine cmp_isn rfl ?_ | refine cmp_in1 ?_ | refine cmp_nin1 ?_ | refine cmp_eqs (by assumption) (by assumption) ?_ | refine And.intro (show nsh _ = true from rfl) ?_ | refine Exists.intro _ (And.intro rfl ?_))
  refine coG (bud7 d n g hg z.length ⟨by omega, by omega⟩) ?_
  rintro r g' ⟨h, rfl, q1, q2⟩ hg'
  obtain ⟨j, rfl⟩ := Int.eq_ofNat_of_zero_le q1
  have hj : j < z.cps.toList.length := by rw [← len_cps]; omega
  refine ⟨.str ⟨#[z.cps.toList[j]]⟩, ?_, ⟨_, List.getElem_mem hj, rfl⟩, _, rfl, hg'⟩
  have e : L2.atI z.cps.toList (j : Int) = some z.cps.toList[j] := L2.atI_nat (List.getElem?_eq_getElem hj)
  unfold opIx
  dsimp only
  rw [if_pos (line_ge (by omega)), e]
  rfl
theorem cal15 (d n : Nat) (g : D) (hg : Bud (n + 4 * 25) g) : ∃ r outs, cal (d + 4) 15 [g] = some (r, outs) ∧ (∃ z : Str, r = .str z ∧ PyData.strOk z = true ∧ z.length ≤ 24) ∧ ∃ g', outs = [(0, some g')] ∧ Bud n g' := by
  refine cal_of (f := d15) rfl rfl ?_
  repeat (first | refine sso_cons ?_ | refine so_ret ?_ | refine so_asg ?_ | refine so_asgC ?_ | refine so_ite ?_ | refine so_expr ?_ | refine so_par ?_ | refine so_setx ?_ | refine so_aug rfl ?_ | refine eso_nil ?_ | refine eso_mv rfl ?_ | refine eso_cons (fun _ _ => rfl) ?_ | refine eo_cst rfl ?_ | refine eo_cp rfl (by first | assumption | rfl) ?_ | refine eo_mv rfl ?_ | refine eo_glb rfl ?_ | refine eo_neg ?_ | refine eo_mod ?_ | refine eo_fdiv ?_ | refine eo_mul ?_ | refine eo_pow ?_ | refine eo_bin ?_ | refine eo_cmp ?_ | refine eo_chn ?_ | refine eo_and1 ?_ | refine eo_and ?_ | refine eo_or1 ?_ | refine eo_or ?_ | refine eo_not ?_ | refine eo_ife ?_ | refine eo_lst ?_ | refine eo_tup ?_ | refine eo_ix ?_ | refine eo_sl ?_ | refine eoo_no ?_ | refine eoo_yes ?_ | refine eo_rev ?_ | refine eo_isi ?_ | refine eo_repr ?_ | refine eo_sorted ?_ | refine eo_bi ?_ | refine eo_callN rfl ?_ | refine eo_call ?_ | refine eo_callK ?_ | refine eo_mt ?_ | refine eio_rng1 ?_ | refine eio_rng2 ?_ | refine eio_zip ?_ | refine eio_any ?_ | refine eo_pur ?_ | refine to_no ?_ | refine to_yes ?_ | refine sso_nil ?_ | refine cmp_lt ?_ | refine cmp_le ?_ | refine cmp_gt ?_ | refine cmp_ge ?_ | refine cmp_eq ?_ | refine cmp_is rfl ?_ | refine cmp_isn rfl ?_ | refine cmp_in1 ?_ | refine cmp_nin1 ?_ | refine cmp_eqs (by assumption) (by assumption) ?_ | refine And.intro (show nsh _ = true from rfl) ?_ | refine Exists.intro _ (And.intro rfl ?_))
  refine ⟨line_ge (show 5 ≤ 16777216 by decide), ?_⟩
  repeat (first | refine sso_cons ?_ | refine so_ret ?_ | refine so_asg ?_ | refine so_asgC ?_ | refine so_ite ?_ | refine so_expr ?_ | refine so_par ?_ | refine so_setx ?_ | refine so_aug rfl ?_ | refine eso_nil ?_ | refine eso_mv rfl ?_ | refine eso_cons (fun _ _ => rfl) ?_ | refine eo_cst rfl ?_ | refine eo_cp rfl (by first | assumption | rfl) ?_ | refine eo_mv rfl ?_ | refine eo_glb rfl ?_ | refine eo_neg ?_ | refine eo_mod ?_ | refine eo_fdiv ?_ | refine eo_mul ?_ | refine eo_pow ?_ | refine eo_bin ?_ | refine eo_cmp ?_ | refine eo_chn ?_ | refine eo_and1 ?_ | refine eo_and ?_ | refine eo_or1 ?_ | refine eo_or ?_ | refine eo_not ?_ | refine eo_ife ?_ | refine eo_lst ?_ | refine eo_tup ?_ | refine eo_ix ?_ | refine eo_sl ?_ | refine eoo_no ?_ | refine eoo_yes ?_ | refine eo_rev ?_ | refine eo_isi ?_ | refine eo_repr ?_ | refine eo_sorted ?_ | refine eo_bi ?_ | refine eo_callN rfl ?_ | refine eo_call ?_ | refine eo_callK ?_ | refine eo_mt ?_ | refine eio_rng1 ?_ | refine eio_rng2 ?_ | refine eio_zip ?_ | refine eio_any ?_ | refine eo_pur ?_ | refine to_no ?_ | refine to_yes ?_ | refine sso_nil ?_ | refine cmp_lt ?_ | refine cmp_le ?_ | refine cmp_gt ?_ | refine cmp_ge ?_ | refine cmp_eq ?_ | refine cmp_is rfl ?_ | refine cmp_isn rfl ?_ | refine cmp_in1 ?_ | refine cmp_nin1 ?_ | refine cmp_eqs (by assumption) (by assumption) ?_ | refine And.intro (show nsh _ = true from rfl) ?_ | refine Exists.intro _ (And.intro rfl ?_))
  refine coG (bud8 d (n + 4 * 24) g (hg.mono (by omega)) .own _ (by simp) (show 5 < 2 ^ 60 by decide) rfl) ?_
  intro r g1 hr hg1
  obtain ⟨z, rfl, hz0, hz1, hz2⟩ : ∃ z : Str, r = .str z ∧ z.length ≠ 0 ∧ z.length ≤ 1000 ∧ PyData.strOk z = true := by
    have : r = .str "ab" ∨ r = .str "abcdefghijklmnopqrstuvwxyz" ∨ r = .str "a0123456789" ∨ r = .str "aZ_ -~" ∨ r = .str "a0\n\t" := by simpa using hr
    rcases this with rfl | rfl | rfl | rfl | rfl <;> exact ⟨_, rfl, by decide +kernel, by decide +kernel, by decide +kernel⟩
  repeat (first | refine sso_cons ?_ | refine so_ret ?_ | refine so_asg ?_ | refine so_asgC ?_ | refine so_ite ?_ | refine so_expr ?_ | refine so_par ?_ | refine so_setx ?_ | refine so_aug rfl ?_ | refine eso_nil ?_ | refine eso_mv rfl ?_ | refine eso_cons (fun _ _ => rfl) ?_ | refine eo_cst rfl ?_ | refine eo_cp rfl (by first | assumption | rfl) ?_ | refine eo_mv rfl ?_ | refine eo_glb rfl ?_ | refine eo_neg ?_ | refine eo_mod ?_ | refine eo_fdiv ?_ | refine eo_mul ?_ | refine eo_pow ?_ | refine eo_bin ?_ | refine eo_cmp ?_ | refine eo_chn ?_ | refine eo_and1 ?_ | refine eo_and ?_ | refine eo_or1 ?_ | refine eo_or ?_ | refine eo_not ?_ | refine eo_ife ?_ | refine eo_lst ?_ | refine eo_tup ?_ | refine eo_ix ?_ | refine eo_sl ?_ | refine eoo_no ?_ | refine eoo_yes ?_ | refine eo_rev ?_ | refine eo_isi ?_ | refine eo_repr ?_ | refine eo_sorted ?_ | refine eo_bi ?_ | refine eo_callN rfl ?_ | refine eo_call ?_ | refine eo_callK ?_ | refine eo_mt ?_ | refine eio_rng1 ?_ | refine eio_rng2 ?_ | refine eio_zip ?_ | refine eio_any ?_ | refine eo_pur ?_ | refine to_no ?_ | refine to_yes ?_ | refine sso_nil ?_ | refine cmp_lt ?_ | refine cmp_le ?_ | refine cmp_gt ?_ | refine cmp_ge ?_ | refine cmp_eq ?_ | refine cmp_is rfl ?_ | refine cmp_isn rfl ?_ | refine cmp_in1 ?_ | refine cmp_nin1 ?_ | refine cmp_eqs (by assumption) (by assumption) ?_ | refine And.intro (show nsh _ = true from rfl) ?_ | refine Exists.intro _ (And.intro rfl ?_))
  refine eo_lcI ?_
  repeat (first | refine sso_cons ?_ | refine so_ret ?_ | refine so_asg ?_ | refine so_asgC ?_ | refine so_ite ?_ | refine so_expr ?_ | refine so_par ?_ | refine so_setx ?_ | refine so_aug rfl ?_ | refine eso_nil ?_ | refine eso_mv rfl ?_ | refine eso_cons (fun _ _ => rfl) ?_ | refine eo_cst rfl ?_ | refine eo_cp rfl (by first | assumption | rfl) ?_ | refine eo_mv rfl ?_ | refine eo_glb rfl ?_ | refine eo_neg ?_ | refine eo_mod ?_ | refine eo_fdiv ?_ | refine eo_mul ?_ | refine eo_pow ?_ | refine eo_bin ?_ | refine eo_cmp ?_ | refine eo_chn ?_ | refine eo_and1 ?_ | refine eo_and ?_ | refine eo_or1 ?_ | refine eo_or ?_ | refine eo_not ?_ | refine eo_ife ?_ | refine eo_lst ?_ | refine eo_tup ?_ | refine eo_ix ?_ | refine eo_sl ?_ | refine eoo_no ?_ | refine eoo_yes ?_ | refine eo_rev ?_ | refine eo_isi ?_ | refine eo_repr ?_ | refine eo_sorted ?_ | refine eo_bi ?_ | refine eo_callN rfl ?_ | refine eo_call ?_ | refine eo_callK ?_ | refine eo_mt ?_ | refine eio_rng1 ?_ | refine eio_rng2 ?_ | refine eio_zip ?_ | refine eio_any ?_ | refine eo_pur ?_ | refine to_no ?_ | refine to_yes ?_ | refine sso_nil ?_ | refine cmp_lt ?_ | refine cmp_le ?_ | refine cmp_gt ?_ | refine cmp_ge ?_ | refine cmp_eq ?_ | refine cmp_is rfl ?_ | refine cmp_isn rfl ?_ | refine cmp_in1 ?_ | refine cmp_nin1 ?_ | refine cmp_eqs (by assumption) (by assumption) ?_ | refine And.intro (show nsh _ = true from rfl) ?_ | refine Exists.intro _ (And.intro rfl ?_))
  refine coG (bud7 (d + 1) (n + 4 * 23) g1 (hg1.mono (by omega)) 24 ⟨by decide, by decide⟩) ?_
  rintro r g2 ⟨k, rfl, q1, q2⟩ hg2
  repeat (first | refine sso_cons ?_ | refine so_ret ?_ | refine so_asg ?_ | refine so_asgC ?_ | refine so_ite ?_ | refine so_expr ?_ | refine so_par ?_ | refine so_setx ?_ | refine so_aug rfl ?_ | refine eso_nil ?_ | refine eso_mv rfl ?_ | refine eso_cons (fun _ _ => rfl) ?_ | refine eo_cst rfl ?_ | refine eo_cp rfl (by first | assumption | rfl) ?_ | refine eo_mv rfl ?_ | refine eo_glb rfl ?_ | refine eo_neg ?_ | refine eo_mod ?_ | refine eo_fdiv ?_ | refine eo_mul ?_ | refine eo_pow ?_ | refine eo_bin ?_ | refine eo_cmp ?_ | refine eo_chn ?_ | refine eo_and1 ?_ | refine eo_and ?_ | refine eo_or1 ?_ | refine eo_or ?_ | refine eo_not ?_ | refine eo_ife ?_ | refine eo_lst ?_ | refine eo_tup ?_ | refine eo_ix ?_ | refine eo_sl ?_ | refine eoo_no ?_ | refine eoo_yes ?_ | refine eo_rev ?_ | refine eo_isi ?_ | refine eo_repr ?_ | refine eo_sorted ?_ | refine eo_bi ?_ | refine eo_callN rfl ?_ | refine eo_call ?_ | refine eo_callK ?_ | refine eo_mt ?_ | refine eio_rng1 ?_ | refine eio_rng2 ?_ | refine eio_zip ?_ | refine eio_any ?_ | refine eo_pur ?_ | refine to_no ?_ | refine to_yes ?_ | refine sso_nil ?_ | refine cmp_lt ?_ | refine cmp_le ?_ | refine cmp_gt ?_ | refine cmp_ge ?_ | refine cmp_eq ?_ | refine cmp_is rfl ?_ | refine cmp_isn rfl ?_ | refine cmp_in1 ?_ | refine cmp_nin1 ?_ | refine cmp_eqs (by assumption) (by assumption) ?_ | refine And.intro (show nsh _ = true from rfl) ?_ | refine Exists.intro _ (And.intro rfl ?_))
  refine ⟨by omega, by omega, fun (ds : List D) (ρ : Rho) (acc : List D) => ∃ (g : D) (ws : List Str), ρ = [some g, some (.str z), none] ∧ Bud (n + 4 * ds.length) g ∧ acc = ws.map .str ∧ ws.length + ds.length ≤ 23 ∧ ∀ w ∈ ws, PyData.strOk w = true ∧ w.length ≤ 1, ?_, ?_, ?_⟩
  · have e : ((List.range k.toNat).map fun (k : Nat) => D.int (k : Int)).length = k.toNat := by rw [List.length_map, List.length_range]
    exact ⟨g2, [], rfl, hg2.mono (by rw [e]; omega), rfl, by rw [e, List.length_nil]; omega, fun w hw => (List.not_mem_nil hw).elim⟩
  · rintro x ds ρ acc ⟨g, ws, rfl, hg, rfl, hl, hw⟩
    rw [List.length_cons] at hg hl
    refine ⟨by rw [List.length_map]; exact Nat.lt_of_lt_of_le (show ws.length < 24 by omega) (line_ge (by decide)), _, rfl, ?_⟩
    repeat (first | refine sso_cons ?_ | refine so_ret ?_ | refine so_asg ?_ | refine so_asgC ?_ | refine so_ite ?_ | refine so_expr ?_ | refine so_par ?_ | refine so_setx ?_ | refine so_aug rfl ?_ | refine eso_nil ?_ | refine eso_mv rfl ?_ | refine eso_cons (fun _ _ => rfl) ?_ | refine eo_cst rfl ?_ | refine eo_cp rfl (by first | assumption | rfl) ?_ | refine eo_mv rfl ?_ | refine eo_glb rfl ?_ | refine eo_neg ?_ | refine eo_mod ?_ | refine eo_fdiv ?_ | refine eo_mul ?_ | refine eo_pow ?_ | refine eo_bin ?_ | refine eo_cmp ?_ | refine eo_chn ?_ | refine eo_and1 ?_ | refine eo_and ?_ | refine eo_or1 ?_ | refine eo_or ?_ | refine eo_not ?_ | refine eo_ife ?_ | refine eo_lst ?_ | refine eo_tup ?_ | refine eo_ix ?_ | refine eo_sl ?_ | refine eoo_no ?_ | refine eoo_yes ?_ | refine eo_rev ?_ | refine eo_isi ?_ | refine eo_repr ?_ | refine eo_sorted ?_ | refine eo_bi ?_ | refine eo_callN rfl ?_ | refine eo_call ?_ | refine eo_callK ?_ | refine eo_mt ?_ | refine eio_rng1 ?_ | refine eio_rng2 ?_ | refine eio_zip ?_ | refine eio_any ?_ | refine eo_pur ?_ | refine to_no ?_ | refine to_yes ?_ | refine sso_nil ?_ | refine cmp_lt ?_ | refine cmp_le ?_ | refine cmp_gt ?_ | refine cmp_ge ?_ | refine cmp_eq ?_ | refine cmp_is rfl ?_ | refine cmp_isn rfl ?_ | refine cmp_in1 ?_ | refine cmp_nin1 ?_ | refine cmp_eqs (by assumption) (by assumption) ?_ | refine And.intro (show nsh _ = true from rfl) ?_ | refine Exists.intro _ (And.intro rfl ?_))
    refine coG (bud8s d (n + 4 * ds.length) g (hg.mono (by omega)) z hz0 hz1) ?_
    rintro r g' ⟨c, hc, rfl⟩ hg'
    refine ⟨g', ws ++ [⟨#[c]⟩], rfl, hg', by rw [List.map_append]; rfl, by rw [List.length_append, List.length_singleton]; omega, fun w hw' => ?_⟩
    rcases List.mem_append.mp hw' with h | h
    · exact hw w h
    · rw [List.mem_singleton.mp h]
      exact ⟨strOk_one hz2 hc, Nat.le_refl 1⟩
  · rintro ys ρ ⟨g, ws, rfl, hg, rfl, hl, hw⟩
    repeat (first | refine sso_cons ?_ | refine so_ret ?_ | refine so_asg ?_ | refine so_asgC ?_ | refine so_ite ?_ | refine so_expr ?_ | refine so_par ?_ | refine so_setx ?_ | refine so_aug rfl ?_ | refine eso_nil ?_ | refine eso_mv rfl ?_ | refine eso_cons (fun _ _ => rfl) ?_ | refine eo_cst rfl ?_ | refine eo_cp rfl (by first | assumption | rfl) ?_ | refine eo_mv rfl ?_ | refine eo_glb rfl ?_ | refine eo_neg ?_ | refine eo_mod ?_ | refine eo_fdiv ?_ | refine eo_mul ?_ | refine eo_pow ?_ | refine eo_bin ?_ | refine eo_cmp ?_ | refine eo_chn ?_ | refine eo_and1 ?_ | refine eo_and ?_ | refine eo_or1 ?_ | refine eo_or ?_ | refine eo_not ?_ | refine eo_ife ?_ | refine eo_lst ?_ | refine eo_tup ?_ | refine eo_ix ?_ | refine eo_sl ?_ | refine eoo_no ?_ | refine eoo_yes ?_ | refine eo_rev ?_ | refine eo_isi ?_ | refine eo_repr ?_ | refine eo_sorted ?_ | refine eo_bi ?_ | refine eo_callN rfl ?_ | refine eo_call ?_ | refine eo_callK ?_ | refine eo_mt ?_ | refine eio_rng1 ?_ | refine eio_rng2 ?_ | refine eio_zip ?_ | refine eio_any ?_ | refine eo_pur ?_ | refine to_no ?_ | refine to_yes ?_ | refine sso_nil ?_ | refine cmp_lt ?_ | refine cmp_le ?_ | refine cmp_gt ?_ | refine cmp_ge ?_ | refine cmp_eq ?_ | refine cmp_is rfl ?_ | refine cmp_isn rfl ?_ | refine cmp_in1 ?_ | refine cmp_nin1 ?_ | refine cmp_eqs (by assumption) (by assumption) ?_ | refine And.intro (show nsh _ = true from rfl) ?_ | refine Exists.intro _ (And.intro rfl ?_))
    rw [List.length_nil] at hg hl
    refine ⟨_, join_strs (k := 1) (fun w h => (hw w h).2) (show ws.length * 1 + ws.length * 0 ≤ _ by omega), ?_⟩
    refine ⟨⟨_, rfl, ok_join (by decide +kernel) fun t ht => (hw t ht).1, ?_⟩, g, rfl, hg⟩
    have := join_len (a := Str.ofString "") (k := 1) fun w h => (hw w h).2
    have e : (Str.ofString "").length = 0 := by decide +kernel
    rw [e] at this
    omega
theorem powO_lit {i j v : Int} {Q : D → Prop} (hv : i ^ j.toNat = v) (h : 0 ≤ j ∧ (Builtin.Int.intBits i : Int) * j ≤ 134217728) (q : Q (.int v)) : PowO (.int i) (.int j) Q := powO_ok h (by rw [hv]; exact q)
theorem frzI (l : List Int) : frzL (l.map .int) = l.map .int := frzL_ints l
theorem cal16 (d n : Nat) (g : D) (hg : Bud (n + 200) g) : ∃ r outs, cal (d + 4) 16 [g] = some (r, outs) ∧ (∃ ns : List Int, r = .lst .own (ns.map .int) ∧ ns.length ≤ 5 ∧ ∀ i ∈ ns, i.natAbs < 10 ^ 13) ∧ ∃ g', outs = [(0, some g')] ∧ Bud n g' := by
  refine cal_of (f := d16) rfl rfl ?_
  repeat (first | refine sso_cons ?_ | refine so_ret ?_ | refine so_asg ?_ | refine so_asgC ?_ | refine so_ite ?_ | refine so_expr ?_ | refine so_par ?_ | refine so_setx ?_ | refine so_aug rfl ?_ | refine eso_nil ?_ | refine eso_mv rfl ?_ | refine eso_cons (fun _ _ => rfl) ?_ | refine eo_cst rfl ?_ | refine eo_cp rfl (by first | assumption | rfl) ?_ | refine eo_mv rfl ?_ | refine eo_glb rfl ?_ | refine eo_neg ?_ | refine eo_mod ?_ | refine eo_fdiv ?_ | refine eo_mul ?_ | refine eo_pow ?_ | refine eo_bin ?_ | refine eo_cmp ?_ | refine eo_chn ?_ | refine eo_and1 ?_ | refine eo_and ?_ | refine eo_or1 ?_ | refine eo_or ?_ | refine eo_not ?_ | refine eo_ife ?_ | refine eo_lst ?_ | refine eo_tup ?_ | refine eo_ix ?_ | refine eo_sl ?_ | refine eoo_no ?_ | refine eoo_yes ?_ | refine eo_rev ?_ | refine eo_isi ?_ | refine eo_repr ?_ | refine eo_sorted ?_ | refine eo_bi ?_ | refine eo_callN rfl ?_ | refine eo_call ?_ | refine eo_callK ?_ | refine eo_mt ?_ | refine eio_rng1 ?_ | refine eio_rng2 ?_ | refine eio_zip ?_ | refine eio_any ?_ | refine eo_pur ?_ | refine to_no ?_ | refine to_yes ?_ | refine sso_nil ?_ | refine cmp_lt ?_ | refine cmp_le ?_ | refine cmp_gt ?_ | refine cmp_ge ?_ | refine cmp_eq ?_ | refine cmp_is rfl ?_ | refine cmp_isn rfl ?_ | refine cmp_in1 ?_ | refine cmp_nin1 ?_ | refine cmp_eqs (by assumption) (by assumption) ?_ | refine And.intro (show nsh _ = true from rfl) ?_ | refine Exists.intro _ (And.intro rfl ?_))
  refine eo_lcI ?_
  repeat (first | refine sso_cons ?_ | refine so_ret ?_ | refine so_asg ?_ | refine so_asgC ?_ | refine so_ite ?_ | refine so_expr ?_ | refine so_par ?_ | refine so_setx ?_ | refine so_aug rfl ?_ | refine eso_nil ?_ | refine eso_mv rfl ?_ | refine eso_cons (fun _ _ => rfl) ?_ | refine eo_cst rfl ?_ | refine eo_cp rfl (by first | assumption | rfl) ?_ | refine eo_mv rfl ?_ | refine eo_glb rfl ?_ | refine eo_neg ?_ | refine eo_mod ?_ | refine eo_fdiv ?_ | refine eo_mul ?_ | refine eo_pow ?_ | refine eo_bin ?_ | refine eo_cmp ?_ | refine eo_chn ?_ | refine eo_and1 ?_ | refine eo_and ?_ | refine eo_or1 ?_ | refine eo_or ?_ | refine eo_not ?_ | refine eo_ife ?_ | refine eo_lst ?_ | refine eo_tup ?_ | refine eo_ix ?_ | refine eo_sl ?_ | refine eoo_no ?_ | refine eoo_yes ?_ | refine eo_rev ?_ | refine eo_isi ?_ | refine eo_repr ?_ | refine eo_sorted ?_ | refine eo_bi ?_ | refine eo_callN rfl ?_ | refine eo_call ?_ | refine eo_callK ?_ | refine eo_mt ?_ | refine eio_rng1 ?_ | refine eio_rng2 ?_ | refine eio_zip ?_ | refine eio_any ?_ | refine eo_pur ?_ | refine to_no ?_ | refine to_yes ?_ | refine sso_nil ?_ | refine cmp_lt ?_ | refine cmp_le ?_ | refine cmp_gt ?_ | refine cmp_ge ?_ | refine cmp_eq ?_ | refine cmp_is rfl ?_ | refine cmp_isn rfl ?_ | refine cmp_in1 ?_ | refine cmp_nin1 ?_ | refine cmp_eqs (by assumption) (by assumption) ?_ | refine And.intro (show nsh _ = true from rfl) ?_ | refine Exists.intro _ (And.intro rfl ?_))
  refine coG (bud7 (d + 1) (n + 100) g (hg.mono (by omega)) 6 ⟨by decide, by decide⟩) ?_
  rintro r g2 ⟨k, rfl, q1, q2⟩ hg2
  repeat (first | refine sso_cons ?_ | refine so_ret ?_ | refine so_asg ?_ | refine so_asgC ?_ | refine so_ite ?_ | refine so_expr ?_ | refine so_par ?_ | refine so_setx ?_ | refine so_aug rfl ?_ | refine eso_nil ?_ | refine eso_mv rfl ?_ | refine eso_cons (fun _ _ => rfl) ?_ | refine eo_cst rfl ?_ | refine eo_cp rfl (by first | assumption | rfl) ?_ | refine eo_mv rfl ?_ | refine eo_glb rfl ?_ | refine eo_neg ?_ | refine eo_mod ?_ | refine eo_fdiv ?_ | refine eo_mul ?_ | refine eo_pow ?_ | refine eo_bin ?_ | refine eo_cmp ?_ | refine eo_chn ?_ | refine eo_and1 ?_ | refine eo_and ?_ | refine eo_or1 ?_ | refine eo_or ?_ | refine eo_not ?_ | refine eo_ife ?_ | refine eo_lst ?_ | refine eo_tup ?_ | refine eo_ix ?_ | refine eo_sl ?_ | refine eoo_no ?_ | refine eoo_yes ?_ | refine eo_rev ?_ | refine eo_isi ?_ | refine eo_repr ?_ | refine eo_sorted ?_ | refine eo_bi ?_ | refine eo_callN rfl ?_ | refine eo_call ?_ | refine eo_callK ?_ | refine eo_mt ?_ | refine eio_rng1 ?_ | refine eio_rng2 ?_ | refine eio_zip ?_ | refine eio_any ?_ | refine eo_pur ?_ | refine to_no ?_ | refine to_yes ?_ | refine sso_nil ?_ | refine cmp_lt ?_ | refine cmp_le ?_ | refine cmp_gt ?_ | refine cmp_ge ?_ | refine cmp_eq ?_ | refine cmp_is rfl ?_ | refine cmp_isn rfl ?_ | refine cmp_in1 ?_ | refine cmp_nin1 ?_ | refine cmp_eqs (by assumption) (by assumption) ?_ | refine And.intro (show nsh _ = true from rfl) ?_ | refine Exists.intro _ (And.intro rfl ?_))
  have e : ((List.range k.toNat).map fun (k : Nat) => D.int (k : Int)).length = k.toNat := by rw [List.length_map, List.length_range]
  refine ⟨by omega, by omega, fun (ds : List D) (ρ : Rho) (acc : List D) => ∃ (g : D) (ns : List Int), ρ = [some g, none] ∧ Bud (n + 12 * ds.length) g ∧ acc = ns.map .int ∧ ns.length + ds.length ≤ 5 ∧ ∀ i ∈ ns, i.natAbs < 10 ^ 13, ?_, ?_, ?_⟩
  · exact ⟨g2, [], rfl, hg2.mono (by rw [e]; omega), rfl, by rw [e, List.length_nil]; omega, fun w hw => (List.not_mem_nil hw).elim⟩
  · rintro x ds ρ acc ⟨g, ns, rfl, hg, rfl, hl, hw⟩
    rw [List.length_cons] at hg hl
    refine ⟨by rw [List.length_map]; exact Nat.lt_of_lt_of_le (show ns.length < 24 by omega) (line_ge (by decide)), _, rfl, ?_⟩
    repeat (first | refine sso_cons ?_ | refine so_ret ?_ | refine so_asg ?_ | refine so_asgC ?_ | refine so_ite ?_ | refine so_expr ?_ | refine so_par ?_ | refine so_setx ?_ | refine so_aug rfl ?_ | refine eso_nil ?_ | refine eso_mv rfl ?_ | refine eso_cons (fun _ _ => rfl) ?_ | refine eo_cst rfl ?_ | refine eo_cp rfl (by first | assumption | rfl) ?_ | refine eo_mv rfl ?_ | refine eo_glb rfl ?_ | refine eo_neg ?_ | refine eo_mod ?_ | refine eo_fdiv ?_ | refine eo_mul ?_ | refine eo_pow ?_ | refine eo_bin ?_ | refine eo_cmp ?_ | refine eo_chn ?_ | refine eo_and1 ?_ | refine eo_and ?_ | refine eo_or1 ?_ | refine eo_or ?_ | refine eo_not ?_ | refine eo_ife ?_ | refine eo_lst ?_ | refine eo_tup ?_ | refine eo_ix ?_ | refine eo_sl ?_ | refine eoo_no ?_ | refine eoo_yes ?_ | refine eo_rev ?_ | refine eo_isi ?_ | refine eo_repr ?_ | refine eo_sorted ?_ | refine eo_bi ?_ | refine eo_callN rfl ?_ | refine eo_call ?_ | refine eo_callK ?_ | refine eo_mt ?_ | refine eio_rng1 ?_ | refine eio_rng2 ?_ | refine eio_zip ?_ | refine eio_any ?_ | refine eo_pur ?_ | refine to_no ?_ | refine to_yes ?_ | refine sso_nil ?_ | refine cmp_lt ?_ | refine cmp_le ?_ | refine cmp_gt ?_ | refine cmp_ge ?_ | refine cmp_eq ?_ | refine cmp_is rfl ?_ | refine cmp_isn rfl ?_ | refine cmp_in1 ?_ | refine cmp_nin1 ?_ | refine cmp_eqs (by assumption) (by assumption) ?_ | refine And.intro (show nsh _ = true from rfl) ?_ | refine Exists.intro _ (And.intro rfl ?_))
    refine powO_lit (v := 1000000000000) (by decide +kernel) (by decide +kernel) ?_
    repeat (first | refine sso_cons ?_ | refine so_ret ?_ | refine so_asg ?_ | refine so_asgC ?_ | refine so_ite ?_ | refine so_expr ?_ | refine so_par ?_ | refine so_setx ?_ | refine so_aug rfl ?_ | refine eso_nil ?_ | refine eso_mv rfl ?_ | refine eso_cons (fun _ _ => rfl) ?_ | refine eo_cst rfl ?_ | refine eo_cp rfl (by first | assumption | rfl) ?_ | refine eo_mv rfl ?_ | refine eo_glb rfl ?_ | refine eo_neg ?_ | refine eo_mod ?_ | refine eo_fdiv ?_ | refine eo_mul ?_ | refine eo_pow ?_ | refine eo_bin ?_ | refine eo_cmp ?_ | refine eo_chn ?_ | refine eo_and1 ?_ | refine eo_and ?_ | refine eo_or1 ?_ | refine eo_or ?_ | refine eo_not ?_ | refine eo_ife ?_ | refine eo_lst ?_ | refine eo_tup ?_ | refine eo_ix ?_ | refine eo_sl ?_ | refine eoo_no ?_ | refine eoo_yes ?_ | refine eo_rev ?_ | refine eo_isi ?_ | refine eo_repr ?_ | refine eo_sorted ?_ | refine eo_bi ?_ | refine eo_callN rfl ?_ | refine eo_call ?_ | refine eo_callK ?_ | refine eo_mt ?_ | refine eio_rng1 ?_ | refine eio_rng2 ?_ | refine eio_zip ?_ | refine eio_any ?_ | refine eo_pur ?_ | refine to_no ?_ | refine to_yes ?_ | refine sso_nil ?_ | refine cmp_lt ?_ | refine cmp_le ?_ | refine cmp_gt ?_ | refine cmp_ge ?_ | refine cmp_eq ?_ | refine cmp_is rfl ?_ | refine cmp_isn rfl ?_ | refine cmp_in1 ?_ | refine cmp_nin1 ?_ | refine cmp_eqs (by assumption) (by assumption) ?_ | refine And.intro (show nsh _ = true from rfl) ?_ | refine Exists.intro _ (And.intro rfl ?_))
    refine ⟨line_ge (show 3 ≤ 16777216 by decide), ?_⟩
    repeat (first | refine sso_cons ?_ | refine so_ret ?_ | refine so_asg ?_ | refine so_asgC ?_ | refine so_ite ?_ | refine so_expr ?_ | refine so_par ?_ | refine so_setx ?_ | refine so_aug rfl ?_ | refine eso_nil ?_ | refine eso_mv rfl ?_ | refine eso_cons (fun _ _ => rfl) ?_ | refine eo_cst rfl ?_ | refine eo_cp rfl (by first | assumption | rfl) ?_ | refine eo_mv rfl ?_ | refine eo_glb rfl ?_ | refine eo_neg ?_ | refine eo_mod ?_ | refine eo_fdiv ?_ | refine eo_mul ?_ | refine eo_pow ?_ | refine eo_bin ?_ | refine eo_cmp ?_ | refine eo_chn ?_ | refine eo_and1 ?_ | refine eo_and ?_ | refine eo_or1 ?_ | refine eo_or ?_ | refine eo_not ?_ | refine eo_ife ?_ | refine eo_lst ?_ | refine eo_tup ?_ | refine eo_ix ?_ | refine eo_sl ?_ | refine eoo_no ?_ | refine eoo_yes ?_ | refine eo_rev ?_ | refine eo_isi ?_ | refine eo_repr ?_ | refine eo_sorted ?_ | refine eo_bi ?_ | refine eo_callN rfl ?_ | refine eo_call ?_ | refine eo_callK ?_ | refine eo_mt ?_ | refine eio_rng1 ?_ | refine eio_rng2 ?_ | refine eio_zip ?_ | refine eio_any ?_ | refine eo_pur ?_ | refine to_no ?_ | refine to_yes ?_ | refine sso_nil ?_ | refine cmp_lt ?_ | refine cmp_le ?_ | refine cmp_gt ?_ | refine cmp_ge ?_ | refine cmp_eq ?_ | refine cmp_is rfl ?_ | refine cmp_isn rfl ?_ | refine cmp_in1 ?_ | refine cmp_nin1 ?_ | refine cmp_eqs (by assumption) (by assumption) ?_ | refine And.intro (show nsh _ = true from rfl) ?_ | refine Exists.intro _ (And.intro rfl ?_))
    refine coG (bud8 d (n + 12 * ds.length + 8) g (hg.mono (by omega)) .own _ (by simp) (show 3 < 2 ^ 60 by decide) rfl) ?_
    intro r g1 hr hg1
    obtain ⟨b, rfl, hb0, hb1⟩ : ∃ b : Int, r = .int b ∧ 0 < b ∧ b ≤ 1000000000000 := by
      have : r = .int 3 ∨ r = .int 9 ∨ r = .int 1000000000000 := by simpa using hr
      rcases this with rfl | rfl | rfl <;> exact ⟨_, rfl, by decide, by decide⟩
    repeat (first | refine sso_cons ?_ | refine so_ret ?_ | refine so_asg ?_ | refine so_asgC ?_ | refine so_ite ?_ | refine so_expr ?_ | refine so_par ?_ | refine so_setx ?_ | refine so_aug rfl ?_ | refine eso_nil ?_ | refine eso_mv rfl ?_ | refine eso_cons (fun _ _ => rfl) ?_ | refine eo_cst rfl ?_ | refine eo_cp rfl (by first | assumption | rfl) ?_ | refine eo_mv rfl ?_ | refine eo_glb rfl ?_ | refine eo_neg ?_ | refine eo_mod ?_ | refine eo_fdiv ?_ | refine eo_mul ?_ | refine eo_pow ?_ | refine eo_bin ?_ | refine eo_cmp ?_ | refine eo_chn ?_ | refine eo_and1 ?_ | refine eo_and ?_ | refine eo_or1 ?_ | refine eo_or ?_ | refine eo_not ?_ | refine eo_ife ?_ | refine eo_lst ?_ | refine eo_tup ?_ | refine eo_ix ?_ | refine eo_sl ?_ | refine eoo_no ?_ | refine eoo_yes ?_ | refine eo_rev ?_ | refine eo_isi ?_ | refine eo_repr ?_ | refine eo_sorted ?_ | refine eo_bi ?_ | refine eo_callN rfl ?_ | refine eo_call ?_ | refine eo_callK ?_ | refine eo_mt ?_ | refine eio_rng1 ?_ | refine eio_rng2 ?_ | refine eio_zip ?_ | refine eio_any ?_ | refine eo_pur ?_ | refine to_no ?_ | refine to_yes ?_ | refine sso_nil ?_ | refine cmp_lt ?_ | refine cmp_le ?_ | refine cmp_gt ?_ | refine cmp_ge ?_ | refine cmp_eq ?_ | refine cmp_is rfl ?_ | refine cmp_isn rfl ?_ | refine cmp_in1 ?_ | refine cmp_nin1 ?_ | refine cmp_eqs (by assumption) (by assumption) ?_ | refine And.intro (show nsh _ = true from rfl) ?_ | refine Exists.intro _ (And.intro rfl ?_))
    refine coG (bud7 (d + 1) (n + 12 * ds.length + 4) g1 (hg1.mono (by omega)) b ⟨by omega, by omega⟩) ?_
    rintro r g3 ⟨u, rfl, u1, u2⟩ hg3
    repeat (first | refine sso_cons ?_ | refine so_ret ?_ | refine so_asg ?_ | refine so_asgC ?_ | refine so_ite ?_ | refine so_expr ?_ | refine so_par ?_ | refine so_setx ?_ | refine so_aug rfl ?_ | refine eso_nil ?_ | refine eso_mv rfl ?_ | refine eso_cons (fun _ _ => rfl) ?_ | refine eo_cst rfl ?_ | refine eo_cp rfl (by first | assumption | rfl) ?_ | refine eo_mv rfl ?_ | refine eo_glb rfl ?_ | refine eo_neg ?_ | refine eo_mod ?_ | refine eo_fdiv ?_ | refine eo_mul ?_ | refine eo_pow ?_ | refine eo_bin ?_ | refine eo_cmp ?_ | refine eo_chn ?_ | refine eo_and1 ?_ | refine eo_and ?_ | refine eo_or1 ?_ | refine eo_or ?_ | refine eo_not ?_ | refine eo_ife ?_ | refine eo_lst ?_ | refine eo_tup ?_ | refine eo_ix ?_ | refine eo_sl ?_ | refine eoo_no ?_ | refine eoo_yes ?_ | refine eo_rev ?_ | refine eo_isi ?_ | refine eo_repr ?_ | refine eo_sorted ?_ | refine eo_bi ?_ | refine eo_callN rfl ?_ | refine eo_call ?_ | refine eo_callK ?_ | refine eo_mt ?_ | refine eio_rng1 ?_ | refine eio_rng2 ?_ | refine eio_zip ?_ | refine eio_any ?_ | refine eo_pur ?_ | refine to_no ?_ | refine to_yes ?_ | refine sso_nil ?_ | refine cmp_lt ?_ | refine cmp_le ?_ | refine cmp_gt ?_ | refine cmp_ge ?_ | refine cmp_eq ?_ | refine cmp_is rfl ?_ | refine cmp_isn rfl ?_ | refine cmp_in1 ?_ | refine cmp_nin1 ?_ | refine cmp_eqs (by assumption) (by assumption) ?_ | refine And.intro (show nsh _ = true from rfl) ?_ | refine Exists.intro _ (And.intro rfl ?_))
    refine coG (bud7 (d + 1) (n + 12 * ds.length) g3 (hg3.mono (by omega)) 2 ⟨by decide, by decide⟩) ?_
    rintro r g4 ⟨v, rfl, v1, v2⟩ hg4
    repeat (first | refine sso_cons ?_ | refine so_ret ?_ | refine so_asg ?_ | refine so_asgC ?_ | refine so_ite ?_ | refine so_expr ?_ | refine so_par ?_ | refine so_setx ?_ | refine so_aug rfl ?_ | refine eso_nil ?_ | refine eso_mv rfl ?_ | refine eso_cons (fun _ _ => rfl) ?_ | refine eo_cst rfl ?_ | refine eo_cp rfl (by first | assumption | rfl) ?_ | refine eo_mv rfl ?_ | refine eo_glb rfl ?_ | refine eo_neg ?_ | refine eo_mod ?_ | refine eo_fdiv ?_ | refine eo_mul ?_ | refine eo_pow ?_ | refine eo_bin ?_ | refine eo_cmp ?_ | refine eo_chn ?_ | refine eo_and1 ?_ | refine eo_and ?_ | refine eo_or1 ?_ | refine eo_or ?_ | refine eo_not ?_ | refine eo_ife ?_ | refine eo_lst ?_ | refine eo_tup ?_ | refine eo_ix ?_ | refine eo_sl ?_ | refine eoo_no ?_ | refine eoo_yes ?_ | refine eo_rev ?_ | refine eo_isi ?_ | refine eo_repr ?_ | refine eo_sorted ?_ | refine eo_bi ?_ | refine eo_callN rfl ?_ | refine eo_call ?_ | refine eo_callK ?_ | refine eo_mt ?_ | refine eio_rng1 ?_ | refine eio_rng2 ?_ | refine eio_zip ?_ | refine eio_any ?_ | refine eo_pur ?_ | refine to_no ?_ | refine to_yes ?_ | refine sso_nil ?_ | refine cmp_lt ?_ | refine cmp_le ?_ | refine cmp_gt ?_ | refine cmp_ge ?_ | refine cmp_eq ?_ | refine cmp_is rfl ?_ | refine cmp_isn rfl ?_ | refine cmp_in1 ?_ | refine cmp_nin1 ?_ | refine cmp_eqs (by assumption) (by assumption) ?_ | refine And.intro (show nsh _ = true from rfl) ?_ | refine Exists.intro _ (And.intro rfl ?_))
    refine ⟨g4, ns ++ [u - v], rfl, hg4, by rw [List.map_append]; rfl, by rw [List.length_append, List.length_singleton]; omega, fun i hi => ?_⟩
    rcases List.mem_append.mp hi with h | h
    · exact hw i h
    · rw [List.mem_singleton.mp h]
      omega
  · rintro ys ρ ⟨g, ns, rfl, hg, rfl, hl, hw⟩
    repeat (first | refine sso_cons ?_ | refine so_ret ?_ | refine so_asg ?_ | refine so_asgC ?_ | refine so_ite ?_ | refine so_expr ?_ | refine so_par ?_ | refine so_setx ?_ | refine so_aug rfl ?_ | refine eso_nil ?_ | refine eso_mv rfl ?_ | refine eso_cons (fun _ _ => rfl) ?_ | refine eo_cst rfl ?_ | refine eo_cp rfl (by first | assumption | rfl) ?_ | refine eo_mv rfl ?_ | refine eo_glb rfl ?_ | refine eo_neg ?_ | refine eo_mod ?_ | refine eo_fdiv ?_ | refine eo_mul ?_ | refine eo_pow ?_ | refine eo_bin ?_ | refine eo_cmp ?_ | refine eo_chn ?_ | refine eo_and1 ?_ | refine eo_and ?_ | refine eo_or1 ?_ | refine eo_or ?_ | refine eo_not ?_ | refine eo_ife ?_ | refine eo_lst ?_ | refine eo_tup ?_ | refine eo_ix ?_ | refine eo_sl ?_ | refine eoo_no ?_ | refine eoo_yes ?_ | refine eo_rev ?_ | refine eo_isi ?_ | refine eo_repr ?_ | refine eo_sorted ?_ | refine eo_bi ?_ | refine eo_callN rfl ?_ | refine eo_call ?_ | refine eo_callK ?_ | refine eo_mt ?_ | refine eio_rng1 ?_ | refine eio_rng2 ?_ | refine eio_zip ?_ | refine eio_any ?_ | refine eo_pur ?_ | refine to_no ?_ | refine to_yes ?_ | refine sso_nil ?_ | refine cmp_lt ?_ | refine cmp_le ?_ | refine cmp_gt ?_ | refine cmp_ge ?_ | refine cmp_eq ?_ | refine cmp_is rfl ?_ | refine cmp_isn rfl ?_ | refine cmp_in1 ?_ | refine cmp_nin1 ?_ | refine cmp_eqs (by assumption) (by assumption) ?_ | refine And.intro (show nsh _ = true from rfl) ?_ | refine Exists.intro _ (And.intro rfl ?_))
    exact ⟨⟨ns, rfl, by simpa using hl, hw⟩, g, rfl, hg⟩
end PLAW

set_option Elab.async false
set_option linter.all false
set_option maxRecDepth 100000
namespace PLAW
open PySem PySem.Spec PyProof.Rows L2 VK
/-! ### the closed menu -/
def nthS : Ss → Nat → S
  | .cons s _, 0 => s
  | .cons _ ss, n + 1 => nthS ss n
  | .nil, _ => .expr (.cst .none 0 ⟨0, 0, 0, 0⟩) ⟨0, 0, 0, 0⟩
def dropS : Ss → Nat → Ss
  | ss, 0 => ss
  | .cons _ ss, n + 1 => dropS ss n
  | .nil, _ => .nil
def slotOf (i : Nat) : Option (Fl × Rho) → D
  | some (_, ρ) => (ρ.getD i none).getD .non
  | none => .non
def itemsOf : D → List D
  | .lst _ xs => xs
  | _ => []
theorem so_ker {T : Tab} {C : CallF} {W : Nat} {s : S} {ρ ρ1 : Rho} {f : Fl} {QF : Fl → Rho → Prop} (h : exec opBi0 opMt0 opMu0 T C W s ρ = some (f, ρ1)) (q : QF f ρ1) : SO T C W s ρ QF := ⟨f, ρ1, h, q⟩
theorem sso_ker {T : Tab} {C : CallF} {W : Nat} {s : Ss} {ρ : Rho} {f : Fl} {QF : Fl → Rho → Prop} (h : (execs opBi0 opMt0 opMu0 T C W s ρ).map (·.1) = some f) (q : ∀ ρ1, QF f ρ1) : SSO T C W s ρ QF := by
  obtain ⟨⟨g, ρ1⟩, h1, rfl⟩ := Option.map_eq_some_iff.mp h
  exact ⟨_, _, h1, q ρ1⟩
def M1 : D := slotOf 1 (exec opBi0 opMt0 opMu0 tab (cal 0) 1000 (nthS d12.body 0) [none, none])
def M2 : D := slotOf 1 (exec opBi0 opMt0 opMu0 tab (cal 0) 1000 (nthS d12.body 1) [none, some M1])
def M3 : D := slotOf 1 (exec opBi0 opMt0 opMu0 tab (cal 0) 1000 (nthS d12.body 2) [none, some M2])
def MENU : List D := frzL (itemsOf M3)
/-- a value that is judged as it is -/
def okJ (v : D) : Bool := match cal 39 17 [v] with
  | some (.bl true, []) => true
  | _ => false
def okC (r : D) : Bool := match cal 38 9 [r] with
  | some (v, []) => okJ (frz v)
  | _ => false
theorem menu_ok : MENU.all okC = true := by decide +kernel
theorem menu_len : MENU.length = 46 := by decide +kernel

end PLAW

set_option Elab.async false
set_option linter.all false
set_option maxRecDepth 100000
namespace PLAW
open PySem PySem.Spec PyProof.Rows L2 VK
theorem menu_ne : MENU ≠ [] := by
  intro h
  have := menu_len
  rw [h] at this
  cases this
theorem menu_fz : frzL MENU = MENU := frzL_frzL _
theorem m3_frz : frz M3 = .lst .shr MENU := by kernel_rfl
theorem okC_of {r : D} (h : okC r = true) : ∃ v, cal 38 9 [r] = some (v, []) ∧ okJ (frz v) = true := by
  unfold okC at h
  split at h
  · exact ⟨_, ‹_›, h⟩
  · cases h
theorem cal12 (n : Nat) (g : D) (hg : Bud (n + 4) g) : ∃ r outs, cal 39 12 [g] = some (r, outs) ∧ okJ (frz r) = true ∧ ∃ g', outs = [(0, some g')] ∧ Bud n g' := by
  refine cal_of (d := 38) (f := d12) rfl rfl ?_
  refine sso_cons ?_
  refine so_ker (f := .nx) (ρ1 := [some g, some M1]) (by kernel_rfl) ?_
  refine sso_cons ?_
  refine so_ker (f := .nx) (ρ1 := [some g, some M2]) (by kernel_rfl) ?_
  refine sso_cons ?_
  refine so_ker (f := .nx) (ρ1 := [some g, some M3]) (by kernel_rfl) ?_
  repeat (first | refine sso_cons ?_ | refine so_ret ?_ | refine so_asg ?_ | refine so_asgC ?_ | refine so_ite ?_ | refine so_expr ?_ | refine so_par ?_ | refine so_setx ?_ | refine so_aug rfl ?_ | refine eso_nil ?_ | refine eso_mv rfl ?_ | refine eso_cons (fun _ _ => rfl) ?_ | refine eo_cst rfl ?_ | refine eo_cp rfl (by first | assumption | rfl) ?_ | refine eo_mv rfl ?_ | refine eo_glb rfl ?_ | refine eo_neg ?_ | refine eo_mod ?_ | refine eo_fdiv ?_ | refine eo_mul ?_ | refine eo_pow ?_ | refine eo_bin ?_ | refine eo_cmp ?_ | refine eo_chn ?_ | refine eo_and1 ?_ | refine eo_and ?_ | refine eo_or1 ?_ | refine eo_or ?_ | refine eo_not ?_ | refine eo_ife ?_ | refine eo_lst ?_ | refine eo_tup ?_ | refine eo_ix ?_ | refine eo_sl ?_ | refine eoo_no ?_ | refine eoo_yes ?_ | refine eo_rev ?_ | refine eo_isi ?_ | refine eo_repr ?_ | refine eo_sorted ?_ | refine eo_bi ?_ | refine eo_callN rfl ?_ | refine eo_call ?_ | refine eo_callK ?_ | refine eo_mt ?_ | refine eio_rng1 ?_ | refine eio_rng2 ?_ | refine eio_zip ?_ | refine eio_any ?_ | refine eo_pur ?_ | refine to_no ?_ | refine to_yes ?_ | refine sso_nil ?_ | refine cmp_lt ?_ | refine cmp_le ?_ | refine cmp_gt ?_ | refine cmp_ge ?_ | refine cmp_eq ?_ | refine cmp_is rfl ?_ | refine cmp_isn rfl ?_ | refine cmp_in1 ?_ | refine cmp_nin1 ?_ | refine cmp_eqs (by assumption) (by assumption) ?_ | refine And.intro (show nsh _ = true from rfl) ?_ | refine Exists.intro _ (And.intro rfl ?_))
  refine eo_cpF rfl ?_
  rw [m3_frz]
  repeat (first | refine sso_cons ?_ | refine so_ret ?_ | refine so_asg ?_ | refine so_asgC ?_ | refine so_ite ?_ | refine so_expr ?_ | refine so_par ?_ | refine so_setx ?_ | refine so_aug rfl ?_ | refine eso_nil ?_ | refine eso_mv rfl ?_ | refine eso_cons (fun _ _ => rfl) ?_ | refine eo_cst rfl ?_ | refine eo_cp rfl (by first | assumption | rfl) ?_ | refine eo_mv rfl ?_ | refine eo_glb rfl ?_ | refine eo_neg ?_ | refine eo_mod ?_ | refine eo_fdiv ?_ | refine eo_mul ?_ | refine eo_pow ?_ | refine eo_bin ?_ | refine eo_cmp ?_ | refine eo_chn ?_ | refine eo_and1 ?_ | refine eo_and ?_ | refine eo_or1 ?_ | refine eo_or ?_ | refine eo_not ?_ | refine eo_ife ?_ | refine eo_lst ?_ | refine eo_tup ?_ | refine eo_ix ?_ | refine eo_sl ?_ | refine eoo_no ?_ | refine eoo_yes ?_ | refine eo_rev ?_ | refine eo_isi ?_ | refine eo_repr ?_ | refine eo_sorted ?_ | refine eo_bi ?_ | refine eo_callN rfl ?_ | refine eo_call ?_ | refine eo_callK ?_ | refine eo_mt ?_ | refine eio_rng1 ?_ | refine eio_rng2 ?_ | refine eio_zip ?_ | refine eio_any ?_ | refine eo_pur ?_ | refine to_no ?_ | refine to_yes ?_ | refine sso_nil ?_ | refine cmp_lt ?_ | refine cmp_le ?_ | refine cmp_gt ?_ | refine cmp_ge ?_ | refine cmp_eq ?_ | refine cmp_is rfl ?_ | refine cmp_isn rfl ?_ | refine cmp_in1 ?_ | refine cmp_nin1 ?_ | refine cmp_eqs (by assumption) (by assumption) ?_ | refine And.intro (show nsh _ = true from rfl) ?_ | refine Exists.intro _ (And.intro rfl ?_))
  refine coG (bud8 35 n g hg .shr MENU menu_ne (by rw [menu_len]; decide) menu_fz) ?_
  intro r g1 hr hg1
  repeat (first | refine sso_cons ?_ | refine so_ret ?_ | refine so_asg ?_ | refine so_asgC ?_ | refine so_ite ?_ | refine so_expr ?_ | refine so_par ?_ | refine so_setx ?_ | refine so_aug rfl ?_ | refine eso_nil ?_ | refine eso_mv rfl ?_ | refine eso_cons (fun _ _ => rfl) ?_ | refine eo_cst rfl ?_ | refine eo_cp rfl (by first | assumption | rfl) ?_ | refine eo_mv rfl ?_ | refine eo_glb rfl ?_ | refine eo_neg ?_ | refine eo_mod ?_ | refine eo_fdiv ?_ | refine eo_mul ?_ | refine eo_pow ?_ | refine eo_bin ?_ | refine eo_cmp ?_ | refine eo_chn ?_ | refine eo_and1 ?_ | refine eo_and ?_ | refine eo_or1 ?_ | refine eo_or ?_ | refine eo_not ?_ | refine eo_ife ?_ | refine eo_lst ?_ | refine eo_tup ?_ | refine eo_ix ?_ | refine eo_sl ?_ | refine eoo_no ?_ | refine eoo_yes ?_ | refine eo_rev ?_ | refine eo_isi ?_ | refine eo_repr ?_ | refine eo_sorted ?_ | refine eo_bi ?_ | refine eo_callN rfl ?_ | refine eo_call ?_ | refine eo_callK ?_ | refine eo_mt ?_ | refine eio_rng1 ?_ | refine eio_rng2 ?_ | refine eio_zip ?_ | refine eio_any ?_ | refine eo_pur ?_ | refine to_no ?_ | refine to_yes ?_ | refine sso_nil ?_ | refine cmp_lt ?_ | refine cmp_le ?_ | refine cmp_gt ?_ | refine cmp_ge ?_ | refine cmp_eq ?_ | refine cmp_is rfl ?_ | refine cmp_isn rfl ?_ | refine cmp_in1 ?_ | refine cmp_nin1 ?_ | refine cmp_eqs (by assumption) (by assumption) ?_ | refine And.intro (show nsh _ = true from rfl) ?_ | refine Exists.intro _ (And.intro rfl ?_))
  obtain ⟨v, h1, h2⟩ := okC_of (List.all_eq_true.mp menu_ok r hr)
  refine ⟨v, [], h1, ?_⟩
  exact ⟨h2, g1, rfl, hg1⟩
/-! ### _law_unlike -/
theorem sorted_ok {o : Ow} {xs : List D} (h : sortable xs = true) (hf : frzL xs = xs) : opBi0 .sorted [.lst o xs] = some (.lst .own (xs.mergeSort (PySem.W.dataLe false toPy))) := by
  show (if sortable (frzL xs) = true then some (D.lst .own ((frzL xs).mergeSort (PySem.W.dataLe false toPy))) else none) = _
  rw [hf, if_pos h]
theorem sortable_ints (ns : List Int) : sortable (ns.map .int) = true := by
  have h : ∀ a ∈ ns.map D.int, ∃ i, a = .int i := fun a h => by
    obtain ⟨i, _, rfl⟩ := List.mem_map.mp h
    exact ⟨i, rfl⟩
  unfold sortable
  rw [Bool.and_eq_true, Bool.and_eq_true, Bool.or_eq_true]
  refine ⟨⟨List.all_eq_true.mpr fun a ha => ?_, List.all_eq_true.mpr fun a ha => List.all_eq_true.mpr fun b hb => ?_⟩, .inr (List.all_eq_true.mpr fun a ha => ?_)⟩
  · obtain ⟨i, rfl⟩ := h a ha
    rw [(dat_int i).1, decide_eq_true (Nat.le_trans (dat_int i).2 (by decide))]; rfl
  · obtain ⟨i, rfl⟩ := h a ha
    obtain ⟨j, rfl⟩ := h b hb
    simp [toPy, PySem.W.alike]
  · obtain ⟨i, rfl⟩ := h a ha
    rfl
theorem sortable_strs {ws : List Str} (hw : ∀ w ∈ ws, PyData.strOk w = true) : sortable (ws.map .str) = true := by
  have h : ∀ a ∈ ws.map D.str, ∃ i, a = .str i ∧ PyData.strOk i = true := fun a h => by
    obtain ⟨i, hi, rfl⟩ := List.mem_map.mp h
    exact ⟨i, rfl, hw i hi⟩
  unfold sortable
  rw [Bool.and_eq_true, Bool.and_eq_true, Bool.or_eq_true]
  refine ⟨⟨List.all_eq_true.mpr fun a ha => ?_, List.all_eq_true.mpr fun a ha => List.all_eq_true.mpr fun b hb => ?_⟩, .inr (List.all_eq_true.mpr fun a ha => ?_)⟩
  · obtain ⟨i, rfl, hi⟩ := h a ha
    rw [(dat_str hi).1, decide_eq_true (Nat.le_trans (dat_str hi).2 (by decide))]; rfl
  · obtain ⟨i, rfl, _⟩ := h a ha
    obtain ⟨j, rfl, _⟩ := h b hb
    simp [toPy, PySem.W.alike]
  · obtain ⟨i, rfl, _⟩ := h a ha
    rfl
theorem in_dat {o : Ow} {d : D} {ys : List D} (hp : flatD d = true) (hd : Dat 0 d) (hy : ∀ y ∈ ys, Dat 0 y) : inD d (.lst o ys) = some ((toPyL ys).any fun z => PyData.eqv z (toPy d)) := by
  have e : inD d (.lst o ys) = if SeqAt.shaped (toPy d) = true ∧ SeqAt.shaped (.list (toPyL ys)) = true then some ((toPyL ys).any fun z => PyData.eqv z (toPy d)) else none := by
    cases d <;> first | rfl | cases hp
  rw [e, if_pos ⟨hd.shaped (by decide), (dat_lst (o := .own) hy).shaped (by decide)⟩]
theorem notin_dat {o : Ow} {d : D} {ys : List D} (hp : flatD d = true) (hd : Dat 0 d) (hy : ∀ y ∈ ys, Dat 0 y) : opC .NotIn d (.lst o ys) = some !((toPyL ys).any fun z => PyData.eqv z (toPy d)) := by
  show (inD _ _).map _ = _
  rw [in_dat hp hd hy]; rfl
theorem frzL_self : ∀ {xs : List D}, (∀ x ∈ xs, frz x = x) → frzL xs = xs
  | [], _ => rfl
  | x :: xs, h => by rw [frzL, h x List.mem_cons_self, frzL_self fun y hy => h y (List.mem_cons_of_mem _ hy)]
structure Atm (d : D) : Prop extends Itm d where
  fl : flatD d = true
  ns : nsh d = true
theorem cal11 (d : Nat) (o : Ow) (xs : List D) (hx : ∀ x ∈ xs, Atm x) (hs : sortable xs = true) (hl : xs.length ≤ 1000) (hf : frz (.lst o xs) = .lst o xs) :
    ∃ r outs, cal (d + 1) 11 [.lst o xs] = some (r, outs) ∧ (∃ ys, r = .lst .own ys ∧ ys.length ≤ xs.length ∧ ∀ y ∈ ys, y ∈ xs) ∧ outs = [] := by
  refine cal_of (f := d11) rfl rfl ?_
  have hfl : frzL xs = xs := frzL_self fun x h => (hx x h).fz
  repeat (first | refine sso_cons ?_ | refine so_ret ?_ | refine so_asg ?_ | refine so_asgC ?_ | refine so_ite ?_ | refine so_expr ?_ | refine so_par ?_ | refine so_setx ?_ | refine so_aug rfl ?_ | refine eso_nil ?_ | refine eso_mv rfl ?_ | refine eso_cons (fun _ _ => rfl) ?_ | refine eo_cst rfl ?_ | refine eo_cp rfl (by first | assumption | rfl) ?_ | refine eo_mv rfl ?_ | refine eo_glb rfl ?_ | refine eo_neg ?_ | refine eo_mod ?_ | refine eo_fdiv ?_ | refine eo_mul ?_ | refine eo_pow ?_ | refine eo_bin ?_ | refine eo_cmp ?_ | refine eo_chn ?_ | refine eo_and1 ?_ | refine eo_and ?_ | refine eo_or1 ?_ | refine eo_or ?_ | refine eo_not ?_ | refine eo_ife ?_ | refine eo_lst ?_ | refine eo_tup ?_ | refine eo_ix ?_ | refine eo_sl ?_ | refine eoo_no ?_ | refine eoo_yes ?_ | refine eo_rev ?_ | refine eo_isi ?_ | refine eo_repr ?_ | refine eo_sorted ?_ | refine eo_bi ?_ | refine eo_callN rfl ?_ | refine eo_call ?_ | refine eo_callK ?_ | refine eo_mt ?_ | refine eio_rng1 ?_ | refine eio_rng2 ?_ | refine eio_zip ?_ | refine eio_any ?_ | refine eo_pur ?_ | refine to_no ?_ | refine to_yes ?_ | refine sso_nil ?_ | refine cmp_lt ?_ | refine cmp_le ?_ | refine cmp_gt ?_ | refine cmp_ge ?_ | refine cmp_eq ?_ | refine cmp_is rfl ?_ | refine cmp_isn rfl ?_ | refine cmp_in1 ?_ | refine cmp_nin1 ?_ | refine cmp_eqs (by assumption) (by assumption) ?_ | refine And.intro (show nsh _ = true from rfl) ?_ | refine Exists.intro _ (And.intro rfl ?_) | refine And.intro (short_le (show short 300 _ = true from rfl)) ?_)
  refine so_forI ?_
  repeat (first | refine sso_cons ?_ | refine so_ret ?_ | refine so_asg ?_ | refine so_asgC ?_ | refine so_ite ?_ | refine so_expr ?_ | refine so_par ?_ | refine so_setx ?_ | refine so_aug rfl ?_ | refine eso_nil ?_ | refine eso_mv rfl ?_ | refine eso_cons (fun _ _ => rfl) ?_ | refine eo_cst rfl ?_ | refine eo_cp rfl (by first | assumption | rfl) ?_ | refine eo_mv rfl ?_ | refine eo_glb rfl ?_ | refine eo_neg ?_ | refine eo_mod ?_ | refine eo_fdiv ?_ | refine eo_mul ?_ | refine eo_pow ?_ | refine eo_bin ?_ | refine eo_cmp ?_ | refine eo_chn ?_ | refine eo_and1 ?_ | refine eo_and ?_ | refine eo_or1 ?_ | refine eo_or ?_ | refine eo_not ?_ | refine eo_ife ?_ | refine eo_lst ?_ | refine eo_tup ?_ | refine eo_ix ?_ | refine eo_sl ?_ | refine eoo_no ?_ | refine eoo_yes ?_ | refine eo_rev ?_ | refine eo_isi ?_ | refine eo_repr ?_ | refine eo_sorted ?_ | refine eo_bi ?_ | refine eo_callN rfl ?_ | refine eo_call ?_ | refine eo_callK ?_ | refine eo_mt ?_ | refine eio_rng1 ?_ | refine eio_rng2 ?_ | refine eio_zip ?_ | refine eio_any ?_ | refine eo_pur ?_ | refine to_no ?_ | refine to_yes ?_ | refine sso_nil ?_ | refine cmp_lt ?_ | refine cmp_le ?_ | refine cmp_gt ?_ | refine cmp_ge ?_ | refine cmp_eq ?_ | refine cmp_is rfl ?_ | refine cmp_isn rfl ?_ | refine cmp_in1 ?_ | refine cmp_nin1 ?_ | refine cmp_eqs (by assumption) (by assumption) ?_ | refine And.intro (show nsh _ = true from rfl) ?_ | refine Exists.intro _ (And.intro rfl ?_))
  refine ⟨_, sorted_ok hs hfl, ?_⟩
  have hm : ∀ y ∈ xs.mergeSort (PySem.W.dataLe false toPy), y ∈ xs := fun y hy => List.mem_mergeSort.mp hy
  have hml : (xs.mergeSort (PySem.W.dataLe false toPy)).length = xs.length := List.length_mergeSort _
  generalize xs.mergeSort (PySem.W.dataLe false toPy) = zs at hm hml
  have hzf : frzL zs = zs := frzL_self fun x h => (hx x (hm x h)).fz
  refine .inl ⟨_, _, rfl, ?_⟩
  rw [hzf]
  refine ⟨fun (ds : List D) (ρ : Rho) => ∃ (ys : List D) (b : Option D), ρ = [some (.lst o xs), some (.lst .own ys), b] ∧ ys.length + ds.length ≤ xs.length ∧ (∀ y ∈ ys, y ∈ xs) ∧ ∀ y ∈ ds, y ∈ xs, ?_, ?_, ?_⟩
  · exact ⟨[], none, rfl, by rw [hml, List.length_nil]; omega, fun y h => (List.not_mem_nil h).elim, hm⟩
  · rintro x ds ρ ⟨ys, b, rfl, hl2, hy, hd⟩
    rw [List.length_cons] at hl2
    have ix := hx x (hd x List.mem_cons_self)
    have hfx := ix.fz
    have hfy : frzL ys = ys := frzL_self fun x h => (hx x (hy x h)).fz
    have hfy2 : frz (.lst .own ys) = .lst .shr ys := by rw [frz, hfy]; rfl
    refine ⟨_, rfl, ?_⟩
    refine sso_cons ?_
    refine so_ite ?_
    refine eo_pur ?_
    have hfy3 : frz (.lst .shr ys) = .lst .shr ys := by rw [frz, hfy]; rfl
    have e : frzE [some (.lst o xs), some (.lst .own ys), some x] = [some (.lst o xs), some (.lst .shr ys), some x] := by
      show [some (frz _), some (frz _), some (frz _)] = _
      rw [hf, hfy2, hfx]
    show EO tab (cal d) _ (frzE [some (.lst o xs), some (.lst .own ys), some x]) _
    rw [e]
    repeat (first | refine sso_cons ?_ | refine so_ret ?_ | refine so_asg ?_ | refine so_asgC ?_ | refine so_ite ?_ | refine so_expr ?_ | refine so_par ?_ | refine so_setx ?_ | refine so_aug rfl ?_ | refine eso_nil ?_ | refine eso_mv rfl ?_ | refine eso_cons (fun _ _ => rfl) ?_ | refine eo_cst rfl ?_ | refine eo_cp rfl (by first | assumption | rfl) ?_ | refine eo_mv rfl ?_ | refine eo_glb rfl ?_ | refine eo_neg ?_ | refine eo_mod ?_ | refine eo_fdiv ?_ | refine eo_mul ?_ | refine eo_pow ?_ | refine eo_bin ?_ | refine eo_cmp ?_ | refine eo_chn ?_ | refine eo_and1 ?_ | refine eo_and ?_ | refine eo_or1 ?_ | refine eo_or ?_ | refine eo_not ?_ | refine eo_ife ?_ | refine eo_lst ?_ | refine eo_tup ?_ | refine eo_ix ?_ | refine eo_sl ?_ | refine eoo_no ?_ | refine eoo_yes ?_ | refine eo_rev ?_ | refine eo_isi ?_ | refine eo_repr ?_ | refine eo_sorted ?_ | refine eo_bi ?_ | refine eo_callN rfl ?_ | refine eo_call ?_ | refine eo_callK ?_ | refine eo_mt ?_ | refine eio_rng1 ?_ | refine eio_rng2 ?_ | refine eio_zip ?_ | refine eio_any ?_ | refine eo_pur ?_ | refine to_no ?_ | refine to_yes ?_ | refine sso_nil ?_ | refine cmp_lt ?_ | refine cmp_le ?_ | refine cmp_gt ?_ | refine cmp_ge ?_ | refine cmp_eq ?_ | refine cmp_is rfl ?_ | refine cmp_isn rfl ?_ | refine cmp_in1 ?_ | refine cmp_nin1 ?_ | refine cmp_eqs (by assumption) (by assumption) ?_ | refine And.intro (show nsh _ = true from rfl) ?_ | refine Exists.intro _ (And.intro rfl ?_) | refine And.intro (short_le (show short 300 _ = true from rfl)) ?_)
    refine cmp_rfl (notin_dat ix.fl ix.rp.dat fun y hy' => (hx y (hy y hy')).rp.dat) ?_
    repeat (first | refine sso_cons ?_ | refine so_ret ?_ | refine so_asg ?_ | refine so_asgC ?_ | refine so_ite ?_ | refine so_expr ?_ | refine so_par ?_ | refine so_setx ?_ | refine so_aug rfl ?_ | refine eso_nil ?_ | refine eso_mv rfl ?_ | refine eso_cons (fun _ _ => rfl) ?_ | refine eo_cst rfl ?_ | refine eo_cp rfl (by first | assumption | rfl) ?_ | refine eo_mv rfl ?_ | refine eo_glb rfl ?_ | refine eo_neg ?_ | refine eo_mod ?_ | refine eo_fdiv ?_ | refine eo_mul ?_ | refine eo_pow ?_ | refine eo_bin ?_ | refine eo_cmp ?_ | refine eo_chn ?_ | refine eo_and1 ?_ | refine eo_and ?_ | refine eo_or1 ?_ | refine eo_or ?_ | refine eo_not ?_ | refine eo_ife ?_ | refine eo_lst ?_ | refine eo_tup ?_ | refine eo_ix ?_ | refine eo_sl ?_ | refine eoo_no ?_ | refine eoo_yes ?_ | refine eo_rev ?_ | refine eo_isi ?_ | refine eo_repr ?_ | refine eo_sorted ?_ | refine eo_bi ?_ | refine eo_callN rfl ?_ | refine eo_call ?_ | refine eo_callK ?_ | refine eo_mt ?_ | refine eio_rng1 ?_ | refine eio_rng2 ?_ | refine eio_zip ?_ | refine eio_any ?_ | refine eo_pur ?_ | refine to_no ?_ | refine to_yes ?_ | refine sso_nil ?_ | refine cmp_lt ?_ | refine cmp_le ?_ | refine cmp_gt ?_ | refine cmp_ge ?_ | refine cmp_eq ?_ | refine cmp_is rfl ?_ | refine cmp_isn rfl ?_ | refine cmp_in1 ?_ | refine cmp_nin1 ?_ | refine cmp_eqs (by assumption) (by assumption) ?_ | refine And.intro (show nsh _ = true from rfl) ?_ | refine Exists.intro _ (And.intro rfl ?_) | refine And.intro (short_le (show short 300 _ = true from rfl)) ?_)
    refine ite2 (fun _ => ?_) (fun _ => ?_)
    · repeat (first | refine sso_cons ?_ | refine so_ret ?_ | refine so_asg ?_ | refine so_asgC ?_ | refine so_ite ?_ | refine so_expr ?_ | refine so_par ?_ | refine so_setx ?_ | refine so_aug rfl ?_ | refine eso_nil ?_ | refine eso_mv rfl ?_ | refine eso_cons (fun _ _ => rfl) ?_ | refine eo_cst rfl ?_ | refine eo_cp rfl (by first | assumption | rfl) ?_ | refine eo_mv rfl ?_ | refine eo_glb rfl ?_ | refine eo_neg ?_ | refine eo_mod ?_ | refine eo_fdiv ?_ | refine eo_mul ?_ | refine eo_pow ?_ | refine eo_bin ?_ | refine eo_cmp ?_ | refine eo_chn ?_ | refine eo_and1 ?_ | refine eo_and ?_ | refine eo_or1 ?_ | refine eo_or ?_ | refine eo_not ?_ | refine eo_ife ?_ | refine eo_lst ?_ | refine eo_tup ?_ | refine eo_ix ?_ | refine eo_sl ?_ | refine eoo_no ?_ | refine eoo_yes ?_ | refine eo_rev ?_ | refine eo_isi ?_ | refine eo_repr ?_ | refine eo_sorted ?_ | refine eo_bi ?_ | refine eo_callN rfl ?_ | refine eo_call ?_ | refine eo_callK ?_ | refine eo_mt ?_ | refine eio_rng1 ?_ | refine eio_rng2 ?_ | refine eio_zip ?_ | refine eio_any ?_ | refine eo_pur ?_ | refine to_no ?_ | refine to_yes ?_ | refine sso_nil ?_ | refine cmp_lt ?_ | refine cmp_le ?_ | refine cmp_gt ?_ | refine cmp_ge ?_ | refine cmp_eq ?_ | refine cmp_is rfl ?_ | refine cmp_isn rfl ?_ | refine cmp_in1 ?_ | refine cmp_nin1 ?_ | refine cmp_eqs (by assumption) (by assumption) ?_ | refine And.intro (show nsh _ = true from rfl) ?_ | refine Exists.intro _ (And.intro rfl ?_) | refine And.intro (short_le (show short 300 _ = true from rfl)) ?_)
      refine eo_mu rfl ?_
      repeat (first | refine sso_cons ?_ | refine so_ret ?_ | refine so_asg ?_ | refine so_asgC ?_ | refine so_ite ?_ | refine so_expr ?_ | refine so_par ?_ | refine so_setx ?_ | refine so_aug rfl ?_ | refine eso_nil ?_ | refine eso_mv rfl ?_ | refine eso_cons (fun _ _ => rfl) ?_ | refine eo_cst rfl ?_ | refine eo_cp rfl (by first | assumption | rfl) ?_ | refine eo_mv rfl ?_ | refine eo_glb rfl ?_ | refine eo_neg ?_ | refine eo_mod ?_ | refine eo_fdiv ?_ | refine eo_mul ?_ | refine eo_pow ?_ | refine eo_bin ?_ | refine eo_cmp ?_ | refine eo_chn ?_ | refine eo_and1 ?_ | refine eo_and ?_ | refine eo_or1 ?_ | refine eo_or ?_ | refine eo_not ?_ | refine eo_ife ?_ | refine eo_lst ?_ | refine eo_tup ?_ | refine eo_ix ?_ | refine eo_sl ?_ | refine eoo_no ?_ | refine eoo_yes ?_ | refine eo_rev ?_ | refine eo_isi ?_ | refine eo_repr ?_ | refine eo_sorted ?_ | refine eo_bi ?_ | refine eo_callN rfl ?_ | refine eo_call ?_ | refine eo_callK ?_ | refine eo_mt ?_ | refine eio_rng1 ?_ | refine eio_rng2 ?_ | refine eio_zip ?_ | refine eio_any ?_ | refine eo_pur ?_ | refine to_no ?_ | refine to_yes ?_ | refine sso_nil ?_ | refine cmp_lt ?_ | refine cmp_le ?_ | refine cmp_gt ?_ | refine cmp_ge ?_ | refine cmp_eq ?_ | refine cmp_is rfl ?_ | refine cmp_isn rfl ?_ | refine cmp_in1 ?_ | refine cmp_nin1 ?_ | refine cmp_eqs (by assumption) (by assumption) ?_ | refine And.intro (show nsh _ = true from rfl) ?_ | refine Exists.intro _ (And.intro rfl ?_) | refine And.intro (short_le (show short 300 _ = true from rfl)) ?_)
      refine ⟨_, _, _, rfl, append_ok (show ys.length < 16777216 by omega), ?_⟩
      repeat (first | refine sso_cons ?_ | refine so_ret ?_ | refine so_asg ?_ | refine so_asgC ?_ | refine so_ite ?_ | refine so_expr ?_ | refine so_par ?_ | refine so_setx ?_ | refine so_aug rfl ?_ | refine eso_nil ?_ | refine eso_mv rfl ?_ | refine eso_cons (fun _ _ => rfl) ?_ | refine eo_cst rfl ?_ | refine eo_cp rfl (by first | assumption | rfl) ?_ | refine eo_mv rfl ?_ | refine eo_glb rfl ?_ | refine eo_neg ?_ | refine eo_mod ?_ | refine eo_fdiv ?_ | refine eo_mul ?_ | refine eo_pow ?_ | refine eo_bin ?_ | refine eo_cmp ?_ | refine eo_chn ?_ | refine eo_and1 ?_ | refine eo_and ?_ | refine eo_or1 ?_ | refine eo_or ?_ | refine eo_not ?_ | refine eo_ife ?_ | refine eo_lst ?_ | refine eo_tup ?_ | refine eo_ix ?_ | refine eo_sl ?_ | refine eoo_no ?_ | refine eoo_yes ?_ | refine eo_rev ?_ | refine eo_isi ?_ | refine eo_repr ?_ | refine eo_sorted ?_ | refine eo_bi ?_ | refine eo_callN rfl ?_ | refine eo_call ?_ | refine eo_callK ?_ | refine eo_mt ?_ | refine eio_rng1 ?_ | refine eio_rng2 ?_ | refine eio_zip ?_ | refine eio_any ?_ | refine eo_pur ?_ | refine to_no ?_ | refine to_yes ?_ | refine sso_nil ?_ | refine cmp_lt ?_ | refine cmp_le ?_ | refine cmp_gt ?_ | refine cmp_ge ?_ | refine cmp_eq ?_ | refine cmp_is rfl ?_ | refine cmp_isn rfl ?_ | refine cmp_in1 ?_ | refine cmp_nin1 ?_ | refine cmp_eqs (by assumption) (by assumption) ?_ | refine And.intro (show nsh _ = true from rfl) ?_ | refine Exists.intro _ (And.intro rfl ?_) | refine And.intro (short_le (show short 300 _ = true from rfl)) ?_)
      refine ⟨ys ++ [x], _, rfl, by rw [List.length_append, List.length_singleton]; omega, fun y hy' => ?_, fun y h => hd y (List.mem_cons_of_mem _ h)⟩
      rcases List.mem_append.mp hy' with h | h
      · exact hy y h
      · rw [List.mem_singleton.mp h]; exact hd x List.mem_cons_self
    · repeat (first | refine sso_cons ?_ | refine so_ret ?_ | refine so_asg ?_ | refine so_asgC ?_ | refine so_ite ?_ | refine so_expr ?_ | refine so_par ?_ | refine so_setx ?_ | refine so_aug rfl ?_ | refine eso_nil ?_ | refine eso_mv rfl ?_ | refine eso_cons (fun _ _ => rfl) ?_ | refine eo_cst rfl ?_ | refine eo_cp rfl (by first | assumption | rfl) ?_ | refine eo_mv rfl ?_ | refine eo_glb rfl ?_ | refine eo_neg ?_ | refine eo_mod ?_ | refine eo_fdiv ?_ | refine eo_mul ?_ | refine eo_pow ?_ | refine eo_bin ?_ | refine eo_cmp ?_ | refine eo_chn ?_ | refine eo_and1 ?_ | refine eo_and ?_ | refine eo_or1 ?_ | refine eo_or ?_ | refine eo_not ?_ | refine eo_ife ?_ | refine eo_lst ?_ | refine eo_tup ?_ | refine eo_ix ?_ | refine eo_sl ?_ | refine eoo_no ?_ | refine eoo_yes ?_ | refine eo_rev ?_ | refine eo_isi ?_ | refine eo_repr ?_ | refine eo_sorted ?_ | refine eo_bi ?_ | refine eo_callN rfl ?_ | refine eo_call ?_ | refine eo_callK ?_ | refine eo_mt ?_ | refine eio_rng1 ?_ | refine eio_rng2 ?_ | refine eio_zip ?_ | refine eio_any ?_ | refine eo_pur ?_ | refine to_no ?_ | refine to_yes ?_ | refine sso_nil ?_ | refine cmp_lt ?_ | refine cmp_le ?_ | refine cmp_gt ?_ | refine cmp_ge ?_ | refine cmp_eq ?_ | refine cmp_is rfl ?_ | refine cmp_isn rfl ?_ | refine cmp_in1 ?_ | refine cmp_nin1 ?_ | refine cmp_eqs (by assumption) (by assumption) ?_ | refine And.intro (show nsh _ = true from rfl) ?_ | refine Exists.intro _ (And.intro rfl ?_) | refine And.intro (short_le (show short 300 _ = true from rfl)) ?_)
      exact ⟨ys, _, rfl, by omega, hy, fun y h => hd y (List.mem_cons_of_mem _ h)⟩
  · rintro ρ ⟨ys, b, rfl, hl2, hy, hd⟩
    repeat (first | refine sso_cons ?_ | refine so_ret ?_ | refine so_asg ?_ | refine so_asgC ?_ | refine so_ite ?_ | refine so_expr ?_ | refine so_par ?_ | refine so_setx ?_ | refine so_aug rfl ?_ | refine eso_nil ?_ | refine eso_mv rfl ?_ | refine eso_cons (fun _ _ => rfl) ?_ | refine eo_cst rfl ?_ | refine eo_cp rfl (by first | assumption | rfl) ?_ | refine eo_mv rfl ?_ | refine eo_glb rfl ?_ | refine eo_neg ?_ | refine eo_mod ?_ | refine eo_fdiv ?_ | refine eo_mul ?_ | refine eo_pow ?_ | refine eo_bin ?_ | refine eo_cmp ?_ | refine eo_chn ?_ | refine eo_and1 ?_ | refine eo_and ?_ | refine eo_or1 ?_ | refine eo_or ?_ | refine eo_not ?_ | refine eo_ife ?_ | refine eo_lst ?_ | refine eo_tup ?_ | refine eo_ix ?_ | refine eo_sl ?_ | refine eoo_no ?_ | refine eoo_yes ?_ | refine eo_rev ?_ | refine eo_isi ?_ | refine eo_repr ?_ | refine eo_sorted ?_ | refine eo_bi ?_ | refine eo_callN rfl ?_ | refine eo_call ?_ | refine eo_callK ?_ | refine eo_mt ?_ | refine eio_rng1 ?_ | refine eio_rng2 ?_ | refine eio_zip ?_ | refine eio_any ?_ | refine eo_pur ?_ | refine to_no ?_ | refine to_yes ?_ | refine sso_nil ?_ | refine cmp_lt ?_ | refine cmp_le ?_ | refine cmp_gt ?_ | refine cmp_ge ?_ | refine cmp_eq ?_ | refine cmp_is rfl ?_ | refine cmp_isn rfl ?_ | refine cmp_in1 ?_ | refine cmp_nin1 ?_ | refine cmp_eqs (by assumption) (by assumption) ?_ | refine And.intro (show nsh _ = true from rfl) ?_ | refine Exists.intro _ (And.intro rfl ?_))
    exact ⟨⟨ys, rfl, by simpa using hl2, hy⟩, rfl⟩
end PLAW

set_option Elab.async false
set_option linter.all false
set_option maxRecDepth 100000
namespace PLAW
open PySem PySem.Spec PyProof.Rows L2 VK
/-! ### the end of law -/
theorem eo_ker {T : Tab} {C : CallF} {e : E} {ρ ρ1 : Rho} {d : D} {Q : D → Rho → Prop} (h : ev opBi0 opMt0 opMu0 T C e ρ = some (d, ρ1)) (q : Q d ρ1) : EO T C e ρ Q := ⟨d, ρ1, h, q⟩
def lcItE : E → E
  | .lc _ _ (.any e) _ _ _ _ => e
  | e => e
def asgE : S → E
  | .asgC _ e _ => e
  | .asg _ e _ => e
  | _ => .cst .none 0 ⟨0, 0, 0, 0⟩
def binB : E → E
  | .bin _ _ b _ => b
  | e => e
def valE : Option (D × Rho) → D
  | some (d, _) => d
  | none => .non
def nones : Rho := List.replicate 14 none
def MANY : D := slotOf 10 (exec opBi0 opMt0 opMu0 tab (cal 0) 1000 (nthS d18.body 1) nones)
def itE1 : E := lcItE (asgE (nthS d18.body 2))
def itE2 : E := lcItE (binB (asgE (nthS d18.body 3)))
def VL1 : D := valE (ev opBi0 opMt0 opMu0 tab (cal 0) itE1 (nones.set 10 (some MANY)))
def VL2 : D := valE (ev opBi0 opMt0 opMu0 tab (cal 0) itE2 nones)
theorem vl2_ok : (itemsOf VL2).all (fun v => okJ (frz v)) = true := by decide +kernel
theorem vl2_len : (itemsOf VL2).length = 18 := by decide +kernel
theorem vl1_len : (itemsOf VL1).length = 4 := by decide +kernel
end PLAW

set_option Elab.async false
set_option linter.all false
set_option maxRecDepth 100000
namespace PLAW
open PySem PySem.Spec PyProof.Rows L2 VK
theorem iter_rng (n : Nat) : ((List.range ((n : Int)).toNat).map fun (k : Nat) => D.int (k : Int)) = (List.range n).map fun (k : Nat) => D.int (k : Int) := rfl
theorem atm_int {i : Int} (h : i.natAbs < 10 ^ 13) : Atm (.int i) := ⟨⟨trivial, rfl, (rp_int 13 (by decide) h).mono (Nat.le_refl _) (by decide)⟩, rfl, rfl⟩
theorem atm_non : Atm .non := ⟨⟨trivial, rfl, rp_non.mono (Nat.le_refl _) (by decide)⟩, rfl, rfl⟩
theorem atm_str {z : Str} (h : PyData.strOk z = true) (hl : z.length ≤ 1000) : Atm (.str z) := ⟨⟨⟨h, line_ge (by omega)⟩, rfl, (rp_str h hl).mono (Nat.le_refl _) (by decide)⟩, rfl, rfl⟩
/-- a value that is judged as it is, frozen -/
def Good (v : D) : Prop := frz v = v ∧ ∃ r outs, cal 39 17 [v] = some (r, outs) ∧ r = .bl true ∧ outs = []
theorem good_lst {o : Ow} {xs : List D} (h : ∀ x ∈ xs, Atm x) (hl : xs.length ≤ 1000) : Good (frz (.lst o xs)) := by
  have hf : frzL xs = xs := frzL_self fun x hx => (h x hx).fz
  have e : frz (.lst o xs) = .lst o.fz xs := by rw [frz, hf]
  rw [e]
  have e2 : frz (.lst o.fz xs) = .lst o.fz xs := by rw [frz, hf, fz_fz]
  exact ⟨e2, cal17l 35 0 o.fz xs (fun x hx => (h x hx).toItm) hl e2 hf⟩
theorem good_tup {xs : List D} (h : ∀ x ∈ xs, Atm x) (hl : xs.length ≤ 1000) : Good (frz (.tup xs)) := by
  have hf : frzL xs = xs := frzL_self fun x hx => (h x hx).fz
  have e : frz (.tup xs) = .tup xs := by rw [frz, hf]
  rw [e]
  have hr := rp_tup (fun x hx => (h x hx).rp) hl
  exact ⟨e, cal17o 35 0 (.tup xs) trivial rfl e ⟨_, hr.repr (by decide) (by decide) rfl, hr.ok⟩⟩
theorem good_str {z : Str} (h : PyData.strOk z = true) (hl : z.length ≤ 1000) : Good (frz (.str z)) := by
  have hr := rp_str h hl
  exact ⟨rfl, cal17o 35 0 (.str z) ⟨h, line_ge (by omega)⟩ rfl rfl ⟨_, hr.repr (by decide) (by decide) rfl, hr.ok⟩⟩
theorem good_okJ {v : D} (h : okJ (frz v) = true) : Good (frz v) := by
  refine ⟨frz_frz v, ?_⟩
  unfold okJ at h
  split at h
  · exact ⟨_, _, ‹_›, rfl, rfl⟩
  · cases h
theorem good_frzL {xs : List D} (h : ∀ x ∈ xs, Good (frz x)) : ∀ x ∈ frzL xs, Good x := by
  intro x hx
  obtain ⟨i, hi, e⟩ := List.mem_iff_getElem.mp hx
  obtain ⟨u, h1, h2⟩ := frzL_get (List.getElem?_eq_some_iff.mpr ⟨hi, e⟩)
  rw [h2]
  exact h u (List.mem_of_getElem? h1)
def MN : List D := [.str "a", .str "b", .str "ab", .str "a1", .str "z", .str "abcdefgh", .str "abcdefghi", .str "A", .str "", .str "1a", .int 1, .non, .str "arm", .str "old", .str "a b", .str "aB", .str "a_b", .str "a\n", .str "a1b", .str "z0z0z0z0"]
def smallB : D → Bool
  | .str z => PyData.strOk z && decide (z.length ≤ 1000)
  | .int i => decide (i.natAbs < 10 ^ 13)
  | .non => true
  | _ => false
theorem atm_small {d : D} (h : smallB d = true) : Atm d := by
  cases d with
  | str z =>
    have h : (PyData.strOk z && decide (z.length ≤ 1000)) = true := h
    rw [Bool.and_eq_true] at h
    exact atm_str h.1 (of_decide_eq_true h.2)
  | int i => exact atm_int (of_decide_eq_true h)
  | non => exact atm_non
  | _ => cases h
theorem mn_atm : ∀ x ∈ MN, Atm x := by
  have h : MN.all smallB = true := by decide +kernel
  exact fun x hx => atm_small (List.all_eq_true.mp h x hx)
theorem mn_fz : frzL MN = MN := frzL_self fun x hx => (mn_atm x hx).fz
def isStr : D → Bool
  | .str _ => true
  | _ => false
theorem sso_mono {T : Tab} {C : CallF} {W : Nat} {s : Ss} {ρ : Rho} {Q Q' : Fl → Rho → Prop} (h : SSO T C W s ρ Q) (q : ∀ f ρ1, Q f ρ1 → Q' f ρ1) : SSO T C W s ρ Q' := by
  obtain ⟨f, ρ1, h1, h2⟩ := h
  exact ⟨f, ρ1, h1, q _ _ h2⟩
def forBody : S → Ss
  | .for_ _ _ b _ => b
  | _ => .nil
def bodyI : Ss := forBody (nthS d18.body 0)
def bodyT : Ss := forBody (nthS bodyI 1)
def TurnQ (ns : List Int) (n : Nat) (f : Fl) (ρ : Rho) : Prop := f = .nx ∧ ∃ (g : D) (a1 a3 a4 a5 a6 a7 a8 a9 a10 a11 a12 a13 : Option D), ρ = [some (scr ns), a1, some g, a3, a4, a5, a6, a7, a8, a9, a10, a11, a12, a13] ∧ Bud n g
theorem strs_in : ∀ (xs : List D), (∀ x ∈ xs, isStr x = true) → (∀ x ∈ xs, Atm x) → ∃ ws : List Str, xs = ws.map .str ∧ (∀ w ∈ ws, PyData.strOk w = true) ∧ ∀ x ∈ ws.map D.str, Atm x
  | [], _, _ => ⟨[], rfl, fun w h => (List.not_mem_nil h).elim, fun w h => (List.not_mem_nil h).elim⟩
  | x :: xs, h, ha => by
    obtain ⟨ws, h1, h2, h3⟩ := strs_in xs (fun y hy => h y (List.mem_cons_of_mem _ hy)) fun y hy => ha y (List.mem_cons_of_mem _ hy)
    have hx := h x List.mem_cons_self
    cases x <;> try (cases hx; done)
    rename_i z
    have hz := ha _ List.mem_cons_self
    exact ⟨z :: ws, by rw [h1]; rfl, fun w hw => by
      rcases List.mem_cons.mp hw with rfl | hw
      · exact hz.pl.1
      · exact h2 w hw, fun y hy => by
      rcases List.mem_cons.mp hy with rfl | hy
      · exact hz
      · exact h3 y hy⟩
theorem add_lst {o u : Ow} {xs ys : List D} (ho : o ≠ .ext) (hu : u ≠ .ext) (h : (xs ++ ys).length ≤ sizeLine) : opB .Add (.lst o xs) (.lst u ys) = some (.lst .own (xs ++ ys)) := by
  show (if o ≠ .ext ∧ u ≠ .ext ∧ xs.length + ys.length ≤ sizeLine then _ else _) = _
  rw [if_pos ⟨ho, hu, by rw [← List.length_append]; exact h⟩]
/-- the rest of a turn -/
def restT : Ss := dropS bodyT 4
theorem turn_rest (ns : List Int) (n : Nat) (g : D) (nn : List Int) (hnn : ∀ i ∈ nn, i.natAbs < 10 ^ 13) (hnl : nn.length ≤ 5) (ws : List Str) (hwl : ∀ w ∈ ws, PyData.strOk w = true) (hwa : ∀ x ∈ ws.map D.str, Atm x) (hwn : ws.length ≤ 4) (xs : List D) (hA : ∀ x ∈ xs, Atm x) (hxl : xs.length ≤ 4)
    (o : Ow) (a1 a3 a8 a9 a10 a11 a12 a13 : Option D) (hg : Bud (n + 500) g) : SSO tab (cal 39) 1000 restT [some (scr ns), a1, some g, a3, some (.lst .own (nn.map .int)), some (.lst o MN), some (.lst .shr xs), some (.lst .own (ws.map .str)), a8, a9, a10, a11, a12, a13] (TurnQ ns n) := by
  have hsf := frz_ints ns
  have hxf : frzL xs = xs := frzL_self fun x h => (hA x h).fz
  have hxs : frz (.lst .shr xs) = .lst .shr xs := by rw [frz, hxf]; rfl
  have hwf : frzL (ws.map .str) = ws.map .str := frzL_self fun x h => (hwa x h).fz
  have hwo : frz (.lst .own (ws.map .str)) = .lst .shr (ws.map .str) := by rw [frz, hwf]; rfl
  have hws : frz (.lst .shr (ws.map .str)) = .lst .shr (ws.map .str) := by rw [frz, hwf]; rfl
  have hso := sortable_strs hwl
  have hwn : (ws.map D.str).length ≤ 4 := by rw [List.length_map]; exact hwn
  generalize ws.map D.str = us at hwa hwf hwo hws hso hwn
  refine sso_cons ?_
  refine so_asg ?_
  refine eo_lst ?_
  refine eso_cons (fun _ _ => rfl) ?_
  refine eo_cp rfl hxs ?_
  refine eso_cons (fun _ _ => rfl) ?_
  refine eo_cpF rfl ?_
  rw [hwo]
  repeat (first | refine sso_cons ?_ | refine so_ret ?_ | refine so_asg ?_ | refine so_asgC ?_ | refine so_ite ?_ | refine so_expr ?_ | refine so_par ?_ | refine so_setx ?_ | refine so_aug rfl ?_ | refine eso_nil ?_ | refine eso_mv rfl ?_ | refine eso_cons (fun _ _ => rfl) ?_ | refine eo_cst rfl ?_ | refine eo_cp rfl (by first | assumption | rfl) ?_ | refine eo_mv rfl ?_ | refine eo_glb rfl ?_ | refine eo_neg ?_ | refine eo_mod ?_ | refine eo_fdiv ?_ | refine eo_mul ?_ | refine eo_pow ?_ | refine eo_bin ?_ | refine eo_cmp ?_ | refine eo_chn ?_ | refine eo_and1 ?_ | refine eo_and ?_ | refine eo_or1 ?_ | refine eo_or ?_ | refine eo_not ?_ | refine eo_ife ?_ | refine eo_lst ?_ | refine eo_tup ?_ | refine eo_ix ?_ | refine eo_sl ?_ | refine eoo_no ?_ | refine eoo_yes ?_ | refine eo_rev ?_ | refine eo_isi ?_ | refine eo_repr ?_ | refine eo_sorted ?_ | refine eo_bi ?_ | refine eo_callN rfl ?_ | refine eo_call ?_ | refine eo_callK ?_ | refine eo_mt ?_ | refine eio_rng1 ?_ | refine eio_rng2 ?_ | refine eio_zip ?_ | refine eio_any ?_ | refine eo_pur ?_ | refine to_no ?_ | refine to_yes ?_ | refine sso_nil ?_ | refine cmp_lt ?_ | refine cmp_le ?_ | refine cmp_gt ?_ | refine cmp_ge ?_ | refine cmp_eq ?_ | refine cmp_is rfl ?_ | refine cmp_isn rfl ?_ | refine cmp_in1 ?_ | refine cmp_nin1 ?_ | refine cmp_eqs (by assumption) (by assumption) ?_ | refine And.intro (show nsh _ = true from rfl) ?_ | refine Exists.intro _ (And.intro rfl ?_) | refine And.intro (short_le (show short 300 _ = true from rfl)) ?_)
  refine ⟨_, sorted_ok hso hwf, ?_⟩
  have hm : ∀ y ∈ us.mergeSort (PySem.W.dataLe false toPy), y ∈ us := fun y hy => List.mem_mergeSort.mp hy
  have hml : (us.mergeSort (PySem.W.dataLe false toPy)).length = us.length := List.length_mergeSort _
  generalize us.mergeSort (PySem.W.dataLe false toPy) = vs at hm hml
  repeat (first | refine sso_cons ?_ | refine so_ret ?_ | refine so_asg ?_ | refine so_asgC ?_ | refine so_ite ?_ | refine so_expr ?_ | refine so_par ?_ | refine so_setx ?_ | refine so_aug rfl ?_ | refine eso_nil ?_ | refine eso_mv rfl ?_ | refine eso_cons (fun _ _ => rfl) ?_ | refine eo_cst rfl ?_ | refine eo_cp rfl (by first | assumption | rfl) ?_ | refine eo_mv rfl ?_ | refine eo_glb rfl ?_ | refine eo_neg ?_ | refine eo_mod ?_ | refine eo_fdiv ?_ | refine eo_mul ?_ | refine eo_pow ?_ | refine eo_bin ?_ | refine eo_cmp ?_ | refine eo_chn ?_ | refine eo_and1 ?_ | refine eo_and ?_ | refine eo_or1 ?_ | refine eo_or ?_ | refine eo_not ?_ | refine eo_ife ?_ | refine eo_lst ?_ | refine eo_tup ?_ | refine eo_ix ?_ | refine eo_sl ?_ | refine eoo_no ?_ | refine eoo_yes ?_ | refine eo_rev ?_ | refine eo_isi ?_ | refine eo_repr ?_ | refine eo_sorted ?_ | refine eo_bi ?_ | refine eo_callN rfl ?_ | refine eo_call ?_ | refine eo_callK ?_ | refine eo_mt ?_ | refine eio_rng1 ?_ | refine eio_rng2 ?_ | refine eio_zip ?_ | refine eio_any ?_ | refine eo_pur ?_ | refine to_no ?_ | refine to_yes ?_ | refine sso_nil ?_ | refine cmp_lt ?_ | refine cmp_le ?_ | refine cmp_gt ?_ | refine cmp_ge ?_ | refine cmp_eq ?_ | refine cmp_is rfl ?_ | refine cmp_isn rfl ?_ | refine cmp_in1 ?_ | refine cmp_nin1 ?_ | refine cmp_eqs (by assumption) (by assumption) ?_ | refine And.intro (show nsh _ = true from rfl) ?_ | refine Exists.intro _ (And.intro rfl ?_) | refine And.intro (short_le (show short 300 _ = true from rfl)) ?_)
  refine coP (cal11 38 .shr us hwa hso (by omega) hws) ?_
  rintro r ⟨y1, rfl, y1l, y1m⟩
  repeat (first | refine sso_cons ?_ | refine so_ret ?_ | refine so_asg ?_ | refine so_asgC ?_ | refine so_ite ?_ | refine so_expr ?_ | refine so_par ?_ | refine so_setx ?_ | refine so_aug rfl ?_ | refine eso_nil ?_ | refine eso_mv rfl ?_ | refine eso_cons (fun _ _ => rfl) ?_ | refine eo_cst rfl ?_ | refine eo_cp rfl (by first | assumption | rfl) ?_ | refine eo_mv rfl ?_ | refine eo_glb rfl ?_ | refine eo_neg ?_ | refine eo_mod ?_ | refine eo_fdiv ?_ | refine eo_mul ?_ | refine eo_pow ?_ | refine eo_bin ?_ | refine eo_cmp ?_ | refine eo_chn ?_ | refine eo_and1 ?_ | refine eo_and ?_ | refine eo_or1 ?_ | refine eo_or ?_ | refine eo_not ?_ | refine eo_ife ?_ | refine eo_lst ?_ | refine eo_tup ?_ | refine eo_ix ?_ | refine eo_sl ?_ | refine eoo_no ?_ | refine eoo_yes ?_ | refine eo_rev ?_ | refine eo_isi ?_ | refine eo_repr ?_ | refine eo_sorted ?_ | refine eo_bi ?_ | refine eo_callN rfl ?_ | refine eo_call ?_ | refine eo_callK ?_ | refine eo_mt ?_ | refine eio_rng1 ?_ | refine eio_rng2 ?_ | refine eio_zip ?_ | refine eio_any ?_ | refine eo_pur ?_ | refine to_no ?_ | refine to_yes ?_ | refine sso_nil ?_ | refine cmp_lt ?_ | refine cmp_le ?_ | refine cmp_gt ?_ | refine cmp_ge ?_ | refine cmp_eq ?_ | refine cmp_is rfl ?_ | refine cmp_isn rfl ?_ | refine cmp_in1 ?_ | refine cmp_nin1 ?_ | refine cmp_eqs (by assumption) (by assumption) ?_ | refine And.intro (show nsh _ = true from rfl) ?_ | refine Exists.intro _ (And.intro rfl ?_) | refine And.intro (short_le (show short 300 _ = true from rfl)) ?_)
  refine coP (cal11 38 .shr us hwa hso (by omega) hws) ?_
  rintro r ⟨y2, rfl, y2l, y2m⟩
  repeat (first | refine sso_cons ?_ | refine so_ret ?_ | refine so_asg ?_ | refine so_asgC ?_ | refine so_ite ?_ | refine so_expr ?_ | refine so_par ?_ | refine so_setx ?_ | refine so_aug rfl ?_ | refine eso_nil ?_ | refine eso_mv rfl ?_ | refine eso_cons (fun _ _ => rfl) ?_ | refine eo_cst rfl ?_ | refine eo_cp rfl (by first | assumption | rfl) ?_ | refine eo_mv rfl ?_ | refine eo_glb rfl ?_ | refine eo_neg ?_ | refine eo_mod ?_ | refine eo_fdiv ?_ | refine eo_mul ?_ | refine eo_pow ?_ | refine eo_bin ?_ | refine eo_cmp ?_ | refine eo_chn ?_ | refine eo_and1 ?_ | refine eo_and ?_ | refine eo_or1 ?_ | refine eo_or ?_ | refine eo_not ?_ | refine eo_ife ?_ | refine eo_lst ?_ | refine eo_tup ?_ | refine eo_ix ?_ | refine eo_sl ?_ | refine eoo_no ?_ | refine eoo_yes ?_ | refine eo_rev ?_ | refine eo_isi ?_ | refine eo_repr ?_ | refine eo_sorted ?_ | refine eo_bi ?_ | refine eo_callN rfl ?_ | refine eo_call ?_ | refine eo_callK ?_ | refine eo_mt ?_ | refine eio_rng1 ?_ | refine eio_rng2 ?_ | refine eio_zip ?_ | refine eio_any ?_ | refine eo_pur ?_ | refine to_no ?_ | refine to_yes ?_ | refine sso_nil ?_ | refine cmp_lt ?_ | refine cmp_le ?_ | refine cmp_gt ?_ | refine cmp_ge ?_ | refine cmp_eq ?_ | refine cmp_is rfl ?_ | refine cmp_isn rfl ?_ | refine cmp_in1 ?_ | refine cmp_nin1 ?_ | refine cmp_eqs (by assumption) (by assumption) ?_ | refine And.intro (show nsh _ = true from rfl) ?_ | refine Exists.intro _ (And.intro rfl ?_) | refine And.intro (short_le (show short 300 _ = true from rfl)) ?_)
  refine coP (cal11 38 .shr us hwa hso (by omega) hws) ?_
  rintro r ⟨y3, rfl, y3l, y3m⟩
  repeat (first | refine sso_cons ?_ | refine so_ret ?_ | refine so_asg ?_ | refine so_asgC ?_ | refine so_ite ?_ | refine so_expr ?_ | refine so_par ?_ | refine so_setx ?_ | refine so_aug rfl ?_ | refine eso_nil ?_ | refine eso_mv rfl ?_ | refine eso_cons (fun _ _ => rfl) ?_ | refine eo_cst rfl ?_ | refine eo_cp rfl (by first | assumption | rfl) ?_ | refine eo_mv rfl ?_ | refine eo_glb rfl ?_ | refine eo_neg ?_ | refine eo_mod ?_ | refine eo_fdiv ?_ | refine eo_mul ?_ | refine eo_pow ?_ | refine eo_bin ?_ | refine eo_cmp ?_ | refine eo_chn ?_ | refine eo_and1 ?_ | refine eo_and ?_ | refine eo_or1 ?_ | refine eo_or ?_ | refine eo_not ?_ | refine eo_ife ?_ | refine eo_lst ?_ | refine eo_tup ?_ | refine eo_ix ?_ | refine eo_sl ?_ | refine eoo_no ?_ | refine eoo_yes ?_ | refine eo_rev ?_ | refine eo_isi ?_ | refine eo_repr ?_ | refine eo_sorted ?_ | refine eo_bi ?_ | refine eo_callN rfl ?_ | refine eo_call ?_ | refine eo_callK ?_ | refine eo_mt ?_ | refine eio_rng1 ?_ | refine eio_rng2 ?_ | refine eio_zip ?_ | refine eio_any ?_ | refine eo_pur ?_ | refine to_no ?_ | refine to_yes ?_ | refine sso_nil ?_ | refine cmp_lt ?_ | refine cmp_le ?_ | refine cmp_gt ?_ | refine cmp_ge ?_ | refine cmp_eq ?_ | refine cmp_is rfl ?_ | refine cmp_isn rfl ?_ | refine cmp_in1 ?_ | refine cmp_nin1 ?_ | refine cmp_eqs (by assumption) (by assumption) ?_ | refine And.intro (show nsh _ = true from rfl) ?_ | refine Exists.intro _ (And.intro rfl ?_) | refine And.intro (short_le (show short 300 _ = true from rfl)) ?_)
  refine coP (cal11 38 .shr us hwa hso (by omega) hws) ?_
  rintro r ⟨y4, rfl, y4l, y4m⟩
  repeat (first | refine sso_cons ?_ | refine so_ret ?_ | refine so_asg ?_ | refine so_asgC ?_ | refine so_ite ?_ | refine so_expr ?_ | refine so_par ?_ | refine so_setx ?_ | refine so_aug rfl ?_ | refine eso_nil ?_ | refine eso_mv rfl ?_ | refine eso_cons (fun _ _ => rfl) ?_ | refine eo_cst rfl ?_ | refine eo_cp rfl (by first | assumption | rfl) ?_ | refine eo_mv rfl ?_ | refine eo_glb rfl ?_ | refine eo_neg ?_ | refine eo_mod ?_ | refine eo_fdiv ?_ | refine eo_mul ?_ | refine eo_pow ?_ | refine eo_bin ?_ | refine eo_cmp ?_ | refine eo_chn ?_ | refine eo_and1 ?_ | refine eo_and ?_ | refine eo_or1 ?_ | refine eo_or ?_ | refine eo_not ?_ | refine eo_ife ?_ | refine eo_lst ?_ | refine eo_tup ?_ | refine eo_ix ?_ | refine eo_sl ?_ | refine eoo_no ?_ | refine eoo_yes ?_ | refine eo_rev ?_ | refine eo_isi ?_ | refine eo_repr ?_ | refine eo_sorted ?_ | refine eo_bi ?_ | refine eo_callN rfl ?_ | refine eo_call ?_ | refine eo_callK ?_ | refine eo_mt ?_ | refine eio_rng1 ?_ | refine eio_rng2 ?_ | refine eio_zip ?_ | refine eio_any ?_ | refine eo_pur ?_ | refine to_no ?_ | refine to_yes ?_ | refine sso_nil ?_ | refine cmp_lt ?_ | refine cmp_le ?_ | refine cmp_gt ?_ | refine cmp_ge ?_ | refine cmp_eq ?_ | refine cmp_is rfl ?_ | refine cmp_isn rfl ?_ | refine cmp_in1 ?_ | refine cmp_nin1 ?_ | refine cmp_eqs (by assumption) (by assumption) ?_ | refine And.intro (show nsh _ = true from rfl) ?_ | refine Exists.intro _ (And.intro rfl ?_) | refine And.intro (short_le (show short 300 _ = true from rfl)) ?_)
  have hna : ∀ x ∈ nn.map D.int, Atm x := fun x h => by
    obtain ⟨i, hi, rfl⟩ := List.mem_map.mp h
    exact atm_int (hnn i hi)
  have hnf := frzL_ints nn
  have hno : frz (.lst .own (nn.map .int)) = .lst .shr (nn.map .int) := by rw [frz, hnf]; rfl
  have hns : frz (.lst .shr (nn.map .int)) = .lst .shr (nn.map .int) := by rw [frz, hnf]; rfl
  have hnso := sortable_ints nn
  have hnl : (nn.map D.int).length ≤ 5 := by rw [List.length_map]; exact hnl
  generalize nn.map D.int = nu at hna hnf hno hns hnso hnl
  refine so_forI ?_
  repeat (first | refine sso_cons ?_ | refine so_ret ?_ | refine so_asg ?_ | refine so_asgC ?_ | refine so_ite ?_ | refine so_expr ?_ | refine so_par ?_ | refine so_setx ?_ | refine so_aug rfl ?_ | refine eso_nil ?_ | refine eso_mv rfl ?_ | refine eso_cons (fun _ _ => rfl) ?_ | refine eo_cst rfl ?_ | refine eo_cp rfl (by first | assumption | rfl) ?_ | refine eo_mv rfl ?_ | refine eo_glb rfl ?_ | refine eo_neg ?_ | refine eo_mod ?_ | refine eo_fdiv ?_ | refine eo_mul ?_ | refine eo_pow ?_ | refine eo_bin ?_ | refine eo_cmp ?_ | refine eo_chn ?_ | refine eo_and1 ?_ | refine eo_and ?_ | refine eo_or1 ?_ | refine eo_or ?_ | refine eo_not ?_ | refine eo_ife ?_ | refine eo_lst ?_ | refine eo_tup ?_ | refine eo_ix ?_ | refine eo_sl ?_ | refine eoo_no ?_ | refine eoo_yes ?_ | refine eo_rev ?_ | refine eo_isi ?_ | refine eo_repr ?_ | refine eo_sorted ?_ | refine eo_bi ?_ | refine eo_callN rfl ?_ | refine eo_call ?_ | refine eo_callK ?_ | refine eo_mt ?_ | refine eio_rng1 ?_ | refine eio_rng2 ?_ | refine eio_zip ?_ | refine eio_any ?_ | refine eo_pur ?_ | refine to_no ?_ | refine to_yes ?_ | refine sso_nil ?_ | refine cmp_lt ?_ | refine cmp_le ?_ | refine cmp_gt ?_ | refine cmp_ge ?_ | refine cmp_eq ?_ | refine cmp_is rfl ?_ | refine cmp_isn rfl ?_ | refine cmp_in1 ?_ | refine cmp_nin1 ?_ | refine cmp_eqs (by assumption) (by assumption) ?_ | refine And.intro (show nsh _ = true from rfl) ?_ | refine Exists.intro _ (And.intro rfl ?_) | refine And.intro (short_le (show short 300 _ = true from rfl)) ?_)
  refine coG (cal12 (n + 400) g (hg.mono (by omega))) ?_
  intro r0 g hr0 hg
  repeat (first | refine sso_cons ?_ | refine so_ret ?_ | refine so_asg ?_ | refine so_asgC ?_ | refine so_ite ?_ | refine so_expr ?_ | refine so_par ?_ | refine so_setx ?_ | refine so_aug rfl ?_ | refine eso_nil ?_ | refine eso_mv rfl ?_ | refine eso_cons (fun _ _ => rfl) ?_ | refine eo_cst rfl ?_ | refine eo_cp rfl (by first | assumption | rfl) ?_ | refine eo_mv rfl ?_ | refine eo_glb rfl ?_ | refine eo_neg ?_ | refine eo_mod ?_ | refine eo_fdiv ?_ | refine eo_mul ?_ | refine eo_pow ?_ | refine eo_bin ?_ | refine eo_cmp ?_ | refine eo_chn ?_ | refine eo_and1 ?_ | refine eo_and ?_ | refine eo_or1 ?_ | refine eo_or ?_ | refine eo_not ?_ | refine eo_ife ?_ | refine eo_lst ?_ | refine eo_tup ?_ | refine eo_ix ?_ | refine eo_sl ?_ | refine eoo_no ?_ | refine eoo_yes ?_ | refine eo_rev ?_ | refine eo_isi ?_ | refine eo_repr ?_ | refine eo_sorted ?_ | refine eo_bi ?_ | refine eo_callN rfl ?_ | refine eo_call ?_ | refine eo_callK ?_ | refine eo_mt ?_ | refine eio_rng1 ?_ | refine eio_rng2 ?_ | refine eio_zip ?_ | refine eio_any ?_ | refine eo_pur ?_ | refine to_no ?_ | refine to_yes ?_ | refine sso_nil ?_ | refine cmp_lt ?_ | refine cmp_le ?_ | refine cmp_gt ?_ | refine cmp_ge ?_ | refine cmp_eq ?_ | refine cmp_is rfl ?_ | refine cmp_isn rfl ?_ | refine cmp_in1 ?_ | refine cmp_nin1 ?_ | refine cmp_eqs (by assumption) (by assumption) ?_ | refine And.intro (show nsh _ = true from rfl) ?_ | refine Exists.intro _ (And.intro rfl ?_) | refine And.intro (short_le (show short 300 _ = true from rfl)) ?_)
  refine coG (cal15 35 (n + 200) g (hg.mono (by omega))) ?_
  rintro r g ⟨z, rfl, hz1, hz2⟩ hg
  refine eso_cons (fun _ _ => rfl) ?_
  refine eo_cpF rfl ?_
  rw [hno]
  repeat (first | refine sso_cons ?_ | refine so_ret ?_ | refine so_asg ?_ | refine so_asgC ?_ | refine so_ite ?_ | refine so_expr ?_ | refine so_par ?_ | refine so_setx ?_ | refine so_aug rfl ?_ | refine eso_nil ?_ | refine eso_mv rfl ?_ | refine eso_cons (fun _ _ => rfl) ?_ | refine eo_cst rfl ?_ | refine eo_cp rfl (by first | assumption | rfl) ?_ | refine eo_mv rfl ?_ | refine eo_glb rfl ?_ | refine eo_neg ?_ | refine eo_mod ?_ | refine eo_fdiv ?_ | refine eo_mul ?_ | refine eo_pow ?_ | refine eo_bin ?_ | refine eo_cmp ?_ | refine eo_chn ?_ | refine eo_and1 ?_ | refine eo_and ?_ | refine eo_or1 ?_ | refine eo_or ?_ | refine eo_not ?_ | refine eo_ife ?_ | refine eo_lst ?_ | refine eo_tup ?_ | refine eo_ix ?_ | refine eo_sl ?_ | refine eoo_no ?_ | refine eoo_yes ?_ | refine eo_rev ?_ | refine eo_isi ?_ | refine eo_repr ?_ | refine eo_sorted ?_ | refine eo_bi ?_ | refine eo_callN rfl ?_ | refine eo_call ?_ | refine eo_callK ?_ | refine eo_mt ?_ | refine eio_rng1 ?_ | refine eio_rng2 ?_ | refine eio_zip ?_ | refine eio_any ?_ | refine eo_pur ?_ | refine to_no ?_ | refine to_yes ?_ | refine sso_nil ?_ | refine cmp_lt ?_ | refine cmp_le ?_ | refine cmp_gt ?_ | refine cmp_ge ?_ | refine cmp_eq ?_ | refine cmp_is rfl ?_ | refine cmp_isn rfl ?_ | refine cmp_in1 ?_ | refine cmp_nin1 ?_ | refine cmp_eqs (by assumption) (by assumption) ?_ | refine And.intro (show nsh _ = true from rfl) ?_ | refine Exists.intro _ (And.intro rfl ?_) | refine And.intro (short_le (show short 300 _ = true from rfl)) ?_)
  refine ⟨_, sorted_ok hnso hnf, ?_⟩
  have hnm : ∀ y ∈ nu.mergeSort (PySem.W.dataLe false toPy), y ∈ nu := fun y hy => List.mem_mergeSort.mp hy
  have hnml : (nu.mergeSort (PySem.W.dataLe false toPy)).length = nu.length := List.length_mergeSort _
  generalize nu.mergeSort (PySem.W.dataLe false toPy) = nv at hnm hnml
  repeat (first | refine sso_cons ?_ | refine so_ret ?_ | refine so_asg ?_ | refine so_asgC ?_ | refine so_ite ?_ | refine so_expr ?_ | refine so_par ?_ | refine so_setx ?_ | refine so_aug rfl ?_ | refine eso_nil ?_ | refine eso_mv rfl ?_ | refine eso_cons (fun _ _ => rfl) ?_ | refine eo_cst rfl ?_ | refine eo_cp rfl (by first | assumption | rfl) ?_ | refine eo_mv rfl ?_ | refine eo_glb rfl ?_ | refine eo_neg ?_ | refine eo_mod ?_ | refine eo_fdiv ?_ | refine eo_mul ?_ | refine eo_pow ?_ | refine eo_bin ?_ | refine eo_cmp ?_ | refine eo_chn ?_ | refine eo_and1 ?_ | refine eo_and ?_ | refine eo_or1 ?_ | refine eo_or ?_ | refine eo_not ?_ | refine eo_ife ?_ | refine eo_lst ?_ | refine eo_tup ?_ | refine eo_ix ?_ | refine eo_sl ?_ | refine eoo_no ?_ | refine eoo_yes ?_ | refine eo_rev ?_ | refine eo_isi ?_ | refine eo_repr ?_ | refine eo_sorted ?_ | refine eo_bi ?_ | refine eo_callN rfl ?_ | refine eo_call ?_ | refine eo_callK ?_ | refine eo_mt ?_ | refine eio_rng1 ?_ | refine eio_rng2 ?_ | refine eio_zip ?_ | refine eio_any ?_ | refine eo_pur ?_ | refine to_no ?_ | refine to_yes ?_ | refine sso_nil ?_ | refine cmp_lt ?_ | refine cmp_le ?_ | refine cmp_gt ?_ | refine cmp_ge ?_ | refine cmp_eq ?_ | refine cmp_is rfl ?_ | refine cmp_isn rfl ?_ | refine cmp_in1 ?_ | refine cmp_nin1 ?_ | refine cmp_eqs (by assumption) (by assumption) ?_ | refine And.intro (show nsh _ = true from rfl) ?_ | refine Exists.intro _ (And.intro rfl ?_) | refine And.intro (short_le (show short 300 _ = true from rfl)) ?_)
  refine coP (cal11 38 .shr nu hna hnso (by omega) hns) ?_
  rintro r ⟨y5, rfl, y5l, y5m⟩
  repeat (first | refine sso_cons ?_ | refine so_ret ?_ | refine so_asg ?_ | refine so_asgC ?_ | refine so_ite ?_ | refine so_expr ?_ | refine so_par ?_ | refine so_setx ?_ | refine so_aug rfl ?_ | refine eso_nil ?_ | refine eso_mv rfl ?_ | refine eso_cons (fun _ _ => rfl) ?_ | refine eo_cst rfl ?_ | refine eo_cp rfl (by first | assumption | rfl) ?_ | refine eo_mv rfl ?_ | refine eo_glb rfl ?_ | refine eo_neg ?_ | refine eo_mod ?_ | refine eo_fdiv ?_ | refine eo_mul ?_ | refine eo_pow ?_ | refine eo_bin ?_ | refine eo_cmp ?_ | refine eo_chn ?_ | refine eo_and1 ?_ | refine eo_and ?_ | refine eo_or1 ?_ | refine eo_or ?_ | refine eo_not ?_ | refine eo_ife ?_ | refine eo_lst ?_ | refine eo_tup ?_ | refine eo_ix ?_ | refine eo_sl ?_ | refine eoo_no ?_ | refine eoo_yes ?_ | refine eo_rev ?_ | refine eo_isi ?_ | refine eo_repr ?_ | refine eo_sorted ?_ | refine eo_bi ?_ | refine eo_callN rfl ?_ | refine eo_call ?_ | refine eo_callK ?_ | refine eo_mt ?_ | refine eio_rng1 ?_ | refine eio_rng2 ?_ | refine eio_zip ?_ | refine eio_any ?_ | refine eo_pur ?_ | refine to_no ?_ | refine to_yes ?_ | refine sso_nil ?_ | refine cmp_lt ?_ | refine cmp_le ?_ | refine cmp_gt ?_ | refine cmp_ge ?_ | refine cmp_eq ?_ | refine cmp_is rfl ?_ | refine cmp_isn rfl ?_ | refine cmp_in1 ?_ | refine cmp_nin1 ?_ | refine cmp_eqs (by assumption) (by assumption) ?_ | refine And.intro (show nsh _ = true from rfl) ?_ | refine Exists.intro _ (And.intro rfl ?_) | refine And.intro (short_le (show short 300 _ = true from rfl)) ?_)
  refine coP (cal11 38 .shr nu hna hnso (by omega) hns) ?_
  rintro r ⟨y6, rfl, y6l, y6m⟩
  repeat (first | refine sso_cons ?_ | refine so_ret ?_ | refine so_asg ?_ | refine so_asgC ?_ | refine so_ite ?_ | refine so_expr ?_ | refine so_par ?_ | refine so_setx ?_ | refine so_aug rfl ?_ | refine eso_nil ?_ | refine eso_mv rfl ?_ | refine eso_cons (fun _ _ => rfl) ?_ | refine eo_cst rfl ?_ | refine eo_cp rfl (by first | assumption | rfl) ?_ | refine eo_mv rfl ?_ | refine eo_glb rfl ?_ | refine eo_neg ?_ | refine eo_mod ?_ | refine eo_fdiv ?_ | refine eo_mul ?_ | refine eo_pow ?_ | refine eo_bin ?_ | refine eo_cmp ?_ | refine eo_chn ?_ | refine eo_and1 ?_ | refine eo_and ?_ | refine eo_or1 ?_ | refine eo_or ?_ | refine eo_not ?_ | refine eo_ife ?_ | refine eo_lst ?_ | refine eo_tup ?_ | refine eo_ix ?_ | refine eo_sl ?_ | refine eoo_no ?_ | refine eoo_yes ?_ | refine eo_rev ?_ | refine eo_isi ?_ | refine eo_repr ?_ | refine eo_sorted ?_ | refine eo_bi ?_ | refine eo_callN rfl ?_ | refine eo_call ?_ | refine eo_callK ?_ | refine eo_mt ?_ | refine eio_rng1 ?_ | refine eio_rng2 ?_ | refine eio_zip ?_ | refine eio_any ?_ | refine eo_pur ?_ | refine to_no ?_ | refine to_yes ?_ | refine sso_nil ?_ | refine cmp_lt ?_ | refine cmp_le ?_ | refine cmp_gt ?_ | refine cmp_ge ?_ | refine cmp_eq ?_ | refine cmp_is rfl ?_ | refine cmp_isn rfl ?_ | refine cmp_in1 ?_ | refine cmp_nin1 ?_ | refine cmp_eqs (by assumption) (by assumption) ?_ | refine And.intro (show nsh _ = true from rfl) ?_ | refine Exists.intro _ (And.intro rfl ?_) | refine And.intro (short_le (show short 300 _ = true from rfl)) ?_)
  refine eo_cpF rfl ?_
  have gl : ∀ {o : Ow} {l : List D}, (∀ y ∈ l, y ∈ us) → l.length ≤ 1000 → Good (frz (.lst o l)) := fun h hl => good_lst (fun x hx => hwa x (h x hx)) hl
  have gn : ∀ {o : Ow} {l : List D}, (∀ y ∈ l, y ∈ nu) → l.length ≤ 1000 → Good (frz (.lst o l)) := fun h hl => good_lst (fun x hx => hna x (h x hx)) hl
  have e2 : frzL y2 = y2 := frzL_self fun x h => (hwa x (y2m x h)).fz
  have e6 : frzL y6 = y6 := frzL_self fun x h => (hna x (y6m x h)).fz
  have hB : ∀ u ∈ [D.lst .shr xs, .lst .shr us, .lst .own vs, .lst .own y1, .tup (frzL y2), .lst .own (List.take (HT.sIx y3.length y3.length (some 1) - HT.sIx y3.length 0 none) (List.drop (HT.sIx y3.length 0 none) y3)), .lst .own y4.reverse], Good (frz u) := by
    intro u hu
    simp only [List.mem_cons, List.not_mem_nil, or_false] at hu
    rcases hu with rfl | rfl | rfl | rfl | rfl | rfl | rfl
    · exact good_lst hA (by omega)
    · exact gl (fun y h => h) (by omega)
    · exact gl hm (by omega)
    · exact gl y1m (by omega)
    · rw [e2]; exact good_tup (fun x h => hwa x (y2m x h)) (by omega)
    · exact gl (fun y h => y3m y (List.mem_of_mem_drop (List.mem_of_mem_take h))) (by rw [List.length_take, List.length_drop]; omega)
    · exact gl (fun y h => y4m y (List.mem_reverse.mp h)) (by rw [List.length_reverse]; omega)
  have hC : ∀ u ∈ [r0, D.str z, .lst .shr nu, .lst .own nv, .lst .own y5, .tup (frzL y6)], Good (frz u) := by
    intro u hu
    simp only [List.mem_cons, List.not_mem_nil, or_false] at hu
    rcases hu with rfl | rfl | rfl | rfl | rfl | rfl
    · exact good_okJ hr0
    · exact good_str hz1 (by omega)
    · exact gn (fun y h => h) (by omega)
    · exact gn hnm (by omega)
    · exact gn y5m (by omega)
    · rw [e6]; exact good_tup (fun x h => hna x (y6m x h)) (by omega)
  refine ⟨_, add_lst (by decide) (by decide) (short_le rfl), .inl ⟨_, _, rfl, ?_⟩⟩
  have hG : ∀ v ∈ frzL ([r0, D.str z, .lst .shr nu, .lst .own nv, .lst .own y5, .tup (frzL y6)] ++ frzL [D.lst .shr xs, .lst .shr us, .lst .own vs, .lst .own y1, .tup (frzL y2), .lst .own (List.take (HT.sIx y3.length y3.length (some 1) - HT.sIx y3.length 0 none) (List.drop (HT.sIx y3.length 0 none) y3)), .lst .own y4.reverse]), Good v := by
    refine good_frzL fun u hu => ?_
    rcases List.mem_append.mp hu with h | h
    · exact hC u h
    · have := good_frzL hB u h
      rw [this.1]; exact this
  generalize frzL ([r0, D.str z, .lst .shr nu, .lst .own nv, .lst .own y5, .tup (frzL y6)] ++ frzL [D.lst .shr xs, .lst .shr us, .lst .own vs, .lst .own y1, .tup (frzL y2), .lst .own (List.take (HT.sIx y3.length y3.length (some 1) - HT.sIx y3.length 0 none) (List.drop (HT.sIx y3.length 0 none) y3)), .lst .own y4.reverse]) = all at hG
  refine ⟨fun (ds : List D) (ρ : Rho) => ∃ (b1 b3 b4 b5 b6 b7 b8 b9 b10 b11 b12 b13 : Option D), ρ = [some (scr ns), b1, some g, b3, b4, b5, b6, b7, b8, b9, b10, b11, b12, b13] ∧ ∀ v ∈ ds, Good v, ?_, ?_, ?_⟩
  · exact ⟨_, _, _, _, _, _, _, _, _, _, _, _, rfl, hG⟩
  · rintro v ds ρ ⟨b1, b3, b4, b5, b6, b7, b8, b9, b10, b11, b12, b13, rfl, hv⟩
    obtain ⟨hvf, hvc⟩ := hv v List.mem_cons_self
    refine ⟨_, rfl, ?_⟩
    repeat (first | refine sso_cons ?_ | refine so_ret ?_ | refine so_asg ?_ | refine so_asgC ?_ | refine so_ite ?_ | refine so_expr ?_ | refine so_par ?_ | refine so_setx ?_ | refine so_aug rfl ?_ | refine eso_nil ?_ | refine eso_mv rfl ?_ | refine eso_cons (fun _ _ => rfl) ?_ | refine eo_cst rfl ?_ | refine eo_cp rfl (by first | assumption | rfl) ?_ | refine eo_mv rfl ?_ | refine eo_glb rfl ?_ | refine eo_neg ?_ | refine eo_mod ?_ | refine eo_fdiv ?_ | refine eo_mul ?_ | refine eo_pow ?_ | refine eo_bin ?_ | refine eo_cmp ?_ | refine eo_chn ?_ | refine eo_and1 ?_ | refine eo_and ?_ | refine eo_or1 ?_ | refine eo_or ?_ | refine eo_not ?_ | refine eo_ife ?_ | refine eo_lst ?_ | refine eo_tup ?_ | refine eo_ix ?_ | refine eo_sl ?_ | refine eoo_no ?_ | refine eoo_yes ?_ | refine eo_rev ?_ | refine eo_isi ?_ | refine eo_repr ?_ | refine eo_sorted ?_ | refine eo_bi ?_ | refine eo_callN rfl ?_ | refine eo_call ?_ | refine eo_callK ?_ | refine eo_mt ?_ | refine eio_rng1 ?_ | refine eio_rng2 ?_ | refine eio_zip ?_ | refine eio_any ?_ | refine eo_pur ?_ | refine to_no ?_ | refine to_yes ?_ | refine sso_nil ?_ | refine cmp_lt ?_ | refine cmp_le ?_ | refine cmp_gt ?_ | refine cmp_ge ?_ | refine cmp_eq ?_ | refine cmp_is rfl ?_ | refine cmp_isn rfl ?_ | refine cmp_in1 ?_ | refine cmp_nin1 ?_ | refine cmp_eqs (by assumption) (by assumption) ?_ | refine And.intro (show nsh _ = true from rfl) ?_ | refine Exists.intro _ (And.intro rfl ?_) | refine And.intro (short_le (show short 300 _ = true from rfl)) ?_)
    refine coN hvc ?_
    repeat (first | refine sso_cons ?_ | refine so_ret ?_ | refine so_asg ?_ | refine so_asgC ?_ | refine so_ite ?_ | refine so_expr ?_ | refine so_par ?_ | refine so_setx ?_ | refine so_aug rfl ?_ | refine eso_nil ?_ | refine eso_mv rfl ?_ | refine eso_cons (fun _ _ => rfl) ?_ | refine eo_cst rfl ?_ | refine eo_cp rfl (by first | assumption | rfl) ?_ | refine eo_mv rfl ?_ | refine eo_glb rfl ?_ | refine eo_neg ?_ | refine eo_mod ?_ | refine eo_fdiv ?_ | refine eo_mul ?_ | refine eo_pow ?_ | refine eo_bin ?_ | refine eo_cmp ?_ | refine eo_chn ?_ | refine eo_and1 ?_ | refine eo_and ?_ | refine eo_or1 ?_ | refine eo_or ?_ | refine eo_not ?_ | refine eo_ife ?_ | refine eo_lst ?_ | refine eo_tup ?_ | refine eo_ix ?_ | refine eo_sl ?_ | refine eoo_no ?_ | refine eoo_yes ?_ | refine eo_rev ?_ | refine eo_isi ?_ | refine eo_repr ?_ | refine eo_sorted ?_ | refine eo_bi ?_ | refine eo_callN rfl ?_ | refine eo_call ?_ | refine eo_callK ?_ | refine eo_mt ?_ | refine eio_rng1 ?_ | refine eio_rng2 ?_ | refine eio_zip ?_ | refine eio_any ?_ | refine eo_pur ?_ | refine to_no ?_ | refine to_yes ?_ | refine sso_nil ?_ | refine cmp_lt ?_ | refine cmp_le ?_ | refine cmp_gt ?_ | refine cmp_ge ?_ | refine cmp_eq ?_ | refine cmp_is rfl ?_ | refine cmp_isn rfl ?_ | refine cmp_in1 ?_ | refine cmp_nin1 ?_ | refine cmp_eqs (by assumption) (by assumption) ?_ | refine And.intro (show nsh _ = true from rfl) ?_ | refine Exists.intro _ (And.intro rfl ?_) | refine And.intro (short_le (show short 300 _ = true from rfl)) ?_)
    exact ⟨_, _, _, _, _, _, _, _, _, _, _, _, rfl, fun u h => hv u (List.mem_cons_of_mem _ h)⟩
  · rintro ρ ⟨b1, b3, b4, b5, b6, b7, b8, b9, b10, b11, b12, b13, rfl, hv⟩
    repeat (first | refine sso_cons ?_ | refine so_ret ?_ | refine so_asg ?_ | refine so_asgC ?_ | refine so_ite ?_ | refine so_expr ?_ | refine so_par ?_ | refine so_setx ?_ | refine so_aug rfl ?_ | refine eso_nil ?_ | refine eso_mv rfl ?_ | refine eso_cons (fun _ _ => rfl) ?_ | refine eo_cst rfl ?_ | refine eo_cp rfl (by first | assumption | rfl) ?_ | refine eo_mv rfl ?_ | refine eo_glb rfl ?_ | refine eo_neg ?_ | refine eo_mod ?_ | refine eo_fdiv ?_ | refine eo_mul ?_ | refine eo_pow ?_ | refine eo_bin ?_ | refine eo_cmp ?_ | refine eo_chn ?_ | refine eo_and1 ?_ | refine eo_and ?_ | refine eo_or1 ?_ | refine eo_or ?_ | refine eo_not ?_ | refine eo_ife ?_ | refine eo_lst ?_ | refine eo_tup ?_ | refine eo_ix ?_ | refine eo_sl ?_ | refine eoo_no ?_ | refine eoo_yes ?_ | refine eo_rev ?_ | refine eo_isi ?_ | refine eo_repr ?_ | refine eo_sorted ?_ | refine eo_bi ?_ | refine eo_callN rfl ?_ | refine eo_call ?_ | refine eo_callK ?_ | refine eo_mt ?_ | refine eio_rng1 ?_ | refine eio_rng2 ?_ | refine eio_zip ?_ | refine eio_any ?_ | refine eo_pur ?_ | refine to_no ?_ | refine to_yes ?_ | refine sso_nil ?_ | refine cmp_lt ?_ | refine cmp_le ?_ | refine cmp_gt ?_ | refine cmp_ge ?_ | refine cmp_eq ?_ | refine cmp_is rfl ?_ | refine cmp_isn rfl ?_ | refine cmp_in1 ?_ | refine cmp_nin1 ?_ | refine cmp_eqs (by assumption) (by assumption) ?_ | refine And.intro (show nsh _ = true from rfl) ?_ | refine Exists.intro _ (And.intro rfl ?_) | refine And.intro (short_le (show short 300 _ = true from rfl)) ?_)
    exact ⟨rfl, g, _, _, _, _, _, _, _, _, _, _, _, _, rfl, hg.mono (by omega)⟩
theorem turn_ok (ns : List Int) (n : Nat) (g : D) (a1 a3 a4 a5 a6 a7 a8 a9 a10 a11 a12 a13 : Option D) (hg : Bud (n + 1000) g) : SSO tab (cal 39) 1000 bodyT [some (scr ns), a1, some g, a3, a4, a5, a6, a7, a8, a9, a10, a11, a12, a13] (TurnQ ns n) := by
  have hsf := frz_ints ns
  repeat (first | refine sso_cons ?_ | refine so_ret ?_ | refine so_asg ?_ | refine so_asgC ?_ | refine so_ite ?_ | refine so_expr ?_ | refine so_par ?_ | refine so_setx ?_ | refine so_aug rfl ?_ | refine eso_nil ?_ | refine eso_mv rfl ?_ | refine eso_cons (fun _ _ => rfl) ?_ | refine eo_cst rfl ?_ | refine eo_cp rfl (by first | assumption | rfl) ?_ | refine eo_mv rfl ?_ | refine eo_glb rfl ?_ | refine eo_neg ?_ | refine eo_mod ?_ | refine eo_fdiv ?_ | refine eo_mul ?_ | refine eo_pow ?_ | refine eo_bin ?_ | refine eo_cmp ?_ | refine eo_chn ?_ | refine eo_and1 ?_ | refine eo_and ?_ | refine eo_or1 ?_ | refine eo_or ?_ | refine eo_not ?_ | refine eo_ife ?_ | refine eo_lst ?_ | refine eo_tup ?_ | refine eo_ix ?_ | refine eo_sl ?_ | refine eoo_no ?_ | refine eoo_yes ?_ | refine eo_rev ?_ | refine eo_isi ?_ | refine eo_repr ?_ | refine eo_sorted ?_ | refine eo_bi ?_ | refine eo_callN rfl ?_ | refine eo_call ?_ | refine eo_callK ?_ | refine eo_mt ?_ | refine eio_rng1 ?_ | refine eio_rng2 ?_ | refine eio_zip ?_ | refine eio_any ?_ | refine eo_pur ?_ | refine to_no ?_ | refine to_yes ?_ | refine sso_nil ?_ | refine cmp_lt ?_ | refine cmp_le ?_ | refine cmp_gt ?_ | refine cmp_ge ?_ | refine cmp_eq ?_ | refine cmp_is rfl ?_ | refine cmp_isn rfl ?_ | refine cmp_in1 ?_ | refine cmp_nin1 ?_ | refine cmp_eqs (by assumption) (by assumption) ?_ | refine And.intro (show nsh _ = true from rfl) ?_ | refine Exists.intro _ (And.intro rfl ?_) | refine And.intro (short_le (show short 300 _ = true from rfl)) ?_)
  refine coG (cal16 35 (n + 800) g (hg.mono (by omega))) ?_
  rintro r g ⟨nn, rfl, hnl, hnn⟩ hg
  repeat (first | refine sso_cons ?_ | refine so_ret ?_ | refine so_asg ?_ | refine so_asgC ?_ | refine so_ite ?_ | refine so_expr ?_ | refine so_par ?_ | refine so_setx ?_ | refine so_aug rfl ?_ | refine eso_nil ?_ | refine eso_mv rfl ?_ | refine eso_cons (fun _ _ => rfl) ?_ | refine eo_cst rfl ?_ | refine eo_cp rfl (by first | assumption | rfl) ?_ | refine eo_mv rfl ?_ | refine eo_glb rfl ?_ | refine eo_neg ?_ | refine eo_mod ?_ | refine eo_fdiv ?_ | refine eo_mul ?_ | refine eo_pow ?_ | refine eo_bin ?_ | refine eo_cmp ?_ | refine eo_chn ?_ | refine eo_and1 ?_ | refine eo_and ?_ | refine eo_or1 ?_ | refine eo_or ?_ | refine eo_not ?_ | refine eo_ife ?_ | refine eo_lst ?_ | refine eo_tup ?_ | refine eo_ix ?_ | refine eo_sl ?_ | refine eoo_no ?_ | refine eoo_yes ?_ | refine eo_rev ?_ | refine eo_isi ?_ | refine eo_repr ?_ | refine eo_sorted ?_ | refine eo_bi ?_ | refine eo_callN rfl ?_ | refine eo_call ?_ | refine eo_callK ?_ | refine eo_mt ?_ | refine eio_rng1 ?_ | refine eio_rng2 ?_ | refine eio_zip ?_ | refine eio_any ?_ | refine eo_pur ?_ | refine to_no ?_ | refine to_yes ?_ | refine sso_nil ?_ | refine cmp_lt ?_ | refine cmp_le ?_ | refine cmp_gt ?_ | refine cmp_ge ?_ | refine cmp_eq ?_ | refine cmp_is rfl ?_ | refine cmp_isn rfl ?_ | refine cmp_in1 ?_ | refine cmp_nin1 ?_ | refine cmp_eqs (by assumption) (by assumption) ?_ | refine And.intro (show nsh _ = true from rfl) ?_ | refine Exists.intro _ (And.intro rfl ?_) | refine And.intro (short_le (show short 300 _ = true from rfl)) ?_)
  refine eo_lcI ?_
  repeat (first | refine sso_cons ?_ | refine so_ret ?_ | refine so_asg ?_ | refine so_asgC ?_ | refine so_ite ?_ | refine so_expr ?_ | refine so_par ?_ | refine so_setx ?_ | refine so_aug rfl ?_ | refine eso_nil ?_ | refine eso_mv rfl ?_ | refine eso_cons (fun _ _ => rfl) ?_ | refine eo_cst rfl ?_ | refine eo_cp rfl (by first | assumption | rfl) ?_ | refine eo_mv rfl ?_ | refine eo_glb rfl ?_ | refine eo_neg ?_ | refine eo_mod ?_ | refine eo_fdiv ?_ | refine eo_mul ?_ | refine eo_pow ?_ | refine eo_bin ?_ | refine eo_cmp ?_ | refine eo_chn ?_ | refine eo_and1 ?_ | refine eo_and ?_ | refine eo_or1 ?_ | refine eo_or ?_ | refine eo_not ?_ | refine eo_ife ?_ | refine eo_lst ?_ | refine eo_tup ?_ | refine eo_ix ?_ | refine eo_sl ?_ | refine eoo_no ?_ | refine eoo_yes ?_ | refine eo_rev ?_ | refine eo_isi ?_ | refine eo_repr ?_ | refine eo_sorted ?_ | refine eo_bi ?_ | refine eo_callN rfl ?_ | refine eo_call ?_ | refine eo_callK ?_ | refine eo_mt ?_ | refine eio_rng1 ?_ | refine eio_rng2 ?_ | refine eio_zip ?_ | refine eio_any ?_ | refine eo_pur ?_ | refine to_no ?_ | refine to_yes ?_ | refine sso_nil ?_ | refine cmp_lt ?_ | refine cmp_le ?_ | refine cmp_gt ?_ | refine cmp_ge ?_ | refine cmp_eq ?_ | refine cmp_is rfl ?_ | refine cmp_isn rfl ?_ | refine cmp_in1 ?_ | refine cmp_nin1 ?_ | refine cmp_eqs (by assumption) (by assumption) ?_ | refine And.intro (show nsh _ = true from rfl) ?_ | refine Exists.intro _ (And.intro rfl ?_) | refine And.intro (short_le (show short 300 _ = true from rfl)) ?_)
  refine coG (bud7 37 (n + 700) g (hg.mono (by omega)) 5 ⟨by decide, by decide⟩) ?_
  rintro r g ⟨kk, rfl, q1, q2⟩ hg
  repeat (first | refine sso_cons ?_ | refine so_ret ?_ | refine so_asg ?_ | refine so_asgC ?_ | refine so_ite ?_ | refine so_expr ?_ | refine so_par ?_ | refine so_setx ?_ | refine so_aug rfl ?_ | refine eso_nil ?_ | refine eso_mv rfl ?_ | refine eso_cons (fun _ _ => rfl) ?_ | refine eo_cst rfl ?_ | refine eo_cp rfl (by first | assumption | rfl) ?_ | refine eo_mv rfl ?_ | refine eo_glb rfl ?_ | refine eo_neg ?_ | refine eo_mod ?_ | refine eo_fdiv ?_ | refine eo_mul ?_ | refine eo_pow ?_ | refine eo_bin ?_ | refine eo_cmp ?_ | refine eo_chn ?_ | refine eo_and1 ?_ | refine eo_and ?_ | refine eo_or1 ?_ | refine eo_or ?_ | refine eo_not ?_ | refine eo_ife ?_ | refine eo_lst ?_ | refine eo_tup ?_ | refine eo_ix ?_ | refine eo_sl ?_ | refine eoo_no ?_ | refine eoo_yes ?_ | refine eo_rev ?_ | refine eo_isi ?_ | refine eo_repr ?_ | refine eo_sorted ?_ | refine eo_bi ?_ | refine eo_callN rfl ?_ | refine eo_call ?_ | refine eo_callK ?_ | refine eo_mt ?_ | refine eio_rng1 ?_ | refine eio_rng2 ?_ | refine eio_zip ?_ | refine eio_any ?_ | refine eo_pur ?_ | refine to_no ?_ | refine to_yes ?_ | refine sso_nil ?_ | refine cmp_lt ?_ | refine cmp_le ?_ | refine cmp_gt ?_ | refine cmp_ge ?_ | refine cmp_eq ?_ | refine cmp_is rfl ?_ | refine cmp_isn rfl ?_ | refine cmp_in1 ?_ | refine cmp_nin1 ?_ | refine cmp_eqs (by assumption) (by assumption) ?_ | refine And.intro (show nsh _ = true from rfl) ?_ | refine Exists.intro _ (And.intro rfl ?_) | refine And.intro (short_le (show short 300 _ = true from rfl)) ?_)
  have e : ((List.range kk.toNat).map fun (k : Nat) => D.int (k : Int)).length = kk.toNat := by rw [List.length_map, List.length_range]
  refine ⟨by omega, by omega, fun (ds : List D) (ρ : Rho) (acc : List D) => ∃ (g : D) (o : Ow), ρ = [some (scr ns), a1, some g, a3, some (.lst .own (nn.map .int)), some (.lst o MN), a6, a7, a8, a9, a10, a11, none, a13] ∧ Bud (n + 500 + 4 * ds.length) g ∧ acc.length + ds.length ≤ 4 ∧ ∀ x ∈ acc, x ∈ MN, ?_, ?_, ?_⟩
  · exact ⟨g, .own, rfl, hg.mono (by rw [e]; omega), by rw [e, List.length_nil]; omega, fun w hw => (List.not_mem_nil hw).elim⟩
  · clear hg
    rintro x ds ρ acc ⟨g, o, rfl, hg, hl, hx⟩
    rw [List.length_cons] at hg hl
    refine ⟨Nat.lt_of_lt_of_le (show acc.length < 24 by omega) (line_ge (by decide)), _, rfl, ?_⟩
    repeat (first | refine sso_cons ?_ | refine so_ret ?_ | refine so_asg ?_ | refine so_asgC ?_ | refine so_ite ?_ | refine so_expr ?_ | refine so_par ?_ | refine so_setx ?_ | refine so_aug rfl ?_ | refine eso_nil ?_ | refine eso_mv rfl ?_ | refine eso_cons (fun _ _ => rfl) ?_ | refine eo_cst rfl ?_ | refine eo_cp rfl (by first | assumption | rfl) ?_ | refine eo_mv rfl ?_ | refine eo_glb rfl ?_ | refine eo_neg ?_ | refine eo_mod ?_ | refine eo_fdiv ?_ | refine eo_mul ?_ | refine eo_pow ?_ | refine eo_bin ?_ | refine eo_cmp ?_ | refine eo_chn ?_ | refine eo_and1 ?_ | refine eo_and ?_ | refine eo_or1 ?_ | refine eo_or ?_ | refine eo_not ?_ | refine eo_ife ?_ | refine eo_lst ?_ | refine eo_tup ?_ | refine eo_ix ?_ | refine eo_sl ?_ | refine eoo_no ?_ | refine eoo_yes ?_ | refine eo_rev ?_ | refine eo_isi ?_ | refine eo_repr ?_ | refine eo_sorted ?_ | refine eo_bi ?_ | refine eo_callN rfl ?_ | refine eo_call ?_ | refine eo_callK ?_ | refine eo_mt ?_ | refine eio_rng1 ?_ | refine eio_rng2 ?_ | refine eio_zip ?_ | refine eio_any ?_ | refine eo_pur ?_ | refine to_no ?_ | refine to_yes ?_ | refine sso_nil ?_ | refine cmp_lt ?_ | refine cmp_le ?_ | refine cmp_gt ?_ | refine cmp_ge ?_ | refine cmp_eq ?_ | refine cmp_is rfl ?_ | refine cmp_isn rfl ?_ | refine cmp_in1 ?_ | refine cmp_nin1 ?_ | refine cmp_eqs (by assumption) (by assumption) ?_ | refine And.intro (show nsh _ = true from rfl) ?_ | refine Exists.intro _ (And.intro rfl ?_) | refine And.intro (short_le (show short 300 _ = true from rfl)) ?_)
    refine eo_cpF rfl ?_
    have hmf : frz (.lst o MN) = .lst o.fz MN := by rw [frz, mn_fz]
    rw [hmf]
    repeat (first | refine sso_cons ?_ | refine so_ret ?_ | refine so_asg ?_ | refine so_asgC ?_ | refine so_ite ?_ | refine so_expr ?_ | refine so_par ?_ | refine so_setx ?_ | refine so_aug rfl ?_ | refine eso_nil ?_ | refine eso_mv rfl ?_ | refine eso_cons (fun _ _ => rfl) ?_ | refine eo_cst rfl ?_ | refine eo_cp rfl (by first | assumption | rfl) ?_ | refine eo_mv rfl ?_ | refine eo_glb rfl ?_ | refine eo_neg ?_ | refine eo_mod ?_ | refine eo_fdiv ?_ | refine eo_mul ?_ | refine eo_pow ?_ | refine eo_bin ?_ | refine eo_cmp ?_ | refine eo_chn ?_ | refine eo_and1 ?_ | refine eo_and ?_ | refine eo_or1 ?_ | refine eo_or ?_ | refine eo_not ?_ | refine eo_ife ?_ | refine eo_lst ?_ | refine eo_tup ?_ | refine eo_ix ?_ | refine eo_sl ?_ | refine eoo_no ?_ | refine eoo_yes ?_ | refine eo_rev ?_ | refine eo_isi ?_ | refine eo_repr ?_ | refine eo_sorted ?_ | refine eo_bi ?_ | refine eo_callN rfl ?_ | refine eo_call ?_ | refine eo_callK ?_ | refine eo_mt ?_ | refine eio_rng1 ?_ | refine eio_rng2 ?_ | refine eio_zip ?_ | refine eio_any ?_ | refine eo_pur ?_ | refine to_no ?_ | refine to_yes ?_ | refine sso_nil ?_ | refine cmp_lt ?_ | refine cmp_le ?_ | refine cmp_gt ?_ | refine cmp_ge ?_ | refine cmp_eq ?_ | refine cmp_is rfl ?_ | refine cmp_isn rfl ?_ | refine cmp_in1 ?_ | refine cmp_nin1 ?_ | refine cmp_eqs (by assumption) (by assumption) ?_ | refine And.intro (show nsh _ = true from rfl) ?_ | refine Exists.intro _ (And.intro rfl ?_) | refine And.intro (short_le (show short 300 _ = true from rfl)) ?_)
    refine coG (bud8 36 (n + 500 + 4 * ds.length) g (hg.mono (by omega)) o.fz MN (by decide) (show 20 < 2 ^ 60 by decide) mn_fz) ?_
    intro r g' hr hg'
    refine ⟨g', o.fz, rfl, hg', by rw [List.length_append, List.length_singleton]; omega, fun y hy => ?_⟩
    rcases List.mem_append.mp hy with h | h
    · exact hx y h
    · rw [List.mem_singleton.mp h]; exact hr
  · clear hg
    rintro xs ρ ⟨g, o, rfl, hg, hl, hx⟩
    have hA : ∀ x ∈ xs, Atm x := fun x h => mn_atm x (hx x h)
    have hxf : frzL xs = xs := frzL_self fun x h => (hA x h).fz
    have hxl : xs.length ≤ 4 := by simpa using hl
    clear e q1 q2
    repeat (first | refine sso_cons ?_ | refine so_ret ?_ | refine so_asg ?_ | refine so_asgC ?_ | refine so_ite ?_ | refine so_expr ?_ | refine so_par ?_ | refine so_setx ?_ | refine so_aug rfl ?_ | refine eso_nil ?_ | refine eso_mv rfl ?_ | refine eso_cons (fun _ _ => rfl) ?_ | refine eo_cst rfl ?_ | refine eo_cp rfl (by first | assumption | rfl) ?_ | refine eo_mv rfl ?_ | refine eo_glb rfl ?_ | refine eo_neg ?_ | refine eo_mod ?_ | refine eo_fdiv ?_ | refine eo_mul ?_ | refine eo_pow ?_ | refine eo_bin ?_ | refine eo_cmp ?_ | refine eo_chn ?_ | refine eo_and1 ?_ | refine eo_and ?_ | refine eo_or1 ?_ | refine eo_or ?_ | refine eo_not ?_ | refine eo_ife ?_ | refine eo_lst ?_ | refine eo_tup ?_ | refine eo_ix ?_ | refine eo_sl ?_ | refine eoo_no ?_ | refine eoo_yes ?_ | refine eo_rev ?_ | refine eo_isi ?_ | refine eo_repr ?_ | refine eo_sorted ?_ | refine eo_bi ?_ | refine eo_callN rfl ?_ | refine eo_call ?_ | refine eo_callK ?_ | refine eo_mt ?_ | refine eio_rng1 ?_ | refine eio_rng2 ?_ | refine eio_zip ?_ | refine eio_any ?_ | refine eo_pur ?_ | refine to_no ?_ | refine to_yes ?_ | refine sso_nil ?_ | refine cmp_lt ?_ | refine cmp_le ?_ | refine cmp_gt ?_ | refine cmp_ge ?_ | refine cmp_eq ?_ | refine cmp_is rfl ?_ | refine cmp_isn rfl ?_ | refine cmp_in1 ?_ | refine cmp_nin1 ?_ | refine cmp_eqs (by assumption) (by assumption) ?_ | refine And.intro (show nsh _ = true from rfl) ?_ | refine Exists.intro _ (And.intro rfl ?_) | refine And.intro (short_le (show short 300 _ = true from rfl)) ?_)
    refine eo_lcP (fun x => isStr x && nameB x) id ?_
    repeat (first | refine sso_cons ?_ | refine so_ret ?_ | refine so_asg ?_ | refine so_asgC ?_ | refine so_ite ?_ | refine so_expr ?_ | refine so_par ?_ | refine so_setx ?_ | refine so_aug rfl ?_ | refine eso_nil ?_ | refine eso_mv rfl ?_ | refine eso_cons (fun _ _ => rfl) ?_ | refine eo_cst rfl ?_ | refine eo_cp rfl (by first | assumption | rfl) ?_ | refine eo_mv rfl ?_ | refine eo_glb rfl ?_ | refine eo_neg ?_ | refine eo_mod ?_ | refine eo_fdiv ?_ | refine eo_mul ?_ | refine eo_pow ?_ | refine eo_bin ?_ | refine eo_cmp ?_ | refine eo_chn ?_ | refine eo_and1 ?_ | refine eo_and ?_ | refine eo_or1 ?_ | refine eo_or ?_ | refine eo_not ?_ | refine eo_ife ?_ | refine eo_lst ?_ | refine eo_tup ?_ | refine eo_ix ?_ | refine eo_sl ?_ | refine eoo_no ?_ | refine eoo_yes ?_ | refine eo_rev ?_ | refine eo_isi ?_ | refine eo_repr ?_ | refine eo_sorted ?_ | refine eo_bi ?_ | refine eo_callN rfl ?_ | refine eo_call ?_ | refine eo_callK ?_ | refine eo_mt ?_ | refine eio_rng1 ?_ | refine eio_rng2 ?_ | refine eio_zip ?_ | refine eio_any ?_ | refine eo_pur ?_ | refine to_no ?_ | refine to_yes ?_ | refine sso_nil ?_ | refine cmp_lt ?_ | refine cmp_le ?_ | refine cmp_gt ?_ | refine cmp_ge ?_ | refine cmp_eq ?_ | refine cmp_is rfl ?_ | refine cmp_isn rfl ?_ | refine cmp_in1 ?_ | refine cmp_nin1 ?_ | refine cmp_eqs (by assumption) (by assumption) ?_ | refine And.intro (show nsh _ = true from rfl) ?_ | refine Exists.intro _ (And.intro rfl ?_) | refine And.intro (short_le (show short 300 _ = true from rfl)) ?_)
    refine eo_cpF rfl ?_
    have hmf : frz (.lst .own xs) = .lst .shr xs := by rw [frz, hxf]; rfl
    rw [hmf]
    refine .inl ⟨_, _, rfl, ?_, fun x hxm => ?_, ?_⟩
    · rw [hxf]; exact line_ge (by omega)
    · rw [hxf] at hxm
      have ix := hA x hxm
      have hfx := ix.fz
      refine ⟨_, rfl, ?_⟩
      have ht : ∀ p, tyE (.one .str p) x = some (isStr x) := by
        intro p
        have := ix.fl
        cases x <;> first | rfl | cases this
      repeat (first | refine sso_cons ?_ | refine so_ret ?_ | refine so_asg ?_ | refine so_asgC ?_ | refine so_ite ?_ | refine so_expr ?_ | refine so_par ?_ | refine so_setx ?_ | refine so_aug rfl ?_ | refine eso_nil ?_ | refine eso_mv rfl ?_ | refine eso_cons (fun _ _ => rfl) ?_ | refine eo_cst rfl ?_ | refine eo_cp rfl (by first | assumption | rfl) ?_ | refine eo_mv rfl ?_ | refine eo_glb rfl ?_ | refine eo_neg ?_ | refine eo_mod ?_ | refine eo_fdiv ?_ | refine eo_mul ?_ | refine eo_pow ?_ | refine eo_bin ?_ | refine eo_cmp ?_ | refine eo_chn ?_ | refine eo_and1 ?_ | refine eo_and ?_ | refine eo_or1 ?_ | refine eo_or ?_ | refine eo_not ?_ | refine eo_ife ?_ | refine eo_lst ?_ | refine eo_tup ?_ | refine eo_ix ?_ | refine eo_sl ?_ | refine eoo_no ?_ | refine eoo_yes ?_ | refine eo_rev ?_ | refine eo_isi ?_ | refine eo_repr ?_ | refine eo_sorted ?_ | refine eo_bi ?_ | refine eo_callN rfl ?_ | refine eo_call ?_ | refine eo_callK ?_ | refine eo_mt ?_ | refine eio_rng1 ?_ | refine eio_rng2 ?_ | refine eio_zip ?_ | refine eio_any ?_ | refine eo_pur ?_ | refine to_no ?_ | refine to_yes ?_ | refine sso_nil ?_ | refine cmp_lt ?_ | refine cmp_le ?_ | refine cmp_gt ?_ | refine cmp_ge ?_ | refine cmp_eq ?_ | refine cmp_is rfl ?_ | refine cmp_isn rfl ?_ | refine cmp_in1 ?_ | refine cmp_nin1 ?_ | refine cmp_eqs (by assumption) (by assumption) ?_ | refine And.intro (show nsh _ = true from rfl) ?_ | refine Exists.intro _ (And.intro rfl ?_) | refine And.intro (short_le (show short 300 _ = true from rfl)) ?_)
      refine ⟨_, ht _, ?_⟩
      refine ⟨_, rfl, ?_⟩
      refine ite2 (fun hs => ?_) (fun hs => ?_)
      · repeat (first | refine sso_cons ?_ | refine so_ret ?_ | refine so_asg ?_ | refine so_asgC ?_ | refine so_ite ?_ | refine so_expr ?_ | refine so_par ?_ | refine so_setx ?_ | refine so_aug rfl ?_ | refine eso_nil ?_ | refine eso_mv rfl ?_ | refine eso_cons (fun _ _ => rfl) ?_ | refine eo_cst rfl ?_ | refine eo_cp rfl (by first | assumption | rfl) ?_ | refine eo_mv rfl ?_ | refine eo_glb rfl ?_ | refine eo_neg ?_ | refine eo_mod ?_ | refine eo_fdiv ?_ | refine eo_mul ?_ | refine eo_pow ?_ | refine eo_bin ?_ | refine eo_cmp ?_ | refine eo_chn ?_ | refine eo_and1 ?_ | refine eo_and ?_ | refine eo_or1 ?_ | refine eo_or ?_ | refine eo_not ?_ | refine eo_ife ?_ | refine eo_lst ?_ | refine eo_tup ?_ | refine eo_ix ?_ | refine eo_sl ?_ | refine eoo_no ?_ | refine eoo_yes ?_ | refine eo_rev ?_ | refine eo_isi ?_ | refine eo_repr ?_ | refine eo_sorted ?_ | refine eo_bi ?_ | refine eo_callN rfl ?_ | refine eo_call ?_ | refine eo_callK ?_ | refine eo_mt ?_ | refine eio_rng1 ?_ | refine eio_rng2 ?_ | refine eio_zip ?_ | refine eio_any ?_ | refine eo_pur ?_ | refine to_no ?_ | refine to_yes ?_ | refine sso_nil ?_ | refine cmp_lt ?_ | refine cmp_le ?_ | refine cmp_gt ?_ | refine cmp_ge ?_ | refine cmp_eq ?_ | refine cmp_is rfl ?_ | refine cmp_isn rfl ?_ | refine cmp_in1 ?_ | refine cmp_nin1 ?_ | refine cmp_eqs (by assumption) (by assumption) ?_ | refine And.intro (show nsh _ = true from rfl) ?_ | refine Exists.intro _ (And.intro rfl ?_) | refine And.intro (short_le (show short 300 _ = true from rfl)) ?_)
        refine coN (cal13 38 x ix.pl hfx) ?_
        refine ⟨by rw [hs]; rfl, ite2 (fun _ => ?_) (fun _ => rfl)⟩
        repeat (first | refine sso_cons ?_ | refine so_ret ?_ | refine so_asg ?_ | refine so_asgC ?_ | refine so_ite ?_ | refine so_expr ?_ | refine so_par ?_ | refine so_setx ?_ | refine so_aug rfl ?_ | refine eso_nil ?_ | refine eso_mv rfl ?_ | refine eso_cons (fun _ _ => rfl) ?_ | refine eo_cst rfl ?_ | refine eo_cp rfl (by first | assumption | rfl) ?_ | refine eo_mv rfl ?_ | refine eo_glb rfl ?_ | refine eo_neg ?_ | refine eo_mod ?_ | refine eo_fdiv ?_ | refine eo_mul ?_ | refine eo_pow ?_ | refine eo_bin ?_ | refine eo_cmp ?_ | refine eo_chn ?_ | refine eo_and1 ?_ | refine eo_and ?_ | refine eo_or1 ?_ | refine eo_or ?_ | refine eo_not ?_ | refine eo_ife ?_ | refine eo_lst ?_ | refine eo_tup ?_ | refine eo_ix ?_ | refine eo_sl ?_ | refine eoo_no ?_ | refine eoo_yes ?_ | refine eo_rev ?_ | refine eo_isi ?_ | refine eo_repr ?_ | refine eo_sorted ?_ | refine eo_bi ?_ | refine eo_callN rfl ?_ | refine eo_call ?_ | refine eo_callK ?_ | refine eo_mt ?_ | refine eio_rng1 ?_ | refine eio_rng2 ?_ | refine eio_zip ?_ | refine eio_any ?_ | refine eo_pur ?_ | refine to_no ?_ | refine to_yes ?_ | refine sso_nil ?_ | refine cmp_lt ?_ | refine cmp_le ?_ | refine cmp_gt ?_ | refine cmp_ge ?_ | refine cmp_eq ?_ | refine cmp_is rfl ?_ | refine cmp_isn rfl ?_ | refine cmp_in1 ?_ | refine cmp_nin1 ?_ | refine cmp_eqs (by assumption) (by assumption) ?_ | refine And.intro (show nsh _ = true from rfl) ?_ | refine Exists.intro _ (And.intro rfl ?_) | refine And.intro (short_le (show short 300 _ = true from rfl)) ?_)
        exact ⟨rfl, rfl⟩
      · have hs : isStr x = false := by simpa using hs
        refine ⟨by rw [hs]; rfl, ?_⟩
        rw [hs]
        exact iteF rfl
    · rw [hxf, List.map_id]
      obtain ⟨ws, hws, hwl, hwa⟩ := strs_in (xs.filter fun x => isStr x && nameB x) (fun x h => by
        have := (List.mem_filter.mp h).2
        rw [Bool.and_eq_true] at this
        exact this.1) (fun x h => hA x (List.mem_filter.mp h).1)
      have hfl : (xs.filter fun x => isStr x && nameB x).length ≤ 4 := Nat.le_trans (List.length_filter_le _ _) hxl
      rw [hws] at hfl ⊢
      rw [List.length_map] at hfl
      exact turn_rest ns n g nn hnn hnl ws hwl hwa hfl xs hA hxl o a1 a3 a8 a9 a10 a11 a12 a13 hg
end PLAW

set_option Elab.async false
set_option linter.all false
set_option maxRecDepth 100000
namespace PLAW
open PySem PySem.Spec PyProof.Rows L2 VK
theorem vl1_small : (itemsOf VL1).all (fun v => match v with
    | .lst _ xs => xs.all smallB && decide (xs.length ≤ 1000)
    | _ => false) = true := by decide +kernel
theorem vl1_good : ∀ v ∈ frzL (itemsOf VL1), Good v := by
  refine good_frzL fun u hu => ?_
  have h := List.all_eq_true.mp vl1_small u hu
  cases u <;> try (cases h; done)
  rename_i o xs
  have h : (xs.all smallB && decide (xs.length ≤ 1000)) = true := h
  rw [Bool.and_eq_true] at h
  exact good_lst (fun x hx => atm_small (List.all_eq_true.mp h.1 x hx)) (of_decide_eq_true h.2)
theorem vl2_good : ∀ v ∈ frzL (itemsOf VL2), Good v := good_frzL fun u hu => good_okJ (List.all_eq_true.mp vl2_ok u hu)
theorem frzL_length (l : List D) : (frzL l).length = l.length := frzL_len l
theorem filt_true (l : List D) : l.filter (fun _ => true) = l := List.filter_eq_self.mpr fun _ _ => rfl
theorem map_const : ∀ (l : List D) (b : D), l.map (fun _ => b) = List.replicate l.length b
  | [], _ => rfl
  | x :: l, b => by rw [List.map_cons, map_const l b]; rfl
theorem end_ok (s a1 a2 a3 a4 a5 a6 a7 a8 a9 a10 a11 a12 a13 : Option D) : SSO tab (cal 39) 1000 (dropS d18.body 1) [s, a1, a2, a3, a4, a5, a6, a7, a8, a9, a10, a11, a12, a13] (fun f _ => f = .rt (.bl true)) := by
  refine sso_cons ?_
  refine so_ker (f := .nx) (ρ1 := [s, a1, a2, a3, a4, a5, a6, a7, a8, a9, some MANY, a11, a12, a13]) (by kernel_rfl) ?_
  refine sso_cons ?_
  refine so_asgC ?_
  refine eo_lcP (fun _ => true) (fun _ => .bl true) ?_
  refine eio_any ?_
  refine eo_ker (d := VL1) (ρ1 := [s, a1, a2, a3, a4, a5, a6, a7, a8, a9, some (frz MANY), a11, a12, a13]) (by kernel_rfl) ?_
  refine .inl ⟨.own, itemsOf VL1, by kernel_rfl, ?_, fun x hx => ?_, ?_⟩
  · rw [frzL_length, vl1_len]; exact line_ge (by decide)
  · obtain ⟨hf, hc⟩ := vl1_good x hx
    refine ⟨_, rfl, ?_⟩
    repeat (first | refine sso_cons ?_ | refine so_ret ?_ | refine so_asg ?_ | refine so_asgC ?_ | refine so_ite ?_ | refine so_expr ?_ | refine so_par ?_ | refine so_setx ?_ | refine so_aug rfl ?_ | refine eso_nil ?_ | refine eso_mv rfl ?_ | refine eso_cons (fun _ _ => rfl) ?_ | refine eo_cst rfl ?_ | refine eo_cp rfl (by first | assumption | rfl) ?_ | refine eo_mv rfl ?_ | refine eo_glb rfl ?_ | refine eo_neg ?_ | refine eo_mod ?_ | refine eo_fdiv ?_ | refine eo_mul ?_ | refine eo_pow ?_ | refine eo_bin ?_ | refine eo_cmp ?_ | refine eo_chn ?_ | refine eo_and1 ?_ | refine eo_and ?_ | refine eo_or1 ?_ | refine eo_or ?_ | refine eo_not ?_ | refine eo_ife ?_ | refine eo_lst ?_ | refine eo_tup ?_ | refine eo_ix ?_ | refine eo_sl ?_ | refine eoo_no ?_ | refine eoo_yes ?_ | refine eo_rev ?_ | refine eo_isi ?_ | refine eo_repr ?_ | refine eo_sorted ?_ | refine eo_bi ?_ | refine eo_callN rfl ?_ | refine eo_call ?_ | refine eo_callK ?_ | refine eo_mt ?_ | refine eio_rng1 ?_ | refine eio_rng2 ?_ | refine eio_zip ?_ | refine eio_any ?_ | refine eo_pur ?_ | refine to_no ?_ | refine to_yes ?_ | refine sso_nil ?_ | refine cmp_lt ?_ | refine cmp_le ?_ | refine cmp_gt ?_ | refine cmp_ge ?_ | refine cmp_eq ?_ | refine cmp_is rfl ?_ | refine cmp_isn rfl ?_ | refine cmp_in1 ?_ | refine cmp_nin1 ?_ | refine cmp_eqs (by assumption) (by assumption) ?_ | refine And.intro (show nsh _ = true from rfl) ?_ | refine Exists.intro _ (And.intro rfl ?_) | refine And.intro (short_le (show short 300 _ = true from rfl)) ?_)
    refine ⟨rfl, iteT ?_⟩
    repeat (first | refine sso_cons ?_ | refine so_ret ?_ | refine so_asg ?_ | refine so_asgC ?_ | refine so_ite ?_ | refine so_expr ?_ | refine so_par ?_ | refine so_setx ?_ | refine so_aug rfl ?_ | refine eso_nil ?_ | refine eso_mv rfl ?_ | refine eso_cons (fun _ _ => rfl) ?_ | refine eo_cst rfl ?_ | refine eo_cp rfl (by first | assumption | rfl) ?_ | refine eo_mv rfl ?_ | refine eo_glb rfl ?_ | refine eo_neg ?_ | refine eo_mod ?_ | refine eo_fdiv ?_ | refine eo_mul ?_ | refine eo_pow ?_ | refine eo_bin ?_ | refine eo_cmp ?_ | refine eo_chn ?_ | refine eo_and1 ?_ | refine eo_and ?_ | refine eo_or1 ?_ | refine eo_or ?_ | refine eo_not ?_ | refine eo_ife ?_ | refine eo_lst ?_ | refine eo_tup ?_ | refine eo_ix ?_ | refine eo_sl ?_ | refine eoo_no ?_ | refine eoo_yes ?_ | refine eo_rev ?_ | refine eo_isi ?_ | refine eo_repr ?_ | refine eo_sorted ?_ | refine eo_bi ?_ | refine eo_callN rfl ?_ | refine eo_call ?_ | refine eo_callK ?_ | refine eo_mt ?_ | refine eio_rng1 ?_ | refine eio_rng2 ?_ | refine eio_zip ?_ | refine eio_any ?_ | refine eo_pur ?_ | refine to_no ?_ | refine to_yes ?_ | refine sso_nil ?_ | refine cmp_lt ?_ | refine cmp_le ?_ | refine cmp_gt ?_ | refine cmp_ge ?_ | refine cmp_eq ?_ | refine cmp_is rfl ?_ | refine cmp_isn rfl ?_ | refine cmp_in1 ?_ | refine cmp_nin1 ?_ | refine cmp_eqs (by assumption) (by assumption) ?_ | refine And.intro (show nsh _ = true from rfl) ?_ | refine Exists.intro _ (And.intro rfl ?_) | refine And.intro (short_le (show short 300 _ = true from rfl)) ?_)
    refine coN hc ?_
    exact ⟨rfl, rfl⟩
  · rw [filt_true, map_const, frzL_length, vl1_len]
    refine sso_cons ?_
    refine so_asg ?_
    refine eo_bin ?_
    refine eo_cpF rfl ?_
    refine eo_lcP (fun _ => true) (fun _ => .bl true) ?_
    refine eio_any ?_
    refine eo_ker (d := VL2) (ρ1 := [s, a1, a2, a3, a4, a5, a6, a7, a8, a9, some (frz MANY), some (frz (.lst .own (List.replicate 4 (.bl true)))), a12, a13]) (by kernel_rfl) ?_
    refine .inl ⟨.own, itemsOf VL2, by kernel_rfl, ?_, fun x hx => ?_, ?_⟩
    · rw [frzL_length, vl2_len]; exact line_ge (by decide)
    · obtain ⟨hf, hc⟩ := vl2_good x hx
      refine ⟨_, rfl, ?_⟩
      repeat (first | refine sso_cons ?_ | refine so_ret ?_ | refine so_asg ?_ | refine so_asgC ?_ | refine so_ite ?_ | refine so_expr ?_ | refine so_par ?_ | refine so_setx ?_ | refine so_aug rfl ?_ | refine eso_nil ?_ | refine eso_mv rfl ?_ | refine eso_cons (fun _ _ => rfl) ?_ | refine eo_cst rfl ?_ | refine eo_cp rfl (by first | assumption | rfl) ?_ | refine eo_mv rfl ?_ | refine eo_glb rfl ?_ | refine eo_neg ?_ | refine eo_mod ?_ | refine eo_fdiv ?_ | refine eo_mul ?_ | refine eo_pow ?_ | refine eo_bin ?_ | refine eo_cmp ?_ | refine eo_chn ?_ | refine eo_and1 ?_ | refine eo_and ?_ | refine eo_or1 ?_ | refine eo_or ?_ | refine eo_not ?_ | refine eo_ife ?_ | refine eo_lst ?_ | refine eo_tup ?_ | refine eo_ix ?_ | refine eo_sl ?_ | refine eoo_no ?_ | refine eoo_yes ?_ | refine eo_rev ?_ | refine eo_isi ?_ | refine eo_repr ?_ | refine eo_sorted ?_ | refine eo_bi ?_ | refine eo_callN rfl ?_ | refine eo_call ?_ | refine eo_callK ?_ | refine eo_mt ?_ | refine eio_rng1 ?_ | refine eio_rng2 ?_ | refine eio_zip ?_ | refine eio_any ?_ | refine eo_pur ?_ | refine to_no ?_ | refine to_yes ?_ | refine sso_nil ?_ | refine cmp_lt ?_ | refine cmp_le ?_ | refine cmp_gt ?_ | refine cmp_ge ?_ | refine cmp_eq ?_ | refine cmp_is rfl ?_ | refine cmp_isn rfl ?_ | refine cmp_in1 ?_ | refine cmp_nin1 ?_ | refine cmp_eqs (by assumption) (by assumption) ?_ | refine And.intro (show nsh _ = true from rfl) ?_ | refine Exists.intro _ (And.intro rfl ?_) | refine And.intro (short_le (show short 300 _ = true from rfl)) ?_)
      refine ⟨rfl, iteT ?_⟩
      repeat (first | refine sso_cons ?_ | refine so_ret ?_ | refine so_asg ?_ | refine so_asgC ?_ | refine so_ite ?_ | refine so_expr ?_ | refine so_par ?_ | refine so_setx ?_ | refine so_aug rfl ?_ | refine eso_nil ?_ | refine eso_mv rfl ?_ | refine eso_cons (fun _ _ => rfl) ?_ | refine eo_cst rfl ?_ | refine eo_cp rfl (by first | assumption | rfl) ?_ | refine eo_mv rfl ?_ | refine eo_glb rfl ?_ | refine eo_neg ?_ | refine eo_mod ?_ | refine eo_fdiv ?_ | refine eo_mul ?_ | refine eo_pow ?_ | refine eo_bin ?_ | refine eo_cmp ?_ | refine eo_chn ?_ | refine eo_and1 ?_ | refine eo_and ?_ | refine eo_or1 ?_ | refine eo_or ?_ | refine eo_not ?_ | refine eo_ife ?_ | refine eo_lst ?_ | refine eo_tup ?_ | refine eo_ix ?_ | refine eo_sl ?_ | refine eoo_no ?_ | refine eoo_yes ?_ | refine eo_rev ?_ | refine eo_isi ?_ | refine eo_repr ?_ | refine eo_sorted ?_ | refine eo_bi ?_ | refine eo_callN rfl ?_ | refine eo_call ?_ | refine eo_callK ?_ | refine eo_mt ?_ | refine eio_rng1 ?_ | refine eio_rng2 ?_ | refine eio_zip ?_ | refine eio_any ?_ | refine eo_pur ?_ | refine to_no ?_ | refine to_yes ?_ | refine sso_nil ?_ | refine cmp_lt ?_ | refine cmp_le ?_ | refine cmp_gt ?_ | refine cmp_ge ?_ | refine cmp_eq ?_ | refine cmp_is rfl ?_ | refine cmp_isn rfl ?_ | refine cmp_in1 ?_ | refine cmp_nin1 ?_ | refine cmp_eqs (by assumption) (by assumption) ?_ | refine And.intro (show nsh _ = true from rfl) ?_ | refine Exists.intro _ (And.intro rfl ?_) | refine And.intro (short_le (show short 300 _ = true from rfl)) ?_)
      refine coN hc ?_
      exact ⟨rfl, rfl⟩
    · rw [filt_true, map_const, frzL_length, vl2_len]
      refine ⟨.lst .own (List.replicate 22 (.bl true)), by kernel_rfl, ?_⟩
      repeat (first | refine sso_cons ?_ | refine so_ret ?_ | refine so_asg ?_ | refine so_asgC ?_ | refine so_ite ?_ | refine so_expr ?_ | refine so_par ?_ | refine so_setx ?_ | refine so_aug rfl ?_ | refine eso_nil ?_ | refine eso_mv rfl ?_ | refine eso_cons (fun _ _ => rfl) ?_ | refine eo_cst rfl ?_ | refine eo_cp rfl (by first | assumption | rfl) ?_ | refine eo_mv rfl ?_ | refine eo_glb rfl ?_ | refine eo_neg ?_ | refine eo_mod ?_ | refine eo_fdiv ?_ | refine eo_mul ?_ | refine eo_pow ?_ | refine eo_bin ?_ | refine eo_cmp ?_ | refine eo_chn ?_ | refine eo_and1 ?_ | refine eo_and ?_ | refine eo_or1 ?_ | refine eo_or ?_ | refine eo_not ?_ | refine eo_ife ?_ | refine eo_lst ?_ | refine eo_tup ?_ | refine eo_ix ?_ | refine eo_sl ?_ | refine eoo_no ?_ | refine eoo_yes ?_ | refine eo_rev ?_ | refine eo_isi ?_ | refine eo_repr ?_ | refine eo_sorted ?_ | refine eo_bi ?_ | refine eo_callN rfl ?_ | refine eo_call ?_ | refine eo_callK ?_ | refine eo_mt ?_ | refine eio_rng1 ?_ | refine eio_rng2 ?_ | refine eio_zip ?_ | refine eio_any ?_ | refine eo_pur ?_ | refine to_no ?_ | refine to_yes ?_ | refine sso_nil ?_ | refine cmp_lt ?_ | refine cmp_le ?_ | refine cmp_gt ?_ | refine cmp_ge ?_ | refine cmp_eq ?_ | refine cmp_is rfl ?_ | refine cmp_isn rfl ?_ | refine cmp_in1 ?_ | refine cmp_nin1 ?_ | refine cmp_eqs (by assumption) (by assumption) ?_ | refine And.intro (show nsh _ = true from rfl) ?_ | refine Exists.intro _ (And.intro rfl ?_) | refine And.intro (short_le (show short 300 _ = true from rfl)) ?_)
      refine eo_cpF rfl ?_
      refine cmp_rfl (r := true) (by decide +kernel) ?_
      rfl
theorem cal18 (ns : List Int) (hb : ∀ z ∈ ns, Sm z) : ∃ r outs, cal 40 18 [scr ns] = some (r, outs) ∧ r = .bl true ∧ outs = [] := by
  refine cal_of (d := 39) (f := d18) rfl rfl ?_
  have hsf := frz_ints ns
  refine sso_cons ?_
  refine so_forI ?_
  refine eio_rng1 ?_
  refine eo_cst rfl ?_
  refine ⟨3, rfl, by decide, by decide, fun (ds : List D) (ρ : Rho) => ∃ a1 a2 a3 a4 a5 a6 a7 a8 a9 a10 a11 a12 a13 : Option D, ρ = [some (scr ns), a1, a2, a3, a4, a5, a6, a7, a8, a9, a10, a11, a12, a13] ∧ ∀ d ∈ ds, ∃ k : Nat, d = .int k ∧ k ≤ 1000, ?_, ?_, ?_⟩
  · refine ⟨none, none, none, none, none, none, none, none, none, none, none, none, none, rfl, fun d hd => ?_⟩
    obtain ⟨k, hk, rfl⟩ := List.mem_map.mp hd
    exact ⟨k, rfl, by have := List.mem_range.mp hk; have e : (3 : Int).toNat = 3 := rfl; omega⟩
  · rintro x ds ρ ⟨a1, a2, a3, a4, a5, a6, a7, a8, a9, a10, a11, a12, a13, rfl, hd⟩
    obtain ⟨k, rfl, hk⟩ := hd x List.mem_cons_self
    have hd := fun y h => hd y (List.mem_cons_of_mem _ h)
    refine ⟨_, rfl, ?_⟩
    refine sso_mono (Q := fun f ρ => f = .nx ∧ ∃ a1 a2 a3 a4 a5 a6 a7 a8 a9 a10 a11 a12 a13 : Option D, ρ = [some (scr ns), a1, a2, a3, a4, a5, a6, a7, a8, a9, a10, a11, a12, a13]) ?_ (by
      rintro f ρ1 ⟨rfl, a1, a2, a3, a4, a5, a6, a7, a8, a9, a10, a11, a12, a13, rfl⟩
      exact ⟨_, _, _, _, _, _, _, _, _, _, _, _, _, rfl, hd⟩)
    repeat (first | refine sso_cons ?_ | refine so_ret ?_ | refine so_asg ?_ | refine so_asgC ?_ | refine so_ite ?_ | refine so_expr ?_ | refine so_par ?_ | refine so_setx ?_ | refine so_aug rfl ?_ | refine eso_nil ?_ | refine eso_mv rfl ?_ | refine eso_cons (fun _ _ => rfl) ?_ | refine eo_cst rfl ?_ | refine eo_cp rfl (by first | assumption | rfl) ?_ | refine eo_mv rfl ?_ | refine eo_glb rfl ?_ | refine eo_neg ?_ | refine eo_mod ?_ | refine eo_fdiv ?_ | refine eo_mul ?_ | refine eo_pow ?_ | refine eo_bin ?_ | refine eo_cmp ?_ | refine eo_chn ?_ | refine eo_and1 ?_ | refine eo_and ?_ | refine eo_or1 ?_ | refine eo_or ?_ | refine eo_not ?_ | refine eo_ife ?_ | refine eo_lst ?_ | refine eo_tup ?_ | refine eo_ix ?_ | refine eo_sl ?_ | refine eoo_no ?_ | refine eoo_yes ?_ | refine eo_rev ?_ | refine eo_isi ?_ | refine eo_repr ?_ | refine eo_sorted ?_ | refine eo_bi ?_ | refine eo_callN rfl ?_ | refine eo_call ?_ | refine eo_callK ?_ | refine eo_mt ?_ | refine eio_rng1 ?_ | refine eio_rng2 ?_ | refine eio_zip ?_ | refine eio_any ?_ | refine eo_pur ?_ | refine to_no ?_ | refine to_yes ?_ | refine sso_nil ?_ | refine cmp_lt ?_ | refine cmp_le ?_ | refine cmp_gt ?_ | refine cmp_ge ?_ | refine cmp_eq ?_ | refine cmp_is rfl ?_ | refine cmp_isn rfl ?_ | refine cmp_in1 ?_ | refine cmp_nin1 ?_ | refine cmp_eqs (by assumption) (by assumption) ?_ | refine And.intro (show nsh _ = true from rfl) ?_ | refine Exists.intro _ (And.intro rfl ?_) | refine And.intro (short_le (show short 300 _ = true from rfl)) ?_)
    refine coP (bud6 37 ns hb k hk) ?_
    intro g hg
    refine ⟨_, rfl, ?_⟩
    refine sso_cons ?_
    refine so_forI ?_
    refine eio_rng1 ?_
    refine eo_cst rfl ?_
    refine ⟨12, rfl, by decide, by decide, fun (es : List D) (ρ : Rho) => ∃ (g : D) (a1 a3 a4 a5 a6 a7 a8 a9 a10 a11 a12 a13 : Option D), ρ = [some (scr ns), a1, some g, a3, a4, a5, a6, a7, a8, a9, a10, a11, a12, a13] ∧ Bud (1000 * es.length) g, ?_, ?_, ?_⟩
    · exact ⟨g, _, _, _, _, _, _, _, _, _, _, _, _, rfl, hg.mono (show 1000 * 12 ≤ 2 ^ 79 by decide)⟩
    · clear hg
      clear g
      rintro y es ρ ⟨g, a1, a3, a4, a5, a6, a7, a8, a9, a10, a11, a12, a13, rfl, hg⟩
      rw [List.length_cons] at hg
      refine ⟨_, rfl, ?_⟩
      refine sso_mono (turn_ok ns (1000 * es.length) g a1 (some y) a4 a5 a6 a7 a8 a9 a10 a11 a12 a13 (hg.mono (by omega))) ?_
      rintro f ρ1 ⟨rfl, h⟩
      exact h
    · rintro ρ ⟨g, a1, a3, a4, a5, a6, a7, a8, a9, a10, a11, a12, a13, rfl, hg⟩
      refine sso_nil ?_
      exact ⟨rfl, _, _, _, _, _, _, _, _, _, _, _, _, _, rfl⟩
  · rintro ρ ⟨a1, a2, a3, a4, a5, a6, a7, a8, a9, a10, a11, a12, a13, rfl, hd⟩
    refine sso_mono (end_ok _ a1 a2 a3 a4 a5 a6 a7 a8 a9 a10 a11 a12 a13) ?_
    rintro f ρ1 rfl
    exact ⟨rfl, rfl⟩
end PLAW

set_option Elab.async false
set_option linter.all false
set_option maxRecDepth 100000
namespace PLAW
open PySem PySem.Spec PyProof.Rows L2 VK
theorem body0 : defBody (topS 4) = d0.body.ast := by kernel_rfl
theorem ok0 : okSs tab d0.N d0.sc (fun _ => true) d0.body = true := by decide +kernel
theorem sc0 : FnScope d0.N (d0.N.take d0.np) d0.sc := ⟨rfl, rfl, rfl, by decide +kernel, rfl, by decide +kernel, by decide +kernel⟩
theorem fn0 {P : Program} {w : World} {K : PySem.W.Frag} {h : Heap} {mg : Str → Option Value} {fns : List Addr} {f : Addr} {od an : Option Addr} {sl : Array (Option Value)} {oc kV dc pm cd ct : Value} (X : K.In h) (G : h.Ns mainGlobals mg) (hf : fns[0]? = some f)
    (a : PySem.W.nsIn K mainGlobals "is_signs" = some (some (.ref f))) (l : K.lookup f = some ⟨oc, od, .func (PySem.W.fnOf "is_signs" "is_signs" (defArgs (topS 4)) (defBody (topS 4)) (defScope (topS 4)) .none kV dc pm an cd ct), sl⟩) (c : PySem.W.codeIn K cd "is_signs" = true) (k : PySem.W.keepIn K (.ref f) = true) : FnIn P w K mg fns tab 0 d0 where
  ex := ⟨(topS 4), f, _, hf, PySem.W.mg_of X G a, fun_mk (st := (topS 4)) l c k, body0, rfl, (fun_mk (st := (topS 4)) l c k).binds fun _ _ _ _ _ _ us hl => match us, hl with | [_, _], _ => rfl, fun n ks q hm => absurd hm (by simp [tab])⟩
  dbg := by decide
  S := sc0
  np := by decide
  ok := ok0
  io := by decide +kernel
theorem body1 : defBody (topS 5) = d1.body.ast := by kernel_rfl
theorem ok1 : okSs tab d1.N d1.sc (fun _ => true) d1.body = true := by decide +kernel
theorem sc1 : FnScope d1.N (d1.N.take d1.np) d1.sc := ⟨rfl, rfl, rfl, by decide +kernel, rfl, by decide +kernel, by decide +kernel⟩
theorem fn1 {P : Program} {w : World} {K : PySem.W.Frag} {h : Heap} {mg : Str → Option Value} {fns : List Addr} {f : Addr} {od an : Option Addr} {sl : Array (Option Value)} {oc kV dc pm cd ct : Value} (X : K.In h) (G : h.Ns mainGlobals mg) (hf : fns[1]? = some f)
    (a : PySem.W.nsIn K mainGlobals "is_name" = some (some (.ref f))) (l : K.lookup f = some ⟨oc, od, .func (PySem.W.fnOf "is_name" "is_name" (defArgs (topS 5)) (defBody (topS 5)) (defScope (topS 5)) .none kV dc pm an cd ct), sl⟩) (c : PySem.W.codeIn K cd "is_name" = true) (k : PySem.W.keepIn K (.ref f) = true) : FnIn P w K mg fns tab 1 d1 where
  ex := ⟨(topS 5), f, _, hf, PySem.W.mg_of X G a, fun_mk (st := (topS 5)) l c k, body1, rfl, (fun_mk (st := (topS 5)) l c k).binds fun _ _ _ _ _ _ us hl => match us, hl with | [_], _ => rfl, (fun n ks q hm us ws h1 h2 => by
    have hm : (n = 0 ∧ ks = (["value"] : List Str) ∧ q = [0]) := by simpa [tab] using hm
    rcases hm with ⟨rfl, rfl, rfl⟩
    · exact (match us, ws, h1, h2 with | [], [_], _, _ => rfl))⟩
  dbg := by decide
  S := sc1
  np := by decide
  ok := ok1
  io := by decide +kernel
theorem body2 : defBody (topS 6) = d2.body.ast := by kernel_rfl
theorem ok2 : okSs tab d2.N d2.sc (fun _ => true) d2.body = true := by decide +kernel
theorem sc2 : FnScope d2.N (d2.N.take d2.np) d2.sc := ⟨rfl, rfl, rfl, by decide +kernel, rfl, by decide +kernel, by decide +kernel⟩
theorem fn2 {P : Program} {w : World} {K : PySem.W.Frag} {h : Heap} {mg : Str → Option Value} {fns : List Addr} {f : Addr} {od an : Option Addr} {sl : Array (Option Value)} {oc kV dc pm cd ct : Value} (X : K.In h) (G : h.Ns mainGlobals mg) (hf : fns[2]? = some f)
    (a : PySem.W.nsIn K mainGlobals "ascends" = some (some (.ref f))) (l : K.lookup f = some ⟨oc, od, .func (PySem.W.fnOf "ascends" "ascends" (defArgs (topS 6)) (defBody (topS 6)) (defScope (topS 6)) .none kV dc pm an cd ct), sl⟩) (c : PySem.W.codeIn K cd "ascends" = true) (k : PySem.W.keepIn K (.ref f) = true) : FnIn P w K mg fns tab 2 d2 where
  ex := ⟨(topS 6), f, _, hf, PySem.W.mg_of X G a, fun_mk (st := (topS 6)) l c k, body2, rfl, (fun_mk (st := (topS 6)) l c k).binds fun _ _ _ _ _ _ us hl => match us, hl with | [_], _ => rfl, fun n ks q hm => absurd hm (by simp [tab])⟩
  dbg := by decide
  S := sc2
  np := by decide
  ok := ok2
  io := by decide +kernel
theorem body3 : defBody (topS 7) = d3.body.ast := by kernel_rfl
theorem ok3 : okSs tab d3.N d3.sc (fun _ => true) d3.body = true := by decide +kernel
theorem sc3 : FnScope d3.N (d3.N.take d3.np) d3.sc := ⟨rfl, rfl, rfl, by decide +kernel, rfl, by decide +kernel, by decide +kernel⟩
theorem fn3 {P : Program} {w : World} {K : PySem.W.Frag} {h : Heap} {mg : Str → Option Value} {fns : List Addr} {f : Addr} {od an : Option Addr} {sl : Array (Option Value)} {oc kV dc pm cd ct : Value} (X : K.In h) (G : h.Ns mainGlobals mg) (hf : fns[3]? = some f)
    (a : PySem.W.nsIn K mainGlobals "is_names" = some (some (.ref f))) (l : K.lookup f = some ⟨oc, od, .func (PySem.W.fnOf "is_names" "is_names" (defArgs (topS 7)) (defBody (topS 7)) (defScope (topS 7)) .none kV dc pm an cd ct), sl⟩) (c : PySem.W.codeIn K cd "is_names" = true) (k : PySem.W.keepIn K (.ref f) = true) : FnIn P w K mg fns tab 3 d3 where
  ex := ⟨(topS 7), f, _, hf, PySem.W.mg_of X G a, fun_mk (st := (topS 7)) l c k, body3, rfl, (fun_mk (st := (topS 7)) l c k).binds fun _ _ _ _ _ _ us hl => match us, hl with | [_], _ => rfl, (fun n ks q hm us ws h1 h2 => by
    have hm : (n = 0 ∧ ks = (["value"] : List Str) ∧ q = [0]) := by simpa [tab] using hm
    rcases hm with ⟨rfl, rfl, rfl⟩
    · exact (match us, ws, h1, h2 with | [], [_], _, _ => rfl))⟩
  dbg := by decide
  S := sc3
  np := by decide
  ok := ok3
  io := by decide +kernel
theorem body4 : defBody (topS 9) = d4.body.ast := by kernel_rfl
theorem ok4 : okSs tab d4.N d4.sc (fun _ => true) d4.body = true := by decide +kernel
theorem sc4 : FnScope d4.N (d4.N.take d4.np) d4.sc := ⟨rfl, rfl, rfl, by decide +kernel, rfl, by decide +kernel, by decide +kernel⟩
theorem fn4 {P : Program} {w : World} {K : PySem.W.Frag} {h : Heap} {mg : Str → Option Value} {fns : List Addr} {f : Addr} {od an : Option Addr} {sl : Array (Option Value)} {oc kV dc pm cd ct : Value} (X : K.In h) (G : h.Ns mainGlobals mg) (hf : fns[4]? = some f)
    (a : PySem.W.nsIn K mainGlobals "_law_hash" = some (some (.ref f))) (l : K.lookup f = some ⟨oc, od, .func (PySem.W.fnOf "_law_hash" "_law_hash" (defArgs (topS 9)) (defBody (topS 9)) (defScope (topS 9)) .none kV dc pm an cd ct), sl⟩) (c : PySem.W.codeIn K cd "_law_hash" = true) (k : PySem.W.keepIn K (.ref f) = true) : FnIn P w K mg fns tab 4 d4 where
  ex := ⟨(topS 9), f, _, hf, PySem.W.mg_of X G a, fun_mk (st := (topS 9)) l c k, body4, rfl, (fun_mk (st := (topS 9)) l c k).binds fun _ _ _ _ _ _ us hl => match us, hl with | [_, _], _ => rfl, fun n ks q hm => absurd hm (by simp [tab])⟩
  dbg := by decide
  S := sc4
  np := by decide
  ok := ok4
  io := by decide +kernel
theorem body5 : defBody (topS 10) = d5.body.ast := by kernel_rfl
theorem ok5 : okSs tab d5.N d5.sc (fun _ => true) d5.body = true := by decide +kernel
theorem sc5 : FnScope d5.N (d5.N.take d5.np) d5.sc := ⟨rfl, rfl, rfl, by decide +kernel, rfl, by decide +kernel, by decide +kernel⟩
theorem fn5 {P : Program} {w : World} {K : PySem.W.Frag} {h : Heap} {mg : Str → Option Value} {fns : List Addr} {f : Addr} {od an : Option Addr} {sl : Array (Option Value)} {oc kV dc pm cd ct : Value} (X : K.In h) (G : h.Ns mainGlobals mg) (hf : fns[5]? = some f)
    (a : PySem.W.nsIn K mainGlobals "_law_cell" = some (some (.ref f))) (l : K.lookup f = some ⟨oc, od, .func (PySem.W.fnOf "_law_cell" "_law_cell" (defArgs (topS 10)) (defBody (topS 10)) (defScope (topS 10)) .none kV dc pm an cd ct), sl⟩) (c : PySem.W.codeIn K cd "_law_cell" = true) (k : PySem.W.keepIn K (.ref f) = true) : FnIn P w K mg fns tab 5 d5 where
  ex := ⟨(topS 10), f, _, hf, PySem.W.mg_of X G a, fun_mk (st := (topS 10)) l c k, body5, rfl, (fun_mk (st := (topS 10)) l c k).binds fun _ _ _ _ _ _ us hl => match us, hl with | [_, _], _ => rfl, fun n ks q hm => absurd hm (by simp [tab])⟩
  dbg := by decide
  S := sc5
  np := by decide
  ok := ok5
  io := by decide +kernel
theorem body6 : defBody (topS 11) = d6.body.ast := by kernel_rfl
theorem ok6 : okSs tab d6.N d6.sc (fun _ => true) d6.body = true := by decide +kernel
theorem sc6 : FnScope d6.N (d6.N.take d6.np) d6.sc := ⟨rfl, rfl, rfl, by decide +kernel, rfl, by decide +kernel, by decide +kernel⟩
theorem fn6 {P : Program} {w : World} {K : PySem.W.Frag} {h : Heap} {mg : Str → Option Value} {fns : List Addr} {f : Addr} {od an : Option Addr} {sl : Array (Option Value)} {oc kV dc pm cd ct : Value} (X : K.In h) (G : h.Ns mainGlobals mg) (hf : fns[6]? = some f)
    (a : PySem.W.nsIn K mainGlobals "_law_generator" = some (some (.ref f))) (l : K.lookup f = some ⟨oc, od, .func (PySem.W.fnOf "_law_generator" "_law_generator" (defArgs (topS 11)) (defBody (topS 11)) (defScope (topS 11)) .none kV dc pm an cd ct), sl⟩) (c : PySem.W.codeIn K cd "_law_generator" = true) (k : PySem.W.keepIn K (.ref f) = true) : FnIn P w K mg fns tab 6 d6 where
  ex := ⟨(topS 11), f, _, hf, PySem.W.mg_of X G a, fun_mk (st := (topS 11)) l c k, body6, rfl, (fun_mk (st := (topS 11)) l c k).binds fun _ _ _ _ _ _ us hl => match us, hl with | [_, _], _ => rfl, fun n ks q hm => absurd hm (by simp [tab])⟩
  dbg := by decide
  S := sc6
  np := by decide
  ok := ok6
  io := by decide +kernel
theorem body7 : defBody (topS 12) = d7.body.ast := by kernel_rfl
theorem ok7 : okSs tab d7.N d7.sc (fun _ => true) d7.body = true := by decide +kernel
theorem sc7 : FnScope d7.N (d7.N.take d7.np) d7.sc := ⟨rfl, rfl, rfl, by decide +kernel, rfl, by decide +kernel, by decide +kernel⟩
theorem fn7 {P : Program} {w : World} {K : PySem.W.Frag} {h : Heap} {mg : Str → Option Value} {fns : List Addr} {f : Addr} {od an : Option Addr} {sl : Array (Option Value)} {oc kV dc pm cd ct : Value} (X : K.In h) (G : h.Ns mainGlobals mg) (hf : fns[7]? = some f)
    (a : PySem.W.nsIn K mainGlobals "_law_random" = some (some (.ref f))) (l : K.lookup f = some ⟨oc, od, .func (PySem.W.fnOf "_law_random" "_law_random" (defArgs (topS 12)) (defBody (topS 12)) (defScope (topS 12)) .none kV dc pm an cd ct), sl⟩) (c : PySem.W.codeIn K cd "_law_random" = true) (k : PySem.W.keepIn K (.ref f) = true) : FnIn P w K mg fns tab 7 d7 where
  ex := ⟨(topS 12), f, _, hf, PySem.W.mg_of X G a, fun_mk (st := (topS 12)) l c k, body7, rfl, (fun_mk (st := (topS 12)) l c k).binds fun _ _ _ _ _ _ us hl => match us, hl with | [_, _], _ => rfl, fun n ks q hm => absurd hm (by simp [tab])⟩
  dbg := by decide
  S := sc7
  np := by decide
  ok := ok7
  io := by decide +kernel
theorem body8 : defBody (topS 13) = d8.body.ast := by kernel_rfl
theorem ok8 : okSs tab d8.N d8.sc (fun _ => true) d8.body = true := by decide +kernel
theorem sc8 : FnScope d8.N (d8.N.take d8.np) d8.sc := ⟨rfl, rfl, rfl, by decide +kernel, rfl, by decide +kernel, by decide +kernel⟩
theorem fn8 {P : Program} {w : World} {K : PySem.W.Frag} {h : Heap} {mg : Str → Option Value} {fns : List Addr} {f : Addr} {od an : Option Addr} {sl : Array (Option Value)} {oc kV dc pm cd ct : Value} (X : K.In h) (G : h.Ns mainGlobals mg) (hf : fns[8]? = some f)
    (a : PySem.W.nsIn K mainGlobals "_law_pick" = some (some (.ref f))) (l : K.lookup f = some ⟨oc, od, .func (PySem.W.fnOf "_law_pick" "_law_pick" (defArgs (topS 13)) (defBody (topS 13)) (defScope (topS 13)) .none kV dc pm an cd ct), sl⟩) (c : PySem.W.codeIn K cd "_law_pick" = true) (k : PySem.W.keepIn K (.ref f) = true) : FnIn P w K mg fns tab 8 d8 where
  ex := ⟨(topS 13), f, _, hf, PySem.W.mg_of X G a, fun_mk (st := (topS 13)) l c k, body8, rfl, (fun_mk (st := (topS 13)) l c k).binds fun _ _ _ _ _ _ us hl => match us, hl with | [_, _], _ => rfl, fun n ks q hm => absurd hm (by simp [tab])⟩
  dbg := by decide
  S := sc8
  np := by decide
  ok := ok8
  io := by decide +kernel
theorem body9 : defBody (topS 14) = d9.body.ast := by kernel_rfl
theorem ok9 : okSs tab d9.N d9.sc (fun _ => true) d9.body = true := by decide +kernel
theorem sc9 : FnScope d9.N (d9.N.take d9.np) d9.sc := ⟨rfl, rfl, rfl, by decide +kernel, rfl, by decide +kernel, by decide +kernel⟩
theorem fn9 {P : Program} {w : World} {K : PySem.W.Frag} {h : Heap} {mg : Str → Option Value} {fns : List Addr} {f : Addr} {od an : Option Addr} {sl : Array (Option Value)} {oc kV dc pm cd ct : Value} (X : K.In h) (G : h.Ns mainGlobals mg) (hf : fns[9]? = some f)
    (a : PySem.W.nsIn K mainGlobals "_law_copied" = some (some (.ref f))) (l : K.lookup f = some ⟨oc, od, .func (PySem.W.fnOf "_law_copied" "_law_copied" (defArgs (topS 14)) (defBody (topS 14)) (defScope (topS 14)) .none kV dc pm an cd ct), sl⟩) (c : PySem.W.codeIn K cd "_law_copied" = true) (k : PySem.W.keepIn K (.ref f) = true) : FnIn P w K mg fns tab 9 d9 where
  ex := ⟨(topS 14), f, _, hf, PySem.W.mg_of X G a, fun_mk (st := (topS 14)) l c k, body9, rfl, (fun_mk (st := (topS 14)) l c k).binds fun _ _ _ _ _ _ us hl => match us, hl with | [_], _ => rfl, fun n ks q hm => absurd hm (by simp [tab])⟩
  dbg := by decide
  S := sc9
  np := by decide
  ok := ok9
  io := by decide +kernel
theorem body10 : defBody (topS 15) = d10.body.ast := by kernel_rfl
theorem ok10 : okSs tab d10.N d10.sc (fun _ => true) d10.body = true := by decide +kernel
theorem sc10 : FnScope d10.N (d10.N.take d10.np) d10.sc := ⟨rfl, rfl, rfl, by decide +kernel, rfl, by decide +kernel, by decide +kernel⟩
theorem fn10 {P : Program} {w : World} {K : PySem.W.Frag} {h : Heap} {mg : Str → Option Value} {fns : List Addr} {f : Addr} {od an : Option Addr} {sl : Array (Option Value)} {oc kV dc pm cd ct : Value} (X : K.In h) (G : h.Ns mainGlobals mg) (hf : fns[10]? = some f)
    (a : PySem.W.nsIn K mainGlobals "_law_exact" = some (some (.ref f))) (l : K.lookup f = some ⟨oc, od, .func (PySem.W.fnOf "_law_exact" "_law_exact" (defArgs (topS 15)) (defBody (topS 15)) (defScope (topS 15)) .none kV dc pm an cd ct), sl⟩) (c : PySem.W.codeIn K cd "_law_exact" = true) (k : PySem.W.keepIn K (.ref f) = true) : FnIn P w K mg fns tab 10 d10 where
  ex := ⟨(topS 15), f, _, hf, PySem.W.mg_of X G a, fun_mk (st := (topS 15)) l c k, body10, rfl, (fun_mk (st := (topS 15)) l c k).binds fun _ _ _ _ _ _ us hl => match us, hl with | [_, _], _ => rfl, fun n ks q hm => absurd hm (by simp [tab])⟩
  dbg := by decide
  S := sc10
  np := by decide
  ok := ok10
  io := by decide +kernel
theorem body11 : defBody (topS 16) = d11.body.ast := by kernel_rfl
theorem ok11 : okSs tab d11.N d11.sc (fun _ => true) d11.body = true := by decide +kernel
theorem sc11 : FnScope d11.N (d11.N.take d11.np) d11.sc := ⟨rfl, rfl, rfl, by decide +kernel, rfl, by decide +kernel, by decide +kernel⟩
theorem fn11 {P : Program} {w : World} {K : PySem.W.Frag} {h : Heap} {mg : Str → Option Value} {fns : List Addr} {f : Addr} {od an : Option Addr} {sl : Array (Option Value)} {oc kV dc pm cd ct : Value} (X : K.In h) (G : h.Ns mainGlobals mg) (hf : fns[11]? = some f)
    (a : PySem.W.nsIn K mainGlobals "_law_unlike" = some (some (.ref f))) (l : K.lookup f = some ⟨oc, od, .func (PySem.W.fnOf "_law_unlike" "_law_unlike" (defArgs (topS 16)) (defBody (topS 16)) (defScope (topS 16)) .none kV dc pm an cd ct), sl⟩) (c : PySem.W.codeIn K cd "_law_unlike" = true) (k : PySem.W.keepIn K (.ref f) = true) : FnIn P w K mg fns tab 11 d11 where
  ex := ⟨(topS 16), f, _, hf, PySem.W.mg_of X G a, fun_mk (st := (topS 16)) l c k, body11, rfl, (fun_mk (st := (topS 16)) l c k).binds fun _ _ _ _ _ _ us hl => match us, hl with | [_], _ => rfl, fun n ks q hm => absurd hm (by simp [tab])⟩
  dbg := by decide
  S := sc11
  np := by decide
  ok := ok11
  io := by decide +kernel
theorem body12 : defBody (topS 17) = d12.body.ast := by kernel_rfl
theorem ok12 : okSs tab d12.N d12.sc (fun _ => true) d12.body = true := by decide +kernel
theorem sc12 : FnScope d12.N (d12.N.take d12.np) d12.sc := ⟨rfl, rfl, rfl, by decide +kernel, rfl, by decide +kernel, by decide +kernel⟩
theorem fn12 {P : Program} {w : World} {K : PySem.W.Frag} {h : Heap} {mg : Str → Option Value} {fns : List Addr} {f : Addr} {od an : Option Addr} {sl : Array (Option Value)} {oc kV dc pm cd ct : Value} (X : K.In h) (G : h.Ns mainGlobals mg) (hf : fns[12]? = some f)
    (a : PySem.W.nsIn K mainGlobals "_law_any" = some (some (.ref f))) (l : K.lookup f = some ⟨oc, od, .func (PySem.W.fnOf "_law_any" "_law_any" (defArgs (topS 17)) (defBody (topS 17)) (defScope (topS 17)) .none kV dc pm an cd ct), sl⟩) (c : PySem.W.codeIn K cd "_law_any" = true) (k : PySem.W.keepIn K (.ref f) = true) : FnIn P w K mg fns tab 12 d12 where
  ex := ⟨(topS 17), f, _, hf, PySem.W.mg_of X G a, fun_mk (st := (topS 17)) l c k, body12, rfl, (fun_mk (st := (topS 17)) l c k).binds fun _ _ _ _ _ _ us hl => match us, hl with | [_], _ => rfl, fun n ks q hm => absurd hm (by simp [tab])⟩
  dbg := by decide
  S := sc12
  np := by decide
  ok := ok12
  io := by decide +kernel
theorem body13 : defBody (topS 18) = d13.body.ast := by kernel_rfl
theorem ok13 : okSs tab d13.N d13.sc (fun _ => true) d13.body = true := by decide +kernel
theorem sc13 : FnScope d13.N (d13.N.take d13.np) d13.sc := ⟨rfl, rfl, rfl, by decide +kernel, rfl, by decide +kernel, by decide +kernel⟩
theorem fn13 {P : Program} {w : World} {K : PySem.W.Frag} {h : Heap} {mg : Str → Option Value} {fns : List Addr} {f : Addr} {od an : Option Addr} {sl : Array (Option Value)} {oc kV dc pm cd ct : Value} (X : K.In h) (G : h.Ns mainGlobals mg) (hf : fns[13]? = some f)
    (a : PySem.W.nsIn K mainGlobals "_law_name" = some (some (.ref f))) (l : K.lookup f = some ⟨oc, od, .func (PySem.W.fnOf "_law_name" "_law_name" (defArgs (topS 18)) (defBody (topS 18)) (defScope (topS 18)) .none kV dc pm an cd ct), sl⟩) (c : PySem.W.codeIn K cd "_law_name" = true) (k : PySem.W.keepIn K (.ref f) = true) : FnIn P w K mg fns tab 13 d13 where
  ex := ⟨(topS 18), f, _, hf, PySem.W.mg_of X G a, fun_mk (st := (topS 18)) l c k, body13, rfl, (fun_mk (st := (topS 18)) l c k).binds fun _ _ _ _ _ _ us hl => match us, hl with | [_], _ => rfl, fun n ks q hm => absurd hm (by simp [tab])⟩
  dbg := by decide
  S := sc13
  np := by decide
  ok := ok13
  io := by decide +kernel
theorem body14 : defBody (topS 19) = d14.body.ast := by kernel_rfl
theorem ok14 : okSs tab d14.N d14.sc (fun _ => true) d14.body = true := by decide +kernel
theorem sc14 : FnScope d14.N (d14.N.take d14.np) d14.sc := ⟨rfl, rfl, rfl, by decide +kernel, rfl, by decide +kernel, by decide +kernel⟩
theorem fn14 {P : Program} {w : World} {K : PySem.W.Frag} {h : Heap} {mg : Str → Option Value} {fns : List Addr} {f : Addr} {od an : Option Addr} {sl : Array (Option Value)} {oc kV dc pm cd ct : Value} (X : K.In h) (G : h.Ns mainGlobals mg) (hf : fns[14]? = some f)
    (a : PySem.W.nsIn K mainGlobals "_law_rise" = some (some (.ref f))) (l : K.lookup f = some ⟨oc, od, .func (PySem.W.fnOf "_law_rise" "_law_rise" (defArgs (topS 19)) (defBody (topS 19)) (defScope (topS 19)) .none kV dc pm an cd ct), sl⟩) (c : PySem.W.codeIn K cd "_law_rise" = true) (k : PySem.W.keepIn K (.ref f) = true) : FnIn P w K mg fns tab 14 d14 where
  ex := ⟨(topS 19), f, _, hf, PySem.W.mg_of X G a, fun_mk (st := (topS 19)) l c k, body14, rfl, (fun_mk (st := (topS 19)) l c k).binds fun _ _ _ _ _ _ us hl => match us, hl with | [_], _ => rfl, fun n ks q hm => absurd hm (by simp [tab])⟩
  dbg := by decide
  S := sc14
  np := by decide
  ok := ok14
  io := by decide +kernel
theorem body15 : defBody (topS 20) = d15.body.ast := by kernel_rfl
theorem ok15 : okSs tab d15.N d15.sc (fun _ => true) d15.body = true := by decide +kernel
theorem sc15 : FnScope d15.N (d15.N.take d15.np) d15.sc := ⟨rfl, rfl, rfl, by decide +kernel, rfl, by decide +kernel, by decide +kernel⟩
theorem fn15 {P : Program} {w : World} {K : PySem.W.Frag} {h : Heap} {mg : Str → Option Value} {fns : List Addr} {f : Addr} {od an : Option Addr} {sl : Array (Option Value)} {oc kV dc pm cd ct : Value} (X : K.In h) (G : h.Ns mainGlobals mg) (hf : fns[15]? = some f)
    (a : PySem.W.nsIn K mainGlobals "_law_string" = some (some (.ref f))) (l : K.lookup f = some ⟨oc, od, .func (PySem.W.fnOf "_law_string" "_law_string" (defArgs (topS 20)) (defBody (topS 20)) (defScope (topS 20)) .none kV dc pm an cd ct), sl⟩) (c : PySem.W.codeIn K cd "_law_string" = true) (k : PySem.W.keepIn K (.ref f) = true) : FnIn P w K mg fns tab 15 d15 where
  ex := ⟨(topS 20), f, _, hf, PySem.W.mg_of X G a, fun_mk (st := (topS 20)) l c k, body15, rfl, (fun_mk (st := (topS 20)) l c k).binds fun _ _ _ _ _ _ us hl => match us, hl with | [_], _ => rfl, fun n ks q hm => absurd hm (by simp [tab])⟩
  dbg := by decide
  S := sc15
  np := by decide
  ok := ok15
  io := by decide +kernel
theorem body16 : defBody (topS 21) = d16.body.ast := by kernel_rfl
theorem ok16 : okSs tab d16.N d16.sc (fun _ => true) d16.body = true := by decide +kernel
theorem sc16 : FnScope d16.N (d16.N.take d16.np) d16.sc := ⟨rfl, rfl, rfl, by decide +kernel, rfl, by decide +kernel, by decide +kernel⟩
theorem fn16 {P : Program} {w : World} {K : PySem.W.Frag} {h : Heap} {mg : Str → Option Value} {fns : List Addr} {f : Addr} {od an : Option Addr} {sl : Array (Option Value)} {oc kV dc pm cd ct : Value} (X : K.In h) (G : h.Ns mainGlobals mg) (hf : fns[16]? = some f)
    (a : PySem.W.nsIn K mainGlobals "_law_numbers" = some (some (.ref f))) (l : K.lookup f = some ⟨oc, od, .func (PySem.W.fnOf "_law_numbers" "_law_numbers" (defArgs (topS 21)) (defBody (topS 21)) (defScope (topS 21)) .none kV dc pm an cd ct), sl⟩) (c : PySem.W.codeIn K cd "_law_numbers" = true) (k : PySem.W.keepIn K (.ref f) = true) : FnIn P w K mg fns tab 16 d16 where
  ex := ⟨(topS 21), f, _, hf, PySem.W.mg_of X G a, fun_mk (st := (topS 21)) l c k, body16, rfl, (fun_mk (st := (topS 21)) l c k).binds fun _ _ _ _ _ _ us hl => match us, hl with | [_], _ => rfl, fun n ks q hm => absurd hm (by simp [tab])⟩
  dbg := by decide
  S := sc16
  np := by decide
  ok := ok16
  io := by decide +kernel
theorem body17 : defBody (topS 22) = d17.body.ast := by kernel_rfl
theorem ok17 : okSs tab d17.N d17.sc (fun _ => true) d17.body = true := by decide +kernel
theorem sc17 : FnScope d17.N (d17.N.take d17.np) d17.sc := ⟨rfl, rfl, rfl, by decide +kernel, rfl, by decide +kernel, by decide +kernel⟩
theorem fn17 {P : Program} {w : World} {K : PySem.W.Frag} {h : Heap} {mg : Str → Option Value} {fns : List Addr} {f : Addr} {od an : Option Addr} {sl : Array (Option Value)} {oc kV dc pm cd ct : Value} (X : K.In h) (G : h.Ns mainGlobals mg) (hf : fns[17]? = some f)
    (a : PySem.W.nsIn K mainGlobals "_law_judged" = some (some (.ref f))) (l : K.lookup f = some ⟨oc, od, .func (PySem.W.fnOf "_law_judged" "_law_judged" (defArgs (topS 22)) (defBody (topS 22)) (defScope (topS 22)) .none kV dc pm an cd ct), sl⟩) (c : PySem.W.codeIn K cd "_law_judged" = true) (k : PySem.W.keepIn K (.ref f) = true) : FnIn P w K mg fns tab 17 d17 where
  ex := ⟨(topS 22), f, _, hf, PySem.W.mg_of X G a, fun_mk (st := (topS 22)) l c k, body17, rfl, (fun_mk (st := (topS 22)) l c k).binds fun _ _ _ _ _ _ us hl => match us, hl with | [_], _ => rfl, fun n ks q hm => absurd hm (by simp [tab])⟩
  dbg := by decide
  S := sc17
  np := by decide
  ok := ok17
  io := by decide +kernel
theorem body18 : defBody (topS 23) = d18.body.ast := by kernel_rfl
theorem ok18 : okSs tab d18.N d18.sc (fun _ => true) d18.body = true := by decide +kernel
theorem sc18 : FnScope d18.N (d18.N.take d18.np) d18.sc := ⟨rfl, rfl, rfl, by decide +kernel, rfl, by decide +kernel, by decide +kernel⟩
theorem fn18 {P : Program} {w : World} {K : PySem.W.Frag} {h : Heap} {mg : Str → Option Value} {fns : List Addr} {f : Addr} {od an : Option Addr} {sl : Array (Option Value)} {oc kV dc pm cd ct : Value} (X : K.In h) (G : h.Ns mainGlobals mg) (hf : fns[18]? = some f)
    (a : PySem.W.nsIn K mainGlobals "law" = some (some (.ref f))) (l : K.lookup f = some ⟨oc, od, .func (PySem.W.fnOf "law" "law" (defArgs (topS 23)) (defBody (topS 23)) (defScope (topS 23)) .none kV dc pm an cd ct), sl⟩) (c : PySem.W.codeIn K cd "law" = true) (k : PySem.W.keepIn K (.ref f) = true) : FnIn P w K mg fns tab 18 d18 where
  ex := ⟨(topS 23), f, _, hf, PySem.W.mg_of X G a, fun_mk (st := (topS 23)) l c k, body18, rfl, (fun_mk (st := (topS 23)) l c k).binds fun _ _ _ _ _ _ us hl => match us, hl with | [_], _ => rfl, fun n ks q hm => absurd hm (by simp [tab])⟩
  dbg := by decide
  S := sc18
  np := by decide
  ok := ok18
  io := by decide +kernel
theorem lookup_mem {α β : Type} [BEq α] [LawfulBEq α] {x : α} {d : β} : ∀ {l : List (α × β)}, l.lookup x = some d → (x, d) ∈ l
  | [], h => nomatch h
  | (y, e) :: l, h => by
    rw [List.lookup_cons] at h
    split at h
    · rename_i hk
      have hk : x = y := by simpa using hk
      subst hk
      cases h
      exact List.mem_cons_self
    · exact List.mem_cons_of_mem _ (lookup_mem h)
theorem plain (ns : List Int) (hl : ns.length ≤ 63) (hb : ∀ z ∈ ns, Builtin.Int.intBits z ≤ 1048576) : ∃ outs, callN opBi0 opMt0 opMu0 tab 1000 pr 40 18 [.lst .ext (ns.map .int)] = some (.bl true, outs) := by
  obtain ⟨r, outs, h1, rfl, rfl⟩ := cal18 ns hb
  exact ⟨[], h1⟩
theorem all_mk {l : PySem.W.OpenLaw} {w : World} {K : PySem.W.Frag} {h : Heap} {mg : Str → Option Value} {fa f0 f1 f2 f3 f4 f5 f6 f7 f8 f9 f10 f11 f12 f13 f14 f15 f16 f17 f18 : Addr} (X : K.In h) (G : h.Ns mainGlobals mg) (hfa : mg "law" = some (.ref fa))
    {od0 an0 : Option Addr} {sl0 : Array (Option Value)} {oc0 kV0 dc0 pm0 cd0 ct0 : Value} {od1 an1 : Option Addr} {sl1 : Array (Option Value)} {oc1 kV1 dc1 pm1 cd1 ct1 : Value} {od2 an2 : Option Addr} {sl2 : Array (Option Value)} {oc2 kV2 dc2 pm2 cd2 ct2 : Value} {od3 an3 : Option Addr} {sl3 : Array (Option Value)} {oc3 kV3 dc3 pm3 cd3 ct3 : Value} {od4 an4 : Option Addr} {sl4 : Array (Option Value)} {oc4 kV4 dc4 pm4 cd4 ct4 : Value} {od5 an5 : Option Addr} {sl5 : Array (Option Value)} {oc5 kV5 dc5 pm5 cd5 ct5 : Value} {od6 an6 : Option Addr} {sl6 : Array (Option Value)} {oc6 kV6 dc6 pm6 cd6 ct6 : Value} {od7 an7 : Option Addr} {sl7 : Array (Option Value)} {oc7 kV7 dc7 pm7 cd7 ct7 : Value} {od8 an8 : Option Addr} {sl8 : Array (Option Value)} {oc8 kV8 dc8 pm8 cd8 ct8 : Value} {od9 an9 : Option Addr} {sl9 : Array (Option Value)} {oc9 kV9 dc9 pm9 cd9 ct9 : Value} {od10 an10 : Option Addr} {sl10 : Array (Option Value)} {oc10 kV10 dc10 pm10 cd10 ct10 : Value} {od11 an11 : Option Addr} {sl11 : Array (Option Value)} {oc11 kV11 dc11 pm11 cd11 ct11 : Value} {od12 an12 : Option Addr} {sl12 : Array (Option Value)} {oc12 kV12 dc12 pm12 cd12 ct12 : Value} {od13 an13 : Option Addr} {sl13 : Array (Option Value)} {oc13 kV13 dc13 pm13 cd13 ct13 : Value} {od14 an14 : Option Addr} {sl14 : Array (Option Value)} {oc14 kV14 dc14 pm14 cd14 ct14 : Value} {od15 an15 : Option Addr} {sl15 : Array (Option Value)} {oc15 kV15 dc15 pm15 cd15 ct15 : Value} {od16 an16 : Option Addr} {sl16 : Array (Option Value)} {oc16 kV16 dc16 pm16 cd16 ct16 : Value} {od17 an17 : Option Addr} {sl17 : Array (Option Value)} {oc17 kV17 dc17 pm17 cd17 ct17 : Value} {od18 an18 : Option Addr} {sl18 : Array (Option Value)} {oc18 kV18 dc18 pm18 cd18 ct18 : Value} {t0 : Tok} {t1 : Tok} {t2 : Tok}
    (a0 : PySem.W.nsIn K mainGlobals "is_signs" = some (some (.ref f0))) (l0 : K.lookup f0 = some ⟨oc0, od0, .func (PySem.W.fnOf "is_signs" "is_signs" (defArgs (topS 4)) (defBody (topS 4)) (defScope (topS 4)) .none kV0 dc0 pm0 an0 cd0 ct0), sl0⟩) (c0 : PySem.W.codeIn K cd0 "is_signs" = true) (k0 : PySem.W.keepIn K (.ref f0) = true)
    (a1 : PySem.W.nsIn K mainGlobals "is_name" = some (some (.ref f1))) (l1 : K.lookup f1 = some ⟨oc1, od1, .func (PySem.W.fnOf "is_name" "is_name" (defArgs (topS 5)) (defBody (topS 5)) (defScope (topS 5)) .none kV1 dc1 pm1 an1 cd1 ct1), sl1⟩) (c1 : PySem.W.codeIn K cd1 "is_name" = true) (k1 : PySem.W.keepIn K (.ref f1) = true)
    (a2 : PySem.W.nsIn K mainGlobals "ascends" = some (some (.ref f2))) (l2 : K.lookup f2 = some ⟨oc2, od2, .func (PySem.W.fnOf "ascends" "ascends" (defArgs (topS 6)) (defBody (topS 6)) (defScope (topS 6)) .none kV2 dc2 pm2 an2 cd2 ct2), sl2⟩) (c2 : PySem.W.codeIn K cd2 "ascends" = true) (k2 : PySem.W.keepIn K (.ref f2) = true)
    (a3 : PySem.W.nsIn K mainGlobals "is_names" = some (some (.ref f3))) (l3 : K.lookup f3 = some ⟨oc3, od3, .func (PySem.W.fnOf "is_names" "is_names" (defArgs (topS 7)) (defBody (topS 7)) (defScope (topS 7)) .none kV3 dc3 pm3 an3 cd3 ct3), sl3⟩) (c3 : PySem.W.codeIn K cd3 "is_names" = true) (k3 : PySem.W.keepIn K (.ref f3) = true)
    (a4 : PySem.W.nsIn K mainGlobals "_law_hash" = some (some (.ref f4))) (l4 : K.lookup f4 = some ⟨oc4, od4, .func (PySem.W.fnOf "_law_hash" "_law_hash" (defArgs (topS 9)) (defBody (topS 9)) (defScope (topS 9)) .none kV4 dc4 pm4 an4 cd4 ct4), sl4⟩) (c4 : PySem.W.codeIn K cd4 "_law_hash" = true) (k4 : PySem.W.keepIn K (.ref f4) = true)
    (a5 : PySem.W.nsIn K mainGlobals "_law_cell" = some (some (.ref f5))) (l5 : K.lookup f5 = some ⟨oc5, od5, .func (PySem.W.fnOf "_law_cell" "_law_cell" (defArgs (topS 10)) (defBody (topS 10)) (defScope (topS 10)) .none kV5 dc5 pm5 an5 cd5 ct5), sl5⟩) (c5 : PySem.W.codeIn K cd5 "_law_cell" = true) (k5 : PySem.W.keepIn K (.ref f5) = true)
    (a6 : PySem.W.nsIn K mainGlobals "_law_generator" = some (some (.ref f6))) (l6 : K.lookup f6 = some ⟨oc6, od6, .func (PySem.W.fnOf "_law_generator" "_law_generator" (defArgs (topS 11)) (defBody (topS 11)) (defScope (topS 11)) .none kV6 dc6 pm6 an6 cd6 ct6), sl6⟩) (c6 : PySem.W.codeIn K cd6 "_law_generator" = true) (k6 : PySem.W.keepIn K (.ref f6) = true)
    (a7 : PySem.W.nsIn K mainGlobals "_law_random" = some (some (.ref f7))) (l7 : K.lookup f7 = some ⟨oc7, od7, .func (PySem.W.fnOf "_law_random" "_law_random" (defArgs (topS 12)) (defBody (topS 12)) (defScope (topS 12)) .none kV7 dc7 pm7 an7 cd7 ct7), sl7⟩) (c7 : PySem.W.codeIn K cd7 "_law_random" = true) (k7 : PySem.W.keepIn K (.ref f7) = true)
    (a8 : PySem.W.nsIn K mainGlobals "_law_pick" = some (some (.ref f8))) (l8 : K.lookup f8 = some ⟨oc8, od8, .func (PySem.W.fnOf "_law_pick" "_law_pick" (defArgs (topS 13)) (defBody (topS 13)) (defScope (topS 13)) .none kV8 dc8 pm8 an8 cd8 ct8), sl8⟩) (c8 : PySem.W.codeIn K cd8 "_law_pick" = true) (k8 : PySem.W.keepIn K (.ref f8) = true)
    (a9 : PySem.W.nsIn K mainGlobals "_law_copied" = some (some (.ref f9))) (l9 : K.lookup f9 = some ⟨oc9, od9, .func (PySem.W.fnOf "_law_copied" "_law_copied" (defArgs (topS 14)) (defBody (topS 14)) (defScope (topS 14)) .none kV9 dc9 pm9 an9 cd9 ct9), sl9⟩) (c9 : PySem.W.codeIn K cd9 "_law_copied" = true) (k9 : PySem.W.keepIn K (.ref f9) = true)
    (a10 : PySem.W.nsIn K mainGlobals "_law_exact" = some (some (.ref f10))) (l10 : K.lookup f10 = some ⟨oc10, od10, .func (PySem.W.fnOf "_law_exact" "_law_exact" (defArgs (topS 15)) (defBody (topS 15)) (defScope (topS 15)) .none kV10 dc10 pm10 an10 cd10 ct10), sl10⟩) (c10 : PySem.W.codeIn K cd10 "_law_exact" = true) (k10 : PySem.W.keepIn K (.ref f10) = true)
    (a11 : PySem.W.nsIn K mainGlobals "_law_unlike" = some (some (.ref f11))) (l11 : K.lookup f11 = some ⟨oc11, od11, .func (PySem.W.fnOf "_law_unlike" "_law_unlike" (defArgs (topS 16)) (defBody (topS 16)) (defScope (topS 16)) .none kV11 dc11 pm11 an11 cd11 ct11), sl11⟩) (c11 : PySem.W.codeIn K cd11 "_law_unlike" = true) (k11 : PySem.W.keepIn K (.ref f11) = true)
    (a12 : PySem.W.nsIn K mainGlobals "_law_any" = some (some (.ref f12))) (l12 : K.lookup f12 = some ⟨oc12, od12, .func (PySem.W.fnOf "_law_any" "_law_any" (defArgs (topS 17)) (defBody (topS 17)) (defScope (topS 17)) .none kV12 dc12 pm12 an12 cd12 ct12), sl12⟩) (c12 : PySem.W.codeIn K cd12 "_law_any" = true) (k12 : PySem.W.keepIn K (.ref f12) = true)
    (a13 : PySem.W.nsIn K mainGlobals "_law_name" = some (some (.ref f13))) (l13 : K.lookup f13 = some ⟨oc13, od13, .func (PySem.W.fnOf "_law_name" "_law_name" (defArgs (topS 18)) (defBody (topS 18)) (defScope (topS 18)) .none kV13 dc13 pm13 an13 cd13 ct13), sl13⟩) (c13 : PySem.W.codeIn K cd13 "_law_name" = true) (k13 : PySem.W.keepIn K (.ref f13) = true)
    (a14 : PySem.W.nsIn K mainGlobals "_law_rise" = some (some (.ref f14))) (l14 : K.lookup f14 = some ⟨oc14, od14, .func (PySem.W.fnOf "_law_rise" "_law_rise" (defArgs (topS 19)) (defBody (topS 19)) (defScope (topS 19)) .none kV14 dc14 pm14 an14 cd14 ct14), sl14⟩) (c14 : PySem.W.codeIn K cd14 "_law_rise" = true) (k14 : PySem.W.keepIn K (.ref f14) = true)
    (a15 : PySem.W.nsIn K mainGlobals "_law_string" = some (some (.ref f15))) (l15 : K.lookup f15 = some ⟨oc15, od15, .func (PySem.W.fnOf "_law_string" "_law_string" (defArgs (topS 20)) (defBody (topS 20)) (defScope (topS 20)) .none kV15 dc15 pm15 an15 cd15 ct15), sl15⟩) (c15 : PySem.W.codeIn K cd15 "_law_string" = true) (k15 : PySem.W.keepIn K (.ref f15) = true)
    (a16 : PySem.W.nsIn K mainGlobals "_law_numbers" = some (some (.ref f16))) (l16 : K.lookup f16 = some ⟨oc16, od16, .func (PySem.W.fnOf "_law_numbers" "_law_numbers" (defArgs (topS 21)) (defBody (topS 21)) (defScope (topS 21)) .none kV16 dc16 pm16 an16 cd16 ct16), sl16⟩) (c16 : PySem.W.codeIn K cd16 "_law_numbers" = true) (k16 : PySem.W.keepIn K (.ref f16) = true)
    (a17 : PySem.W.nsIn K mainGlobals "_law_judged" = some (some (.ref f17))) (l17 : K.lookup f17 = some ⟨oc17, od17, .func (PySem.W.fnOf "_law_judged" "_law_judged" (defArgs (topS 22)) (defBody (topS 22)) (defScope (topS 22)) .none kV17 dc17 pm17 an17 cd17 ct17), sl17⟩) (c17 : PySem.W.codeIn K cd17 "_law_judged" = true) (k17 : PySem.W.keepIn K (.ref f17) = true)
    (a18 : PySem.W.nsIn K mainGlobals "law" = some (some (.ref f18))) (l18 : K.lookup f18 = some ⟨oc18, od18, .func (PySem.W.fnOf "law" "law" (defArgs (topS 23)) (defBody (topS 23)) (defScope (topS 23)) .none kV18 dc18 pm18 an18 cd18 ct18), sl18⟩) (c18 : PySem.W.codeIn K cd18 "law" = true) (k18 : PySem.W.keepIn K (.ref f18) = true)
    (z0 : PySem.W.nsIn K mainGlobals "len" = some none)
    (z1 : PySem.W.nsIn K mainGlobals "sorted" = some none)
    (z2 : PySem.W.nsIn K mainGlobals "sum" = some none)
    (z3 : PySem.W.nsIn K mainGlobals "max" = some none)
    (z4 : PySem.W.nsIn K mainGlobals "min" = some none)
    (z5 : PySem.W.nsIn K mainGlobals "abs" = some none)
    (z6 : PySem.W.nsIn K mainGlobals "all" = some none)
    (z7 : PySem.W.nsIn K mainGlobals "any" = some none)
    (z8 : PySem.W.nsIn K mainGlobals "repr" = some none)
    (z9 : PySem.W.nsIn K mainGlobals "int" = some none)
    (z10 : PySem.W.nsIn K mainGlobals "str" = some none)
    (z11 : PySem.W.nsIn K mainGlobals "list" = some none)
    (z12 : PySem.W.nsIn K mainGlobals "tuple" = some none)
    (z13 : PySem.W.nsIn K mainGlobals "dict" = some none)
    (z14 : PySem.W.nsIn K mainGlobals "bool" = some none)
    (z15 : PySem.W.nsIn K mainGlobals "range" = some none)
    (z16 : PySem.W.nsIn K mainGlobals "zip" = some none)
    (z17 : PySem.W.nsIn K mainGlobals "enumerate" = some none)
    (z18 : PySem.W.nsIn K mainGlobals "isinstance" = some none)
    (vg0 : PySem.W.nsIn K mainGlobals "SMALL" = some (some (.str "abcdefghijklmnopqrstuvwxyz" t0)))
    (vg1 : PySem.W.nsIn K mainGlobals "FIGURES" = some (some (.str "0123456789" t1)))
    (vg2 : PySem.W.nsIn K mainGlobals "MOST_NAME" = some (some (.int 8 t2))) :
    ∃ fd : FuncData, (∀ (s : Shared) (v : Value), BindsTo s fd ⟨[v], []⟩ [("script", v)]) ∧ ∀ base : Heap, K.In base → base.Ns mainGlobals mg → FnOkG l.prog w K mg base 40 fa fd ["script"] (spTold K 63) := by
  have e : f18 = fa := Value.ref.inj (Option.some.inj ((PySem.W.mg_of X G a18).symm.trans hfa))
  subst e
  have cx : CtxIn K mg [f0, f1, f2, f3, f4, f5, f6, f7, f8, f9, f10, f11, f12, f13, f14, f15, f16, f17, f18] tab := by
    refine ⟨fun x hx => ?_, fun x d hx => ?_⟩
    · have hx : x = "len" ∨ x = "sorted" ∨ x = "sum" ∨ x = "max" ∨ x = "min" ∨ x = "abs" ∨ x = "all" ∨ x = "any" ∨ x = "repr" ∨ x = "int" ∨ x = "str" ∨ x = "list" ∨ x = "tuple" ∨ x = "dict" ∨ x = "bool" ∨ x = "range" ∨ x = "zip" ∨ x = "enumerate" ∨ x = "isinstance" := by simpa [bltNames] using hx
      rcases hx with rfl | rfl | rfl | rfl | rfl | rfl | rfl | rfl | rfl | rfl | rfl | rfl | rfl | rfl | rfl | rfl | rfl | rfl | rfl
      · exact PySem.W.mg_none_of X G z0
      · exact PySem.W.mg_none_of X G z1
      · exact PySem.W.mg_none_of X G z2
      · exact PySem.W.mg_none_of X G z3
      · exact PySem.W.mg_none_of X G z4
      · exact PySem.W.mg_none_of X G z5
      · exact PySem.W.mg_none_of X G z6
      · exact PySem.W.mg_none_of X G z7
      · exact PySem.W.mg_none_of X G z8
      · exact PySem.W.mg_none_of X G z9
      · exact PySem.W.mg_none_of X G z10
      · exact PySem.W.mg_none_of X G z11
      · exact PySem.W.mg_none_of X G z12
      · exact PySem.W.mg_none_of X G z13
      · exact PySem.W.mg_none_of X G z14
      · exact PySem.W.mg_none_of X G z15
      · exact PySem.W.mg_none_of X G z16
      · exact PySem.W.mg_none_of X G z17
      · exact PySem.W.mg_none_of X G z18
    · have hx := lookup_mem hx
      have hx : (x = "SMALL" ∧ d = .str "abcdefghijklmnopqrstuvwxyz") ∨ (x = "FIGURES" ∧ d = .str "0123456789") ∨ (x = "MOST_NAME" ∧ d = .int 8) := by simpa [tab, glbs] using hx
      rcases hx with ⟨rfl, rfl⟩ | ⟨rfl, rfl⟩ | ⟨rfl, rfl⟩
      · exact ⟨⟨_, .str "abcdefghijklmnopqrstuvwxyz", PySem.W.mg_of X G vg0, ⟨_, rfl⟩, fun _ _ => rfl⟩, by decide⟩
      · exact ⟨⟨_, .str "0123456789", PySem.W.mg_of X G vg1, ⟨_, rfl⟩, fun _ _ => rfl⟩, by decide⟩
      · exact ⟨⟨_, .int 8, PySem.W.mg_of X G vg2, ⟨_, rfl⟩, fun _ _ => rfl⟩, by decide⟩
  have hpr : ∀ i f, pr[i]? = some f → FnIn l.prog w K mg [f0, f1, f2, f3, f4, f5, f6, f7, f8, f9, f10, f11, f12, f13, f14, f15, f16, f17, f18] tab i f := fun i f hi => match i, hi with
    | 0, rfl => fn0 X G rfl a0 l0 c0 k0
    | 1, rfl => fn1 X G rfl a1 l1 c1 k1
    | 2, rfl => fn2 X G rfl a2 l2 c2 k2
    | 3, rfl => fn3 X G rfl a3 l3 c3 k3
    | 4, rfl => fn4 X G rfl a4 l4 c4 k4
    | 5, rfl => fn5 X G rfl a5 l5 c5 k5
    | 6, rfl => fn6 X G rfl a6 l6 c6 k6
    | 7, rfl => fn7 X G rfl a7 l7 c7 k7
    | 8, rfl => fn8 X G rfl a8 l8 c8 k8
    | 9, rfl => fn9 X G rfl a9 l9 c9 k9
    | 10, rfl => fn10 X G rfl a10 l10 c10 k10
    | 11, rfl => fn11 X G rfl a11 l11 c11 k11
    | 12, rfl => fn12 X G rfl a12 l12 c12 k12
    | 13, rfl => fn13 X G rfl a13 l13 c13 k13
    | 14, rfl => fn14 X G rfl a14 l14 c14 k14
    | 15, rfl => fn15 X G rfl a15 l15 c15 k15
    | 16, rfl => fn16 X G rfl a16 l16 c16 k16
    | 17, rfl => fn17 X G rfl a17 l17 c17 k17
    | 18, rfl => fn18 X G rfl a18 l18 c18 k18
    | n + 19, hi => nomatch hi
  have F18 := fun_mk (st := topS 23) l18 c18 k18
  refine ⟨PySem.W.fnOf "law" "law" (defArgs (topS 23)) (defBody (topS 23)) (defScope (topS 23)) .none kV18 dc18 pm18 an18 cd18 ct18, fun s v => .of_eq rfl, fun base _ _ => ?_⟩
  refine told_of (fns := [f0, f1, f2, f3, f4, f5, f6, f7, f8, f9, f10, f11, f12, f13, f14, f15, f16, f17, f18]) (all_ok (W := 1000) (pr := pr) (fun C => ops0 C) cx rfl hpr 40 18 d18 rfl _ _ ["script"] rfl (PySem.W.mg_of X G a18) (topS 23) F18 body18 rfl (F18.binds fun _ _ _ _ _ _ us hl => match us, hl with | [_], _ => rfl) rfl) plain
end PLAW
open PySem PySem.W PyProof.Rows VK
set_option maxHeartbeats 0 in
theorem PySem.Challenge.cw_wordhall_k01_names_and_lots_of_names_holds : PySem.Challenge.rw_wordhall_k01_names_and_lots_of_names.Holds := by
  w_on; o_law; k_head; (case hw => w_witness2)
  k_fill
  refine VK.walk_ofG (l := PySem.Challenge.rw_wordhall_k01_names_and_lots_of_names) (n := 63) (k := 40) (x := "script") (sp := fun w => VK.spTold _ 63) rfl (by decide) rfl ⟨rfl, by decide, by decide⟩ (fun w h Y => PySem.W.kIn_of Y) ?F (fun _ _ a ns hl hb _ hS => ⟨a, ns, rfl, hS, hl, hb, fun _ => rfl⟩)
  case F =>
    intro w mg fa h KX G hmg
    refine' PLAW.all_mk KX G hmg ?a0 ?l0 ?c0 ?k0 ?a1 ?l1 ?c1 ?k1 ?a2 ?l2 ?c2 ?k2 ?a3 ?l3 ?c3 ?k3 ?a4 ?l4 ?c4 ?k4 ?a5 ?l5 ?c5 ?k5 ?a6 ?l6 ?c6 ?k6 ?a7 ?l7 ?c7 ?k7 ?a8 ?l8 ?c8 ?k8 ?a9 ?l9 ?c9 ?k9 ?a10 ?l10 ?c10 ?k10 ?a11 ?l11 ?c11 ?k11 ?a12 ?l12 ?c12 ?k12 ?a13 ?l13 ?c13 ?k13 ?a14 ?l14 ?c14 ?k14 ?a15 ?l15 ?c15 ?k15 ?a16 ?l16 ?c16 ?k16 ?a17 ?l17 ?c17 ?k17 ?a18 ?l18 ?c18 ?k18 ?z0 ?z1 ?z2 ?z3 ?z4 ?z5 ?z6 ?z7 ?z8 ?z9 ?z10 ?z11 ?z12 ?z13 ?z14 ?z15 ?z16 ?z17 ?z18 ?vg0 ?vg1 ?vg2
    (case a0 => k_is); (case l0 => k_is); (case c0 => k_is); (case k0 => k_is); (case a1 => k_is); (case l1 => k_is); (case c1 => k_is); (case k1 => k_is); (case a2 => k_is); (case l2 => k_is); (case c2 => k_is); (case k2 => k_is); (case a3 => k_is); (case l3 => k_is); (case c3 => k_is); (case k3 => k_is); (case a4 => k_is); (case l4 => k_is); (case c4 => k_is); (case k4 => k_is); (case a5 => k_is); (case l5 => k_is); (case c5 => k_is); (case k5 => k_is); (case a6 => k_is); (case l6 => k_is); (case c6 => k_is); (case k6 => k_is); (case a7 => k_is); (case l7 => k_is); (case c7 => k_is); (case k7 => k_is); (case a8 => k_is); (case l8 => k_is); (case c8 => k_is); (case k8 => k_is); (case a9 => k_is); (case l9 => k_is); (case c9 => k_is); (case k9 => k_is); (case a10 => k_is); (case l10 => k_is); (case c10 => k_is); (case k10 => k_is); (case a11 => k_is); (case l11 => k_is); (case c11 => k_is); (case k11 => k_is); (case a12 => k_is); (case l12 => k_is); (case c12 => k_is); (case k12 => k_is); (case a13 => k_is); (case l13 => k_is); (case c13 => k_is); (case k13 => k_is); (case a14 => k_is); (case l14 => k_is); (case c14 => k_is); (case k14 => k_is); (case a15 => k_is); (case l15 => k_is); (case c15 => k_is); (case k15 => k_is); (case a16 => k_is); (case l16 => k_is); (case c16 => k_is); (case k16 => k_is); (case a17 => k_is); (case l17 => k_is); (case c17 => k_is); (case k17 => k_is); (case a18 => k_is); (case l18 => k_is); (case c18 => k_is); (case k18 => k_is); (case z0 => k_is); (case z1 => k_is); (case z2 => k_is); (case z3 => k_is); (case z4 => k_is); (case z5 => k_is); (case z6 => k_is); (case z7 => k_is); (case z8 => k_is); (case z9 => k_is); (case z10 => k_is); (case z11 => k_is); (case z12 => k_is); (case z13 => k_is); (case z14 => k_is); (case z15 => k_is); (case z16 => k_is); (case z17 => k_is); (case z18 => k_is); (case vg0 => k_is); (case vg1 => k_is); (case vg2 => k_is)
