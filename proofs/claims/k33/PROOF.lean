import PyProof.Rows.All
import Wide.All
import OpenK.AllK
import Wide.FinOn
import HandS.ForMost
import HandS.IsInst
import HandS.Wide
import HandS.Deep
import HandS.Iter
import HandS.Conv
import HandS.TupLen
import HandS.WordsDict
import HandS.TupAny
import HandS.TryOnly
import HandS.WordsExc
import HandS.ExcInit
import HandS.ExcIs
import KE.KExcIs
import HandS.Text
import HandS.Zip
import KE.SortData
import HandS.SetKeys
import HandS.Style
import HandS.RevTup
import PySem.Challenge.RW_labelplace_k33_not_two
set_option Elab.async false
set_option linter.all false
set_option maxRecDepth 100000
set_option maxHeartbeats 4000000
namespace Ly
open PySem PySem.Spec PyProof.Rows L2

/-! ### heaps up to a lock on a dict -/
def nrm : HO → HO
  | .frz _ (.dK kvs) => .dK kvs
  | .frz _ (.dT kvs) => .dT kvs
  | o => o
/-- all that stands, up to locks, stands -/
def Le (B B' : Hp) : Prop := ∀ a o, B a = some o → ∃ o', B' a = some o' ∧ nrm o' = nrm o
theorem Le.refl (B : Hp) : Le B B := fun _ o h => ⟨o, h, rfl⟩
theorem Le.trans {A B C : Hp} (h : Le A B) (k : Le B C) : Le A C := fun a o e => by
  obtain ⟨o1, e1, n1⟩ := h a o e
  obtain ⟨o2, e2, n2⟩ := k a o1 e1
  exact ⟨o2, e2, n2.trans n1⟩
theorem Le.of {B B' : Hp} (h : Same B B') : Le B B' := fun a o e => ⟨o, h a o e, rfl⟩
theorem nrm_tup {o : HO} {xs : List V} (h : nrm o = .tup xs) : o = .tup xs := by
  cases o with
  | frz ob u => cases u <;> simp [nrm] at h
  | _ => simpa [nrm] using h
theorem nrm_lst {o : HO} {xs : List V} (h : nrm o = .lst xs) : o = .lst xs := by
  cases o with
  | frz ob u => cases u <;> simp [nrm] at h
  | _ => simpa [nrm] using h
theorem nrm_ins {o : HO} {C dx : Addr} {fs : List (Str × V)} (h : nrm o = .ins C dx fs) : o = .ins C dx fs := by
  cases o with
  | frz ob u => cases u <;> simp [nrm] at h
  | _ => simpa [nrm] using h
theorem Le.tup {B B' : Hp} (h : Le B B') {a : Addr} {xs : List V} (e : B a = some (.tup xs)) : B' a = some (.tup xs) := by
  obtain ⟨o, e1, n⟩ := h a _ e
  rw [e1, nrm_tup (show nrm o = .tup xs from n)]
theorem Le.lst {B B' : Hp} (h : Le B B') {a : Addr} {xs : List V} (e : B a = some (.lst xs)) : B' a = some (.lst xs) := by
  obtain ⟨o, e1, n⟩ := h a _ e
  rw [e1, nrm_lst (show nrm o = .lst xs from n)]
theorem Le.ins {B B' : Hp} (h : Le B B') {a C dx : Addr} {fs : List (Str × V)} (e : B a = some (.ins C dx fs)) : B' a = some (.ins C dx fs) := by
  obtain ⟨o, e1, n⟩ := h a _ e
  rw [e1, nrm_ins (show nrm o = .ins C dx fs from n)]
/-- the frozen script (a locked list) -/
theorem Le.rl {B B' : Hp} (h : Le B B') {a : Addr} {xs : List V} (e : Rd B a (.lst xs)) : Rd B' a (.lst xs) := by
  rcases e with e | ⟨ob, e⟩
  · exact .inl (h.lst e)
  · obtain ⟨o', e1, n1⟩ := h a _ e
    have n1 : nrm o' = .frz ob (.lst xs) := n1
    cases o' with
    | frz o2 u => cases u <;> simp [nrm] at n1; exact .inr ⟨o2, by rw [e1, n1.2]⟩
    | _ => simp [nrm] at n1
/-- what stands at a, up to a lock -/
def Rn (B : Hp) (a : Addr) (o : HO) : Prop := ∃ o', B a = some o' ∧ nrm o' = nrm o
theorem Rn.of {B : Hp} {a : Addr} {o : HO} (h : B a = some o) : Rn B a o := ⟨o, h, rfl⟩
theorem Rn.le {B B' : Hp} {a : Addr} {o : HO} (l : Le B B') (h : Rn B a o) : Rn B' a o := by
  obtain ⟨o1, e, n⟩ := h
  obtain ⟨o2, e2, n2⟩ := l a o1 e
  exact ⟨o2, e2, n2.trans n⟩
theorem Rn.lst {B : Hp} {a : Addr} {xs : List V} (h : Rn B a (.lst xs)) : B a = some (.lst xs) := by
  obtain ⟨o, e, n⟩ := h
  rw [e, nrm_lst (show nrm o = .lst xs from n)]
theorem Rn.dK {B : Hp} {a : Addr} {kvs : List (Key × V)} (h : Rn B a (.dK kvs)) : Rd B a (.dK kvs) := by
  obtain ⟨o, e, n⟩ := h
  have n : nrm o = .dK kvs := n
  cases o with
  | dK l => exact .inl (by rw [e]; simpa [nrm] using n)
  | frz ob u => cases u <;> simp [nrm] at n; exact .inr ⟨ob, by rw [e, n]⟩
  | _ => simp [nrm] at n
theorem Rn.dT {B : Hp} {a : Addr} {kvs : List (List Key × V)} (h : Rn B a (.dT kvs)) : Rd B a (.dT kvs) := by
  obtain ⟨o, e, n⟩ := h
  have n : nrm o = .dT kvs := n
  cases o with
  | dT l => exact .inl (by rw [e]; simpa [nrm] using n)
  | frz ob u => cases u <;> simp [nrm] at n; exact .inr ⟨ob, by rw [e, n]⟩
  | _ => simp [nrm] at n
/-- the tuples alone -/
def TLe (B B' : Hp) : Prop := ∀ a xs, B a = some (.tup xs) → B' a = some (.tup xs)
theorem Le.tle {B B' : Hp} (h : Le B B') : TLe B B' := fun _ _ e => h.tup e

/-! ### lists of pairs that agree -/
universe u v
inductive All2 {α : Type u} {β : Type v} (R : α → β → Prop) : List α → List β → Prop
  | nil : All2 R [] []
  | cons {a : α} {b : β} {as : List α} {bs : List β} : R a b → All2 R as bs → All2 R (a :: as) (b :: bs)
namespace All2
variable {α : Type u} {β : Type v} {R S : α → β → Prop}
theorem length : ∀ {as : List α} {bs : List β}, All2 R as bs → as.length = bs.length
  | _, _, .nil => rfl
  | _, _, .cons _ t => by rw [List.length_cons, List.length_cons, length t]
theorem imp (h : ∀ a b, R a b → S a b) : ∀ {as : List α} {bs : List β}, All2 R as bs → All2 S as bs
  | _, _, .nil => .nil
  | _, _, .cons r t => .cons (h _ _ r) (imp h t)
theorem append : ∀ {as cs : List α} {bs ds : List β}, All2 R as bs → All2 R cs ds → All2 R (as ++ cs) (bs ++ ds)
  | _, _, _, _, .nil, k => k
  | _, _, _, _, .cons r t, k => .cons r (append t k)
theorem get : ∀ {as : List α} {bs : List β} {i : Nat} {b : β}, All2 R as bs → bs[i]? = some b → ∃ a, as[i]? = some a ∧ R a b
  | _, _, _, _, .nil, h => by simp at h
  | _, _, 0, _, .cons r t, h => by simp at h; subst h; exact ⟨_, rfl, r⟩
  | _, _, i + 1, _, .cons r t, h => by
    obtain ⟨a, e, q⟩ := get (i := i) t (by simpa using h)
    exact ⟨a, by simpa using e, q⟩
theorem get' : ∀ {as : List α} {bs : List β} {i : Nat} {a : α}, All2 R as bs → as[i]? = some a → ∃ b, bs[i]? = some b ∧ R a b
  | _, _, _, _, .nil, h => by simp at h
  | _, _, 0, _, .cons r t, h => by simp at h; subst h; exact ⟨_, rfl, r⟩
  | _, _, i + 1, _, .cons r t, h => by
    obtain ⟨a, e, q⟩ := get' (i := i) t (by simpa using h)
    exact ⟨a, by simpa using e, q⟩
theorem drop : ∀ {as : List α} {bs : List β} (n : Nat), All2 R as bs → All2 R (as.drop n) (bs.drop n)
  | _, _, 0, r => r
  | _, _, _ + 1, .nil => .nil
  | _, _, n + 1, .cons _ t => drop n t
theorem take : ∀ {as : List α} {bs : List β} (n : Nat), All2 R as bs → All2 R (as.take n) (bs.take n)
  | _, _, 0, _ => .nil
  | _, _, _ + 1, .nil => .nil
  | _, _, n + 1, .cons r t => .cons r (take n t)
theorem set {a : α} {b : β} (r : R a b) : ∀ {as : List α} {bs : List β} (i : Nat), All2 R as bs → All2 R (as.set i a) (bs.set i b)
  | _, _, _, .nil => .nil
  | _, _, 0, .cons _ t => .cons r t
  | _, _, i + 1, .cons q t => .cons q (set r i t)
theorem reverse : ∀ {as : List α} {bs : List β}, All2 R as bs → All2 R as.reverse bs.reverse
  | _, _, .nil => .nil
  | _, _, .cons r t => by rw [List.reverse_cons, List.reverse_cons]; exact (reverse t).append (.cons r .nil)
theorem eraseIdx : ∀ {as : List α} {bs : List β} (i : Nat), All2 R as bs → All2 R (as.eraseIdx i) (bs.eraseIdx i)
  | _, _, _, .nil => .nil
  | _, _, 0, .cons _ t => t
  | _, _, i + 1, .cons q t => .cons q (eraseIdx i t)
theorem map_eq {f : β → α} (h : ∀ a b, R a b → a = f b) : ∀ {as : List α} {bs : List β}, All2 R as bs → as = bs.map f
  | _, _, .nil => rfl
  | _, _, .cons r t => by rw [List.map_cons, h _ _ r, map_eq h t]
theorem of_map {f : β → α} (h : ∀ b, R (f b) b) : ∀ bs : List β, All2 R (bs.map f) bs
  | [] => .nil
  | b :: r => .cons (h b) (of_map h r)
end All2

/-! ### what a Python value stands for -/
class Py (α : Type) where
  rep : PySem.W.Frag → Hp → V → α → Prop
  mono : ∀ {K : PySem.W.Frag} {B B' : Hp} {v : V} {a : α}, Le B B' → rep K B v a → rep K B' v a
open Py
/-- its objects are tuples alone -/
class Imm (α : Type) [Py α] : Prop where
  keep : ∀ {K : PySem.W.Frag} {B B' : Hp} {v : V} {a : α}, TLe B B' → rep K B v a → rep K B' v a

instance : Py Int := ⟨fun _ _ v a => v = .int a, fun _ h => h⟩
instance : Py Bool := ⟨fun _ _ v a => v = .bl a, fun _ h => h⟩
/-- texts of signs that are signs, not too long -/
def SG (z : Str) : Prop := PySem.PyData.strOk z = true ∧ z.length ≤ sizeLine
instance (z : Str) : Decidable (SG z) := by unfold SG; infer_instance
instance : Py Str := ⟨fun _ _ v a => v = .str a ∧ SG a, fun _ h => h⟩
instance : Py Unit := ⟨fun _ _ v _ => v = .non, fun _ h => h⟩
instance : Imm Int := ⟨fun _ h => h⟩
instance : Imm Bool := ⟨fun _ h => h⟩
instance : Imm Str := ⟨fun _ h => h⟩
instance : Imm Unit := ⟨fun _ h => h⟩
/-- None, or one -/
def optRep {α : Type} [Py α] (K : PySem.W.Frag) (B : Hp) (v : V) : Option α → Prop
  | none => v = .non
  | some a => rep K B v a
instance {α : Type} [Py α] : Py (Option α) := ⟨optRep, fun {K B B' v a} l h => by
  cases a with
  | none => exact h
  | some a => exact Py.mono l (show rep K B v a from h)⟩
theorem optImm {α : Type} [Py α] [Imm α] {K : PySem.W.Frag} {B B' : Hp} {v : V} (l : TLe B B') : ∀ a : Option α, optRep K B v a → optRep K B' v a
  | none, h => h
  | some a, h => Imm.keep (α := α) l h
instance {α : Type} [Py α] [Imm α] : Imm (Option α) := ⟨fun {K B B' v a} l h => optImm l a h⟩
/-- what may be changed in its place: a list, a dict -/
class Ob (β : Type) where
  obj : PySem.W.Frag → Hp → HO → β → Prop
  omono : ∀ {K : PySem.W.Frag} {B B' : Hp} {o : HO} {b : β}, Le B B' → obj K B o b → obj K B' o b
  nt : ∀ {K : PySem.W.Frag} {B : Hp} {o : HO} {b : β}, obj K B o b → ∀ xs, o ≠ .tup xs
class ImmF (β : Type) [Ob β] : Prop where
  okeep : ∀ {K : PySem.W.Frag} {B B' : Hp} {o : HO} {b : β}, TLe B B' → Ob.obj K B o b → Ob.obj K B' o b
/-- .. with what is of its own in it: where it stands, its footprint -/
class Od (β : Type) where
  own : PySem.W.Frag → Hp → Hp → Addr → β → List Addr → Prop
  lay : ∀ {K : PySem.W.Frag} {B H : Hp} {p : Addr} {b : β} {F : List Addr}, own K B H p b F → ∀ a ∈ F, ∃ o, H a = some o ∧ ∀ xs, o ≠ .tup xs
  dmono : ∀ {K : PySem.W.Frag} {B H B' H' : Hp} {p : Addr} {b : β} {F : List Addr}, Le B B' → (∀ a ∈ F, H' a = H a) → own K B H p b F → own K B' H' p b F
class ImmO (β : Type) [Od β] : Prop where
  dkeep : ∀ {K : PySem.W.Frag} {B H B' : Hp} {p : Addr} {b : β} {F : List Addr}, TLe B B' → Od.own K B H p b F → Od.own K B' H p b F
instance obOd {β : Type} [Ob β] : Od β := ⟨fun K B H p b F => F = [p] ∧ ∃ o, H p = some o ∧ Ob.obj K B o b,
  fun {K B H p b F} ⟨e, o, h, r⟩ a m => by
    rw [e] at m
    rw [List.mem_singleton.mp m]
    exact ⟨o, h, Ob.nt r⟩,
  fun {K B H B' H' p b F} l s ⟨e, o, h, r⟩ => ⟨e, o, by rw [s p (by rw [e]; exact List.mem_singleton_self _)]; exact h, Ob.omono l r⟩⟩
instance {β : Type} [Ob β] [ImmF β] : ImmO β := ⟨fun l ⟨e, o, h, r⟩ => ⟨e, o, h, ImmF.okeep l r⟩⟩
/-- .. read -/
instance {β : Type} [Ob β] : Py β := ⟨fun K B v b => ∃ p o, v = .ref p ∧ Rn B p o ∧ Ob.obj K B o b, fun l ⟨p, o, e, h, r⟩ => ⟨p, o, e, h.le l, Ob.omono l r⟩⟩
instance {α : Type} [Py α] : Ob (List α) := ⟨fun K B o xs => ∃ vs, o = .lst vs ∧ All2 (rep K B) vs xs, fun l ⟨vs, e, r⟩ => ⟨vs, e, r.imp fun _ _ q => Py.mono l q⟩, fun ⟨vs, e, _⟩ xs z => by rw [e] at z; cases z⟩
instance {α : Type} [Py α] [Imm α] : ImmF (List α) := ⟨fun l ⟨vs, e, r⟩ => ⟨vs, e, r.imp fun _ _ q => Imm.keep l q⟩⟩
/-- a tuple of any length, of one kind -/
structure Tup (α : Type) where
  l : List α
  deriving DecidableEq, Inhabited
instance {α : Type} [Py α] : Py (Tup α) := ⟨fun K B v xs => ∃ p vs, v = .ref p ∧ B p = some (.tup vs) ∧ All2 (rep K B) vs xs.l, fun l ⟨p, vs, e, h, r⟩ => ⟨p, vs, e, l.tup h, r.imp fun _ _ q => Py.mono l q⟩⟩
instance {α : Type} [Py α] [Imm α] : Imm (Tup α) := ⟨fun l ⟨p, vs, e, h, r⟩ => ⟨p, vs, e, l _ _ h, r.imp fun _ _ q => Imm.keep l q⟩⟩
/-- written tuples of one to five -/
structure T1 (α : Type) where
  a : α
  deriving DecidableEq, Inhabited
structure T3 (α β γ : Type) where
  a : α
  b : β
  c : γ
  deriving DecidableEq, Inhabited
structure T4 (α β γ δ : Type) where
  a : α
  b : β
  c : γ
  d : δ
  deriving DecidableEq, Inhabited
structure T5 (α β γ δ ε : Type) where
  a : α
  b : β
  c : γ
  d : δ
  e : ε
  deriving DecidableEq, Inhabited
section
variable {α β γ δ ε : Type} [Py α] [Py β] [Py γ] [Py δ] [Py ε]
instance : Py (T1 α) := ⟨fun K B v t => ∃ p x, v = .ref p ∧ B p = some (.tup [x]) ∧ rep K B x t.a, fun l ⟨p, x, e, h, r⟩ => ⟨p, x, e, l.tup h, Py.mono l r⟩⟩
instance : Py (α × β) := ⟨fun K B v t => ∃ p x y, v = .ref p ∧ B p = some (.tup [x, y]) ∧ rep K B x t.1 ∧ rep K B y t.2, fun l ⟨p, x, y, e, h, r, q⟩ => ⟨p, x, y, e, l.tup h, Py.mono l r, Py.mono l q⟩⟩
instance : Py (T3 α β γ) := ⟨fun K B v t => ∃ p x y z, v = .ref p ∧ B p = some (.tup [x, y, z]) ∧ rep K B x t.a ∧ rep K B y t.b ∧ rep K B z t.c,
  fun l ⟨p, x, y, z, e, h, r, q, s⟩ => ⟨p, x, y, z, e, l.tup h, Py.mono l r, Py.mono l q, Py.mono l s⟩⟩
instance : Py (T4 α β γ δ) := ⟨fun K B v t => ∃ p x y z u, v = .ref p ∧ B p = some (.tup [x, y, z, u]) ∧ rep K B x t.a ∧ rep K B y t.b ∧ rep K B z t.c ∧ rep K B u t.d,
  fun l ⟨p, x, y, z, u, e, h, r, q, s, w⟩ => ⟨p, x, y, z, u, e, l.tup h, Py.mono l r, Py.mono l q, Py.mono l s, Py.mono l w⟩⟩
instance : Py (T5 α β γ δ ε) := ⟨fun K B v t => ∃ p x y z u w, v = .ref p ∧ B p = some (.tup [x, y, z, u, w]) ∧ rep K B x t.a ∧ rep K B y t.b ∧ rep K B z t.c ∧ rep K B u t.d ∧ rep K B w t.e,
  fun l ⟨p, x, y, z, u, w, e, h, r, q, s, t, o⟩ => ⟨p, x, y, z, u, w, e, l.tup h, Py.mono l r, Py.mono l q, Py.mono l s, Py.mono l t, Py.mono l o⟩⟩
instance [Imm α] : Imm (T1 α) := ⟨fun l ⟨p, x, e, h, r⟩ => ⟨p, x, e, l _ _ h, Imm.keep l r⟩⟩
instance [Imm α] [Imm β] : Imm (α × β) := ⟨fun l ⟨p, x, y, e, h, r, q⟩ => ⟨p, x, y, e, l _ _ h, Imm.keep l r, Imm.keep l q⟩⟩
instance [Imm α] [Imm β] [Imm γ] : Imm (T3 α β γ) := ⟨fun l ⟨p, x, y, z, e, h, r, q, s⟩ => ⟨p, x, y, z, e, l _ _ h, Imm.keep l r, Imm.keep l q, Imm.keep l s⟩⟩
instance [Imm α] [Imm β] [Imm γ] [Imm δ] : Imm (T4 α β γ δ) := ⟨fun l ⟨p, x, y, z, u, e, h, r, q, s, w⟩ => ⟨p, x, y, z, u, e, l _ _ h, Imm.keep l r, Imm.keep l q, Imm.keep l s, Imm.keep l w⟩⟩
instance [Imm α] [Imm β] [Imm γ] [Imm δ] [Imm ε] : Imm (T5 α β γ δ ε) := ⟨fun l ⟨p, x, y, z, u, w, e, h, r, q, s, t, o⟩ => ⟨p, x, y, z, u, w, e, l _ _ h, Imm.keep l r, Imm.keep l q, Imm.keep l s, Imm.keep l t, Imm.keep l o⟩⟩
end
/-- the script: a list of ints that nobody changes -/
structure Scr where
  l : List Int
instance : Py Scr := ⟨fun K B v s => ∃ p, v = .ref p ∧ SqL K B p (s.l.map V.int), fun l ⟨p, e, h⟩ => ⟨p, e, h.elim (fun q => .inl (l.rl q)) fun q => .inr q⟩⟩

/-! ### symbolic slots -/
inductive Sl : Type 1
  | un
  | sh {α : Type} [Py α] (a : α)
  | ow {β : Type} [Od β] (b : β)
/-- the value v has it, over the readable heap B and the heap H; what is owned (F) is new beside H0 -/
def Vokf (K : PySem.W.Frag) (B H H0 : Hp) (v : V) (F : List Addr) : Sl → Prop
  | .un => True
  | @Sl.sh _ i a => i.rep K B v a
  | @Sl.ow _ i b => ∃ p, v = .ref p ∧ (∀ a ∈ F, H0 a = none ∧ B a = none) ∧ i.own K B H p b F
def Vok (K : PySem.W.Frag) (B H H0 : Hp) (v : V) : Sl → Prop
  | .un => True
  | @Sl.sh _ i a => i.rep K B v a
  | @Sl.ow _ i b => ∃ F p, v = .ref p ∧ (∀ a ∈ F, H0 a = none ∧ B a = none) ∧ i.own K B H p b F
def Sl.own : Sl → Prop
  | .un => False
  | @Sl.sh _ _ _ => False
  | @Sl.ow _ _ _ => True
def Shr (K : PySem.W.Frag) (B : Hp) (v : V) : Sl → Prop
  | .un => False
  | @Sl.sh _ i a => i.rep K B v a
  | @Sl.ow _ _ _ => False
def Sl.imm : Sl → Prop
  | .un => True
  | @Sl.sh α i _ => @Imm α i
  | @Sl.ow β i _ => @ImmO β i
theorem Vokf.vok {K : PySem.W.Frag} {B H H0 : Hp} {v : V} {F : List Addr} {s : Sl} (h : Vokf K B H H0 v F s) : Vok K B H H0 v s := by
  cases s with
  | un => trivial
  | sh a => exact h
  | ow b => exact ⟨F, h⟩
theorem Vok.f {K : PySem.W.Frag} {B H H0 : Hp} {v : V} {s : Sl} (h : Vok K B H H0 v s) : ∃ F, Vokf K B H H0 v F s := by
  cases s with
  | un => exact ⟨[], trivial⟩
  | sh a => exact ⟨[], h⟩
  | ow b => exact h
/-- a flat thing -/
theorem vow {K : PySem.W.Frag} {B H H0 : Hp} {v : V} {β : Type} [Ob β] {b : β} (h : ∃ p o, v = .ref p ∧ H0 p = none ∧ B p = none ∧ H p = some o ∧ Ob.obj K B o b) : Vok K B H H0 v (.ow b) := by
  obtain ⟨p, o, e, n, nb, hp, r⟩ := h
  exact ⟨[p], p, e, fun a m => by rw [List.mem_singleton.mp m]; exact ⟨n, nb⟩, rfl, o, hp, r⟩
theorem owv {K : PySem.W.Frag} {B H H0 : Hp} {v : V} {β : Type} [Ob β] {b : β} (h : Vok K B H H0 v (.ow b)) : ∃ p o, v = .ref p ∧ H0 p = none ∧ B p = none ∧ H p = some o ∧ Ob.obj K B o b := by
  obtain ⟨F, p, e, n, e2, o, hp, r⟩ := h
  have n := n p (by rw [e2]; exact List.mem_singleton_self _)
  exact ⟨p, o, e, n.1, n.2, hp, r⟩
/-- from the heaps (B, H) to (B', H'): B is the readable part of H -/
structure Ext (B H B' H' : Hp) : Prop where
  bh : Same B' H'
  hh : Same H H'
  bb : Same B B'
  nw : ∀ a o, B a = none → H a = some o → (∀ xs, o ≠ .tup xs) → B' a = none
theorem Ext.refl {B H : Hp} (h : Same B H) : Ext B H B H := ⟨h, Same.refl _, Same.refl _, fun _ _ e _ _ => e⟩
theorem Ext.trans {B H B1 H1 B2 H2 : Hp} (a : Ext B H B1 H1) (b : Ext B1 H1 B2 H2) : Ext B H B2 H2 :=
  ⟨b.bh, a.hh.trans b.hh, a.bb.trans b.bb, fun x o e n t => b.nw x o (a.nw x o e n t) (a.hh x o n) t⟩
/-- a new object, readable at once -/
theorem Ext.laid {B H : Hp} (h : Same B H) {p : Addr} {o : HO} (n : H p = none) : Ext B H (upd B p o) (upd H p o) := by
  refine ⟨fun a u e => ?_, fun a u e => ?_, fun a u e => ?_, fun a u e k _ => ?_⟩
  · by_cases q : a = p
    · subst q; rw [upd_same] at e ⊢; exact e
    · rw [upd_ne q] at e ⊢; exact h a u e
  · rw [upd_ne (ne_of_none e n)]; exact e
  · rw [upd_ne (ne_of_none (h a u e) n)]; exact e
  · rw [upd_ne (ne_of_none k n)]; exact e
/-- a new object, not readable yet -/
theorem Ext.made {B H : Hp} (h : Same B H) {p : Addr} {o : HO} (n : H p = none) : Ext B H B (upd H p o) := by
  refine ⟨fun a u e => ?_, fun a u e => ?_, Same.refl _, fun a _ e _ _ => e⟩
  · rw [upd_ne (ne_of_none (h a u e) n)]; exact h a u e
  · rw [upd_ne (ne_of_none e n)]; exact e
/-- what was made is readable from now on -/
theorem Ext.pub {B H B' H' : Hp} (x : Ext B H B' H') {p : Addr} {o : HO} (n : H p = none) (nb : B' p = none) (e : H' p = some o) : Ext B H (upd B' p o) H' := by
  refine ⟨fun a u q => ?_, x.hh, fun a u q => ?_, fun a u q k t => ?_⟩
  · by_cases z : a = p
    · subst z; rw [upd_same] at q; rw [e]; exact q
    · rw [upd_ne z] at q; exact x.bh a u q
  · rw [upd_ne (fun z => by rw [z] at q; rw [x.bb _ _ q] at nb; cases nb)]; exact x.bb a u q
  · rw [upd_ne (ne_of_none k n)]; exact x.nw a u q k t
/-- a tuple may be read at any time -/
theorem Ext.tupR {B H : Hp} (h : Same B H) {p : Addr} {xs : List V} (e : H p = some (.tup xs)) : Ext B H (upd B p (.tup xs)) H := by
  refine ⟨fun a u q => ?_, Same.refl _, fun a u q => ?_, fun a u q k t => ?_⟩
  · by_cases z : a = p
    · subst z; rw [upd_same] at q; rw [e]; exact q
    · rw [upd_ne z] at q; exact h a u q
  · by_cases z : a = p
    · subst z; rw [upd_same]; rw [h _ _ q] at e; exact e.symm
    · rw [upd_ne z]; exact q
  · rw [upd_ne (fun z => by rw [z, e] at k; exact t _ (Option.some.inj k).symm)]; exact q
theorem same_upd {B : Hp} {p : Addr} {o : HO} (n : B p = none) : Same B (upd B p o) := fun b x e => by
  rw [upd_ne (ne_of_none e n)]; exact e

theorem Ext.keep {B H B' H' : Hp} (x : Ext B H B' H') {F : List Addr} (l : ∀ a ∈ F, ∃ o, H a = some o ∧ ∀ xs, o ≠ .tup xs) : ∀ a ∈ F, H' a = H a := fun a m => by
  obtain ⟨o, h, _⟩ := l a m
  rw [h]; exact x.hh a o h
theorem Vokf.ext {K : PySem.W.Frag} {B H B' H' H0 : Hp} {v : V} {F : List Addr} {s : Sl} (x : Ext B H B' H') (h : Vokf K B H H0 v F s) : Vokf K B' H' H0 v F s := by
  cases s with
  | un => trivial
  | sh a => exact Py.mono (.of x.bb) (show rep K B v a from h)
  | ow b =>
    obtain ⟨p, e, n, r⟩ := h
    exact ⟨p, e, fun a m => ⟨(n a m).1, (Od.lay r a m).elim fun o ⟨h, t⟩ => x.nw a o (n a m).2 h t⟩, Od.dmono (.of x.bb) (x.keep (Od.lay r)) r⟩
theorem Vok.ext {K : PySem.W.Frag} {B H B' H' H0 : Hp} {v : V} {s : Sl} (x : Ext B H B' H') (h : Vok K B H H0 v s) : Vok K B' H' H0 v s := by
  obtain ⟨F, h⟩ := h.f
  exact (h.ext x).vok
theorem Vokf.base {K : PySem.W.Frag} {B H H0 H1 : Hp} {v : V} {F : List Addr} {s : Sl} (x : Same H0 H1) (h : Vokf K B H H1 v F s) : Vokf K B H H0 v F s := by
  cases s with
  | un => trivial
  | sh a => exact h
  | ow b =>
    obtain ⟨p, e, n, r⟩ := h
    exact ⟨p, e, fun a m => ⟨x.free (n a m).1, (n a m).2⟩, r⟩
theorem Vok.base {K : PySem.W.Frag} {B H H0 H1 : Hp} {v : V} {s : Sl} (x : Same H0 H1) (h : Vok K B H H1 v s) : Vok K B H H0 v s := by
  obtain ⟨F, h⟩ := h.f
  exact (h.base x).vok

/-- the footprints of the slots -/
structure Fps (K : PySem.W.Frag) (H0 B H : Hp) (σ : L2.St) (τ : List Sl) (fp : Nat → List Addr) : Prop where
  at_ : ∀ (i : Nat) (s : Sl), τ[i]? = some s → s = .un ∨ ∃ v, σ[i]? = some (some v) ∧ Vokf K B H H0 v (fp i) s
  dis : ∀ (i j : Nat) (s u : Sl) (a : Addr), τ[i]? = some s → τ[j]? = some u → s.own → u.own → a ∈ fp i → a ∈ fp j → i = j
structure Ok (K : PySem.W.Frag) (B0 H0 B H : Hp) (σ : L2.St) (τ : List Sl) : Prop where
  ext : Ext B0 H0 B H
  len : σ.length = τ.length
  fps : ∃ fp, Fps K H0 B H σ τ fp
theorem Ok.at_ {K : PySem.W.Frag} {B0 H0 B H : Hp} {σ : L2.St} {τ : List Sl} (h : Ok K B0 H0 B H σ τ) (i : Nat) (s : Sl) (e : τ[i]? = some s) : s = .un ∨ ∃ v, σ[i]? = some (some v) ∧ Vok K B H H0 v s := by
  obtain ⟨fp, f⟩ := h.fps
  exact (f.at_ i s e).imp id fun ⟨v, e1, q⟩ => ⟨v, e1, q.vok⟩
theorem Ok.bh {K : PySem.W.Frag} {B0 H0 B H : Hp} {σ : L2.St} {τ : List Sl} (h : Ok K B0 H0 B H σ τ) : Same B H := h.ext.bh
theorem Fps.ext {K : PySem.W.Frag} {H0 B H B' H' : Hp} {σ : L2.St} {τ : List Sl} {fp : Nat → List Addr} (h : Fps K H0 B H σ τ fp) (x : Ext B H B' H') : Fps K H0 B' H' σ τ fp :=
  ⟨fun i s e => (h.at_ i s e).imp id fun ⟨v, e1, q⟩ => ⟨v, e1, q.ext x⟩, h.dis⟩
theorem Ok.go {K : PySem.W.Frag} {B0 H0 B H B' H' : Hp} {σ : L2.St} {τ : List Sl} (h : Ok K B0 H0 B H σ τ) (x : Ext B H B' H') : Ok K B0 H0 B' H' σ τ := by
  obtain ⟨fp, f⟩ := h.fps
  exact ⟨h.ext.trans x, h.len, fp, f.ext x⟩
theorem lt_of_get {α : Type u} {l : List α} {i : Nat} {a : α} (h : l[i]? = some a) : i < l.length := (List.getElem?_eq_some_iff.mp h).1
def fset (fp : Nat → List Addr) (i : Nat) (F : List Addr) : Nat → List Addr := fun j => if j = i then F else fp j
theorem fset_same {fp : Nat → List Addr} {i : Nat} {F : List Addr} : fset fp i F i = F := if_pos rfl
theorem fset_ne {fp : Nat → List Addr} {i j : Nat} {F : List Addr} (h : j ≠ i) : fset fp i F j = fp j := if_neg h
/-- a slot is stored -/
theorem Fps.put {K : PySem.W.Frag} {H0 B H : Hp} {σ : L2.St} {τ : List Sl} {fp : Nat → List Addr} (h : Fps K H0 B H σ τ fp) (hl : σ.length = τ.length) {i : Nat} {v : V} {s : Sl} {F : List Addr} (q : Vokf K B H H0 v F s)
    (nw : s.own → ∀ (j : Nat) (u : Sl), j ≠ i → τ[j]? = some u → u.own → ∀ a ∈ F, a ∉ fp j) : Fps K H0 B H (σ.set i (some v)) (τ.set i s) (fset fp i F) := by
  refine ⟨fun j u e => ?_, fun j k u w a e1 e2 o1 o2 f1 f2 => ?_⟩
  · by_cases z : i = j
    · subst z
      have hl' : i < τ.length := by have := lt_of_get e; rwa [List.length_set] at this
      rw [List.getElem?_set_self hl'] at e
      cases e
      exact .inr ⟨v, by rw [List.getElem?_set_self (by rw [hl]; exact hl')], by rw [fset_same]; exact q⟩
    · rw [List.getElem?_set_ne z] at e ⊢
      rw [fset_ne (Ne.symm z)]
      exact h.at_ j u e
  · have hs : ∀ {m : Nat} {t : Sl} , (τ.set i s)[m]? = some t → m = i → t = s := fun {m t} e z => by
      subst z
      have hl : m < τ.length := by have := lt_of_get e; rwa [List.length_set] at this
      rw [List.getElem?_set_self hl] at e
      cases e
      rfl
    by_cases z1 : j = i
    · by_cases z2 : k = i
      · rw [z1, z2]
      · have := hs e1 z1
        subst this
        rw [List.getElem?_set_ne (Ne.symm z2)] at e2
        rw [z1, fset_same] at f1
        rw [fset_ne z2] at f2
        exact absurd f2 (nw o1 k w z2 e2 o2 a f1)
    · by_cases z2 : k = i
      · have := hs e2 z2
        subst this
        rw [List.getElem?_set_ne (Ne.symm z1)] at e1
        rw [z2, fset_same] at f2
        rw [fset_ne z1] at f1
        exact absurd f1 (nw o2 j u z1 e1 o1 a f2)
      · rw [List.getElem?_set_ne (Ne.symm z1)] at e1
        rw [List.getElem?_set_ne (Ne.symm z2)] at e2
        rw [fset_ne z1] at f1
        rw [fset_ne z2] at f2
        exact h.dis j k u w a e1 e2 o1 o2 f1 f2
/-- .. with what is no slot's own -/
theorem Ok.putN {K : PySem.W.Frag} {B0 H0 B H B' H' : Hp} {σ : L2.St} {τ : List Sl} (h : Ok K B0 H0 B H σ τ) (x : Ext B H B' H') {i : Nat} {v : V} {s : Sl} (q : Vok K B' H' H v s) : Ok K B0 H0 B' H' (σ.set i (some v)) (τ.set i s) := by
  obtain ⟨fp, f⟩ := h.fps
  obtain ⟨F, q⟩ := q.f
  refine ⟨h.ext.trans x, by rw [List.length_set, List.length_set, h.len], _, (f.ext x).put h.len (q.base h.ext.hh) fun o j u _ e1 o1 a m m2 => ?_⟩
  cases s with
  | ow b =>
    obtain ⟨p, e, n, _⟩ := q
    rcases f.at_ j u e1 with r | ⟨w, e2, r⟩
    · rw [r] at o1; exact o1
    · cases u with
      | ow ys =>
        obtain ⟨p', e3, _, r⟩ := r
        obtain ⟨o, h, _⟩ := Od.lay r a m2
        rw [(n a m).1] at h
        cases h
      | un => exact o1
      | sh _ => exact o1
  | un => exact o
  | sh _ => exact o
/-- a slot is forgotten -/
theorem Ok.wipe {K : PySem.W.Frag} {B0 H0 B H : Hp} {σ : L2.St} {τ : List Sl} (h : Ok K B0 H0 B H σ τ) (i : Nat) : Ok K B0 H0 B H (σ.set i none) (τ.set i .un) := by
  obtain ⟨fp, f⟩ := h.fps
  refine ⟨h.ext, by rw [List.length_set, List.length_set, h.len], fp, fun j u e => ?_, fun j k u w a e1 e2 o1 o2 f1 f2 => ?_⟩
  · by_cases z : i = j
    · subst z
      have hl : i < τ.length := by have := lt_of_get e; rwa [List.length_set] at this
      rw [List.getElem?_set_self hl] at e
      cases e
      exact .inl rfl
    · rw [List.getElem?_set_ne z] at e ⊢
      exact f.at_ j u e
  · have hs : ∀ {m : Nat} {t : Sl}, (τ.set i .un)[m]? = some t → t.own → m ≠ i := fun {m t} e o z => by
      subst z
      have hl : m < τ.length := by have := lt_of_get e; rwa [List.length_set] at this
      rw [List.getElem?_set_self hl] at e
      cases e
      exact o
    have z1 := hs e1 o1
    have z2 := hs e2 o2
    rw [List.getElem?_set_ne (Ne.symm z1)] at e1
    rw [List.getElem?_set_ne (Ne.symm z2)] at e2
    exact f.dis j k u w a e1 e2 o1 o2 f1 f2
/-- forgetting what is known of slots -/
def Sl.le : Sl → Sl → Prop := fun s u => u = .un ∨ s = u
theorem Ok.weak {K : PySem.W.Frag} {B0 H0 B H : Hp} {σ : L2.St} {τ τ' : List Sl} (h : Ok K B0 H0 B H σ τ) (hl : τ'.length = τ.length) (w : ∀ (i : Nat) (s : Sl), τ'[i]? = some s → s = .un ∨ τ[i]? = some s) : Ok K B0 H0 B H σ τ' := by
  obtain ⟨fp, f⟩ := h.fps
  refine ⟨h.ext, by rw [hl]; exact h.len, fp, fun i s e => ?_, fun i j s u q e1 e2 o1 o2 f1 f2 => ?_⟩
  · rcases w i s e with r | r
    · exact .inl r
    · exact f.at_ i s r
  · rcases w i s e1 with r | r
    · rw [r] at o1; exact o1.elim
    · rcases w j u e2 with r' | r'
      · rw [r'] at o2; exact o2.elim
      · exact f.dis i j s u q r r' o1 o2 f1 f2
end Ly

namespace Ly
open PySem PySem.Spec PyProof.Rows L2
open Py

/-! ### where one stands, told by what the rules ask of it -/
structure Par where
  P : Program
  w : World
  K : PySem.W.Frag
  mg : Str → Option Value
  base : Heap
  N : List Str
  sc : Scope
  fn : Str → Bool
  k : Nat
  /-- what is wished of an exception -/
  W : WX
  /-- a def's own frame: a try may stand in it -/
  fr : Bool
abbrev Par.of (X : Cx) (k : Nat × WX × Bool) : Par := ⟨X.prog, X.w, X.K, X.mg, X.base, X.N, X.env.scope, X.fn, k.1, k.2.1, k.2.2⟩
def Par.In (p : Par) (X : Cx) : Prop := ∃ k, Par.of X k = p ∧ X.calm = true ∧ Room k.1 X.A ∧ PassesOwn (model X.prog X.w) X.A X.env X.xe ∧ Takes X k.2.1 ∧ (k.2.2 = true → X.stack = X.env :: X.outer ∧ X.env.frame = some X.env.locals ∧ X.ex = [])

/-! ### the greatest readings -/
def EE (p : Par) (e : Expr) : TE := fun σ H Q => ∃ t : TE, (∀ X, p.In X → PE X e t) ∧ t σ H Q
def ET (p : Par) (e : Expr) : TT := fun σ H Q => ∃ t : TT, (∀ X, p.In X → PT X e t) ∧ t σ H Q
def EW (p : Par) (e : Expr) : TT := fun σ H Q => ∃ t : TT, (∀ X, p.In X → PW X e t) ∧ t σ H Q
def EA (p : Par) (es : List Expr) : TA := fun σ H Q => ∃ t : TA, (∀ X, p.In X → PA X es t) ∧ t σ H Q
def EI (p : Par) (tg e : Expr) : TI := fun σ H Q => ∃ t : TI, (∀ X, p.In X → PI X tg e t) ∧ t σ H Q
def ES (p : Par) (st : Stmt) : TS := fun D σ H => ∃ t : TS, (∀ X, p.In X → PS X st t) ∧ t D σ H
def EB (p : Par) (sts : List Stmt) : TS := fun D σ H => ∃ t : TS, (∀ X, p.In X → PSs X sts t) ∧ t D σ H
def EG (p : Par) (tg : Expr) : TG := fun v σ H Q => ∃ t : TG, (∀ X, p.In X → PG X tg t) ∧ t v σ H Q
def EGs (p : Par) (tgs : List Expr) : TGs := fun v σ H Q => ∃ t : TGs, (∀ X, p.In X → PGs X tgs t) ∧ t v σ H Q
section
variable {p : Par} {X : Cx} {e tg : Expr} {es tgs : List Expr} {st : Stmt} {sts : List Stmt}
theorem ee (h : p.In X) : PE X e (EE p e) := ⟨fun pins s σ H Q I ⟨_, ht, hq⟩ => (ht X h).run pins s σ H Q I hq⟩
theorem et (h : p.In X) : PT X e (ET p e) := ⟨fun pins s σ H Q I ⟨_, ht, hq⟩ => (ht X h).run pins s σ H Q I hq⟩
theorem ew (h : p.In X) : PW X e (EW p e) := ⟨fun wh pins s σ H Q I ⟨_, ht, hq⟩ => (ht X h).run wh pins s σ H Q I hq⟩
theorem ea (h : p.In X) : PA X es (EA p es) := ⟨fun pos pins s σ H Q I ⟨_, ht, hq⟩ => (ht X h).run pos pins s σ H Q I hq⟩
theorem ei (h : p.In X) : PI X tg e (EI p tg e) := ⟨fun pins s σ H R I ⟨_, ht, hq⟩ => (ht X h).run pins s σ H R I hq⟩
theorem es_ (h : p.In X) : PS X st (ES p st) := ⟨fun pins s σ H D I ⟨_, ht, hq⟩ => (ht X h).run pins s σ H D I hq⟩
theorem eb (h : p.In X) : PSs X sts (EB p sts) := ⟨fun pins s σ H D I ⟨_, ht, hq⟩ => (ht X h).run pins s σ H D I hq⟩
theorem eg (h : p.In X) : PG X tg (EG p tg) := ⟨fun pins s σ H v u Q I r ⟨_, ht, hq⟩ => (ht X h).run pins s σ H v u Q I r hq⟩
theorem egs (h : p.In X) : PGs X tgs (EGs p tgs) := ⟨fun pins s σ H vs us Q I r ⟨_, ht, hq⟩ => (ht X h).run pins s σ H vs us Q I r hq⟩
end

/-! ### the judgements -/
/-- from the slots τ the expression gives s -/
def PX (p : Par) (e : Expr) (τ : List Sl) (s : Sl) : Prop := ∀ B0 H0 B H σ, Ok p.K B0 H0 B H σ τ → ∀ Q : VK, (∀ B' H' v, Ext B H B' H' → Vok p.K B' H' H v s → Q v H') → EE p e σ H Q
/-- a test -/
def PTx (p : Par) (e : Expr) (τ : List Sl) (b : Bool) : Prop := ∀ B0 H0 B H σ, Ok p.K B0 H0 B H σ τ → ∀ Q : Bool → Hp → Prop, (∀ B' H', Ext B H B' H' → Q b H') → ET p e σ H Q
def PWx (p : Par) (e : Expr) (τ : List Sl) (b : Bool) : Prop := ∀ B0 H0 B H σ, Ok p.K B0 H0 B H σ τ → ∀ Q : Bool → Hp → Prop, (∀ B' H', Ext B H B' H' → Q b H') → EW p e σ H Q
/-- arguments: all readable -/
def PAx (p : Par) (es : List Expr) (τ : List Sl) (ss : List Sl) : Prop := ∀ B0 H0 B H σ, Ok p.K B0 H0 B H σ τ → ∀ Q : List V → Hp → Prop, (∀ B' H' vs, Ext B H B' H' → All2 (Shr p.K B') vs ss → Q vs H') → EA p es σ H Q
/-- an exception: its class's name, its field, what it holds -/
inductive XArg
  | no
  | int (i : Int)
  | str (s : Str)
  | cell (c : Int × Int)
  deriving DecidableEq, Inhabited
structure Exn where
  cls : Str
  fld : Str
  arg : XArg
  deriving DecidableEq, Inhabited
def XArg.rep (K : PySem.W.Frag) (B : Hp) (v : V) : XArg → Prop
  | .no => True
  | .int i => Py.rep K B v i
  | .str s => Py.rep K B v s
  | .cell c => Py.rep K B v c
theorem XArg.keep {K : PySem.W.Frag} {B B' : Hp} {v : V} {x : XArg} (l : TLe B B') (h : x.rep K B v) : x.rep K B' v := by
  cases x with
  | no => trivial
  | int i => exact Imm.keep (α := Int) l h
  | str s => exact Imm.keep (α := Str) l h
  | cell c => exact Imm.keep (α := Int × Int) l h
/-- its own dict -/
structure XD where
  x : Exn
instance : Ob XD := ⟨fun K B o b => ∃ v, o = .xd [(b.x.fld, v)] ∧ b.x.arg.rep K B v, fun l ⟨v, e, r⟩ => ⟨v, e, XArg.keep l.tle r⟩, fun ⟨v, e, _⟩ xs z => by rw [e] at z; cases z⟩
instance : ImmF XD := ⟨fun l ⟨v, e, r⟩ => ⟨v, e, XArg.keep l r⟩⟩
def xv : Option Addr → L2.St
  | none => []
  | some a => [some (.ref a)]
def xs (x : Exn) : List Sl := match x.arg with
  | .no => []
  | _ => [.ow (XD.mk x)]
/-- in the air: its class, and its dict beside the slots -/
structure OkX (K : PySem.W.Frag) (mg : Str → Option Value) (B0 H0 B H : Hp) (σ : L2.St) (τ : List Sl) (cls : Value) (d : Option Addr) (x : Exn) : Prop where
  cl : ∃ C, cls = .ref C ∧ mg x.cls = some (.ref C) ∧ PySem.W.nsIn K mainGlobals x.cls = some (some (.ref C))
  len : σ.length = τ.length
  ok : Ok K B0 H0 B H (σ ++ xv d) (τ ++ xs x)
/-- what is wanted behind a block: where it goes on, of what is told, of what is told and the slots left, of what is raised -/
structure Post : Type 1 where
  nx : List Sl → Prop
  rt : Sl → Prop
  rx : List Sl → Sl → Prop
  ex : Exn → List Sl → Prop
structure Emb (p : Par) (B0 H0 : Hp) (D : Ends) (R : Post) : Prop where
  nx : ∀ B H σ τ, Ok p.K B0 H0 B H σ τ → R.nx τ → D.nx σ H
  rt : ∀ B H v s, Ext B0 H0 B H → Vok p.K B H H0 v s → R.rt s → D.rt v H
  rx : ∀ B H σ τ v s, Ok p.K B0 H0 B H (σ ++ [some v]) (τ ++ [s]) → σ.length = τ.length → R.rx τ s → D.rt v H
  ex : ∀ B H σ τ cls d x, OkX p.K p.mg B0 H0 B H σ τ cls d x → R.ex x τ → p.W cls d σ H
/-- .. without the last two -/
def Post.pl (R : Post) : Post := ⟨R.nx, R.rt, fun _ _ => False, fun _ _ => False⟩
theorem Emb.pl {p : Par} {B0 H0 : Hp} {D : Ends} {R : Post} (h : Emb p B0 H0 D R) : Emb p B0 H0 D R.pl := ⟨h.nx, h.rt, fun _ _ _ _ _ _ _ _ q => q.elim, fun _ _ _ _ _ _ _ _ q => q.elim⟩
def S1 (p : Par) (st : Stmt) (τ : List Sl) (R : Post) : Prop := ∀ B0 H0 B H σ, Ok p.K B0 H0 B H σ τ → ∀ D : Ends, Emb p B0 H0 D R → ES p st D σ H
def SX (p : Par) (sts : List Stmt) (τ : List Sl) (R : Post) : Prop := ∀ B0 H0 B H σ, Ok p.K B0 H0 B H σ τ → ∀ D : Ends, Emb p B0 H0 D R → EB p sts D σ H
/-- a target takes s -/
def Upto (w : List Nat) (σ σ' : L2.St) : Prop := σ'.length = σ.length ∧ ∀ i, i ∉ w → σ'[i]? = σ[i]?
def GX (p : Par) (tg : Expr) (w : List Nat) (s : Sl) (τ τ' : List Sl) : Prop := ∀ (B0 H0 B H : Hp) (σ : L2.St) (v : V), Ok p.K B0 H0 B H σ τ → Shr p.K B v s → ∀ Q : L2.St → Hp → Prop, (∀ σ', Ok p.K B0 H0 B H σ' τ' → Upto w σ σ' → Q σ' H) → EG p tg v σ H Q
def GXs (p : Par) (tgs : List Expr) (w : List Nat) (ss : List Sl) (τ τ' : List Sl) : Prop := ∀ (B0 H0 B H : Hp) (σ : L2.St) (vs : List V), Ok p.K B0 H0 B H σ τ → All2 (Shr p.K B) vs ss → ∀ Q : L2.St → Hp → Prop, (∀ σ', Ok p.K B0 H0 B H σ' τ' → Upto w σ σ' → Q σ' H) → EGs p tgs vs σ H Q
/-- what a walk yields, turn by turn -/
def Turns (K : PySem.W.Frag) (B1 : Hp) (J : It) (items : List Sl) : Prop := ∀ B H, Same B1 B → Same B H →
  (∀ i s, items[i]? = some s → J.go i H ∧ ∀ x H', J.yld i H x H' → ∃ B', Ext B H B' H' ∧ Shr K B' x s) ∧ J.stop items.length H
def IX (p : Par) (tg e : Expr) (τ : List Sl) (items : List Sl) : Prop := ∀ B0 H0 B H σ, Ok p.K B0 H0 B H σ τ → ∀ R : It → Hp → Prop, (∀ B' H' J, Ext B H B' H' → Turns p.K B' J items → R J H') → EI p tg e σ H R

/-- a def's promise -/
def spT (K : PySem.W.Frag) (ok : List Sl → Sl → Prop) : Sp := fun vs H Q _ => ∃ B as s, Same B H ∧ All2 (Shr K B) vs as ∧ ok as s ∧ ∀ B' H' v, Ext B H B' H' → Vok K B' H' H v s → Q v H'

section
variable {p : Par} {τ : List Sl} {e a b : Expr} {pos : Pos}

theorem PX.imp {s u : Sl} (h : PX p e τ s) (k : ∀ B H H0 v, Same B H → Vok p.K B H H0 v s → Vok p.K B H H0 v u) : PX p e τ u := fun B0 H0 B H σ ok Q q =>
  h B0 H0 B H σ ok Q fun B' H' v x r => q B' H' v x (k _ _ _ _ x.bh r)
theorem PX.to {s u : Sl} (h : PX p e τ s) (q : s = u) : PX p e τ u := q ▸ h
theorem PTx.to {c d : Bool} (h : PTx p e τ c) (q : c = d) : PTx p e τ d := q ▸ h

/-! ### names, constants -/
theorem px_var (i : Nat) {s : Sl} {x : Str} (hN : p.N[i]? = some x) (hv : Vis p.sc x) (hτ : τ[i]? = some s) (hs : match s with | @Sl.sh _ _ _ => True | _ => False)
    (hd : (x == ("__debug__" : Str)) = false) (hc : (x == ("__classdict__" : Str)) = false) : PX p (.Name x pos) τ s := fun B0 H0 B H σ ok Q q => by
  refine ⟨tVar i, fun X hX => ?_, ?_⟩
  · obtain ⟨k, rfl, _⟩ := hX
    exact pe_var hN hv hd hc
  · rcases ok.at_ i s hτ with z | ⟨v, e1, r⟩
    · subst z; exact hs.elim
    · cases s with
      | sh a => exact ⟨v, e1, q B H v (.refl ok.bh) r⟩
      | un => exact hs.elim
      | ow b => exact hs.elim
theorem px_c {v : V} {s : Sl} (h : ∀ X : Cx, PE X e (tC v)) (r : ∀ B H H0 : Hp, Vok p.K B H H0 v s) : PX p e τ s := fun B0 H0 B H σ ok Q q =>
  ⟨tC v, fun X _ => h X, q B H v (.refl ok.bh) (r _ _ _)⟩
theorem px_int {i : Int} {j : Nat} : PX p (.Constant (.int i) j pos) τ (.sh i) := px_c (fun _ => pe_int) fun _ _ _ => rfl
theorem px_bl {c : Bool} {j : Nat} : PX p (.Constant (.bool c) j pos) τ (.sh c) := px_c (fun _ => pe_bl) fun _ _ _ => rfl
theorem px_str {x : Str} {j : Nat} (h : SG x) : PX p (.Constant (.str x) j pos) τ (.sh x) := px_c (fun _ => pe_str) fun _ _ _ => ⟨rfl, h⟩
theorem px_non {j : Nat} : PX p (.Constant .none j pos) τ (.sh ()) := px_c (fun _ => pe_non) fun _ _ _ => rfl

/-! ### operators -/
theorem px_op2 {α β : Type} [Py α] [Py β] {x : α} {y : β} {s : Sl} {op : Operator} {r : R2} (ho : ∀ X, p.In X → OpR X (binaryOp op) r) (ha : PX p a τ (.sh x)) (hb : PX p b τ (.sh y))
    (h : ∀ B H v u Q, Same B H → rep p.K B v x → rep p.K B u y → (∀ B' H' z, Ext B H B' H' → Vok p.K B' H' H z s → Q z H') → r v u H Q) : PX p (.BinOp a op b pos) τ s := fun B0 H0 B H σ ok Q q => by
  refine ⟨tOp r (EE p a) (EE p b), fun X hX => pe_op (ho X hX) (ee hX) (ee hX), ?_⟩
  refine ha B0 H0 B H σ ok _ fun B1 H1 v1 x1 r1 => ?_
  refine hb B0 H0 B1 H1 σ (ok.go x1) _ fun B2 H2 v2 x2 r2 => ?_
  refine h B2 H2 v1 v2 Q x2.bh (Py.mono (.of x2.bb) r1) r2 fun B' H' z x3 r3 => q B' H' z ((x1.trans x2).trans x3) ?_
  exact r3.base (x1.hh.trans x2.hh)
/-- two ints -/
theorem px_ii {i j : Int} {op : Operator} {C : Int → Int → Prop} {g : Int → Int → Int} (ho : ∀ X, p.In X → OpR X (binaryOp op) (rI C fun i j => .int (g i j))) (ha : PX p a τ (.sh i)) (hb : PX p b τ (.sh j)) (hc : C i j) :
    PX p (.BinOp a op b pos) τ (.sh (g i j)) := px_op2 ho ha hb fun B H v u Q hbh r1 r2 q => ⟨i, j, r1, r2, hc, q B H _ (.refl hbh) rfl⟩
theorem px_ii0 {i j : Int} {op : Operator} {g : Int → Int → Int} (ho : ∀ X, p.In X → OpR X (binaryOp op) (rI0 fun i j => .int (g i j))) (ha : PX p a τ (.sh i)) (hb : PX p b τ (.sh j)) :
    PX p (.BinOp a op b pos) τ (.sh (g i j)) := px_op2 ho ha hb fun B H v u Q hbh r1 r2 q => ⟨i, j, r1, r2, q B H _ (.refl hbh) rfl⟩
theorem px_add {i j : Int} (ha : PX p a τ (.sh i)) (hb : PX p b τ (.sh j)) : PX p (.BinOp a .Add b pos) τ (.sh (i + j)) := px_ii0 (fun _ _ => op_add) ha hb
theorem px_sub {i j : Int} (ha : PX p a τ (.sh i)) (hb : PX p b τ (.sh j)) : PX p (.BinOp a .Sub b pos) τ (.sh (i - j)) := px_ii0 (fun _ _ => op_sub) ha hb
theorem px_mul {i j : Int} (ha : PX p a τ (.sh i)) (hb : PX p b τ (.sh j)) (hc : CMul i j) : PX p (.BinOp a .Mult b pos) τ (.sh (i * j)) := px_ii (fun _ _ => op_mul) ha hb hc
theorem px_mod {i j : Int} (ha : PX p a τ (.sh i)) (hb : PX p b τ (.sh j)) (hc : 0 < j) : PX p (.BinOp a .Mod b pos) τ (.sh (i % j)) := px_ii (fun _ _ => op_mod) ha hb hc
theorem px_fdiv {i j : Int} (ha : PX p a τ (.sh i)) (hb : PX p b τ (.sh j)) (hc : CDiv i j) : PX p (.BinOp a .FloorDiv b pos) τ (.sh (i / j)) := px_ii (fun _ _ => op_fdiv) ha hb hc
theorem px_pow {i j : Int} (ha : PX p a τ (.sh i)) (hb : PX p b τ (.sh j)) (hc : CPow i j) : PX p (.BinOp a .Pow b pos) τ (.sh (i ^ j.toNat)) := px_ii (g := fun i j => i ^ j.toNat) (fun _ _ => op_pow) ha hb hc
theorem px_shl {i j : Int} (ha : PX p a τ (.sh i)) (hb : PX p b τ (.sh j)) (hc : CPow i j) : PX p (.BinOp a .LShift b pos) τ (.sh (i * 2 ^ j.toNat)) := px_ii (g := fun i j => i * 2 ^ j.toNat) (fun _ _ => op_shl) ha hb hc
theorem px_band {i j : Int} (ha : PX p a τ (.sh i)) (hb : PX p b τ (.sh j)) : PX p (.BinOp a .BitAnd b pos) τ (.sh (Builtin.bitAnd i j)) := px_ii0 (fun _ _ => op_and) ha hb
theorem px_bor {i j : Int} (ha : PX p a τ (.sh i)) (hb : PX p b τ (.sh j)) : PX p (.BinOp a .BitOr b pos) τ (.sh (Builtin.bitOr i j)) := px_ii0 (fun _ _ => op_or) ha hb
theorem px_neg {i : Int} (ha : PX p a τ (.sh i)) : PX p (.UnaryOp .USub a pos) τ (.sh (-i)) := fun B0 H0 B H σ ok Q q => by
  refine ⟨tUn (rU fun i => .int (-i)) (EE p a), fun X hX => pe_un un_neg (ee hX), ?_⟩
  exact ha B0 H0 B H σ ok _ fun B1 H1 v1 x1 r1 => ⟨i, r1, q B1 H1 _ x1 rfl⟩

/-! ### comparisons: as values, as tests -/
/-- an operation of two values that gives a bool -/
theorem px_cmp2 {α β : Type} [Py α] [Py β] {x : α} {y : β} {c : Bool} {op : CmpOp} {r : R2} (ho : ∀ X, p.In X → OpR X (compareOp op) r) (hm : behindInMarks op b = false) (ha : PX p a τ (.sh x)) (hb : PX p b τ (.sh y))
    (h : ∀ B H v u Q, Same B H → rep p.K B v x → rep p.K B u y → Q (.bl c) H → r v u H Q) : PX p (.Compare a [op] [b] pos) τ (.sh c) := fun B0 H0 B H σ ok Q q => by
  refine ⟨tOp r (EE p a) (EE p b), fun X hX => pe_cmpR (ho X hX) (ee hX) (ee hX) hm, ?_⟩
  refine ha B0 H0 B H σ ok _ fun B1 H1 v1 x1 r1 => ?_
  refine hb B0 H0 B1 H1 σ (ok.go x1) _ fun B2 H2 v2 x2 r2 => ?_
  exact h B2 H2 v1 v2 Q x2.bh (Py.mono (.of x2.bb) r1) r2 (q B2 H2 _ (x1.trans x2) rfl)
theorem pt_cmp2 {α β : Type} [Py α] [Py β] {x : α} {y : β} {c : Bool} {op : CmpOp} {r : R2} (ho : ∀ X, p.In X → OpR X (compareOp op) r) (hm : behindInMarks op b = false) (ha : PX p a τ (.sh x)) (hb : PX p b τ (.sh y))
    (h : ∀ B H v u Q, Same B H → rep p.K B v x → rep p.K B u y → Q (.bl c) H → r v u H Q) : PTx p (.Compare a [op] [b] pos) τ c := fun B0 H0 B H σ ok Q q => by
  refine ⟨tTest (tOp r (EE p a) (EE p b)), fun X hX => pt_cmpR (ho X hX) (ee hX) (ee hX) hm, ?_⟩
  refine ha B0 H0 B H σ ok _ fun B1 H1 v1 x1 r1 => ?_
  refine hb B0 H0 B1 H1 σ (ok.go x1) _ fun B2 H2 v2 x2 r2 => ?_
  exact h B2 H2 v1 v2 _ x2.bh (Py.mono (.of x2.bb) r1) r2 ⟨c, rfl, q B2 H2 (x1.trans x2)⟩
/-- what a comparison of two things of Lean gives -/
structure Cmp2 (p : Par) (op : CmpOp) {α β : Type} [Py α] [Py β] (x : α) (y : β) (c : Bool) : Prop where
  mk :: h : ∃ r : R2, (∀ X, p.In X → OpR X (compareOp op) r) ∧ ∀ B H v u Q, Same B H → rep p.K B v x → rep p.K B u y → Q (.bl c) H → r v u H Q
section
variable {α β : Type} [Py α] [Py β] {x : α} {y : β} {c : Bool} {op : CmpOp}
theorem px_cmp (h : Cmp2 p op x y c) (ha : PX p a τ (.sh x)) (hb : PX p b τ (.sh y)) (hm : behindInMarks op b = false) : PX p (.Compare a [op] [b] pos) τ (.sh c) := by
  obtain ⟨r, h1, h2⟩ := h.h
  exact px_cmp2 h1 hm ha hb h2
theorem pt_cmp (h : Cmp2 p op x y c) (ha : PX p a τ (.sh x)) (hb : PX p b τ (.sh y)) (hm : behindInMarks op b = false) : PTx p (.Compare a [op] [b] pos) τ c := by
  obtain ⟨r, h1, h2⟩ := h.h
  exact pt_cmp2 h1 hm ha hb h2
end
theorem c_lt {i j : Int} : Cmp2 p .Lt i j (decide (i < j)) := ⟨_, fun _ _ => op_lt, fun _ _ _ _ _ _ r1 r2 q => ⟨i, j, r1, r2, q⟩⟩
theorem c_le {i j : Int} : Cmp2 p .LtE i j (decide (i ≤ j)) := ⟨_, fun _ _ => op_le, fun _ _ _ _ _ _ r1 r2 q => ⟨i, j, r1, r2, q⟩⟩
theorem c_gt {i j : Int} : Cmp2 p .Gt i j (decide (j < i)) := ⟨_, fun _ _ => op_gt, fun _ _ _ _ _ _ r1 r2 q => ⟨i, j, r1, r2, q⟩⟩
theorem c_ge {i j : Int} : Cmp2 p .GtE i j (decide (j ≤ i)) := ⟨_, fun _ _ => op_ge, fun _ _ _ _ _ _ r1 r2 q => ⟨i, j, r1, r2, q⟩⟩
theorem c_eqI {i j : Int} : Cmp2 p .Eq i j (decide (i = j)) := ⟨_, fun _ _ => op_eq, fun _ _ v u Q _ r1 r2 q => by
  have r1 : v = .int i := r1
  have r2 : u = .int j := r2
  subst r1 r2
  exact ⟨rfl, by rw [show decide (V.int i = V.int j) = decide (i = j) by simp]; exact q⟩⟩
theorem c_neI {i j : Int} : Cmp2 p .NotEq i j (!decide (i = j)) := ⟨_, fun _ _ => op_ne, fun _ _ v u Q _ r1 r2 q => by
  have r1 : v = .int i := r1
  have r2 : u = .int j := r2
  subst r1 r2
  exact ⟨rfl, by rw [show decide (V.int i = V.int j) = decide (i = j) by simp]; exact q⟩⟩
theorem c_eqS {i j : Str} : Cmp2 p .Eq i j (decide (i = j)) := ⟨_, fun _ _ => op_eq, fun _ _ v u Q _ r1 r2 q => by
  have r1 : v = .str i := r1.1
  have r2 : u = .str j := r2.1
  subst r1 r2
  exact ⟨rfl, by rw [show decide (V.str i = V.str j) = decide (i = j) by simp]; exact q⟩⟩
theorem c_neS {i j : Str} : Cmp2 p .NotEq i j (!decide (i = j)) := ⟨_, fun _ _ => op_ne, fun _ _ v u Q _ r1 r2 q => by
  have r1 : v = .str i := r1.1
  have r2 : u = .str j := r2.1
  subst r1 r2
  exact ⟨rfl, by rw [show decide (V.str i = V.str j) = decide (i = j) by simp]; exact q⟩⟩
theorem c_eqB {i j : Bool} : Cmp2 p .Eq i j (decide (i = j)) := ⟨_, fun _ _ => op_eq, fun _ _ v u Q _ r1 r2 q => by
  have r1 : v = .bl i := r1
  have r2 : u = .bl j := r2
  subst r1 r2
  exact ⟨rfl, by rw [show decide (V.bl i = V.bl j) = decide (i = j) by simp]; exact q⟩⟩
theorem c_neB {i j : Bool} : Cmp2 p .NotEq i j (!decide (i = j)) := ⟨_, fun _ _ => op_ne, fun _ _ v u Q _ r1 r2 q => by
  have r1 : v = .bl i := r1
  have r2 : u = .bl j := r2
  subst r1 r2
  exact ⟨rfl, by rw [show decide (V.bl i = V.bl j) = decide (i = j) by simp]; exact q⟩⟩
/-- x is None, x an option of things that are never None -/
class NoN (α : Type) [Py α] : Prop where
  no : ∀ {K : PySem.W.Frag} {B : Hp} {v : V} {a : α}, rep K B v a → v ≠ .non
instance : NoN Int := ⟨fun h z => by rw [z] at h; cases h⟩
instance : NoN Str := ⟨fun h z => by have h := h.1; rw [z] at h; cases h⟩
instance : NoN Bool := ⟨fun h z => by rw [z] at h; cases h⟩
instance {β : Type} [Ob β] : NoN β := ⟨fun ⟨_, _, e, _⟩ z => by rw [z] at e; cases e⟩
instance {α : Type} [Py α] : NoN (Tup α) := ⟨fun ⟨_, _, e, _⟩ z => by rw [z] at e; cases e⟩
instance {α β : Type} [Py α] [Py β] : NoN (α × β) := ⟨fun ⟨_, _, _, e, _⟩ z => by rw [z] at e; cases e⟩
instance {α β γ : Type} [Py α] [Py β] [Py γ] : NoN (T3 α β γ) := ⟨fun ⟨_, _, _, _, e, _⟩ z => by rw [z] at e; cases e⟩
instance {α β γ δ : Type} [Py α] [Py β] [Py γ] [Py δ] : NoN (T4 α β γ δ) := ⟨fun ⟨_, _, _, _, _, e, _⟩ z => by rw [z] at e; cases e⟩
instance {α β γ δ ε : Type} [Py α] [Py β] [Py γ] [Py δ] [Py ε] : NoN (T5 α β γ δ ε) := ⟨fun ⟨_, _, _, _, _, _, e, _⟩ z => by rw [z] at e; cases e⟩
theorem opt_non {α : Type} [Py α] [NoN α] {K : PySem.W.Frag} {B : Hp} {v : V} {o : Option α} (r : rep K B v o) : decide (v = .non) = o.isNone := by
  cases o with
  | none => have r : v = .non := r; rw [r]; rfl
  | some a => rw [decide_eq_false (NoN.no (show rep K B v a from r))]; rfl
theorem c_isN {α : Type} [Py α] [NoN α] {o : Option α} : Cmp2 p .Is o () o.isNone := ⟨_, fun _ _ => op_isN, fun _ _ v u Q _ r1 r2 q => ⟨r2, by rw [opt_non r1]; exact q⟩⟩
theorem c_notN {α : Type} [Py α] [NoN α] {o : Option α} : Cmp2 p .IsNot o () (!o.isNone) := ⟨_, fun _ _ => op_notN, fun _ _ v u Q _ r1 r2 q => ⟨r2, by rw [opt_non r1]; exact q⟩⟩
/-- a chain a op b op' c -/
theorem px_chain {c : Expr} {α β γ : Type} [Py α] [Py β] [Py γ] {x : α} {y : β} {z : γ} {k k' : Bool} {op op' : CmpOp} (h : Cmp2 p op x y k) (h' : Cmp2 p op' y z k') (ha : PX p a τ (.sh x)) (hb : PX p b τ (.sh y)) (hc : PX p c τ (.sh z))
    (hm : lastMarks [op, op'] [b, c] = false) : PX p (.Compare a [op, op'] [b, c] pos) τ (.sh (k && k')) := fun B0 H0 B H σ ok Q q => by
  obtain ⟨r, h1, h2⟩ := h.h
  obtain ⟨r', h1', h2'⟩ := h'.h
  refine ⟨tChain r r' (EE p a) (EE p b) (EE p c), fun X hX => pe_chain (h1 X hX) (h1' X hX) (ee hX) (ee hX) (ee hX) hm, ?_⟩
  refine ha B0 H0 B H σ ok _ fun B1 H1 v1 x1 r1 => ?_
  refine hb B0 H0 B1 H1 σ (ok.go x1) _ fun B2 H2 v2 x2 r2 => ?_
  have ok2 := (ok.go x1).go x2
  refine h2 B2 H2 v1 v2 _ x2.bh (Py.mono (.of x2.bb) r1) r2 ⟨k, rfl, ?_⟩
  cases k with
  | false => exact iteF (q B2 H2 _ (x1.trans x2) rfl)
  | true =>
    refine iteT (hc B0 H0 B2 H2 σ ok2 _ fun B3 H3 v3 x3 r3 => ?_)
    exact h2' B3 H3 v2 v3 Q x3.bh (Py.mono (.of x3.bb) r2) r3 (q B3 H3 _ ((x1.trans x2).trans x3) (by simp [Vok, Py.rep]))
theorem pt_chain {c : Expr} {α β γ : Type} [Py α] [Py β] [Py γ] {x : α} {y : β} {z : γ} {k k' : Bool} {op op' : CmpOp} (h : Cmp2 p op x y k) (h' : Cmp2 p op' y z k') (ha : PX p a τ (.sh x)) (hb : PX p b τ (.sh y)) (hc : PX p c τ (.sh z))
    (hm : lastMarks [op, op'] [b, c] = false) : PTx p (.Compare a [op, op'] [b, c] pos) τ (k && k') := fun B0 H0 B H σ ok Q q => by
  obtain ⟨r, h1, h2⟩ := h.h
  obtain ⟨r', h1', h2'⟩ := h'.h
  refine ⟨tTest (tChain r r' (EE p a) (EE p b) (EE p c)), fun X hX => L2.pt_chain (h1 X hX) (h1' X hX) (ee hX) (ee hX) (ee hX) hm, ?_⟩
  refine ha B0 H0 B H σ ok _ fun B1 H1 v1 x1 r1 => ?_
  refine hb B0 H0 B1 H1 σ (ok.go x1) _ fun B2 H2 v2 x2 r2 => ?_
  have ok2 := (ok.go x1).go x2
  refine h2 B2 H2 v1 v2 _ x2.bh (Py.mono (.of x2.bb) r1) r2 ⟨k, rfl, ?_⟩
  cases k with
  | false => exact iteF ⟨false, rfl, q B2 H2 (x1.trans x2)⟩
  | true =>
    refine iteT (hc B0 H0 B2 H2 σ ok2 _ fun B3 H3 v3 x3 r3 => ?_)
    exact h2' B3 H3 v2 v3 _ x3.bh (Py.mono (.of x3.bb) r2) r3 ⟨k', rfl, q B3 H3 ((x1.trans x2).trans x3)⟩

/-! ### truth -/
theorem pt_val {c : Bool} (h : PX p e τ (.sh c)) (he : ∀ env whole, isTrue e env whole = (do let v ← whole; standAt e.pos; holding [v] (truthy v))) : PTx p e τ c := fun B0 H0 B H σ ok Q q =>
  ⟨tB (EE p e), fun X hX => L2.pt_val (ee hX) (he _), h B0 H0 B H σ ok _ fun B1 H1 v1 x1 r1 => ⟨c, r1, q B1 H1 x1⟩⟩
theorem pt_not {c : Bool} (h : PTx p a τ c) : PTx p (.UnaryOp .Not a pos) τ (!c) := fun B0 H0 B H σ ok Q q =>
  ⟨tNot (ET p a), fun X hX => L2.pt_not (et hX), h B0 H0 B H σ ok _ fun B1 H1 x1 => q B1 H1 x1⟩
theorem px_not {c : Bool} (h : PX p a τ (.sh c)) : PX p (.UnaryOp .Not a pos) τ (.sh (!c)) := fun B0 H0 B H σ ok Q q =>
  ⟨tNotV (EE p a), fun X hX => pe_not (ee hX), h B0 H0 B H σ ok _ fun B1 H1 v1 x1 r1 => ⟨c, r1, q B1 H1 _ x1 rfl⟩⟩
variable {rest : List Expr}
theorem pw_and1 {c : Bool} (h : PTx p a τ c) : PWx p (.BoolOp .And [a] pos) τ c := fun B0 H0 B H σ ok Q q => ⟨ET p a, fun X hX => L2.pw_and1 (et hX), h B0 H0 B H σ ok _ q⟩
theorem pw_or1 {c : Bool} (h : PTx p a τ c) : PWx p (.BoolOp .Or [a] pos) τ c := fun B0 H0 B H σ ok Q q => ⟨ET p a, fun X hX => L2.pw_or1 (et hX), h B0 H0 B H σ ok _ q⟩
theorem pw_and {c d : Bool} (h : PTx p a τ c) (k : c = true → PWx p (.BoolOp .And (b :: rest) pos) τ d) : PWx p (.BoolOp .And (a :: b :: rest) pos) τ (c && d) := fun B0 H0 B H σ ok Q q => by
  refine ⟨tAnd (ET p a) (EW p (.BoolOp .And (b :: rest) pos)), fun X hX => L2.pw_and (et hX) (ew hX), h B0 H0 B H σ ok _ fun B1 H1 x1 => ?_⟩
  cases c with
  | true => exact iteT (k rfl B0 H0 B1 H1 σ (ok.go x1) _ fun B2 H2 x2 => by simpa using q B2 H2 (x1.trans x2))
  | false => exact iteF (q B1 H1 x1)
theorem pw_or {c d : Bool} (h : PTx p a τ c) (k : c = false → PWx p (.BoolOp .Or (b :: rest) pos) τ d) : PWx p (.BoolOp .Or (a :: b :: rest) pos) τ (c || d) := fun B0 H0 B H σ ok Q q => by
  refine ⟨tOr (ET p a) (EW p (.BoolOp .Or (b :: rest) pos)), fun X hX => L2.pw_or (et hX) (ew hX), h B0 H0 B H σ ok _ fun B1 H1 x1 => ?_⟩
  cases c with
  | true => exact iteT (q B1 H1 x1)
  | false => exact iteF (k rfl B0 H0 B1 H1 σ (ok.go x1) _ fun B2 H2 x2 => by simpa using q B2 H2 (x1.trans x2))
theorem pt_w {c : Bool} (h : PWx p e τ c) : PTx p e τ c := fun B0 H0 B H σ ok Q q => ⟨EW p e, fun X hX => PW.pt (ew hX), h B0 H0 B H σ ok _ q⟩
theorem px_one {s : Sl} {op : BoolOp} (h : PX p a τ s) : PX p (.BoolOp op [a] pos) τ s := fun B0 H0 B H σ ok Q q => ⟨EE p a, fun X hX => pe_one (ee hX), h B0 H0 B H σ ok _ q⟩
theorem px_and {c d : Bool} (h : PX p a τ (.sh c)) (k : c = true → PX p (.BoolOp .And (b :: rest) pos) τ (.sh d)) : PX p (.BoolOp .And (a :: b :: rest) pos) τ (.sh (c && d)) := fun B0 H0 B H σ ok Q q => by
  refine ⟨tAndV (EE p a) (EE p (.BoolOp .And (b :: rest) pos)), fun X hX => pe_and (ee hX) (ee hX), h B0 H0 B H σ ok _ fun B1 H1 v1 x1 r1 => ⟨c, r1, ?_⟩⟩
  cases c with
  | true => exact iteT (k rfl B0 H0 B1 H1 σ (ok.go x1) _ fun B2 H2 v2 x2 r2 => q B2 H2 v2 (x1.trans x2) (by simpa [Vok] using r2))
  | false => exact iteF (q B1 H1 _ x1 rfl)
theorem px_or {c d : Bool} (h : PX p a τ (.sh c)) (k : c = false → PX p (.BoolOp .Or (b :: rest) pos) τ (.sh d)) : PX p (.BoolOp .Or (a :: b :: rest) pos) τ (.sh (c || d)) := fun B0 H0 B H σ ok Q q => by
  refine ⟨tOrV (EE p a) (EE p (.BoolOp .Or (b :: rest) pos)), fun X hX => pe_or (ee hX) (ee hX), h B0 H0 B H σ ok _ fun B1 H1 v1 x1 r1 => ⟨c, r1, ?_⟩⟩
  cases c with
  | true => exact iteT (q B1 H1 _ x1 rfl)
  | false => exact iteF (k rfl B0 H0 B1 H1 σ (ok.go x1) _ fun B2 H2 v2 x2 r2 => q B2 H2 v2 (x1.trans x2) (by simpa [Vok] using r2))

/-! ### argument lists, displays -/
variable {es : List Expr}
theorem pax_nil : PAx p [] τ [] := fun B0 H0 B H σ ok Q q => ⟨tNil, fun _ _ => pa_nil, q B H [] (.refl ok.bh) .nil⟩
theorem pax_cons {α : Type} [Py α] {x : α} {ss : List Sl} (h : PX p e τ (.sh x)) (k : PAx p es τ ss) (hs : ∀ env, starEach (e :: es) env = (false, eval e env) :: starEach es env := by intro _; rfl) : PAx p (e :: es) τ (.sh x :: ss) := fun B0 H0 B H σ ok Q q => by
  refine ⟨tCons (EE p e) (EA p es), fun X hX => pa_cons (ee hX) (ea hX) (hs _), h B0 H0 B H σ ok _ fun B1 H1 v1 x1 r1 => ?_⟩
  refine k B0 H0 B1 H1 σ (ok.go x1) _ fun B2 H2 vs x2 r2 => q B2 H2 (v1 :: vs) (x1.trans x2) (.cons ?_ r2)
  exact Py.mono (.of x2.bb) (show rep p.K B1 v1 x from r1)
theorem px_tup {ss : List Sl} {α : Type} [Py α] {x : α} {j : Nat} (h : PAx p es τ ss) (hl : ss.length ≤ sizeLine) (r : ∀ B vs q, All2 (Shr p.K B) vs ss → B q = some (.tup vs) → rep p.K B (.ref q) x) : PX p (.Tuple es j pos) τ (.sh x) := fun B0 H0 B H σ ok Q q => by
  refine ⟨tTup (EA p es), fun X hX => pe_tup (ea hX), h B0 H0 B H σ ok _ fun B1 H1 vs x1 r1 => ⟨by rw [r1.length]; exact hl, fun a na => ?_⟩⟩
  have x2 := Ext.laid (o := .tup vs) x1.bh na
  refine q _ _ _ (x1.trans x2) (r _ vs a (r1.imp fun v s g => ?_) upd_same)
  cases s with
  | sh y => exact Py.mono (.of x2.bb) g
  | un => exact g
  | ow y => exact g
section
variable {α β γ δ ε : Type} [Py α] [Py β] [Py γ] [Py δ] [Py ε] {x : α} {y : β} {z : γ} {u : δ} {w : ε} {j : Nat}
theorem px_tup1 (h : PAx p es τ [.sh x]) : PX p (.Tuple es j pos) τ (.sh (T1.mk x)) := px_tup h (by show 1 ≤ sizeLine; decide) fun B vs q r e => by
  cases r with
  | cons r1 r => cases r; exact ⟨q, _, rfl, e, r1⟩
theorem px_tup2 (h : PAx p es τ [.sh x, .sh y]) : PX p (.Tuple es j pos) τ (.sh (x, y)) := px_tup h (by show 2 ≤ sizeLine; decide) fun B vs q r e => by
  cases r with
  | cons r1 r => cases r with
    | cons r2 r => cases r; exact ⟨q, _, _, rfl, e, r1, r2⟩
theorem px_tup3 (h : PAx p es τ [.sh x, .sh y, .sh z]) : PX p (.Tuple es j pos) τ (.sh (T3.mk x y z)) := px_tup h (by show 3 ≤ sizeLine; decide) fun B vs q r e => by
  cases r with
  | cons r1 r => cases r with
    | cons r2 r => cases r with
      | cons r3 r => cases r; exact ⟨q, _, _, _, rfl, e, r1, r2, r3⟩
theorem px_tup4 (h : PAx p es τ [.sh x, .sh y, .sh z, .sh u]) : PX p (.Tuple es j pos) τ (.sh (T4.mk x y z u)) := px_tup h (by show 4 ≤ sizeLine; decide) fun B vs q r e => by
  cases r with
  | cons r1 r => cases r with
    | cons r2 r => cases r with
      | cons r3 r => cases r with
        | cons r4 r => cases r; exact ⟨q, _, _, _, _, rfl, e, r1, r2, r3, r4⟩
theorem px_tup5 (h : PAx p es τ [.sh x, .sh y, .sh z, .sh u, .sh w]) : PX p (.Tuple es j pos) τ (.sh (T5.mk x y z u w)) := px_tup h (by show 5 ≤ sizeLine; decide) fun B vs q r e => by
  cases r with
  | cons r1 r => cases r with
    | cons r2 r => cases r with
      | cons r3 r => cases r with
        | cons r4 r => cases r with
          | cons r5 r => cases r; exact ⟨q, _, _, _, _, _, rfl, e, r1, r2, r3, r4, r5⟩
end
/-- a new list of readable things of one kind -/
theorem px_lst {α : Type} [Py α] {xs : List α} {ss : List Sl} (h : PAx p es τ ss) (e : ss = xs.map fun x => .sh x) (hl : xs.length ≤ sizeLine) : PX p (.List es pos) τ (.ow xs) := fun B0 H0 B H σ ok Q q => by
  subst e
  refine ⟨tLst (EA p es), fun X hX => pe_lst (ea hX), h B0 H0 B H σ ok _ fun B1 H1 vs x1 r1 => ⟨by rw [r1.length, List.length_map]; exact hl, fun a na => ?_⟩⟩
  refine q _ _ _ (x1.trans (Ext.made x1.bh na)) (vow ⟨a, .lst vs, rfl, x1.hh.free na, ?_, upd_same, vs, rfl, ?_⟩)
  · cases g : B1 a with
    | none => rfl
    | some o => rw [x1.bh a o g] at na; cases na
  · clear q h x1 ok
    induction xs generalizing vs with
    | nil => cases r1; exact .nil
    | cons x r ih => cases r1 with
      | cons r2 r3 => exact .cons r2 (ih (by rw [List.length_cons] at hl; omega) _ r3)
/-- what is new may be read from now on -/
theorem px_pub {β : Type} [Ob β] {x : β} (h : PX p e τ (.ow x)) : PX p e τ (.sh x) := fun B0 H0 B H σ ok Q q => by
  refine h B0 H0 B H σ ok Q fun B1 H1 v x1 r0 => ?_
  obtain ⟨a, o, e1, n, nb, hp, r⟩ := owv r0
  subst e1
  have x2 := x1.pub n nb hp
  exact q _ _ _ x2 ⟨a, o, rfl, .of upd_same, Ob.omono (.of (same_upd nb)) r⟩
end
end Ly

namespace Ly
open PySem PySem.Spec PyProof.Rows L2
open Py
section
variable {p : Par} {τ τ1 : List Sl} {R : Post} {st : Stmt} {sts rest : List Stmt} {e a b : Expr} {pos : Pos}

theorem Ok.rebase {K : PySem.W.Frag} {B0 H0 B1 H1 B H : Hp} {σ : L2.St} {τ : List Sl} (x : Ext B0 H0 B1 H1) (h : Ok K B1 H0 B H σ τ) : Ok K B0 H0 B H σ τ :=
  ⟨⟨h.ext.bh, h.ext.hh, x.bb.trans h.ext.bb, fun a o e n t => h.ext.nw a o (x.nw a o e n t) n t⟩, h.len, h.fps⟩
theorem Ok.tobase {K : PySem.W.Frag} {B0 H0 B1 H1 : Hp} {σ : L2.St} {τ : List Sl} (h : Ok K B0 H0 B1 H1 σ τ) : Ok K B1 H0 B1 H1 σ τ :=
  ⟨⟨h.ext.bh, h.ext.hh, Same.refl _, fun _ _ e _ _ => e⟩, h.len, h.fps⟩
theorem Ext.rebase {B0 H0 B1 H1 B H : Hp} (x : Ext B0 H0 B1 H1) (h : Ext B1 H0 B H) : Ext B0 H0 B H :=
  ⟨h.bh, h.hh, x.bb.trans h.bb, fun a o e n t => h.nw a o (x.nw a o e n t) n t⟩
theorem Emb.rebase {p : Par} {B0 H0 B1 H1 : Hp} {D : Ends} {R : Post} (x : Ext B0 H0 B1 H1) (h : Emb p B0 H0 D R) : Emb p B1 H0 D R :=
  ⟨fun B H σ τ ok q => h.nx B H σ τ (ok.rebase x) q, fun B H v s y r q => h.rt B H v s (x.rebase y) r q, fun B H σ τ v s ok l q => h.rx B H σ τ v s (ok.rebase x) l q, fun B H σ τ c d e ok q => h.ex B H σ τ c d e ⟨ok.cl, ok.len, ok.ok.rebase x⟩ q⟩

/-! ### blocks -/
/-- a statement that goes on, from τ to τ1 -/
def D1 (p : Par) (st : Stmt) (τ τ1 : List Sl) : Prop := ∀ R : Post, R.nx τ1 → S1 p st τ R
theorem sx_nil (h : R.nx τ) : SX p [] τ R := fun B0 H0 B H σ ok D em => ⟨tNext, fun _ _ => pss_nil, em.nx B H σ τ ok h⟩
theorem sx_one (h : S1 p st τ R) : SX p [st] τ R := fun B0 H0 B H σ ok D em => ⟨ES p st, fun X hX => pss_one (es_ hX), h B0 H0 B H σ ok D em⟩
theorem sx_cons (I : List Sl → Prop) (h : S1 p st τ ⟨I, R.rt, R.rx, R.ex⟩) (k : ∀ τ', I τ' → SX p rest τ' R) : SX p (st :: rest) τ R := fun B0 H0 B H σ ok D em =>
  ⟨tSeq (ES p st) (EB p rest), fun X hX => pss_cons (es_ hX) (eb hX), h B0 H0 B H σ ok { D with nx := EB p rest D } ⟨fun B' H' σ' τ' ok' q => k τ' q B0 H0 B' H' σ' ok' D em, em.rt, em.rx, em.ex⟩⟩
theorem sx_step (h : D1 p st τ τ1) (k : SX p rest τ1 R) : SX p (st :: rest) τ R := sx_cons (fun τ' => τ' = τ1) (h _ rfl) fun _ z => z ▸ k
theorem S1.imp {R' : Post} (h : S1 p st τ R') (n : ∀ τ, R'.nx τ → R.nx τ) (r : ∀ s, R'.rt s → R.rt s) (rx : ∀ τ s, R'.rx τ s → R.rx τ s) (ex : ∀ x τ, R'.ex x τ → R.ex x τ) : S1 p st τ R := fun B0 H0 B H σ ok D em =>
  h B0 H0 B H σ ok D ⟨fun B H σ τ ok q => em.nx B H σ τ ok (n τ q), fun B H v s x vo q => em.rt B H v s x vo (r s q), fun B H σ τ v s ok l q => em.rx B H σ τ v s ok l (rx _ _ q), fun B H σ τ c d e ok q => em.ex B H σ τ c d e ok (ex _ _ q)⟩
theorem SX.imp {R' : Post} (h : SX p sts τ R') (n : ∀ τ, R'.nx τ → R.nx τ) (r : ∀ s, R'.rt s → R.rt s) (rx : ∀ τ s, R'.rx τ s → R.rx τ s) (ex : ∀ x τ, R'.ex x τ → R.ex x τ) : SX p sts τ R := fun B0 H0 B H σ ok D em =>
  h B0 H0 B H σ ok D ⟨fun B H σ τ ok q => em.nx B H σ τ ok (n τ q), fun B H v s x vo q => em.rt B H v s x vo (r s q), fun B H σ τ v s ok l q => em.rx B H σ τ v s ok l (rx _ _ q), fun B H σ τ c d e ok q => em.ex B H σ τ c d e ok (ex _ _ q)⟩
/-- forgetting slots -/
theorem sx_weak {τ' : List Sl} (hl : τ'.length = τ.length) (w : ∀ (i : Nat) (s : Sl), τ'[i]? = some s → s = .un ∨ τ[i]? = some s) (h : SX p sts τ' R) : SX p sts τ R := fun B0 H0 B H σ ok D em =>
  h B0 H0 B H σ (ok.weak hl w) D em

/-! ### simple statements -/
theorem s_set (i : Nat) {s : Sl} {x : Str} {pos' : Pos} (nd : p.N.Nodup) (hN : p.N[i]? = some x) (hx : Loc p.sc x) (hf : p.fn x = true ∨ p.sc.names.lookup x = some .local) (h : PX p e τ s)
    (hs : ∀ env, swapsWith e (some (.Name x pos')) pos.line env = pure false) : D1 p (.Assign [.Name x pos'] e pos) τ (τ.set i s) := fun R hR B0 H0 B H σ ok D em => by
  refine ⟨tAsg (EE p e) (gName i), fun X hX => ?_, h B0 H0 B H σ ok _ fun B1 H1 v x1 r1 => em.nx B1 H1 _ _ (ok.putN x1 r1) hR⟩
  have hX' := hX
  obtain ⟨k, rfl, _⟩ := hX'
  exact ps_set nd hN hx (ee hX) (hs _) hf
theorem s_expr {s : Sl} (h : PX p e τ s) (hs : ∀ env, swapsWith e none pos.line env = pure false) : D1 p (.Expr e pos) τ τ := fun R hR B0 H0 B H σ ok D em =>
  ⟨tDrop (EE p e), fun X hX => ps_expr (ee hX) (hs _), h B0 H0 B H σ ok _ fun B1 H1 v x1 r1 => em.nx B1 H1 _ _ (ok.go x1) hR⟩
theorem s_pass : D1 p (.Pass pos) τ τ := fun R hR B0 H0 B H σ ok D em => ⟨tNext, fun _ _ => ps_pass, em.nx B H σ τ ok hR⟩
theorem s_ret {s : Sl} (h : PX p e τ s) (hR : R.rt s) : S1 p (.Return (some e) pos) τ R := fun B0 H0 B H σ ok D em =>
  ⟨tRet (EE p e), fun X hX => ps_ret (ee hX), h B0 H0 B H σ ok _ fun B1 H1 v x1 r1 => em.rt B1 H1 v s (ok.ext.trans x1) (r1.base ok.ext.hh) hR⟩
/-- a name is handed back, whatever it holds -/
theorem s_retV (i : Nat) {s : Sl} {x : Str} {pos' : Pos} (hN : p.N[i]? = some x) (hv : Vis p.sc x) (hτ : τ[i]? = some s) (hs : s ≠ .un) (hd : (x == ("__debug__" : Str)) = false) (hc : (x == ("__classdict__" : Str)) = false) (hR : R.rt s) :
    S1 p (.Return (some (.Name x pos')) pos) τ R := fun B0 H0 B H σ ok D em => by
  refine ⟨tRet (tVar i), fun X hX => ?_, ?_⟩
  · obtain ⟨k, rfl, _⟩ := hX
    exact ps_ret (pe_var hN hv hd hc)
  · rcases ok.at_ i s hτ with z | ⟨v, e1, r⟩
    · exact absurd z hs
    · exact ⟨v, e1, em.rt B H v s ok.ext r hR⟩
theorem s_retN (hR : R.rt (.sh ())) : S1 p (.Return none pos) τ R := fun B0 H0 B H σ ok D em => ⟨tRetN, fun _ _ => ps_retN, em.rt B H .non (.sh ()) ok.ext rfl hR⟩
theorem s_if {c : Expr} {k : Bool} {bt bf : List Stmt} (hc : PTx p c τ k) (ht : k = true → SX p bt τ R) (hf : k = false → SX p bf τ R) : S1 p (.If c bt bf pos) τ R := fun B0 H0 B H σ ok D em => by
  refine ⟨tIfS (ET p c) (EB p bt) (EB p bf), fun X hX => ps_if (et hX) (eb hX) (eb hX), hc B0 H0 B H σ ok _ fun B1 H1 x1 => ?_⟩
  cases k with
  | true => exact iteT (ht rfl B0 H0 B1 H1 σ (ok.go x1) D em)
  | false => exact iteF (hf rfl B0 H0 B1 H1 σ (ok.go x1) D em)
theorem s_never (h : False) : S1 p st τ R := h.elim

/-! ### targets -/
theorem upto_set (σ : L2.St) (i : Nat) (v : Option V) : Upto [i] σ (σ.set i v) := ⟨List.length_set, fun j h => by rw [List.getElem?_set_ne (fun z => h (by simp [z]))]⟩
theorem gx_name (i : Nat) {s : Sl} {x : Str} (nd : p.N.Nodup) (hN : p.N[i]? = some x) (hx : Loc p.sc x) (hf : p.fn x = true ∨ p.sc.names.lookup x = some .local) (hs : match s with | @Sl.sh _ _ _ => True | _ => False) :
    GX p (.Name x pos) [i] s τ (τ.set i s) := fun B0 H0 B H σ v ok r Q q => by
  refine ⟨gName i, fun X hX => ?_, q _ ?_ (upto_set σ i _)⟩
  · obtain ⟨k, rfl, _⟩ := hX
    exact pg_name nd hN hx hf
  · cases s with
    | sh y => exact ok.putN (.refl ok.bh) (show rep p.K B v y from r)
    | un => exact hs.elim
    | ow y => exact hs.elim
theorem gxs_nil : GXs p [] [] [] τ τ := fun B0 H0 B H σ vs ok r Q q => ⟨gNil, fun _ _ => pgs_nil, by cases r; exact ⟨rfl, q σ ok ⟨rfl, fun _ _ => rfl⟩⟩⟩
theorem gxs_cons {tg : Expr} {tgs : List Expr} {w ws : List Nat} {s : Sl} {ss : List Sl} {τ2 : List Sl} (h : GX p tg w s τ τ1) (k : GXs p tgs ws ss τ1 τ2) (hs : ∀ env, (assignEach (tg :: tgs) env).map (·.2) = assign tg env :: (assignEach tgs env).map (·.2)) :
    GXs p (tg :: tgs) (w ++ ws) (s :: ss) τ τ2 := fun B0 H0 B H σ vs ok r Q q => by
  refine ⟨gCons (EG p tg) (EGs p tgs), fun X hX => pgs_cons (eg hX) (egs hX) (hs _), ?_⟩
  cases r with
  | cons r1 r2 =>
    refine ⟨_, _, rfl, h B0 H0 B H σ _ ok r1 _ fun σ1 ok1 u1 => k B0 H0 B H σ1 _ ok1 r2 _ fun σ2 ok2 u2 => q σ2 ok2 ⟨u2.1.trans u1.1, fun i hi => ?_⟩⟩
    rw [u2.2 i fun z => hi (List.mem_append_right _ z), u1.2 i fun z => hi (List.mem_append_left _ z)]
/-- what a tuple is made of -/
class Flds (α : Type) [Py α] where
  fl : α → List Sl
  ofr : ∀ {K : PySem.W.Frag} {B : Hp} {v : V} {x : α}, rep K B v x → ∃ q vs, v = .ref q ∧ B q = some (.tup vs) ∧ All2 (Shr K B) vs (fl x)
section
variable {α β γ δ ε : Type} [Py α] [Py β] [Py γ] [Py δ] [Py ε]
instance : Flds (T1 α) := ⟨fun t => [.sh t.a], fun ⟨q, x, e, h, r⟩ => ⟨q, _, e, h, .cons r .nil⟩⟩
instance : Flds (α × β) := ⟨fun t => [.sh t.1, .sh t.2], fun ⟨q, x, y, e, h, r, r2⟩ => ⟨q, _, e, h, .cons r (.cons r2 .nil)⟩⟩
instance : Flds (T3 α β γ) := ⟨fun t => [.sh t.a, .sh t.b, .sh t.c], fun ⟨q, x, y, z, e, h, r, r2, r3⟩ => ⟨q, _, e, h, .cons r (.cons r2 (.cons r3 .nil))⟩⟩
instance : Flds (T4 α β γ δ) := ⟨fun t => [.sh t.a, .sh t.b, .sh t.c, .sh t.d], fun ⟨q, x, y, z, u, e, h, r, r2, r3, r4⟩ => ⟨q, _, e, h, .cons r (.cons r2 (.cons r3 (.cons r4 .nil)))⟩⟩
instance : Flds (T5 α β γ δ ε) := ⟨fun t => [.sh t.a, .sh t.b, .sh t.c, .sh t.d, .sh t.e], fun ⟨q, x, y, z, u, w, e, h, r, r2, r3, r4, r5⟩ => ⟨q, _, e, h, .cons r (.cons r2 (.cons r3 (.cons r4 (.cons r5 .nil))))⟩⟩
theorem all2_sh {K : PySem.W.Frag} {B : Hp} : ∀ {vs : List V} {xs : List α}, All2 (rep K B) vs xs → All2 (Shr K B) vs (xs.map fun x => .sh x)
  | _, _, .nil => .nil
  | _, _, .cons r t => .cons r (all2_sh t)
theorem all2_unsh {K : PySem.W.Frag} {B : Hp} : ∀ {xs : List α} {vs : List V}, All2 (Shr K B) vs (xs.map fun x => Sl.sh x) → All2 (rep K B) vs xs
  | [], _, h => by cases h; exact .nil
  | _ :: _, _, h => by cases h with | cons r t => exact .cons r (all2_unsh t)
instance : Flds (Tup α) := ⟨fun t => t.l.map fun x => .sh x, fun ⟨q, vs, e, h, r⟩ => ⟨q, vs, e, h, all2_sh r⟩⟩
end
theorem gx_tup {α : Type} [Py α] [Flds α] {x : α} {es : List Expr} {w : List Nat} {j : Nat} (h : GXs p es w (Flds.fl x) τ τ1) (hn : ∀ env, (assignEach es env).length = (Flds.fl x).length) (hst : ∀ env, (assignEach es env).findIdx? (·.1) = none) :
    GX p (.Tuple es j pos) w (.sh x) τ τ1 := fun B0 H0 B H σ v ok r Q q => by
  obtain ⟨a, vs, e, ha, r2⟩ := Flds.ofr (show rep p.K B v x from r)
  refine ⟨gTup p.K (Flds.fl x).length (EGs p es), fun X hX => ?_, a, vs, e, .of (ok.bh _ _ ha), r2.length, h B0 H0 B H σ vs ok r2 Q q⟩
  have hX' := hX
  obtain ⟨k, rfl, calm, _⟩ := hX'
  exact pg_tup calm (egs hX) (hn _) (hst _)
/-- a, b = e -/
theorem s_asg {tg : Expr} {w : List Nat} {α : Type} [Py α] {x : α} (he : PX p e τ (.sh x)) (hg : GX p tg w (.sh x) τ τ1) (hs : ∀ env, swapsWithSole [tg] e pos.line env = pure false) (hw : ∀ env, swappedStores [tg] e env = pure none)
    (h1 : ∀ env, (assignEach [tg] env).map (·.2) = [assign tg env]) : D1 p (.Assign [tg] e pos) τ τ1 := fun R hR B0 H0 B H σ ok D em =>
  ⟨tAsg (EE p e) (EG p tg), fun X hX => ps_asg (ee hX) (eg hX) (hs _) (hw _) (h1 _), he B0 H0 B H σ ok _ fun B1 H1 v x1 r1 => hg B0 H0 B1 H1 σ v (ok.go x1) r1 _ fun σ' ok' _ => em.nx B1 H1 σ' τ1 ok' hR⟩

/-! ### for -/
theorem s_for {tg iter : Expr} {body : List Stmt} {w : List Nat} {items : List Sl} (I : Nat → List Sl → Prop) (hi : IX p tg iter τ items) (h0 : I 0 τ)
    (hs : ∀ i s τi, items[i]? = some s → I i τi → ∃ τ', GX p tg w s τi τ' ∧ SX p body τ' ⟨I (i + 1), R.rt, R.rx, R.ex⟩) (hd : ∀ τn, I items.length τn → R.nx τn)
    (hf : ∀ env x, foldedSetIterable iter env x = pure x) : S1 p (.For tg iter body [] pos) τ R := fun B0 H0 B H σ ok D em => by
  refine ⟨tFor (EI p tg iter) (EG p tg) (EB p body), fun X hX => ?_, hi B0 H0 B H σ ok _ fun B1 H1 J x1 tj => ?_⟩
  · have hX' := hX
    obtain ⟨k, rfl, calm, _, po⟩ := hX'
    exact ps_for po.1 calm (ei hX) (eg hX) (eb hX) (hf _)
  · have ok1 := ok.go x1
    have em1 := em.rebase ok1.ext
    refine ⟨fun i m σ H => m = items.length - i ∧ i ≤ items.length ∧ ∃ B τ, Ok p.K B1 H0 B H σ τ ∧ I i τ, ⟨_, rfl, Nat.zero_le _, B1, τ, ok1.tobase, h0⟩, ?_⟩
    rintro i m σ2 H2 ⟨rfl, hin, B2, τ2, ok2, inv⟩
    obtain ⟨tg1, tstop⟩ := tj B2 H2 ok2.ext.bb ok2.bh
    by_cases hlt : i < items.length
    · obtain ⟨s, hsi⟩ : ∃ s, items[i]? = some s := ⟨items[i], List.getElem?_eq_getElem hlt⟩
      obtain ⟨go, yl⟩ := tg1 i s hsi
      obtain ⟨τ', gx, sx⟩ := hs i s τ2 hsi inv
      refine .inr ⟨go, fun σ' H' => ∃ B τ, Ok p.K B1 H0 B H' σ' τ ∧ I (i + 1) τ, fun σ' H' n => ⟨_, by omega, rfl, hlt, n⟩, fun x H' y => ?_⟩
      obtain ⟨B3, x3, r3⟩ := yl x H' y
      refine gx B1 H0 B3 H' σ2 x (ok2.go x3) r3 _ fun σ4 ok4 _ => ?_
      exact sx B1 H0 B3 H' σ4 ok4 _ ⟨fun B H σ τ ok q => ⟨B, τ, ok, q⟩, em1.rt, em1.rx, em1.ex⟩
    · have e : i = items.length := by omega
      subst e
      exact .inl ⟨tstop, em1.nx B2 H2 σ2 τ2 ok2 (hd τ2 inv)⟩

/-! ### while: I by a measure -/
theorem s_while {c : Expr} {body : List Stmt} (I : Nat → List Sl → Prop) (h0 : ∃ m, I m τ)
    (hs : ∀ m τi, I m τi → ∃ k, PTx p c τi k ∧ (k = true → SX p body τi ⟨fun τ' => ∃ m', m' < m ∧ I m' τ', R.rt, R.rx, R.ex⟩) ∧ (k = false → R.nx τi)) : S1 p (.While c body [] pos) τ R := fun B0 H0 B H σ ok D em => by
  refine ⟨tWhile (ET p c) (EB p body), fun X hX => ?_, ?_⟩
  · have hX' := hX
    obtain ⟨k, rfl, calm, _, po⟩ := hX'
    exact ps_while po.1 (et hX) (eb hX)
  · obtain ⟨m0, h0⟩ := h0
    refine ⟨fun m σ H => ∃ B τ, Ok p.K B0 H0 B H σ τ ∧ I m τ, ⟨m0, B, τ, ok, h0⟩, ?_⟩
    rintro m σ2 H2 ⟨B2, τ2, ok2, inv⟩
    obtain ⟨k, ht, hb, hd⟩ := hs m τ2 inv
    refine ht B0 H0 B2 H2 σ2 ok2 _ fun B3 H3 x3 => ?_
    cases k with
    | true =>
      refine iteT ⟨fun σ' H' => ∃ m', m' < m ∧ ∃ B τ, Ok p.K B0 H0 B H' σ' τ ∧ I m' τ, fun σ' H' n => n, ?_⟩
      exact hb rfl B0 H0 B3 H3 σ2 (ok2.go x3) _ ⟨fun B H σ τ ok ⟨m', hm, q⟩ => ⟨m', hm, B, τ, ok, q⟩, em.rt, em.rx, em.ex⟩
    | false => exact iteF (em.nx B3 H3 σ2 τ2 (ok2.go x3) (hd rfl))

/-! ### a def, its call -/
/-- the def that stands at the module's name x keeps the promise ok, at level k -/
def Cal (P : Program) (w : World) (K : PySem.W.Frag) (mg : Str → Option Value) (base : Heap) (k : Nat) (x : Str) (ok : List Sl → Sl → Prop) : Prop :=
  ∃ (f : Addr) (fd : FuncData) (ps : List Str), FnOk P w K mg base CX0 k f fd ps (spT K ok) ∧ mg x = some (.ref f) ∧ PySem.W.keepIn K (.ref f) = true ∧ Binds K fd ps []
theorem px_call {x : Str} {pp : Pos} {es : List Expr} {as : List Sl} {s : Sl} {k : Nat} {okf : List Sl → Sl → Prop} (G : Cal p.P p.w p.K p.mg p.base k x okf) (hk : k ≤ p.k) (hg : p.sc.names.lookup x = some .globalImplicit)
    (ha : PAx p (e :: es) τ as) (h : okf as s) (hdb : (x == ("__debug__" : Str)) = false)
    (he : ∀ env, starEach (e :: es) env = (false, eval e env) :: starEach es env) (hpl : ∀ env, (backTo pos (starEach es env)).any (·.1) = false) : PX p (.Call (.Name x pp) (e :: es) [] pos) τ s := fun B0 H0 B H σ ok Q q => by
  obtain ⟨f, fd, ps, F, hm, kp, bd⟩ := G
  refine ⟨tCall (spT p.K okf) [] E0 (EA p (e :: es)), fun X hX => ?_, ha B0 H0 B H σ ok _ fun B1 H1 vs x1 r1 => ?_⟩
  · have hX' := hX
    obtain ⟨j, rfl, calm, room, _⟩ := hX'
    exact pe_call F (room.mono hk) hg hm kp bd .nil pass0 (ea hX) hdb (he _) (hpl _)
  · refine ⟨B1, as, s, x1.bh, by rw [List.append_nil]; exact r1, h, fun B' H' v x2 r2 => q B' H' v (x1.trans x2) (r2.base x1.hh)⟩
theorem all2_at {K : PySem.W.Frag} {B H : Hp} {vs : List V} {as : List Sl} (r : All2 (Shr K B) vs as) (n : Nat) (hb : Same B H) : Ok K B H B H (vs.map some ++ List.replicate n none) (as ++ List.replicate n .un) := by
  have sh : ∀ {i : Nat} {s : Sl}, (as ++ List.replicate n .un)[i]? = some s → s = .un ∨ ∃ v, vs[i]? = some v ∧ Shr K B v s := fun {i s} e => by
    by_cases hi : i < as.length
    · rw [List.getElem?_append_left hi] at e
      exact .inr (r.get e)
    · rw [List.getElem?_append_right (by omega), List.getElem?_replicate] at e
      split at e
      · exact .inl (Option.some.inj e).symm
      · cases e
  refine ⟨.refl hb, by simp [r.length], fun _ => [], fun i s e => ?_, fun i j s u q e1 e2 o1 o2 f1 f2 => (by cases f1)⟩
  rcases sh e with z | ⟨v, e1, r1⟩
  · exact .inl z
  · refine .inr ⟨v, ?_, ?_⟩
    · rw [List.getElem?_append_left (by rw [List.length_map]; exact lt_of_get e1), List.getElem?_map, e1]; rfl
    · cases s with
      | sh y => exact r1
      | un => exact r1.elim
      | ow y => exact r1.elim
/-- THE RULE for a def -/
theorem fn_T {P : Program} {w : World} {K : PySem.W.Frag} {mg : Str → Option Value} {base : Heap} {x qual : Str} {f : Addr} {fd : FuncData} {N ps : List Str} {k : Nat} {okf : List Sl → Sl → Prop} (F : Fun K x qual st f fd)
    (S : FnScope N ps (defScope st)) (len : ∀ as s, okf as s → as.length = ps.length)
    (body : ∀ as s, okf as s → SX ⟨P, w, K, mg, base, N, defScope st, fun _ => true, k, fun _ _ _ _ => False, true⟩ (defBody st) (as ++ List.replicate (N.length - as.length) .un) ⟨fun _ => s = .sh (), fun u => u = s, fun _ _ => False, fun _ _ => False⟩) : FnOk P w K mg base CX0 (k + 1) f fd ps (spT K okf) := by
  refine F.ok S (fun vs H Q E h => ?_) (fun cdv A outer s H vs Q E hr h => ?_)
  · obtain ⟨B, as, s, _, r, o, _⟩ := h
    rw [r.length]
    exact len as s o
  · obtain ⟨B, as, u, hb, r, o, q⟩ := h
    obtain ⟨t, ht, hq⟩ := body as u o B H B H (L2.start N vs) (by unfold L2.start; rw [r.length]; exact all2_at r _ hb) { nx := fun _ H' => Q .non H', rt := Q }
      ⟨fun B' H' σ τ ok e => q B' H' .non ok.ext (by rw [e]; rfl), fun B' H' v s x vo e => q B' H' v x (by rw [e] at vo; exact vo), fun _ _ _ _ _ _ _ _ e => e.elim, fun _ _ _ _ _ _ _ _ e => e.elim⟩
    exact ⟨t, ht _ ⟨(k, (fun _ _ _ _ => False), true), rfl, rfl, hr, PassesOwn.never, takes0, fun _ => ⟨rfl, rfl, rfl⟩⟩, hq⟩
end
end Ly

namespace Ly
open PySem PySem.Spec PyProof.Rows L2
open Py
section
variable {p : Par} {τ τ1 : List Sl} {R : Post} {st : Stmt} {sts rest : List Stmt} {e a b o : Expr} {es : List Expr} {pos : Pos}

/-! ### subscripts -/
/-- t[i], a tuple's field at a known place -/
theorem px_fld (k : Nat) {α : Type} [Py α] [Flds α] {x : α} {i : Int} {s : Sl} (ha : PX p a τ (.sh x)) (hb : PX p b τ (.sh i)) (hi : i = k) (hk : (Flds.fl x)[k]? = some s) (hp : PlainIx b) : PX p (.Subscript a b pos) τ s := fun B0 H0 B H σ ok Q q => by
  refine ⟨tOp (rIxT p.K) (EE p a) (EE p b), fun X hX => ?_, ?_⟩
  · have hX' := hX
    obtain ⟨k, rfl, _⟩ := hX'
    exact pe_ix ix_tup (ee hX) (ee hX) hp
  · refine ha B0 H0 B H σ ok _ fun B1 H1 v1 x1 r1 => ?_
    refine hb B0 H0 B1 H1 σ (ok.go x1) _ fun B2 H2 v2 x2 r2 => ?_
    obtain ⟨c, vs, e1, hc, r⟩ := Flds.ofr (show rep p.K B1 v1 x from r1)
    obtain ⟨v, hv, r3⟩ := r.get hk
    refine ⟨c, vs, i, v, e1, r2, .of (x2.hh _ _ (x1.bh _ _ hc)), by rw [hi]; exact atI_nat hv, q B2 H2 v (x1.trans x2) ?_⟩
    cases s with
    | sh y => exact Py.mono (.of x2.bb) r3
    | un => exact r3.elim
    | ow y => exact r3.elim
theorem fl_tup {α : Type} [Py α] {t : Tup α} {k : Nat} {x : α} (h : t.l[k]? = some x) : (Flds.fl t)[k]? = some (.sh x) := by
  show (t.l.map fun x => Sl.sh x)[k]? = _
  rw [List.getElem?_map, h]; rfl
/-- xs[i], a list -/
theorem px_ixL {α : Type} [Py α] {xs : List α} {i : Int} {y : α} (ha : PX p a τ (.sh xs)) (hb : PX p b τ (.sh i)) (hk : atI xs i = some y) (hp : PlainIx b) : PX p (.Subscript a b pos) τ (.sh y) := fun B0 H0 B H σ ok Q q => by
  refine ⟨tOp (rIxL p.K) (EE p a) (EE p b), fun X hX => ?_, ?_⟩
  · have hX' := hX
    obtain ⟨k, rfl, _⟩ := hX'
    exact pe_ix ix_list (ee hX) (ee hX) hp
  · refine ha B0 H0 B H σ ok _ fun B1 H1 v1 x1 r1 => ?_
    refine hb B0 H0 B1 H1 σ (ok.go x1) _ fun B2 H2 v2 x2 r2 => ?_
    obtain ⟨c, ob, e1, hc, vs, e2, r⟩ := r1
    subst e2
    have hc := hc.lst
    unfold atI at hk
    obtain ⟨j, hj, hk⟩ := Option.bind_eq_some_iff.mp hk
    obtain ⟨v, hv, r3⟩ := r.get hk
    refine ⟨c, vs, i, v, e1, r2, .of (x2.hh _ _ (x1.bh _ _ hc)), ?_, q B2 H2 v (x1.trans x2) (Py.mono (.of x2.bb) r3)⟩
    unfold atI
    rw [r.length, hj]
    exact hv
theorem px_ixTup {α : Type} [Py α] {xs : Tup α} {i : Int} {y : α} (ha : PX p a τ (.sh xs)) (hb : PX p b τ (.sh i)) (hk : atI xs.l i = some y) (hp : PlainIx b) : PX p (.Subscript a b pos) τ (.sh y) := fun B0 H0 B H σ ok Q q => by
  refine ⟨tOp (rIxT p.K) (EE p a) (EE p b), fun X hX => ?_, ?_⟩
  · have hX' := hX
    obtain ⟨k, rfl, _⟩ := hX'
    exact pe_ix ix_tup (ee hX) (ee hX) hp
  · refine ha B0 H0 B H σ ok _ fun B1 H1 v1 x1 r1 => ?_
    refine hb B0 H0 B1 H1 σ (ok.go x1) _ fun B2 H2 v2 x2 r2 => ?_
    obtain ⟨c, vs, e1, hc, r⟩ := r1
    unfold atI at hk
    obtain ⟨j, hj, hk⟩ := Option.bind_eq_some_iff.mp hk
    obtain ⟨v, hv, r3⟩ := r.get hk
    refine ⟨c, vs, i, v, e1, r2, .of (x2.hh _ _ (x1.bh _ _ hc)), ?_, q B2 H2 v (x1.trans x2) (Py.mono (.of x2.bb) r3)⟩
    unfold atI
    rw [r.length, hj]
    exact hv
/-- script[i] -/
theorem px_ixScr {xs : Scr} {i : Int} {y : Int} (ha : PX p a τ (.sh xs)) (hb : PX p b τ (.sh i)) (hk : atI xs.l i = some y) (hp : PlainIx b) : PX p (.Subscript a b pos) τ (.sh y) := fun B0 H0 B H σ ok Q q => by
  refine ⟨tOp (rIxL p.K) (EE p a) (EE p b), fun X hX => ?_, ?_⟩
  · have hX' := hX
    obtain ⟨k, rfl, _⟩ := hX'
    exact pe_ix ix_list (ee hX) (ee hX) hp
  · refine ha B0 H0 B H σ ok _ fun B1 H1 v1 x1 r1 => ?_
    refine hb B0 H0 B1 H1 σ (ok.go x1) _ fun B2 H2 v2 x2 r2 => ?_
    obtain ⟨c, e1, hc⟩ := r1
    refine ⟨c, _, i, .int y, e1, r2, (x1.bh.trans x2.hh).seq hc, ?_, q B2 H2 _ (x1.trans x2) rfl⟩
    unfold atI at hk ⊢
    obtain ⟨j, hj, hk⟩ := Option.bind_eq_some_iff.mp hk
    rw [List.length_map, hj]
    show (xs.l.map V.int)[j]? = _
    rw [List.getElem?_map, hk]; rfl
/-- one sign of a text -/
def sgn (c : Nat) : Str := ⟨#[c]⟩
theorem strOk_all {z : Str} : PySem.PyData.strOk z = true ↔ ∀ c ∈ z.cps.toList, c < 0x110000 := by
  unfold PySem.PyData.strOk
  rw [Array.all_eq_true_iff_forall_mem]
  constructor
  · intro h c hc
    have := h c (by simpa using hc)
    simpa using this
  · intro h c hc
    simpa using h c (by simpa using hc)
theorem atI_mem {α : Type} {xs : List α} {i : Int} {v : α} (h : atI xs i = some v) : v ∈ xs := by
  unfold atI at h
  obtain ⟨j, _, h⟩ := Option.bind_eq_some_iff.mp h
  exact List.mem_of_getElem? h
theorem sg_sgn {z : Str} {c : Nat} (h : SG z) (hc : c ∈ z.cps.toList) : SG (sgn c) := by
  refine ⟨strOk_all.mpr fun d hd => ?_, by show 1 ≤ sizeLine; decide⟩
  have e : d = c := by simpa [sgn] using hd
  rw [e]; exact strOk_all.mp h.1 c hc
theorem px_ixS {z : Str} {i : Int} {c : Nat} (ha : PX p a τ (.sh z)) (hb : PX p b τ (.sh i)) (hk : atI z.cps.toList i = some c) (hp : PlainIx b) : PX p (.Subscript a b pos) τ (.sh (sgn c)) := fun B0 H0 B H σ ok Q q => by
  refine ⟨tOp rIxS (EE p a) (EE p b), fun X hX => pe_ix ix_str (ee hX) (ee hX) hp, ?_⟩
  refine ha B0 H0 B H σ ok _ fun B1 H1 v1 x1 r1 => ?_
  refine hb B0 H0 B1 H1 σ (ok.go x1) _ fun B2 H2 v2 x2 r2 => ?_
  exact ⟨z, i, c, r1.1, r2, r1.2.2, hk, q B2 H2 _ (x1.trans x2) ⟨rfl, sg_sgn r1.2 (atI_mem hk)⟩⟩

/-! ### built-in functions of one value, of two -/
theorem px_b1 {α : Type} [Py α] {x : α} {s : Sl} {f : Str} {id : String} {pp : Pos} {r : List V → Hp → VK → Prop} (hc : ∀ X, p.In X → CallR X (.builtin id) r) (hg : p.sc.names.lookup f = some .globalImplicit) (hm : p.mg f = none) (hv : bootBuiltins f = some (.builtin id))
    (ha : PX p e τ (.sh x)) (h : ∀ B H v Q, Same B H → rep p.K B v x → (∀ B' H' z, Ext B H B' H' → Vok p.K B' H' H z s → Q z H') → r [v] H Q) (hn : f ≠ "__name__") (hdb : (f == ("__debug__" : Str)) = false)
    (he : ∀ env, starEach [e] env = [(false, eval e env)] := by intro _; rfl) : PX p (.Call (.Name f pp) [e] [] pos) τ s := fun B0 H0 B H σ ok Q q => by
  refine ⟨tCB r (tCons (EE p e) tNil), fun X hX => ?_, ha B0 H0 B H σ ok _ fun B1 H1 v x1 r1 => h B1 H1 v Q x1.bh r1 fun B' H' z x2 r2 => q B' H' z (x1.trans x2) (r2.base x1.hh)⟩
  have hX' := hX
  obtain ⟨k, rfl, _⟩ := hX'
  exact pe_callB (hc X hX) hg hm hv (pa_cons (ee hX) pa_nil (he _)) hn hdb (he _) rfl
theorem px_t1 {α : Type} [Py α] {x : α} {s : Sl} {f : Str} {id : String} {pp : Pos} {r : List V → Hp → VK → Prop} (hc : ∀ X, p.In X → CallR X (.type id) r) (hg : p.sc.names.lookup f = some .globalImplicit) (hm : p.mg f = none) (hv : bootBuiltins f = some (.type id))
    (ha : PX p e τ (.sh x)) (h : ∀ B H v Q, Same B H → rep p.K B v x → (∀ B' H' z, Ext B H B' H' → Vok p.K B' H' H z s → Q z H') → r [v] H Q) (hn : f ≠ "__name__") (hdb : (f == ("__debug__" : Str)) = false)
    (he : ∀ env, starEach [e] env = [(false, eval e env)] := by intro _; rfl) : PX p (.Call (.Name f pp) [e] [] pos) τ s := fun B0 H0 B H σ ok Q q => by
  refine ⟨tCB r (tCons (EE p e) tNil), fun X hX => ?_, ha B0 H0 B H σ ok _ fun B1 H1 v x1 r1 => h B1 H1 v Q x1.bh r1 fun B' H' z x2 r2 => q B' H' z (x1.trans x2) (r2.base x1.hh)⟩
  have hX' := hX
  obtain ⟨k, rfl, _⟩ := hX'
  exact pe_callTy (hc X hX) hg hm hv (pa_cons (ee hX) pa_nil (he _)) hn hdb (he _) rfl
theorem px_b2 {α β : Type} [Py α] [Py β] {x : α} {y : β} {s : Sl} {f : Str} {id : String} {pp : Pos} {r : List V → Hp → VK → Prop} (hc : ∀ X, p.In X → CallR X (.builtin id) r) (hg : p.sc.names.lookup f = some .globalImplicit) (hm : p.mg f = none) (hv : bootBuiltins f = some (.builtin id))
    (ha : PX p a τ (.sh x)) (hb : PX p b τ (.sh y)) (h : ∀ B H v u Q, Same B H → rep p.K B v x → rep p.K B u y → (∀ B' H' z, Ext B H B' H' → Vok p.K B' H' H z s → Q z H') → r [v, u] H Q) (hn : f ≠ "__name__") (hdb : (f == ("__debug__" : Str)) = false)
    (he : ∀ env, starEach [a, b] env = [(false, eval a env), (false, eval b env)] := by intro _; rfl) (he2 : ∀ env, starEach [b] env = [(false, eval b env)] := by intro _; rfl) : PX p (.Call (.Name f pp) [a, b] [] pos) τ s := fun B0 H0 B H σ ok Q q => by
  refine ⟨tCB r (tCons (EE p a) (tCons (EE p b) tNil)), fun X hX => ?_, ha B0 H0 B H σ ok _ fun B1 H1 v x1 r1 => hb B0 H0 B1 H1 σ (ok.go x1) _ fun B2 H2 u x2 r2 =>
    h B2 H2 v u Q x2.bh (Py.mono (.of x2.bb) r1) r2 fun B' H' z x3 r3 => q B' H' z ((x1.trans x2).trans x3) (r3.base (x1.trans x2).hh)⟩
  have hX' := hX
  obtain ⟨k, rfl, _⟩ := hX'
  exact pe_callB (hc X hX) hg hm hv (pa_cons (ee hX) (pa_cons (ee hX) pa_nil (he2 _)) (by rw [he, he2])) hn hdb (by rw [he, he2]) (by rw [he2]; rfl)
/-- things that have a length -/
class Len (α : Type) [Py α] where
  len : α → Nat
  isl : ∀ {K : PySem.W.Frag} {B H : Hp} {v : V} {x : α}, Same B H → rep K B v x → (∃ q ys, v = .ref q ∧ (SqL K H q ys ∨ SqT K H q ys) ∧ ys.length = len x) ∨ (∃ z, v = .str z ∧ z.length ≤ sizeLine ∧ z.length = len x)
instance {α : Type} [Py α] : Len (List α) := ⟨List.length, fun {K B H v x} s r => by
  obtain ⟨q, o, e, h, vs, e2, r⟩ := r
  subst e2
  exact .inl ⟨q, vs, e, .inl (.of (s _ _ h.lst)), r.length⟩⟩
instance {α : Type} [Py α] : Len (Tup α) := ⟨fun t => t.l.length, fun {K B H v x} s r => by
  obtain ⟨q, vs, e, h, r⟩ := r
  exact .inl ⟨q, vs, e, .inr (.of (s _ _ h)), r.length⟩⟩
instance : Len Str := ⟨Str.length, fun {K B H v x} s r => .inr ⟨x, r.1, r.2.2, rfl⟩⟩
instance : Len Scr := ⟨fun t => t.l.length, fun {K B H v x} s r => by
  obtain ⟨q, e, h⟩ := r
  exact .inl ⟨q, _, e, .inl (s.seq h), by rw [List.length_map]⟩⟩
instance {α β : Type} [Py α] [Py β] : Len (α × β) := ⟨fun _ => 2, fun {K B H v x} s r => by
  obtain ⟨q, x, y, e, h, _⟩ := r
  exact .inl ⟨q, _, e, .inr (.of (s _ _ h)), rfl⟩⟩
instance {α β γ δ : Type} [Py α] [Py β] [Py γ] [Py δ] : Len (T4 α β γ δ) := ⟨fun _ => 4, fun {K B H v x} s r => by
  obtain ⟨q, x, y, z, u, e, h, _⟩ := r
  exact .inl ⟨q, _, e, .inr (.of (s _ _ h)), rfl⟩⟩
theorem px_len {α : Type} [Py α] [Len α] {x : α} {pp : Pos} (hg : p.sc.names.lookup ("len" : Str) = some .globalImplicit) (hm : p.mg "len" = none) (ha : PX p e τ (.sh x)) (he : ∀ env, starEach [e] env = [(false, eval e env)] := by intro _; rfl) :
    PX p (.Call (.Name "len" pp) [e] [] pos) τ (.sh ((Len.len x : Nat) : Int)) :=
  px_b1 (r := fun xs H Q => (∃ q ys, xs = [.ref q] ∧ (SqL p.K H q ys ∨ SqT p.K H q ys) ∧ Q (.int ys.length) H) ∨ ∃ z, xs = [.str z] ∧ z.length ≤ sizeLine ∧ Q (.int z.length) H) (fun X hX => by obtain ⟨k, rfl, _⟩ := hX; exact call_len_seq.or call_len_str) hg hm PySem.boot_len ha (fun B H v Q s r q => by
    rcases Len.isl s r with ⟨c, ys, e, h, l⟩ | ⟨z, e, hz, l⟩
    · exact .inl ⟨c, ys, by rw [e], h, q B H _ (.refl s) (by rw [l]; rfl)⟩
    · exact .inr ⟨z, by rw [e], hz, q B H _ (.refl s) (by rw [l]; rfl)⟩) (by decide) (by decide) he
theorem px_min {i j : Int} {pp : Pos} (hg : p.sc.names.lookup ("min" : Str) = some .globalImplicit) (hm : p.mg "min" = none) (hv : bootBuiltins "min" = some (.builtin "min")) (ha : PX p a τ (.sh i)) (hb : PX p b τ (.sh j))
    (he : ∀ env, starEach [a, b] env = [(false, eval a env), (false, eval b env)] := by intro _; rfl) (he2 : ∀ env, starEach [b] env = [(false, eval b env)] := by intro _; rfl) : PX p (.Call (.Name "min" pp) [a, b] [] pos) τ (.sh (if j < i then j else i)) :=
  px_b2 (fun X hX => call_min2 (by obtain ⟨k, rfl, c, _⟩ := hX; exact c)) hg hm hv ha hb (fun B H v u Q s r1 r2 q => ⟨i, j, by rw [show v = .int i from r1, show u = .int j from r2], q B H _ (.refl s) rfl⟩) (by decide) (by decide) he he2
theorem px_max {i j : Int} {pp : Pos} (hg : p.sc.names.lookup ("max" : Str) = some .globalImplicit) (hm : p.mg "max" = none) (hv : bootBuiltins "max" = some (.builtin "max")) (ha : PX p a τ (.sh i)) (hb : PX p b τ (.sh j))
    (he : ∀ env, starEach [a, b] env = [(false, eval a env), (false, eval b env)] := by intro _; rfl) (he2 : ∀ env, starEach [b] env = [(false, eval b env)] := by intro _; rfl) : PX p (.Call (.Name "max" pp) [a, b] [] pos) τ (.sh (if j > i then j else i)) :=
  px_b2 (fun X hX => call_max2 (by obtain ⟨k, rfl, c, _⟩ := hX; exact c)) hg hm hv ha hb (fun B H v u Q s r1 r2 q => ⟨i, j, by rw [show v = .int i from r1, show u = .int j from r2], q B H _ (.refl s) rfl⟩) (by decide) (by decide) he he2
theorem px_intB {c : Bool} {pp : Pos} (hg : p.sc.names.lookup ("int" : Str) = some .globalImplicit) (hm : p.mg "int" = none) (hv : bootBuiltins "int" = some (.type "int")) (ha : PX p e τ (.sh c)) (he : ∀ env, starEach [e] env = [(false, eval e env)] := by intro _; rfl) :
    PX p (.Call (.Name "int" pp) [e] [] pos) τ (.sh (if c then (1 : Int) else 0)) :=
  px_t1 (fun _ _ => call_int1) hg hm hv ha (fun B H v Q s r q => .inr ⟨c, by rw [show v = .bl c from r], q B H _ (.refl s) rfl⟩) (by decide) (by decide) he
/-- list(xs), tuple(xs) -/
class Seqn (α : Type) (β : outParam Type) [Py α] [Py β] where
  sq : α → List β
  iss : ∀ {K : PySem.W.Frag} {B H : Hp} {v : V} {x : α}, Same B H → rep K B v x → ∃ q ys, v = .ref q ∧ (SqL K H q ys ∨ SqT K H q ys) ∧ All2 (rep K B) ys (sq x)
instance {α : Type} [Py α] : Seqn (List α) α := ⟨id, fun {K B H v x} s r => by
  obtain ⟨q, o, e, h, vs, e2, r⟩ := r
  subst e2
  exact ⟨q, vs, e, .inl (.of (s _ _ h.lst)), r⟩⟩
instance {α : Type} [Py α] : Seqn (Tup α) α := ⟨Tup.l, fun {K B H v x} s r => by
  obtain ⟨q, vs, e, h, r⟩ := r
  exact ⟨q, vs, e, .inr (.of (s _ _ h)), r⟩⟩
theorem px_list {α β : Type} [Py α] [Py β] [Seqn α β] {x : α} {pp : Pos} (hg : p.sc.names.lookup ("list" : Str) = some .globalImplicit) (hm : p.mg "list" = none) (hv : bootBuiltins "list" = some (.type "list")) (ha : PX p e τ (.sh x)) (he : ∀ env, starEach [e] env = [(false, eval e env)] := by intro _; rfl) :
    PX p (.Call (.Name "list" pp) [e] [] pos) τ (.ow (Seqn.sq x)) :=
  px_t1 (r := fun xs H Q => ∃ c ys, xs = [.ref c] ∧ (SqL p.K H c ys ∨ SqT p.K H c ys) ∧ ∀ l, H l = none → Q (.ref l) (upd H l (.lst ys))) (fun X hX => by obtain ⟨k, rfl, _⟩ := hX; exact call_list_of) hg hm hv ha (fun B H v Q s r q => by
    obtain ⟨c, ys, e, h, r2⟩ := Seqn.iss s r
    refine ⟨c, ys, by rw [e], h, fun l hl => q B _ _ (Ext.made s hl) (vow ⟨l, .lst ys, rfl, hl, ?_, upd_same, ys, rfl, r2⟩)⟩
    exact s.free hl) (by decide) (by decide) he
theorem px_tuple {α : Type} [Py α] {x : List α} {pp : Pos} (hg : p.sc.names.lookup ("tuple" : Str) = some .globalImplicit) (hm : p.mg "tuple" = none) (hv : bootBuiltins "tuple" = some (.type "tuple")) (ha : PX p e τ (.sh x)) (he : ∀ env, starEach [e] env = [(false, eval e env)] := by intro _; rfl) :
    PX p (.Call (.Name "tuple" pp) [e] [] pos) τ (.sh (Tup.mk x)) :=
  px_t1 (r := fun xs H Q => ∃ c ys, xs = [.ref c] ∧ ((SqL p.K H c ys ∧ ∀ l, H l = none → Q (.ref l) (upd H l (.tup ys))) ∨ (SqT p.K H c ys ∧ Q (.ref c) H))) (fun X hX => by obtain ⟨k, rfl, _⟩ := hX; exact call_tuple_of) hg hm hv ha (fun B H v Q s r q => by
    obtain ⟨c, o, e, h, ys, e2, r2⟩ := r
    subst e2
    refine ⟨c, ys, by rw [e], .inl ⟨.of (s _ _ h.lst), fun l hl => ?_⟩⟩
    have x2 := Ext.laid (o := .tup ys) s hl
    exact q _ _ _ x2 ⟨l, ys, rfl, upd_same, r2.imp fun _ _ q => Py.mono (.of x2.bb) q⟩) (by decide) (by decide) he

/-! ### isinstance -/
class Ty (α : Type) [Py α] where
  tn : α → String
  tyx : ∀ {K : PySem.W.Frag} {B H : Hp} {v : V} {x : α}, Same B H → rep K B v x → TyX K H v (.type (tn x))
instance : Ty Int := ⟨fun _ => "int", fun {K B H v x} _ r => by rw [show v = .int x from r]; exact .base (.int _)⟩
instance : Ty Bool := ⟨fun _ => "bool", fun {K B H v x} _ r => by rw [show v = .bl x from r]; exact .base (.bl _)⟩
instance : Ty Str := ⟨fun _ => "str", fun {K B H v x} _ r => by rw [show v = .str x from r.1]; exact .base (.str _)⟩
instance : Ty Unit := ⟨fun _ => "NoneType", fun {K B H v x} _ r => by rw [show v = .non from r]; exact .base .non⟩
instance {α : Type} [Py α] [Ty α] : Ty (Option α) := ⟨fun o => match o with | none => "NoneType" | some a => Ty.tn a, fun {K B H v x} s r => by
  cases x with
  | none => rw [show v = .non from r]; exact .base .non
  | some a => exact Ty.tyx s (show rep K B v a from r)⟩
instance {α : Type} [Py α] : Ty (List α) := ⟨fun _ => "list", fun {K B H v x} s r => by
  obtain ⟨q, o, e, h, vs, e2, r⟩ := r
  subst e e2
  exact .base (.lst (s _ _ h.lst))⟩
instance {α : Type} [Py α] : Ty (Tup α) := ⟨fun _ => "tuple", fun s ⟨q, vs, e, h, r⟩ => e ▸ .base (.tup (s _ _ h))⟩
instance {α β : Type} [Py α] [Py β] : Ty (α × β) := ⟨fun _ => "tuple", fun s ⟨q, x, y, e, h, _⟩ => e ▸ .base (.tup (s _ _ h))⟩
instance {α : Type} [Py α] : Ty (T1 α) := ⟨fun _ => "tuple", fun s ⟨q, x, e, h, _⟩ => e ▸ .base (.tup (s _ _ h))⟩
instance {α β γ : Type} [Py α] [Py β] [Py γ] : Ty (T3 α β γ) := ⟨fun _ => "tuple", fun s ⟨q, x, y, z, e, h, _⟩ => e ▸ .base (.tup (s _ _ h))⟩
instance {α β γ δ : Type} [Py α] [Py β] [Py γ] [Py δ] : Ty (T4 α β γ δ) := ⟨fun _ => "tuple", fun s ⟨q, x, y, z, u, e, h, _⟩ => e ▸ .base (.tup (s _ _ h))⟩
instance {α β γ δ ε : Type} [Py α] [Py β] [Py γ] [Py δ] [Py ε] : Ty (T5 α β γ δ ε) := ⟨fun _ => "tuple", fun s ⟨q, x, y, z, u, w, e, h, _⟩ => e ▸ .base (.tup (s _ _ h))⟩
/-- isinstance(e, T), T a built-in type by its name -/
theorem px_isi {α : Type} [Py α] [Ty α] {x : α} {pp pT : Pos} {f : Str} {T : String} {c : Bool} (hg : p.sc.names.lookup ("isinstance" : Str) = some .globalImplicit) (hm : p.mg "isinstance" = none) (hv : bootBuiltins "isinstance" = some (.builtin "isinstance"))
    (hgT : p.sc.names.lookup f = some .globalImplicit) (hmT : p.mg f = none) (hvT : bootBuiltins f = some (.type T)) (ha : PX p e τ (.sh x)) (hk : kitB (Ty.tn x) T = some c) (hn : f ≠ "__name__") (hdb : (f == ("__debug__" : Str)) = false)
    (he : ∀ env, starEach [e, .Name f pT] env = [(false, eval e env), (false, eval (.Name f pT) env)] := by intro _; rfl) : PX p (.Call (.Name "isinstance" pp) [e, .Name f pT] [] pos) τ (.sh c) := fun B0 H0 B H σ ok Q q => by
  refine ⟨tCB (rIsi p.K) (tCons (EE p e) (tCons (tC (.ty T)) tNil)), fun X hX => ?_, ha B0 H0 B H σ ok _ fun B1 H1 v x1 r1 => ⟨v, .ty T, _, .type T, c, rfl, .ty T, Ty.tyx x1.bh r1, kit_ty hk, q B1 H1 _ x1 rfl⟩⟩
  have hX' := hX
  obtain ⟨k, rfl, _⟩ := hX'
  exact pe_callB call_isi hg hm hv (pa_cons (ee hX) (pa_cons (pe_bltn hgT hmT hvT rfl hn hdb) pa_nil rfl) (he _)) (by decide) (by decide) (he _) rfl

/-! ### == and != of data -/
class PyEq (α : Type) [Py α] where
  dat : α → PyData
  dp : ∀ {K : PySem.W.Frag} {B H : Hp} {v : V} {x : α}, Same B H → rep K B v x → Dp K H v (dat x)
  can : ∀ {K : PySem.W.Frag} {B : Hp} {v : V} {x : α}, rep K B v x → (dat x).canLay0 = true
  d : Nat
  dep : ∀ x : α, (dat x).depth ≤ d
  eqv : ∀ x y : α, PyData.eqv (dat x) (dat y) = true ↔ x = y
theorem dec_eqv {α : Type} [Py α] [PyEq α] [DecidableEq α] (x y : α) : PyData.eqv (PyEq.dat x) (PyEq.dat y) = decide (x = y) := by
  rw [Bool.eq_iff_iff, PyEq.eqv, decide_eq_true_iff]
instance : PyEq Int := ⟨.int, fun {K B H v x} _ r => by rw [show v = .int x from r]; exact .int _, fun _ => rfl, 0, fun _ => Nat.le_refl _, fun x y => by simp [PyData.eqv]⟩
instance : PyEq Bool := ⟨.bool, fun {K B H v x} _ r => by rw [show v = .bl x from r]; exact .bl _, fun _ => rfl, 0, fun _ => Nat.le_refl _, fun x y => by simp [PyData.eqv]⟩
instance : PyEq Str := ⟨.str, fun {K B H v x} _ r => by rw [show v = .str x from r.1]; exact .str _, fun r => r.2.1, 0, fun _ => Nat.le_refl _, fun x y => by simp [PyData.eqv]⟩
instance : PyEq Unit := ⟨fun _ => .none, fun {K B H v x} _ r => by rw [show v = .non from r]; exact .non, fun _ => rfl, 0, fun _ => Nat.le_refl _, fun x y => by simp [PyData.eqv]⟩
/-- never None as data -/
class NoD (α : Type) [Py α] [PyEq α] : Prop where
  no : ∀ x : α, PyEq.dat x ≠ .none
instance : NoD Int := ⟨fun _ z => by cases z⟩
instance : NoD Str := ⟨fun _ z => by cases z⟩
instance : NoD Bool := ⟨fun _ z => by cases z⟩
theorem eqv_none {d : PyData} (h : d ≠ .none) : PyData.eqv .none d = false ∧ PyData.eqv d .none = false := by
  cases d <;> simp [PyData.eqv] <;> exact absurd rfl h
instance {α : Type} [Py α] [PyEq α] [NoD α] : PyEq (Option α) := ⟨fun o => match o with | none => .none | some a => PyEq.dat a, fun {K B H v x} s r => by
    cases x with
    | none => rw [show v = .non from r]; exact .non
    | some a => exact PyEq.dp s (show rep K B v a from r), fun {K B v x} r => by
    cases x with
    | none => rfl
    | some a => exact PyEq.can (show rep K B v a from r), PyEq.d α, fun x => by
    cases x with
    | none => exact Nat.zero_le _
    | some a => exact PyEq.dep a, fun x y => by
    cases x with
    | none => cases y with
      | none => simp [PyData.eqv]
      | some b => simp [(eqv_none (NoD.no b)).1]
    | some a => cases y with
      | none => simp [(eqv_none (NoD.no a)).2]
      | some b => simp [PyEq.eqv]⟩
theorem dpAll {α : Type} [Py α] [PyEq α] {K : PySem.W.Frag} {B H : Hp} (s : Same B H) : ∀ {vs : List V} {xs : List α}, All2 (rep K B) vs xs → DpAll K H vs (xs.map PyEq.dat)
  | _, _, .nil => .nil
  | _, _, .cons r t => .cons (PyEq.dp s r) (dpAll s t)
theorem canAll {α : Type} [Py α] [PyEq α] {K : PySem.W.Frag} {B : Hp} : ∀ {vs : List V} {xs : List α}, All2 (rep K B) vs xs → PyData.canLayAll0 (xs.map PyEq.dat) = true
  | _, _, .nil => rfl
  | _, _, .cons r t => by rw [List.map_cons, PyData.canLayAll0, PyEq.can r, canAll t]; rfl
theorem depAll {α : Type} [Py α] [PyEq α] : ∀ xs : List α, PyData.depthAll (xs.map PyEq.dat) ≤ PyEq.d α
  | [] => Nat.zero_le _
  | x :: r => by rw [List.map_cons, PyData.depthAll]; exact Nat.max_le.mpr ⟨PyEq.dep x, depAll r⟩
theorem eqvAll_iff {α : Type} [Py α] [PyEq α] : ∀ xs ys : List α, PyData.eqvAll (xs.map PyEq.dat) (ys.map PyEq.dat) = true ↔ xs = ys
  | [], [] => by simp [PyData.eqvAll]
  | [], _ :: _ => by simp [PyData.eqvAll]
  | _ :: _, [] => by simp [PyData.eqvAll]
  | x :: xs, y :: ys => by rw [List.map_cons, List.map_cons, PyData.eqvAll, Bool.and_eq_true, PyEq.eqv, eqvAll_iff xs ys, List.cons.injEq]
section
variable {α β γ δ ε : Type} [Py α] [Py β] [Py γ] [Py δ] [Py ε] [PyEq α] [PyEq β] [PyEq γ] [PyEq δ] [PyEq ε]
instance : PyEq (List α) := ⟨fun xs => .list (xs.map PyEq.dat), fun {K B H v x} s r => by
    obtain ⟨q, o, e, h, vs, e2, r⟩ := r
    subst e e2
    exact .lst (.of (s _ _ h.lst)) (dpAll s r), fun {K B v x} r => by
    obtain ⟨q, o, e, h, vs, e2, r⟩ := r
    show PyData.canLayAll0 _ = true
    exact canAll r, PyEq.d α + 1, fun x => Nat.succ_le_succ (depAll x), fun x y => by show PyData.eqvAll _ _ = true ↔ _; exact eqvAll_iff x y⟩
instance : PyEq (Tup α) := ⟨fun xs => .tuple (xs.l.map PyEq.dat), fun {K B H v x} s ⟨q, vs, e, h, r⟩ => e ▸ .tup (.of (s _ _ h)) (dpAll s r), fun {K B v x} ⟨q, vs, e, h, r⟩ => canAll r,
  PyEq.d α + 1, fun x => Nat.succ_le_succ (depAll x.l), fun x y => by show PyData.eqvAll _ _ = true ↔ _; rw [eqvAll_iff]; cases x; cases y; simp⟩
instance : PyEq (T1 α) := ⟨fun t => .tuple [PyEq.dat t.a], fun s ⟨q, x, e, h, r⟩ => e ▸ .tup (.of (s _ _ h)) (.cons (PyEq.dp s r) .nil),
  fun ⟨q, x, e, h, r⟩ => by simp [PyData.canLay0, PyData.canLayAll0, PyEq.can r], PyEq.d α + 1, fun x => by
    show PyData.depthAll [_] + 1 ≤ _
    have := PyEq.dep x.a
    simp only [PyData.depthAll]; omega, fun x y => by cases x; cases y; simp [PyData.eqv, PyData.eqvAll, PyEq.eqv]⟩
instance : PyEq (α × β) := ⟨fun t => .tuple [PyEq.dat t.1, PyEq.dat t.2], fun s ⟨q, x, y, e, h, r, r2⟩ => e ▸ .tup (.of (s _ _ h)) (.cons (PyEq.dp s r) (.cons (PyEq.dp s r2) .nil)),
  fun ⟨q, x, y, e, h, r, r2⟩ => by simp [PyData.canLay0, PyData.canLayAll0, PyEq.can r, PyEq.can r2], max (PyEq.d α) (PyEq.d β) + 1, fun x => by
    show PyData.depthAll [_, _] + 1 ≤ _
    have h1 := PyEq.dep x.1
    have h2 := PyEq.dep x.2
    simp only [PyData.depthAll]; omega, fun x y => by cases x; cases y; simp [PyData.eqv, PyData.eqvAll, PyEq.eqv]⟩
instance : PyEq (T3 α β γ) := ⟨fun t => .tuple [PyEq.dat t.a, PyEq.dat t.b, PyEq.dat t.c], fun s ⟨q, x, y, z, e, h, r, r2, r3⟩ => e ▸ .tup (.of (s _ _ h)) (.cons (PyEq.dp s r) (.cons (PyEq.dp s r2) (.cons (PyEq.dp s r3) .nil))),
  fun ⟨q, x, y, z, e, h, r, r2, r3⟩ => by simp [PyData.canLay0, PyData.canLayAll0, PyEq.can r, PyEq.can r2, PyEq.can r3], max (PyEq.d α) (max (PyEq.d β) (PyEq.d γ)) + 1, fun x => by
    show PyData.depthAll [_, _, _] + 1 ≤ _
    have h1 := PyEq.dep x.a
    have h2 := PyEq.dep x.b
    have h3 := PyEq.dep x.c
    simp only [PyData.depthAll]; omega, fun x y => by cases x; cases y; simp [PyData.eqv, PyData.eqvAll, PyEq.eqv]⟩
instance : PyEq (T4 α β γ δ) := ⟨fun t => .tuple [PyEq.dat t.a, PyEq.dat t.b, PyEq.dat t.c, PyEq.dat t.d], fun s ⟨q, x, y, z, u, e, h, r, r2, r3, r4⟩ => e ▸ .tup (.of (s _ _ h)) (.cons (PyEq.dp s r) (.cons (PyEq.dp s r2) (.cons (PyEq.dp s r3) (.cons (PyEq.dp s r4) .nil)))),
  fun ⟨q, x, y, z, u, e, h, r, r2, r3, r4⟩ => by simp [PyData.canLay0, PyData.canLayAll0, PyEq.can r, PyEq.can r2, PyEq.can r3, PyEq.can r4], max (PyEq.d α) (max (PyEq.d β) (max (PyEq.d γ) (PyEq.d δ))) + 1, fun x => by
    show PyData.depthAll [_, _, _, _] + 1 ≤ _
    have h1 := PyEq.dep x.a
    have h2 := PyEq.dep x.b
    have h3 := PyEq.dep x.c
    have h4 := PyEq.dep x.d
    simp only [PyData.depthAll]; omega, fun x y => by cases x; cases y; simp [PyData.eqv, PyData.eqvAll, PyEq.eqv]⟩
instance : PyEq (T5 α β γ δ ε) := ⟨fun t => .tuple [PyEq.dat t.a, PyEq.dat t.b, PyEq.dat t.c, PyEq.dat t.d, PyEq.dat t.e], fun s ⟨q, x, y, z, u, w, e, h, r, r2, r3, r4, r5⟩ => e ▸ .tup (.of (s _ _ h)) (.cons (PyEq.dp s r) (.cons (PyEq.dp s r2) (.cons (PyEq.dp s r3) (.cons (PyEq.dp s r4) (.cons (PyEq.dp s r5) .nil))))),
  fun ⟨q, x, y, z, u, w, e, h, r, r2, r3, r4, r5⟩ => by simp [PyData.canLay0, PyData.canLayAll0, PyEq.can r, PyEq.can r2, PyEq.can r3, PyEq.can r4, PyEq.can r5], max (PyEq.d α) (max (PyEq.d β) (max (PyEq.d γ) (max (PyEq.d δ) (PyEq.d ε)))) + 1, fun x => by
    show PyData.depthAll [_, _, _, _, _] + 1 ≤ _
    have h1 := PyEq.dep x.a
    have h2 := PyEq.dep x.b
    have h3 := PyEq.dep x.c
    have h4 := PyEq.dep x.d
    have h5 := PyEq.dep x.e
    simp only [PyData.depthAll]; omega, fun x y => by cases x; cases y; simp [PyData.eqv, PyData.eqvAll, PyEq.eqv]⟩
instance : NoD (List α) := ⟨fun _ z => by cases z⟩
instance : NoD (Tup α) := ⟨fun _ z => by cases z⟩
instance : NoD (T1 α) := ⟨fun _ z => by cases z⟩
instance : NoD (α × β) := ⟨fun _ z => by cases z⟩
instance : NoD (T3 α β γ) := ⟨fun _ z => by cases z⟩
instance : NoD (T4 α β γ δ) := ⟨fun _ z => by cases z⟩
instance : NoD (T5 α β γ δ ε) := ⟨fun _ z => by cases z⟩
theorem shaped_of {K : PySem.W.Frag} {B : Hp} {v : V} {x : α} (r : rep K B v x) (h : PyEq.d α ≤ 64) : SeqAt.shaped (PyEq.dat x) = true := by
  unfold SeqAt.shaped
  rw [PyEq.can r, decide_eq_true (Nat.le_trans (PyEq.dep x) h)]
  rfl
theorem c_eqD [DecidableEq α] {x y : α} (h : PyEq.d α ≤ 64) : Cmp2 p .Eq x y (decide (x = y)) := ⟨rEqD p.K, fun X hX => by obtain ⟨k, rfl, _, room, _⟩ := hX; exact op_eqD room.units,
  fun B H v u Q s r1 r2 q => ⟨_, _, PyEq.dp s r1, PyEq.dp s r2, shaped_of r1 h, shaped_of r2 h, by rw [dec_eqv]; exact q⟩⟩
theorem c_neD [DecidableEq α] {x y : α} (h : PyEq.d α ≤ 64) : Cmp2 p .NotEq x y (!decide (x = y)) := ⟨rNeD p.K, fun X hX => by obtain ⟨k, rfl, _, room, _⟩ := hX; exact op_neD room.units,
  fun B H v u Q s r1 r2 q => ⟨_, _, PyEq.dp s r1, PyEq.dp s r2, shaped_of r1 h, shaped_of r2 h, by rw [dec_eqv]; exact q⟩⟩
end

/-! ### walks -/
theorem items_at {α : Type} [Py α] {xs : List α} {i : Nat} {s : Sl} (h : (xs.map fun x => Sl.sh x)[i]? = some s) : ∃ x, xs[i]? = some x ∧ s = .sh x := by
  rw [List.getElem?_map] at h
  obtain ⟨x, e, h⟩ := Option.map_eq_some_iff.mp h
  exact ⟨x, e, h.symm⟩
theorem ix_list {α : Type} [Py α] {xs : List α} {tg : Expr} (h : PX p e τ (.sh xs)) : IX p tg e τ (xs.map fun x => .sh x) := fun B0 H0 B H σ ok R q => by
  refine ⟨iList p.K (EE p e), fun X hX => ?_, h B0 H0 B H σ ok _ fun B1 H1 v x1 r1 => ?_⟩
  · have hX' := hX
    obtain ⟨k, rfl, _⟩ := hX'
    exact pi_list (ee hX)
  · obtain ⟨c, ob, e1, hc, vs, e2, r⟩ := r1
    subst e2
    have hc := hc.lst
    refine ⟨c, e1, ⟨vs, .of (x1.bh _ _ hc)⟩, q B1 H1 _ x1 fun B2 H2 s1 s2 => ⟨fun i s hi => ?_, vs, .of (s2 _ _ (s1 _ _ hc)), by rw [List.length_map, r.length]; exact Nat.le_refl _⟩⟩
    obtain ⟨x, hx, rfl⟩ := items_at hi
    obtain ⟨v, hv, rv⟩ := r.get hx
    refine ⟨⟨vs, v, .of (s2 _ _ (s1 _ _ hc)), hv⟩, fun y H' hy => ⟨B2, ?_, ?_⟩⟩
    · rw [hy.1]; exact .refl s2
    · rw [show y = v from Option.some.inj ((hy.2 vs (.of (s2 _ _ (s1 _ _ hc)))).symm.trans hv)]
      exact Py.mono (.of s1) rv
theorem ix_tup {α : Type} [Py α] {xs : Tup α} {tg : Expr} (h : PX p e τ (.sh xs)) : IX p tg e τ (xs.l.map fun x => .sh x) := fun B0 H0 B H σ ok R q => by
  refine ⟨iTup p.K (EE p e), fun X hX => ?_, h B0 H0 B H σ ok _ fun B1 H1 v x1 r1 => ?_⟩
  · have hX' := hX
    obtain ⟨k, rfl, _⟩ := hX'
    exact pi_tup (ee hX)
  · obtain ⟨c, vs, e1, hc, r⟩ := r1
    refine ⟨c, e1, ⟨vs, .of (x1.bh _ _ hc)⟩, q B1 H1 _ x1 fun B2 H2 s1 s2 => ⟨fun i s hi => ?_, vs, .of (s2 _ _ (s1 _ _ hc)), by rw [List.length_map, r.length]; exact Nat.le_refl _⟩⟩
    obtain ⟨x, hx, rfl⟩ := items_at hi
    obtain ⟨v, hv, rv⟩ := r.get hx
    refine ⟨⟨vs, v, .of (s2 _ _ (s1 _ _ hc)), hv⟩, fun y H' hy => ⟨B2, ?_, ?_⟩⟩
    · rw [hy.1]; exact .refl s2
    · rw [show y = v from Option.some.inj ((hy.2 vs (.of (s2 _ _ (s1 _ _ hc)))).symm.trans hv)]
      exact Py.mono (.of s1) rv
theorem ix_scr {xs : Scr} {tg : Expr} (h : PX p e τ (.sh xs)) : IX p tg e τ (xs.l.map fun x => .sh x) := fun B0 H0 B H σ ok R q => by
  refine ⟨iList p.K (EE p e), fun X hX => ?_, h B0 H0 B H σ ok _ fun B1 H1 v x1 r1 => ?_⟩
  · have hX' := hX
    obtain ⟨k, rfl, _⟩ := hX'
    exact pi_list (ee hX)
  · obtain ⟨c, e1, hc⟩ := r1
    refine ⟨c, e1, ⟨_, x1.bh.seq hc⟩, q B1 H1 _ x1 fun B2 H2 s1 s2 => ⟨fun i s hi => ?_, _, (s1.trans s2).seq hc, by rw [List.length_map, List.length_map]; exact Nat.le_refl _⟩⟩
    obtain ⟨x, hx, rfl⟩ := items_at hi
    have hv : (xs.l.map V.int)[i]? = some (.int x) := by rw [List.getElem?_map, hx]; rfl
    refine ⟨⟨_, _, (s1.trans s2).seq hc, hv⟩, fun y H' hy => ⟨B2, ?_, ?_⟩⟩
    · rw [hy.1]; exact .refl s2
    · exact Option.some.inj ((hy.2 _ ((s1.trans s2).seq hc)).symm.trans hv)
/-- lo, lo + 1, .. -/
def rng (lo : Int) (n : Nat) : List Int := (List.range n).map fun k => lo + (k : Nat)
theorem rng_get {lo : Int} {n i : Nat} {x : Int} (h : (rng lo n)[i]? = some x) : i < n ∧ x = lo + (i : Nat) := by
  unfold rng at h
  rw [List.getElem?_map] at h
  obtain ⟨k, e, h⟩ := Option.map_eq_some_iff.mp h
  rw [List.getElem?_eq_some_iff] at e
  obtain ⟨h1, h2⟩ := e
  rw [List.length_range] at h1
  rw [List.getElem_range] at h2
  subst h2
  exact ⟨h1, h.symm⟩
theorem turns_rng {K : PySem.W.Frag} {B1 : Hp} {lo : Int} {n : Nat} : Turns K B1 (Itr lo n) ((rng lo n).map fun x => .sh x) := fun B H s1 s2 => by
  refine ⟨fun i s hi => ?_, by show n ≤ _; rw [List.length_map]; unfold rng; rw [List.length_map, List.length_range]; exact Nat.le_refl _⟩
  obtain ⟨x, hx, rfl⟩ := items_at hi
  obtain ⟨h1, rfl⟩ := rng_get hx
  exact ⟨h1, fun y H' hy => ⟨B, by rw [hy.1]; exact .refl s2, hy.2⟩⟩
theorem ix_range1 {n : Int} {tg : Expr} {pp : Pos} (hg : p.sc.names.lookup ("range" : Str) = some .globalImplicit) (hm : p.mg "range" = none) (h : PX p e τ (.sh n)) (h1 : -(2 ^ 62) ≤ n ∧ n < 2 ^ 62) (hs : ∀ env, starEach [e] env = [(false, eval e env)] := by intro _; rfl) :
    IX p tg (.Call (.Name "range" pp) [e] [] pos) τ ((rng 0 n.toNat).map fun x => .sh x) := fun B0 H0 B H σ ok R q => by
  refine ⟨iRng1 (tCons (EE p e) tNil), fun X hX => ?_, h B0 H0 B H σ ok _ fun B1 H1 v x1 r1 => ⟨n, by rw [show v = .int n from r1], h1.1, h1.2, q B1 H1 _ x1 turns_rng⟩⟩
  have hX' := hX
  obtain ⟨k, rfl, _⟩ := hX'
  exact pi_range1 hg hm (pa_cons (ee hX) pa_nil (hs _)) (hs _)
theorem ix_range2 {m n : Int} {tg : Expr} {pp : Pos} (hg : p.sc.names.lookup ("range" : Str) = some .globalImplicit) (hm : p.mg "range" = none) (ha : PX p a τ (.sh m)) (hb : PX p b τ (.sh n)) (h1 : -(2 ^ 62) ≤ m ∧ m < 2 ^ 62 ∧ -(2 ^ 62) ≤ n ∧ n < 2 ^ 62)
    (hs : ∀ env, starEach [a, b] env = [(false, eval a env), (false, eval b env)] := by intro _; rfl) (hs2 : ∀ env, starEach [b] env = [(false, eval b env)] := by intro _; rfl) :
    IX p tg (.Call (.Name "range" pp) [a, b] [] pos) τ ((rng m (n - m).toNat).map fun x => .sh x) := fun B0 H0 B H σ ok R q => by
  refine ⟨iRng2 (tCons (EE p a) (tCons (EE p b) tNil)), fun X hX => ?_, ha B0 H0 B H σ ok _ fun B1 H1 v x1 r1 => hb B0 H0 B1 H1 σ (ok.go x1) _ fun B2 H2 u x2 r2 =>
    ⟨m, n, by rw [show v = .int m from r1, show u = .int n from r2], h1, q B2 H2 _ (x1.trans x2) turns_rng⟩⟩
  have hX' := hX
  obtain ⟨k, rfl, _⟩ := hX'
  exact pi_range2 hg hm (pa_cons (ee hX) (pa_cons (ee hX) pa_nil (hs2 _)) (by rw [hs, hs2])) (hs _) (hs2 _)
end
end Ly

namespace Ly
open PySem PySem.Spec PyProof.Rows L2
open Py
section
variable {p : Par} {τ τ1 : List Sl} {R : Post} {st : Stmt} {sts rest : List Stmt} {e a b o : Expr} {es : List Expr} {pos : Pos}

/-! ### what is owned: lent for one expression, changed in its place -/
theorem Ok.own {K : PySem.W.Frag} {B0 H0 B H : Hp} {σ : L2.St} {τ : List Sl} (h : Ok K B0 H0 B H σ τ) {i : Nat} {β : Type} [Ob β] {x : β} (hi : τ[i]? = some (.ow x)) :
    ∃ q ob, σ[i]? = some (some (.ref q)) ∧ H0 q = none ∧ B q = none ∧ H q = some ob ∧ Ob.obj K B ob x := by
  rcases h.at_ i _ hi with z | ⟨v, e, r⟩
  · cases z
  · obtain ⟨q, ob, e1, r2⟩ := owv r
    subst e1
    exact ⟨q, ob, e, r2⟩
/-- an own thing is laid over the readable heap -/
def over (B H : Hp) (F : List Addr) : Hp := fun a => if a ∈ F then H a else B a
theorem over_in {B H : Hp} {F : List Addr} {a : Addr} (h : a ∈ F) : over B H F a = H a := if_pos h
theorem over_out {B H : Hp} {F : List Addr} {a : Addr} (h : a ∉ F) : over B H F a = B a := if_neg h
theorem over_same {B H : Hp} {F : List Addr} (n : ∀ a ∈ F, B a = none) : Same B (over B H F) := fun a o e => by
  rw [over_out (fun m => by rw [n a m] at e; cases e)]; exact e
/-- what is read of an own thing when it's published -/
class Pub (β : Type) [Od β] (γ : outParam Type) [Py γ] where
  rd : β → γ
  pub : ∀ {K : PySem.W.Frag} {B H : Hp} {p : Addr} {b : β} {F : List Addr}, (∀ a ∈ F, B a = none) → Od.own K B H p b F → rep K (over B H F) (.ref p) (rd b)
instance obPub {β : Type} [Ob β] : Pub β β := ⟨fun x => x, fun {K B H p b F} n ⟨e, o, h, r⟩ => ⟨p, o, rfl, .of (by rw [over_in (by rw [e]; exact List.mem_singleton_self _)]; exact h), Ob.omono (.of (over_same n)) r⟩⟩
theorem Ok.lendF {K : PySem.W.Frag} {B0 H0 B H : Hp} {σ : L2.St} {τ : List Sl} (h : Ok K B0 H0 B H σ τ) {i : Nat} {β γ : Type} [Od β] [Py γ] [Pub β γ] {x : β} (hi : τ[i]? = some (.ow x)) :
    ∃ F q, (∀ a ∈ F, H0 a = none ∧ B a = none) ∧ σ[i]? = some (some (.ref q)) ∧ Od.own K B H q x F ∧ Ok K B0 H0 (over B H F) H σ (τ.set i (.sh (Pub.rd x : γ))) := by
  obtain ⟨fp, f⟩ := h.fps
  rcases f.at_ i _ hi with z | ⟨v, e, q, e1, n, r⟩
  · cases z
  subst e1
  have hl := lt_of_get hi
  have nB : ∀ a ∈ fp i, B a = none := fun a m => (n a m).2
  have sb := over_same (H := H) nB
  refine ⟨fp i, q, n, e, r, ⟨fun c u g => ?_, h.ext.hh, h.ext.bb.trans sb, fun c o g k t => ?_⟩, by rw [List.length_set]; exact h.len, fp, fun j s g => ?_, fun j k s u c g1 g2 o1 o2 f1 f2 => ?_⟩
  · by_cases z : c ∈ fp i
    · rw [over_in z] at g; exact g
    · rw [over_out z] at g; exact h.ext.bh c u g
  · rw [over_out (fun z => by rw [(n c z).1] at k; cases k)]; exact h.ext.nw c o g k t
  · by_cases z : i = j
    · subst z
      rw [List.getElem?_set_self hl] at g
      cases g
      exact .inr ⟨_, e, Pub.pub nB r⟩
    · rw [List.getElem?_set_ne z] at g
      rcases f.at_ j s g with w | ⟨v, e1, r1⟩
      · exact .inl w
      · refine .inr ⟨v, e1, ?_⟩
        cases s with
        | un => trivial
        | sh y => exact Py.mono (.of sb) (show rep K B v y from r1)
        | ow y =>
          obtain ⟨c, e2, m, r2⟩ := r1
          refine ⟨c, e2, fun a ma => ⟨(m a ma).1, ?_⟩, Od.dmono (.of sb) (fun _ _ => rfl) r2⟩
          rw [over_out (fun z2 => z (f.dis i j _ _ a hi g trivial trivial z2 ma))]
          exact (m a ma).2
  · have go : ∀ {m : Nat} {t : Sl}, (τ.set i (.sh (Pub.rd x : γ)))[m]? = some t → t.own → τ[m]? = some t := fun {m t} g o => by
      by_cases z : i = m
      · subst z
        rw [List.getElem?_set_self hl] at g
        cases g
        exact o.elim
      · rwa [List.getElem?_set_ne z] at g
    exact f.dis j k s u c (go g1 o1) (go g2 o2) o1 o2 f1 f2
/-- the heap without it -/
def unl (B : Hp) (F : List Addr) : Hp := fun a => if a ∈ F then none else B a
theorem unl_in {B : Hp} {F : List Addr} {a : Addr} (h : a ∈ F) : unl B F a = none := if_pos h
theorem unl_out {B : Hp} {F : List Addr} {a : Addr} (h : a ∉ F) : unl B F a = B a := if_neg h
theorem Ext.unlend {B H H1 B' H' : Hp} {F : List Addr} (nb : ∀ a ∈ F, B a = none) (x : Ext (over B H1 F) H B' H') : Ext B H (unl B' F) H' := by
  refine ⟨fun c u g => ?_, x.hh, fun c u g => ?_, fun c o g n t => ?_⟩
  · by_cases z : c ∈ F
    · rw [unl_in z] at g; cases g
    · rw [unl_out z] at g; exact x.bh c u g
  · have z : c ∉ F := fun z => by rw [nb c z] at g; cases g
    rw [unl_out z]; exact x.bb c u (by rw [over_out z]; exact g)
  · by_cases z : c ∈ F
    · exact unl_in z
    · rw [unl_out z]; exact x.nw c o (by rw [over_out z]; exact g) n t
theorem tle_unl {B : Hp} {F : List Addr} (h : ∀ a ∈ F, ∀ xs, B a ≠ some (.tup xs)) : TLe B (unl B F) := fun a xs e => by
  rw [unl_out (fun z => h a z xs e)]; exact e
theorem Vok.unlend {K : PySem.W.Frag} {B H H0 : Hp} {F : List Addr} {v : V} {s : Sl} (h : Vok K B H H0 v s) (hi : s.imm) (t : ∀ a ∈ F, ∀ xs, B a ≠ some (.tup xs)) : Vok K (unl B F) H H0 v s := by
  cases s with
  | un => trivial
  | @sh α inst y => exact @Imm.keep α inst hi _ _ _ _ _ (tle_unl t) h
  | @ow β inst y =>
    obtain ⟨G, c, e, n, r⟩ := h
    refine ⟨G, c, e, fun a m => ⟨(n a m).1, ?_⟩, @ImmO.dkeep β inst hi _ _ _ _ _ _ _ (tle_unl t) r⟩
    by_cases z : a ∈ F
    · exact unl_in z
    · rw [unl_out z]; exact (n a m).2
/-- within one expression an owned thing is readable, if what comes of it holds no such thing -/
theorem px_lendD (i : Nat) {β γ : Type} [Od β] [Py γ] [Pub β γ] {x : β} {s : Sl} (hi : τ[i]? = some (.ow x)) (hs : s.imm) (h : PX p e (τ.set i (.sh (Pub.rd x : γ))) s) : PX p e τ s := fun B0 H0 B H σ ok Q q => by
  obtain ⟨F, q0, n, e1, r, ok2⟩ := ok.lendF (γ := γ) hi
  refine h B0 H0 _ H σ ok2 Q fun B' H' v x1 r1 => q (unl B' F) H' v (x1.unlend fun a m => (n a m).2) (r1.unlend hs fun a m xs z => ?_)
  have g := x1.bh a _ z
  obtain ⟨o, e2, t⟩ := Od.lay r a m
  rw [x1.hh a o e2] at g
  exact t xs (Option.some.inj g)
theorem pt_lendD (i : Nat) {β γ : Type} [Od β] [Py γ] [Pub β γ] {x : β} {c : Bool} (hi : τ[i]? = some (.ow x)) (h : PTx p e (τ.set i (.sh (Pub.rd x : γ))) c) : PTx p e τ c := fun B0 H0 B H σ ok Q q => by
  obtain ⟨F, q0, n, e1, r, ok2⟩ := ok.lendF (γ := γ) hi
  exact h B0 H0 _ H σ ok2 Q fun B' H' x1 => q (unl B' F) H' (x1.unlend fun a m => (n a m).2)
/-- from now on it is readable, and no more changed -/
theorem sx_pubD (i : Nat) {β γ : Type} [Od β] [Py γ] [Pub β γ] {x : β} (hi : τ[i]? = some (.ow x)) (h : SX p sts (τ.set i (.sh (Pub.rd x : γ))) R) : SX p sts τ R := fun B0 H0 B H σ ok D em => by
  obtain ⟨F, q0, n, e1, r, ok2⟩ := ok.lendF (γ := γ) hi
  exact h B0 H0 _ H σ ok2 D em
/-! flat ones -/
theorem px_lend (i : Nat) {β : Type} [Ob β] {x : β} {s : Sl} (hi : τ[i]? = some (.ow x)) (hs : s.imm) (h : PX p e (τ.set i (.sh x)) s) : PX p e τ s := px_lendD i hi hs h
theorem pt_lend (i : Nat) {β : Type} [Ob β] {x : β} {c : Bool} (hi : τ[i]? = some (.ow x)) (h : PTx p e (τ.set i (.sh x)) c) : PTx p e τ c := pt_lendD i hi h
theorem sx_pub (i : Nat) {β : Type} [Ob β] {x : β} (hi : τ[i]? = some (.ow x)) (h : SX p sts (τ.set i (.sh x)) R) : SX p sts τ R := sx_pubD i hi h
/-- it is changed in its place: H1 differs from H only there, or where nothing stood -/
theorem Ok.mutG {K : PySem.W.Frag} {B0 H0 B H H1 : Hp} {σ : L2.St} {τ : List Sl} (h : Ok K B0 H0 B H σ τ) {fp : Nat → List Addr} (f : Fps K H0 B H σ τ fp) {i : Nat} {β : Type} [Od β] {x : β} (hi : τ[i]? = some (.ow x)) {q : Addr} (e : σ[i]? = some (some (.ref q)))
    {γ : Type} [Od γ] {y : γ} {G : List Addr} (out : ∀ a, a ∉ fp i → H a ≠ none → H1 a = H a) (inn : ∀ a ∈ G, a ∈ fp i ∨ (H0 a = none ∧ B a = none ∧ ∀ j s, τ[j]? = some s → s.own → a ∉ fp j)) (r : Od.own K B H1 q y G) : Ok K B0 H0 B H1 σ (τ.set i (.ow y)) := by
  have hl := lt_of_get hi
  have n : ∀ a ∈ fp i, H0 a = none ∧ B a = none := by
    rcases f.at_ i _ hi with z | ⟨v, _, q', _, n, _⟩
    · cases z
    · exact n
  refine ⟨⟨fun c u g => ?_, fun c u g => ?_, h.ext.bb, fun c o g k t => h.ext.nw c o g k t⟩, by rw [List.length_set]; exact h.len, fset fp i G, fun j s g => ?_, fun j k s u c g1 g2 o1 o2 f1 f2 => ?_⟩
  · have g2 := h.ext.bh c u g
    rw [out c (fun z => by rw [(n c z).2] at g; cases g) (by rw [g2]; exact Option.some_ne_none u)]; exact g2
  · have g2 := h.ext.hh c u g
    rw [out c (fun z => by rw [(n c z).1] at g; cases g) (by rw [g2]; exact Option.some_ne_none u)]; exact g2
  · by_cases z : i = j
    · subst z
      rw [List.getElem?_set_self hl] at g
      cases g
      refine .inr ⟨_, e, q, rfl, fun a m => ?_, by rw [fset_same]; exact r⟩
      rw [fset_same] at m
      rcases inn a m with w | w
      · exact n a w
      · exact ⟨w.1, w.2.1⟩
    · rw [List.getElem?_set_ne z] at g
      rw [fset_ne (Ne.symm z)]
      rcases f.at_ j s g with w | ⟨v, e1, r1⟩
      · exact .inl w
      · refine .inr ⟨v, e1, ?_⟩
        cases s with
        | un => trivial
        | sh y => exact r1
        | ow y =>
          obtain ⟨c, e2, m, r2⟩ := r1
          exact ⟨c, e2, m, Od.dmono (.refl _) (fun a ma => out a (fun w => z (f.dis i j _ _ a hi g trivial trivial w ma)) (by obtain ⟨o, h, _⟩ := Od.lay r2 a ma; rw [h]; exact Option.some_ne_none o)) r2⟩
  · have go : ∀ {m : Nat} {t : Sl}, (τ.set i (.ow y))[m]? = some t → t.own → ∃ t', τ[m]? = some t' ∧ t'.own := fun {m t} g o => by
      by_cases z : i = m
      · subst z; exact ⟨_, hi, trivial⟩
      · rw [List.getElem?_set_ne z] at g; exact ⟨t, g, o⟩
    obtain ⟨s', h1, o1'⟩ := go g1 o1
    obtain ⟨u', h2, o2'⟩ := go g2 o2
    by_cases z1 : j = i
    · by_cases z2 : k = i
      · rw [z1, z2]
      · rw [z1, fset_same] at f1
        rw [fset_ne z2] at f2
        rcases inn c f1 with w | w
        · exact (z2 (f.dis i k _ _ c hi h2 trivial o2' w f2).symm).elim
        · exact absurd f2 (w.2.2 k u' h2 o2')
    · by_cases z2 : k = i
      · rw [z2, fset_same] at f2
        rw [fset_ne z1] at f1
        rcases inn c f2 with w | w
        · exact (z1 (f.dis i j _ _ c hi h1 trivial o1' w f1).symm).elim
        · exact absurd f1 (w.2.2 j s' h1 o1')
      · rw [fset_ne z1] at f1
        rw [fset_ne z2] at f2
        exact f.dis j k s' u' c h1 h2 o1' o2' f1 f2
theorem Fps.notin {K : PySem.W.Frag} {H0 B H : Hp} {σ : L2.St} {τ : List Sl} {fp : Nat → List Addr} (f : Fps K H0 B H σ τ fp) {a : Addr} (n : H a = none) (j : Nat) (s : Sl) (e : τ[j]? = some s) (o : s.own) : a ∉ fp j := fun m => by
  rcases f.at_ j s e with w | ⟨v, _, r1⟩
  · rw [w] at o; exact o.elim
  · cases s with
    | un => exact o.elim
    | sh y => exact o.elim
    | ow y =>
      obtain ⟨c', _, _, r2⟩ := r1
      obtain ⟨o, h, _⟩ := Od.lay r2 a m
      rw [n] at h; cases h
theorem Ok.mutF {K : PySem.W.Frag} {B0 H0 B H H1 : Hp} {σ : L2.St} {τ : List Sl} (h : Ok K B0 H0 B H σ τ) {fp : Nat → List Addr} (f : Fps K H0 B H σ τ fp) {i : Nat} {β : Type} [Od β] {x : β} (hi : τ[i]? = some (.ow x)) {q : Addr} (e : σ[i]? = some (some (.ref q)))
    {γ : Type} [Od γ] {y : γ} {G : List Addr} (out : ∀ a, a ∉ fp i → H a ≠ none → H1 a = H a) (inn : ∀ a ∈ G, a ∈ fp i ∨ H a = none) (r : Od.own K B H1 q y G) : Ok K B0 H0 B H1 σ (τ.set i (.ow y)) :=
  h.mutG f hi e out (fun a m => (inn a m).imp id fun w => ⟨h.ext.hh.free w, h.ext.bh.free w, f.notin w⟩) r
/-- a flat one -/
theorem Ok.mut {K : PySem.W.Frag} {B0 H0 B H : Hp} {σ : L2.St} {τ : List Sl} (h : Ok K B0 H0 B H σ τ) {i : Nat} {β : Type} [Ob β] {x : β} (hi : τ[i]? = some (.ow x)) {q : Addr} (e : σ[i]? = some (some (.ref q))) (n0 : H0 q = none) (nb : B q = none)
    {γ : Type} [Ob γ] {y : γ} {ob : HO} (r : Ob.obj K B ob y) : Ok K B0 H0 B (upd H q ob) σ (τ.set i (.ow y)) := by
  obtain ⟨fp, f⟩ := h.fps
  rcases f.at_ i _ hi with z | ⟨v, e2, q', e3, n, e4, o, e5, r5⟩
  · cases z
  subst e3
  rw [e] at e2
  cases e2
  refine h.mutF f hi e (G := [q]) (fun a m k => ?_) (fun a m => .inl (by rw [e4]; exact m)) ⟨rfl, ob, upd_same, r⟩
  rw [upd_ne (fun z => m (by rw [e4, z]; exact List.mem_singleton_self _))]

/-! ### methods of lists, as statements: x.m(e), x.m() -/
theorem s_lm1 (i : Nat) {α β : Type} [Py α] [Py β] {xs : List α} {y : Sl} {zs : List β} {x m : Str} {id : String} {r : V → List V → Hp → VK → Prop} {px apos cpos : Pos} (pa : PlainAttrs "list") (slot : Slot "list" m id) (hty : typeOf (.builtin id) = pure (.type "method_descriptor"))
    (hm : ∀ X, p.In X → MtR X id r) (hN : p.N[i]? = some x) (hv : Vis p.sc x) (hτ : τ[i]? = some (.ow xs)) (he : PX p e τ y)
    (h : ∀ B H H1 q vs v Q, Same B H → B q = none → H q = some (.lst vs) → All2 (rep p.K B) vs xs → Vok p.K B H H1 v y → (H1 q ≠ none) → (∀ z H2 ws, H2 = upd H q (.lst ws) → All2 (rep p.K B) ws zs → Q z H2) → r (.ref q) [v] H Q)
    (hd : (x == ("__debug__" : Str)) = false) (hc : (x == ("__classdict__" : Str)) = false) (hbase : ∀ env, attributeBase (.Name x px) m env (eval (.Name x px) env) = eval (.Name x px) env)
    (hline : (apos.endLine == cpos.line) = true) (hs : ∀ env, starEach [e] env = [(false, eval e env)]) (hsw : ∀ env, swapsWith (.Call (.Attribute (.Name x px) m apos) [e] [] cpos) none pos.line env = pure false) :
    D1 p (.Expr (.Call (.Attribute (.Name x px) m apos) [e] [] cpos) pos) τ (τ.set i (.ow zs)) := fun R hR B0 H0 B H σ ok D em => by
  refine ⟨tDrop (tBM p.K "list" r (tVar i) (tCons (EE p e) tNil)), fun X hX => ?_, ?_⟩
  · have hX' := hX
    obtain ⟨k, rfl, _⟩ := hX'
    exact ps_expr (pe_bm pa slot hty (hm X hX) (pe_var hN hv hd hc) (pa_cons (ee hX) pa_nil (hs _)) (hbase _) (by rw [hs]; rfl) hline (hs _) rfl) (hsw _)
  · obtain ⟨q, ob, e1, n0, nb, hq, vs, e2, r1⟩ := ok.own hτ
    subst e2
    refine ⟨_, e1, .inl ⟨rfl, vs, .of hq⟩, he B0 H0 B H σ ok _ fun B1 H1 v x1 r2 => ?_⟩
    have ok1 := ok.go x1
    have nb1 := x1.nw q _ nb hq (fun _ z => by cases z)
    refine h B1 H1 H q vs v _ x1.bh nb1 (x1.hh _ _ hq) (r1.imp fun _ _ g => Py.mono (.of x1.bb) g) r2 (by rw [hq]; simp) fun z H2 ws e3 r3 => ?_
    subst e3
    exact em.nx _ _ _ _ (ok1.mut (y := zs) hτ e1 n0 nb1 ⟨ws, rfl, r3⟩) hR
theorem s_lm0 (i : Nat) {α β : Type} [Py α] [Py β] {xs : List α} {zs : List β} {x m : Str} {id : String} {r : V → List V → Hp → VK → Prop} {px apos cpos : Pos} (pa : PlainAttrs "list") (slot : Slot "list" m id) (hty : typeOf (.builtin id) = pure (.type "method_descriptor"))
    (hm : ∀ X, p.In X → MtR X id r) (hN : p.N[i]? = some x) (hv : Vis p.sc x) (hτ : τ[i]? = some (.ow xs))
    (h : ∀ B H q vs Q, H q = some (.lst vs) → All2 (rep p.K B) vs xs → (∀ z H2 ws, H2 = upd H q (.lst ws) → All2 (rep p.K B) ws zs → Q z H2) → r (.ref q) [] H Q)
    (hd : (x == ("__debug__" : Str)) = false) (hc : (x == ("__classdict__" : Str)) = false) (hbase : ∀ env, attributeBase (.Name x px) m env (eval (.Name x px) env) = eval (.Name x px) env)
    (hline : (apos.endLine == cpos.line) = true) (hsw : ∀ env, swapsWith (.Call (.Attribute (.Name x px) m apos) [] [] cpos) none pos.line env = pure false) :
    D1 p (.Expr (.Call (.Attribute (.Name x px) m apos) [] [] cpos) pos) τ (τ.set i (.ow zs)) := fun R hR B0 H0 B H σ ok D em => by
  refine ⟨tDrop (tBM0 p.K "list" r (tVar i)), fun X hX => ?_, ?_⟩
  · have hX' := hX
    obtain ⟨k, rfl, _⟩ := hX'
    exact ps_expr (pe_bm0 pa slot hty (hm X hX) (pe_var hN hv hd hc) (hbase _) hline) (hsw _)
  · obtain ⟨q, ob, e1, n0, nb, hq, vs, e2, r1⟩ := ok.own hτ
    subst e2
    refine ⟨_, e1, .inl ⟨rfl, vs, .of hq⟩, h B H q vs _ hq r1 fun z H2 ws e3 r3 => ?_⟩
    subst e3
    exact em.nx _ _ _ _ (ok.mut (y := zs) hτ e1 n0 nb ⟨ws, rfl, r3⟩) hR
section
variable {α : Type} [Py α] {xs : List α} {x : Str} {px apos cpos : Pos}
theorem s_append (i : Nat) {y : α} (hN : p.N[i]? = some x) (hv : Vis p.sc x) (hτ : τ[i]? = some (.ow xs)) (he : PX p e τ (.sh y)) (hl : xs.length < sizeLine)
    (hd : (x == ("__debug__" : Str)) = false) (hc : (x == ("__classdict__" : Str)) = false) (hbase : ∀ env, attributeBase (.Name x px) "append" env (eval (.Name x px) env) = eval (.Name x px) env)
    (hline : (apos.endLine == cpos.line) = true) (hs : ∀ env, starEach [e] env = [(false, eval e env)]) (hsw : ∀ env, swapsWith (.Call (.Attribute (.Name x px) "append" apos) [e] [] cpos) none pos.line env = pure false) :
    D1 p (.Expr (.Call (.Attribute (.Name x px) "append" apos) [e] [] cpos) pos) τ (τ.set i (.ow (xs ++ [y]))) :=
  s_lm1 i PySem.F.plainAttrs_list PySem.F.slot_list_append PySem.F.type_list_append (fun _ _ => mt_append) hN hv hτ he (fun B H H1 q vs v Q s nb hq r rv nq k => ⟨q, vs, v, rfl, rfl, hq, by rw [r.length]; exact hl, k _ _ _ rfl (r.append (.cons rv .nil))⟩) hd hc hbase hline hs hsw
theorem s_extend (i : Nat) {ys : List α} (hN : p.N[i]? = some x) (hv : Vis p.sc x) (hτ : τ[i]? = some (.ow xs)) (he : PX p e τ (.ow ys)) (hl : xs.length + ys.length ≤ sizeLine)
    (hd : (x == ("__debug__" : Str)) = false) (hc : (x == ("__classdict__" : Str)) = false) (hbase : ∀ env, attributeBase (.Name x px) "extend" env (eval (.Name x px) env) = eval (.Name x px) env)
    (hline : (apos.endLine == cpos.line) = true) (hs : ∀ env, starEach [e] env = [(false, eval e env)]) (hsw : ∀ env, swapsWith (.Call (.Attribute (.Name x px) "extend" apos) [e] [] cpos) none pos.line env = pure false) :
    D1 p (.Expr (.Call (.Attribute (.Name x px) "extend" apos) [e] [] cpos) pos) τ (τ.set i (.ow (xs ++ ys))) :=
  s_lm1 i PySem.F.plainAttrs_list PySem.F.slot_list_extend PySem.F.type_list_extend (fun _ _ => mt_extend) hN hv hτ he (fun B H H1 q vs v Q s nb hq r rv nq k => by
    obtain ⟨c, ob, e1, n1, mb, hc, us, e2, r2⟩ := owv rv
    subst e1 e2
    exact ⟨q, c, vs, us, rfl, rfl, hq, hc, by rw [r.length, r2.length]; exact hl, k _ _ _ rfl (r.append r2)⟩) hd hc hbase hline hs hsw
theorem s_clear (i : Nat) (hN : p.N[i]? = some x) (hv : Vis p.sc x) (hτ : τ[i]? = some (.ow xs))
    (hd : (x == ("__debug__" : Str)) = false) (hc : (x == ("__classdict__" : Str)) = false) (hbase : ∀ env, attributeBase (.Name x px) "clear" env (eval (.Name x px) env) = eval (.Name x px) env)
    (hline : (apos.endLine == cpos.line) = true) (hsw : ∀ env, swapsWith (.Call (.Attribute (.Name x px) "clear" apos) [] [] cpos) none pos.line env = pure false) :
    D1 p (.Expr (.Call (.Attribute (.Name x px) "clear" apos) [] [] cpos) pos) τ (τ.set i (.ow ([] : List α))) :=
  s_lm0 i PySem.F.plainAttrs_list PySem.F.slot_list_clear PySem.F.type_list_clear (fun _ _ => mt_clear) hN hv hτ (fun B H q vs Q hq r k => ⟨q, vs, rfl, rfl, hq, k _ _ _ rfl .nil⟩) hd hc hbase hline hsw
theorem s_reverse (i : Nat) (hN : p.N[i]? = some x) (hv : Vis p.sc x) (hτ : τ[i]? = some (.ow xs))
    (hd : (x == ("__debug__" : Str)) = false) (hc : (x == ("__classdict__" : Str)) = false) (hbase : ∀ env, attributeBase (.Name x px) "reverse" env (eval (.Name x px) env) = eval (.Name x px) env)
    (hline : (apos.endLine == cpos.line) = true) (hsw : ∀ env, swapsWith (.Call (.Attribute (.Name x px) "reverse" apos) [] [] cpos) none pos.line env = pure false) :
    D1 p (.Expr (.Call (.Attribute (.Name x px) "reverse" apos) [] [] cpos) pos) τ (τ.set i (.ow xs.reverse)) :=
  s_lm0 i PySem.F.plainAttrs_list PySem.F.slot_list_reverse PySem.F.type_list_reverse (fun _ _ => mt_reverse) hN hv hτ (fun B H q vs Q hq r k => ⟨q, vs, rfl, rfl, hq, k _ _ _ rfl r.reverse⟩) hd hc hbase hline hsw
end

/-! ### slices -/
def cut {α : Type} (xs : List α) (lo hi : Option Int) : List α := (xs.drop (HT.sIx xs.length 0 lo)).take (HT.sIx xs.length xs.length hi - HT.sIx xs.length 0 lo)
theorem All2.cut {α β : Type} {S : α → β → Prop} {as : List α} {bs : List β} (r : All2 S as bs) (lo hi : Option Int) : All2 S (cut as lo hi) (cut bs lo hi) := by
  unfold Ly.cut
  rw [r.length]
  exact (r.drop _).take _
def POx (p : Par) (eo : Option Expr) (τ : List Sl) (i : Option Int) : Prop := match eo, i with
  | none, none => True
  | some e, some i => PX p e τ (.sh i)
  | _, _ => False
def EO (p : Par) (eo : Option Expr) : TO := match eo with
  | none => tNoPart
  | some e => tPart (EE p e)
theorem eo_ {p : Par} {X : Cx} {eo : Option Expr} (h : p.In X) : PO X eo (EO p eo) := by
  cases eo with
  | none => exact po_none
  | some e => exact po_some (ee h)
theorem eo_run {eo : Option Expr} {i : Option Int} (h : POx p eo τ i) {B0 H0 B H : Hp} {σ : L2.St} (ok : Ok p.K B0 H0 B H σ τ) {Q : Option Int → Hp → Prop} (q : ∀ B' H', Ext B H B' H' → Q i H') : EO p eo σ H Q := by
  cases eo with
  | none => cases i with
    | none => exact q B H (.refl ok.bh)
    | some i => exact h.elim
  | some e => cases i with
    | none => exact h.elim
    | some i => exact (show PX p e τ (.sh i) from h) B0 H0 B H σ ok _ fun B1 H1 v x1 r => ⟨i, r, q B1 H1 x1⟩
theorem px_slL {α β : Type} [Py α] [Py β] [Seqn α β] {x : α} {lo hi : Option Expr} {l u : Option Int} {p2 : Pos} (ha : PX p a τ (.sh x)) (hl : POx p lo τ l) (hu : POx p hi τ u) (isl : ∀ {B H : Hp} {v : V}, Same B H → rep p.K B v x → ∃ q vs, v = .ref q ∧ SqL p.K H q vs ∧ All2 (rep p.K B) vs (Seqn.sq x)) :
    PX p (.Subscript a (.Slice lo hi none p2) pos) τ (.ow (cut (Seqn.sq x) l u)) := fun B0 H0 B H σ ok Q q => by
  refine ⟨tSl (rSlL p.K) (EE p a) (EO p lo) (EO p hi), fun X hX => ?_, ha B0 H0 B H σ ok _ fun B1 H1 v x1 r1 => ?_⟩
  · have hX' := hX
    obtain ⟨k, rfl, _⟩ := hX'
    exact pe_slice sl_list (ee hX) (eo_ hX) (eo_ hX)
  · refine eo_run hl (ok.go x1) fun B2 H2 x2 => eo_run hu ((ok.go x1).go x2) fun B3 H3 x3 => ?_
    have x13 := x2.trans x3
    obtain ⟨c, vs, e1, hs, r⟩ := isl x13.bh (Py.mono (.of x13.bb) (show rep p.K B1 v x from r1))
    refine ⟨c, vs, e1, hs, fun d hd => ?_⟩
    have xx := (x1.trans x13)
    refine q B3 _ _ (xx.trans (Ext.made x13.bh hd)) (vow ⟨d, _, rfl, xx.hh.free hd, x13.bh.free hd, upd_same, _, rfl, r.cut l u⟩)
theorem px_sl {α : Type} [Py α] {x : List α} {lo hi : Option Expr} {l u : Option Int} {p2 : Pos} (ha : PX p a τ (.sh x)) (hl : POx p lo τ l) (hu : POx p hi τ u) : PX p (.Subscript a (.Slice lo hi none p2) pos) τ (.ow (cut x l u)) :=
  px_slL ha hl hu fun s r => by
    obtain ⟨c, ob, e1, hc, vs, e2, r⟩ := r
    subst e2
    exact ⟨c, vs, e1, .of (s _ _ hc.lst), r⟩
instance : Seqn Scr Int := ⟨Scr.l, fun {K B H v x} s ⟨q, e, h⟩ => ⟨q, _, e, .inl (s.seq h), .of_map (f := V.int) (fun _ => rfl) _⟩⟩
theorem px_slScr {x : Scr} {lo hi : Option Expr} {l u : Option Int} {p2 : Pos} (ha : PX p a τ (.sh x)) (hl : POx p lo τ l) (hu : POx p hi τ u) : PX p (.Subscript a (.Slice lo hi none p2) pos) τ (.ow (cut x.l l u)) :=
  by
  have h := px_slL (α := Scr) (β := Int) (x := x) (pos := pos) (p2 := p2) ha hl hu (fun {B H v} s ⟨q, e, h⟩ => ⟨q, _, e, s.seq h, .of_map (f := V.int) (fun _ => rfl) _⟩)
  exact h
/-- a part of a tuple, not the whole of it -/
theorem px_slT {α β : Type} [Py α] [Flds α] [Py β] {x : α} {y : β} {lo hi : Option Expr} {l u : Option Int} {p2 : Pos} (ha : PX p a τ (.sh x)) (hl : POx p lo τ l) (hu : POx p hi τ u) {n : Nat} (hn : (Flds.fl x).length = n) (nw : ¬ (HT.sIx n 0 l = 0 ∧ HT.sIx n n u = n))
    (r : ∀ B vs q, All2 (Shr p.K B) vs ((Flds.fl x).drop (HT.sIx n 0 l) |>.take (HT.sIx n n u - HT.sIx n 0 l)) → B q = some (.tup vs) → rep p.K B (.ref q) y) : PX p (.Subscript a (.Slice lo hi none p2) pos) τ (.sh y) := fun B0 H0 B H σ ok Q q => by
  refine ⟨tSl (rSlT p.K) (EE p a) (EO p lo) (EO p hi), fun X hX => ?_, ha B0 H0 B H σ ok _ fun B1 H1 v x1 r1 => ?_⟩
  · have hX' := hX
    obtain ⟨k, rfl, _⟩ := hX'
    exact pe_slice sl_tup (ee hX) (eo_ hX) (eo_ hX)
  · refine eo_run hl (ok.go x1) fun B2 H2 x2 => eo_run hu ((ok.go x1).go x2) fun B3 H3 x3 => ?_
    have x13 := x2.trans x3
    obtain ⟨c, vs, e1, hs, r2⟩ := Flds.ofr (Py.mono (.of x13.bb) (show rep p.K B1 v x from r1))
    have hv : vs.length = n := r2.length.trans hn
    refine ⟨c, vs, e1, .of (x13.bh _ _ hs), by rw [hv]; exact nw, fun d hd => ?_⟩
    have x4 := Ext.laid (o := .tup (cutV vs l u)) x13.bh hd
    refine q _ _ _ ((x1.trans x13).trans x4) (r _ _ d ?_ upd_same)
    have r3 := (r2.drop (HT.sIx n 0 l)).take (HT.sIx n n u - HT.sIx n 0 l)
    have r4 : All2 (Shr p.K B3) (cutV vs l u) (List.take (HT.sIx n n u - HT.sIx n 0 l) (List.drop (HT.sIx n 0 l) (Flds.fl x))) := by
      unfold cutV
      rw [hv]
      exact r3
    exact r4.imp fun v s g => by
      cases s with
      | sh y => exact Py.mono (.of x4.bb) g
      | un => exact g
      | ow y => exact g

/-! ### comprehensions with one for -/
def Par.blk (p : Par) (scope : Scope) : Par := { p with sc := relS scope p.sc, fn := fun x => scope.names.lookup x == some .cell, W := fun _ _ _ _ => False, fr := false }
theorem blk_in {p : Par} {X : Cx} (h : p.In X) (scope : Scope) (s : Shared) (H : Hp) (C : Addr) (cl : List (Str × Addr)) (fp : List Addr) : (p.blk scope).In (X.blk s H scope (compEnvC scope cl C X.env) fp) := by
  obtain ⟨k, rfl, calm, room, po⟩ := h
  exact ⟨(k.1, (fun _ _ _ _ => False), false), rfl, calm, room, PassesOwn.never, takes0, fun z => by cases z⟩
def wipeT (τ : List Sl) : List Nat → List Sl
  | [] => τ
  | v :: vs => (wipeT τ vs).set v .un
theorem Ok.wipes {K : PySem.W.Frag} {B0 H0 B H : Hp} {σ : L2.St} {τ : List Sl} (h : Ok K B0 H0 B H σ τ) : ∀ vs : List Nat, Ok K B0 H0 B H (L2.wipe σ vs) (wipeT τ vs)
  | [] => h
  | v :: vs => (Ok.wipes h vs).wipe v
theorem wipe_at (σ : L2.St) : ∀ (vs : List Nat) (j : Nat), j ∈ vs → j < σ.length → (L2.wipe σ vs)[j]? = some none
  | [], _, h, _ => by cases h
  | v :: vs, j, h, hl => by
    unfold L2.wipe
    by_cases z : v = j
    · subst z; rw [List.getElem?_set_self (by rw [wipe_length]; exact hl)]
    · rw [List.getElem?_set_ne z]
      exact wipe_at σ vs j ((List.mem_cons.mp h).resolve_left fun e => z e.symm) hl
theorem wipe_upto {σ σ' : L2.St} {vs w : List Nat} (u : Upto w (L2.wipe σ vs) σ') (hw : ∀ j ∈ w, j ∈ vs) : L2.wipe σ' vs = L2.wipe σ vs := by
  have hl : σ'.length = σ.length := by rw [u.1, wipe_length]
  refine List.ext_getElem? fun j => ?_
  by_cases hj : j ∈ vs
  · by_cases h : j < σ.length
    · rw [wipe_at σ' vs j hj (by rw [hl]; exact h), wipe_at σ vs j hj h]
    · rw [List.getElem?_eq_none (by rw [wipe_length, hl]; omega), List.getElem?_eq_none (by rw [wipe_length]; omega)]
  · rw [wipe_out hj, u.2 j fun z => hj (hw j z)]
def ETs (p : Par) (ifs : List Expr) : TT := fun σ H Q => ∃ t : TT, (∀ X, p.In X → PTs X ifs t) ∧ t σ H Q
theorem ets {p : Par} {X : Cx} {ifs : List Expr} (h : p.In X) : PTs X ifs (ETs p ifs) := ⟨fun pins s σ H Q I ⟨_, ht, hq⟩ => (ht X h).run pins s σ H Q I hq⟩
def PTsx (p : Par) (ifs : List Expr) (τ : List Sl) (b : Bool) : Prop := ∀ B0 H0 B H σ, Ok p.K B0 H0 B H σ τ → ∀ Q : Bool → Hp → Prop, (∀ B' H', Ext B H B' H' → Q b H') → ETs p ifs σ H Q
theorem pts_nil : PTsx p [] τ true := fun B0 H0 B H σ ok Q q => ⟨tYes, fun _ _ => L2.pts_nil, q B H (.refl ok.bh)⟩
theorem pts_one {c : Expr} {k : Bool} (h : PTx p c τ k) : PTsx p [c] τ k := fun B0 H0 B H σ ok Q q => ⟨ET p c, fun X hX => L2.pts_one (et hX), h B0 H0 B H σ ok Q q⟩
theorem filterMap_take {α β : Type} {g : α → Option β} {xs : List α} {i : Nat} {x : α} (h : xs[i]? = some x) : (xs.take (i + 1)).filterMap g = (xs.take i).filterMap g ++ (g x).toList := by
  rw [List.take_add_one, h, List.filterMap_append]
  show _ ++ List.filterMap g [x] = _
  rw [List.filterMap_cons]
  cases g x <;> rfl
section
variable {α β : Type} [Py α] [Py β] {xs : List α} {g : α → Option β} {elt tg iter : Expr} {ifs : List Expr} {scope : Scope} {own : List (Str × Nat)} {w : List Nat}
/-- the walk, at these heaps -/
def IXat (p : Par) (tg e : Expr) (B H : Hp) (σ : L2.St) (items : List Sl) : Prop := ∀ R : It → Hp → Prop, (∀ B' H' J, Ext B H B' H' → Turns p.K B' J items → R J H') → EI p tg e σ H R
theorem lc_run {B0 H0 B H : Hp} {σ : L2.St} (hi : IXat p tg iter B H σ (xs.map fun x => .sh x)) (hn : xs.length ≤ sizeLine) (hw : ∀ j ∈ w, j ∈ own.map (·.2))
    (turn : ∀ x, x ∈ xs → ∃ τ', GX (p.blk scope) tg w (.sh x) (wipeT τ (own.map (·.2))) τ' ∧ PTsx (p.blk scope) ifs τ' (g x).isSome ∧ ∀ y, g x = some y → PX (p.blk scope) elt τ' (.sh y))
    (ok : Ok p.K B0 H0 B H σ τ) {Q : VK} (q : ∀ B' H' v, Ext B H B' H' → Vok p.K B' H' H v (.ow (xs.filterMap g)) → Q v H') :
    tLc (EI p tg iter) (EG (p.blk scope) tg) (ETs (p.blk scope) ifs) (EE (p.blk scope) elt) (own.map (·.2)) σ H Q := by
  refine hi _ fun B1 H1 J x1 tj D hD => ?_
  have ok1 := ok.go x1
  have nB1 : B1 D = none := x1.bh.free hD
  refine ⟨fun i m H' => m = xs.length - i ∧ i ≤ xs.length ∧ ∃ B' acc, Ext B1 H1 B' H' ∧ H' D = some (.lst acc) ∧ B' D = none ∧ All2 (rep p.K B') acc ((xs.take i).filterMap g), ⟨_, rfl, Nat.zero_le _, B1, [], Ext.made x1.bh hD, upd_same, nB1, .nil⟩, ?_⟩
  rintro i m H2 ⟨rfl, hin, B2, acc, x2, hD2, nB2, r2⟩
  obtain ⟨tg1, tstop⟩ := tj B2 H2 x2.bb x2.bh
  rw [List.length_map] at tstop
  by_cases hlt : i < xs.length
  · obtain ⟨x, hx⟩ : ∃ x, xs[i]? = some x := ⟨xs[i], List.getElem?_eq_getElem hlt⟩
    obtain ⟨go, yl⟩ := tg1 i (.sh x) (by rw [List.getElem?_map, hx]; rfl)
    obtain ⟨τ', gx, tx, ex⟩ := turn x (List.mem_of_getElem? hx)
    refine .inr ⟨go, fun H' => ∃ B' acc, Ext B1 H1 B' H' ∧ H' D = some (.lst acc) ∧ B' D = none ∧ All2 (rep p.K B') acc ((xs.take (i + 1)).filterMap g), fun H' n => ⟨_, by omega, rfl, hlt, n⟩, fun y H' hy => ?_⟩
    obtain ⟨B3, x3, r3⟩ := yl y H' hy
    have ok3 : Ok p.K B0 H0 B3 H' (L2.wipe σ (own.map (·.2))) (wipeT τ (own.map (·.2))) := (((ok1.go x2).go x3)).wipes _
    refine gx B0 H0 B3 H' _ y ok3 r3 _ fun σ4 ok4 u4 => ⟨wipe_upto u4 hw, ?_⟩
    refine tx B0 H0 B3 H' σ4 ok4 _ fun B5 H5 x5 => ?_
    have lift : ∀ {Bn Hn : Hp}, Ext B2 H2 Bn Hn → Hn D = some (.lst acc) ∧ Bn D = none ∧ All2 (rep p.K Bn) acc ((xs.take i).filterMap g) := fun xx => ⟨xx.hh _ _ hD2, xx.nw D _ nB2 hD2 (fun _ z => by cases z), r2.imp fun _ _ h => Py.mono (.of xx.bb) h⟩
    cases hg : g x with
    | none =>
      have xx := x3.trans x5
      obtain ⟨l1, l2, l3⟩ := lift xx
      exact iteF ⟨B5, acc, x2.trans xx, l1, l2, by rw [filterMap_take hx, hg]; simpa using l3⟩
    | some y2 =>
      refine iteT (ex y2 hg B0 H0 B5 H5 σ4 (ok4.go x5) _ fun B6 H6 v x6 r6 => ?_)
      have xx := (x3.trans x5).trans x6
      obtain ⟨l1, l2, l3⟩ := lift xx
      have hlen : acc.length ≤ i := by
        rw [r2.length]
        exact Nat.le_trans (List.length_filterMap_le _ _) (by rw [List.length_take]; exact Nat.min_le_left _ _)
      refine ⟨acc, l1, by omega, B6, acc ++ [v], ?_, upd_same, l2, ?_⟩
      · have x12 := x2.trans xx
        refine ⟨fun c u h => ?_, fun c u h => ?_, x12.bb, fun c o h n t => x12.nw c o h n t⟩
        · rw [upd_ne (fun z => by rw [z, l2] at h; cases h)]; exact x12.bh c u h
        · rw [upd_ne (fun z => by rw [z, hD] at h; cases h)]; exact x12.hh c u h
      · rw [filterMap_take hx, hg]
        exact l3.append (.cons r6 .nil)
  · have e : i = xs.length := by omega
    subst e
    rw [List.take_length] at r2
    exact .inl ⟨tstop, q B2 H2 _ (x1.trans x2) (vow ⟨D, _, rfl, x1.hh.free hD, nB2, hD2, acc, rfl, r2⟩)⟩
theorem lc_read (hi : IX p tg iter τ (xs.map fun x => .sh x)) (hn : xs.length ≤ sizeLine) (hw : ∀ j ∈ w, j ∈ own.map (·.2))
    (turn : ∀ x, x ∈ xs → ∃ τ', GX (p.blk scope) tg w (.sh x) (wipeT τ (own.map (·.2))) τ' ∧ PTsx (p.blk scope) ifs τ' (g x).isSome ∧ ∀ y, g x = some y → PX (p.blk scope) elt τ' (.sh y))
    {B0 H0 B H : Hp} {σ : L2.St} (ok : Ok p.K B0 H0 B H σ τ) {Q : VK} (q : ∀ B' H' v, Ext B H B' H' → Vok p.K B' H' H v (.ow (xs.filterMap g)) → Q v H') :
    tLc (EI p tg iter) (EG (p.blk scope) tg) (ETs (p.blk scope) ifs) (EE (p.blk scope) elt) (own.map (·.2)) σ H Q := lc_run (fun R q => hi B0 H0 B H σ ok R q) hn hw turn ok q
variable (nd : p.N.Nodup) (bk : BlkOk p.N p.sc scope own)
include nd bk
theorem px_lcG (hi : IX p tg iter τ (xs.map fun x => .sh x)) (hn : xs.length ≤ sizeLine) (hw : ∀ j ∈ w, j ∈ own.map (·.2))
    (turn : ∀ x, x ∈ xs → ∃ τ', GX (p.blk scope) tg w (.sh x) (wipeT τ (own.map (·.2))) τ' ∧ PTsx (p.blk scope) ifs τ' (g x).isSome ∧ ∀ y, g x = some y → PX (p.blk scope) elt τ' (.sh y))
    (hf : ∀ env x, foldedSetIterable iter env x = pure x) : PX p (.ListComp elt [⟨tg, iter, ifs, 0⟩] scope pos) τ (.ow (xs.filterMap g)) := fun B0 H0 B H σ ok Q q => by
  refine ⟨_, fun X hX => ?_, lc_read hi hn hw turn ok q⟩
  have hX' := hX
  obtain ⟨k, rfl, calm, _⟩ := hX'
  exact pe_lc calm nd (ei hX) bk (fun s H C cl fp => eg (blk_in hX scope s H C cl fp)) (fun s H C cl fp => ets (blk_in hX scope s H C cl fp)) (fun s H C cl fp => ee (blk_in hX scope s H C cl fp)) (hf _)
/-- x = [..], x a local name -/
theorem s_lcG (i : Nat) {y : Str} {py : Pos} {spos : Pos} (hN : p.N[i]? = some y) (hy : p.sc.names.lookup y = some .local) (hk : p.sc.kind = .function) (hl : (py.line == pos.line) = true) (ha : (scope.names.any fun (n, k) => n == y && (k == .local || k == .cell)) = false)
    (hi : IX p tg iter τ (xs.map fun x => .sh x)) (hn : xs.length ≤ sizeLine) (hw : ∀ j ∈ w, j ∈ own.map (·.2))
    (turn : ∀ x, x ∈ xs → ∃ τ', GX (p.blk scope) tg w (.sh x) (wipeT τ (own.map (·.2))) τ' ∧ PTsx (p.blk scope) ifs τ' (g x).isSome ∧ ∀ y, g x = some y → PX (p.blk scope) elt τ' (.sh y))
    (hf : ∀ env x, foldedSetIterable iter env x = pure x) : D1 p (.Assign [.Name y py] (.ListComp elt [⟨tg, iter, ifs, 0⟩] scope pos) spos) τ (τ.set i (.ow (xs.filterMap g))) := fun R hR B0 H0 B H σ ok D em => by
  have lr := lc_read (own := own) hi hn hw turn ok (Q := fun v H1 => gName i v σ H1 D.nx) fun B1 H1 v x1 r1 => em.nx B1 H1 _ _ (ok.putN x1 r1) hR
  refine ⟨tAsg (tLc (EI p tg iter) (EG (p.blk scope) tg) (ETs (p.blk scope) ifs) (EE (p.blk scope) elt) (own.map fun (x : Str × Nat) => x.2)) (gName i), fun X hX => ?_, lr⟩
  have hX' := hX
  obtain ⟨k, rfl, calm, _⟩ := hX'
  exact ps_setLc calm nd hN hy (sw_true hk hy hl ha) (ei hX) bk (fun s H C cl fp => eg (blk_in hX scope s H C cl fp)) (fun s H C cl fp => ets (blk_in hX scope s H C cl fp)) (fun s H C cl fp => ee (blk_in hX scope s H C cl fp)) (hf _)
end
end
end Ly

namespace Ly
open PySem PySem.Spec PyProof.Rows L2
open Py
/-! ### the rules as the printed proofs use them: the first m names are the def's own, told once -/
structure Gd (p : Par) (m : Nat) : Prop where
  nd : p.N.Nodup
  loc : ∀ x ∈ p.N.take m, Loc p.sc x
  fn : ∀ x, p.fn x = true
  ok : ∀ x ∈ p.N, (x == ("__debug__" : Str)) = false ∧ (x == ("__classdict__" : Str)) = false
theorem Gd.lc {p : Par} {m : Nat} (G : Gd p m) {i : Nat} {x : Str} (hN : p.N[i]? = some x) (hi : i < m) : Loc p.sc x :=
  G.loc x (List.mem_of_getElem? (i := i) (by rw [List.getElem?_take_of_lt hi]; exact hN))
theorem Gd.vs {p : Par} {m : Nat} (G : Gd p m) {i : Nat} {x : Str} (hN : p.N[i]? = some x) (hi : i < m) : Vis p.sc x := (G.lc hN hi).elim .inl fun h => .inr (.inl h)
def isSh : Sl → Prop
  | .un => False
  | @Sl.sh _ _ _ => True
  | @Sl.ow _ _ _ => False
section
variable {p : Par} {m : Nat} {τ τ1 : List Sl} {R : Post} {st : Stmt} {sts rest : List Stmt} {e a b o : Expr} {es : List Expr} {pos : Pos}
theorem px_v (G : Gd p m) (i : Nat) {s : Sl} {x : Str} (hN : p.N[i]? = some x) (hi : i < m) (hτ : τ[i]? = some s) (hs : isSh s) : PX p (.Name x pos) τ s :=
  px_var i hN (G.vs hN hi) hτ (by cases s with
    | un => exact hs
    | sh _ => trivial
    | ow _ => exact hs) (G.ok x (List.mem_of_getElem? hN)).1 (G.ok x (List.mem_of_getElem? hN)).2
/-- in a comprehension's block -/
theorem px_w (G : Gd p m) {q : Par} (hq : q.N = p.N) (i : Nat) {s : Sl} {x : Str} (hN : q.N[i]? = some x) (hv : Vis q.sc x) (hτ : τ[i]? = some s) (hs : isSh s) : PX q (.Name x pos) τ s :=
  px_var i hN hv hτ (by cases s with
    | un => exact hs
    | sh _ => trivial
    | ow _ => exact hs) (G.ok x (by rw [← hq]; exact List.mem_of_getElem? hN)).1 (G.ok x (by rw [← hq]; exact List.mem_of_getElem? hN)).2
theorem gx_n (G : Gd p m) (i : Nat) {s : Sl} {x : Str} (hN : p.N[i]? = some x) (hi : i < m) (hs : isSh s) : GX p (.Name x pos) [i] s τ (τ.set i s) :=
  gx_name i G.nd hN (G.lc hN hi) (.inl (G.fn x)) (by cases s with
    | un => exact hs
    | sh _ => trivial
    | ow _ => exact hs)
/-- in a comprehension's block: its own name -/
theorem gx_w (G : Gd p m) {q : Par} (hq : q.N = p.N) (i : Nat) {s : Sl} {x : Str} (hN : q.N[i]? = some x) (hl : Loc q.sc x) (hf : q.fn x = true ∨ q.sc.names.lookup x = some .local) (hs : isSh s) : GX q (.Name x pos) [i] s τ (τ.set i s) :=
  gx_name i (by rw [hq]; exact G.nd) hN hl hf (by cases s with
    | un => exact hs
    | sh _ => trivial
    | ow _ => exact hs)
theorem sx_set (G : Gd p m) (i : Nat) {α : Type} [Py α] {v : α} {x : Str} {pos' : Pos} (hN : p.N[i]? = some x) (hi : i < m) (h : PX p e τ (.sh v)) (hs : ∀ env, swapsWith e (some (.Name x pos')) pos.line env = pure false)
    (k : ∀ y, y = v → SX p rest (τ.set i (.sh y)) R) : SX p (.Assign [.Name x pos'] e pos :: rest) τ R :=
  sx_step (s_set i G.nd hN (G.lc hN hi) (.inl (G.fn x)) h hs) (k v rfl)
theorem sx_setO (G : Gd p m) (i : Nat) {β : Type} [Od β] {v : β} {x : Str} {pos' : Pos} (hN : p.N[i]? = some x) (hi : i < m) (h : PX p e τ (.ow v)) (hs : ∀ env, swapsWith e (some (.Name x pos')) pos.line env = pure false)
    (k : ∀ y, y = v → SX p rest (τ.set i (.ow y)) R) : SX p (.Assign [.Name x pos'] e pos :: rest) τ R :=
  sx_step (s_set i G.nd hN (G.lc hN hi) (.inl (G.fn x)) h hs) (k v rfl)
theorem sx_if {c : Expr} {k : Bool} {bt bf : List Stmt} (hc : PTx p c τ k) (ht : k = true → SX p bt τ ⟨fun τ' => SX p rest τ' R, R.rt, R.rx, R.ex⟩) (hf : k = false → SX p bf τ ⟨fun τ' => SX p rest τ' R, R.rt, R.rx, R.ex⟩) : SX p (.If c bt bf pos :: rest) τ R :=
  sx_cons (fun τ' => SX p rest τ' R) (s_if hc ht hf) fun _ h => h
/-- .. the ways meet in I -/
theorem sx_ifJ (I : List Sl → Prop) {c : Expr} {k : Bool} {bt bf : List Stmt} (hc : PTx p c τ k) (ht : k = true → SX p bt τ ⟨I, R.rt, R.rx, R.ex⟩) (hf : k = false → SX p bf τ ⟨I, R.rt, R.rx, R.ex⟩) (j : ∀ τ', I τ' → SX p rest τ' R) : SX p (.If c bt bf pos :: rest) τ R :=
  sx_cons I (s_if hc ht hf) j
theorem sx_ret {s : Sl} (h : PX p e τ s) (hR : R.rt s) : SX p (.Return (some e) pos :: rest) τ R := sx_cons (fun _ => False) (s_ret h hR) fun _ z => z.elim
theorem sx_retV (G : Gd p m) (i : Nat) {s : Sl} {x : Str} {pos' : Pos} (hN : p.N[i]? = some x) (hi : i < m) (hτ : τ[i]? = some s) (hs : s ≠ .un) (hR : R.rt s) : SX p (.Return (some (.Name x pos')) pos :: rest) τ R :=
  sx_cons (fun _ => False) (s_retV i hN (G.vs hN hi) hτ hs (G.ok x (List.mem_of_getElem? hN)).1 (G.ok x (List.mem_of_getElem? hN)).2 hR) fun _ z => z.elim
theorem sx_retN (hR : R.rt (.sh ())) : SX p (.Return none pos :: rest) τ R := sx_cons (fun _ => False) (s_retN hR) fun _ z => z.elim
theorem sx_asg {tg : Expr} {w : List Nat} {α : Type} [Py α] {x : α} (he : PX p e τ (.sh x)) (hg : GX p tg w (.sh x) τ τ1) (hs : ∀ env, swapsWithSole [tg] e pos.line env = pure false) (hw : ∀ env, swappedStores [tg] e env = pure none)
    (h1 : ∀ env, (assignEach [tg] env).map (·.2) = [assign tg env]) (k : SX p rest τ1 R) : SX p (.Assign [tg] e pos :: rest) τ R := sx_step (s_asg he hg hs hw h1) k
theorem sx_expr {s : Sl} (h : PX p e τ s) (hs : ∀ env, swapsWith e none pos.line env = pure false) (k : SX p rest τ R) : SX p (.Expr e pos :: rest) τ R := sx_step (s_expr h hs) k
theorem sx_for {tg iter : Expr} {body : List Stmt} {w : List Nat} {items : List Sl} (I : Nat → List Sl → Prop) (hi : IX p tg iter τ items) (h0 : I 0 τ)
    (hs : ∀ i s τi, items[i]? = some s → I i τi → ∃ τ', GX p tg w s τi τ' ∧ SX p body τ' ⟨I (i + 1), R.rt, R.rx, R.ex⟩)
    (hf : ∀ env x, foldedSetIterable iter env x = pure x) (hd : ∀ τn, I items.length τn → SX p rest τn R) : SX p (.For tg iter body [] pos :: rest) τ R :=
  sx_cons (fun τ' => I items.length τ') (s_for I hi h0 hs (fun _ h => h) hf) hd
/-- over things of Lean -/
theorem sx_forL {tg iter : Expr} {body : List Stmt} {w : List Nat} {α : Type} [Py α] {xs : List α} (I : Nat → List Sl → Prop) (hi : IX p tg iter τ (xs.map fun x => .sh x)) (h0 : I 0 τ)
    (hs : ∀ i x τi, xs[i]? = some x → I i τi → ∃ τ', GX p tg w (.sh x) τi τ' ∧ SX p body τ' ⟨I (i + 1), R.rt, R.rx, R.ex⟩)
    (hf : ∀ env x, foldedSetIterable iter env x = pure x) (hd : ∀ τn, I xs.length τn → SX p rest τn R) : SX p (.For tg iter body [] pos :: rest) τ R :=
  sx_for I hi h0 (fun i s τi h inv => by obtain ⟨x, e, rfl⟩ := items_at h; exact hs i x τi e inv) hf (by rw [List.length_map]; exact hd)
theorem sx_while {c : Expr} {body : List Stmt} (I : Nat → List Sl → Prop) (h0 : ∃ m, I m τ)
    (hs : ∀ m τi, I m τi → ∃ k, PTx p c τi k ∧ (k = true → SX p body τi ⟨fun τ' => ∃ m', m' < m ∧ I m' τ', R.rt, R.rx, R.ex⟩) ∧ (k = false → SX p rest τi R)) : SX p (.While c body [] pos :: rest) τ R :=
  sx_cons (fun τ' => SX p rest τ' R) (s_while I h0 hs) fun _ h => h
/-- a method of an owned list -/
theorem sx_append (G : Gd p m) (i : Nat) {α : Type} [Py α] {xs : List α} {y : α} {x : Str} {px apos cpos : Pos} (hN : p.N[i]? = some x) (hi : i < m) (hτ : τ[i]? = some (.ow xs)) (he : PX p e τ (.sh y)) (hl : xs.length < sizeLine)
    (hbase : ∀ env, attributeBase (.Name x px) "append" env (eval (.Name x px) env) = eval (.Name x px) env) (hline : (apos.endLine == cpos.line) = true) (hs : ∀ env, starEach [e] env = [(false, eval e env)])
    (hsw : ∀ env, swapsWith (.Call (.Attribute (.Name x px) "append" apos) [e] [] cpos) none pos.line env = pure false) (k : SX p rest (τ.set i (.ow (xs ++ [y]))) R) : SX p (.Expr (.Call (.Attribute (.Name x px) "append" apos) [e] [] cpos) pos :: rest) τ R :=
  sx_step (s_append i hN (G.vs hN hi) hτ he hl (G.ok x (List.mem_of_getElem? hN)).1 (G.ok x (List.mem_of_getElem? hN)).2 hbase hline hs hsw) k
theorem sx_extend (G : Gd p m) (i : Nat) {α : Type} [Py α] {xs ys : List α} {x : Str} {px apos cpos : Pos} (hN : p.N[i]? = some x) (hi : i < m) (hτ : τ[i]? = some (.ow xs)) (he : PX p e τ (.ow ys)) (hl : xs.length + ys.length ≤ sizeLine)
    (hbase : ∀ env, attributeBase (.Name x px) "extend" env (eval (.Name x px) env) = eval (.Name x px) env) (hline : (apos.endLine == cpos.line) = true) (hs : ∀ env, starEach [e] env = [(false, eval e env)])
    (hsw : ∀ env, swapsWith (.Call (.Attribute (.Name x px) "extend" apos) [e] [] cpos) none pos.line env = pure false) (k : SX p rest (τ.set i (.ow (xs ++ ys))) R) : SX p (.Expr (.Call (.Attribute (.Name x px) "extend" apos) [e] [] cpos) pos :: rest) τ R :=
  sx_step (s_extend i hN (G.vs hN hi) hτ he hl (G.ok x (List.mem_of_getElem? hN)).1 (G.ok x (List.mem_of_getElem? hN)).2 hbase hline hs hsw) k
theorem sx_clear (G : Gd p m) (i : Nat) {α : Type} [Py α] {xs : List α} {x : Str} {px apos cpos : Pos} (hN : p.N[i]? = some x) (hi : i < m) (hτ : τ[i]? = some (.ow xs))
    (hbase : ∀ env, attributeBase (.Name x px) "clear" env (eval (.Name x px) env) = eval (.Name x px) env) (hline : (apos.endLine == cpos.line) = true)
    (hsw : ∀ env, swapsWith (.Call (.Attribute (.Name x px) "clear" apos) [] [] cpos) none pos.line env = pure false) (k : SX p rest (τ.set i (.ow ([] : List α))) R) : SX p (.Expr (.Call (.Attribute (.Name x px) "clear" apos) [] [] cpos) pos :: rest) τ R :=
  sx_step (s_clear i hN (G.vs hN hi) hτ (G.ok x (List.mem_of_getElem? hN)).1 (G.ok x (List.mem_of_getElem? hN)).2 hbase hline hsw) k
end
/-- what a def's names are, by one decision -/
def gdB (N : List Str) (m : Nat) (sc : Scope) : Bool :=
  (N.take m).all (fun x => match sc.names.lookup x with | some .local => true | some .cell => true | _ => false) && N.all (fun x => !(x == ("__debug__" : Str)) && !(x == ("__classdict__" : Str)))
theorem gd_of {P : Program} {w : World} {K : PySem.W.Frag} {mg : Str → Option Value} {base : Heap} {N : List Str} {sc : Scope} {k m : Nat} {W : WX} {fr : Bool} (nd : N.Nodup) (h : gdB N m sc = true) : Gd ⟨P, w, K, mg, base, N, sc, fun _ => true, k, W, fr⟩ m := by
  unfold gdB at h
  rw [Bool.and_eq_true, List.all_eq_true, List.all_eq_true] at h
  refine ⟨nd, fun x hx => ?_, fun _ => rfl, fun x hx => ?_⟩
  · have q := h.1 x hx
    unfold L2.Loc
    revert q
    show (match sc.names.lookup x with | some .local => true | some .cell => true | _ => false) = true → _
    cases sc.names.lookup x with
    | none => intro q; cases q
    | some k => cases k <;> intro q <;> first | exact .inl rfl | exact .inr rfl | cases q
  · have q := h.2 x hx
    simpa using q
end Ly
namespace Ly
open PySem PySem.Spec PyProof.Rows L2
open Py
section
variable {p : Par} {m : Nat} {τ τ1 : List Sl} {R : Post} {sts rest : List Stmt} {pos : Pos}
variable {α β : Type} [Py α] [Py β] {xs : List α} {elt tg iter : Expr} {ifs : List Expr} {scope : Scope} {own : List (Str × Nat)} {w : List Nat}
/-- [f x for x in xs] -/
theorem px_lcM {f : α → β} (nd : p.N.Nodup) (bk : BlkOk p.N p.sc scope own) (hi : IX p tg iter τ (xs.map fun x => .sh x)) (hn : xs.length ≤ sizeLine) (hw : ∀ j ∈ w, j ∈ own.map (·.2))
    (turn : ∀ x, x ∈ xs → ∃ τ', GX (p.blk scope) tg w (.sh x) (wipeT τ (own.map (·.2))) τ' ∧ PX (p.blk scope) elt τ' (.sh (f x)))
    (hf : ∀ env x, foldedSetIterable iter env x = pure x) : PX p (.ListComp elt [⟨tg, iter, [], 0⟩] scope pos) τ (.ow (xs.map f)) :=
  (px_lcG (g := fun x => some (f x)) nd bk hi hn hw (fun x hx => by obtain ⟨τ', h1, h2⟩ := turn x hx; exact ⟨τ', h1, pts_nil, fun y hy => Option.some.inj hy ▸ h2⟩) hf).to (congrArg Sl.ow (by rw [← List.filterMap_eq_map]; rfl))
theorem sx_lcM (G : Gd p m) (i : Nat) {f : α → β} {y : Str} {py spos : Pos} (hN : p.N[i]? = some y) (hy : p.sc.names.lookup y = some .local) (hk : p.sc.kind = .function) (hl : (py.line == pos.line) = true) (ha : (scope.names.any fun (n, k) => n == y && (k == .local || k == .cell)) = false)
    (bk : BlkOk p.N p.sc scope own) (hi : IX p tg iter τ (xs.map fun x => .sh x)) (hn : xs.length ≤ sizeLine) (hw : ∀ j ∈ w, j ∈ own.map (·.2))
    (turn : ∀ x, x ∈ xs → ∃ τ', GX (p.blk scope) tg w (.sh x) (wipeT τ (own.map (·.2))) τ' ∧ PX (p.blk scope) elt τ' (.sh (f x)))
    (hf : ∀ env x, foldedSetIterable iter env x = pure x) (k : ∀ zs, zs = xs.map f → SX p rest (τ.set i (.ow zs)) R) : SX p (.Assign [.Name y py] (.ListComp elt [⟨tg, iter, [], 0⟩] scope pos) spos :: rest) τ R := by
  refine sx_step (s_lcG (g := fun x => some (f x)) G.nd bk i hN hy hk hl ha hi hn hw (fun x hx => by obtain ⟨τ', h1, h2⟩ := turn x hx; exact ⟨τ', h1, pts_nil, fun y hy => Option.some.inj hy ▸ h2⟩) hf) ?_
  exact k _ (by rw [← List.filterMap_eq_map]; rfl)
theorem fm_eq {α β : Type} (c : α → Bool) (f : α → β) : ∀ xs : List α, xs.filterMap (fun x => if c x then some (f x) else none) = (xs.filter c).map f
  | [] => rfl
  | x :: r => by
    rw [List.filterMap_cons, List.filter_cons, fm_eq c f r]
    cases c x <;> rfl
/-- [f x for x in xs if c x] -/
theorem px_lcF {c : α → Bool} {f : α → β} {tst : Expr} (nd : p.N.Nodup) (bk : BlkOk p.N p.sc scope own) (hi : IX p tg iter τ (xs.map fun x => .sh x)) (hn : xs.length ≤ sizeLine) (hw : ∀ j ∈ w, j ∈ own.map (·.2))
    (turn : ∀ x, x ∈ xs → ∃ τ', GX (p.blk scope) tg w (.sh x) (wipeT τ (own.map (·.2))) τ' ∧ PTx (p.blk scope) tst τ' (c x) ∧ (c x = true → PX (p.blk scope) elt τ' (.sh (f x))))
    (hf : ∀ env x, foldedSetIterable iter env x = pure x) : PX p (.ListComp elt [⟨tg, iter, [tst], 0⟩] scope pos) τ (.ow ((xs.filter c).map f)) :=
  (px_lcG (g := fun x => if c x then some (f x) else none) nd bk hi hn hw (fun x hx => by
    obtain ⟨τ', h1, h2, h3⟩ := turn x hx
    refine ⟨τ', h1, pts_one (h2.to (by cases c x <;> rfl)), fun y hy => ?_⟩
    cases hc : c x with
    | true => rw [hc] at hy; exact Option.some.inj hy ▸ h3 hc
    | false => rw [hc] at hy; cases hy) hf).to (congrArg Sl.ow (fm_eq c f xs))
theorem sx_lcF (G : Gd p m) (i : Nat) {c : α → Bool} {f : α → β} {tst : Expr} {y : Str} {py spos : Pos} (hN : p.N[i]? = some y) (hy : p.sc.names.lookup y = some .local) (hk : p.sc.kind = .function) (hl : (py.line == pos.line) = true) (ha : (scope.names.any fun (n, k) => n == y && (k == .local || k == .cell)) = false)
    (bk : BlkOk p.N p.sc scope own) (hi : IX p tg iter τ (xs.map fun x => .sh x)) (hn : xs.length ≤ sizeLine) (hw : ∀ j ∈ w, j ∈ own.map (·.2))
    (turn : ∀ x, x ∈ xs → ∃ τ', GX (p.blk scope) tg w (.sh x) (wipeT τ (own.map (·.2))) τ' ∧ PTx (p.blk scope) tst τ' (c x) ∧ (c x = true → PX (p.blk scope) elt τ' (.sh (f x))))
    (hf : ∀ env x, foldedSetIterable iter env x = pure x) (k : ∀ zs, zs = (xs.filter c).map f → SX p rest (τ.set i (.ow zs)) R) : SX p (.Assign [.Name y py] (.ListComp elt [⟨tg, iter, [tst], 0⟩] scope pos) spos :: rest) τ R := by
  refine sx_step (s_lcG (g := fun x => if c x then some (f x) else none) G.nd bk i hN hy hk hl ha hi hn hw (fun x hx => ?_) hf) (k _ (fm_eq c f xs))
  obtain ⟨τ', h1, h2, h3⟩ := turn x hx
  refine ⟨τ', h1, pts_one (h2.to (by cases c x <;> rfl)), fun y hy => ?_⟩
  cases hc : c x with
  | true => rw [hc] at hy; exact Option.some.inj hy ▸ h3 hc
  | false => rw [hc] at hy; cases hy
end
end Ly
namespace Ly
open PySem PySem.Spec PyProof.Rows L2
open Py
instance (sc : Scope) (x : Str) : Decidable (Vis sc x) := by unfold Vis; infer_instance
instance (sc : Scope) (x : Str) : Decidable (L2.Loc sc x) := by unfold L2.Loc; infer_instance
/-- slots forgotten -/
def Wk : List Sl → List Sl → Prop
  | [], [] => True
  | a :: as, b :: bs => (a = .un ∨ a = b) ∧ Wk as bs
  | _, _ => False
theorem Wk.len : ∀ {as bs : List Sl}, Wk as bs → as.length = bs.length
  | [], [], _ => rfl
  | _ :: _, _ :: _, h => by rw [List.length_cons, List.length_cons, Wk.len h.2]
  | [], _ :: _, h => h.elim
  | _ :: _, [], h => h.elim
theorem Wk.at : ∀ {as bs : List Sl}, Wk as bs → ∀ (i : Nat) (s : Sl), as[i]? = some s → s = .un ∨ bs[i]? = some s
  | [], [], _, i, s, e => by simp at e
  | a :: as, b :: bs, h, 0, s, e => by
    have e : a = s := Option.some.inj e
    subst e
    rcases h.1 with z | z
    · exact .inl z
    · exact .inr (by rw [z]; rfl)
  | a :: as, b :: bs, h, i + 1, s, e => Wk.at h.2 i s e
  | [], _ :: _, h, _, _, _ => h.elim
  | _ :: _, [], h, _, _, _ => h.elim
theorem sx_wk {p : Par} {τ τ' : List Sl} {R : Post} {sts : List Stmt} (w : Wk τ' τ) (h : SX p sts τ' R) : SX p sts τ R := sx_weak w.len w.at h
end Ly

namespace Ly
open PySem PySem.Spec PyProof.Rows L2
open Py
section
variable {p : Par} {m : Nat} {τ τ1 : List Sl} {R : Post} {st : Stmt} {sts rest : List Stmt} {e a b c o : Expr} {es : List Expr} {pos : Pos}
/-! ### in, not in -/
theorem any_dat {α : Type} [Py α] [PyEq α] [DecidableEq α] (x : α) : ∀ xs : List α, ((xs.map PyEq.dat).any fun z => PyData.eqv z (PyEq.dat x)) = decide (x ∈ xs)
  | [] => rfl
  | y :: r => by
    rw [List.map_cons, List.any_cons, any_dat x r, dec_eqv]
    rw [Bool.eq_iff_iff]
    simp only [Bool.or_eq_true, decide_eq_true_eq, List.mem_cons]
    exact ⟨fun h => h.imp Eq.symm id, fun h => h.imp Eq.symm id⟩
theorem shaped_list {α : Type} [Py α] [PyEq α] {K : PySem.W.Frag} {B : Hp} {v : V} {xs : List α} (r : rep K B v xs) (h : PyEq.d α ≤ 60) : SeqAt.shaped (.list (xs.map PyEq.dat)) = true :=
  shaped_of (α := List α) r (by show PyEq.d α + 1 ≤ 64; omega)
theorem c_inD {α : Type} [Py α] [PyEq α] [DecidableEq α] {x : α} {xs : List α} (h : PyEq.d α ≤ 60) : Cmp2 p .In x xs (decide (x ∈ xs)) := ⟨rInD p.K, fun X hX => by obtain ⟨k, rfl, _, room, _⟩ := hX; exact op_inD (by have := room.un; show X.A.units + 65 < _; omega),
  fun B H v u Q s r1 r2 q => ⟨_, _, PyEq.dp s r1, PyEq.dp (α := List α) s r2, shaped_of r1 (by omega), shaped_list r2 h, by rw [any_dat]; exact q⟩⟩
theorem c_notInD {α : Type} [Py α] [PyEq α] [DecidableEq α] {x : α} {xs : List α} (h : PyEq.d α ≤ 60) : Cmp2 p .NotIn x xs (!decide (x ∈ xs)) := ⟨rNotInD p.K, fun X hX => by obtain ⟨k, rfl, _, room, _⟩ := hX; exact op_notInD (by have := room.un; show X.A.units + 65 < _; omega),
  fun B H v u Q s r1 r2 q => ⟨_, _, PyEq.dp s r1, PyEq.dp (α := List α) s r2, shaped_of r1 (by omega), shaped_list r2 h, by rw [any_dat]; exact q⟩⟩
/-! ### None or one -/
theorem px_none {α : Type} [Py α] (h : PX p e τ (.sh ())) : PX p e τ (.sh (none : Option α)) := h.imp fun _ _ _ _ _ r => r
theorem px_some {α : Type} [Py α] {x : α} (h : PX p e τ (.sh x)) : PX p e τ (.sh (some x)) := h.imp fun _ _ _ _ _ r => r
theorem px_get {α : Type} [Py α] [Inhabited α] {x : Option α} (h : PX p e τ (.sh x)) (hx : (!x.isNone) = true) : PX p e τ (.sh (x.getD default)) := by
  cases x with
  | none => cases hx
  | some a => exact h.imp fun _ _ _ _ _ r => r
theorem sx_asgV {tg : Expr} {w : List Nat} {α : Type} [Py α] {x : α} {τ1 : α → List Sl} (he : PX p e τ (.sh x)) (hg : ∀ z, GX p tg w (.sh z) τ (τ1 z)) (hs : ∀ env, swapsWithSole [tg] e pos.line env = pure false) (hw : ∀ env, swappedStores [tg] e env = pure none)
    (h1 : ∀ env, (assignEach [tg] env).map (·.2) = [assign tg env]) (k : ∀ z, z = x → SX p rest (τ1 z) R) : SX p (.Assign [tg] e pos :: rest) τ R := sx_step (s_asg he (hg x) hs hw h1) (k x rfl)
/-! ### len, by kind -/
section
variable {pp : Pos} (hg : p.sc.names.lookup ("len" : Str) = some .globalImplicit) (hm : p.mg "len" = none)
include hg hm
theorem px_lenL {α : Type} [Py α] {x : List α} (ha : PX p e τ (.sh x)) (he : ∀ env, starEach [e] env = [(false, eval e env)] := by intro _; rfl) : PX p (.Call (.Name "len" pp) [e] [] pos) τ (.sh ((x.length : Nat) : Int)) := px_len hg hm ha he
theorem px_lenU {α : Type} [Py α] {x : Tup α} (ha : PX p e τ (.sh x)) (he : ∀ env, starEach [e] env = [(false, eval e env)] := by intro _; rfl) : PX p (.Call (.Name "len" pp) [e] [] pos) τ (.sh ((x.l.length : Nat) : Int)) := px_len hg hm ha he
theorem px_lenC {x : Scr} (ha : PX p e τ (.sh x)) (he : ∀ env, starEach [e] env = [(false, eval e env)] := by intro _; rfl) : PX p (.Call (.Name "len" pp) [e] [] pos) τ (.sh ((x.l.length : Nat) : Int)) := px_len hg hm ha he
theorem px_lenS {x : Str} (ha : PX p e τ (.sh x)) (he : ∀ env, starEach [e] env = [(false, eval e env)] := by intro _; rfl) : PX p (.Call (.Name "len" pp) [e] [] pos) τ (.sh ((x.length : Nat) : Int)) := px_len hg hm ha he
theorem px_len2 {α β : Type} [Py α] [Py β] {x : α × β} (ha : PX p e τ (.sh x)) (he : ∀ env, starEach [e] env = [(false, eval e env)] := by intro _; rfl) : PX p (.Call (.Name "len" pp) [e] [] pos) τ (.sh (2 : Int)) := px_len hg hm ha he
theorem px_len4 {α β γ δ : Type} [Py α] [Py β] [Py γ] [Py δ] {x : T4 α β γ δ} (ha : PX p e τ (.sh x)) (he : ∀ env, starEach [e] env = [(false, eval e env)] := by intro _; rfl) : PX p (.Call (.Name "len" pp) [e] [] pos) τ (.sh (4 : Int)) := px_len hg hm ha he
end
/-! ### numbers of any size -/
theorem px_fdivW {i j : Int} (ha : PX p a τ (.sh i)) (hb : PX p b τ (.sh j)) (hc : CDivW i j) : PX p (.BinOp a .FloorDiv b pos) τ (.sh (i / j)) := px_ii (fun _ _ => op_fdivW) ha hb hc
theorem px_mulW {i j : Int} (ha : PX p a τ (.sh i)) (hb : PX p b τ (.sh j)) (hc : CMulW i j) : PX p (.BinOp a .Mult b pos) τ (.sh (i * j)) := px_ii (fun _ _ => op_mulW) ha hb hc
/-! ### lists joined -/
theorem px_catL {α : Type} [Py α] {x y : List α} (ha : PX p a τ (.sh x)) (hb : PX p b τ (.sh y)) (hl : x.length + y.length ≤ sizeLine) : PX p (.BinOp a .Add b pos) τ (.ow (x ++ y)) :=
  px_op2 (fun _ _ => op_cat) ha hb fun B H v u Q s ⟨c, o1, e1, h1, vs, f1, r1⟩ ⟨d, o2, e2, h2, us, f2, r2⟩ q => by
    subst f1 f2
    refine ⟨c, d, vs, us, e1, e2, s _ _ h1.lst, s _ _ h2.lst, by rw [r1.length, r2.length]; exact hl, fun l hl => q B _ _ (Ext.made s hl) (vow ⟨l, _, rfl, hl, s.free hl, upd_same, _, rfl, r1.append r2⟩)⟩
theorem cut_le {α : Type} (xs : List α) (lo hi : Option Int) : (cut xs lo hi).length ≤ xs.length := by
  unfold cut
  rw [List.length_take, List.length_drop]
  omega
/-- the items of a written tuple of ints -/
theorem ix_flds {α : Type} [Py α] [Flds α] {x : α} {tg : Expr} (h : PX p e τ (.sh x)) : IX p tg e τ (Flds.fl x) := fun B0 H0 B H σ ok R q => by
  refine ⟨iTup p.K (EE p e), fun X hX => ?_, h B0 H0 B H σ ok _ fun B1 H1 v x1 r1 => ?_⟩
  · have hX' := hX
    obtain ⟨k, rfl, _⟩ := hX'
    exact pi_tup (ee hX)
  · obtain ⟨c, vs, e1, hc, r⟩ := Flds.ofr (show rep p.K B1 v x from r1)
    refine ⟨c, e1, ⟨vs, .of (x1.bh _ _ hc)⟩, q B1 H1 _ x1 fun B2 H2 s1 s2 => ⟨fun i s hi => ?_, vs, .of (s2 _ _ (s1 _ _ hc)), by rw [r.length]; exact Nat.le_refl _⟩⟩
    obtain ⟨v, hv, rv⟩ := r.get hi
    refine ⟨⟨vs, v, .of (s2 _ _ (s1 _ _ hc)), hv⟩, fun y H' hy => ⟨B2, ?_, ?_⟩⟩
    · rw [hy.1]; exact .refl s2
    · rw [show y = v from Option.some.inj ((hy.2 vs (.of (s2 _ _ (s1 _ _ hc)))).symm.trans hv)]
      cases s with
      | un => exact rv
      | sh z => exact Py.mono (.of s1) rv
      | ow z => exact rv
theorem ix_T4 {x : T4 Int Int Int Int} {tg : Expr} (h : PX p e τ (.sh x)) : IX p tg e τ ([x.a, x.b, x.c, x.d].map fun z => .sh z) := ix_flds h
/-! ### parts of written tuples -/
section
variable {α β γ δ ε : Type} [Py α] [Py β] [Py γ] [Py δ] [Py ε] {lo hi : Option Expr} {p2 : Pos}
theorem px_slT4_0_2 {x : T4 α β γ δ} (ha : PX p a τ (.sh x)) (hl : POx p lo τ none) (hu : POx p hi τ (some 2)) : PX p (.Subscript a (.Slice lo hi none p2) pos) τ (.sh (x.a, x.b)) :=
  px_slT (n := 4) ha hl hu rfl (by decide) fun B vs q r e => by
    have r : All2 (Shr p.K B) vs [.sh x.a, .sh x.b] := r
    cases r with
    | cons r1 r => cases r with
      | cons r2 r => cases r; exact ⟨q, _, _, rfl, e, r1, r2⟩
theorem px_slT5_1_3 {x : T5 α β γ δ ε} (ha : PX p a τ (.sh x)) (hl : POx p lo τ (some 1)) (hu : POx p hi τ (some 3)) : PX p (.Subscript a (.Slice lo hi none p2) pos) τ (.sh (x.b, x.c)) :=
  px_slT (n := 5) ha hl hu rfl (by decide) fun B vs q r e => by
    have r : All2 (Shr p.K B) vs [.sh x.b, .sh x.c] := r
    cases r with
    | cons r1 r => cases r with
      | cons r2 r => cases r; exact ⟨q, _, _, rfl, e, r1, r2⟩
end
/-! ### range with a step -/
def rngC (lo c : Int) (n : Nat) : List Int := (List.range n).map fun k => lo + (k : Nat) * c
theorem rngC_get {lo c : Int} {n i : Nat} {x : Int} (h : (rngC lo c n)[i]? = some x) : i < n ∧ x = lo + (i : Nat) * c := by
  unfold rngC at h
  rw [List.getElem?_map] at h
  obtain ⟨k, e, h⟩ := Option.map_eq_some_iff.mp h
  rw [List.getElem?_eq_some_iff] at e
  obtain ⟨h1, h2⟩ := e
  rw [List.length_range] at h1
  rw [List.getElem_range] at h2
  subst h2
  exact ⟨h1, h.symm⟩
theorem turns_rngC {K : PySem.W.Frag} {B1 : Hp} {lo c : Int} {n : Nat} : Turns K B1 (Itc lo c n) ((rngC lo c n).map fun x => .sh x) := fun B H s1 s2 => by
  refine ⟨fun i s hi => ?_, by show n ≤ _; rw [List.length_map]; unfold rngC; rw [List.length_map, List.length_range]; exact Nat.le_refl _⟩
  obtain ⟨x, hx, rfl⟩ := items_at hi
  obtain ⟨h1, rfl⟩ := rngC_get hx
  exact ⟨h1, fun y H' hy => ⟨B, by rw [hy.1]; exact .refl s2, hy.2⟩⟩
theorem ix_range3 {i j k : Int} (n : Nat) {tg : Expr} {pp : Pos} (hg : p.sc.names.lookup ("range" : Str) = some .globalImplicit) (hm : p.mg "range" = none) (ha : PX p a τ (.sh i)) (hb : PX p b τ (.sh j)) (hc : PX p c τ (.sh k)) (h : RgC i j k n)
    (hs : ∀ env, starEach [a, b, c] env = [(false, eval a env), (false, eval b env), (false, eval c env)] := by intro _; rfl) (hs2 : ∀ env, starEach [b, c] env = [(false, eval b env), (false, eval c env)] := by intro _; rfl) (hs3 : ∀ env, starEach [c] env = [(false, eval c env)] := by intro _; rfl) :
    IX p tg (.Call (.Name "range" pp) [a, b, c] [] pos) τ ((rngC i k n).map fun x => .sh x) := fun B0 H0 B H σ ok R q => by
  refine ⟨iRng3 (tCons (EE p a) (tCons (EE p b) (tCons (EE p c) tNil))), fun X hX => ?_, ha B0 H0 B H σ ok _ fun B1 H1 v x1 r1 => hb B0 H0 B1 H1 σ (ok.go x1) _ fun B2 H2 u x2 r2 => hc B0 H0 B2 H2 σ ((ok.go x1).go x2) _ fun B3 H3 w x3 r3 =>
    ⟨i, j, k, n, by rw [show v = .int i from r1, show u = .int j from r2, show w = .int k from r3], h, q B3 H3 _ ((x1.trans x2).trans x3) turns_rngC⟩⟩
  have hX' := hX
  obtain ⟨k, rfl, _⟩ := hX'
  exact pi_range3 hg hm (pa_cons (ee hX) (pa_cons (ee hX) (pa_cons (ee hX) pa_nil (hs3 _)) (by rw [hs2, hs3])) (by rw [hs, hs2])) (by rw [hs, hs2]) (by rw [hs2]; rfl)
end
end Ly

namespace Ly
open PySem PySem.Spec PyProof.Rows L2
open Py
/-! ### instances that are never changed behind their making -/
def objRep (K : PySem.W.Frag) (B : Hp) (v : V) (cn : Str) (fl : List (Str × Sl)) : Prop :=
  ∃ q C dx fs, v = .ref q ∧ PySem.W.nsIn K mainGlobals cn = some (some (.ref C)) ∧ B q = some (.ins C dx fs) ∧ All2 (fun f g => f.1 = g.1 ∧ Shr K B f.2 g.2) fs fl
theorem Shr.le {K : PySem.W.Frag} {B B' : Hp} {v : V} {s : Sl} (l : Le B B') (h : Shr K B v s) : Shr K B' v s := by
  cases s with
  | un => exact h
  | sh a => exact Py.mono l h
  | ow b => exact h
theorem objRep.mono {K : PySem.W.Frag} {B B' : Hp} {v : V} {cn : Str} {fl : List (Str × Sl)} (l : Le B B') (h : objRep K B v cn fl) : objRep K B' v cn fl := by
  obtain ⟨q, C, dx, fs, e, n, b, r⟩ := h
  exact ⟨q, C, dx, fs, e, n, l.ins b, r.imp fun _ _ h => ⟨h.1, h.2.le l⟩⟩
class Ins (α : Type) where
  cn : α → Str
  fl : α → List (Str × Sl)
instance {α : Type} [Ins α] : Py α := ⟨fun K B v a => objRep K B v (Ins.cn a) (Ins.fl a), fun l h => h.mono l⟩
/-- what a class must be, by its name -/
structure CF (K : PySem.W.Frag) (mg : Str → Option Value) (cn : Str) (C : Addr) : Prop where
  cls : Cls K C
  ns : PySem.W.nsIn K mainGlobals cn = some (some (.ref C))
  mg : mg cn = some (.ref C)
  mks : PySem.W.makesIn K C = true
  kp : PySem.W.keepIn K (.ref C) = true
theorem lookup_all {K : PySem.W.Frag} {B : Hp} {f : Str} : ∀ {fs : List (Str × V)} {fl : List (Str × Sl)}, All2 (fun f g => f.1 = g.1 ∧ Shr K B f.2 g.2) fs fl → (∀ s, fl.lookup f = some s → ∃ v, fs.lookup f = some v ∧ Shr K B v s) ∧ (fl.lookup f = none → fs.lookup f = none)
  | _, _, .nil => ⟨fun _ h => (by cases h), fun _ => rfl⟩
  | (a, v) :: fs, (b, s) :: fl, .cons ⟨e, r⟩ t => by
    have e : a = b := e
    subst e
    obtain ⟨h1, h2⟩ := lookup_all (f := f) t
    by_cases z : f = a
    · subst z
      simp only [List.lookup_cons_self]
      exact ⟨fun s' h => (by cases h; exact ⟨v, rfl, r⟩), fun h => (by cases h)⟩
    · have hb : (f == a) = false := beq_eq_false_iff_ne.mpr z
      simp only [List.lookup_cons, hb]
      exact ⟨h1, h2⟩
section
variable {p : Par} {τ τ1 : List Sl} {R : Post} {st : Stmt} {sts rest : List Stmt} {e a b o : Expr} {es : List Expr} {pos : Pos}
/-- o.f -/
theorem px_attr {α : Type} [Ins α] {x : α} {f : Str} {s : Sl} {C : Addr} (h : PX p o τ (.sh x)) (cf : CF p.K p.mg (Ins.cn x) C) (n : NoAttr p.K C f) (hl : (Ins.fl x).lookup f = some s) (hb : ∀ env, attributeBase o f env (eval o env) = eval o env) : PX p (.Attribute o f pos) τ s := fun B0 H0 B H σ ok Q q => by
  refine ⟨tFld p.K (EE p o) f, fun X hX => ?_, h B0 H0 B H σ ok _ fun B1 H1 v x1 r1 => ?_⟩
  · have hX' := hX
    obtain ⟨k, rfl, _⟩ := hX'
    exact pe_fld (ee hX) (hb _)
  · obtain ⟨c, C', dx, fs, e1, n1, b1, r⟩ := r1
    rw [cf.ns] at n1
    cases n1
    obtain ⟨v', hv, r2⟩ := (lookup_all (f := f) r).1 s hl
    refine ⟨c, C, dx, fs, v', e1, x1.bh _ _ b1, cf.cls, n, hv, q B1 H1 v' x1 ?_⟩
    cases s with
    | un => exact r2.elim
    | sh y => exact r2
    | ow y => exact r2.elim
/-- the def m of the class at C keeps its promise -/
def Calm (P : Program) (w : World) (K : PySem.W.Frag) (mg : Str → Option Value) (base : Heap) (k : Nat) (C : Addr) (m : Str) (ok : List Sl → Sl → Prop) : Prop :=
  ∃ (f : Addr) (fd : FuncData) (ps : List Str), FnOk P w K mg base CX0 k f fd ps (spT K ok) ∧ Meth K C m f ∧ Binds K fd ps []
/-- o.m(e, ..) -/
theorem px_meth {α : Type} [Ins α] {x : α} {m : Str} {apos : Pos} {as : List Sl} {s : Sl} {k : Nat} {C : Addr} {okf : List Sl → Sl → Prop} (h : PX p o τ (.sh x)) (cf : CF p.K p.mg (Ins.cn x) C) (hl : (Ins.fl x).lookup m = none)
    (G : Calm p.P p.w p.K p.mg p.base k C m okf) (hk : k ≤ p.k) (ha : PAx p (e :: es) τ as) (ho : okf (.sh x :: as) s) {pl : Sem Bool} (he : ∀ env, starEach (e :: es) env = (false, eval e env) :: starEach es env) (hpl : ∀ env, (backTo pos (starEach es env)).any (·.1) = false)
    (ht : ∀ env, eval (.Call (.Attribute o m apos) (e :: es) [] pos) env = (do
      let ov ← eval o env
      standAt apos.atName
      let (f, first) ← holding [ov] (getMethod ov m pl)
      callWith pos f first (backTo pos (starEach (e :: es) env)) (backToKw pos (keywordEach [] env)))) : PX p (.Call (.Attribute o m apos) (e :: es) [] pos) τ s := fun B0 H0 B H σ ok Q q => by
  obtain ⟨f, fd, ps, F, hm, bd⟩ := G
  refine ⟨tMeth C m (spT p.K okf) [] E0 (EE p o) (EA p (e :: es)), fun X hX => ?_, h B0 H0 B H σ ok _ fun B1 H1 v x1 r1 => ?_⟩
  · have hX' := hX
    obtain ⟨j, rfl, calm, room, _⟩ := hX'
    exact pe_meth (ee hX) cf.cls hm F (room.mono hk) bd .nil pass0 (ea hX) (he _) (hpl _) (ht _)
  · obtain ⟨c, C', dx, fs, e1, n1, b1, r⟩ := id r1
    rw [cf.ns] at n1
    cases n1
    refine ⟨c, dx, fs, e1, x1.bh _ _ b1, (lookup_all (f := m) r).2 hl, ha B0 H0 B1 H1 σ (ok.go x1) _ fun B2 H2 vs x2 r2 => ?_⟩
    refine ⟨B2, .sh x :: as, s, x2.bh, ?_, ho, fun B' H' v' x3 r3 => q B' H' v' ((x1.trans x2).trans x3) (r3.base (x1.trans x2).hh)⟩
    rw [List.append_nil]
    exact .cons (Py.mono (.of x2.bb) (show rep p.K B1 v x from r1)) r2
/-- o.m() -/
theorem px_meth0 {α : Type} [Ins α] {x : α} {m : Str} {apos : Pos} {s : Sl} {k : Nat} {C : Addr} {okf : List Sl → Sl → Prop} (h : PX p o τ (.sh x)) (cf : CF p.K p.mg (Ins.cn x) C) (hl : (Ins.fl x).lookup m = none)
    (G : Calm p.P p.w p.K p.mg p.base k C m okf) (hk : k ≤ p.k) (ho : okf [.sh x] s) {pl : Sem Bool}
    (ht : ∀ env, eval (.Call (.Attribute o m apos) [] [] pos) env = (do
      let ov ← eval o env
      standAt apos.atName
      let (f, first) ← holding [ov] (getMethod ov m pl)
      callWith pos f first (backTo pos (starEach [] env)) (backToKw pos (keywordEach [] env)))) : PX p (.Call (.Attribute o m apos) [] [] pos) τ s := fun B0 H0 B H σ ok Q q => by
  obtain ⟨f, fd, ps, F, hm, bd⟩ := G
  refine ⟨tMeth C m (spT p.K okf) [] E0 (EE p o) tNil, fun X hX => ?_, h B0 H0 B H σ ok _ fun B1 H1 v x1 r1 => ?_⟩
  · have hX' := hX
    obtain ⟨j, rfl, calm, room, _⟩ := hX'
    exact pe_meth0 (ee hX) cf.cls hm F (room.mono hk) bd .nil pass0 (ht _)
  · obtain ⟨c, C', dx, fs, e1, n1, b1, r⟩ := id r1
    rw [cf.ns] at n1
    cases n1
    refine ⟨c, dx, fs, e1, x1.bh _ _ b1, (lookup_all (f := m) r).2 hl, B1, [.sh x], s, x1.bh, ?_, ho, fun B' H' v' x3 r3 => q B' H' v' (x1.trans x3) (r3.base x1.hh)⟩
    exact .cons r1 .nil
/-! ### making them -/
theorem run_make00 {X : Cx} {pins : List (Addr × Obj)} {σ : L2.St} {H : Hp} {s : Shared} {C : Addr} {Q : VK} (hm : PySem.W.makesIn X.K C = true) (hi : PySem.W.findIn X.K (.ref C) "__init__" = some (some (.builtin "object.__init__"))) (I : Inv X pins σ H s)
    (h : ∀ x dx, H x = none → H dx = none → dx ≠ x → Q (.ref x) (upd (upd H dx (.own x)) x (.ins C dx []))) : wpAny (model X.prog X.w) X.A (call (.ref C) []) (EP X pins σ Q) X.xe s := by
  have hq := h (s.heap.objs.size + 1) s.heap.objs.size (I.hok.fresh (Nat.le_succ _)) (I.hok.fresh (Nat.le_refl _)) (Nat.ne_of_lt (Nat.lt_succ_self _))
  have I2 := Inv.made (C := C) I
  have Y := PySem.W.makes_of (M := model X.prog X.w) I.kIn hm
  have g2 : ((s.heap.push PySem.W.emptyDict).push (PySem.W.instObj C s.heap.objs.size)).get? (s.heap.objs.size + 1) = some (PySem.W.instObj C s.heap.objs.size) := by
    have := Heap.get?_push_size (s.heap.push PySem.W.emptyDict) (o := PySem.W.instObj C s.heap.objs.size) rfl
    rwa [Heap.size_push] at this
  refine wpAny_call (make_map0 I.kIn hm hi (fun self => PySem.W.Looks.of_pure (PySem.W.oi_bind self)) ?_)
  have t1 : PySem.W.Looks (model X.prog X.w) ((s.heap.push PySem.W.emptyDict).push (PySem.W.instObj C s.heap.objs.size)) (typeOf (.ref (s.heap.objs.size + 1))) (.ref C) := (PySem.W.Looks.ld g2).andThen .now
  have t2 : PySem.W.Looks (model X.prog X.w) ((s.heap.push PySem.W.emptyDict).push (PySem.W.instObj C s.heap.objs.size)) (isInstance (.ref (s.heap.objs.size + 1)) (.type "object")) true := t1.andThen (Y.top.keeps fun b o e => Heap.get?_push_of_some _ (Heap.get?_push_of_some _ e))
  refine codeAny_call_builtin PySem.W.oi_plain PySem.W.entry_oi (@PySem.W.check_slot (model X.prog X.w) _ _ _ "object.__init__" "object" "__init__" (.ref (s.heap.objs.size + 1)) [] [] _ PySem.W.oi_kind PySem.W.oi_split t2 (PySem.W.oi_args (.ref (s.heap.objs.size + 1))) ?_)
  rw [PySem.W.oi_run]
  exact wpAny_pure (And.intro rfl ⟨V.ref (s.heap.objs.size + 1), _, I2, rfl, hq⟩)
def tMake00 (C : Addr) : TE := fun _ H Q => ∀ x dx, H x = none → H dx = none → dx ≠ x → Q (.ref x) (upd (upd H dx (.own x)) x (.ins C dx []))
theorem pe_make00 {X : Cx} {C : Addr} {x : Str} {pp : Pos} (hm : PySem.W.makesIn X.K C = true) (hi : PySem.W.findIn X.K (.ref C) "__init__" = some (some (.builtin "object.__init__"))) (kp : PySem.W.keepIn X.K (.ref C) = true) (hg : Gl X x) (hmg : X.mg x = some (.ref C))
    (hdb : (x == ("__debug__" : Str)) = false) : PE X (.Call (.Name x pp) [] [] pos) (tMake00 C) := by
  refine ⟨fun pins s σ H Q I h => ?_⟩
  refine wpAny_Call_Name_kw (ld_glob I hg hmg ?_ hdb)
  exact PySem.W.callWith_K0 I.kIn kp (run_make00 hm hi I h)
/-- a new instance with its attributes, readable at once -/
theorem ext_ins {B H : Hp} (s : Same B H) {x dx C : Addr} {fs : List (Str × V)} (nx : H x = none) (nd : H dx = none) (ne : dx ≠ x) : Ext B H (upd (upd B dx (.own x)) x (.ins C dx fs)) (upd (upd H dx (.own x)) x (.ins C dx fs)) := by
  have e1 := Ext.laid (o := .own x) s nd
  have nx' : (upd H dx (.own x)) x = none := by rw [upd_ne (Ne.symm ne)]; exact nx
  exact e1.trans (Ext.laid (o := .ins C dx fs) e1.bh nx')
/-- C(), no __init__ -/
def CalN0 (K : PySem.W.Frag) (mg : Str → Option Value) (cn : Str) : Prop := ∃ C, CF K mg cn C ∧ PySem.W.findIn K (.ref C) "__init__" = some (some (.builtin "object.__init__"))
theorem px_new0 {α : Type} [Ins α] {x : α} {cn : Str} {pp : Pos} (G : CalN0 p.K p.mg cn) (hcn : Ins.cn x = cn) (hfl : Ins.fl x = []) (hg : p.sc.names.lookup cn = some .globalImplicit) (hdb : (cn == ("__debug__" : Str)) = false) : PX p (.Call (.Name cn pp) [] [] pos) τ (.sh x) := fun B0 H0 B H σ ok Q q => by
  obtain ⟨C, cf, hi⟩ := G
  refine ⟨tMake00 C, fun X hX => ?_, fun y dx nx nd ne => ?_⟩
  · have hX' := hX
    obtain ⟨k, rfl, _⟩ := hX'
    exact pe_make00 cf.mks hi cf.kp hg cf.mg hdb
  · refine q _ _ _ (ext_ins ok.bh nx nd ne) ⟨y, C, dx, [], rfl, by rw [hcn]; exact cf.ns, upd_same, by rw [hfl]; exact .nil⟩
/-- __init__ of one attribute: self.f = v -/
def spI1 (C : Addr) (f : Str) : Sp := fun vs H Q _ => ∃ q dx v, vs = [.ref q, v] ∧ H q = some (.ins C dx []) ∧ Q .non (upd H q (.ins C dx [(f, v)]))
def CalN1 (P : Program) (w : World) (K : PySem.W.Frag) (mg : Str → Option Value) (base : Heap) (k : Nat) (cn f : Str) : Prop :=
  ∃ (C g : Addr) (fd : FuncData) (ps : List Str), CF K mg cn C ∧ PySem.W.findIn K (.ref C) "__init__" = some (some (.ref g)) ∧ PySem.W.isFn K (.ref g) = true ∧ FnOk P w K mg base CX0 k g fd ps (spI1 C f) ∧ Binds K fd ps []
theorem px_new1 {α β : Type} [Ins α] [Py β] {x : α} {y : β} {cn f : Str} {pp : Pos} {k : Nat} (G : CalN1 p.P p.w p.K p.mg p.base k cn f) (hk : k + 1 ≤ p.k) (hcn : Ins.cn x = cn) (hfl : Ins.fl x = [(f, .sh y)]) (hg : p.sc.names.lookup cn = some .globalImplicit) (ha : PX p e τ (.sh y)) (hdb : (cn == ("__debug__" : Str)) = false)
    (he : ∀ env, starEach [e] env = [(false, eval e env)]) : PX p (.Call (.Name cn pp) [e] [] pos) τ (.sh x) := fun B0 H0 B H σ ok Q q => by
  obtain ⟨C, g, fd, ps, cf, hi, hf, F, bd⟩ := G
  refine ⟨tMake C (spI1 C f) [] E0 (tCons (EE p e) tNil), fun X hX => ?_, ha B0 H0 B H σ ok _ fun B1 H1 v x1 r1 z dx nz nd ne => ?_⟩
  · have hX' := hX
    obtain ⟨j, rfl, calm, room, _⟩ := hX'
    exact pe_make ⟨cf.mks, hi, hf, cf.kp⟩ F (room.mono hk) hg cf.mg bd .nil pass0 (pa_cons (ee hX) pa_nil (he _)) hdb (he _) rfl
  · refine ⟨z, dx, v, rfl, upd_same, rfl, ?_⟩
    rw [upd_upd]
    have x2 := ext_ins (C := C) (fs := [(f, v)]) x1.bh nz nd ne
    exact q _ _ _ (x1.trans x2) ⟨z, C, dx, _, rfl, by rw [hcn]; exact cf.ns, upd_same, by rw [hfl]; exact .cons ⟨rfl, Py.mono (.of x2.bb) (show rep p.K B1 v y from r1)⟩ .nil⟩
/-- the body of such an __init__ -/
theorem fn_init1 {P : Program} {w : World} {K : PySem.W.Frag} {mg : Str → Option Value} {base : Heap} {qual : Str} {f C : Addr} {fd : FuncData} {sf x fld : Str} {p1 p2 p3 p4 : Pos} (F : Fun K "__init__" qual st f fd) (S : FnScope [sf, x] [sf, x] (defScope st)) (cl : Cls K C) (na : NoAttr K C fld)
    (hb : defBody st = [.Assign [.Attribute (.Name sf p1) fld p2] (.Name x p3) p4]) (h1 : (sf == ("__debug__" : Str)) = false) (h2 : (sf == ("__classdict__" : Str)) = false) (h3 : (x == ("__debug__" : Str)) = false) (h4 : (x == ("__classdict__" : Str)) = false)
    (hs : ∀ env, swapsWith (.Name x p3) (some (.Attribute (.Name sf p1) fld p2)) p4.line env = pure false) : FnOk P w K mg base CX0 1 f fd [sf, x] (spI1 C fld) := by
  refine F.ok S (fun vs H Q E h => ?_) (fun cdv A outer s H vs Q E hr h => ?_)
  · obtain ⟨q, dx, v, rfl, _⟩ := h
    rfl
  · obtain ⟨q, dx, v, rfl, hq, k⟩ := h
    have v1 : Vis (defScope st) sf := (S.par sf (by simp)).elim .inl fun h => .inr (.inl h)
    have v2 : Vis (defScope st) x := (S.par x (by simp)).elim .inl fun h => .inr (.inl h)
    rw [hb]
    refine ⟨_, pss_one (ps_fld (pe_var (i := 0) rfl v1 h1 h2) (pe_var (i := 1) rfl v2 h3 h4) (hs _)), ?_⟩
    refine ⟨v, rfl, .ref q, rfl, q, C, dx, [], rfl, hq, cl, na, (by show 0 < 1000; decide), ?_⟩
    exact k
end
end Ly

namespace Ly
open PySem PySem.Spec PyProof.Rows L2
open Py
/-! ### tables of Lean -/
section
variable {κ α : Type} [DecidableEq κ]
def aget (l : List (κ × α)) (k : κ) : Option α := (l.find? fun kv => decide (kv.1 = k)).map (·.2)
def aput (l : List (κ × α)) (k : κ) (v : α) : List (κ × α) :=
  if (l.any fun kv => decide (kv.1 = k)) = true then l.map (fun kv => if kv.1 = k then (kv.1, v) else kv) else l ++ [(k, v)]
theorem aget_cons (p : κ × α) (l : List (κ × α)) (k : κ) : aget (p :: l) k = if p.1 = k then some p.2 else aget l k := by
  unfold aget
  by_cases h : p.1 = k
  · rw [List.find?_cons_of_pos (by simpa using h), if_pos h]; rfl
  · rw [List.find?_cons_of_neg (by simpa using h), if_neg h]
theorem any_aget (l : List (κ × α)) (k : κ) : (l.any fun kv => decide (kv.1 = k)) = (aget l k).isSome := by
  induction l with
  | nil => rfl
  | cons p r ih =>
    rw [List.any_cons, aget_cons]
    by_cases h : p.1 = k
    · rw [if_pos h, decide_eq_true h]; rfl
    · rw [if_neg h, decide_eq_false h, Bool.false_or]; exact ih
theorem aput_len (l : List (κ × α)) (k : κ) (v : α) : (aput l k v).length ≤ l.length + 1 := by
  unfold aput
  split
  · rw [List.length_map]; omega
  · rw [List.length_append]; exact Nat.le_refl _
theorem aput_new {l : List (κ × α)} {k : κ} (v : α) (h : aget l k = none) : aput l k v = l ++ [(k, v)] := by
  unfold aput
  rw [any_aget, h]
  exact if_neg Bool.false_ne_true
theorem aget_append (l : List (κ × α)) (k j : κ) (v : α) : aget (l ++ [(k, v)]) j = match aget l j with | some x => some x | none => if k = j then some v else none := by
  induction l with
  | nil => rw [List.nil_append, aget_cons]; rfl
  | cons p r ih =>
    rw [List.cons_append, aget_cons, aget_cons]
    by_cases h : p.1 = j
    · rw [if_pos h, if_pos h]
    · rw [if_neg h, if_neg h, ih]
theorem aget_map (l : List (κ × α)) (k j : κ) (v : α) : aget (l.map fun kv => if kv.1 = k then (kv.1, v) else kv) j = (aget l j).map fun x => if j = k then v else x := by
  induction l with
  | nil => rfl
  | cons p r ih =>
    rw [List.map_cons, aget_cons, aget_cons, ih]
    by_cases e : p.1 = k
    · rw [if_pos e]
      by_cases h : p.1 = j
      · rw [if_pos h, if_pos h, Option.map_some, if_pos (h.symm.trans e)]
      · rw [if_neg h, if_neg h]
    · rw [if_neg e]
      by_cases h : p.1 = j
      · rw [if_pos h, if_pos h, Option.map_some, if_neg (fun z => e (h.trans z))]
      · rw [if_neg h, if_neg h]
theorem aget_put (l : List (κ × α)) (k j : κ) (v : α) : aget (aput l k v) j = if j = k then some v else aget l j := by
  unfold aput
  rw [any_aget]
  cases h : aget l k with
  | none =>
    rw [if_neg (show ¬ (none : Option α).isSome = true from Bool.false_ne_true), aget_append]
    by_cases e : j = k
    · subst e
      rw [if_pos rfl, h, if_pos rfl]
    · rw [if_neg e, if_neg (fun z => e z.symm)]
      cases aget l j <;> rfl
  | some x =>
    rw [if_pos (by rfl), aget_map]
    by_cases e : j = k
    · subst e
      rw [if_pos rfl, h, Option.map_some, if_pos rfl]
    · rw [if_neg e]
      cases aget l j with
      | none => rfl
      | some y => rw [Option.map_some, if_neg e]
theorem aget_mem {l : List (κ × α)} {k : κ} {v : α} (h : aget l k = some v) : (k, v) ∈ l := by
  induction l with
  | nil => cases h
  | cons p r ih =>
    rw [aget_cons] at h
    by_cases e : p.1 = k
    · rw [if_pos e] at h
      cases h
      subst e
      exact List.mem_cons_self
    · rw [if_neg e] at h
      exact List.mem_cons_of_mem _ (ih h)
theorem aget_keys {l : List (κ × α)} {k : κ} : (aget l k).isSome = true ↔ k ∈ l.map (·.1) := by
  rw [← any_aget, List.any_eq_true, List.mem_map]
  constructor
  · rintro ⟨p, h, e⟩; exact ⟨p, h, by simpa using e⟩
  · rintro ⟨p, h, e⟩; exact ⟨p, h, by simpa using e⟩
end
/-! ### keys -/
class KeyF (κ : Type) [Py κ] where
  kf : κ → Key
  inj : ∀ {a b : κ}, kf a = kf b → a = b
  okk : κ → Prop
  to : ∀ {K : PySem.W.Frag} {B : Hp} {v : V} {k : κ}, rep K B v k → v = kV (kf k) ∧ okk k
  of : ∀ {K : PySem.W.Frag} {B : Hp} {k : κ}, okk k → rep K B (kV (kf k)) k
instance : KeyF Int := ⟨.inl, fun h => Sum.inl.inj h, fun _ => True, fun r => ⟨r, trivial⟩, fun _ => rfl⟩
instance : KeyF Str := ⟨.inr, fun h => Sum.inr.inj h, SG, fun r => ⟨r.1, r.2⟩, fun h => ⟨rfl, h⟩⟩
class KeyT (κ : Type) [Py κ] where
  kt : κ → List Key
  inj : ∀ {a b : κ}, kt a = kt b → a = b
  okk : κ → Prop
  to : ∀ {K : PySem.W.Frag} {B : Hp} {v : V} {k : κ}, rep K B v k → (∃ b, v = .ref b ∧ B b = some (.tup ((kt k).map kV))) ∧ okk k
  of : ∀ {K : PySem.W.Frag} {B : Hp} {b : Addr} {k : κ}, okk k → B b = some (.tup ((kt k).map kV)) → rep K B (.ref b) k
instance {α β : Type} [Py α] [Py β] [KeyF α] [KeyF β] : KeyT (α × β) := ⟨fun t => [KeyF.kf t.1, KeyF.kf t.2], fun {a b} h => by
    injection h with h1 h2
    injection h2 with h2 _
    exact Prod.ext (KeyF.inj h1) (KeyF.inj h2), fun t => KeyF.okk t.1 ∧ KeyF.okk t.2, fun ⟨p, x, y, e, h, r, q⟩ => by
    obtain ⟨e1, k1⟩ := KeyF.to r
    obtain ⟨e2, k2⟩ := KeyF.to q
    subst e1 e2
    exact ⟨⟨p, e, h⟩, k1, k2⟩, fun k h => ⟨_, _, _, rfl, h, KeyF.of k.1, KeyF.of k.2⟩⟩
/-- what a dict by such keys is, what may be done -/
class PKey (κ : Type) [Py κ] [DecidableEq κ] where
  obj : List (κ × V) → HO
  okk : κ → Prop
  rok : ∀ {K : PySem.W.Frag} {B : Hp} {v : V} {k : κ}, rep K B v k → okk k
  fz : ∀ o kvs, nrm (.frz o (obj kvs)) = obj kvs
  nn : ∀ kvs, nrm (obj kvs) = obj kvs
  len : ∀ X : Cx, CallR X (.builtin "len") fun xs H Q => ∃ a kvs, xs = [.ref a] ∧ Rd H a (obj kvs) ∧ Q (.int ((kvs.length : Nat) : Int)) H
  nz : ∀ {o kvs}, nrm o = obj kvs → o = obj kvs ∨ ∃ ob, o = .frz ob (obj kvs)
  nt : ∀ kvs xs, obj kvs ≠ .tup xs
  mu : ∀ kvs, Mut (some (obj kvs))
  get : ∀ {K : PySem.W.Frag} {B H : Hp} {a : Addr} {kvs v k}, Same B H → Rd H a (obj kvs) → rep K B v k → DGet H a v (valV kvs k)
  put : ∀ {K : PySem.W.Frag} {B H : Hp} {a : Addr} {kvs v k w}, Same B H → H a = some (obj kvs) → rep K B v k → kvs.length < sizeLine → DPut H a v w (upd H a (obj (putK kvs k w)))
  isd : ∀ {H : Hp} {a : Addr} {kvs}, Rd H a (obj kvs) → IsD H a
  new : ∀ (X : Cx) (pos : Pos), PE X (.Dict [] [] pos) fun _ H Q => ∀ p, H p = none → Q (.ref p) (upd H p (obj []))
  itk : Addr → Obj → List (κ × V) → It
  ik : ∀ {H : Hp} {R : It → Hp → Prop} {d : Addr} {o : Obj} {kvs}, H d = some (.frz o (obj kvs)) → R (itk d o kvs) H → ((∃ kvs, H d = some (.frz o (.dK kvs)) ∧ R (Itk d o kvs) H) ∨ ∃ kvs, H d = some (.frz o (.dT kvs)) ∧ R (Itkt d o kvs) H)
  turns : ∀ {K : PySem.W.Frag} {B1 : Hp} {d o kvs}, B1 d = some (.frz o (obj kvs)) → (∀ p ∈ kvs, okk p.1) → Turns K B1 (itk d o kvs) (kvs.map fun p => .sh p.1)
section
variable {κ α : Type} [DecidableEq κ]
theorem valV_inj {μ : Type} [DecidableEq μ] {f : κ → μ} (inj : ∀ {a b}, f a = f b → a = b) : ∀ (kvs : List (κ × V)) (k : κ), valV (kvs.map fun p => (f p.1, p.2)) (f k) = valV kvs k
  | [], _ => rfl
  | p :: r, k => by
    rw [List.map_cons]
    by_cases e : p.1 = k
    · rw [valV_pos (p := p) e, valV_pos (p := (f p.1, p.2)) (by show f p.1 = f k; rw [e])]
    · rw [valV_neg (p := p) e, valV_neg (p := (f p.1, p.2)) (fun z => e (inj z)), valV_inj inj r k]
theorem putK_inj {μ : Type} [DecidableEq μ] {f : κ → μ} (inj : ∀ {a b}, f a = f b → a = b) (kvs : List (κ × V)) (k : κ) (v : V) : putK (kvs.map fun p => (f p.1, p.2)) (f k) v = (putK kvs k v).map fun p => (f p.1, p.2) := by
  unfold putK
  rw [valV_any, valV_any, valV_inj inj]
  split
  · rw [List.map_map, List.map_map]
    refine List.map_congr_left fun p _ => ?_
    show (if f p.1 = f k then _ else _) = _
    by_cases e : p.1 = k
    · rw [if_pos (by rw [e])]
      show _ = (f (if p.1 = k then (p.1, v) else p).1, (if p.1 = k then (p.1, v) else p).2)
      rw [if_pos e]
    · rw [if_neg (fun z => e (inj z))]
      show _ = (f (if p.1 = k then (p.1, v) else p).1, (if p.1 = k then (p.1, v) else p).2)
      rw [if_neg e]
  · rw [List.map_append]; rfl
end
theorem itemsK_at {κ : Type} [Py κ] {kvs : List (κ × V)} {i : Nat} {s : Sl} (h : (kvs.map fun p => Sl.sh p.1)[i]? = some s) : ∃ k v, kvs[i]? = some (k, v) ∧ s = .sh k := by
  rw [List.getElem?_map] at h
  obtain ⟨⟨k, v⟩, e, h⟩ := Option.map_eq_some_iff.mp h
  exact ⟨k, v, e, h.symm⟩
instance pkF {κ : Type} [Py κ] [DecidableEq κ] [KeyF κ] : PKey κ where
  obj kvs := .dK (kvs.map fun p => (KeyF.kf p.1, p.2))
  okk := KeyF.okk
  rok r := (KeyF.to r).2
  fz _ _ := rfl
  nn _ := rfl
  len X := by
    intro pins s σ H xs us Q I r h
    obtain ⟨a, kvs, rfl, ha, q⟩ := h
    obtain ⟨u, rfl, ru⟩ := vals1 r
    cases ru
    refine d_len I ha fun t s' I' => ⟨.int ((kvs.length : Nat) : Int), H, I', ⟨t, by rw [List.length_map]⟩, q⟩
  nz {o kvs} n := by
    cases o with
    | dK l => exact .inl (by simpa [nrm] using n)
    | frz ob u => cases u <;> simp [nrm] at n; exact .inr ⟨ob, by rw [n]⟩
    | _ => simp [nrm] at n
  nt _ _ z := by cases z
  mu _ := trivial
  get s h r := by
    obtain ⟨e, _⟩ := KeyF.to r
    exact .inl ⟨_, _, h, e, (valV_inj KeyF.inj _ _).symm⟩
  put s h r l := by
    obtain ⟨e, _⟩ := KeyF.to r
    exact .inl ⟨_, _, h, e, by rw [List.length_map]; exact l, by rw [putK_inj KeyF.inj]⟩
  isd h := .inl ⟨_, h⟩
  new X pos := pe_dnewK
  itk d o kvs := Itk d o (kvs.map fun p => (KeyF.kf p.1, p.2))
  ik h q := .inl ⟨_, h, q⟩
  turns {K B1 d o kvs} hd hk := fun B H s1 s2 => by
    have hH := s2 _ _ (s1 _ _ hd)
    refine ⟨fun i s hi => ?_, hH, by rw [List.length_map, List.length_map]; exact Nat.le_refl _⟩
    obtain ⟨k, v, e, rfl⟩ := itemsK_at hi
    refine ⟨⟨hH, by rw [List.length_map]; exact lt_of_get e⟩, fun x H' y => ⟨B, by rw [y.1]; exact .refl s2, ?_⟩⟩
    obtain ⟨_, k', v', e', ex⟩ := y
    rw [List.getElem?_map, e] at e'
    cases e'
    rw [ex]
    exact KeyF.of (hk _ (List.mem_of_getElem? e))
theorem Same.tupR {B : Hp} {p : Addr} {xs : List V} (h : B p = some (.tup xs) ∨ B p = none) : Same B (upd B p (.tup xs)) := fun a o e => by
  by_cases z : a = p
  · subst z
    rw [upd_same]
    rcases h with h | h
    · rw [← h]; exact e
    · rw [h] at e; cases e
  · rw [upd_ne z]; exact e
instance pkT {κ : Type} [Py κ] [DecidableEq κ] [KeyT κ] : PKey κ where
  obj kvs := .dT (kvs.map fun p => (KeyT.kt p.1, p.2))
  okk := KeyT.okk
  rok r := (KeyT.to r).2
  fz _ _ := rfl
  nn _ := rfl
  len X := by
    intro pins s σ H xs us Q I r h
    obtain ⟨a, kvs, rfl, ha, q⟩ := h
    obtain ⟨u, rfl, ru⟩ := vals1 r
    cases ru
    obtain ⟨z, hd, ys, rel, dd⟩ := dt_rd I.hok ha
    have hl := Paired.length rel
    rw [List.length_map] at hl z
    refine call_len_dictH hd dd (by rw [← hl]; rw [sizeLine_eq] at z; omega) ?_
    rw [← hl]
    exact ⟨.int ((kvs.length : Nat) : Int), H, I.tok _, ⟨_, rfl⟩, q⟩
  nz {o kvs} n := by
    cases o with
    | dT l => exact .inl (by simpa [nrm] using n)
    | frz ob u => cases u <;> simp [nrm] at n; exact .inr ⟨ob, by rw [n]⟩
    | _ => simp [nrm] at n
  nt _ _ z := by cases z
  mu _ := trivial
  get s h r := by
    obtain ⟨⟨b, e, hb⟩, _⟩ := KeyT.to r
    exact .inr ⟨_, _, b, h, e, s _ _ hb, (valV_inj KeyT.inj _ _).symm⟩
  put s h r l := by
    obtain ⟨⟨b, e, hb⟩, _⟩ := KeyT.to r
    exact .inr ⟨_, _, b, h, e, s _ _ hb, by rw [List.length_map]; exact l, by rw [putK_inj KeyT.inj]⟩
  isd h := .inr ⟨_, h⟩
  new X pos := pe_dnewT
  itk d o kvs := Itkt d o (kvs.map fun p => (KeyT.kt p.1, p.2))
  ik h q := .inr ⟨_, h, q⟩
  turns {K B1 d o kvs} hd hk := fun B H s1 s2 => by
    have hH := s2 _ _ (s1 _ _ hd)
    refine ⟨fun i s hi => ?_, hH, by rw [List.length_map, List.length_map]; exact Nat.le_refl _⟩
    obtain ⟨k, v, e, rfl⟩ := itemsK_at hi
    refine ⟨⟨hH, by rw [List.length_map]; exact lt_of_get e⟩, fun x H' y => ?_⟩
    obtain ⟨eH, k', v', q, e', ex, hq⟩ := y
    rw [List.getElem?_map, e] at e'
    cases e'
    subst ex eH
    exact ⟨upd B q (.tup ((KeyT.kt k).map kV)), Ext.tupR s2 hq, KeyT.of (hk _ (List.mem_of_getElem? e)) upd_same⟩
/-! ### dicts -/
structure Dct (κ α : Type) where
  l : List (κ × α)
  deriving DecidableEq, Inhabited
section
variable {κ α : Type} [Py κ] [DecidableEq κ] [PKey κ] [Py α]
def Dr (K : PySem.W.Frag) (B : Hp) : κ × V → κ × α → Prop := fun p q => p.1 = q.1 ∧ PKey.okk q.1 ∧ rep K B p.2 q.2
theorem Dr.mono {K : PySem.W.Frag} {B B' : Hp} (l : Le B B') {p : κ × V} {q : κ × α} (h : Dr K B p q) : Dr K B' p q := ⟨h.1, h.2.1, Py.mono l h.2.2⟩
theorem nt_of {kvs : List (κ × V)} {o : HO} (e : o = PKey.obj kvs) : ∀ xs, o ≠ .tup xs := fun xs z => PKey.nt kvs xs (by rw [← e, z])
instance : Ob (Dct κ α) := ⟨fun K B o d => ∃ kvs, o = PKey.obj kvs ∧ All2 (Dr K B) kvs d.l, fun l ⟨kvs, e, r⟩ => ⟨kvs, e, r.imp fun _ _ h => h.mono l⟩, fun ⟨kvs, e, _⟩ => nt_of e⟩
instance [Imm α] : ImmF (Dct κ α) := ⟨fun l ⟨kvs, e, r⟩ => ⟨kvs, e, r.imp fun _ _ h => ⟨h.1, h.2.1, Imm.keep l h.2.2⟩⟩⟩
theorem rn_rd {B : Hp} {a : Addr} {kvs : List (κ × V)} (h : Rn B a (PKey.obj kvs)) : Rd B a (PKey.obj kvs) := by
  obtain ⟨o, e, n⟩ := h
  rw [PKey.nn] at n
  rcases PKey.nz n with z | ⟨ob, z⟩
  · exact .inl (by rw [e, z])
  · exact .inr ⟨ob, by rw [e, z]⟩
theorem rd_same {B H : Hp} {a : Addr} {u : HO} (s : Same B H) (h : Rd B a u) : Rd H a u := h.elim (fun e => .inl (s _ _ e)) fun ⟨o, e⟩ => .inr ⟨o, s _ _ e⟩
theorem dct_at {K : PySem.W.Frag} {B : Hp} {v : V} {d : Dct κ α} (r : rep K B v d) : ∃ a kvs, v = .ref a ∧ Rd B a (PKey.obj kvs) ∧ All2 (Dr K B) kvs d.l := by
  obtain ⟨a, o, e, h, kvs, e2, r⟩ := r
  subst e2
  exact ⟨a, kvs, e, rn_rd h, r⟩
theorem dr_get {K : PySem.W.Frag} {B : Hp} : ∀ {kvs : List (κ × V)} {l : List (κ × α)} (k : κ), All2 (Dr K B) kvs l → (aget l k = none → valV kvs k = none) ∧ ∀ x, aget l k = some x → ∃ v, valV kvs k = some v ∧ rep K B v x
  | _, _, k, .nil => ⟨fun _ => rfl, fun x h => by cases h⟩
  | p :: kvs, q :: l, k, .cons h t => by
    rw [aget_cons]
    obtain ⟨h1, h2⟩ := dr_get k t
    by_cases e : q.1 = k
    · rw [if_pos e, valV_pos (h.1.trans e)]
      exact ⟨fun z => (by cases z), fun x z => (by cases z; exact ⟨_, rfl, h.2.2⟩)⟩
    · rw [if_neg e, valV_neg (fun z => e (h.1.symm.trans z))]
      exact ⟨h1, h2⟩
theorem dr_some {K : PySem.W.Frag} {B : Hp} {kvs : List (κ × V)} {l : List (κ × α)} (k : κ) (r : All2 (Dr K B) kvs l) : (valV kvs k).isSome = (aget l k).isSome := by
  obtain ⟨h1, h2⟩ := dr_get k r
  cases h : aget l k with
  | none => rw [h1 h]; rfl
  | some x =>
    obtain ⟨v, e, _⟩ := h2 x h
    rw [e]; rfl
theorem dr_put {K : PySem.W.Frag} {B : Hp} {kvs : List (κ × V)} {l : List (κ × α)} {k : κ} {v : V} {x : α} (r : All2 (Dr K B) kvs l) (hk : PKey.okk k) (h : rep K B v x) : All2 (Dr K B) (putK kvs k v) (aput l k x) := by
  unfold putK aput
  rw [valV_any, any_aget, dr_some k r]
  split
  · rename_i hs
    clear hs
    induction r with
    | nil => exact .nil
    | @cons p q ps qs r t ih =>
      rw [List.map_cons, List.map_cons]
      refine .cons ?_ ih
      by_cases e : q.1 = k
      · rw [if_pos e, if_pos (r.1.trans e)]
        exact ⟨r.1, r.2.1, h⟩
      · rw [if_neg e, if_neg (fun z => e (r.1.symm.trans z))]
        exact r
  · exact r.append (.cons ⟨rfl, hk, h⟩ .nil)
end
theorem units1 {p : Par} {X : Cx} (h : p.In X) : X.A.units + 1 < cLine := by
  obtain ⟨k, _, _, room, _⟩ := h
  have := room.un
  omega
section
variable {p : Par} {m : Nat} {τ τ1 : List Sl} {R : Post} {st : Stmt} {sts rest : List Stmt} {e a b o : Expr} {es : List Expr} {pos pos' : Pos}
variable {κ α : Type} [Py κ] [DecidableEq κ] [PKey κ] [Py α]
/-- {} -/
theorem px_dnew : PX p (.Dict [] [] pos) τ (.ow (Dct.mk [] : Dct κ α)) := fun B0 H0 B H σ ok Q q =>
  ⟨_, fun X _ => PKey.new X pos, fun c nc => q B _ _ (Ext.made ok.bh nc) (vow ⟨c, _, rfl, nc, ok.bh.free nc, upd_same, [], rfl, .nil⟩)⟩
/-- d[k] -/
theorem px_dget {d : Dct κ α} {k : κ} {x : α} (ha : PX p a τ (.sh d)) (hb : PX p b τ (.sh k)) (h : aget d.l k = some x) (hs : NoSl b) : PX p (.Subscript a b pos) τ (.sh x) := fun B0 H0 B H σ ok Q q => by
  refine ⟨tDGet (EE p a) (EE p b), fun X hX => pe_dget (units1 hX) (ee hX) (ee hX) hs, ha B0 H0 B H σ ok _ fun B1 H1 v x1 r1 => hb B0 H0 B1 H1 σ (ok.go x1) _ fun B2 H2 u x2 r2 => ?_⟩
  obtain ⟨c, kvs, e1, hc, r⟩ := dct_at (show rep p.K B1 v d from r1)
  obtain ⟨w, hw, rw'⟩ := (dr_get k r).2 x h
  refine ⟨c, w, e1, ?_, q B2 H2 w (x1.trans x2) (Py.mono (.of x2.bb) rw')⟩
  rw [← hw]
  exact PKey.get x2.bh (rd_same (x1.bh.trans x2.hh) hc) r2
theorem dget_of {d : Dct κ α} {k : κ} {B H : Hp} {v u : V} (s : Same B H) (r1 : rep p.K B v d) (r2 : rep p.K B u k) : ∃ c o, v = .ref c ∧ DGet H c u o ∧ o.isSome = (aget d.l k).isSome := by
  obtain ⟨c, kvs, e1, hc, r⟩ := dct_at r1
  exact ⟨c, _, e1, PKey.get s (rd_same s hc) r2, dr_some k r⟩
/-- k in d, k not in d -/
theorem px_inK {d : Dct κ α} {k : κ} (ha : PX p a τ (.sh k)) (hb : PX p b τ (.sh d)) (hm : behindInMarks .In b = false) : PX p (.Compare a [.In] [b] pos) τ (.sh (aget d.l k).isSome) := fun B0 H0 B H σ ok Q q => by
  refine ⟨_, fun X hX => pe_cmp (pc_din (units1 hX) (ee hX) (ee hX)) hm, ha B0 H0 B H σ ok _ fun B1 H1 v x1 r1 => hb B0 H0 B1 H1 σ (ok.go x1) _ fun B2 H2 u x2 r2 => ?_⟩
  obtain ⟨c, o, e, g, i⟩ := dget_of x2.bh (show rep p.K B2 u d from r2) (Py.mono (.of x2.bb) (show rep p.K B1 v k from r1))
  exact ⟨c, o, e, g, q B2 H2 _ (x1.trans x2) (by rw [i]; rfl)⟩
theorem px_notInK {d : Dct κ α} {k : κ} (ha : PX p a τ (.sh k)) (hb : PX p b τ (.sh d)) (hm : behindInMarks .NotIn b = false) : PX p (.Compare a [.NotIn] [b] pos) τ (.sh (!(aget d.l k).isSome)) := fun B0 H0 B H σ ok Q q => by
  refine ⟨_, fun X hX => pe_cmp (pc_dnotin (units1 hX) (ee hX) (ee hX)) hm, ha B0 H0 B H σ ok _ fun B1 H1 v x1 r1 => hb B0 H0 B1 H1 σ (ok.go x1) _ fun B2 H2 u x2 r2 => ?_⟩
  obtain ⟨c, o, e, g, i⟩ := dget_of x2.bh (show rep p.K B2 u d from r2) (Py.mono (.of x2.bb) (show rep p.K B1 v k from r1))
  exact ⟨c, o, e, g, q B2 H2 _ (x1.trans x2) (by rw [i]; rfl)⟩
theorem pt_inK {d : Dct κ α} {k : κ} (ha : PX p a τ (.sh k)) (hb : PX p b τ (.sh d)) (hm : behindInMarks .In b = false) : PTx p (.Compare a [.In] [b] pos) τ (aget d.l k).isSome := fun B0 H0 B H σ ok Q q => by
  refine ⟨_, fun X hX => L2.pt_cmp (pc_din (units1 hX) (ee hX) (ee hX)) hm, ha B0 H0 B H σ ok _ fun B1 H1 v x1 r1 => hb B0 H0 B1 H1 σ (ok.go x1) _ fun B2 H2 u x2 r2 => ?_⟩
  obtain ⟨c, o, e, g, i⟩ := dget_of x2.bh (show rep p.K B2 u d from r2) (Py.mono (.of x2.bb) (show rep p.K B1 v k from r1))
  exact ⟨c, o, e, g, _, rfl, by rw [i]; exact q B2 H2 (x1.trans x2)⟩
theorem pt_notInK {d : Dct κ α} {k : κ} (ha : PX p a τ (.sh k)) (hb : PX p b τ (.sh d)) (hm : behindInMarks .NotIn b = false) : PTx p (.Compare a [.NotIn] [b] pos) τ (!(aget d.l k).isSome) := fun B0 H0 B H σ ok Q q => by
  refine ⟨_, fun X hX => L2.pt_cmp (pc_dnotin (units1 hX) (ee hX) (ee hX)) hm, ha B0 H0 B H σ ok _ fun B1 H1 v x1 r1 => hb B0 H0 B1 H1 σ (ok.go x1) _ fun B2 H2 u x2 r2 => ?_⟩
  obtain ⟨c, o, e, g, i⟩ := dget_of x2.bh (show rep p.K B2 u d from r2) (Py.mono (.of x2.bb) (show rep p.K B1 v k from r1))
  exact ⟨c, o, e, g, _, rfl, by rw [i]; exact q B2 H2 (x1.trans x2)⟩
theorem px_lenD {d : Dct κ α} {pp : Pos} (hg : p.sc.names.lookup ("len" : Str) = some .globalImplicit) (hm : p.mg "len" = none) (ha : PX p e τ (.sh d)) (he : ∀ env, starEach [e] env = [(false, eval e env)] := by intro _; rfl) : PX p (.Call (.Name "len" pp) [e] [] pos) τ (.sh ((d.l.length : Nat) : Int)) :=
  px_b1 (fun X _ => PKey.len (κ := κ) X) hg hm PySem.boot_len ha (fun B H v Q s r q => by
    obtain ⟨c, kvs, e1, hc, r⟩ := dct_at r
    exact ⟨c, kvs, by rw [e1], rd_same s hc, q B H _ (.refl s) (by rw [r.length]; rfl)⟩) (by decide) (by decide) he
/-- d[k] = y, d a name's own -/
theorem s_dput (i : Nat) {d : Dct κ α} {k : κ} {y : α} {x : Str} {px : Pos} (hN : p.N[i]? = some x) (hv : Vis p.sc x) (hτ : τ[i]? = some (.ow d)) (hy : PX p e τ (.sh y)) (hk : PX p b τ (.sh k)) (hl : d.l.length < sizeLine)
    (hd : (x == ("__debug__" : Str)) = false) (hc : (x == ("__classdict__" : Str)) = false) (hs : ∀ env, swapsWith e (some (.Subscript (.Name x px) b pos')) pos.line env = pure false) :
    D1 p (.Assign [.Subscript (.Name x px) b pos'] e pos) τ (τ.set i (.ow (Dct.mk (aput d.l k y)))) := fun R hR B0 H0 B H σ ok D em => by
  refine ⟨sDPut (tVar i) (EE p b) (EE p e), fun X hX => ?_, hy B0 H0 B H σ ok _ fun B1 H1 v x1 r1 => ?_⟩
  · have hX' := hX
    obtain ⟨j, rfl, _⟩ := hX'
    exact ps_dput (units1 hX) (pe_var hN hv hd hc) (ee hX) (ee hX) (hs _)
  · have ok1 := ok.go x1
    obtain ⟨q, ob, e1, n0, nb, hq, kvs, e2, r⟩ := ok1.own hτ
    subst e2
    refine ⟨_, e1, hk B0 H0 B1 H1 σ ok1 _ fun B2 H2 u x2 r2 => ?_⟩
    have ok2 := ok1.go x2
    have hq2 := x2.hh _ _ hq
    have nb2 := x2.nw q _ nb hq (PKey.nt kvs)
    refine ⟨q, _, rfl, PKey.put x2.bh hq2 r2 (by rw [r.length]; exact hl), em.nx _ _ _ _ (ok2.mut (y := Dct.mk (aput d.l k y)) hτ e1 n0 nb2 ⟨_, rfl, dr_put (r.imp fun _ _ h => h.mono (.of x2.bb)) (PKey.rok (show rep p.K B2 u k from r2)) (Py.mono (.of x2.bb) (show rep p.K B1 v y from r1))⟩) hR⟩
theorem sx_dput (G : Gd p m) (i : Nat) {d : Dct κ α} {k : κ} {y : α} {x : Str} {px : Pos} (hN : p.N[i]? = some x) (hi : i < m) (hτ : τ[i]? = some (.ow d)) (hy : PX p e τ (.sh y)) (hk : PX p b τ (.sh k)) (hl : d.l.length < sizeLine)
    (hs : ∀ env, swapsWith e (some (.Subscript (.Name x px) b pos')) pos.line env = pure false) (kk : SX p rest (τ.set i (.ow (Dct.mk (aput d.l k y)))) R) : SX p (.Assign [.Subscript (.Name x px) b pos'] e pos :: rest) τ R :=
  sx_step (s_dput i hN (G.vs hN hi) hτ hy hk hl (G.ok x (List.mem_of_getElem? hN)).1 (G.ok x (List.mem_of_getElem? hN)).2 hs) kk
/-- d.get(k), d.get(k, x) -/
theorem px_get1 [NoN α] {d : Dct κ α} {k : κ} {apos : Pos} (ha : PX p o τ (.sh d)) (hb : PX p e τ (.sh k)) (hbase : ∀ env, attributeBase o "get" env (eval o env) = eval o env) (hline : (apos.endLine == pos.line) = true) (hs : ∀ env, starEach [e] env = [(false, eval e env)]) :
    PX p (.Call (.Attribute o "get" apos) [e] [] pos) τ (.sh (aget d.l k)) := fun B0 H0 B H σ ok Q q => by
  refine ⟨tDGet1 (EE p o) (EE p e), fun X hX => pe_dget1 (units1 hX) (ee hX) (ee hX) ⟨hbase _, by rw [hs]; rfl, hline, by rw [hs]; rfl⟩, ha B0 H0 B H σ ok _ fun B1 H1 v x1 r1 => ?_⟩
  obtain ⟨c, kvs, e1, hc, r⟩ := dct_at (show rep p.K B1 v d from r1)
  refine ⟨c, e1, PKey.isd (rd_same x1.bh hc), hb B0 H0 B1 H1 σ (ok.go x1) _ fun B2 H2 u x2 r2 => ?_⟩
  refine ⟨_, PKey.get x2.bh (rd_same (x1.bh.trans x2.hh) hc) r2, q B2 H2 _ (x1.trans x2) ?_⟩
  obtain ⟨g1, g2⟩ := dr_get k r
  show rep p.K B2 _ (aget d.l k)
  cases h : aget d.l k with
  | none => rw [g1 h]; rfl
  | some y =>
    obtain ⟨w, hw, rw'⟩ := g2 y h
    rw [hw]
    exact Py.mono (.of x2.bb) rw'
theorem px_get2 {d : Dct κ α} {k : κ} {y : α} {f : Expr} {apos : Pos} (ha : PX p o τ (.sh d)) (hb : PX p e τ (.sh k)) (hf : PX p f τ (.sh y)) (hbase : ∀ env, attributeBase o "get" env (eval o env) = eval o env) (hline : (apos.endLine == pos.line) = true) (hs : ∀ env, starEach [e, f] env = [(false, eval e env), (false, eval f env)]) :
    PX p (.Call (.Attribute o "get" apos) [e, f] [] pos) τ (.sh ((aget d.l k).getD y)) := fun B0 H0 B H σ ok Q q => by
  refine ⟨tDGet2 (EE p o) (EE p e) (EE p f), fun X hX => pe_dget2 (units1 hX) (ee hX) (ee hX) (ee hX) ⟨hbase _, by rw [hs]; rfl, hline, by rw [hs]; rfl⟩, ha B0 H0 B H σ ok _ fun B1 H1 v x1 r1 => ?_⟩
  obtain ⟨c, kvs, e1, hc, r⟩ := dct_at (show rep p.K B1 v d from r1)
  refine ⟨c, e1, PKey.isd (rd_same x1.bh hc), hb B0 H0 B1 H1 σ (ok.go x1) _ fun B2 H2 u x2 r2 => hf B0 H0 B2 H2 σ ((ok.go x1).go x2) _ fun B3 H3 z x3 r3 => ?_⟩
  refine ⟨_, PKey.get x3.bh (rd_same (x1.bh.trans (x2.hh.trans x3.hh)) hc) (Py.mono (.of x3.bb) (show rep p.K B2 u k from r2)), q B3 H3 _ ((x1.trans x2).trans x3) ?_⟩
  obtain ⟨g1, g2⟩ := dr_get k r
  show rep p.K B3 _ ((aget d.l k).getD y)
  cases h : aget d.l k with
  | none => rw [g1 h]; exact r3
  | some y =>
    obtain ⟨w, hw, rw'⟩ := g2 y h
    rw [hw]
    exact Py.mono (.of (x2.trans x3).bb) rw'
end
end Ly

namespace Ly
open PySem PySem.Spec PyProof.Rows L2
open Py
/-! ### a dict is locked while it's walked -/
def lk (H : Hp) (d : Addr) (o : Obj) (u : HO) : Hp := upd H d (.frz o u)
/-- the ends of a statement under a lock -/
def lkE (d : Addr) (o : Obj) (u : HO) (D : Ends) : Ends :=
  ⟨fun σ' H' => H' d = some (.frz o u) ∧ D.nx σ' (upd H' d u), fun v H' => H' d = some (.frz o u) ∧ D.rt v (upd H' d u), fun σ' H' => H' d = some (.frz o u) ∧ D.bk σ' (upd H' d u), fun σ' H' => H' d = some (.frz o u) ∧ D.ct σ' (upd H' d u)⟩
theorem le_lk {B : Hp} {d : Addr} {o : Obj} {u : HO} (h : B d = some u) (n : nrm (.frz o u) = nrm u) : Le B (lk B d o u) := fun a x e => by
  by_cases z : a = d
  · subst z
    rw [h] at e
    cases e
    exact ⟨_, upd_same, n⟩
  · exact ⟨x, by unfold lk; rw [upd_ne z]; exact e, rfl⟩
theorem le_ulk {B : Hp} {d : Addr} {o : Obj} {u : HO} (h : B d = some (.frz o u)) (n : nrm (.frz o u) = nrm u) : Le B (upd B d u) := fun a x e => by
  by_cases z : a = d
  · subst z
    rw [h] at e
    cases e
    exact ⟨_, upd_same, n.symm⟩
  · exact ⟨x, by rw [upd_ne z]; exact e, rfl⟩
/-- H0 with the lock, if there's something -/
def lk0 (H0 : Hp) (d : Addr) (o : Obj) (u : HO) : Hp := fun a => if a = d then (H0 d).map fun _ => .frz o u else H0 a
theorem lk0_none {H0 : Hp} {d a : Addr} {o : Obj} {u : HO} : lk0 H0 d o u a = none ↔ H0 a = none := by
  unfold lk0
  split
  · rename_i h
    subst h
    rw [Option.map_eq_none_iff]
  · exact Iff.rfl
theorem lk0_ne {H0 : Hp} {d a : Addr} {o : Obj} {u : HO} (h : a ≠ d) : lk0 H0 d o u a = H0 a := if_neg h
section
variable {K : PySem.W.Frag} {B0 H0 B H : Hp} {σ : L2.St} {τ : List Sl} {d : Addr} {o : Obj} {u : HO}
theorem Ok.lock (h : Ok K B0 H0 B H σ τ) (hd : B d = some u) (n : nrm (.frz o u) = nrm u) (t : ∀ xs, u ≠ .tup xs) : Ok K (lk B d o u) (lk0 H0 d o u) (lk B d o u) (lk H d o u) σ τ := by
  obtain ⟨fp, f⟩ := h.fps
  have hH := h.bh _ _ hd
  have ul := le_lk (o := o) hd n
  refine ⟨⟨fun a x e => ?_, fun a x e => ?_, Same.refl _, fun _ _ e _ _ => e⟩, h.len, fp, fun i s e => ?_, f.dis⟩
  · unfold lk at e ⊢
    by_cases z : a = d
    · subst z; rw [upd_same] at e ⊢; exact e
    · rw [upd_ne z] at e ⊢; exact h.bh _ _ e
  · by_cases z : a = d
    · subst z
      unfold lk0 at e
      rw [if_pos rfl] at e
      obtain ⟨_, _, e2⟩ := Option.map_eq_some_iff.mp e
      unfold lk
      rw [upd_same, e2]
    · rw [lk0_ne z] at e
      unfold lk
      rw [upd_ne z]
      exact h.ext.hh _ _ e
  · refine (f.at_ i s e).imp id fun ⟨v, e1, q⟩ => ⟨v, e1, ?_⟩
    cases s with
    | un => trivial
    | sh x => exact Py.mono ul q
    | ow x =>
      obtain ⟨c, e2, m, r⟩ := q
      have ne : ∀ a ∈ fp i, a ≠ d := fun a ma z => by rw [z] at ma; rw [(m d ma).2] at hd; cases hd
      exact ⟨c, e2, fun a ma => ⟨lk0_none.mpr (m a ma).1, by unfold lk; rw [upd_ne (ne a ma)]; exact (m a ma).2⟩, Od.dmono ul (fun a ma => by unfold lk; rw [upd_ne (ne a ma)]) r⟩
theorem Vokf.unlock {B' H' : Hp} {v : V} {F : List Addr} {s : Sl} (hB : B' d = some (.frz o u)) (n : nrm (.frz o u) = nrm u) (h : Vokf K B' H' (lk0 H0 d o u) v F s) : Vokf K (upd B' d u) (upd H' d u) H0 v F s := by
  have ul := le_ulk hB n
  cases s with
  | un => trivial
  | sh x => exact Py.mono ul (show rep K B' v x from h)
  | ow x =>
    obtain ⟨c, e2, m, r⟩ := h
    have ne : ∀ a ∈ F, a ≠ d := fun a ma z => by rw [z] at ma; rw [(m d ma).2] at hB; cases hB
    exact ⟨c, e2, fun a ma => ⟨lk0_none.mp (m a ma).1, by rw [upd_ne (ne a ma)]; exact (m a ma).2⟩, Od.dmono ul (fun a ma => by rw [upd_ne (ne a ma)]) r⟩
theorem Ext.unlock (h : Ext B0 H0 B H) (hd : B d = some u) (n : nrm (.frz o u) = nrm u) {B' H' : Hp} (x : Ext (lk B d o u) (lk0 H0 d o u) B' H') : Ext B0 H0 (upd B' d u) (upd H' d u) := by
  have hB : B' d = some (.frz o u) := x.bb _ _ upd_same
  have hH := h.bh _ _ hd
  refine ⟨fun a y e => ?_, fun a y e => ?_, fun a y e => ?_, fun a y e k t => ?_⟩
  · by_cases z : a = d
    · subst z; rw [upd_same] at e ⊢; exact e
    · rw [upd_ne z] at e ⊢; exact x.bh _ _ e
  · by_cases z : a = d
    · subst z
      have := h.hh _ _ e
      rw [hH] at this
      rw [upd_same]; exact this
    · rw [upd_ne z]; exact x.hh _ _ (by rw [lk0_ne z]; exact e)
  · by_cases z : a = d
    · subst z
      have := h.bb _ _ e
      rw [hd] at this
      rw [upd_same]; exact this
    · rw [upd_ne z]; exact x.bb _ _ (by unfold lk; rw [upd_ne z]; exact h.bb _ _ e)
  · have e1 := h.nw a y e k t
    have z : a ≠ d := fun z => by rw [z, hd] at e1; cases e1
    rw [upd_ne z]
    exact x.nw a y (by unfold lk; rw [upd_ne z]; exact e1) (by rw [lk0_ne z]; exact k) t
theorem Emb.lock {p : Par} {D : Ends} {R : Post} (em : Emb p B0 H0 D R) (h : Ok p.K B0 H0 B H σ τ) (hd : B d = some u) (n : nrm (.frz o u) = nrm u) : Emb p (lk B d o u) (lk0 H0 d o u) (lkE d o u D) R.pl := by
  refine ⟨fun B' H' σ' τ' ok q => ?_, fun B' H' v s x vo q => ?_, fun _ _ _ _ _ _ _ _ q => q.elim, fun _ _ _ _ _ _ _ _ q => q.elim⟩
  · have hB : B' d = some (.frz o u) := ok.ext.bb _ _ upd_same
    obtain ⟨fp, f⟩ := ok.fps
    exact ⟨ok.bh _ _ hB, em.nx _ _ _ _ ⟨h.ext.unlock hd n ok.ext, ok.len, fp, fun i s e => (f.at_ i s e).imp id fun ⟨v, e1, q⟩ => ⟨v, e1, q.unlock hB n⟩, f.dis⟩ q⟩
  · have hB : B' d = some (.frz o u) := x.bb _ _ upd_same
    obtain ⟨F, vo⟩ := vo.f
    exact ⟨x.bh _ _ hB, em.rt _ _ _ _ (h.ext.unlock hd n x) (vo.unlock hB n).vok q⟩
end
/-! ### what is told by names and parts alone -/
/-- e gives the same, whatever was made or locked since -/
def SV (p : Par) (e : Expr) (τ : List Sl) (s : Sl) : Prop := ∀ B0 H0 B H σ, Ok p.K B0 H0 B H σ τ → ∃ v, Vok p.K B H H0 v s ∧ ∀ B' H', Le B B' → Same B' H' → ∀ Q : VK, Q v H' → EE p e σ H' Q
section
variable {p : Par} {m : Nat} {τ τ1 : List Sl} {R : Post} {st : Stmt} {sts rest : List Stmt} {e a b o : Expr} {es : List Expr} {pos pos' : Pos}
theorem sv_v (G : Gd p m) (i : Nat) {s : Sl} {x : Str} (hN : p.N[i]? = some x) (hi : i < m) (hτ : τ[i]? = some s) (hs : isSh s) : SV p (.Name x pos) τ s := fun B0 H0 B H σ ok => by
  rcases ok.at_ i s hτ with z | ⟨v, e1, r⟩
  · subst z; exact hs.elim
  · refine ⟨v, r, fun B' H' _ _ Q q => ⟨tVar i, fun X hX => ?_, v, e1, q⟩⟩
    have hd := G.ok x (List.mem_of_getElem? hN)
    obtain ⟨k, rfl, _⟩ := hX
    exact pe_var hN (G.vs hN hi) hd.1 hd.2
theorem sv_int {i : Int} {j : Nat} : SV p (.Constant (.int i) j pos) τ (.sh i) := fun B0 H0 B H σ ok => ⟨.int i, rfl, fun _ _ _ _ Q q => ⟨tC (.int i), fun X _ => pe_int, q⟩⟩
theorem sv_get {κ α : Type} [Py κ] [DecidableEq κ] [PKey κ] [Py α] {d : Dct κ α} {k : κ} {x : α} (ha : SV p a τ (.sh d)) (hb : SV p b τ (.sh k)) (h : aget d.l k = some x) (hs : NoSl b) : SV p (.Subscript a b pos) τ (.sh x) := fun B0 H0 B H σ ok => by
  obtain ⟨v, r1, q1⟩ := ha B0 H0 B H σ ok
  obtain ⟨u, r2, q2⟩ := hb B0 H0 B H σ ok
  obtain ⟨c, kvs, e1, hc, r⟩ := dct_at (show rep p.K B v d from r1)
  obtain ⟨w, hw, rw'⟩ := (dr_get k r).2 x h
  refine ⟨w, rw', fun B' H' l s Q q => ⟨tDGet (EE p a) (EE p b), fun X hX => pe_dget (units1 hX) (ee hX) (ee hX) hs, q1 B' H' l s _ (q2 B' H' l s _ ⟨c, w, e1, ?_, q⟩)⟩⟩
  have rn : Rd B' c (PKey.obj kvs) := by
    have : Rn B c (PKey.obj kvs) := by
      rcases hc with z | ⟨ob, z⟩
      · exact ⟨_, z, rfl⟩
      · exact ⟨_, z, by rw [PKey.fz, PKey.nn]⟩
    exact rn_rd (this.le l)
  rw [← hw]
  exact PKey.get s (rd_same s rn) (Py.mono l (show rep p.K B u k from r2))
/-- the part j of a tuple -/
theorem sv_fld {α : Type} [Py α] [Flds α] {x : α} {i : Int} {s : Sl} (j : Nat) (ha : SV p a τ (.sh x)) (hb : SV p b τ (.sh i)) (hi : i = j) (hk : (Flds.fl x)[j]? = some s) (hp : PlainIx b) : SV p (.Subscript a b pos) τ s := fun B0 H0 B H σ ok => by
  obtain ⟨v, r1, q1⟩ := ha B0 H0 B H σ ok
  obtain ⟨u, r2, q2⟩ := hb B0 H0 B H σ ok
  obtain ⟨c, vs, e1, hc, r⟩ := Flds.ofr (show rep p.K B v x from r1)
  obtain ⟨w, hw, r3⟩ := r.get hk
  have r4 : Vok p.K B H H0 w s := by
    cases s with
    | sh y => exact r3
    | un => exact r3.elim
    | ow y => exact r3.elim
  refine ⟨w, r4, fun B' H' l sm Q q => ⟨tOp (rIxT p.K) (EE p a) (EE p b), fun X hX => ?_, q1 B' H' l sm _ (q2 B' H' l sm _ ⟨c, vs, i, w, e1, r2, .of (sm _ _ (l.tup hc)), by rw [hi]; exact atI_nat hw, q⟩)⟩⟩
  have hX' := hX
  obtain ⟨k, rfl, _⟩ := hX'
  exact pe_ix L2.ix_tup (ee hX) (ee hX) hp
theorem sv_tupAt {α : Type} [Py α] {xs : Tup α} {i : Int} {y : α} (ha : SV p a τ (.sh xs)) (hb : SV p b τ (.sh i)) (hk : atI xs.l i = some y) (hp : PlainIx b) : SV p (.Subscript a b pos) τ (.sh y) := by
  unfold atI at hk
  obtain ⟨j, hj, hk⟩ := Option.bind_eq_some_iff.mp hk
  intro B0 H0 B H σ ok
  obtain ⟨v, r1, q1⟩ := ha B0 H0 B H σ ok
  obtain ⟨u, r2, q2⟩ := hb B0 H0 B H σ ok
  obtain ⟨c, vs, e1, hc, r⟩ := (show rep p.K B v xs from r1)
  obtain ⟨w, hw, r3⟩ := r.get hk
  refine ⟨w, r3, fun B' H' l sm Q q => ⟨tOp (rIxT p.K) (EE p a) (EE p b), fun X hX => ?_, q1 B' H' l sm _ (q2 B' H' l sm _ ⟨c, vs, i, w, e1, r2, .of (sm _ _ (l.tup hc)), ?_, q⟩)⟩⟩
  · have hX' := hX
    obtain ⟨k, rfl, _⟩ := hX'
    exact pe_ix L2.ix_tup (ee hX) (ee hX) hp
  · unfold atI
    rw [r.length, hj]; exact hw
/-! ### walks -/
theorem for_run {B0 H0 B H : Hp} {σ : L2.St} {tg iter : Expr} {body : List Stmt} {w : List Nat} {items : List Sl} {D : Ends} (I : Nat → List Sl → Prop) (ok : Ok p.K B0 H0 B H σ τ) (em : Emb p B0 H0 D R.pl) (hi : IXat p tg iter B H σ items) (h0 : I 0 τ)
    (hs : ∀ i s τi, items[i]? = some s → I i τi → ∃ τ', GX p tg w s τi τ' ∧ SX p body τ' ⟨I (i + 1), R.rt, fun _ _ => False, fun _ _ => False⟩) (hd : ∀ τn, I items.length τn → R.nx τn) : tFor (EI p tg iter) (EG p tg) (EB p body) D σ H := by
  refine hi _ fun B1 H1 J x1 tj => ?_
  have ok1 := ok.go x1
  have em1 := em.rebase ok1.ext
  refine ⟨fun i m σ H => m = items.length - i ∧ i ≤ items.length ∧ ∃ B τ, Ok p.K B1 H0 B H σ τ ∧ I i τ, ⟨_, rfl, Nat.zero_le _, B1, τ, ok1.tobase, h0⟩, ?_⟩
  rintro i m σ2 H2 ⟨rfl, hin, B2, τ2, ok2, inv⟩
  obtain ⟨tg1, tstop⟩ := tj B2 H2 ok2.ext.bb ok2.bh
  by_cases hlt : i < items.length
  · obtain ⟨s, hsi⟩ : ∃ s, items[i]? = some s := ⟨items[i], List.getElem?_eq_getElem hlt⟩
    obtain ⟨go, yl⟩ := tg1 i s hsi
    obtain ⟨τ', gx, sx⟩ := hs i s τ2 hsi inv
    refine .inr ⟨go, fun σ' H' => ∃ B τ, Ok p.K B1 H0 B H' σ' τ ∧ I (i + 1) τ, fun σ' H' n => ⟨_, by omega, rfl, hlt, n⟩, fun x H' y => ?_⟩
    obtain ⟨B3, x3, r3⟩ := yl x H' y
    refine gx B1 H0 B3 H' σ2 x (ok2.go x3) r3 _ fun σ4 ok4 _ => ?_
    exact sx B1 H0 B3 H' σ4 ok4 _ ⟨fun B H σ τ ok q => ⟨B, τ, ok, q⟩, em1.rt, em1.rx, em1.ex⟩
  · have e : i = items.length := by omega
    subst e
    exact .inl ⟨tstop, em1.nx B2 H2 σ2 τ2 ok2 (hd τ2 inv)⟩
/-- what is walked of a dict that is locked -/
def DW (p : Par) (tg iter e : Expr) {κ α : Type} [Py κ] [DecidableEq κ] [PKey κ] [Py α] (d : Dct κ α) (items : List Sl) : Prop :=
  ∀ B H σ c o kvs, Same B H → B c = some (.frz o (PKey.obj kvs)) → All2 (Dr p.K B) kvs d.l → (∀ Q : VK, Q (.ref c) H → EE p e σ H Q) → IXat p tg iter B H σ items
section
variable {κ α : Type} [Py κ] [DecidableEq κ] [PKey κ] [Py α] {d : Dct κ α} {tg iter : Expr}
theorem dr_keys {K : PySem.W.Frag} {B : Hp} : ∀ {kvs : List (κ × V)} {l : List (κ × α)}, All2 (Dr K B) kvs l → (kvs.map fun p => Sl.sh p.1) = (l.map (·.1)).map fun k => Sl.sh k
  | _, _, .nil => rfl
  | _, _, .cons h t => by rw [List.map_cons, List.map_cons, List.map_cons, dr_keys t, h.1]
theorem dr_okk {K : PySem.W.Frag} {B : Hp} : ∀ {kvs : List (κ × V)} {l : List (κ × α)}, All2 (Dr K B) kvs l → ∀ p ∈ kvs, PKey.okk p.1
  | _, _, .cons h t, p, m => by
    rcases List.mem_cons.mp m with rfl | m
    · rw [h.1]; exact h.2.1
    · exact dr_okk t p m
/-- the keys -/
theorem dw_keys : DW p tg e e d ((d.l.map (·.1)).map fun k => .sh k) := fun B H σ c o kvs s h r ev R q =>
  ⟨iKeys (EE p e), fun X hX => pi_keys (ee hX), ev _ ⟨c, o, rfl, PKey.ik (s _ _ h) (q B H _ (.refl s) (by rw [← dr_keys r]; exact PKey.turns h (dr_okk r)))⟩⟩
theorem lk_le {B : Hp} {c : Addr} {o : Obj} {kvs : List (κ × V)} (h : B c = some (PKey.obj kvs)) : Le B (lk B c o (PKey.obj kvs)) := le_lk h (by rw [PKey.fz, PKey.nn])
theorem lk_same {B H : Hp} {c : Addr} {o : Obj} {u : HO} (s : Same B H) : Same (lk B c o u) (lk H c o u) := fun a x e => by
  unfold lk at e ⊢
  by_cases z : a = c
  · subst z; rw [upd_same] at e ⊢; exact e
  · rw [upd_ne z] at e ⊢; exact s _ _ e
/-- for .. in d, d.values() -/
theorem s_forD {body : List Stmt} {w : List Nat} {items : List Sl} (I : Nat → List Sl → Prop) (hi : SV p e τ (.sh d)) (dw : DW p tg iter e d items) (h0 : I 0 τ)
    (hs : ∀ i s τi, items[i]? = some s → I i τi → ∃ τ', GX p tg w s τi τ' ∧ SX p body τ' ⟨I (i + 1), R.rt, fun _ _ => False, fun _ _ => False⟩) (hd : ∀ τn, I items.length τn → R.nx τn)
    (hf : ∀ env x, foldedSetIterable iter env x = pure x) : S1 p (.For tg iter body [] pos) τ R := fun B0 H0 B H σ ok D em => by
  have hp : ∀ X, p.In X → PS X (.For tg iter body [] pos) (tFor (EI p tg iter) (EG p tg) (EB p body)) := fun X hX => by
    have hX' := hX
    obtain ⟨k, rfl, calm, _, po⟩ := hX'
    exact ps_for po.1 calm (ei hX) (eg hX) (eb hX) (hf _)
  obtain ⟨v, r1, ev⟩ := hi B0 H0 B H σ ok
  obtain ⟨c, kvs, e1, hc, r⟩ := dct_at (show rep p.K B v d from r1)
  subst e1
  rcases hc with hc | ⟨ob, hc⟩
  · have n : ∀ od, nrm (.frz od (PKey.obj kvs)) = nrm (PKey.obj kvs) := fun od => by rw [PKey.fz, PKey.nn]
    refine ⟨tLock (tFor (EI p tg iter) (EG p tg) (EB p body)), fun X hX => ps_lock (hp X hX), c, _, ok.bh _ _ hc, PKey.mu kvs, fun od => ?_⟩
    refine for_run I (ok.lock hc (n od) (PKey.nt kvs)) (em.lock ok hc (n od)) ?_ h0 hs hd
    exact dw _ _ σ c od kvs (lk_same ok.bh) upd_same (r.imp fun _ _ h => h.mono (lk_le hc)) (ev _ _ (lk_le hc) (lk_same ok.bh))
  · refine ⟨_, hp, for_run I ok em.pl ?_ h0 hs hd⟩
    exact dw _ _ σ c ob kvs ok.bh hc r (ev _ _ (.refl _) ok.bh)
theorem sx_forD {body : List Stmt} {w : List Nat} {γ : Type} [Py γ] {xs : List γ} (I : Nat → List Sl → Prop) (hi : SV p e τ (.sh d)) (dw : DW p tg iter e d (xs.map fun x => .sh x)) (h0 : I 0 τ)
    (hs : ∀ i x τi, xs[i]? = some x → I i τi → ∃ τ', GX p tg w (.sh x) τi τ' ∧ SX p body τ' ⟨I (i + 1), R.rt, fun _ _ => False, fun _ _ => False⟩)
    (hf : ∀ env x, foldedSetIterable iter env x = pure x) (hd : ∀ τn, I xs.length τn → SX p rest τn R) : SX p (.For tg iter body [] pos :: rest) τ R :=
  sx_cons (fun τ' => I xs.length τ') (s_forD I hi dw h0 (fun i s τi h inv => by obtain ⟨x, e, rfl⟩ := items_at h; exact hs i x τi e inv) (by rw [List.length_map]; exact fun _ h => h) hf) hd
/-! ### comprehensions over dicts -/
theorem lk0_eq {H : Hp} {c : Addr} {o : Obj} {u : HO} (h : H c = some u) : lk0 H c o u = lk H c o u := by
  funext a
  unfold lk0 lk
  by_cases z : a = c
  · subst z; rw [if_pos rfl, h, upd_same]; rfl
  · rw [if_neg z, upd_ne z]
variable {β γ : Type} [Py β] [Py γ] {xs : List γ} {g : γ → Option β} {elt : Expr} {ifs : List Expr} {scope : Scope} {own : List (Str × Nat)} {w : List Nat}
theorem px_lcDG (nd : p.N.Nodup) (bk : BlkOk p.N p.sc scope own) (hi : SV p e τ (.sh d)) (dw : DW p tg iter e d (xs.map fun x => .sh x)) (hn : xs.length ≤ sizeLine) (hw : ∀ j ∈ w, j ∈ own.map (·.2))
    (turn : ∀ x, x ∈ xs → ∃ τ', GX (p.blk scope) tg w (.sh x) (wipeT τ (own.map (·.2))) τ' ∧ PTsx (p.blk scope) ifs τ' (g x).isSome ∧ ∀ y, g x = some y → PX (p.blk scope) elt τ' (.sh y))
    (hf : ∀ env x, foldedSetIterable iter env x = pure x) : PX p (.ListComp elt [⟨tg, iter, ifs, 0⟩] scope pos) τ (.ow (xs.filterMap g)) := fun B0 H0 B H σ ok Q q => by
  have hp : ∀ X, p.In X → PE X (.ListComp elt [⟨tg, iter, ifs, 0⟩] scope pos) (tLc (EI p tg iter) (EG (p.blk scope) tg) (ETs (p.blk scope) ifs) (EE (p.blk scope) elt) (own.map (·.2))) := fun X hX => by
    have hX' := hX
    obtain ⟨k, rfl, calm, _⟩ := hX'
    exact pe_lc calm nd (ei hX) bk (fun s H C cl fp => eg (blk_in hX scope s H C cl fp)) (fun s H C cl fp => ets (blk_in hX scope s H C cl fp)) (fun s H C cl fp => ee (blk_in hX scope s H C cl fp)) (hf _)
  obtain ⟨v, r1, ev⟩ := hi B0 H0 B H σ ok
  obtain ⟨c, kvs, e1, hc, r⟩ := dct_at (show rep p.K B v d from r1)
  subst e1
  rcases hc with hc | ⟨ob, hc⟩
  · have n : ∀ od, nrm (.frz od (PKey.obj kvs)) = nrm (PKey.obj kvs) := fun od => by rw [PKey.fz, PKey.nn]
    have hH := ok.bh _ _ hc
    refine ⟨_, fun X hX => pe_lock (hp X hX), c, _, hH, PKey.mu kvs, fun od => ?_⟩
    refine lc_run (dw _ _ σ c od kvs (lk_same ok.bh) upd_same (r.imp fun _ _ h => h.mono (lk_le hc)) (ev _ _ (lk_le hc) (lk_same ok.bh))) hn hw turn (ok.lock hc (n od) (PKey.nt kvs)) fun B' H' u x vo => ?_
    have hB : B' c = some (.frz od (PKey.obj kvs)) := x.bb _ _ upd_same
    refine ⟨x.bh _ _ hB, ?_⟩
    have x2 : Ext (lk B c od (PKey.obj kvs)) (lk0 H c od (PKey.obj kvs)) B' H' := by rw [lk0_eq hH]; exact x
    obtain ⟨F, vf⟩ := vo.f
    refine q _ _ u ((Ext.refl ok.bh).unlock hc (n od) x2) (Vokf.unlock hB (n od) (F := F) (s := .ow (xs.filterMap g)) ?_).vok
    rw [lk0_eq hH]; exact vf
  · refine ⟨_, hp, lc_run (dw _ _ σ c ob kvs ok.bh hc r (ev _ _ (.refl _) ok.bh)) hn hw turn ok q⟩
theorem s_lcDG (nd : p.N.Nodup) (bk : BlkOk p.N p.sc scope own) (i : Nat) {y : Str} {py : Pos} {spos : Pos} (hN : p.N[i]? = some y) (hy : p.sc.names.lookup y = some .local) (hk : p.sc.kind = .function) (hl : (py.line == pos.line) = true) (ha : (scope.names.any fun (n, k) => n == y && (k == .local || k == .cell)) = false)
    (hi : SV p e τ (.sh d)) (dw : DW p tg iter e d (xs.map fun x => .sh x)) (hn : xs.length ≤ sizeLine) (hw : ∀ j ∈ w, j ∈ own.map (·.2))
    (turn : ∀ x, x ∈ xs → ∃ τ', GX (p.blk scope) tg w (.sh x) (wipeT τ (own.map (·.2))) τ' ∧ PTsx (p.blk scope) ifs τ' (g x).isSome ∧ ∀ y, g x = some y → PX (p.blk scope) elt τ' (.sh y))
    (hf : ∀ env x, foldedSetIterable iter env x = pure x) : D1 p (.Assign [.Name y py] (.ListComp elt [⟨tg, iter, ifs, 0⟩] scope pos) spos) τ (τ.set i (.ow (xs.filterMap g))) := fun R hR B0 H0 B H σ ok D em => by
  have hp : ∀ X, p.In X → PS X (.Assign [.Name y py] (.ListComp elt [⟨tg, iter, ifs, 0⟩] scope pos) spos) (tAsg (tLc (EI p tg iter) (EG (p.blk scope) tg) (ETs (p.blk scope) ifs) (EE (p.blk scope) elt) (own.map fun (x : Str × Nat) => x.2)) (gName i)) := fun X hX => by
    have hX' := hX
    obtain ⟨k, rfl, calm, _⟩ := hX'
    exact ps_setLc calm nd hN hy (sw_true hk hy hl ha) (ei hX) bk (fun s H C cl fp => eg (blk_in hX scope s H C cl fp)) (fun s H C cl fp => ets (blk_in hX scope s H C cl fp)) (fun s H C cl fp => ee (blk_in hX scope s H C cl fp)) (hf _)
  obtain ⟨v, r1, ev⟩ := hi B0 H0 B H σ ok
  obtain ⟨c, kvs, e1, hc, r⟩ := dct_at (show rep p.K B v d from r1)
  subst e1
  rcases hc with hc | ⟨ob, hc⟩
  · have n : ∀ od, nrm (.frz od (PKey.obj kvs)) = nrm (PKey.obj kvs) := fun od => by rw [PKey.fz, PKey.nn]
    have hH := ok.bh _ _ hc
    refine ⟨_, fun X hX => ps_lock (hp X hX), c, _, hH, PKey.mu kvs, fun od => ?_⟩
    have okl := ok.lock hc (n od) (PKey.nt kvs)
    have eml := em.lock ok hc (n od)
    exact lc_run (Q := fun v H1 => gName i v σ H1 (lkE c od (PKey.obj kvs) D).nx) (dw _ _ σ c od kvs (lk_same ok.bh) upd_same (r.imp fun _ _ h => h.mono (lk_le hc)) (ev _ _ (lk_le hc) (lk_same ok.bh))) hn hw turn okl fun B1 H1 v x1 r1 => eml.nx B1 H1 _ _ (okl.putN x1 r1) hR
  · exact ⟨_, hp, lc_run (Q := fun v H1 => gName i v σ H1 D.nx) (dw _ _ σ c ob kvs ok.bh hc r (ev _ _ (.refl _) ok.bh)) hn hw turn ok fun B1 H1 v x1 r1 => em.nx B1 H1 _ _ (ok.putN x1 r1) hR⟩
section
variable {f : γ → β}
theorem px_lcDM (nd : p.N.Nodup) (bk : BlkOk p.N p.sc scope own) (hi : SV p e τ (.sh d)) (dw : DW p tg iter e d (xs.map fun x => .sh x)) (hn : xs.length ≤ sizeLine) (hw : ∀ j ∈ w, j ∈ own.map (·.2))
    (turn : ∀ x, x ∈ xs → ∃ τ', GX (p.blk scope) tg w (.sh x) (wipeT τ (own.map (·.2))) τ' ∧ PX (p.blk scope) elt τ' (.sh (f x)))
    (hf : ∀ env x, foldedSetIterable iter env x = pure x) : PX p (.ListComp elt [⟨tg, iter, [], 0⟩] scope pos) τ (.ow (xs.map f)) :=
  (px_lcDG (g := fun x => some (f x)) nd bk hi dw hn hw (fun x hx => by obtain ⟨τ', h1, h2⟩ := turn x hx; exact ⟨τ', h1, pts_nil, fun y hy => Option.some.inj hy ▸ h2⟩) hf).to (congrArg Sl.ow (by rw [← List.filterMap_eq_map]; rfl))
theorem fturn {tst : Expr} {c : γ → Bool} (turn : ∀ x, x ∈ xs → ∃ τ', GX (p.blk scope) tg w (.sh x) (wipeT τ (own.map (·.2))) τ' ∧ PTx (p.blk scope) tst τ' (c x) ∧ (c x = true → PX (p.blk scope) elt τ' (.sh (f x)))) (x : γ) (hx : x ∈ xs) :
    ∃ τ', GX (p.blk scope) tg w (.sh x) (wipeT τ (own.map (·.2))) τ' ∧ PTsx (p.blk scope) [tst] τ' ((fun x => if c x then some (f x) else none) x).isSome ∧ ∀ y, (fun x => if c x then some (f x) else none) x = some y → PX (p.blk scope) elt τ' (.sh y) := by
  obtain ⟨τ', h1, h2, h3⟩ := turn x hx
  refine ⟨τ', h1, pts_one (h2.to (by show c x = (if c x then some (f x) else none).isSome; cases c x <;> rfl)), fun y hy => ?_⟩
  have hy : (if c x then some (f x) else none) = some y := hy
  cases hc : c x with
  | true => rw [hc] at hy; exact Option.some.inj hy ▸ h3 hc
  | false => rw [hc] at hy; cases hy
theorem px_lcDF {tst : Expr} {c : γ → Bool} (nd : p.N.Nodup) (bk : BlkOk p.N p.sc scope own) (hi : SV p e τ (.sh d)) (dw : DW p tg iter e d (xs.map fun x => .sh x)) (hn : xs.length ≤ sizeLine) (hw : ∀ j ∈ w, j ∈ own.map (·.2))
    (turn : ∀ x, x ∈ xs → ∃ τ', GX (p.blk scope) tg w (.sh x) (wipeT τ (own.map (·.2))) τ' ∧ PTx (p.blk scope) tst τ' (c x) ∧ (c x = true → PX (p.blk scope) elt τ' (.sh (f x))))
    (hf : ∀ env x, foldedSetIterable iter env x = pure x) : PX p (.ListComp elt [⟨tg, iter, [tst], 0⟩] scope pos) τ (.ow ((xs.filter c).map f)) :=
  (px_lcDG (g := fun x => if c x then some (f x) else none) nd bk hi dw hn hw (fun x hx => fturn turn x hx) hf).to (congrArg Sl.ow (fm_eq c f xs))
variable (G : Gd p m) (i : Nat) {y : Str} {py spos : Pos} (hN : p.N[i]? = some y) (hy : p.sc.names.lookup y = some .local) (hk : p.sc.kind = .function) (hl : (py.line == pos.line) = true) (ha : (scope.names.any fun (n, k) => n == y && (k == .local || k == .cell)) = false)
include G hN hy hk hl ha
theorem sx_lcDM (bk : BlkOk p.N p.sc scope own) (hi : SV p e τ (.sh d)) (dw : DW p tg iter e d (xs.map fun x => .sh x)) (hn : xs.length ≤ sizeLine) (hw : ∀ j ∈ w, j ∈ own.map (·.2))
    (turn : ∀ x, x ∈ xs → ∃ τ', GX (p.blk scope) tg w (.sh x) (wipeT τ (own.map (·.2))) τ' ∧ PX (p.blk scope) elt τ' (.sh (f x)))
    (hf : ∀ env x, foldedSetIterable iter env x = pure x) (k : ∀ zs, zs = xs.map f → SX p rest (τ.set i (.ow zs)) R) : SX p (.Assign [.Name y py] (.ListComp elt [⟨tg, iter, [], 0⟩] scope pos) spos :: rest) τ R := by
  refine sx_step (s_lcDG (g := fun x => some (f x)) G.nd bk i hN hy hk hl ha hi dw hn hw (fun x hx => by obtain ⟨τ', h1, h2⟩ := turn x hx; exact ⟨τ', h1, pts_nil, fun y hy => Option.some.inj hy ▸ h2⟩) hf) ?_
  exact k _ (by rw [← List.filterMap_eq_map]; rfl)
theorem sx_lcDF {tst : Expr} {c : γ → Bool} (bk : BlkOk p.N p.sc scope own) (hi : SV p e τ (.sh d)) (dw : DW p tg iter e d (xs.map fun x => .sh x)) (hn : xs.length ≤ sizeLine) (hw : ∀ j ∈ w, j ∈ own.map (·.2))
    (turn : ∀ x, x ∈ xs → ∃ τ', GX (p.blk scope) tg w (.sh x) (wipeT τ (own.map (·.2))) τ' ∧ PTx (p.blk scope) tst τ' (c x) ∧ (c x = true → PX (p.blk scope) elt τ' (.sh (f x))))
    (hf : ∀ env x, foldedSetIterable iter env x = pure x) (k : ∀ zs, zs = (xs.filter c).map f → SX p rest (τ.set i (.ow zs)) R) : SX p (.Assign [.Name y py] (.ListComp elt [⟨tg, iter, [tst], 0⟩] scope pos) spos :: rest) τ R := by
  refine sx_step (s_lcDG (g := fun x => if c x then some (f x) else none) G.nd bk i hN hy hk hl ha hi dw hn hw (fun x hx => fturn turn x hx) hf) (k _ (fm_eq c f xs))
end
end
end
/-! ### values -/
section
variable {p : Par} {tg e : Expr} {κ α : Type} [Py κ] [DecidableEq κ] [KeyF κ] [Py α] {d : Dct κ α}
theorem dw_values {apos cpos : Pos} (hbase : ∀ env, attributeBase e "values" env (eval e env) = eval e env) (hline : (apos.endLine == cpos.line) = true) : DW p tg (.Call (.Attribute e "values" apos) [] [] cpos) e d ((d.l.map (·.2)).map fun x => .sh x) := fun B H σ c o kvs s h r ev R q =>
  ⟨iVals (EE p e), fun X hX => pi_values (ee hX) (hbase _) hline, ev _ ⟨c, o, _, rfl, s _ _ h, q B H _ (.refl s) fun B2 H2 s1 s2 => by
    have hH := s2 _ _ (s1 _ _ h)
    refine ⟨fun i t hi => ?_, hH, by rw [List.length_map, List.length_map, List.length_map, r.length]; exact Nat.le_refl _⟩
    obtain ⟨x, hx, rfl⟩ := items_at hi
    rw [List.getElem?_map] at hx
    obtain ⟨⟨k, x'⟩, hx2, e2⟩ := Option.map_eq_some_iff.mp hx
    have e2 : x' = x := e2
    subst e2
    obtain ⟨⟨k', v⟩, hv, rv⟩ := r.get hx2
    refine ⟨⟨hH, by rw [List.length_map]; exact lt_of_get hv⟩, fun y H' hy => ⟨B2, by rw [hy.1]; exact .refl s2, ?_⟩⟩
    obtain ⟨_, k2, e3⟩ := hy
    rw [List.getElem?_map, hv] at e3
    cases e3
    exact Py.mono (.of s1) rv.2.2⟩⟩
/-- list(d): the keys -/
theorem call_lstD {X : Cx} (hc : X.calm = true) : CallR X (.type "list") fun xs H Q => ∃ (c : Addr) (kvs : List (Key × V)), xs = [.ref c] ∧ Rd H c (.dK kvs) ∧ ∀ q, H q = none → Q (.ref q) (upd H q (.lst (kvs.map fun kv => kV kv.1))) := by
  intro pins s σ H xs us Q I r h
  obtain ⟨c, kvs, rfl, hk, q⟩ := h
  obtain ⟨u, rfl, rx⟩ := vals1 r
  cases rx
  obtain ⟨z, lo, vs, rk, hd⟩ := dk_rd I.hok hk
  obtain ⟨ep, hat⟩ := hd.dictAt
  have hl : kvs.length = vs.length := Paired.length rk
  refine PySem.W.kdl_call (PySem.W.kdl_dict (knd := mixKind X.prog X.w) (kvs := vs) (ep := ep) lo) (I.ok.hd hc) hat (by rw [← hl]; exact z) fun h' tk acc' c' hkeep hS hacc => ?_
  have el : acc'.toList.length = acc'.size := Array.length_toList
  refine ⟨.ref s.heap.objs.size, upd H s.heap.objs.size (.lst (kvs.map fun kv => kV kv.1)), I.laid hkeep (Nat.le_refl _) (show ObjOk X.prog X.w _ _ _ (.lst (kvs.map fun kv => kV kv.1)) from ⟨by rw [List.length_map]; exact z, acc'.toList, c', vals_of_at (by rw [List.length_map, el, hacc.1, hl]) fun j x w h1 h2 => ?_, by rw [Array.toArray_toList]; exact hS⟩), rfl, q _ (I.hok.fresh (Nat.le_refl _))⟩
  obtain ⟨k, y, hky, hi⟩ := hacc.2 j w (by rw [← Array.getElem?_toList]; exact h2)
  have e1 : (kvs.map (·.1))[j]? = some k := by rw [KV.keys rk, List.getElem?_map, hky]; rfl
  have e2 : (kvs.map fun kv => kV kv.1) = (kvs.map (·.1)).map kV := by rw [List.map_map]; rfl
  rw [e2, List.getElem?_map, e1] at h1
  cases h1
  exact keyIs_rel hi
theorem px_listD {τ : List Sl} {pos pp : Pos} (hg : p.sc.names.lookup ("list" : Str) = some .globalImplicit) (hm : p.mg "list" = none) (hv : bootBuiltins "list" = some (.type "list")) (ha : PX p e τ (.sh d)) (he : ∀ env, starEach [e] env = [(false, eval e env)] := by intro _; rfl) :
    PX p (.Call (.Name "list" pp) [e] [] pos) τ (.ow (d.l.map (·.1))) :=
  px_t1 (fun X hX => call_lstD (by obtain ⟨k, rfl, c, _⟩ := hX; exact c)) hg hm hv ha (fun B H v Q s r q => by
    obtain ⟨c, kvs, e1, hc, r⟩ := dct_at r
    refine ⟨c, _, by rw [e1], rd_same s hc, fun l hl => q B _ _ (Ext.made s hl) (vow ⟨l, _, rfl, hl, s.free hl, upd_same, _, rfl, ?_⟩)⟩
    clear q hc e1
    generalize d.l = l at r
    induction r with
    | nil => exact .nil
    | @cons q1 q2 _ _ h t ih => exact .cons (show rep p.K B (kV (KeyF.kf q1.1)) q2.1 from by rw [h.1]; exact KeyF.of h.2.1) ih) (by decide) (by decide) he
end
end Ly

namespace Ly
open PySem PySem.Spec PyProof.Rows L2
open Py
theorem aput_cons {κ β : Type} [DecidableEq κ] (p : κ × β) (l : List (κ × β)) (k : κ) (b : β) (n : aget l p.1 = none) : aput (p :: l) k b = if p.1 = k then (p.1, b) :: l else p :: aput l k b := by
  unfold aput
  rw [List.any_cons, any_aget]
  by_cases z : p.1 = k
  · rw [if_pos z, decide_eq_true z, Bool.true_or, if_pos rfl, List.map_cons, if_pos z]
    congr 1
    rw [z] at n
    clear z
    induction l with
    | nil => rfl
    | cons q r ih =>
      rw [aget_cons] at n
      by_cases y : q.1 = k
      · rw [if_pos y] at n; cases n
      · rw [if_neg y] at n
        rw [List.map_cons, if_neg y, ih n]
  · rw [if_neg z, decide_eq_false z, Bool.false_or]
    split
    · rw [List.map_cons, if_neg z]
    · rfl
/-! ### a dict of things of its own -/
structure DD (κ β : Type) where
  l : List (κ × β)
section
variable {κ β : Type} [Py κ] [DecidableEq κ] [PKey κ] [Od β]
inductive OwnL (K : PySem.W.Frag) (B H : Hp) : List (κ × V) → List (κ × β) → List Addr → Prop
  | nil : OwnL K B H [] [] []
  | cons {k : κ} {q : Addr} {b : β} {F G : List Addr} {kvs : List (κ × V)} {l : List (κ × β)} : PKey.okk k → Od.own K B H q b F → (∀ a ∈ F, a ∉ G) → aget l k = none → OwnL K B H kvs l G → OwnL K B H ((k, .ref q) :: kvs) ((k, b) :: l) (F ++ G)
theorem OwnL.lay {K : PySem.W.Frag} {B H : Hp} : ∀ {kvs : List (κ × V)} {l : List (κ × β)} {G : List Addr}, OwnL K B H kvs l G → ∀ a ∈ G, ∃ o, H a = some o ∧ ∀ xs, o ≠ .tup xs
  | _, _, _, .nil, _, m => by cases m
  | _, _, _, .cons _ r _ _ t, a, m => (List.mem_append.mp m).elim (fun m => Od.lay r a m) fun m => t.lay a m
theorem OwnL.mono {K : PySem.W.Frag} {B H B' H' : Hp} (l' : Le B B') : ∀ {kvs : List (κ × V)} {l : List (κ × β)} {G : List Addr}, OwnL K B H kvs l G → (∀ a ∈ G, H' a = H a) → OwnL K B' H' kvs l G
  | _, _, _, .nil, _ => .nil
  | _, _, _, .cons ok r d n t, s => .cons ok (Od.dmono l' (fun a m => s a (List.mem_append_left _ m)) r) d n (t.mono l' fun a m => s a (List.mem_append_right _ m))
theorem OwnL.keep [ImmO β] {K : PySem.W.Frag} {B H B' : Hp} (l' : TLe B B') : ∀ {kvs : List (κ × V)} {l : List (κ × β)} {G : List Addr}, OwnL K B H kvs l G → OwnL K B' H kvs l G
  | _, _, _, .nil => .nil
  | _, _, _, .cons ok r d n t => .cons ok (ImmO.dkeep l' r) d n (t.keep l')
theorem OwnL.length {K : PySem.W.Frag} {B H : Hp} : ∀ {kvs : List (κ × V)} {l : List (κ × β)} {G : List Addr}, OwnL K B H kvs l G → kvs.length = l.length
  | _, _, _, .nil => rfl
  | _, _, _, .cons _ _ _ _ t => by rw [List.length_cons, List.length_cons, t.length]
theorem OwnL.no {K : PySem.W.Frag} {B H : Hp} {k : κ} : ∀ {kvs : List (κ × V)} {l : List (κ × β)} {G : List Addr}, OwnL K B H kvs l G → aget l k = none → valV kvs k = none
  | _, _, _, .nil, _ => rfl
  | _, _, _, @OwnL.cons _ _ _ _ _ _ _ _ _ k' _ _ _ _ _ _ _ _ _ _ t, e => by
    rw [aget_cons] at e
    by_cases z : k' = k
    · rw [if_pos z] at e; cases e
    · rw [if_neg z] at e
      rw [valV_neg z]
      exact t.no e
/-- the entry at k, what may be put in its place -/
theorem OwnL.get {K : PySem.W.Frag} {B H : Hp} {k : κ} {b : β} : ∀ {kvs : List (κ × V)} {l : List (κ × β)} {G : List Addr}, OwnL K B H kvs l G → aget l k = some b →
    ∃ q F, valV kvs k = some (.ref q) ∧ Od.own K B H q b F ∧ (∀ a ∈ F, a ∈ G) ∧ ∀ (H1 : Hp) (b' : β) (F2 : List Addr), (∀ a, a ∉ F → H a ≠ none → H1 a = H a) → (∀ a ∈ F2, a ∈ F ∨ H a = none) → Od.own K B H1 q b' F2 →
      ∃ G2, OwnL K B H1 kvs (aput l k b') G2 ∧ ∀ a ∈ G2, a ∈ G ∨ H a = none
  | _, _, _, .nil, e => by cases e
  | _, _, _, @OwnL.cons _ _ _ _ _ _ _ _ _ k' q' b0 F G kvs l ok r d n t, e => by
    rw [aget_cons] at e
    by_cases z : k' = k
    · rw [if_pos z] at e
      cases e
      refine ⟨q', F, valV_pos z, r, fun a m => List.mem_append_left _ m, fun H1 b' F2 out inn r2 => ⟨F2 ++ G, ?_, fun a m => ?_⟩⟩
      · rw [aput_cons _ _ _ _ n, if_pos z]
        have t' := t.mono (H' := H1) (.refl B) fun a m => out a (fun mf => d a mf m) (by obtain ⟨o, h, _⟩ := t.lay a m; rw [h]; exact Option.some_ne_none o)
        refine .cons ok r2 (fun a m mg => ?_) n t'
        rcases inn a m with w | w
        · exact d a w mg
        · obtain ⟨o, h, _⟩ := t.lay a mg
          rw [w] at h; cases h
      · rcases List.mem_append.mp m with m | m
        · exact (inn a m).imp (fun h => List.mem_append_left _ h) id
        · exact .inl (List.mem_append_right _ m)
    · rw [if_neg z] at e
      obtain ⟨q, F1, e1, r1, s1, up⟩ := t.get e
      refine ⟨q, F1, by rw [valV_neg z]; exact e1, r1, fun a m => List.mem_append_right _ (s1 a m), fun H1 b' F2 out inn r2 => ?_⟩
      obtain ⟨G2, t2, s2⟩ := up H1 b' F2 out inn r2
      refine ⟨F ++ G2, ?_, fun a m => ?_⟩
      · rw [aput_cons _ _ _ _ n, if_neg z]
        refine .cons ok (Od.dmono (.refl B) (fun a m => out a (fun mf => d a m (s1 a mf)) (by obtain ⟨o, h, _⟩ := Od.lay r a m; rw [h]; exact Option.some_ne_none o)) r) (fun a m mg => ?_) (by rw [aget_put, if_neg z]; exact n) t2
        rcases s2 a mg with w | w
        · exact d a m w
        · obtain ⟨o, h, _⟩ := Od.lay r a m
          rw [w] at h; cases h
      · rcases List.mem_append.mp m with m | m
        · exact .inl (List.mem_append_left _ m)
        · exact (s2 a m).imp (fun h => List.mem_append_right _ h) id
/-- another thing of its own at k: there or not -/
theorem OwnL.put {K : PySem.W.Frag} {B H : Hp} {k : κ} {b : β} {q : Addr} {F : List Addr} (ok : PKey.okk k) (r : Od.own K B H q b F) : ∀ {kvs : List (κ × V)} {l : List (κ × β)} {G : List Addr}, OwnL K B H kvs l G → (∀ a ∈ F, a ∉ G) →
    ∃ G2, OwnL K B H (putK kvs k (.ref q)) (aput l k b) G2 ∧ ∀ a ∈ G2, a ∈ G ∨ a ∈ F
  | _, _, _, .nil, d => ⟨F ++ [], .cons ok r (fun _ _ m => by cases m) rfl .nil, fun a m => .inr (by simpa using m)⟩
  | _, _, _, @OwnL.cons _ _ _ _ _ _ _ _ _ k' q' b0 F0 G kvs l ok0 r0 d0 n t, d => by
    have pk : putK ((k', V.ref q') :: kvs) k (.ref q) = if k' = k then (k', .ref q) :: kvs else (k', V.ref q') :: putK kvs k (.ref q) := aput_cons (k', V.ref q') kvs k (.ref q) (t.no n)
    rw [pk, aput_cons _ _ _ _ n]
    by_cases z : k' = k
    · rw [if_pos z, if_pos z]
      exact ⟨F ++ G, .cons ok0 r (fun a m mg => d a m (List.mem_append_right _ mg)) n t, fun a m => (List.mem_append.mp m).elim .inr fun m => .inl (List.mem_append_right _ m)⟩
    · rw [if_neg z, if_neg z]
      obtain ⟨G2, t2, s2⟩ := t.put ok r (fun a m mg => d a m (List.mem_append_right _ mg))
      refine ⟨F0 ++ G2, .cons ok0 r0 (fun a m mg => ?_) (by rw [aget_put, if_neg z]; exact n) t2, fun a m => ?_⟩
      · rcases s2 a mg with w | w
        · exact d0 a m w
        · exact d a w (List.mem_append_left _ m)
      · rcases List.mem_append.mp m with m | m
        · exact .inl (List.mem_append_left _ m)
        · exact (s2 a m).imp (fun h => List.mem_append_right _ h) id
instance ddOd : Od (DD κ β) := ⟨fun K B H p d F => ∃ kvs G, F = p :: G ∧ p ∉ G ∧ H p = some (PKey.obj kvs) ∧ OwnL K B H kvs d.l G,
  fun {K B H p d F} ⟨kvs, G, e, n, h, r⟩ a m => by
    rw [e] at m
    rcases List.mem_cons.mp m with z | m
    · rw [z]; exact ⟨_, h, PKey.nt kvs⟩
    · exact r.lay a m,
  fun {K B H B' H' p d F} l s ⟨kvs, G, e, n, h, r⟩ => ⟨kvs, G, e, n, by rw [s p (by rw [e]; exact List.mem_cons_self)]; exact h, r.mono l fun a m => s a (by rw [e]; exact List.mem_cons_of_mem _ m)⟩⟩
instance [ImmO β] : ImmO (DD κ β) := ⟨fun l ⟨kvs, G, e, n, h, r⟩ => ⟨kvs, G, e, n, h, r.keep l⟩⟩
theorem over_le {B H : Hp} {F G : List Addr} (s : ∀ a ∈ F, a ∈ G) (n : ∀ a ∈ G, B a = none) : Same (over B H F) (over B H G) := fun a o e => by
  by_cases z : a ∈ F
  · rw [over_in z] at e
    rw [over_in (s a z)]; exact e
  · rw [over_out z] at e
    rw [over_out (fun m => by rw [n a m] at e; cases e)]; exact e
theorem OwnL.pub {γ : Type} [Py γ] [Pub β γ] {K : PySem.W.Frag} {B H : Hp} {F : List Addr} (n : ∀ a ∈ F, B a = none) : ∀ {kvs : List (κ × V)} {l : List (κ × β)} {G : List Addr}, OwnL K B H kvs l G → (∀ a ∈ G, a ∈ F) →
    All2 (Dr K (over B H F)) kvs (l.map fun p => (p.1, (Pub.rd p.2 : γ)))
  | _, _, _, .nil, _ => .nil
  | _, _, _, .cons ok r _ _ t, s => by
    have s1 := fun a m => s a (List.mem_append_left _ m)
    exact .cons ⟨rfl, ok, Py.mono (.of (over_le s1 n)) (Pub.pub (fun a m => n a (s1 a m)) r)⟩ (t.pub n fun a m => s a (List.mem_append_right _ m))
instance ddPub {γ : Type} [Py γ] [Pub β γ] : Pub (DD κ β) (Dct κ γ) := ⟨fun d => ⟨d.l.map fun p => (p.1, (Pub.rd p.2 : γ))⟩, fun {K B H p d F} n ⟨kvs, G, e, np, h, r⟩ =>
  ⟨p, _, rfl, .of (by rw [over_in (by rw [e]; exact List.mem_cons_self)]; exact h), kvs, rfl, r.pub n fun a m => by rw [e]; exact List.mem_cons_of_mem _ m⟩⟩
end
section
variable {p : Par} {m : Nat} {τ τ1 : List Sl} {R : Post} {st : Stmt} {sts rest : List Stmt} {e a b o : Expr} {es : List Expr} {pos pos' : Pos}
variable {κ β : Type} [Py κ] [DecidableEq κ] [PKey κ] [Od β]
theorem px_ddnew : PX p (.Dict [] [] pos) τ (.ow (DD.mk [] : DD κ β)) := fun B0 H0 B H σ ok Q q =>
  ⟨_, fun X _ => PKey.new X pos, fun c nc => q B _ _ (Ext.made ok.bh nc) ⟨[c], c, rfl, fun a m => by rw [List.mem_singleton.mp m]; exact ⟨nc, ok.bh.free nc⟩, [], [], rfl, List.not_mem_nil, upd_same, .nil⟩⟩
/-- the footprint of a slot -/
theorem Ok.ownF {K : PySem.W.Frag} {B0 H0 B H : Hp} {σ : L2.St} {τ : List Sl} (h : Ok K B0 H0 B H σ τ) {i : Nat} {x : β} (hi : τ[i]? = some (.ow x)) :
    ∃ fp, Fps K H0 B H σ τ fp ∧ ∃ q, σ[i]? = some (some (.ref q)) ∧ (∀ a ∈ fp i, H0 a = none ∧ B a = none) ∧ Od.own K B H q x (fp i) := by
  obtain ⟨fp, f⟩ := h.fps
  rcases f.at_ i _ hi with z | ⟨v, e, q, e1, n, r⟩
  · cases z
  · subst e1
    exact ⟨fp, f, q, e, n, r⟩
/-- d[k] = (a new thing of its own) -/
theorem s_ddput (i : Nat) {d : DD κ β} {k : κ} {y : β} {x : Str} {px : Pos} (hN : p.N[i]? = some x) (hv : Vis p.sc x) (hτ : τ[i]? = some (.ow d)) (hy : PX p e τ (.ow y)) (hk : PX p b τ (.sh k)) (hl : d.l.length < sizeLine)
    (hd : (x == ("__debug__" : Str)) = false) (hc : (x == ("__classdict__" : Str)) = false) (hs : ∀ env, swapsWith e (some (.Subscript (.Name x px) b pos')) pos.line env = pure false) :
    D1 p (.Assign [.Subscript (.Name x px) b pos'] e pos) τ (τ.set i (.ow (DD.mk (aput d.l k y)))) := fun R hR B0 H0 B H σ ok D em => by
  refine ⟨sDPut (tVar i) (EE p b) (EE p e), fun X hX => ?_, hy B0 H0 B H σ ok _ fun B1 H1 v x1 r1 => ?_⟩
  · have hX' := hX
    obtain ⟨j, rfl, _⟩ := hX'
    exact ps_dput (units1 hX) (pe_var hN hv hd hc) (ee hX) (ee hX) (hs _)
  · have ok1 := ok.go x1
    obtain ⟨F, qy, ev, ny, ry⟩ := r1
    subst ev
    obtain ⟨fp, f, q, e1, n, own⟩ := ok.ownF hτ
    have own1 := Od.dmono (.of x1.bb) (x1.keep (Od.lay own)) own
    have f1 := f.ext x1
    obtain ⟨kvs, G, e2, np, hq, ol⟩ := own1
    refine ⟨_, e1, hk B0 H0 B1 H1 σ ok1 _ fun B2 H2 u x2 r2 => ?_⟩
    have ok2 := ok1.go x2
    have hq2 := x2.hh _ _ hq
    have ol2 := ol.mono (.of x2.bb) (x2.keep ol.lay)
    have ry2 := Od.dmono (.of x2.bb) (x2.keep (Od.lay ry)) ry
    refine ⟨q, _, rfl, PKey.put x2.bh hq2 r2 (by rw [ol.length]; exact hl), em.nx B2 _ _ _ ?_ hR⟩
    have inH : ∀ a ∈ fp i, H a ≠ none := fun a m => by
      obtain ⟨o, h, _⟩ := Od.lay own a m
      rw [h]; exact Option.some_ne_none o
    have dis : ∀ a ∈ F, a ∉ G := fun a m mg => inH a (by rw [e2]; exact List.mem_cons_of_mem _ mg) (ny a m).1
    have nq : q ∉ F := fun m => inH q (by rw [e2]; exact List.mem_cons_self) (ny q m).1
    obtain ⟨G2, t2, s2⟩ := ol2.put (PKey.rok (show rep p.K B2 u k from r2)) ry2 dis
    have nG2 : q ∉ G2 := fun m => (s2 q m).elim np nq
    refine ok2.mutG (f1.ext x2) hτ e1 (G := q :: G2) (fun a na hn => ?_) (fun a ma => ?_) ⟨_, G2, rfl, nG2, upd_same, t2.mono (.refl _) fun a ma => ?_⟩
    · rw [upd_ne (fun z => na (by rw [z, e2]; exact List.mem_cons_self))]
    · rcases List.mem_cons.mp ma with z | ma
      · exact .inl (by rw [z, e2]; exact List.mem_cons_self)
      · rcases s2 a ma with w | w
        · exact .inl (by rw [e2]; exact List.mem_cons_of_mem _ w)
        · refine .inr ⟨ok.ext.hh.free (ny a w).1, ?_, f.notin (ny a w).1⟩
          obtain ⟨o, h, t⟩ := Od.lay ry a w
          exact x2.nw a o (ny a w).2 h t
    · rw [upd_ne (fun z => nG2 (by rw [← z]; exact ma))]
theorem sx_ddput (G : Gd p m) (i : Nat) {d : DD κ β} {k : κ} {y : β} {x : Str} {px : Pos} (hN : p.N[i]? = some x) (hi : i < m) (hτ : τ[i]? = some (.ow d)) (hy : PX p e τ (.ow y)) (hk : PX p b τ (.sh k)) (hl : d.l.length < sizeLine)
    (hs : ∀ env, swapsWith e (some (.Subscript (.Name x px) b pos')) pos.line env = pure false) (kk : SX p rest (τ.set i (.ow (DD.mk (aput d.l k y)))) R) : SX p (.Assign [.Subscript (.Name x px) b pos'] e pos :: rest) τ R :=
  sx_step (s_ddput i hN (G.vs hN hi) hτ hy hk hl (G.ok x (List.mem_of_getElem? hN)).1 (G.ok x (List.mem_of_getElem? hN)).2 hs) kk
end
/-! ### a dict of dicts: d[k][j] = y -/
theorem map_pair {α β : Type} : ∀ l : List (α × β), (l.map fun p => (p.1, p.2)) = l
  | [] => rfl
  | (a, b) :: r => by rw [List.map_cons, map_pair r]
theorem sx_pubDD {p : Par} {τ : List Sl} {R : Post} {sts : List Stmt} {κ ι α : Type} [Py κ] [DecidableEq κ] [PKey κ] [Py ι] [DecidableEq ι] [PKey ι] [Py α] (i : Nat) {d : DD κ (Dct ι α)} (hi : τ[i]? = some (.ow d)) (h : SX p sts (τ.set i (.sh (Dct.mk d.l))) R) : SX p sts τ R :=
  sx_pubD (γ := Dct κ (Dct ι α)) i hi (by
    have e : (Pub.rd d : Dct κ (Dct ι α)) = Dct.mk d.l := by
      show Dct.mk (d.l.map fun p => (p.1, p.2)) = _
      rw [map_pair]
    rw [e]; exact h)
section
variable {p : Par} {m : Nat} {τ τ1 : List Sl} {R : Post} {rest : List Stmt} {e a b c : Expr} {pos pos' pos2 : Pos}
variable {κ ι α : Type} [Py κ] [DecidableEq κ] [PKey κ] [Py ι] [DecidableEq ι] [PKey ι] [Py α]
theorem s_ddin (i : Nat) {d : DD κ (Dct ι α)} {k : κ} {j : ι} {u : Dct ι α} {y : α} {x : Str} {px : Pos} (hN : p.N[i]? = some x) (hv : Vis p.sc x) (hτ : τ[i]? = some (.ow d)) (hy : PX p e τ (.sh y)) (hk : PX p b τ (.sh k)) (hj : PX p c τ (.sh j)) (hu : aget d.l k = some u) (hl : u.l.length < sizeLine)
    (hd : (x == ("__debug__" : Str)) = false) (hc : (x == ("__classdict__" : Str)) = false) (hsl : NoSl b) (hs : ∀ env, swapsWith e (some (.Subscript (.Subscript (.Name x px) b pos2) c pos')) pos.line env = pure false) :
    D1 p (.Assign [.Subscript (.Subscript (.Name x px) b pos2) c pos'] e pos) τ (τ.set i (.ow (DD.mk (aput d.l k (Dct.mk (aput u.l j y)))))) := fun R hR B0 H0 B H σ ok D em => by
  refine ⟨sDPut (tDGet (tVar i) (EE p b)) (EE p c) (EE p e), fun X hX => ?_, hy B0 H0 B H σ ok _ fun B1 H1 v x1 r1 => ?_⟩
  · have hX' := hX
    obtain ⟨j, rfl, _⟩ := hX'
    exact ps_dput (units1 hX) (pe_dget (units1 hX) (pe_var hN hv hd hc) (ee hX) hsl) (ee hX) (ee hX) (hs _)
  · have ok1 := ok.go x1
    obtain ⟨fp, f, q, e1, n, own⟩ := ok1.ownF hτ
    refine ⟨_, e1, hk B0 H0 B1 H1 σ ok1 _ fun B2 H2 w x2 r2 => ?_⟩
    have ok2 := ok1.go x2
    have own2 := Od.dmono (.of x2.bb) (x2.keep (Od.lay own)) own
    obtain ⟨kvs, G, e2, np, hq, ol⟩ := own2
    obtain ⟨q2, F, hv2, _, _, _⟩ := ol.get hu
    have hget : DGet H2 q w (some (V.ref q2)) := by
      rw [← hv2]
      exact PKey.get x2.bh (.inl hq) r2
    refine ⟨q, V.ref q2, rfl, hget, hj B0 H0 B2 H2 σ ok2 _ fun B3 H3 z x3 r3 => ?_⟩
    have ok3 := ok2.go x3
    have f3 := (f.ext x2).ext x3
    have hq3 := x3.hh _ _ hq
    have ol3 := ol.mono (.of x3.bb) (x3.keep ol.lay)
    obtain ⟨q3, F3, hv3, own3, s3, up⟩ := ol3.get hu
    rw [hv2] at hv3
    cases hv3
    obtain ⟨eF, ob, hq2, kvs2, e4, rr⟩ := own3
    subst e4
    have xx := x2.trans x3
    have y3 : rep p.K B3 v y := Py.mono (.of xx.bb) (show rep p.K B1 v y from r1)
    refine ⟨q2, _, rfl, PKey.put x3.bh hq2 r3 (by rw [rr.length]; exact hl), em.nx B3 _ _ _ ?_ hR⟩
    have ne : q2 ≠ q := fun z => np (by rw [← z]; exact s3 q2 (by rw [eF]; exact List.mem_singleton_self _))
    obtain ⟨G2, t2, s2⟩ := up (upd H3 q2 (PKey.obj (putK kvs2 j v))) (Dct.mk (aput u.l j y)) [q2] (fun a na hn => by rw [upd_ne (fun z => na (by rw [z, eF]; exact List.mem_singleton_self _))]) (fun a ma => .inl (by rw [eF]; exact ma))
      ⟨rfl, _, upd_same, _, rfl, dr_put rr (PKey.rok (show rep p.K B3 z j from r3)) y3⟩
    refine ok3.mutF f3 hτ e1 (G := q :: G2) (fun a na hn => ?_) (fun a ma => ?_) ⟨kvs, G2, rfl, fun m => ?_, by rw [upd_ne (Ne.symm ne)]; exact hq3, t2⟩
    · rw [upd_ne (fun z => na (by rw [z, e2]; exact List.mem_cons_of_mem _ (s3 q2 (by rw [eF]; exact List.mem_singleton_self _))))]
    · rcases List.mem_cons.mp ma with z | ma
      · exact .inl (by rw [z, e2]; exact List.mem_cons_self)
      · exact (s2 a ma).imp (fun w => by rw [e2]; exact List.mem_cons_of_mem _ w) id
    · rcases s2 q m with w | w
      · exact np w
      · rw [hq3] at w; cases w
theorem sx_ddin (G : Gd p m) (i : Nat) {d : DD κ (Dct ι α)} {k : κ} {j : ι} {u : Dct ι α} {y : α} {x : Str} {px : Pos} (hN : p.N[i]? = some x) (hi : i < m) (hτ : τ[i]? = some (.ow d)) (hy : PX p e τ (.sh y)) (hk : PX p b τ (.sh k)) (hj : PX p c τ (.sh j)) (hu : aget d.l k = some u) (hl : u.l.length < sizeLine)
    (hsl : NoSl b) (hs : ∀ env, swapsWith e (some (.Subscript (.Subscript (.Name x px) b pos2) c pos')) pos.line env = pure false) (kk : SX p rest (τ.set i (.ow (DD.mk (aput d.l k (Dct.mk (aput u.l j y)))))) R) :
    SX p (.Assign [.Subscript (.Subscript (.Name x px) b pos2) c pos'] e pos :: rest) τ R :=
  sx_step (s_ddin i hN (G.vs hN hi) hτ hy hk hj hu hl (G.ok x (List.mem_of_getElem? hN)).1 (G.ok x (List.mem_of_getElem? hN)).2 hsl hs) kk
end
end Ly

namespace Ly
open PySem PySem.Spec PyProof.Rows L2
open Py
section
variable {p : Par} {m : Nat} {τ τ1 : List Sl} {R : Post} {st : Stmt} {sts rest : List Stmt} {e a b o : Expr} {es : List Expr} {pos pos' : Pos}
/-! ### texts -/
theorem str_len (a b : Str) : (a ++ b).length = a.length + b.length := by
  show (a.cps ++ b.cps).size = _
  rw [Array.size_append]; rfl
theorem str_toList (a b : Str) : (a ++ b).cps.toList = a.cps.toList ++ b.cps.toList := by
  show (a.cps ++ b.cps).toList = _
  rw [Array.toList_append]
theorem sg_cat {x y : Str} (hx : SG x) (hy : SG y) (h : x.length + y.length ≤ sizeLine) : SG (x ++ y) := by
  refine ⟨strOk_all.mpr fun c hc => ?_, by rw [str_len]; exact h⟩
  rw [str_toList] at hc
  exact (List.mem_append.mp hc).elim (strOk_all.mp hx.1 c) (strOk_all.mp hy.1 c)
theorem px_cat {x y : Str} (ha : PX p a τ (.sh x)) (hb : PX p b τ (.sh y)) (h : x.length + y.length ≤ sizeLine) : PX p (.BinOp a .Add b pos) τ (.sh (x ++ y)) :=
  px_op2 (fun _ _ => op_add_str) ha hb fun B H v u Q s r1 r2 q => ⟨x, y, r1.1, r2.1, h, q B H _ (.refl s) ⟨rfl, sg_cat r1.2 r2.2 h⟩⟩
/-- the signs of a text -/
theorem ix_str {x : Str} {tg : Expr} (h : PX p e τ (.sh x)) : IX p tg e τ ((x.cps.toList.map sgn).map fun z => .sh z) := fun B0 H0 B H σ ok R q => by
  refine ⟨iStr (EE p e), fun X hX => pi_str (ee hX), h B0 H0 B H σ ok _ fun B1 H1 v x1 r1 => ⟨x, r1.1, q B1 H1 _ x1 fun B2 H2 s1 s2 => ⟨fun i s hi => ?_, by show x.cps.size ≤ _; simp⟩⟩⟩
  obtain ⟨y, hy, rfl⟩ := items_at hi
  rw [List.getElem?_map] at hy
  obtain ⟨c, hc, e⟩ := Option.map_eq_some_iff.mp hy
  subst e
  have hlt := lt_of_get hc
  refine ⟨by show i < x.cps.size; simpa using hlt, fun z H' hz => ?_⟩
  obtain ⟨rfl, c', hc', rfl⟩ := hz
  rw [← Array.getElem?_toList, hc] at hc'
  cases hc'
  exact ⟨B2, .refl s2, rfl, sg_sgn r1.2 (List.mem_of_getElem? hc)⟩
/-! ### all, any, sum, min, max of a list -/
theorem bl_list {K : PySem.W.Frag} {B : Hp} {xs : List Bool} {v : V} (r : rep K B v xs) : ∃ c, v = .ref c ∧ B c = some (.lst (xs.map V.bl)) := by
  obtain ⟨c, ob, e, h, vs, e2, r⟩ := r
  subst e2
  refine ⟨c, e, ?_⟩
  rw [h.lst, All2.map_eq (f := V.bl) (fun _ _ q => q) r]
theorem int_list {K : PySem.W.Frag} {B : Hp} {xs : List Int} {v : V} (r : rep K B v xs) : ∃ c, v = .ref c ∧ B c = some (.lst (xs.map V.int)) := by
  obtain ⟨c, ob, e, h, vs, e2, r⟩ := r
  subst e2
  refine ⟨c, e, ?_⟩
  rw [h.lst, All2.map_eq (f := V.int) (fun _ _ q => q) r]
theorem px_all {xs : List Bool} {pp : Pos} (hg : p.sc.names.lookup ("all" : Str) = some .globalImplicit) (hm : p.mg "all" = none) (ha : PX p e τ (.sh xs)) (he : ∀ env, starEach [e] env = [(false, eval e env)] := by intro _; rfl) :
    PX p (.Call (.Name "all" pp) [e] [] pos) τ (.sh (xs.all id)) :=
  px_b1 (id := "all") (r := rAll p.K) (fun X hX => by obtain ⟨k, rfl, c, _⟩ := hX; exact cr_all c) hg hm (by decide +kernel) ha (fun B H v Q s r q => by
    obtain ⟨c, e, h⟩ := bl_list r
    exact ⟨c, xs, by rw [e], .of (s _ _ h), q B H _ (.refl s) rfl⟩) (by decide) (by decide) he
theorem px_any {xs : List Bool} {pp : Pos} (hg : p.sc.names.lookup ("any" : Str) = some .globalImplicit) (hm : p.mg "any" = none) (ha : PX p e τ (.sh xs)) (he : ∀ env, starEach [e] env = [(false, eval e env)] := by intro _; rfl) :
    PX p (.Call (.Name "any" pp) [e] [] pos) τ (.sh (xs.any id)) :=
  px_b1 (id := "any") (r := rAny p.K) (fun X hX => by obtain ⟨k, rfl, c, _⟩ := hX; exact cr_any c) hg hm (by decide +kernel) ha (fun B H v Q s r q => by
    obtain ⟨c, e, h⟩ := bl_list r
    exact ⟨c, xs, by rw [e], .of (s _ _ h), q B H _ (.refl s) rfl⟩) (by decide) (by decide) he
theorem px_sum {xs : List Int} {pp : Pos} (hg : p.sc.names.lookup ("sum" : Str) = some .globalImplicit) (hm : p.mg "sum" = none) (ha : PX p e τ (.sh xs)) (he : ∀ env, starEach [e] env = [(false, eval e env)] := by intro _; rfl) :
    PX p (.Call (.Name "sum" pp) [e] [] pos) τ (.sh xs.sum) :=
  px_b1 (id := "sum") (r := rSum p.K) (fun X hX => by obtain ⟨k, rfl, c, _⟩ := hX; exact cr_sum c) hg hm (by decide +kernel) ha (fun B H v Q s r q => by
    obtain ⟨c, e, h⟩ := int_list r
    exact ⟨c, xs, by rw [e], .of (s _ _ h), q B H _ (.refl s) rfl⟩) (by decide) (by decide) he
def minL : List Int → Int
  | [] => 0
  | [x] => x
  | x :: y :: r => min x (minL (y :: r))
theorem minL_mem : ∀ xs : List Int, xs ≠ [] → minL xs ∈ xs
  | [], h => (h rfl).elim
  | [x], _ => List.mem_singleton_self _
  | x :: y :: r, _ => by
    show min x (minL (y :: r)) ∈ _
    have := minL_mem (y :: r) (by simp)
    rcases Int.le_total x (minL (y :: r)) with h | h
    · rw [Int.min_eq_left h]; exact List.mem_cons_self
    · rw [Int.min_eq_right h]; exact List.mem_cons_of_mem _ this
theorem minL_le : ∀ xs : List Int, ∀ y ∈ xs, minL xs ≤ y
  | [], y, h => by cases h
  | [x], y, h => by rw [List.mem_singleton.mp h]; exact Int.le_refl _
  | x :: z :: r, y, h => by
    show min x (minL (z :: r)) ≤ y
    rcases List.mem_cons.mp h with h | h
    · rw [h]; exact Int.min_le_left _ _
    · exact Int.le_trans (Int.min_le_right _ _) (minL_le (z :: r) y h)
theorem minL_uniq {xs : List Int} {m : Int} (h : m ∈ xs) (hl : ∀ y ∈ xs, m ≤ y) : m = minL xs :=
  Int.le_antisymm (hl _ (minL_mem xs (List.ne_nil_of_mem h))) (minL_le xs m h)
theorem px_minL {xs : List Int} {pp : Pos} (hg : p.sc.names.lookup ("min" : Str) = some .globalImplicit) (hm : p.mg "min" = none) (ha : PX p e τ (.sh xs)) (hn : 0 < xs.length) (he : ∀ env, starEach [e] env = [(false, eval e env)] := by intro _; rfl) :
    PX p (.Call (.Name "min" pp) [e] [] pos) τ (.sh (minL xs)) :=
  px_b1 (id := "min") (r := rMin p.K) (fun X hX => by obtain ⟨k, rfl, c, _⟩ := hX; exact cr_min c) hg hm (by decide +kernel) ha (fun B H v Q s r q => by
    obtain ⟨c, e, h⟩ := int_list r
    exact ⟨c, xs, by rw [e], .of (s _ _ h), hn, fun m hm hl => q B H _ (.refl s) (by rw [minL_uniq hm hl]; rfl)⟩) (by decide) (by decide) he
/-! ### x, y, z = xs, a list of as many -/
theorem gx_lst {α : Type} [Py α] {xs : List α} {es : List Expr} {w : List Nat} {j : Nat} (h : GXs p es w (xs.map fun x => .sh x) τ τ1) (hn : ∀ env, (assignEach es env).length = xs.length) (hst : ∀ env, (assignEach es env).findIdx? (·.1) = none) :
    GX p (.Tuple es j pos) w (.sh xs) τ τ1 := fun B0 H0 B H σ v ok r Q q => by
  obtain ⟨c, ob, e, ha, vs, e2, r2⟩ := (show rep p.K B v xs from r)
  subst e2
  refine ⟨gLst p.K xs.length (EGs p es), fun X hX => ?_, c, vs, e, .of (ok.bh _ _ ha.lst), r2.length, h B0 H0 B H σ vs ok (all2_sh r2) Q q⟩
  have hX' := hX
  obtain ⟨k, rfl, calm, _⟩ := hX'
  exact pg_lst calm (egs hX) (hn _) (hst _)
/-- a tuple of a list, a tuple -/
theorem px_tupleU {α : Type} [Py α] {x : Tup α} {pp : Pos} (hg : p.sc.names.lookup ("tuple" : Str) = some .globalImplicit) (hm : p.mg "tuple" = none) (hv : bootBuiltins "tuple" = some (.type "tuple")) (ha : PX p e τ (.sh x)) (he : ∀ env, starEach [e] env = [(false, eval e env)] := by intro _; rfl) :
    PX p (.Call (.Name "tuple" pp) [e] [] pos) τ (.sh x) :=
  px_t1 (r := fun xs H Q => ∃ c ys, xs = [.ref c] ∧ ((SqL p.K H c ys ∧ ∀ l, H l = none → Q (.ref l) (upd H l (.tup ys))) ∨ (SqT p.K H c ys ∧ Q (.ref c) H))) (fun X hX => by obtain ⟨k, rfl, _⟩ := hX; exact call_tuple_of) hg hm hv ha (fun B H v Q s r q => by
    obtain ⟨c, ys, e, h, r2⟩ := r
    exact ⟨c, ys, by rw [e], .inr ⟨.of (s _ _ h), q B H _ (.refl s) (by rw [e] at *; exact ⟨c, ys, rfl, h, r2⟩)⟩⟩) (by decide) (by decide) he
/-- t + u -/
theorem px_catU {α : Type} [Py α] {x y : Tup α} (ha : PX p a τ (.sh x)) (hb : PX p b τ (.sh y)) (hl : x.l.length + y.l.length ≤ sizeLine) : PX p (.BinOp a .Add b pos) τ (.sh (Tup.mk (x.l ++ y.l))) :=
  px_op2 (r := rCatA p.K) (fun X hX => by obtain ⟨k, rfl, _⟩ := hX; exact op_catA) ha hb fun B H v u Q s ⟨c, vs, e1, h1, r1⟩ ⟨d, us, e2, h2, r2⟩ q => by
    refine ⟨c, d, vs, us, e1, e2, .of (s _ _ h1), .of (s _ _ h2), by rw [r1.length, r2.length]; exact hl, fun z => ?_, fun _ z => ?_, fun _ _ l hl => ?_⟩
    · have e : x.l = [] := by have := r1.length; rw [z] at this; exact List.length_eq_zero_iff.mp this.symm
      exact q B H _ (.refl s) ⟨d, us, rfl, h2, by rw [e]; exact r2⟩
    · have e : y.l = [] := by have := r2.length; rw [z] at this; exact List.length_eq_zero_iff.mp this.symm
      exact q B H _ (.refl s) ⟨c, vs, rfl, h1, by rw [e, List.append_nil]; exact r1⟩
    · have x2 := Ext.laid (o := .tup (vs ++ us)) s hl
      exact q _ _ _ x2 ⟨l, _, rfl, upd_same, (r1.imp fun _ _ h => Py.mono (.of x2.bb) h).append (r2.imp fun _ _ h => Py.mono (.of x2.bb) h)⟩
end
end Ly

namespace Ly
open PySem PySem.Spec PyProof.Rows L2
open Py
/-! ### an own thing at an address that is told -/
structure OwA (β : Type) where
  q : Addr
  b : β
instance owaOd {β : Type} [Od β] : Od (OwA β) := ⟨fun K B H p x F => p = x.q ∧ Od.own K B H p x.b F, fun h => Od.lay h.2, fun l s h => ⟨h.1, Od.dmono l s h.2⟩⟩
instance {β : Type} [Od β] [ImmO β] : ImmO (OwA β) := ⟨fun l h => ⟨h.1, ImmO.dkeep l h.2⟩⟩
instance {β γ : Type} [Od β] [Py γ] [Pub β γ] : Pub (OwA β) γ := ⟨fun x => Pub.rd x.b, fun n h => Pub.pub n h.2⟩
section
variable {p : Par} {m : Nat} {τ τ1 : List Sl} {R : Post} {st : Stmt} {sts rest : List Stmt} {e a b o : Expr} {es : List Expr} {pos pos' px : Pos}
theorem Ok.pinned {K : PySem.W.Frag} {B0 H0 B H : Hp} {σ : L2.St} {τ : List Sl} (h : Ok K B0 H0 B H σ τ) {i : Nat} {β : Type} [Od β] {x : β} (hi : τ[i]? = some (.ow x)) : ∃ q, σ[i]? = some (some (.ref q)) ∧ Ok K B0 H0 B H σ (τ.set i (.ow (OwA.mk q x))) := by
  obtain ⟨fp, f⟩ := h.fps
  have hl := lt_of_get hi
  rcases f.at_ i _ hi with z | ⟨v, e, q, e1, n, r⟩
  · cases z
  · subst e1
    refine ⟨q, e, h.ext, by rw [List.length_set]; exact h.len, fp, fun j s g => ?_, fun j k s u c g1 g2 o1 o2 f1 f2 => ?_⟩
    · by_cases z : i = j
      · subst z
        rw [List.getElem?_set_self hl] at g
        cases g
        exact .inr ⟨_, e, q, rfl, n, rfl, r⟩
      · rw [List.getElem?_set_ne z] at g
        exact f.at_ j s g
    · have go : ∀ {m : Nat} {t : Sl}, (τ.set i (.ow (OwA.mk q x)))[m]? = some t → t.own → ∃ t', τ[m]? = some t' ∧ t'.own := fun {m t} g o => by
        by_cases z : i = m
        · subst z; exact ⟨_, hi, trivial⟩
        · rw [List.getElem?_set_ne z] at g; exact ⟨t, g, o⟩
      obtain ⟨s', h1, o1'⟩ := go g1 o1
      obtain ⟨u', h2, o2'⟩ := go g2 o2
      exact f.dis j k s' u' c h1 h2 o1' o2' f1 f2
theorem Ok.unpin {K : PySem.W.Frag} {B0 H0 B H : Hp} {σ : L2.St} {τ : List Sl} (h : Ok K B0 H0 B H σ τ) {i : Nat} {β : Type} [Od β] {q : Addr} {x : β} (hi : τ[i]? = some (.ow (OwA.mk q x))) : Ok K B0 H0 B H σ (τ.set i (.ow x)) := by
  obtain ⟨fp, f⟩ := h.fps
  have hl := lt_of_get hi
  refine ⟨h.ext, by rw [List.length_set]; exact h.len, fp, fun j s g => ?_, fun j k s u c g1 g2 o1 o2 f1 f2 => ?_⟩
  · by_cases z : i = j
    · subst z
      rw [List.getElem?_set_self hl] at g
      cases g
      rcases f.at_ i _ hi with z | ⟨v, e, q', e1, n, r⟩
      · cases z
      · exact .inr ⟨v, e, q', e1, n, r.2⟩
    · rw [List.getElem?_set_ne z] at g
      exact f.at_ j s g
  · have go : ∀ {m : Nat} {t : Sl}, (τ.set i (.ow x))[m]? = some t → t.own → ∃ t', τ[m]? = some t' ∧ t'.own := fun {m t} g o => by
      by_cases z : i = m
      · subst z; exact ⟨_, hi, trivial⟩
      · rw [List.getElem?_set_ne z] at g; exact ⟨t, g, o⟩
    obtain ⟨s', h1, o1'⟩ := go g1 o1
    obtain ⟨u', h2, o2'⟩ := go g2 o2
    exact f.dis j k s' u' c h1 h2 o1' o2' f1 f2
/-- for .. in a name's own list, which stays its own -/
theorem s_forO (i0 : Nat) {α : Type} [Py α] {xs : List α} {x : Str} {tg : Expr} {body : List Stmt} {w : List Nat} (I : Addr → Nat → List Sl → Prop) (hN : p.N[i0]? = some x) (hv : Vis p.sc x) (hτ : τ[i0]? = some (.ow xs))
    (hdb : (x == ("__debug__" : Str)) = false) (hcd : (x == ("__classdict__" : Str)) = false) (h0 : ∀ q, I q 0 (τ.set i0 (.ow (OwA.mk q xs)))) (pin : ∀ q i τi, I q i τi → τi[i0]? = some (.ow (OwA.mk q xs)))
    (hs : ∀ q i y τi, xs[i]? = some y → I q i τi → ∃ τ', GX p tg w (.sh y) τi τ' ∧ SX p body τ' ⟨I q (i + 1), R.rt, R.rx, R.ex⟩) (hd : ∀ q τn, I q xs.length τn → R.nx (τn.set i0 (.ow xs)))
    (hf : ∀ env x', foldedSetIterable (.Name x px) env x' = pure x') : S1 p (.For tg (.Name x px) body [] pos) τ R := fun B0 H0 B H σ ok D em => by
  obtain ⟨q, eq, okp⟩ := ok.pinned hτ
  have hat : ∀ {B2 H2 : Hp} {σ2 : L2.St} {τ2 : List Sl}, Ok p.K B H0 B2 H2 σ2 τ2 → τ2[i0]? = some (.ow (OwA.mk q xs)) → ∃ vs, H2 q = some (.lst vs) ∧ All2 (rep p.K B2) vs xs := fun {B2 H2 σ2 τ2} ok2 h2 => by
    rcases ok2.at_ i0 _ h2 with z | ⟨v, e, F, q', e1, n, e2, e3, o, ho, vs, e4, r⟩
    · cases z
    · have e2 : q' = q := e2
      subst e2 e4
      exact ⟨vs, ho, r⟩
  obtain ⟨vs0, hq0, r0⟩ := hat okp.tobase (by rw [List.getElem?_set_self (lt_of_get hτ)])
  refine ⟨tFor (iList p.K (tVar i0)) (EG p tg) (EB p body), fun X hX => ?_, _, eq, q, rfl, ⟨vs0, .of hq0⟩, ?_⟩
  · have hX' := hX
    obtain ⟨k, rfl, calm, _, po⟩ := hX'
    exact ps_for po.1 calm (pi_list (pe_var hN hv hdb hcd)) (eg hX) (eb hX) (hf _)
  · refine ⟨fun i m σ H => m = xs.length - i ∧ i ≤ xs.length ∧ ∃ B2 τ, Ok p.K B H0 B2 H σ τ ∧ I q i τ, ⟨_, rfl, Nat.zero_le _, B, _, okp.tobase, h0 q⟩, ?_⟩
    rintro i m σ2 H2 ⟨rfl, hin, B2, τ2, ok2, inv⟩
    obtain ⟨vs, hq, r⟩ := hat ok2 (pin q i τ2 inv)
    by_cases hlt : i < xs.length
    · obtain ⟨y, hy⟩ : ∃ y, xs[i]? = some y := ⟨xs[i], List.getElem?_eq_getElem hlt⟩
      obtain ⟨v, hv2, rv⟩ := r.get hy
      obtain ⟨τ', gx, sx⟩ := hs q i y τ2 hy inv
      refine .inr ⟨⟨vs, v, .of hq, hv2⟩, fun σ' H' => ∃ B2 τ, Ok p.K B H0 B2 H' σ' τ ∧ I q (i + 1) τ, fun σ' H' n => ⟨_, by omega, rfl, hlt, n⟩, fun z H' hz => ?_⟩
      obtain ⟨rfl, hz⟩ := hz
      have ez : z = v := Option.some.inj ((hz vs (.of hq)).symm.trans hv2)
      subst ez
      refine gx B H0 B2 H' σ2 z ok2 rv _ fun σ4 ok4 _ => ?_
      exact sx B H0 B2 H' σ4 ok4 _ ⟨fun B H σ τ ok q => ⟨B, τ, ok, q⟩, (em.rebase ok.ext).rt, (em.rebase ok.ext).rx, (em.rebase ok.ext).ex⟩
    · have e : i = xs.length := by omega
      subst e
      refine .inl ⟨⟨vs, .of hq, by rw [r.length]; exact Nat.le_refl _⟩, ?_⟩
      exact (em.rebase ok.ext).nx B2 H2 σ2 _ (ok2.unpin (pin q _ τ2 inv)) (hd q τ2 inv)
theorem sx_forO (G : Gd p m) (i0 : Nat) {α : Type} [Py α] {xs : List α} {x : Str} {tg : Expr} {body : List Stmt} {w : List Nat} (I : Addr → Nat → List Sl → Prop) (hN : p.N[i0]? = some x) (hi : i0 < m) (hτ : τ[i0]? = some (.ow xs))
    (h0 : ∀ q, I q 0 (τ.set i0 (.ow (OwA.mk q xs)))) (pin : ∀ q i τi, I q i τi → τi[i0]? = some (.ow (OwA.mk q xs)))
    (hs : ∀ q i y τi, xs[i]? = some y → I q i τi → ∃ τ', GX p tg w (.sh y) τi τ' ∧ SX p body τ' ⟨I q (i + 1), R.rt, R.rx, R.ex⟩)
    (hf : ∀ env x', foldedSetIterable (.Name x px) env x' = pure x') (hd : ∀ q τn, I q xs.length τn → SX p rest (τn.set i0 (.ow xs)) R) : SX p (.For tg (.Name x px) body [] pos :: rest) τ R :=
  sx_cons (fun τ' => SX p rest τ' R) (s_forO i0 I hN (G.vs hN hi) hτ (G.ok x (List.mem_of_getElem? hN)).1 (G.ok x (List.mem_of_getElem? hN)).2 h0 pin hs hd hf) fun _ h => h
end
end Ly

namespace Ly
open PySem PySem.Spec PyProof.Rows L2
open Py
/-! ### zip of any two: what each side must do -/
/-- the iterator it over the thing at l, whose items are its -/
structure Nx (prog : Program) (w : World) (A : Around) (it l : Addr) (S : Nat → Heap → Prop) (C : Heap → Prop) (its : Array Value) : Prop where
  keepS : ∀ {k h h'}, S k h → (∀ o, h.get? it = some o → h'.get? it = some o) → S k h'
  keepC : ∀ {h h'}, C h → (∀ o, h.get? l = some o → h'.get? l = some o) → C h'
  item : ∀ {k : Nat} {x : Value} {s : Shared} {Q : Value → Shared → Prop} {E}, S k s.heap → C s.heap → its[k]? = some x → (∀ h', S (k + 1) h' → Heap.SameBut it s.heap h' → Q x { s with heap := h' }) → wpAny (model prog w) A (Builtin.SmallTypes.nextOf (.ref it)) Q E s
  stop : ∀ {k : Nat} {s : Shared} {Q : Value → Shared → Prop} {E : Value → Shared → Prop}, A.handled = none → S k s.heap → C s.heap → its[k]? = none →
    (∀ h' e, Heap.ExtBut it s.heap h' → (∃ o, h'.get? e = some o ∧ o.cls = .type "StopIteration") → E (.ref e) { s with heap := h' }) → wpAny (model prog w) A (Builtin.SmallTypes.nextOf (.ref it)) Q E s
  there : ∀ {k h}, S k h → ∃ o, h.get? it = some o ∧ ∀ v, o.data ≠ .seq v 0 ∨ True
theorem eb_at {h h' : Heap} {it c : Addr} (s : Heap.ExtBut it h h') (ne : c ≠ it) : ∀ o, h.get? c = some o → h'.get? c = some o := fun o e => s c o ne e
theorem nx_list {prog : Program} {w : World} {A : Around} {it l : Addr} {its : Array Value} : Nx prog w A it l (fun k h => h.IsListIter it l k) (fun h => h.IsList l its) its where
  keepS st k := st.at k
  keepC := fun {h h'} c k => by
    obtain ⟨o, e, r⟩ := c
    exact ⟨o, k o e, r⟩
  item st c e q := wpAny_nextOf_list_item st c e q
  stop hh st c e q := wpAny_nextOf_list_end hh st c e q
  there st := by
    obtain ⟨o, e, _⟩ := st
    exact ⟨o, e, fun _ => .inr trivial⟩
theorem nx_tup {prog : Program} {w : World} {A : Around} {it l : Addr} {its : Array Value} : Nx prog w A it l (fun k h => h.IsTupleIter it l k) (fun h => h.IsTuple l its) its where
  keepS st k := st.at k
  keepC := fun {h h'} c k => by
    obtain ⟨o, e, r⟩ := c
    exact ⟨o, k o e, r⟩
  item st c e q := RZ.nextOf_tuple_item st c e q
  stop hh st c e q := RZ.nextOf_tuple_end hh st c e q
  there st := by
    obtain ⟨o, e, _⟩ := st
    exact ⟨o, e, fun _ => .inr trivial⟩
section
variable {prog : Program} {w : World} {A : Around} {E : Value → Shared → Prop} {s : Shared} {z TI TO i1 i2 l1 l2 : Addr} {S1 S2 : Nat → Heap → Prop} {C1 C2 : Heap → Prop} {xs ys : Array Value}
theorem zipG_item (D : ZipApart z TI TO i1 i2 l1 l2) (N1 : Nx prog w A i1 l1 S1 C1 xs) (N2 : Nx prog w A i2 l2 S2 C2 ys) {k1 k2 : Nat} {x y a b : Value} {Q : Value → Shared → Prop}
    (hz : IsZip s.heap z TI TO .none) (hTI : IsPair s.heap TI (.ref i1) (.ref i2)) (hTO : IsPair s.heap TO a b) (h1 : S1 k1 s.heap) (h2 : S2 k2 s.heap) (c1 : C1 s.heap) (c2 : C2 s.heap) (hx : xs[k1]? = some x) (hy : ys[k2]? = some y)
    (hQ : ∀ h', IsZip h' z TI TO (rawInt s.heap.objs.size) → IsPair h' TO x y → S1 (k1 + 1) h' → S2 (k2 + 1) h' → IsPair h' s.heap.objs.size x y → h'.objs.size = s.heap.objs.size + 1 →
      (∀ c o, c ≠ z → c ≠ TO → c ≠ i1 → c ≠ i2 → s.heap.get? c = some o → h'.get? c = some o) → Q (.ref s.heap.objs.size) { s with heap := h' }) :
    wpAny (model prog w) A (Builtin.«zip.__next__» ⟨[.ref z], []⟩) (fun fin s' => ∃ v, fin = .done (.ret v) ∧ Q v s') E s := by
  show wpAny _ _ (field (.ref z) 2 >>= _) _ _ _
  refine wpAny_bind (wpAny_field hz rfl (x := .bool false) rfl ?_)
  show wpAny _ _ (field (.ref z) 3 >>= _) _ _ _
  refine wpAny_bind (wpAny_field hz rfl (x := .ref TI) rfl ?_)
  refine wpAny_bind (wpAny_seqItems hTI rfl ?_)
  show wpAny _ _ (Builtin.SmallTypes.ownedTupleIsFree (.ref z) >>= _) _ _ _
  refine wpAny_bind ?_
  unfold Builtin.SmallTypes.ownedTupleIsFree
  refine wpAny_bind (wpAny_field hz rfl (x := .none) rfl (wpAny_pure ?_))
  simp only [if_true]
  refine wpAny_bind (wpAny_rule ?_)
  refine wpAny_bind (wpAny_field hz rfl (x := .ref TO) rfl ?_)
  refine wpAny_bind (wpAny_setField_rec hz (by simp) fun h₁ hz₁ hs₁ => ?_)
  replace hz₁ : IsZip h₁ z TI TO .ellipsis := hz₁
  refine wpAny_bind ?_
  simp only [List.zipIdx_cons, List.zipIdx_nil, List.forIn_cons, List.forIn_nil]
  refine wpAny_bind (wpAny_bind (wpAny_onRaise ?_))
  show wpAny _ _ (Builtin.SmallTypes.nextOf (.ref i1) >>= _) _ _ _
  refine wpAny_bind (N1.item (N1.keepS h1 (eb_at hs₁.extBut D.i1z)) (N1.keepC c1 (eb_at hs₁.extBut D.l1z)) hx fun h₂ h1₂ hs₂ => wpAny_pure ?_)
  have hTO₂ : IsPair h₂ TO a b := hs₂.extBut _ _ D.TOi1 (hs₁.extBut _ _ D.TOz hTO)
  refine wpAny_bind (wpAny_seqItems hTO₂ rfl ?_)
  refine wpAny_bind (wpAny_updateSeq_pair hTO₂ fun h₃ hTO₃ hs₃ => ?_)
  replace hTO₃ : IsPair h₃ TO x b := hTO₃
  refine wpAny_bind (wpAny_letGo (wpAny_pure ?_))
  refine wpAny_bind (wpAny_bind (wpAny_onRaise ?_))
  show wpAny _ _ (Builtin.SmallTypes.nextOf (.ref i2) >>= _) _ _ _
  have go3 : ∀ c, c ≠ z → c ≠ i1 → c ≠ TO → ∀ o, s.heap.get? c = some o → h₃.get? c = some o := fun c n1 n2 n3 o e => hs₃.extBut _ _ n3 (hs₂.extBut _ _ n2 (hs₁.extBut _ _ n1 e))
  refine wpAny_bind (N2.item (N2.keepS h2 (go3 _ D.i2z D.i12.symm D.TOi2.symm)) (N2.keepC c2 (go3 _ D.l2z D.l2i1 D.l2TO)) hy fun h₄ h2₄ hs₄ => wpAny_pure ?_)
  have hTO₄ : IsPair h₄ TO x b := hs₄.extBut _ _ D.TOi2 hTO₃
  refine wpAny_bind (wpAny_seqItems hTO₄ rfl ?_)
  refine wpAny_bind (wpAny_updateSeq_pair hTO₄ fun h₅ hTO₅ hs₅ => ?_)
  replace hTO₅ : IsPair h₅ TO x y := hTO₅
  refine wpAny_bind (wpAny_letGo (wpAny_pure (wpAny_pure ?_)))
  refine wpAny_bind (wpAny_seqItems hTO₅ rfl ?_)
  refine wpAny_bind (wpAny_newTuple ?_)
  have hsz : h₅.objs.size = s.heap.objs.size := by rw [hs₅.1, hs₄.1, hs₃.1, hs₂.1, hs₁.1]
  have hz₅ : IsZip h₅ z TI TO .ellipsis := hs₅.extBut _ _ D.TOz.symm (hs₄.extBut _ _ D.i2z.symm (hs₃.extBut _ _ D.TOz.symm (hs₂.extBut _ _ D.i1z.symm hz₁)))
  have hk₅ : ∀ c o, c ≠ z → c ≠ TO → c ≠ i1 → c ≠ i2 → s.heap.get? c = some o → h₅.get? c = some o := fun c o c1 c2 c3 c4 e =>
    hs₅.extBut _ _ c2 (hs₄.extBut _ _ c4 (hs₃.extBut _ _ c2 (hs₂.extBut _ _ c3 (hs₁.extBut _ _ c1 e))))
  have h1₅ : S1 (k1 + 1) h₅ := N1.keepS h1₂ fun o e => hs₅.extBut _ _ D.TOi1.symm (hs₄.extBut _ _ D.i12 (hs₃.extBut _ _ D.TOi1.symm e))
  have h2₅ : S2 (k2 + 1) h₅ := N2.keepS h2₄ fun o e => hs₅.extBut _ _ D.TOi2.symm e
  have hzlt : z < h₅.objs.size := Heap.lt_size hz₅
  show wpAny _ _ (Builtin.SmallTypes.ownedTupleHandOut (.ref z) (.ref h₅.objs.size) >>= _) _ _ _
  refine wpAny_bind ?_
  unfold Builtin.SmallTypes.ownedTupleHandOut
  have hz₆ : IsZip (h₅.push { cls := .type "tuple", data := .seq #[x, y] }) z TI TO .ellipsis := Heap.get?_push_of_some _ hz₅
  refine wpAny_bind (wpAny_setField_rec hz₆ (by simp) fun h₇ hz₇ hs₇ => ?_)
  replace hz₇ : IsZip h₇ z TI TO (rawInt h₅.objs.size) := hz₇
  refine wpAny_setField_rec hz₇ (by simp) fun h₈ hz₈ hs₈ => ?_
  replace hz₈ : IsZip h₈ z TI TO (rawInt h₅.objs.size) := hz₈
  have up : ∀ c o, c ≠ z → h₅.get? c = some o → h₈.get? c = some o := fun c o c1 e => hs₈.extBut _ _ c1 (hs₇.extBut _ _ c1 (Heap.get?_push_of_some _ e))
  have hT₈ : IsPair h₈ h₅.objs.size x y := hs₈.extBut _ _ (Nat.ne_of_gt hzlt) (hs₇.extBut _ _ (Nat.ne_of_gt hzlt) (Heap.get?_push_size _ rfl))
  have hz8 : h₈.objs.size = h₅.objs.size + 1 := by rw [hs₈.1, hs₇.1, Heap.size_push]
  rw [hsz] at hz₈ hT₈ hz8
  refine wpAny_pure ⟨_, rfl, ?_⟩
  show Q (.ref h₅.objs.size) _
  rw [hsz]
  exact hQ h₈ hz₈ (up _ _ D.TOz hTO₅) (N1.keepS h1₅ fun o e => up _ o D.i1z e) (N2.keepS h2₅ fun o e => up _ o D.i2z e) hT₈ hz8 fun c o c1 c2 c3 c4 e => up c o c1 (hk₅ c o c1 c2 c3 c4 e)
theorem zipG_end (hh : A.handled = none) (D : ZipApart z TI TO i1 i2 l1 l2) (N1 : Nx prog w A i1 l1 S1 C1 xs) (N2 : Nx prog w A i2 l2 S2 C2 ys) {k1 k2 : Nat} {a b : Value} {Q : Fin → Shared → Prop}
    (hz : IsZip s.heap z TI TO .none) (hTI : IsPair s.heap TI (.ref i1) (.ref i2)) (hTO : IsPair s.heap TO a b) (h1 : S1 k1 s.heap) (h2 : S2 k2 s.heap) (c1 : C1 s.heap) (c2 : C2 s.heap) (hend : xs[k1]? = none ∨ ys[k2]? = none)
    (hE : ∀ h' e, (∀ c o, c ≠ z → c ≠ TO → c ≠ i1 → c ≠ i2 → s.heap.get? c = some o → h'.get? c = some o) → (∃ o, h'.get? e = some o ∧ o.cls = .type "StopIteration") → E (.ref e) { s with heap := h' }) :
    wpAny (model prog w) A (Builtin.«zip.__next__» ⟨[.ref z], []⟩) Q E s := by
  show wpAny _ _ (field (.ref z) 2 >>= _) _ _ _
  refine wpAny_bind (wpAny_field hz rfl (x := .bool false) rfl ?_)
  show wpAny _ _ (field (.ref z) 3 >>= _) _ _ _
  refine wpAny_bind (wpAny_field hz rfl (x := .ref TI) rfl ?_)
  refine wpAny_bind (wpAny_seqItems hTI rfl ?_)
  show wpAny _ _ (Builtin.SmallTypes.ownedTupleIsFree (.ref z) >>= _) _ _ _
  refine wpAny_bind ?_
  unfold Builtin.SmallTypes.ownedTupleIsFree
  refine wpAny_bind (wpAny_field hz rfl (x := .none) rfl (wpAny_pure ?_))
  simp only [if_true]
  refine wpAny_bind (wpAny_rule ?_)
  refine wpAny_bind (wpAny_field hz rfl (x := .ref TO) rfl ?_)
  refine wpAny_bind (wpAny_setField_rec hz (by simp) fun h₁ hz₁ hs₁ => ?_)
  replace hz₁ : IsZip h₁ z TI TO .ellipsis := hz₁
  refine wpAny_bind ?_
  simp only [List.zipIdx_cons, List.zipIdx_nil, List.forIn_cons, List.forIn_nil]
  refine wpAny_bind (wpAny_bind (wpAny_onRaise ?_))
  show wpAny _ _ (Builtin.SmallTypes.nextOf (.ref i1) >>= _) _ _ _
  cases hx : xs[k1]? with
  | none =>
    refine wpAny_bind (N1.stop hh (N1.keepS h1 (eb_at hs₁.extBut D.i1z)) (N1.keepC c1 (eb_at hs₁.extBut D.l1z)) hx fun h₂ e hs₂ he => ?_)
    obtain ⟨oe, hoe, hce⟩ := he
    have hz₂ : IsZip h₂ z TI TO .ellipsis := hs₂ _ _ D.i1z.symm hz₁
    have hez : e ≠ z := fun x => by subst x; rw [hz₂] at hoe; cases hoe; simp at hce
    refine wpAny_setField_rec hz₂ (by simp) fun h₃ _ hs₃ => hE h₃ e (fun c o c1 _ c3 _ x => hs₃.extBut _ _ c1 (hs₂ _ _ c3 (hs₁.extBut _ _ c1 x))) ⟨oe, hs₃.extBut _ _ hez hoe, hce⟩
  | some x =>
    have hy : ys[k2]? = none := by rcases hend with h | h; rw [hx] at h; cases h; exact h
    refine wpAny_bind (N1.item (N1.keepS h1 (eb_at hs₁.extBut D.i1z)) (N1.keepC c1 (eb_at hs₁.extBut D.l1z)) hx fun h₂ h1₂ hs₂ => wpAny_pure ?_)
    have hTO₂ : IsPair h₂ TO a b := hs₂.extBut _ _ D.TOi1 (hs₁.extBut _ _ D.TOz hTO)
    refine wpAny_bind (wpAny_seqItems hTO₂ rfl ?_)
    refine wpAny_bind (wpAny_updateSeq_pair hTO₂ fun h₃ hTO₃ hs₃ => ?_)
    refine wpAny_bind (wpAny_letGo (wpAny_pure ?_))
    refine wpAny_bind (wpAny_bind (wpAny_onRaise ?_))
    show wpAny _ _ (Builtin.SmallTypes.nextOf (.ref i2) >>= _) _ _ _
    have go3 : ∀ c, c ≠ z → c ≠ i1 → c ≠ TO → ∀ o, s.heap.get? c = some o → h₃.get? c = some o := fun c n1 n2 n3 o e => hs₃.extBut _ _ n3 (hs₂.extBut _ _ n2 (hs₁.extBut _ _ n1 e))
    refine wpAny_bind (N2.stop hh (N2.keepS h2 (go3 _ D.i2z D.i12.symm D.TOi2.symm)) (N2.keepC c2 (go3 _ D.l2z D.l2i1 D.l2TO)) hy fun h₄ e hs₄ he => ?_)
    obtain ⟨oe, hoe, hce⟩ := he
    have hz₄ : IsZip h₄ z TI TO .ellipsis := hs₄ _ _ D.i2z.symm (hs₃.extBut _ _ D.TOz.symm (hs₂.extBut _ _ D.i1z.symm hz₁))
    have hez : e ≠ z := fun x => by subst x; rw [hz₄] at hoe; cases hoe; simp at hce
    refine wpAny_setField_rec hz₄ (by simp) fun h₅ _ hs₅ => hE h₅ e (fun c o c1 c2 c3 c4 x => hs₅.extBut _ _ c1 (hs₄ _ _ c4 (hs₃.extBut _ _ c2 (hs₂.extBut _ _ c3 (hs₁.extBut _ _ c1 x))))) ⟨oe, hs₅.extBut _ _ hez hoe, hce⟩
end
section
variable {prog : Program} {w : World} {A : Around} {E : Value → Shared → Prop} {s : Shared} {z TI TO i1 i2 l1 l2 : Addr} {S1 S2 : Nat → Heap → Prop} {C1 C2 : Heap → Prop} {xs ys : Array Value}
theorem pyNext_zipG_item (D : ZipApart z TI TO i1 i2 l1 l2) (N1 : Nx prog w A.in1 i1 l1 S1 C1 xs) (N2 : Nx prog w A.in1 i2 l2 S2 C2 ys) {k1 k2 : Nat} {x y a b : Value} {Q : Option Value → Shared → Prop}
    (hz : IsZip s.heap z TI TO .none) (hTI : IsPair s.heap TI (.ref i1) (.ref i2)) (hTO : IsPair s.heap TO a b) (h1 : S1 k1 s.heap) (h2 : S2 k2 s.heap) (c1 : C1 s.heap) (c2 : C2 s.heap) (hx : xs[k1]? = some x) (hy : ys[k2]? = some y)
    (hQ : ∀ h', IsZip h' z TI TO (rawInt s.heap.objs.size) → IsPair h' TO x y → S1 (k1 + 1) h' → S2 (k2 + 1) h' → IsPair h' s.heap.objs.size x y → h'.objs.size = s.heap.objs.size + 1 →
      (∀ c o, c ≠ z → c ≠ TO → c ≠ i1 → c ≠ i2 → s.heap.get? c = some o → h'.get? c = some o) → Q (some (.ref s.heap.objs.size)) { s with heap := h' }) : wpAny (model prog w) A (pyNext (.ref z)) Q E s := by
  have hT : s.TypeIs (.ref z) "zip" := ⟨_, hz, rfl⟩
  unfold pyNext
  exact wpAny_bind (wpAny_attempt (wpAny_callSpecial?_slot (name := Str.ofString "__next__") hT F.slot_zip_next
    (wpAny_call_entry F.slot_zip_next hT F.entry_zip_next (zipG_item D N1 N2 hz hTI hTO h1 h2 c1 c2 hx hy fun h' a1 a2 a3 a4 a5 a6 a7 => wpAny_pure (hQ h' a1 a2 a3 a4 a5 a6 a7)) (F.args_zip_next_1 _))))
theorem pyNext_zipG_end (hh : A.in1.handled = none) (D : ZipApart z TI TO i1 i2 l1 l2) (N1 : Nx prog w A.in1 i1 l1 S1 C1 xs) (N2 : Nx prog w A.in1 i2 l2 S2 C2 ys) {k1 k2 : Nat} {a b : Value} {Q : Option Value → Shared → Prop}
    (hz : IsZip s.heap z TI TO .none) (hTI : IsPair s.heap TI (.ref i1) (.ref i2)) (hTO : IsPair s.heap TO a b) (h1 : S1 k1 s.heap) (h2 : S2 k2 s.heap) (c1 : C1 s.heap) (c2 : C2 s.heap) (hend : xs[k1]? = none ∨ ys[k2]? = none)
    (hQ : ∀ h', (∀ c o, c ≠ z → c ≠ TO → c ≠ i1 → c ≠ i2 → s.heap.get? c = some o → h'.get? c = some o) → Q none { s with heap := h' }) : wpAny (model prog w) A (pyNext (.ref z)) Q E s := by
  have hT : s.TypeIs (.ref z) "zip" := ⟨_, hz, rfl⟩
  unfold pyNext
  refine wpAny_bind (wpAny_attempt (wpAny_callSpecial?_slot (name := Str.ofString "__next__") hT F.slot_zip_next
    (wpAny_call_entry F.slot_zip_next hT F.entry_zip_next (zipG_end hh D N1 N2 hz hTI hTO h1 h2 c1 c2 hend fun h' e hk he => ?_) (F.args_zip_next_1 _))))
  obtain ⟨o, ho, hc⟩ := he
  refine wpAny_bind (wpAny_isInstance (T := "StopIteration") (b := true) ⟨o, ho, hc⟩ isSubtype_stop ?_)
  exact wpAny_pure (hQ _ hk)
end
/-- a tuple and a list at each turn, the items in new pairs -/
def ItzTL (K : PySem.W.Frag) (a b : Addr) : It :=
  ⟨fun i H => ∃ (xs ys : List V) (x y : V), SqT K H a xs ∧ SqL K H b ys ∧ xs[i]? = some x ∧ ys[i]? = some y,
    fun i H v H' => ∃ T x y, v = .ref T ∧ H T = none ∧ H' = upd H T (.tup [x, y]) ∧ (∀ xs, SqT K H a xs → xs[i]? = some x) ∧ ∀ ys, SqL K H b ys → ys[i]? = some y,
    fun i H => ∃ xs ys : List V, SqT K H a xs ∧ SqL K H b ys ∧ (xs.length ≤ i ∨ ys.length ≤ i)⟩
theorem five {z TI TO i1 i2 c : Addr} (h : c ∈ [z, TI, TO, i1, i2]) : c = z ∨ c = TI ∨ c = TO ∨ c = i1 ∨ c = i2 := by simpa using h
theorem notFive {z TI TO i1 i2 c : Addr} (h : c ∉ [z, TI, TO, i1, i2]) : c ≠ z ∧ c ≠ TI ∧ c ≠ TO ∧ c ≠ i1 ∧ c ≠ i2 :=
  ⟨fun q => h (by simp [q]), fun q => h (by simp [q]), fun q => h (by simp [q]), fun q => h (by simp [q]), fun q => h (by simp [q])⟩
theorem turn_zipTL {P : Program} {w : World} {K : PySem.W.Frag} {elts : List Expr} {kk : Nat} {tpos : Pos} {a b z TI TO i1 i2 : Addr} (D : ZipApart z TI TO i1 i2 a b) :
    Turn P w K (.Tuple elts kk tpos) (ItzTL K a b) [z, TI, TO, i1, i2] z (fun i h => IsZip h z TI TO .none ∧ IsPair h TI (.ref i1) (.ref i2) ∧ (∃ x y, IsPair h TO x y) ∧ h.IsTupleIter i1 a i ∧ h.IsListIter i2 b i) where
  mem := by simp
  obj := fun i h st c hc => by
    obtain ⟨hz, hTI, ⟨x, y, hTO⟩, ⟨o1, e1, _, d1⟩, ⟨o2, e2, _, d2⟩⟩ := st
    rcases five hc with q | q | q | q | q
    · rw [q]; exact ⟨_, hz, fun v q => nomatch q⟩
    · rw [q]; exact ⟨_, hTI, fun v q => nomatch q⟩
    · rw [q]; exact ⟨_, hTO, fun v q => nomatch q⟩
    · rw [q]; exact ⟨o1, e1, fun v q => by rw [d1] at q; cases q⟩
    · rw [q]; exact ⟨o2, e2, fun v q => by rw [d2] at q; cases q⟩
  keep := fun i h h' st k => by
    obtain ⟨hz, hTI, ⟨x, y, hTO⟩, h1, h2⟩ := st
    exact ⟨k z (by simp) _ hz, k TI (by simp) _ hTI, ⟨x, y, k TO (by simp) _ hTO⟩, h1.at fun o q => k i1 (by simp) o q, h2.at fun o q => k i2 (by simp) o q⟩
  item := by
    intro X hP hw hK hc i pins s σ H E I hf st hg
    subst hP hw hK
    obtain ⟨hz, hTI, ⟨x0, y0, hTO⟩, h1, h2⟩ := st
    obtain ⟨xs, ys, x, y, hqx, hqy, hx, hy⟩ := hg
    obtain ⟨its, rv, p, _⟩ := I.tuple hqx
    obtain ⟨its2, rv2, p2, _⟩ := I.list hqy
    obtain ⟨u, hu, ru⟩ := rv.get hx
    obtain ⟨u2, hu2, ru2⟩ := rv2.get hy
    have hzl : z < s.heap.objs.size := Heap.lt_size hz
    refine pyNext_zipG_item D (nx_tup (its := its.toArray)) (nx_list (its := its2.toArray)) hz hTI hTO h1 h2 p p2.isList (x := u) (y := u2) (by simpa using hu) (by simpa using hu2) fun h' z' TO' h1' h2' hT hsz hk => ?_
    refine ⟨_, rfl, wpAny_letOwnedTupleGo_zip (s := { s with heap := h' }) z' fun h'' z'' sb => ?_⟩
    have hT2 : h''.get? s.heap.objs.size = some { cls := .type "tuple", data := .seq #[u, u2] } := (sb.2 _ (Nat.ne_of_gt hzl)).trans hT
    have new : ObjOk X.prog X.w (upd H s.heap.objs.size (.tup [x, y])) h'' s.heap.objs.size (.tup [x, y]) :=
      ⟨by show 2 ≤ sizeLine; decide, [u, u2], .cons ru (.cons ru2 .nil), ⟨_, hT2, rfl, _, rfl⟩⟩
    have I1 : Inv X pins σ (upd H s.heap.objs.size (.tup [x, y])) { s with heap := h'' } :=
      I.turnedNew (t' := s.toks) (ch := [z, TI, TO, i1, i2]) (fun c o hb q => by
        obtain ⟨n1, n2, n3, n4, n5⟩ := notFive hb
        exact (sb.2 c n1).trans (hk c o n1 n3 n4 n5 q)) hf (Nat.le_refl _) new
    refine ⟨.ref s.heap.objs.size, _, I1, rfl, ⟨_, x, y, rfl, I.hok.fresh (Nat.le_refl _), rfl, fun l hl => by rw [I.tuple_inj hl hqx]; exact hx, fun l hl => by rw [I.list_inj hl hqy]; exact hy⟩, ⟨z'', ?_, ⟨u, u2, ?_⟩, ?_, ?_⟩, fun c hcm => ?_⟩
    · exact (sb.2 _ D.TIz).trans (hk _ _ D.TIz D.TITO D.TIi1 D.TIi2 hTI)
    · exact (sb.2 _ D.TOz).trans TO'
    · exact h1'.at fun o q => (sb.2 _ D.i1z).trans q
    · exact h2'.at fun o q => (sb.2 _ D.i2z).trans q
    · have hlt : c < s.heap.objs.size := by
        rcases five hcm with q | q | q | q | q
        · rw [q]; exact hzl
        · rw [q]; exact Heap.lt_size hTI
        · rw [q]; exact Heap.lt_size hTO
        · rw [q]; obtain ⟨_, e1, _⟩ := h1; exact Heap.lt_size e1
        · rw [q]; obtain ⟨_, e2, _⟩ := h2; exact Heap.lt_size e2
      rw [upd_ne (Nat.ne_of_lt hlt)]
      exact (hf c hcm).1
  done := by
    intro X hP hw hK hc i pins s σ H E I hf st hg
    subst hP hw hK
    obtain ⟨hz, hTI, ⟨x0, y0, hTO⟩, h1, h2⟩ := st
    obtain ⟨xs, ys, hqx, hqy, hend⟩ := hg
    obtain ⟨its, rv, p, _⟩ := I.tuple hqx
    obtain ⟨its2, rv2, p2, _⟩ := I.list hqy
    have l1 := rv.length
    have l2 := rv2.length
    have he : its.toArray[i]? = none ∨ its2.toArray[i]? = none := by
      rcases hend with q | q
      · exact .inl (by simp; omega)
      · exact .inr (by simp; omega)
    exact pyNext_zipG_end (I.ok.hd hc) D (nx_tup (its := its.toArray)) (nx_list (its := its2.toArray)) hz hTI hTO h1 h2 p p2.isList he fun h' hk => ⟨rfl, I.turnedL (t' := s.toks) (ch := [z, TI, TO, i1, i2]) (fun c o hb q => by
      obtain ⟨n1, n2, n3, n4, n5⟩ := notFive hb
      exact hk c o n1 n3 n4 n5 q) hf⟩
  self := fun A i s Q E st h => wpAny_pyIter_zip st.1 h
/-- the heaps behind zip(a tuple, a list) -/
def zh1 (h : Heap) (l1 : Addr) : Heap := h.push { cls := .type "tuple_iterator", data := .fields #[.ref l1, .int 0 0] }
def zh2 (h : Heap) (l1 l2 : Addr) : Heap := (zh1 h l1).push { cls := .type "list_iterator", data := .fields #[.ref l2, .int 0 0] }
def zh3 (h : Heap) (l1 l2 : Addr) : Heap := (zh2 h l1 l2).push { cls := .type "tuple", data := .seq #[.ref h.objs.size, .ref (zh1 h l1).objs.size] }
def zh4 (h : Heap) (l1 l2 : Addr) : Heap := (zh3 h l1 l2).push { cls := .type "tuple", data := .seq #[.none, .none] }
def zh5 (h : Heap) (l1 l2 : Addr) : Heap := (zh4 h l1 l2).push { cls := .type "zip", data := .fields #[.none, .bool false, .bool false, .ref (zh2 h l1 l2).objs.size, .ref (zh3 h l1 l2).objs.size] }
theorem meets_zipTL (l1 l2 : Addr) (xs ys : Array Value) :
    Meets (Builtin.«zip.__new__» ⟨[.type "zip", .ref l1, .ref l2], []⟩) (fun _ R s => s.heap.IsTuple l1 xs ∧ s.heap.IsList l2 ys ∧
      R (.ok (.ret (.ref (zh4 s.heap l1 l2).objs.size))) { s with heap := zh5 s.heap l1 l2 }) :=
  .of_wp fun prog w A R s h => by
    obtain ⟨hp, g, d, tk, os⟩ := s; obtain ⟨hl1, hl2, h⟩ := h
    have hsub := sub_zip
    have hL1 : Heap.IsTuple (Shared.heap ⟨hp, g, d, tk, os⟩) l1 xs := hl1
    have hL2 : Heap.IsList (Shared.heap ⟨hp.push { cls := .type "tuple_iterator", data := .fields #[.ref l1, .int 0 0] }, g, d, tk, os⟩) l2 ys := Heap.IsList.push hl2 _
    wp_walk using wpAny_pyIter_tuple hL1, wpAny_pyIter_list hL2
    exact ⟨_, rfl, h⟩
theorem call_zipTL {prog : Program} {w : World} {A : Around} {E : Value → Shared → Prop} {s : Shared} {l1 l2 : Addr} {xs ys : Array Value} {Q : Value → Shared → Prop} (hl1 : s.heap.IsTuple l1 xs) (hl2 : s.heap.IsList l2 ys)
    (h : ∀ h', IsZip h' (s.heap.objs.size + 4) (s.heap.objs.size + 2) (s.heap.objs.size + 3) .none → IsPair h' (s.heap.objs.size + 2) (.ref s.heap.objs.size) (.ref (s.heap.objs.size + 1)) →
      IsPair h' (s.heap.objs.size + 3) .none .none → h'.IsTupleIter s.heap.objs.size l1 0 → h'.IsListIter (s.heap.objs.size + 1) l2 0 → h'.objs.size = s.heap.objs.size + 5 →
      (∀ c o, s.heap.get? c = some o → h'.get? c = some o) → Q (.ref (s.heap.objs.size + 4)) { s with heap := h' }) :
    wpAny (model prog w) A (call (.type "zip") [.ref l1, .ref l2]) Q E s := by
  refine callType_new F.called_zip (by decide) (F.typeCall_zip_2 _ _) (F.newCall_zip_2 _ _) (fun obj => F.args_object_init_3 obj _ _) F.entry_zip_new
    (meets_zipTL l1 l2 xs ys) ⟨hl1, hl2, ?_⟩
  have z1 : (zh1 s.heap l1).objs.size = s.heap.objs.size + 1 := Heap.size_push ..
  have z2 : (zh2 s.heap l1 l2).objs.size = s.heap.objs.size + 2 := by unfold zh2; rw [Heap.size_push, z1]
  have z3 : (zh3 s.heap l1 l2).objs.size = s.heap.objs.size + 3 := by unfold zh3; rw [Heap.size_push, z2]
  have z4 : (zh4 s.heap l1 l2).objs.size = s.heap.objs.size + 4 := by unfold zh4; rw [Heap.size_push, z3]
  have z5 : (zh5 s.heap l1 l2).objs.size = s.heap.objs.size + 5 := by unfold zh5; rw [Heap.size_push, z4]
  have g5 : (zh5 s.heap l1 l2).get? (zh4 s.heap l1 l2).objs.size = some _ := Heap.get?_push_size _ rfl
  have g4 : (zh5 s.heap l1 l2).get? (zh3 s.heap l1 l2).objs.size = some _ := Heap.get?_push_of_some _ (Heap.get?_push_size _ rfl)
  have g3 : (zh5 s.heap l1 l2).get? (zh2 s.heap l1 l2).objs.size = some _ := Heap.get?_push_of_some _ (Heap.get?_push_of_some _ (Heap.get?_push_size _ rfl))
  have g2 : (zh5 s.heap l1 l2).get? (zh1 s.heap l1).objs.size = some _ := Heap.get?_push_of_some _ (Heap.get?_push_of_some _ (Heap.get?_push_of_some _ (Heap.get?_push_size _ rfl)))
  have g1 : (zh5 s.heap l1 l2).get? s.heap.objs.size = some _ := Heap.get?_push_of_some _ (Heap.get?_push_of_some _ (Heap.get?_push_of_some _ (Heap.get?_push_of_some _ (Heap.get?_push_size _ rfl))))
  show _ ∧ _
  rw [z2, z3, z4] at g5
  rw [z1, z2] at g3
  rw [z3] at g4
  rw [z1] at g2
  rw [z4]
  exact ⟨⟨_, g5, rfl⟩, h _ g5 g3 g4 ⟨_, g1, rfl, rfl⟩ ⟨_, g2, rfl, rfl⟩ z5 fun c o x =>
    Heap.get?_push_of_some _ (Heap.get?_push_of_some _ (Heap.get?_push_of_some _ (Heap.get?_push_of_some _ (Heap.get?_push_of_some _ x))))⟩
def iZipTL (K : PySem.W.Frag) (ta : TA) : TI := fun σ H R => ta σ H fun vs H1 => ∃ a b xs ys, vs = [.ref a, .ref b] ∧ SqT K H1 a xs ∧ SqL K H1 b ys ∧ R (ItzTL K a b) H1
theorem pi_zipTL {X : Cx} {e e2 : Expr} {ta : TA} {p pos tpos : Pos} {elts : List Expr} {kk : Nat} (hg : Gl X "zip") (hm : X.mg "zip" = none) (ha : PA X [e, e2] ta)
    (hs : starEach [e, e2] X.env = (false, eval e X.env) :: starEach [e2] X.env := by rfl) (hpl : (backTo pos (starEach [e2] X.env)).any (·.1) = false := by rfl) :
    PI X (.Tuple elts kk tpos) (.Call (.Name "zip" p) [e, e2] [] pos) (iZipTL X.K ta) := by
  refine ⟨fun pins s σ H R I h => ?_⟩
  refine Call_ (ld_blt I hg hm PyProof.Rows.boot_zip (PyProof.Rows.callWith_type1 (thn (ha.run pos pins s σ H _ I h) fun us s1 ⟨vs, H1, I1, r1, q1⟩ => ?_) hs hpl))
  obtain ⟨a, b, xs, ys, ex, hqx, hqy, q⟩ := q1
  subst ex
  obtain ⟨u, u2, rfl, ra, rb⟩ := vals2 r1
  cases ra
  cases rb
  have fresh5 : ∀ c, c ∈ [s1.heap.objs.size + 4, s1.heap.objs.size + 2, s1.heap.objs.size + 3, s1.heap.objs.size, s1.heap.objs.size + 1] → FpOk X pins H1 c := fun c hcm => by
    have hle : s1.heap.objs.size ≤ c := by
      rcases five hcm with z | z | z | z | z <;> (rw [z]; omega)
    exact I1.fpOk hle (I1.hok.fresh hle)
  obtain ⟨its, rv, p1, _⟩ := I1.tuple hqx
  obtain ⟨its2, rv2, p2, _⟩ := I1.list hqy
  obtain ⟨o1, ho1, _⟩ := id p1
  refine call_zipTL (show s1.heap.IsTuple a its.toArray from p1) p2.isList fun h' hz hTI hTO h1 h2 hsz hk => wpAny_pyIter_zip hz ?_
  have I2 : Inv X pins σ H1 { s1 with heap := h' } := I1.kept (t' := s1.toks) hk
  exact ⟨s1.heap.objs.size + 4, [s1.heap.objs.size + 4, s1.heap.objs.size + 2, s1.heap.objs.size + 3, s1.heap.objs.size, s1.heap.objs.size + 1], _, _, H1, rfl, I2, turn_zipTL (PySem.W.ktu_apart s1.heap.objs.size a b (Heap.lt_size ho1) p2.lt), ⟨hz, hTI, ⟨_, _, hTO⟩, h1, h2⟩, fresh5, q⟩
/-! ### zip as a walk of pairs -/
section
variable {p : Par} {τ : List Sl} {e e2 : Expr} {pos pp tpos : Pos} {elts : List Expr} {kk : Nat}
variable {α β : Type} [Py α] [Py β]
theorem zip_at {xs : List α} {ys : List β} {i : Nat} {s : Sl} (h : ((xs.zip ys).map fun z => Sl.sh z)[i]? = some s) : ∃ x y, xs[i]? = some x ∧ ys[i]? = some y ∧ s = .sh (x, y) := by
  obtain ⟨⟨x, y⟩, hx, rfl⟩ := items_at h
  rw [List.getElem?_zip_eq_some] at hx
  exact ⟨x, y, hx.1, hx.2, rfl⟩
theorem ix_zipTL {xs : Tup α} {ys : List β} (hg : p.sc.names.lookup ("zip" : Str) = some .globalImplicit) (hm : p.mg "zip" = none) (ha : PX p e τ (.sh xs)) (hb : PX p e2 τ (.sh ys))
    (hs : ∀ env, starEach [e, e2] env = [(false, eval e env), (false, eval e2 env)] := by intro _; rfl) (hs2 : ∀ env, starEach [e2] env = [(false, eval e2 env)] := by intro _; rfl) :
    IX p (.Tuple elts kk tpos) (.Call (.Name "zip" pp) [e, e2] [] pos) τ ((xs.l.zip ys).map fun z => .sh z) := fun B0 H0 B H σ ok R q => by
  refine ⟨iZipTL p.K (tCons (EE p e) (tCons (EE p e2) tNil)), fun X hX => ?_, ha B0 H0 B H σ ok _ fun B1 H1 v x1 r1 => hb B0 H0 B1 H1 σ (ok.go x1) _ fun B2 H2 u x2 r2 => ?_⟩
  · have hX' := hX
    obtain ⟨k, rfl, _⟩ := hX'
    exact pi_zipTL hg hm (pa_cons (ee hX) (pa_cons (ee hX) pa_nil (hs2 _)) (by rw [hs, hs2])) (by rw [hs, hs2]) (by rw [hs2]; rfl)
  · obtain ⟨c, vs, e1, hc, r1⟩ := (show rep p.K B1 v xs from r1)
    obtain ⟨d, ob, e3, hd, us, e4, r2⟩ := (show rep p.K B2 u ys from r2)
    subst e4
    have hd := hd.lst
    have hc2 := x2.bb _ _ hc
    refine ⟨c, d, vs, us, by rw [e1, e3], .of (x2.bh _ _ hc2), .of (x2.bh _ _ hd), q B2 H2 _ (x1.trans x2) fun B3 H3 s1 s2 => ⟨fun i s hi => ?_, vs, us, .of (s2 _ _ (s1 _ _ hc2)), .of (s2 _ _ (s1 _ _ hd)), ?_⟩⟩
    · obtain ⟨x, y, hx, hy, rfl⟩ := zip_at hi
      obtain ⟨v1, hv1, rv1⟩ := r1.get hx
      obtain ⟨v2, hv2, rv2⟩ := r2.get hy
      refine ⟨⟨vs, us, v1, v2, .of (s2 _ _ (s1 _ _ hc2)), .of (s2 _ _ (s1 _ _ hd)), hv1, hv2⟩, fun z H' hz => ?_⟩
      obtain ⟨T, a, b, rfl, hT, rfl, g1, g2⟩ := hz
      have ea := (g1 vs (.of (s2 _ _ (s1 _ _ hc2)))).symm.trans hv1
      have eb := (g2 us (.of (s2 _ _ (s1 _ _ hd)))).symm.trans hv2
      cases ea
      cases eb
      have x4 := Ext.laid (o := .tup [v1, v2]) s2 hT
      exact ⟨_, x4, T, v1, v2, rfl, upd_same, Py.mono (.of (x2.bb.trans (s1.trans x4.bb))) rv1, Py.mono (.of (s1.trans x4.bb)) rv2⟩
    · rw [List.length_map, List.length_zip, r1.length, r2.length]
      omega
end
end Ly

namespace Ly
open PySem PySem.Spec PyProof.Rows L2
open Py
section
variable {p : Par} {m : Nat} {τ τ1 : List Sl} {R : Post} {st : Stmt} {sts rest : List Stmt} {e a b o : Expr} {es : List Expr} {pos pos' : Pos}
/-- x[i] = y, x a name's own list -/
theorem s_lset (i0 : Nat) {α : Type} [Py α] {xs : List α} {i : Int} {j : Nat} {y : α} {x : Str} {px : Pos} (hN : p.N[i0]? = some x) (hv : Vis p.sc x) (hτ : τ[i0]? = some (.ow xs)) (hy : PX p e τ (.sh y)) (hk : PX p b τ (.sh i)) (hj : ixN xs.length i = some j)
    (hd : (x == ("__debug__" : Str)) = false) (hc : (x == ("__classdict__" : Str)) = false) (hs : ∀ env, swapsWithSole [.Subscript (.Name x px) b pos'] e pos.line env = pure false) (hw : ∀ env, swappedStores [.Subscript (.Name x px) b pos'] e env = pure none)
    (h1 : ∀ env, (assignEach [.Subscript (.Name x px) b pos'] env).map (·.2) = [assign (.Subscript (.Name x px) b pos') env])
    (ha : ∀ env v, assign (.Subscript (.Name x px) b pos') env v = (do
      let ov ← holding [v] (eval (.Name x px) env)
      let iv ← holding [v, ov] (eval b env)
      standAt pos'
      holding [v, ov, iv] (setItem ov iv v)
      release [v, ov, iv] [])) :
    D1 p (.Assign [.Subscript (.Name x px) b pos'] e pos) τ (τ.set i0 (.ow (xs.set j y))) := fun R hR B0 H0 B H σ ok D em => by
  refine ⟨tAsg (EE p e) (gSub (tVar i0) (EE p b) rSetL), fun X hX => ?_, hy B0 H0 B H σ ok _ fun B1 H1 v x1 r1 => ?_⟩
  · have hX' := hX
    obtain ⟨k, rfl, _⟩ := hX'
    exact ps_asg (ee hX) (pg_sub (pe_var hN hv hd hc) (ee hX) set_list (ha _)) (hs _) (hw _) (h1 _)
  · have ok1 := ok.go x1
    obtain ⟨q, ob, e1, n0, nb, hq, vs, e2, r⟩ := ok1.own hτ
    subst e2
    refine ⟨_, e1, hk B0 H0 B1 H1 σ ok1 _ fun B2 H2 u x2 r2 => ?_⟩
    have ok2 := ok1.go x2
    have hq2 := x2.hh _ _ hq
    have nb2 := x2.nw q _ nb hq (fun _ z => by cases z)
    refine ⟨q, vs, i, j, rfl, r2, hq2, by rw [r.length]; exact hj, em.nx B2 _ _ _ (ok2.mut (y := xs.set j y) hτ e1 n0 nb2 ⟨_, rfl, (r.imp fun _ _ h => Py.mono (.of x2.bb) h).set (Py.mono (.of x2.bb) (show rep p.K B1 v y from r1)) j⟩) hR⟩
theorem sx_lset (G : Gd p m) (i0 : Nat) {α : Type} [Py α] {xs : List α} {i : Int} {j : Nat} {y : α} {x : Str} {px : Pos} (hN : p.N[i0]? = some x) (hi : i0 < m) (hτ : τ[i0]? = some (.ow xs)) (hy : PX p e τ (.sh y)) (hk : PX p b τ (.sh i)) (hj : ixN xs.length i = some j)
    (hs : ∀ env, swapsWithSole [.Subscript (.Name x px) b pos'] e pos.line env = pure false) (hw : ∀ env, swappedStores [.Subscript (.Name x px) b pos'] e env = pure none)
    (h1 : ∀ env, (assignEach [.Subscript (.Name x px) b pos'] env).map (·.2) = [assign (.Subscript (.Name x px) b pos') env])
    (ha : ∀ env v, assign (.Subscript (.Name x px) b pos') env v = (do
      let ov ← holding [v] (eval (.Name x px) env)
      let iv ← holding [v, ov] (eval b env)
      standAt pos'
      holding [v, ov, iv] (setItem ov iv v)
      release [v, ov, iv] [])) (k : SX p rest (τ.set i0 (.ow (xs.set j y))) R) :
    SX p (.Assign [.Subscript (.Name x px) b pos'] e pos :: rest) τ R :=
  sx_step (s_lset i0 hN (G.vs hN hi) hτ hy hk hj (G.ok x (List.mem_of_getElem? hN)).1 (G.ok x (List.mem_of_getElem? hN)).2 hs hw h1 ha) k
theorem ixN_nat {n : Nat} {i : Int} (h0 : 0 ≤ i) (h : i < (n : Nat)) : ixN n i = some i.toNat := by
  unfold ixN
  rw [if_pos h0, if_pos h]
/-- xs * n -/
theorem All2.rep {α β : Type} {S : α → β → Prop} {as : List α} {bs : List β} (r : All2 S as bs) : ∀ n, All2 S (List.replicate n as).flatten (List.replicate n bs).flatten
  | 0 => .nil
  | n + 1 => by
    rw [List.replicate_succ, List.replicate_succ, List.flatten_cons, List.flatten_cons]
    exact r.append (All2.rep r n)
theorem px_repL {α : Type} [Py α] {xs : List α} {n : Int} (ha : PX p a τ (.sh xs)) (hb : PX p b τ (.sh n)) (h : -(2 ^ 63) ≤ n ∧ n < 2 ^ 63 ∧ xs.length * n.toNat ≤ sizeLine) : PX p (.BinOp a .Mult b pos) τ (.ow (List.replicate n.toNat xs).flatten) :=
  px_op2 (fun _ _ => op_rep) ha hb fun B H v u Q s ⟨c, o1, e1, h1, vs, f1, r1⟩ r2 q => by
    subst f1
    exact ⟨c, n, vs, e1, r2, s _ _ h1.lst, h.1, h.2.1, by rw [r1.length]; exact h.2.2, fun l hl => q B _ _ (Ext.made s hl) (vow ⟨l, _, rfl, hl, s.free hl, upd_same, _, rfl, r1.rep _⟩)⟩
end
end Ly

namespace Ly
open PySem PySem.Spec PyProof.Rows L2
open Py
/-! ### enumerate of what is walked by an iterator of its own -/
section
variable {prog : Program} {w : World} {A : Around} {E : Value → Shared → Prop} {s : Shared} {e it l : Addr} {S1 : Nat → Heap → Prop} {C1 : Heap → Prop} {items : Array Value}
theorem enumG_item {i : Nat} {x old : Value} {Q : Value → Shared → Prop} (N : Nx prog w A it l S1 C1 items)
    (he : IsEnum s.heap e it i old) (hit : S1 i s.heap) (hl : C1 s.heap) (hx : items[i]? = some x) (hne : e ≠ it)
    (hQ : ∀ h', IsEnumOut h' e it ((i : Int) + 1) x s.heap.objs.size → S1 (i + 1) h' →
      h'.get? s.heap.objs.size = some { cls := .type "tuple", data := .seq #[.int i s.toks, x] } → h'.objs.size = s.heap.objs.size + 1 →
      (∀ b o, b ≠ e → b ≠ it → s.heap.get? b = some o → h'.get? b = some o) → Q (.ref s.heap.objs.size) { s with heap := h', toks := s.toks + 1 }) :
    wpAny (model prog w) A (Builtin.«enumerate.__next__» ⟨[.ref e], []⟩) (fun fin s' => ∃ v, fin = .done (.ret v) ∧ Q v s') E s := by
  obtain ⟨hp, g, d, tk, os⟩ := s
  show wpAny _ _ (field (.ref e) 2 >>= _) _ _ _
  refine wpAny_bind (wpAny_field he rfl (x := .ref it) rfl ?_)
  refine wpAny_bind (N.item hit hl hx fun h₁ hit₁ hs₁ => ?_)
  replace hs₁ : Heap.SameBut it hp h₁ := hs₁
  have he₁ : IsEnum h₁ e it i old := (hs₁.2 e hne).trans he
  show wpAny _ _ (field (.ref e) 3 >>= _) _ _ ⟨h₁, g, d, tk, os⟩
  refine wpAny_bind (wpAny_field he₁ rfl (x := rawInt i) rfl ?_)
  show wpAny _ _ (field (.ref e) 4 >>= _) _ _ ⟨h₁, g, d, tk, os⟩
  refine wpAny_bind (wpAny_field he₁ rfl (x := .none) rfl ?_)
  show wpAny _ _ (mkInt i >>= _) _ _ ⟨h₁, g, d, tk, os⟩
  refine wpAny_bind (wpAny_mkInt ?_)
  show wpAny _ _ (setField (.ref e) 3 (rawInt ((i : Int) + 1)) >>= _) _ _ ⟨h₁, g, d, tk + 1, os⟩
  refine wpAny_bind (wpAny_setField_rec he₁ (by simp) fun h₂ he₂ hs₂ => ?_)
  replace hs₂ : Heap.SameBut e h₁ h₂ := hs₂
  replace he₂ : IsEnum h₂ e it ((i : Int) + 1) old := he₂
  show wpAny _ _ (setField (.ref e) 4 .none >>= _) _ _ ⟨h₂, g, d, tk + 1, os⟩
  refine wpAny_bind (wpAny_setField_rec he₂ (by simp) fun h₃ he₃ hs₃ => ?_)
  replace hs₃ : Heap.SameBut e h₂ h₃ := hs₃
  replace he₃ : IsEnum h₃ e it ((i : Int) + 1) old := he₃
  show wpAny _ _ (newTuple [.int i tk, x] >>= _) _ _ ⟨h₃, g, d, tk + 1, os⟩
  refine wpAny_bind (wpAny_newTuple ?_)
  have he₄ : IsEnum (h₃.push { cls := .type "tuple", data := .seq #[.int i tk, x] }) e it ((i : Int) + 1) old := Heap.get?_push_of_some _ he₃
  generalize hh₄ : h₃.push { cls := .type "tuple", data := .seq #[.int i tk, x] } = h₄ at he₄
  have hsz : h₃.objs.size = hp.objs.size := by rw [hs₃.1, hs₂.1, hs₁.1]
  have hel : e < hp.objs.size := Heap.lt_size he
  have ht₄ : h₄.get? hp.objs.size = some { cls := .type "tuple", data := .seq #[.int i tk, x] } := by rw [← hh₄, ← hsz]; exact Heap.get?_push_size _ rfl
  have hz₄ : h₄.objs.size = hp.objs.size + 1 := by rw [← hh₄, Heap.size_push, hsz]
  have hk₄ : ∀ b o, b ≠ e → b ≠ it → hp.get? b = some o → h₄.get? b = some o := fun b o hbe hbi hb => by
    rw [← hh₄]; exact Heap.get?_push_of_some _ (hs₃.extBut b o hbe (hs₂.extBut b o hbe (hs₁.extBut b o hbi hb)))
  have hit₄ : S1 (i + 1) h₄ := N.keepS hit₁ fun o ho => by
    rw [← hh₄]; exact Heap.get?_push_of_some _ (hs₃.extBut it o (Ne.symm hne) (hs₂.extBut it o (Ne.symm hne) ho))
  show wpAny _ _ (Builtin.SmallTypes.ownedTupleIsFree (.ref e) >>= _) _ _ ⟨h₄, g, d, tk + 1, os⟩
  rw [hsz]
  clear hh₄ he₃ hs₃ he₂ hs₂ he₁ hs₁ hit₁ hsz h₃ h₂ h₁
  refine wpAny_bind ?_
  · unfold Builtin.SmallTypes.ownedTupleIsFree
    refine wpAny_bind (wpAny_field he₄ rfl (x := .none) rfl (wpAny_pure ?_))
    simp only [if_true]
    refine wpAny_bind (wpAny_rule ?_)
    refine wpAny_bind (wpAny_field he₄ rfl (x := old) rfl ?_)
    refine wpAny_bind (wpAny_setField_rec he₄ (by simp) fun h₅ he₅ hs₅ => ?_)
    replace hs₅ : Heap.SameBut e h₄ h₅ := hs₅
    replace he₅ : IsEnum h₅ e it ((i : Int) + 1) x := he₅
    show wpAny _ _ (Builtin.SmallTypes.ownedTupleHandOut (.ref e) (.ref hp.objs.size) >>= _) _ _ ⟨h₅, g, d, tk + 1, os⟩
    refine wpAny_bind ?_
    · unfold Builtin.SmallTypes.ownedTupleHandOut
      refine wpAny_bind (wpAny_setField_rec he₅ (by simp) fun h₆ he₆ hs₆ => ?_)
      replace hs₆ : Heap.SameBut e h₅ h₆ := hs₆
      replace he₆ : IsEnumOut h₆ e it ((i : Int) + 1) x hp.objs.size := he₆
      refine wpAny_setField_rec he₆ (by simp) fun h₇ he₇ hs₇ => ?_
      replace hs₇ : Heap.SameBut e h₆ h₇ := hs₇
      replace he₇ : IsEnumOut h₇ e it ((i : Int) + 1) x hp.objs.size := he₇
      have up : ∀ b o, b ≠ e → h₄.get? b = some o → h₇.get? b = some o := fun b o nb q => hs₇.extBut b o nb (hs₆.extBut b o nb (hs₅.extBut b o nb q))
      refine wpAny_bind (wpAny_letGo (wpAny_pure ⟨_, rfl, hQ h₇ he₇ ?_ ?_ ?_ ?_⟩))
      · exact N.keepS hit₄ fun o q => up it o (Ne.symm hne) q
      · exact up _ _ (Nat.ne_of_gt hel) ht₄
      · rw [hs₇.1, hs₆.1, hs₅.1, hz₄]
      · exact fun b o hbe hbi hb => up b o hbe (hk₄ b o hbe hbi hb)
end
section
variable {prog : Program} {w : World} {A : Around} {E : Value → Shared → Prop} {s : Shared} {e it l : Addr} {S1 : Nat → Heap → Prop} {C1 : Heap → Prop} {items : Array Value}
theorem pyNext_enumG_item {i : Nat} {x old : Value} {Q : Option Value → Shared → Prop} (N : Nx prog w A.in1 it l S1 C1 items)
    (he : IsEnum s.heap e it i old) (hit : S1 i s.heap) (hl : C1 s.heap) (hx : items[i]? = some x) (hne : e ≠ it)
    (hQ : ∀ h', IsEnumOut h' e it ((i : Int) + 1) x s.heap.objs.size → S1 (i + 1) h' →
      h'.get? s.heap.objs.size = some { cls := .type "tuple", data := .seq #[.int i s.toks, x] } → h'.objs.size = s.heap.objs.size + 1 →
      (∀ b o, b ≠ e → b ≠ it → s.heap.get? b = some o → h'.get? b = some o) → Q (some (.ref s.heap.objs.size)) { s with heap := h', toks := s.toks + 1 }) :
    wpAny (model prog w) A (pyNext (.ref e)) Q E s := by
  have hT : s.TypeIs (.ref e) "enumerate" := ⟨_, he, rfl⟩
  unfold pyNext
  exact wpAny_bind (wpAny_attempt (wpAny_callSpecial?_slot (name := Str.ofString "__next__") hT F.slot_enumerate_next
    (wpAny_call_entry F.slot_enumerate_next hT F.entry_enumerate_next
      (enumG_item N he hit hl hx hne fun h' a b c d k => wpAny_pure (hQ h' a b c d k)) (F.args_enumerate_next_1 _))))
theorem pyNext_enumG_end {i : Nat} {old : Value} {Q : Option Value → Shared → Prop} (hh : A.in1.handled = none) (N : Nx prog w A.in1 it l S1 C1 items)
    (he : IsEnum s.heap e it i old) (hit : S1 i s.heap) (hl : C1 s.heap) (hx : items[i]? = none)
    (hQ : ∀ h', Heap.ExtBut it s.heap h' → Q none { s with heap := h' }) : wpAny (model prog w) A (pyNext (.ref e)) Q E s := by
  have hT : s.TypeIs (.ref e) "enumerate" := ⟨_, he, rfl⟩
  unfold pyNext
  refine wpAny_bind (wpAny_attempt (wpAny_callSpecial?_slot (name := Str.ofString "__next__") hT F.slot_enumerate_next
    (wpAny_call_entry F.slot_enumerate_next hT F.entry_enumerate_next ?_ (F.args_enumerate_next_1 _))))
  show wpAny _ _ (field (.ref e) 2 >>= _) _ _ _
  refine wpAny_bind (wpAny_field he rfl (x := .ref it) rfl ?_)
  refine wpAny_bind (N.stop hh hit hl hx fun h' x he' hx' => ?_)
  obtain ⟨o, ho, hc⟩ := hx'
  refine wpAny_bind (wpAny_isInstance (T := "StopIteration") (b := true) ⟨o, ho, hc⟩ isSubtype_stop ?_)
  exact wpAny_pure (hQ _ he')
end
/-- the tuple at a, its items with their numbers in new pairs -/
def IteT (K : PySem.W.Frag) (a : Addr) : It :=
  ⟨fun i H => ∃ (xs : List V) (x : V), SqT K H a xs ∧ xs[i]? = some x, fun i H v H' => ∃ T x, v = .ref T ∧ H T = none ∧ H' = upd H T (.tup [.int (i : Nat), x]) ∧ ∀ xs, SqT K H a xs → xs[i]? = some x, fun i H => ∃ xs : List V, SqT K H a xs ∧ xs.length ≤ i⟩
theorem two {e it b : Addr} (h : b ∈ [e, it]) : b = e ∨ b = it := by simpa using h
theorem notTwo {e it b : Addr} (h : b ∉ [e, it]) : b ≠ e ∧ b ≠ it := ⟨fun q => h (by simp [q]), fun q => h (by simp [q])⟩
theorem turn_enumT {P : Program} {w : World} {K : PySem.W.Frag} {elts : List Expr} {kk : Nat} {tpos : Pos} (a e it : Addr) :
    Turn P w K (.Tuple elts kk tpos) (IteT K a) [e, it] e (fun i h => (∃ old, IsEnum h e it ((i : Nat) : Int) old) ∧ h.IsTupleIter it a i ∧ e ≠ it) where
  mem := by simp
  obj := fun i h st b hb => by
    obtain ⟨⟨old, he⟩, ⟨o, ho, hc, hd⟩, _⟩ := st
    rcases two hb with z | z
    · rw [z]; exact ⟨_, he, fun v q => nomatch q⟩
    · rw [z]; exact ⟨o, ho, fun v q => by rw [hd] at q; cases q⟩
  keep := fun i h h' st k => let ⟨⟨old, he⟩, hi, hne⟩ := st; ⟨⟨old, k e (by simp) _ he⟩, hi.at fun o q => k it (by simp) o q, hne⟩
  item := by
    intro X hP hw hK hc i pins s σ H E I hf st hg
    subst hP hw hK
    obtain ⟨⟨old, he⟩, hit, hne⟩ := st
    obtain ⟨xs, x, hq, hx⟩ := hg
    obtain ⟨its, rv, p, hz⟩ := I.tuple hq
    obtain ⟨u, hu, ru⟩ := rv.get hx
    have hel : e < s.heap.objs.size := Heap.lt_size he
    have hil : it < s.heap.objs.size := by obtain ⟨_, q, _⟩ := hit; exact Heap.lt_size q
    refine pyNext_enumG_item (nx_tup (its := its.toArray)) he hit p (x := u) (by simpa using hu) hne fun h' ho hit' hT hsz hk => ?_
    refine ⟨_, rfl, wpAny_letOwnedTupleGo_enum (s := { s with heap := h', toks := s.toks + 1 }) ho fun h'' he' sb => ?_⟩
    have hT2 : h''.get? s.heap.objs.size = some { cls := .type "tuple", data := .seq #[.int i s.toks, u] } := (sb.2 _ (Nat.ne_of_gt hel)).trans hT
    have new : ObjOk X.prog X.w (upd H s.heap.objs.size (.tup [.int (i : Nat), x])) h'' s.heap.objs.size (.tup [.int (i : Nat), x]) :=
      ⟨by show 2 ≤ sizeLine; decide, [.int i s.toks, u], .cons ⟨_, rfl⟩ (.cons ru .nil), ⟨_, hT2, rfl, _, rfl⟩⟩
    have I1 : Inv X pins σ (upd H s.heap.objs.size (.tup [.int (i : Nat), x])) { s with heap := h'', toks := s.toks + 1 } :=
      I.turnedNew (ch := [e, it]) (fun b ob hb q => (sb.2 b (notTwo hb).1).trans (hk b ob (notTwo hb).1 (notTwo hb).2 q)) hf (Nat.le_refl _) new
    refine ⟨.ref s.heap.objs.size, _, I1, rfl, ⟨_, x, rfl, I.hok.fresh (Nat.le_refl _), rfl, fun ys hy => by rw [I.tuple_inj hy hq]; exact hx⟩, ⟨⟨u, ?_⟩, hit'.at fun o q => (sb.2 it (Ne.symm hne)).trans q, hne⟩, fun b hb => ?_⟩
    · have e1 : ((i + 1 : Nat) : Int) = (i : Int) + 1 := by omega
      rw [e1]; exact he'
    · have hb' : b < s.heap.objs.size := by
        rcases two hb with z | z
        · rw [z]; exact hel
        · rw [z]; exact hil
      rw [upd_ne (Nat.ne_of_lt hb')]
      exact (hf b hb).1
  done := by
    intro X hP hw hK hc i pins s σ H E I hf st hg
    subst hP hw hK
    obtain ⟨⟨old, he⟩, hit, hne⟩ := st
    obtain ⟨xs, hq, hx⟩ := hg
    obtain ⟨its, rv, p, hz⟩ := I.tuple hq
    obtain ⟨f0, f1, f2, f3, f4, f5⟩ := hf it (by simp)
    have hl := rv.length
    exact pyNext_enumG_end (I.ok.hd hc) (nx_tup (its := its.toArray)) he hit p (by simp; omega) fun h' eb => ⟨rfl, I.turned (t' := s.toks) (fun b o hb q => eb b o hb q) f0 f1 f3 f4 f5⟩
  self := fun A i s Q E st h => let ⟨⟨_, he⟩, _⟩ := st; wpAny_pyIter_enum he h
open AutoSeq1 (wpAny_loadPart') in
theorem meets_enumT (l : Addr) (items : Array Value) (dct : Option Addr) (n : Nat) (sl : Array (Option Value)) :
    Meets (Builtin.«enumerate.__new__» ⟨[.type "enumerate", .ref l], []⟩) (fun _ R s => s.heap.get? l = some { cls := .type "tuple", dict := dct, data := .seq items n, slots := sl } ∧ s.heap.IsTuple l items ∧
      R (.ok (.ret (.ref (s.heap.push { cls := .type "tuple_iterator", data := .fields #[.ref l, .int 0 0] }).objs.size)))
        { s with heap := (s.heap.push { cls := .type "tuple_iterator", data := .fields #[.ref l, .int 0 0] }).push { cls := .type "enumerate", data := .fields #[.none, .bool false, .ref s.heap.objs.size, rawInt 0, .none, .none] } }) :=
  .of_wp fun prog w A R s h => by
    obtain ⟨hp, g, d, tk, os⟩ := s; obtain ⟨hl, hL, h⟩ := h
    have hsub := sub_enumerate
    have hL : Heap.IsTuple (Shared.heap ⟨hp, g, d, tk, os⟩) l items := hL
    wp_walk using wpAny_loadPart' hl
    refine wpAny_stack_any fun st => wpAny_pure ?_
    split
    · rename_i c _ _ _ _ _
      cases (c == Value.type "enumerate")
      · wp_walk using wpAny_loadPart' hl, wpAny_pyIter_tuple hL
        exact ⟨_, rfl, h⟩
      · wp_walk using wpAny_loadPart' hl, wpAny_pyIter_tuple hL
        exact ⟨_, rfl, h⟩
    · wp_walk using wpAny_loadPart' hl, wpAny_pyIter_tuple hL
      exact ⟨_, rfl, h⟩
theorem call_enumT {prog : Program} {w : World} {A : Around} {E : Value → Shared → Prop} {s : Shared} {l : Addr} {items : Array Value} {Q : Value → Shared → Prop} (hL : s.heap.IsTuple l items)
    (h : ∀ h', IsEnum h' (s.heap.objs.size + 1) s.heap.objs.size 0 .none → h'.IsTupleIter s.heap.objs.size l 0 → h'.objs.size = s.heap.objs.size + 2 →
      (∀ b o, s.heap.get? b = some o → h'.get? b = some o) → Q (.ref (s.heap.objs.size + 1)) { s with heap := h' }) :
    wpAny (model prog w) A (call (.type "enumerate") [.ref l]) Q E s := by
  have hL2 := hL
  obtain ⟨⟨c, dct, dt, sl⟩, hl, hc, n, hd⟩ := hL
  replace hc : c = .type "tuple" := hc
  replace hd : dt = .seq items n := hd
  subst hc hd
  refine callType_new F.called_enumerate (by decide) (F.typeCall_enumerate_1 _) (F.newCall_enumerate_1 _) (fun obj => F.args_object_init_2 obj _) F.entry_enumerate_new
    (meets_enumT l items dct n sl) ⟨hl, hL2, ?_⟩
  have hz : (s.heap.push { cls := .type "tuple_iterator", data := .fields #[.ref l, .int 0 0] }).objs.size = s.heap.objs.size + 1 := Heap.size_push ..
  show _ ∧ _
  rw [hz]
  have he : IsEnum ((s.heap.push { cls := .type "tuple_iterator", data := .fields #[.ref l, .int 0 0] }).push
      { cls := .type "enumerate", data := .fields #[.none, .bool false, .ref s.heap.objs.size, rawInt 0, .none, .none] }) (s.heap.objs.size + 1) s.heap.objs.size 0 .none := by
    have := Heap.get?_push_size (s.heap.push { cls := .type "tuple_iterator", data := .fields #[.ref l, .int 0 0] })
      (o := { cls := .type "enumerate", data := .fields #[.none, .bool false, .ref s.heap.objs.size, rawInt 0, .none, .none] }) rfl
    rw [hz] at this; exact this
  exact ⟨⟨_, he, rfl⟩, h _ he ⟨_, Heap.get?_push_of_some _ (Heap.get?_push_size _ rfl), rfl, rfl⟩ (by rw [Heap.size_push, hz]) fun b o x => Heap.get?_push_of_some _ (Heap.get?_push_of_some _ x)⟩
def iEnumT (K : PySem.W.Frag) (ta : TA) : TI := fun σ H R => ta σ H fun vs H1 => ∃ a xs, vs = [.ref a] ∧ SqT K H1 a xs ∧ R (IteT K a) H1
theorem pi_enumT {X : Cx} {e : Expr} {ta : TA} {p pos tpos : Pos} {elts : List Expr} {kk : Nat} (hg : Gl X "enumerate") (hm : X.mg "enumerate" = none) (ha : PA X [e] ta) (hs : starEach [e] X.env = [(false, eval e X.env)] := by rfl) :
    PI X (.Tuple elts kk tpos) (.Call (.Name "enumerate" p) [e] [] pos) (iEnumT X.K ta) := by
  refine ⟨fun pins s σ H R I h => ?_⟩
  refine Call_ (ld_blt I hg hm boot_enumerate (PyProof.Rows.callWith_type1 (thn (ha.run pos pins s σ H _ I h) fun us s1 ⟨vs, H1, I1, r1, q1⟩ => ?_) hs rfl))
  obtain ⟨a, xs, ex, hq, q⟩ := q1
  subst ex
  obtain ⟨u, rfl, ra⟩ := vals1 r1
  cases ra
  obtain ⟨its, rv, p', hz⟩ := I1.tuple hq
  refine call_enumT (show s1.heap.IsTuple a its.toArray from p') fun h' he hit hsz hk => wpAny_pyIter_enum he ?_
  have I2 : Inv X pins σ H1 { s1 with heap := h' } := I1.kept (t' := s1.toks) hk
  refine ⟨s1.heap.objs.size + 1, [s1.heap.objs.size + 1, s1.heap.objs.size], _, _, H1, rfl, I2, turn_enumT a (s1.heap.objs.size + 1) s1.heap.objs.size, ⟨⟨.none, he⟩, hit, Nat.succ_ne_self _⟩, fun b hb => ?_, q⟩
  have hle : s1.heap.objs.size ≤ b := by
    rcases two hb with z | z <;> (rw [z]; omega)
  exact I1.fpOk hle (I1.hok.fresh hle)
/-! ### as walks of Lean -/
section
variable {p : Par} {τ : List Sl} {e : Expr} {pos pp tpos : Pos} {elts : List Expr} {kk : Nat} {α : Type} [Py α]
def enumL (xs : List α) : List (Int × α) := (rng 0 xs.length).zip xs
theorem enumL_get {xs : List α} {i : Nat} {z : Int × α} (h : (enumL xs)[i]? = some z) : xs[i]? = some z.2 ∧ z.1 = (i : Nat) := by
  unfold enumL at h
  rw [List.getElem?_zip_eq_some] at h
  have := rng_get h.1
  exact ⟨h.2, by omega⟩
theorem ix_enumT {xs : Tup α} (hg : p.sc.names.lookup ("enumerate" : Str) = some .globalImplicit) (hm : p.mg "enumerate" = none) (ha : PX p e τ (.sh xs)) (hs : ∀ env, starEach [e] env = [(false, eval e env)] := by intro _; rfl) :
    IX p (.Tuple elts kk tpos) (.Call (.Name "enumerate" pp) [e] [] pos) τ ((enumL xs.l).map fun z => .sh z) := fun B0 H0 B H σ ok R q => by
  refine ⟨iEnumT p.K (tCons (EE p e) tNil), fun X hX => ?_, ha B0 H0 B H σ ok _ fun B1 H1 v x1 r1 => ?_⟩
  · have hX' := hX
    obtain ⟨k, rfl, _⟩ := hX'
    exact pi_enumT hg hm (pa_cons (ee hX) pa_nil (hs _)) (hs _)
  · obtain ⟨c, vs, e1, hc, r⟩ := (show rep p.K B1 v xs from r1)
    refine ⟨c, vs, by rw [e1], .of (x1.bh _ _ hc), q B1 H1 _ x1 fun B2 H2 s1 s2 => ⟨fun i s hi => ?_, vs, .of (s2 _ _ (s1 _ _ hc)), ?_⟩⟩
    · obtain ⟨z, hz, rfl⟩ := items_at hi
      obtain ⟨hx, hi1⟩ := enumL_get hz
      obtain ⟨v1, hv1, rv1⟩ := r.get hx
      refine ⟨⟨vs, v1, .of (s2 _ _ (s1 _ _ hc)), hv1⟩, fun y H' hy => ?_⟩
      obtain ⟨T, a, rfl, hT, rfl, g1⟩ := hy
      have ea := (g1 vs (.of (s2 _ _ (s1 _ _ hc)))).symm.trans hv1
      cases ea
      have x4 := Ext.laid (o := .tup [.int (i : Nat), v1]) s2 hT
      exact ⟨_, x4, T, _, v1, rfl, upd_same, by rw [hi1]; rfl, Py.mono (.of (s1.trans x4.bb)) rv1⟩
    · rw [List.length_map, r.length]
      unfold enumL
      rw [List.length_zip]
      unfold rng
      rw [List.length_map, List.length_range]
      omega
end
end Ly

namespace Ly
open PySem PySem.Spec PyProof.Rows L2
open Py
/-- the same value, told otherwise -/
theorem px_as {p : Par} {τ : List Sl} {e : Expr} {α β : Type} [Py α] [Py β] {x : α} (y : β) (h : PX p e τ (.sh x)) (r : ∀ {K : PySem.W.Frag} {B : Hp} {v : V}, rep K B v x → rep K B v y) : PX p e τ (.sh y) :=
  h.imp fun _ _ _ _ _ q => r q
/-! ### what bars a place: tuples of several kinds -/
inductive Bar
  | sheet | point (n : Str) | keep (k : Int) | name (n : Str)
  deriving DecidableEq, Inhabited
def barRep (K : PySem.W.Frag) (B : Hp) (v : V) : Bar → Prop
  | .sheet => rep K B v (T1.mk ("sheet" : Str))
  | .point n => rep K B v (("point" : Str), n)
  | .keep k => rep K B v (("keep" : Str), k)
  | .name n => rep K B v (("name" : Str), n)
instance : Py Bar := ⟨barRep, fun {K B B' v a} l h => by
  cases a with
  | sheet => exact Py.mono l (show rep K B v (T1.mk ("sheet" : Str)) from h)
  | point n => exact Py.mono l (show rep K B v (("point" : Str), n) from h)
  | keep k => exact Py.mono l (show rep K B v (("keep" : Str), k) from h)
  | name n => exact Py.mono l (show rep K B v (("name" : Str), n) from h)⟩
instance : Imm Bar := ⟨fun {K B B' v a} l h => by
  cases a with
  | sheet => exact Imm.keep (α := T1 Str) l (show rep K B v (T1.mk ("sheet" : Str)) from h)
  | point n => exact Imm.keep (α := Str × Str) l (show rep K B v (("point" : Str), n) from h)
  | keep k => exact Imm.keep (α := Str × Int) l (show rep K B v (("keep" : Str), k) from h)
  | name n => exact Imm.keep (α := Str × Str) l (show rep K B v (("name" : Str), n) from h)⟩
instance : NoN Bar := ⟨fun {K B v a} h => by
  cases a with
  | sheet => obtain ⟨_, _, e, _⟩ := h; rw [e]; exact fun z => nomatch z
  | point n => obtain ⟨_, _, _, e, _⟩ := h; rw [e]; exact fun z => nomatch z
  | keep k => obtain ⟨_, _, _, e, _⟩ := h; rw [e]; exact fun z => nomatch z
  | name n => obtain ⟨_, _, _, e, _⟩ := h; rw [e]; exact fun z => nomatch z⟩
def barDat : Bar → PyData
  | .sheet => PyEq.dat (T1.mk ("sheet" : Str))
  | .point n => PyEq.dat (("point" : Str), n)
  | .keep k => PyEq.dat (("keep" : Str), k)
  | .name n => PyEq.dat (("name" : Str), n)
theorem s_pk : ¬ ("point" : Str) = ("keep" : Str) := by decide +kernel
theorem s_pn : ¬ ("point" : Str) = ("name" : Str) := by decide +kernel
theorem s_kn : ¬ ("keep" : Str) = ("name" : Str) := by decide +kernel
instance : PyEq Bar where
  dat := barDat
  dp := fun {K B H v x} s r => by
    cases x with
    | sheet => exact PyEq.dp s (show rep K B v (T1.mk ("sheet" : Str)) from r)
    | point n => exact PyEq.dp s (show rep K B v (("point" : Str), n) from r)
    | keep k => exact PyEq.dp s (show rep K B v (("keep" : Str), k) from r)
    | name n => exact PyEq.dp s (show rep K B v (("name" : Str), n) from r)
  can := fun {K B v x} r => by
    cases x with
    | sheet => exact PyEq.can (show rep K B v (T1.mk ("sheet" : Str)) from r)
    | point n => exact PyEq.can (show rep K B v (("point" : Str), n) from r)
    | keep k => exact PyEq.can (show rep K B v (("keep" : Str), k) from r)
    | name n => exact PyEq.can (show rep K B v (("name" : Str), n) from r)
  d := 1
  dep := fun x => by
    cases x with
    | sheet => exact PyEq.dep (T1.mk ("sheet" : Str))
    | point n => exact PyEq.dep (("point" : Str), n)
    | keep k => exact PyEq.dep (("keep" : Str), k)
    | name n => exact PyEq.dep (("name" : Str), n)
  eqv := fun x y => by
    have e1 := s_pk
    have e2 := s_pn
    have e3 := s_kn
    cases x <;> cases y <;> simp [barDat, PyEq.dat, PyData.eqv, PyData.eqvAll, e1, e2, e3, Ne.symm e1, Ne.symm e2, Ne.symm e3]
instance : NoD Bar := ⟨fun x z => by cases x <;> cases z⟩
instance : Ty Bar := ⟨fun _ => "tuple", fun {K B H v x} s r => by
  cases x with
  | sheet => exact Ty.tyx s (show rep K B v (T1.mk ("sheet" : Str)) from r)
  | point n => exact Ty.tyx s (show rep K B v (("point" : Str), n) from r)
  | keep k => exact Ty.tyx s (show rep K B v (("keep" : Str), k) from r)
  | name n => exact Ty.tyx s (show rep K B v (("name" : Str), n) from r)⟩
end Ly

namespace Ly
open PySem PySem.Spec PyProof.Rows L2
open Py
/-! ### sorted -/
class SortD (α : Type) [Py α] [PyEq α] : Prop where
  al : ∀ a b : α, PySem.W.alike (PyEq.dat a) (PyEq.dat b) = true
  st : ∀ l : List α, PySem.W.Sortable (l.map PyEq.dat)
instance : SortD Int := ⟨fun _ _ => rfl, fun l => .inr fun d hd => by
  obtain ⟨x, _, rfl⟩ := List.mem_map.mp hd
  exact ⟨fun z => (by cases z), fun xs z => (by cases z)⟩⟩
instance : SortD Str := ⟨fun _ _ => rfl, fun l => .inr fun d hd => by
  obtain ⟨x, _, rfl⟩ := List.mem_map.mp hd
  exact ⟨fun z => (by cases z), fun xs z => (by cases z)⟩⟩
instance {α β : Type} [Py α] [Py β] [PyEq α] [PyEq β] [SortD α] [SortD β] : SortD (α × β) := ⟨fun a b => by
    show PySem.W.alike (.tuple [PyEq.dat a.1, PyEq.dat a.2]) (.tuple [PyEq.dat b.1, PyEq.dat b.2]) = true
    simp only [PySem.W.alike, PySem.W.alikeAll, SortD.al, Bool.and_self], fun l => .inl fun d hd => by
    obtain ⟨x, _, rfl⟩ := List.mem_map.mp hd
    exact ⟨_, _, rfl⟩⟩
section
variable {X : Cx} {α : Type}
theorem each_of {R : Value → V × α → Prop} : ∀ {bs : List (V × α)} {its : List Value}, Vals (bs.map (·.1)) its → (∀ b ∈ bs, ∀ u, RelV b.1 u → R u b) → PySem.W.EachIs R its bs
  | [], _, .nil, _ => .nil
  | b :: r, _, .cons h t, k => .cons (k b List.mem_cons_self _ h) (each_of t fun c m u q => k c (List.mem_cons_of_mem _ m) u q)
theorem vals_each : ∀ {bs : List (V × α)} {out : List Value}, PySem.W.EachIs (fun u (b : V × α) => RelV b.1 u) out bs → Vals (bs.map (·.1)) out
  | _, _, .nil => .nil
  | _, _, .cons h t => .cons h (vals_each t)
def rSortedD (K : PySem.W.Frag) (enc : α → PyData) : List V → Hp → VK → Prop := fun vs H Q => ∃ (a : Addr) (bs : List (V × α)), vs = [.ref a] ∧ SqL K H a (bs.map (·.1)) ∧ bs.length ≤ sizeLine ∧ (∀ b ∈ bs, Dp K H b.1 (enc b.2)) ∧ (∀ b ∈ bs, (enc b.2).depth ≤ 64) ∧
  PySem.W.AllAlike (bs.map fun b => enc b.2) ∧ PySem.W.Sortable (bs.map fun b => enc b.2) ∧ ∀ p, H p = none → Q (.ref p) (upd H p (.lst ((bs.mergeSort (PySem.W.dataLe false fun b => enc b.2)).map (·.1))))
theorem call_sortedD (hu : X.A.units + 66 < cLine) (enc : α → PyData) : CallR X (.builtin "sorted") (rSortedD X.K enc) := by
  intro pins s σ H vs us Q I r h
  obtain ⟨a, bs, rfl, hs, hl, hd, dp, al, so, q⟩ := h
  obtain ⟨its, rv, p, hz⟩ := I.list hs
  rw [Vals.ref1 r]
  have e : PySem.W.EachIs (fun u (b : V × α) => RelV b.1 u) its bs := each_of rv fun _ _ _ h => h
  have er : PySem.W.EachIs (fun u (b : V × α) => ∃ as, Reads s.heap u (enc b.2) as) its bs := each_of rv fun b m u h => Dp.reads I _ _ _ (hd b m) h
  refine PySem.W.sorted_data p.isList e er al so hl (fun b m => by have := dp b m; omega) fun out ho eo => ?_
  obtain ⟨c, hc⟩ := PyProof.Rows.sortedAll_at s.heap its out.toArray
  exact ⟨.ref _, upd H (s.heap.objs.size + 1) (.lst ((bs.mergeSort (PySem.W.dataLe false fun b => enc b.2)).map (·.1))), I.laid (t' := s.toks) (fun _ _ => PyProof.Rows.sortedAll_old) (Nat.le_succ _) ⟨by rw [List.length_map, List.length_mergeSort]; exact hl, out, c, vals_each eo, hc⟩, rfl, q _ (I.hok.fresh (Nat.le_succ _))⟩
end
/-- the order -/
def leD {α : Type} [Py α] [PyEq α] : α → α → Bool := PySem.W.dataLe false PyEq.dat
def srt {α : Type} [Py α] [PyEq α] (xs : List α) : List α := xs.mergeSort leD
theorem all2_zip {α β : Type} {S : α → β → Prop} : ∀ {as : List α} {bs : List β}, All2 S as bs → ∀ z ∈ as.zip bs, S z.1 z.2
  | _, _, .nil, z, m => by cases m
  | _, _, .cons h t, z, m => by
    rcases List.mem_cons.mp m with rfl | m
    · exact h
    · exact all2_zip t z m
theorem all2_of_zip {α β : Type} {S : α → β → Prop} : ∀ zs : List (α × β), (∀ z ∈ zs, S z.1 z.2) → All2 S (zs.map (·.1)) (zs.map (·.2))
  | [], _ => .nil
  | z :: r, h => .cons (h z List.mem_cons_self) (all2_of_zip r fun y m => h y (List.mem_cons_of_mem _ m))
section
variable {p : Par} {τ τ1 : List Sl} {e a b o : Expr} {pos : Pos}
theorem px_sorted {α : Type} [Py α] [PyEq α] [SortD α] {xs : List α} {pp : Pos} (hg : p.sc.names.lookup ("sorted" : Str) = some .globalImplicit) (hm : p.mg "sorted" = none) (ha : PX p e τ (.sh xs)) (hl : xs.length ≤ sizeLine) (hd : PyEq.d α ≤ 60) (he : ∀ env, starEach [e] env = [(false, eval e env)] := by intro _; rfl) :
    PX p (.Call (.Name "sorted" pp) [e] [] pos) τ (.ow (srt xs)) :=
  px_b1 (id := "sorted") (r := rSortedD p.K (PyEq.dat (α := α))) (fun X hX => by
    obtain ⟨k, rfl, _, room, _⟩ := hX
    exact call_sortedD (by have := room.un; show X.A.units + 66 < _; omega) _) hg hm (by decide +kernel) ha (fun B H v Q s r q => by
    obtain ⟨c, ob, e1, hc, vs, e2, r2⟩ := r
    subst e2
    have hz := r2.length
    have z1 : (vs.zip xs).map (·.1) = vs := List.map_fst_zip (by omega)
    have z2 : (vs.zip xs).map (·.2) = xs := List.map_snd_zip (by omega)
    have hp := all2_zip r2
    refine ⟨c, vs.zip xs, by rw [e1], by rw [z1]; exact .of (s _ _ hc.lst), by rw [List.length_zip]; omega, fun z m => PyEq.dp s (hp z m), fun z m => by have := PyEq.dep z.2; omega, ?_, ?_, fun l hl => ?_⟩
    · intro d hd d' hd'
      obtain ⟨x, _, rfl⟩ := List.mem_map.mp hd
      obtain ⟨y, _, rfl⟩ := List.mem_map.mp hd'
      exact SortD.al _ _
    · have : (vs.zip xs).map (fun b => PyEq.dat b.2) = xs.map PyEq.dat := by
        conv => rhs; rw [← z2]
        rw [List.map_map]; rfl
      rw [this]; exact SortD.st xs
    · refine q B _ _ (Ext.made s hl) (vow ⟨l, _, rfl, hl, s.free hl, upd_same, _, rfl, ?_⟩)
      have e3 : ((vs.zip xs).mergeSort (PySem.W.dataLe false fun b => PyEq.dat b.2)).map (·.2) = srt xs := by
        unfold srt
        refine (PySem.W.sort_maps (r := PySem.W.dataLe false fun b : V × α => PyEq.dat b.2) (s := leD) (fun z : V × α => z.2) (fun _ _ _ _ => rfl)).trans ?_
        rw [z2]
      rw [← e3]
      exact all2_of_zip _ fun z m => hp z (List.mem_mergeSort.mp m)) (by decide) (by decide) he
theorem srt_perm {α : Type} [Py α] [PyEq α] (xs : List α) : (srt xs).Perm xs := List.mergeSort_perm _ _
theorem srt_len {α : Type} [Py α] [PyEq α] (xs : List α) : (srt xs).length = xs.length := (srt_perm xs).length_eq
theorem leD_int : (leD : Int → Int → Bool) = fun a b => decide (a ≤ b) := PySem.W.dataLe_int id
theorem leD_str : (leD : Str → Str → Bool) = fun a b => decide (a.cps.toList ≤ b.cps.toList) := PySem.W.dataLe_str id
/-- an order that is one -/
class LinD (α : Type) [Py α] [PyEq α] : Prop where
  tr : ∀ a b c : α, leD a b = true → leD b c = true → leD a c = true
  tot : ∀ a b : α, (leD a b || leD b a) = true
  anti : ∀ a b : α, leD a b = true → leD b a = true → a = b
instance : LinD Int := ⟨fun a b c h k => by rw [leD_int] at *; simp at *; omega, fun a b => by rw [leD_int]; simp; omega, fun a b h k => by rw [leD_int] at *; simp at *; omega⟩
theorem str_eq {a b : Str} (h : a.cps.toList = b.cps.toList) : a = b := by
  cases a; cases b
  congr 1
  exact Array.toList_inj.mp h
instance : LinD Str := ⟨fun a b c h k => by
    rw [leD_str] at *
    simp only [decide_eq_true_eq] at *
    exact List.le_trans h k, fun a b => by
    rw [leD_str]
    simp only [Bool.or_eq_true, decide_eq_true_eq]
    exact List.le_total _ _, fun a b h k => by
    rw [leD_str] at *
    simp only [decide_eq_true_eq] at *
    exact str_eq (List.le_antisymm h k)⟩
theorem srt_pair {α : Type} [Py α] [PyEq α] [LinD α] (xs : List α) : (srt xs).Pairwise fun a b => leD a b = true :=
  List.pairwise_mergeSort LinD.tr LinD.tot xs
theorem sorted_one {α : Type} [Py α] [PyEq α] [LinD α] {xs ys : List α} (h : xs.Perm ys) (k : ys.Pairwise fun a b => leD a b = true) : srt xs = ys :=
  List.Perm.eq_of_pairwise (le := fun a b => leD a b = true) (fun a b _ _ h k => LinD.anti a b h k) (srt_pair xs) k ((srt_perm xs).trans h)
theorem srt_eq {α : Type} [Py α] [PyEq α] [LinD α] {xs ys : List α} : srt xs = srt ys ↔ xs.Perm ys :=
  ⟨fun h => (srt_perm xs).symm.trans ((List.Perm.of_eq h).trans (srt_perm ys)), fun h => sorted_one (h.trans (srt_perm ys).symm) (srt_pair ys)⟩
/-! ### xs.index(y) -/
theorem idx_at {α : Type} [DecidableEq α] : ∀ {xs : List α} {y : α}, y ∈ xs → xs[xs.idxOf y]? = some y ∧ ∀ (m : Nat) z, m < xs.idxOf y → xs[m]? = some z → z ≠ y
  | x :: r, y, h => by
    rw [List.idxOf_cons]
    by_cases e : x = y
    · subst e
      rw [show (x == x) = true from by simp]
      exact ⟨rfl, fun m z hm => by simp at hm⟩
    · have hm : y ∈ r := (List.mem_cons.mp h).resolve_left fun z => e z.symm
      obtain ⟨h1, h2⟩ := idx_at hm
      rw [show (x == y) = false from by simpa using e]
      refine ⟨by simpa using h1, fun m z hm hz => ?_⟩
      cases m with
      | zero => cases hz; exact e
      | succ m => exact h2 m z (by simpa using hm) (by simpa using hz)
theorem px_index {α : Type} [Py α] [PyEq α] [DecidableEq α] {xs : List α} {y : α} {apos : Pos} (ho : PX p o τ (.sh xs)) (he : PX p e τ (.sh y)) (hm : y ∈ xs) (hd : PyEq.d α ≤ 60)
    (hbase : ∀ env, attributeBase o "index" env (eval o env) = eval o env) (hline : (apos.endLine == pos.line) = true) (hs : ∀ env, starEach [e] env = [(false, eval e env)] := by intro _; rfl) :
    PX p (.Call (.Attribute o "index" apos) [e] [] pos) τ (.sh ((xs.idxOf y : Nat) : Int)) := fun B0 H0 B H σ ok Q q => by
  refine ⟨tBM p.K "list" (rIndexD p.K) (EE p o) (tCons (EE p e) tNil), fun X hX => ?_, ho B0 H0 B H σ ok _ fun B1 H1 v x1 r1 => ?_⟩
  · have hX' := hX
    obtain ⟨k, rfl, _, room, _⟩ := hX'
    exact pe_bm PySem.F.plainAttrs_list PySem.F.slot_list_index PySem.F.type_list_index (mt_indexD (by have := room.un; show X.A.units + 65 < _; omega)) (ee hX) (pa_cons (ee hX) pa_nil (hs _)) (hbase _) (by rw [hs]; rfl) hline (hs _) rfl
  · obtain ⟨c, ob, e1, hc, vs, e2, r⟩ := id r1
    subst e1 e2
    refine ⟨.inl ⟨rfl, vs, .of (x1.bh _ _ hc.lst)⟩, he B0 H0 B1 H1 σ (ok.go x1) _ fun B2 H2 u x2 r2 => ?_⟩
    have r1' : rep p.K B2 (.ref c) xs := Py.mono (.of x2.bb) (show rep p.K B1 (.ref c) xs from r1)
    obtain ⟨h1, h2⟩ := idx_at hm
    refine ⟨c, u, PyEq.dat y, xs.map PyEq.dat, xs.idxOf y, PyEq.dat y, rfl, rfl, PyEq.dp (α := List α) x2.bh r1', PyEq.dp x2.bh (show rep p.K B2 u y from r2), shaped_list r1' hd, shaped_of (show rep p.K B2 u y from r2) (by omega), by rw [List.getElem?_map, h1]; rfl, (PyEq.eqv y y).mpr rfl, fun m z' hm' hz' => ?_, q B2 H2 _ (x1.trans x2) rfl⟩
    rw [List.getElem?_map] at hz'
    obtain ⟨z, hz, rfl⟩ := Option.map_eq_some_iff.mp hz'
    rw [dec_eqv]
    exact decide_eq_false (h2 m z hm' hz)
end
end Ly

namespace Ly
open PySem PySem.Spec PyProof.Rows L2
open Py
/-! ### a list of things of its own -/
structure DL (β : Type) where
  l : List β
section
variable {β : Type} [Od β]
inductive OwnS (K : PySem.W.Frag) (B H : Hp) : List V → List β → List Addr → Prop
  | nil : OwnS K B H [] [] []
  | cons {q : Addr} {b : β} {F G : List Addr} {vs : List V} {l : List β} : Od.own K B H q b F → (∀ a ∈ F, a ∉ G) → OwnS K B H vs l G → OwnS K B H (.ref q :: vs) (b :: l) (F ++ G)
theorem OwnS.lay {K : PySem.W.Frag} {B H : Hp} : ∀ {vs : List V} {l : List β} {G : List Addr}, OwnS K B H vs l G → ∀ a ∈ G, ∃ o, H a = some o ∧ ∀ xs, o ≠ .tup xs
  | _, _, _, .nil, _, m => by cases m
  | _, _, _, .cons r _ t, a, m => (List.mem_append.mp m).elim (fun m => Od.lay r a m) fun m => t.lay a m
theorem OwnS.mono {K : PySem.W.Frag} {B H B' H' : Hp} (l' : Le B B') : ∀ {vs : List V} {l : List β} {G : List Addr}, OwnS K B H vs l G → (∀ a ∈ G, H' a = H a) → OwnS K B' H' vs l G
  | _, _, _, .nil, _ => .nil
  | _, _, _, .cons r d t, s => .cons (Od.dmono l' (fun a m => s a (List.mem_append_left _ m)) r) d (t.mono l' fun a m => s a (List.mem_append_right _ m))
theorem OwnS.keep [ImmO β] {K : PySem.W.Frag} {B H B' : Hp} (l' : TLe B B') : ∀ {vs : List V} {l : List β} {G : List Addr}, OwnS K B H vs l G → OwnS K B' H vs l G
  | _, _, _, .nil => .nil
  | _, _, _, .cons r d t => .cons (ImmO.dkeep l' r) d (t.keep l')
theorem OwnS.length {K : PySem.W.Frag} {B H : Hp} : ∀ {vs : List V} {l : List β} {G : List Addr}, OwnS K B H vs l G → vs.length = l.length
  | _, _, _, .nil => rfl
  | _, _, _, .cons _ _ t => by rw [List.length_cons, List.length_cons, t.length]
theorem OwnS.snoc {K : PySem.W.Frag} {B H : Hp} {q : Addr} {b : β} {F : List Addr} (r : Od.own K B H q b F) : ∀ {vs : List V} {l : List β} {G : List Addr}, OwnS K B H vs l G → (∀ a ∈ F, a ∉ G) → ∃ G2, OwnS K B H (vs ++ [.ref q]) (l ++ [b]) G2 ∧ ∀ a, a ∈ G2 ↔ a ∈ G ∨ a ∈ F
  | _, _, _, .nil, _ => ⟨F ++ [], .cons r (fun _ _ m => by cases m) .nil, fun a => by simp⟩
  | _, _, _, @OwnS.cons _ _ _ _ _ q0 b0 F0 G vs l r0 d0 t, d => by
    obtain ⟨G2, t2, s2⟩ := t.snoc r (fun a m mg => d a m (List.mem_append_right _ mg))
    refine ⟨F0 ++ G2, .cons r0 (fun a m mg => ?_) t2, fun a => ?_⟩
    · rcases (s2 a).mp mg with w | w
      · exact d0 a m w
      · exact d a w (List.mem_append_left _ m)
    · simp only [List.mem_append, s2 a, or_assoc]
instance dlOd : Od (DL β) := ⟨fun K B H p d F => ∃ vs G, F = p :: G ∧ p ∉ G ∧ H p = some (.lst vs) ∧ OwnS K B H vs d.l G,
  fun {K B H p d F} ⟨vs, G, e, n, h, r⟩ a m => by
    rw [e] at m
    rcases List.mem_cons.mp m with z | m
    · rw [z]; exact ⟨_, h, fun xs z => by cases z⟩
    · exact r.lay a m,
  fun {K B H B' H' p d F} l s ⟨vs, G, e, n, h, r⟩ => ⟨vs, G, e, n, by rw [s p (by rw [e]; exact List.mem_cons_self)]; exact h, r.mono l fun a m => s a (by rw [e]; exact List.mem_cons_of_mem _ m)⟩⟩
instance [ImmO β] : ImmO (DL β) := ⟨fun l ⟨vs, G, e, n, h, r⟩ => ⟨vs, G, e, n, h, r.keep l⟩⟩
theorem OwnS.pub {γ : Type} [Py γ] [Pub β γ] {K : PySem.W.Frag} {B H : Hp} {F : List Addr} (n : ∀ a ∈ F, B a = none) : ∀ {vs : List V} {l : List β} {G : List Addr}, OwnS K B H vs l G → (∀ a ∈ G, a ∈ F) →
    All2 (rep K (over B H F)) vs (l.map fun p => (Pub.rd p : γ))
  | _, _, _, .nil, _ => .nil
  | _, _, _, .cons r _ t, s => by
    have s1 := fun a m => s a (List.mem_append_left _ m)
    exact .cons (Py.mono (.of (over_le s1 n)) (Pub.pub (fun a m => n a (s1 a m)) r)) (t.pub n fun a m => s a (List.mem_append_right _ m))
instance dlPub {γ : Type} [Py γ] [Pub β γ] : Pub (DL β) (List γ) := ⟨fun d => d.l.map fun p => (Pub.rd p : γ), fun {K B H p d F} n ⟨vs, G, e, np, h, r⟩ =>
  ⟨p, _, rfl, .of (by rw [over_in (by rw [e]; exact List.mem_cons_self)]; exact h), vs, rfl, r.pub n fun a m => by rw [e]; exact List.mem_cons_of_mem _ m⟩⟩
end
/-! ### a slot whose value is told -/
structure Pin (α : Type) where
  v : V
  a : α
instance {α : Type} [Py α] : Py (Pin α) := ⟨fun K B w x => w = x.v ∧ rep K B w x.a, fun l h => ⟨h.1, Py.mono l h.2⟩⟩
def pin1 (v : V) : Sl → Sl
  | .un => .un
  | @Sl.sh _ _ a => .sh (Pin.mk v a)
  | @Sl.ow _ i b => @Sl.ow _ i b
def pinT (vs : Nat → V) : Nat → List Sl → List Sl
  | _, [] => []
  | k, s :: r => pin1 (vs k) s :: pinT vs (k + 1) r
theorem pinT_len {vs : Nat → V} : ∀ {k : Nat} {τ : List Sl}, (pinT vs k τ).length = τ.length
  | _, [] => rfl
  | k, _ :: r => by rw [pinT, List.length_cons, List.length_cons, pinT_len]
theorem pinT_get {vs : Nat → V} : ∀ {k i : Nat} {τ : List Sl}, (pinT vs k τ)[i]? = (τ[i]?).map (pin1 (vs (k + i)))
  | _, _, [] => by simp [pinT]
  | k, 0, s :: r => by simp [pinT]
  | k, i + 1, s :: r => by
    rw [pinT, List.getElem?_cons_succ, List.getElem?_cons_succ, pinT_get, show k + 1 + i = k + (i + 1) by omega]
/-- what stands behind a block of statements: forgotten, as it was, or made of what stays -/
def UnP (vs : Nat → V) : Nat → List Sl → List Sl → List Sl → Prop
  | k, o :: os, a :: as, f :: fs => (f = .un ∨ (isSh o ∧ a = pin1 (vs k) o ∧ f = o) ∨ (a = f ∧ a.imm)) ∧ UnP vs (k + 1) os as fs
  | _, [], [], [] => True
  | _, _, _, _ => False
theorem UnP.len {vs : Nat → V} : ∀ {k : Nat} {os as fs : List Sl}, UnP vs k os as fs → as.length = os.length ∧ fs.length = os.length
  | _, [], [], [], _ => ⟨rfl, rfl⟩
  | k, o :: os, a :: as, f :: fs, h => by
    obtain ⟨h1, h2⟩ := h.2.len
    exact ⟨by rw [List.length_cons, List.length_cons, h1], by rw [List.length_cons, List.length_cons, h2]⟩
  | _, [], [], _ :: _, h => h.elim
  | _, [], _ :: _, [], h => h.elim
  | _, [], _ :: _, _ :: _, h => h.elim
  | _, _ :: _, [], [], h => h.elim
  | _, _ :: _, [], _ :: _, h => h.elim
  | _, _ :: _, _ :: _, [], h => h.elim
theorem UnP.at {vs : Nat → V} : ∀ {k : Nat} {os as fs : List Sl}, UnP vs k os as fs → ∀ (i : Nat) (f : Sl), fs[i]? = some f → f = .un ∨ (∃ o, os[i]? = some o ∧ isSh o ∧ as[i]? = some (pin1 (vs (k + i)) o) ∧ f = o) ∨ (as[i]? = some f ∧ f.imm)
  | _, [], [], [], _, i, f, e => by simp at e
  | k, o :: os, a :: as, f0 :: fs, h, 0, f, e => by
    simp at e
    subst e
    rcases h.1 with z | ⟨z1, z2, z3⟩ | ⟨z1, z2⟩
    · exact .inl z
    · exact .inr (.inl ⟨o, rfl, z1, by simp [z2], z3⟩)
    · exact .inr (.inr ⟨by simp [z1], z1 ▸ z2⟩)
  | k, o :: os, a :: as, f0 :: fs, h, i + 1, f, e => by
    rcases h.2.at i f (by simpa using e) with z | ⟨o', z1, z2, z3, z4⟩ | ⟨z1, z2⟩
    · exact .inl z
    · exact .inr (.inl ⟨o', by simpa using z1, z2, by rw [show k + (i + 1) = k + 1 + i by omega]; simpa using z3, z4⟩)
    · exact .inr (.inr ⟨by simpa using z1, z2⟩)
theorem Vokf.unlend {K : PySem.W.Frag} {B H H0 : Hp} {F G : List Addr} {v : V} {s : Sl} (h : Vokf K B H H0 v G s) (hi : s.imm) (t : ∀ a ∈ F, ∀ xs, B a ≠ some (.tup xs)) : Vokf K (unl B F) H H0 v G s := by
  cases s with
  | un => trivial
  | @sh α inst y => exact @Imm.keep α inst hi _ _ _ _ _ (tle_unl t) h
  | @ow β inst y =>
    obtain ⟨c, e, n, r⟩ := h
    refine ⟨c, e, fun a m => ⟨(n a m).1, ?_⟩, @ImmO.dkeep β inst hi _ _ _ _ _ _ _ (tle_unl t) r⟩
    by_cases z : a ∈ F
    · exact unl_in z
    · rw [unl_out z]; exact (n a m).2
theorem same_unl {B B' : Hp} {F : List Addr} (s : Same B B') (n : ∀ a ∈ F, B a = none) : Same B (unl B' F) := fun a o e => by
  rw [unl_out (fun m => by rw [n a m] at e; cases e)]; exact s a o e
theorem unl_same {B H : Hp} {F : List Addr} (s : Same B H) : Same (unl B F) H := fun a o e => by
  by_cases z : a ∈ F
  · rw [unl_in z] at e; cases e
  · rw [unl_out z] at e; exact s a o e
section
variable {p : Par} {m : Nat} {τ τ1 : List Sl} {R : Post} {st : Stmt} {sts rest : List Stmt} {e a b o : Expr} {es : List Expr} {pos pos' px py : Pos}
theorem px_vP (G : Gd p m) (i : Nat) {α : Type} [Py α] {v : V} {y : α} {x : Str} (hN : p.N[i]? = some x) (hi : i < m) (hτ : τ[i]? = some (.sh (Pin.mk v y))) : PX p (.Name x pos) τ (.sh y) :=
  (px_v G i hN hi hτ trivial).imp fun _ _ _ _ _ r => r.2
theorem px_wP (G : Gd p m) {q : Par} (hq : q.N = p.N) (i : Nat) {α : Type} [Py α] {v : V} {y : α} {x : Str} (hN : q.N[i]? = some x) (hv : Vis q.sc x) (hτ : τ[i]? = some (.sh (Pin.mk v y))) : PX q (.Name x pos) τ (.sh y) :=
  (px_w G hq i hN hv hτ trivial).imp fun _ _ _ _ _ r => r.2
theorem sv_vP (G : Gd p m) (i : Nat) {α : Type} [Py α] {v : V} {y : α} {x : Str} (hN : p.N[i]? = some x) (hi : i < m) (hτ : τ[i]? = some (.sh (Pin.mk v y))) : SV p (.Name x pos) τ (.sh y) := fun B0 H0 B H σ ok => by
  obtain ⟨w, r, k⟩ := sv_v (pos := pos) G i hN hi hτ trivial B0 H0 B H σ ok
  exact ⟨w, r.2, k⟩
/-- an own thing is readable while a statement runs; behind it it's as it was, and what is kept holds none of it -/
theorem sx_lendB (i : Nat) {β γ : Type} [Od β] [Py γ] [Pub β γ] {x : β} (hi : τ[i]? = some (.ow x))
    (h : ∀ vs : Nat → V, S1 p st (pinT vs 0 (τ.set i (.sh (Pub.rd x : γ)))) ⟨fun τ' => ∃ fin, UnP vs 0 (τ.set i (.sh (Pub.rd x : γ))) τ' fin ∧ τ'[i]? = some (.sh (Pin.mk (vs i) (Pub.rd x : γ))) ∧ SX p rest (fin.set i (.ow x)) R, fun s => s.imm ∧ R.rt s, fun _ _ => False, fun _ _ => False⟩) :
    SX p (st :: rest) τ R := sx_cons (fun τ' => SX p rest τ' R) (fun B0 H0 B H σ ok D em => by
  obtain ⟨F, q0, n, e1, r, ok2⟩ := ok.lendF (γ := γ) hi
  let vs : Nat → V := fun k => (σ[k]?.getD none).getD .non
  have hl := lt_of_get hi
  have nB : ∀ a ∈ F, B a = none := fun a m => (n a m).2
  have okP : Ok p.K (over B H F) H0 (over B H F) H σ (pinT vs 0 (τ.set i (.sh (Pub.rd x : γ)))) := by
    have ok3 := ok2.tobase
    obtain ⟨fp, f⟩ := ok3.fps
    refine ⟨ok3.ext, by rw [pinT_len]; exact ok3.len, fp, fun j s g => ?_, fun j k s u c g1 g2 o1 o2 f1 f2 => ?_⟩
    · rw [pinT_get] at g
      obtain ⟨t, ht, rfl⟩ := Option.map_eq_some_iff.mp g
      rcases f.at_ j t ht with z | ⟨v, e2, q⟩
      · subst z; exact .inl rfl
      · refine .inr ⟨v, e2, ?_⟩
        cases t with
        | un => exact q
        | sh y => exact ⟨by show v = vs (0 + j); rw [Nat.zero_add]; show v = (σ[j]?.getD none).getD .non; rw [e2]; rfl, q⟩
        | ow y => exact q
    · have go : ∀ {k : Nat} {s : Sl}, (pinT vs 0 (τ.set i (.sh (Pub.rd x : γ))))[k]? = some s → s.own → ∃ t, (τ.set i (.sh (Pub.rd x : γ)))[k]? = some t ∧ t.own := fun {k s} g o => by
        rw [pinT_get] at g
        obtain ⟨t, ht, rfl⟩ := Option.map_eq_some_iff.mp g
        refine ⟨t, ht, ?_⟩
        cases t with
        | un => exact o
        | sh y => exact o.elim
        | ow y => trivial
      obtain ⟨t1, h1, o1'⟩ := go g1 o1
      obtain ⟨t2, h2, o2'⟩ := go g2 o2
      exact f.dis j k t1 t2 c h1 h2 o1' o2' f1 f2
  have inF : ∀ a ∈ F, ∃ o, H a = some o ∧ ∀ xs, o ≠ .tup xs := Od.lay r
  have back : ∀ {B' H' : Hp}, Ext (over B H F) H0 B' H' → Ext B0 H0 (unl B' F) H' ∧ Same B (unl B' F) ∧ (∀ a ∈ F, H' a = H a ∧ B' a = H a) := fun {B' H'} y => by
    have hF : ∀ a ∈ F, H' a = H a ∧ B' a = H a := fun a m => by
      obtain ⟨o, ho, _⟩ := inF a m
      have : B' a = some o := y.bb a o (by rw [over_in m]; exact ho)
      rw [ho]
      exact ⟨y.bh a o this, this⟩
    have sB : Same B (unl B' F) := same_unl ((over_same nB).trans y.bb) nB
    refine ⟨⟨unl_same y.bh, y.hh, ok.ext.bb.trans sB, fun a o e k t => ?_⟩, sB, hF⟩
    have e1 := ok.ext.nw a o e k t
    have na : a ∉ F := fun m => by rw [(n a m).1] at k; cases k
    rw [unl_out na]
    exact y.nw a o (by rw [over_out na]; exact e1) k t
  refine h vs _ H0 _ H σ okP D ⟨fun B' H' σ' τ' ok' q => ?_, fun B' H' v s y vo q => ?_, fun _ _ _ _ _ _ _ _ q => q.elim, fun _ _ _ _ _ _ _ _ q => q.elim⟩
  · obtain ⟨fin, un, hpin, k⟩ := q
    obtain ⟨y, sB, hF⟩ := back ok'.ext
    obtain ⟨l1, l2⟩ := un.len
    obtain ⟨fp', f'⟩ := ok'.fps
    have tF : ∀ a ∈ F, ∀ xs, B' a ≠ some (.tup xs) := fun a m xs z => by
      obtain ⟨o, ho, t⟩ := inF a m
      rw [(hF a m).2, ho] at z
      exact t xs (Option.some.inj z)
    have hlf : i < fin.length := by rw [l2, List.length_set]; exact hl
    refine em.nx (unl B' F) H' σ' _ ⟨y, ?_, fset fp' i F, fun j s g => ?_, fun j k2 s u c g1 g2 o1 o2 f1 f2 => ?_⟩ k
    · rw [List.length_set, ok'.len, l1, l2]
    · by_cases z : i = j
      · subst z
        rw [List.getElem?_set_self hlf] at g
        cases g
        rcases f'.at_ i _ hpin with w | ⟨v, e2, q⟩
        · cases w
        · obtain ⟨ev, _⟩ : v = vs i ∧ _ := q
          have ev : v = .ref q0 := by rw [ev]; show (σ[i]?.getD none).getD .non = _; rw [e1]; rfl
          subst ev
          refine .inr ⟨_, e2, q0, rfl, ?_⟩
          rw [fset_same]
          exact ⟨fun a m => ⟨(n a m).1, unl_in m⟩, Od.dmono (.of sB) (fun a m => (hF a m).1) r⟩
      · rw [List.getElem?_set_ne z] at g
        rw [fset_ne (Ne.symm z)]
        rcases un.at j s g with w | ⟨t, ht, hs, ha, rfl⟩ | ⟨ha, hi2⟩
        · exact .inl w
        · rw [List.getElem?_set_ne z] at ht
          rcases f'.at_ j _ ha with w | ⟨v, e2, q⟩
          · cases s <;> cases w
            exact .inl rfl
          · refine .inr ⟨v, e2, ?_⟩
            cases s with
            | un => exact hs.elim
            | ow y => exact hs.elim
            | sh y0 =>
              obtain ⟨ev, _⟩ : v = vs (0 + j) ∧ _ := q
              rcases ok.at_ j _ ht with w | ⟨v0, e3, q0⟩
              · cases w
              · have : v0 = v := by rw [ev, Nat.zero_add]; show v0 = (σ[j]?.getD none).getD .non; rw [e3]; rfl
                subst this
                exact Py.mono (.of sB) (show rep p.K B v0 y0 from q0)
        · exact (f'.at_ j s ha).imp id fun ⟨v, e2, q⟩ => ⟨v, e2, q.unlend hi2 tF⟩
    · have other : ∀ {j : Nat} {s : Sl}, j ≠ i → (fin.set i (.ow x))[j]? = some s → s.own → τ'[j]? = some s := fun {j s} z g o => by
        rw [List.getElem?_set_ne (Ne.symm z)] at g
        rcases un.at j s g with w | ⟨t, ht, hs, ha, rfl⟩ | ⟨ha, _⟩
        · rw [w] at o; exact o.elim
        · cases s with
          | un => exact o.elim
          | sh y => exact o.elim
          | ow y => exact hs.elim
        · exact ha
      have mix : ∀ {j : Nat} {s : Sl}, j ≠ i → (fin.set i (.ow x))[j]? = some s → s.own → c ∈ fp' j → c ∉ F := fun {j s} z g o m mF => by
        rcases f'.at_ j s (other z g o) with w | ⟨v, _, q⟩
        · rw [w] at o; exact o
        · cases s with
          | un => exact o
          | sh y => exact o
          | ow y =>
            obtain ⟨q1, _, n1, _⟩ := q
            obtain ⟨o2, ho2, _⟩ := inF c mF
            have := (n1 c m).2
            rw [(hF c mF).2, ho2] at this
            cases this
      by_cases z1 : j = i
      · by_cases z2 : k2 = i
        · rw [z1, z2]
        · rw [z1, fset_same] at f1
          rw [fset_ne z2] at f2
          exact absurd f1 (mix z2 g2 o2 f2)
      · by_cases z2 : k2 = i
        · rw [z2, fset_same] at f2
          rw [fset_ne z1] at f1
          exact absurd f2 (mix z1 g1 o1 f1)
        · rw [fset_ne z1] at f1
          rw [fset_ne z2] at f2
          exact f'.dis j k2 s u c (other z1 g1 o1) (other z2 g2 o2) o1 o2 f1 f2
  · obtain ⟨y', sB, hF⟩ := back y
    have tF : ∀ a ∈ F, ∀ xs, B' a ≠ some (.tup xs) := fun a m xs z => by
      obtain ⟨o, ho, t⟩ := inF a m
      rw [(hF a m).2, ho] at z
      exact t xs (Option.some.inj z)
    exact em.rt _ _ v s y' (vo.unlend q.1 tF) q.2) fun _ h => h
theorem map_idd {α : Type} (l : List α) : (l.map fun p => p) = l := List.map_id _
theorem sx_lendL (i : Nat) {α : Type} [Py α] {x : List α} (hi : τ[i]? = some (.ow x))
    (h : ∀ vs : Nat → V, S1 p st (pinT vs 0 (τ.set i (.sh x))) ⟨fun τ' => ∃ fin, UnP vs 0 (τ.set i (.sh x)) τ' fin ∧ τ'[i]? = some (.sh (Pin.mk (vs i) x)) ∧ SX p rest (fin.set i (.ow x)) R, fun s => s.imm ∧ R.rt s, fun _ _ => False, fun _ _ => False⟩) : SX p (st :: rest) τ R :=
  sx_lendB (γ := List α) i hi h
theorem sx_lendDL (i : Nat) {α : Type} [Py α] {x : List (List α)} (hi : τ[i]? = some (.ow (DL.mk x)))
    (h : ∀ vs : Nat → V, S1 p st (pinT vs 0 (τ.set i (.sh x))) ⟨fun τ' => ∃ fin, UnP vs 0 (τ.set i (.sh x)) τ' fin ∧ τ'[i]? = some (.sh (Pin.mk (vs i) x)) ∧ SX p rest (fin.set i (.ow (DL.mk x))) R, fun s => s.imm ∧ R.rt s, fun _ _ => False, fun _ _ => False⟩) : SX p (st :: rest) τ R :=
  sx_lendB (γ := List (List α)) i hi (by
    have e : (Pub.rd (DL.mk x) : List (List α)) = x := map_idd x
    rw [e]; exact h)
theorem px_lendDL (i : Nat) {α : Type} [Py α] {x : List (List α)} {s : Sl} (hi : τ[i]? = some (.ow (DL.mk x))) (hs : s.imm) (h : PX p e (τ.set i (.sh x)) s) : PX p e τ s :=
  px_lendD (γ := List (List α)) i hi hs (by
    have e : (Pub.rd (DL.mk x) : List (List α)) = x := map_idd x
    rw [e]; exact h)
theorem pt_lendDL (i : Nat) {α : Type} [Py α] {x : List (List α)} {c : Bool} (hi : τ[i]? = some (.ow (DL.mk x))) (h : PTx p e (τ.set i (.sh x)) c) : PTx p e τ c :=
  pt_lendD (γ := List (List α)) i hi (by
    have e : (Pub.rd (DL.mk x) : List (List α)) = x := map_idd x
    rw [e]; exact h)
/-- loops as single statements -/
theorem s_forL {tg iter : Expr} {body : List Stmt} {w : List Nat} {α : Type} [Py α] {xs : List α} (I : Nat → List Sl → Prop) (hi : IX p tg iter τ (xs.map fun x => .sh x)) (h0 : I 0 τ)
    (hs : ∀ i x τi, xs[i]? = some x → I i τi → ∃ τ', GX p tg w (.sh x) τi τ' ∧ SX p body τ' ⟨I (i + 1), R.rt, R.rx, R.ex⟩)
    (hf : ∀ env x, foldedSetIterable iter env x = pure x) (hd : ∀ τn, I xs.length τn → R.nx τn) : S1 p (.For tg iter body [] pos) τ R :=
  s_for I hi h0 (fun i s τi h inv => by obtain ⟨x, e, rfl⟩ := items_at h; exact hs i x τi e inv) (by rw [List.length_map]; exact hd) hf
theorem s_forDL {κ α : Type} [Py κ] [DecidableEq κ] [PKey κ] [Py α] {d : Dct κ α} {tg iter : Expr} {body : List Stmt} {w : List Nat} {γ : Type} [Py γ] {xs : List γ} (I : Nat → List Sl → Prop) (hi : SV p e τ (.sh d)) (dw : DW p tg iter e d (xs.map fun x => .sh x)) (h0 : I 0 τ)
    (hs : ∀ i x τi, xs[i]? = some x → I i τi → ∃ τ', GX p tg w (.sh x) τi τ' ∧ SX p body τ' ⟨I (i + 1), R.rt, fun _ _ => False, fun _ _ => False⟩)
    (hf : ∀ env x, foldedSetIterable iter env x = pure x) (hd : ∀ τn, I xs.length τn → R.nx τn) : S1 p (.For tg iter body [] pos) τ R :=
  s_forD I hi dw h0 (fun i s τi h inv => by obtain ⟨x, e, rfl⟩ := items_at h; exact hs i x τi e inv) (by rw [List.length_map]; exact hd) hf
/-! ### making such lists -/
theorem px_dlnew {β : Type} [Od β] : PX p (.List [] pos) τ (.ow (DL.mk [] : DL β)) := fun B0 H0 B H σ ok Q q =>
  ⟨tLst tNil, fun X _ => pe_lst pa_nil, Nat.zero_le _, fun c nc => q B _ _ (Ext.made ok.bh nc) ⟨[c], c, rfl, fun a m => by rw [List.mem_singleton.mp m]; exact ⟨nc, ok.bh.free nc⟩, [], [], rfl, List.not_mem_nil, upd_same, .nil⟩⟩
/-- x.append(y), y an own thing that goes over -/
theorem s_dlappend (i j : Nat) (nij : i ≠ j) {β : Type} [Od β] {l : List β} {y0 : β} {x y : Str} {apos cpos : Pos} (hN : p.N[i]? = some x) (hv : Vis p.sc x) (hτ : τ[i]? = some (.ow (DL.mk l))) (hM : p.N[j]? = some y) (hw : Vis p.sc y) (hυ : τ[j]? = some (.ow y0)) (hl : l.length < sizeLine)
    (hd : (x == ("__debug__" : Str)) = false) (hc : (x == ("__classdict__" : Str)) = false) (hd2 : (y == ("__debug__" : Str)) = false) (hc2 : (y == ("__classdict__" : Str)) = false) (hbase : ∀ env, attributeBase (.Name x px) "append" env (eval (.Name x px) env) = eval (.Name x px) env)
    (hline : (apos.endLine == cpos.line) = true) (hs : ∀ env, starEach [.Name y py] env = [(false, eval (.Name y py) env)]) (hsw : ∀ env, swapsWith (.Call (.Attribute (.Name x px) "append" apos) [.Name y py] [] cpos) none pos.line env = pure false) :
    D1 p (.Expr (.Call (.Attribute (.Name x px) "append" apos) [.Name y py] [] cpos) pos) τ ((τ.set j .un).set i (.ow (DL.mk (l ++ [y0])))) := fun R hR B0 H0 B H σ ok D em => by
  refine ⟨tDrop (tBM p.K "list" rAppend (tVar i) (tCons (tVar j) tNil)), fun X hX => ?_, ?_⟩
  · have hX' := hX
    obtain ⟨k, rfl, _⟩ := hX'
    exact ps_expr (pe_bm PySem.F.plainAttrs_list PySem.F.slot_list_append PySem.F.type_list_append mt_append (pe_var hN hv hd hc) (pa_cons (pe_var hM hw hd2 hc2) pa_nil (hs _)) (hbase _) (by rw [hs]; rfl) hline (hs _) rfl) (hsw _)
  · obtain ⟨fp, f⟩ := ok.fps
    rcases f.at_ i _ hτ with z | ⟨v1, e1, q1, ev1, n1, vs, G, eF, nq, hq, ol⟩
    · cases z
    rcases f.at_ j _ hυ with z | ⟨v2, e2, q2, ev2, n2, own⟩
    · cases z
    subst ev1 ev2
    have f2 : Fps p.K H0 B H σ (τ.set j .un) fp := ⟨fun k s g => by
      by_cases z : j = k
      · subst z
        rw [List.getElem?_set_self (lt_of_get hυ)] at g
        cases g; exact .inl rfl
      · rw [List.getElem?_set_ne z] at g
        exact f.at_ k s g, fun k k2 s u c g1 g2 o1 o2 w1 w2 => by
      have go : ∀ {k : Nat} {s : Sl}, (τ.set j .un)[k]? = some s → s.own → τ[k]? = some s := fun {k s} g o => by
        by_cases z : j = k
        · subst z
          rw [List.getElem?_set_self (lt_of_get hυ)] at g
          cases g; exact o.elim
        · rw [List.getElem?_set_ne z] at g; exact g
      exact f.dis k k2 s u c (go g1 o1) (go g2 o2) o1 o2 w1 w2⟩
    have ok2 : Ok p.K B0 H0 B H σ (τ.set j .un) := ⟨ok.ext, by rw [List.length_set]; exact ok.len, fp, f2⟩
    have hτ2 : (τ.set j .un)[i]? = some (.ow (DL.mk l)) := by rw [List.getElem?_set_ne (Ne.symm nij)]; exact hτ
    have dis : ∀ a ∈ fp j, a ∉ fp i := fun a m mi => nij (f.dis i j _ _ a hτ hυ trivial trivial mi m)
    refine ⟨_, e1, .inl ⟨rfl, vs, .of hq⟩, _, e2, q1, vs, _, rfl, rfl, hq, by rw [ol.length]; exact hl, ?_⟩
    have keep : ∀ a, a ∈ G ∨ a ∈ fp j → upd H q1 (.lst (vs ++ [.ref q2])) a = H a := fun a m => by
      rw [upd_ne]
      intro z
      subst z
      rcases m with m | m
      · exact nq m
      · exact dis _ m (by rw [eF]; exact List.mem_cons_self)
    obtain ⟨G2, ol2, s2⟩ := (ol.mono (.refl B) fun a m => keep a (.inl m)).snoc (Od.dmono (.refl B) (fun a m => keep a (.inr m)) own) (fun a m mg => dis a m (by rw [eF]; exact List.mem_cons_of_mem _ mg))
    refine em.nx B _ σ _ (ok2.mutG f2 hτ2 e1 (y := DL.mk (l ++ [y0])) (G := q1 :: G2) (fun a na _ => ?_) (fun a ma => ?_) ⟨_, G2, rfl, fun m => ?_, upd_same, ol2⟩) hR
    · rw [upd_ne (fun z => na (by rw [z, eF]; exact List.mem_cons_self))]
    · rcases List.mem_cons.mp ma with z | ma
      · exact .inl (by rw [z, eF]; exact List.mem_cons_self)
      · rcases (s2 a).mp ma with w | w
        · exact .inl (by rw [eF]; exact List.mem_cons_of_mem _ w)
        · refine .inr ⟨(n2 a w).1, (n2 a w).2, fun k s g o mk => ?_⟩
          by_cases z : j = k
          · subst z
            rw [List.getElem?_set_self (lt_of_get hυ)] at g
            cases g; exact o
          · rw [List.getElem?_set_ne z] at g
            exact z (f.dis j k _ s a hυ g trivial o w mk)
    · rcases (s2 _).mp m with w | w
      · exact nq w
      · exact dis _ w (by rw [eF]; exact List.mem_cons_self)
theorem sx_dlappend (G : Gd p m) (i j : Nat) (nij : i ≠ j) {β : Type} [Od β] {l : List β} {y0 : β} {x y : Str} {apos cpos : Pos} (hN : p.N[i]? = some x) (hi : i < m) (hτ : τ[i]? = some (.ow (DL.mk l))) (hM : p.N[j]? = some y) (hj : j < m) (hυ : τ[j]? = some (.ow y0)) (hl : l.length < sizeLine)
    (hbase : ∀ env, attributeBase (.Name x px) "append" env (eval (.Name x px) env) = eval (.Name x px) env)
    (hline : (apos.endLine == cpos.line) = true) (hs : ∀ env, starEach [.Name y py] env = [(false, eval (.Name y py) env)]) (hsw : ∀ env, swapsWith (.Call (.Attribute (.Name x px) "append" apos) [.Name y py] [] cpos) none pos.line env = pure false)
    (k : SX p rest ((τ.set j .un).set i (.ow (DL.mk (l ++ [y0])))) R) : SX p (.Expr (.Call (.Attribute (.Name x px) "append" apos) [.Name y py] [] cpos) pos :: rest) τ R :=
  sx_step (s_dlappend i j nij hN (G.vs hN hi) hτ hM (G.vs hM hj) hυ hl (G.ok x (List.mem_of_getElem? hN)).1 (G.ok x (List.mem_of_getElem? hN)).2 (G.ok y (List.mem_of_getElem? hM)).1 (G.ok y (List.mem_of_getElem? hM)).2 hbase hline hs hsw) k
end
end Ly

namespace Ly
open PySem PySem.Spec PyProof.Rows L2
open Py
section
variable {p : Par} {m : Nat} {τ τ1 : List Sl} {R : Post} {st : Stmt} {sts rest : List Stmt} {e a b o : Expr} {es : List Expr} {pos pos' px py : Pos}
theorem s_wk {τ' : List Sl} (w : Wk τ' τ) (h : S1 p st τ' R) : S1 p st τ R := fun B0 H0 B H σ ok D em => h B0 H0 B H σ (ok.weak w.len w.at) D em
theorem px_lendR (i : Nat) {β : Type} [Ob β] {x : β} {s : Sl} (hi : τ[i]? = some (.ow x)) (h : PX p e (τ.set i (.sh x)) s) (hs : s.imm) : PX p e τ s := px_lend i hi hs h
theorem px_lendRDL (i : Nat) {α : Type} [Py α] {x : List (List α)} {s : Sl} (hi : τ[i]? = some (.ow (DL.mk x))) (h : PX p e (τ.set i (.sh x)) s) (hs : s.imm) : PX p e τ s := px_lendDL i hi hs h
/-- a new thing may be read from now on -/
theorem px_pubD {β γ : Type} [Od β] [Py γ] [Pub β γ] {x : β} (h : PX p e τ (.ow x)) : PX p e τ (.sh (Pub.rd x : γ)) := fun B0 H0 B H σ ok Q q => by
  refine h B0 H0 B H σ ok Q fun B1 H1 v x1 r0 => ?_
  obtain ⟨F, a, e1, n, r⟩ := r0
  subst e1
  have nB : ∀ a ∈ F, B1 a = none := fun a m => (n a m).2
  have sb := over_same (H := H1) nB
  refine q (over B1 H1 F) H1 _ ⟨fun c u g => ?_, x1.hh, x1.bb.trans sb, fun c o g k t => ?_⟩ (Pub.pub nB r)
  · by_cases z : c ∈ F
    · rw [over_in z] at g; exact g
    · rw [over_out z] at g; exact x1.bh c u g
  · rw [over_out (fun z => by rw [(n c z).1] at k; cases k)]; exact x1.nw c o g k t
theorem px_pubDL {α : Type} [Py α] {x : List (List α)} (h : PX p e τ (.ow (DL.mk x))) : PX p e τ (.sh x) :=
  (px_pubD (γ := List (List α)) h).to (congrArg Sl.sh (map_idd x))
/-! ### [e for x in ..], e new each time -/
section
variable {α β : Type} [Py α] [Od β] {xs : List α} {f : α → β} {elt tg iter : Expr} {scope : Scope} {own : List (Str × Nat)} {w : List Nat}
theorem lcO_run {B0 H0 B H : Hp} {σ : L2.St} (hi : IXat p tg iter B H σ (xs.map fun x => .sh x)) (hn : xs.length ≤ sizeLine) (hw : ∀ j ∈ w, j ∈ own.map (·.2))
    (turn : ∀ x, x ∈ xs → ∃ τ', GX (p.blk scope) tg w (.sh x) (wipeT τ (own.map (·.2))) τ' ∧ PX (p.blk scope) elt τ' (.ow (f x)))
    (ok : Ok p.K B0 H0 B H σ τ) {Q : VK} (q : ∀ B' H' v, Ext B H B' H' → Vok p.K B' H' H v (.ow (DL.mk (xs.map f))) → Q v H') :
    tLc (EI p tg iter) (EG (p.blk scope) tg) (ETs (p.blk scope) []) (EE (p.blk scope) elt) (own.map (·.2)) σ H Q := by
  refine hi _ fun B1 H1 J x1 tj D hD => ?_
  have ok1 := ok.go x1
  have nB1 : B1 D = none := x1.bh.free hD
  refine ⟨fun i m H' => m = xs.length - i ∧ i ≤ xs.length ∧ ∃ B' acc G, Ext B1 H1 B' H' ∧ H' D = some (.lst acc) ∧ B' D = none ∧ OwnS p.K B' H' acc ((xs.take i).map f) G ∧ (∀ a ∈ G, H1 a = none ∧ B' a = none ∧ a ≠ D), ⟨_, rfl, Nat.zero_le _, B1, [], [], Ext.made x1.bh hD, upd_same, nB1, .nil, fun a m => by cases m⟩, ?_⟩
  rintro i m H2 ⟨rfl, hin, B2, acc, G, x2, hD2, nB2, r2, nG⟩
  obtain ⟨tg1, tstop⟩ := tj B2 H2 x2.bb x2.bh
  rw [List.length_map] at tstop
  by_cases hlt : i < xs.length
  · obtain ⟨x, hx⟩ : ∃ x, xs[i]? = some x := ⟨xs[i], List.getElem?_eq_getElem hlt⟩
    obtain ⟨go, yl⟩ := tg1 i (.sh x) (by rw [List.getElem?_map, hx]; rfl)
    obtain ⟨τ', gx, ex⟩ := turn x (List.mem_of_getElem? hx)
    refine .inr ⟨go, fun H' => ∃ B' acc G, Ext B1 H1 B' H' ∧ H' D = some (.lst acc) ∧ B' D = none ∧ OwnS p.K B' H' acc ((xs.take (i + 1)).map f) G ∧ (∀ a ∈ G, H1 a = none ∧ B' a = none ∧ a ≠ D), fun H' n => ⟨_, by omega, rfl, hlt, n⟩, fun y H' hy => ?_⟩
    obtain ⟨B3, x3, r3⟩ := yl y H' hy
    have ok3 : Ok p.K B0 H0 B3 H' (L2.wipe σ (own.map (·.2))) (wipeT τ (own.map (·.2))) := (((ok1.go x2).go x3)).wipes _
    refine gx B0 H0 B3 H' _ y ok3 r3 _ fun σ4 ok4 u4 => ⟨wipe_upto u4 hw, ?_⟩
    refine Ly.pts_nil B0 H0 B3 H' σ4 ok4 _ fun B5 H5 x5 => iteT (ex B0 H0 B5 H5 σ4 (ok4.go x5) _ fun B6 H6 v x6 r6 => ?_)
    have xx := (x3.trans x5).trans x6
    have hD6 := xx.hh _ _ hD2
    have nB6 := xx.nw D _ nB2 hD2 (fun _ z => by cases z)
    obtain ⟨F, c, ev, nF, rF⟩ := r6
    subst ev
    have x35 := x3.trans x5
    have hlen : acc.length ≤ i := by
      rw [r2.length, List.length_map, List.length_take]; exact Nat.min_le_left _ _
    have r2' := r2.mono (.of xx.bb) (xx.keep r2.lay)
    have inH : ∀ a ∈ G, H5 a ≠ none := fun a m => by
      obtain ⟨o, h, _⟩ := r2.lay a m
      rw [x35.hh _ _ h]; exact Option.some_ne_none o
    obtain ⟨G2, ol2, s2⟩ := r2'.snoc rF (fun a m mg => inH a mg (nF a m).1)
    have hD5 : H5 D ≠ none := by rw [x35.hh _ _ hD2]; exact Option.some_ne_none _
    have nG6 : ∀ a ∈ G2, H1 a = none ∧ B6 a = none ∧ a ≠ D := fun a m => by
      rcases (s2 a).mp m with w | w
      · obtain ⟨h1, h2, h3⟩ := nG a w
        obtain ⟨o, h, t⟩ := r2.lay a w
        exact ⟨h1, xx.nw a o h2 h t, h3⟩
      · exact ⟨(x2.trans x35).hh.free (nF a w).1, (nF a w).2, fun z => hD5 (z ▸ (nF a w).1)⟩
    refine ⟨acc, hD6, by omega, B6, acc ++ [.ref c], G2, ?_, upd_same, nB6, ?_, nG6⟩
    · have x12 := x2.trans xx
      refine ⟨fun c u h => ?_, fun c u h => ?_, x12.bb, fun c o h n t => x12.nw c o h n t⟩
      · rw [upd_ne (fun z => by rw [z, nB6] at h; cases h)]; exact x12.bh c u h
      · rw [upd_ne (fun z => by rw [z, hD] at h; cases h)]; exact x12.hh c u h
    · rw [List.take_add_one, hx, List.map_append]
      exact ol2.mono (.refl _) fun a m => by rw [upd_ne (nG6 a m).2.2]
  · have e : i = xs.length := by omega
    subst e
    rw [List.take_length] at r2
    refine .inl ⟨tstop, q B2 H2 _ (x1.trans x2) ⟨D :: G, D, rfl, fun a m => ?_, acc, G, rfl, fun m => (nG D m).2.2 rfl, hD2, r2⟩⟩
    rcases List.mem_cons.mp m with z | m
    · rw [z]; exact ⟨x1.hh.free hD, nB2⟩
    · exact ⟨x1.hh.free (nG a m).1, (nG a m).2.1⟩
variable (G : Gd p m) (i : Nat) {y : Str} {spos : Pos} (hN : p.N[i]? = some y) (hy : p.sc.names.lookup y = some .local) (hk : p.sc.kind = .function) (hl : (py.line == pos.line) = true) (ha : (scope.names.any fun (n, k) => n == y && (k == .local || k == .cell)) = false)
include G hN hy hk hl ha
theorem s_lcMO (bk : BlkOk p.N p.sc scope own) (hi : IX p tg iter τ (xs.map fun x => .sh x)) (hn : xs.length ≤ sizeLine) (hw : ∀ j ∈ w, j ∈ own.map (·.2))
    (turn : ∀ x, x ∈ xs → ∃ τ', GX (p.blk scope) tg w (.sh x) (wipeT τ (own.map (·.2))) τ' ∧ PX (p.blk scope) elt τ' (.ow (f x)))
    (hf : ∀ env x, foldedSetIterable iter env x = pure x) : D1 p (.Assign [.Name y py] (.ListComp elt [⟨tg, iter, [], 0⟩] scope pos) spos) τ (τ.set i (.ow (DL.mk (xs.map f)))) := fun R hR B0 H0 B H σ ok D em => by
  have lr := lcO_run (own := own) (fun R q => hi B0 H0 B H σ ok R q) hn hw turn ok (Q := fun v H1 => gName i v σ H1 D.nx) fun B1 H1 v x1 r1 => em.nx B1 H1 _ _ (ok.putN x1 r1) hR
  refine ⟨tAsg (tLc (EI p tg iter) (EG (p.blk scope) tg) (ETs (p.blk scope) []) (EE (p.blk scope) elt) (own.map fun (x : Str × Nat) => x.2)) (gName i), fun X hX => ?_, lr⟩
  have hX' := hX
  obtain ⟨k, rfl, calm, _⟩ := hX'
  exact ps_setLc calm G.nd hN hy (sw_true hk hy hl ha) (ei hX) bk (fun s H C cl fp => eg (blk_in hX scope s H C cl fp)) (fun s H C cl fp => ets (blk_in hX scope s H C cl fp)) (fun s H C cl fp => ee (blk_in hX scope s H C cl fp)) (hf _)
end
/-! ### for x in xs: x.clear() -/
theorem OwnS.at {K : PySem.W.Frag} {B H : Hp} {β : Type} [Od β] : ∀ {vs : List V} {l : List β} {G : List Addr}, OwnS K B H vs l G → ∀ (i : Nat) (b : β), l[i]? = some b →
    ∃ q F, vs[i]? = some (.ref q) ∧ Od.own K B H q b F ∧ (∀ a ∈ F, a ∈ G) ∧ ∀ (H1 : Hp) (b' : β), (∀ a, a ∉ F → H a ≠ none → H1 a = H a) → Od.own K B H1 q b' F → OwnS K B H1 vs (l.set i b') G
  | _, _, _, .nil, i, b, e => by simp at e
  | _, _, _, @OwnS.cons _ _ _ _ _ q0 b0 F0 G vs l r d t, 0, b, e => by
    simp at e
    subst e
    refine ⟨q0, F0, rfl, r, fun a m => List.mem_append_left _ m, fun H1 b' out r' => ?_⟩
    rw [List.set_cons_zero]
    exact .cons r' d (t.mono (.refl B) fun a m => out a (fun mf => d a mf m) (by obtain ⟨o, h, _⟩ := t.lay a m; rw [h]; exact Option.some_ne_none o))
  | _, _, _, @OwnS.cons _ _ _ _ _ q0 b0 F0 G vs l r d t, i + 1, b, e => by
    obtain ⟨q, F, h1, h2, h3, h4⟩ := t.at i b (by simpa using e)
    refine ⟨q, F, by simpa using h1, h2, fun a m => List.mem_append_right _ (h3 a m), fun H1 b' out r' => ?_⟩
    rw [List.set_cons_succ]
    exact .cons (Od.dmono (.refl B) (fun a m => out a (fun mf => d a m (h3 a mf)) (by obtain ⟨o, h, _⟩ := Od.lay r a m; rw [h]; exact Option.some_ne_none o)) r) d (h4 H1 b' out r')
theorem clr_take {α : Type} (l : List (List α)) (i : Nat) (x : List α) (h : l[i]? = some x) : ((l.take i).map (fun _ => ([] : List α)) ++ l.drop i).set i [] = (l.take (i + 1)).map (fun _ => []) ++ l.drop (i + 1) := by
  have hi := lt_of_get h
  have e1 : l.drop i = x :: l.drop (i + 1) := by
    rw [List.drop_eq_getElem_cons hi]
    congr 1
    rw [List.getElem?_eq_getElem hi] at h
    exact Option.some.inj h
  rw [e1, List.set_append_right _ _ (by rw [List.length_map, List.length_take]; omega), List.length_map, List.length_take, Nat.min_eq_left (by omega), Nat.sub_self, List.set_cons_zero, List.take_add_one, h, List.map_append]
  simp
theorem clr_at {α : Type} (l : List (List α)) (i : Nat) (x : List α) (h : l[i]? = some x) : ((l.take i).map (fun _ => ([] : List α)) ++ l.drop i)[i]? = some x := by
  have hi := lt_of_get h
  rw [List.getElem?_append_right (by rw [List.length_map, List.length_take]; omega), List.length_map, List.length_take, Nat.min_eq_left (by omega), Nat.sub_self, List.getElem?_drop, Nat.add_zero, h]
theorem s_clrAll (i j : Nat) (nij : i ≠ j) {α : Type} [Py α] {l : List (List α)} {x y : Str} {apos cpos spos : Pos} (nd : p.N.Nodup) (hN : p.N[i]? = some x) (hv : Vis p.sc x) (hτ : τ[i]? = some (.ow (DL.mk l))) (hM : p.N[j]? = some y) (hj : j < τ.length) (hly : Loc p.sc y) (hf : p.fn y = true ∨ p.sc.names.lookup y = some .local)
    (hd : (x == ("__debug__" : Str)) = false) (hc : (x == ("__classdict__" : Str)) = false) (hd2 : (y == ("__debug__" : Str)) = false) (hc2 : (y == ("__classdict__" : Str)) = false) (hbase : ∀ env, attributeBase (.Name y py) "clear" env (eval (.Name y py) env) = eval (.Name y py) env)
    (hline : (apos.endLine == cpos.line) = true) (hsw : ∀ env, swapsWith (.Call (.Attribute (.Name y py) "clear" apos) [] [] cpos) none spos.line env = pure false) (hfs : ∀ env x', foldedSetIterable (.Name x px) env x' = pure x') :
    D1 p (.For (.Name y pos') (.Name x px) [.Expr (.Call (.Attribute (.Name y py) "clear" apos) [] [] cpos) spos] [] pos) τ ((τ.set j .un).set i (.ow (DL.mk (l.map fun _ => ([] : List α))))) := fun R hR B0 H0 B H σ ok D em => by
  have hvy : Vis p.sc y := hly.elim .inl fun h => .inr (.inl h)
  refine ⟨tFor (iList p.K (tVar i)) (gName j) (tDrop (tBM0 p.K "list" rClear (tVar j))), fun X hX => ?_, ?_⟩
  · have hX' := hX
    obtain ⟨k, rfl, calm, _, po⟩ := hX'
    exact ps_for po.1 calm (pi_list (pe_var hN hv hd hc)) (pg_name nd hM hly hf) (pss_one (ps_expr (pe_bm0 PySem.F.plainAttrs_list PySem.F.slot_list_clear PySem.F.type_list_clear mt_clear (pe_var hM hvy hd2 hc2) (hbase _) hline) (hsw _))) (hfs _)
  · have hτl := lt_of_get hτ
    have ok0 : Ok p.K B0 H0 B H σ (τ.set j .un) := ok.weak (List.length_set) fun k s g => by
      by_cases z : j = k
      · subst z
        rw [List.getElem?_set_self hj] at g
        cases g; exact .inl rfl
      · rw [List.getElem?_set_ne z] at g; exact .inr g
    have hτ0 : (τ.set j .un)[i]? = some (.ow (DL.mk l)) := by rw [List.getElem?_set_ne (Ne.symm nij)]; exact hτ
    obtain ⟨fp0, f0⟩ := ok0.fps
    rcases f0.at_ i _ hτ0 with z | ⟨v0, e0, q0, ev0, n0, vs0, G0, eF0, nq0, hq0, ol0⟩
    · cases z
    subst ev0
    refine ⟨_, e0, q0, rfl, ⟨vs0, .of hq0⟩, ?_⟩
    let τk : Nat → List Sl := fun k => (τ.set j .un).set i (.ow (OwA.mk q0 (DL.mk ((l.take k).map (fun _ => ([] : List α)) ++ l.drop k))))
    obtain ⟨q', eq', okp⟩ := ok0.pinned hτ0
    rw [e0] at eq'
    cases eq'
    have okp0 : Ok p.K B0 H0 B H σ (τk 0) := okp
    have hτk : ∀ k, (τk k)[i]? = some (.ow (OwA.mk q0 (DL.mk ((l.take k).map (fun _ => ([] : List α)) ++ l.drop k)))) := fun k => List.getElem?_set_self (by rw [List.length_set]; exact hτl)
    refine ⟨fun k m σ' H' => m = l.length - k ∧ k ≤ l.length ∧ Ok p.K B0 H0 B H' σ' (τk k) ∧ ∃ w, H' q0 = some (.lst w) ∧ w.length = l.length, ⟨_, rfl, Nat.zero_le _, okp0, vs0, hq0, ol0.length⟩, ?_⟩
    rintro k m σ2 H2 ⟨rfl, hk, ok2, w2, hw2, hwl⟩
    by_cases hlt : k < l.length
    · obtain ⟨b, hb⟩ : ∃ b, l[k]? = some b := ⟨l[k], List.getElem?_eq_getElem hlt⟩
      obtain ⟨fp, f⟩ := ok2.fps
      rcases f.at_ i _ (hτk k) with z | ⟨v, e, q, ev, n, eqa, vs, G, eF, nq, hq, ol⟩
      · cases z
      subst ev
      have eqa : q = q0 := eqa
      subst eqa
      obtain ⟨c, F, hvc, ownc, sF, up⟩ := ol.at k b (clr_at l k b hb)
      refine .inr ⟨⟨vs, .ref c, .of hq, hvc⟩, fun σ' H' => Ok p.K B0 H0 B H' σ' (τk (k + 1)) ∧ ∃ w, H' q = some (.lst w) ∧ w.length = l.length, fun σ' H' hh => ⟨_, by omega, rfl, hlt, hh⟩, fun z H' hz => ?_⟩
      obtain ⟨rfl, hz⟩ := hz
      have ez : z = .ref c := Option.some.inj ((hz vs (.of hq)).symm.trans hvc)
      subst ez
      obtain ⟨eFc, oc, hoc, us, eo, rus⟩ := ownc
      subst eo
      have ok3 : Ok p.K B0 H0 B H' (σ2.set j (some (.ref c))) (τk k) := by
        refine ⟨ok2.ext, by rw [List.length_set]; exact ok2.len, fp, fun k' s g => ?_, f.dis⟩
        by_cases z : j = k'
        · subst z
          have : (τk k)[j]? = some .un := by
            show ((τ.set j .un).set i _)[j]? = _
            rw [List.getElem?_set_ne nij, List.getElem?_set_self hj]
          rw [this] at g
          cases g
          exact .inl rfl
        · rw [List.getElem?_set_ne z]
          exact f.at_ k' s g
      show tDrop (tBM0 p.K "list" rClear (tVar j)) _ (σ2.set j (some (.ref c))) H'
      have hjσ : j < σ2.length := by rw [ok2.len]; show j < ((τ.set j .un).set i _).length; rw [List.length_set, List.length_set]; exact hj
      refine ⟨.ref c, List.getElem?_set_self hjσ, .inl ⟨rfl, us, .of hoc⟩, c, us, rfl, rfl, hoc, ?_⟩
      have ne : c ≠ q := fun z => nq (by rw [← z]; exact sF c (by rw [eFc]; exact List.mem_singleton_self _))
      have ei : (σ2.set j (some (.ref c)))[i]? = some (some (.ref q)) := by rw [List.getElem?_set_ne (Ne.symm nij)]; exact e
      have hcc : c ∈ fp i := by rw [eF]; exact List.mem_cons_of_mem _ (sF c (by rw [eFc]; exact List.mem_singleton_self _))
      obtain ⟨fp3, f3⟩ := ok3.fps
      have f3 : Fps p.K H0 B H' (σ2.set j (some (.ref c))) (τk k) fp := ⟨fun k' s g => by
        by_cases z : j = k'
        · subst z
          have : (τk k)[j]? = some .un := by
            show ((τ.set j .un).set i _)[j]? = _
            rw [List.getElem?_set_ne nij, List.getElem?_set_self hj]
          rw [this] at g
          cases g
          exact .inl rfl
        · rw [List.getElem?_set_ne z]
          exact f.at_ k' s g, f.dis⟩
      have res := ok3.mutF (H1 := upd H' c (.lst [])) f3 (hτk k) ei (y := OwA.mk q (DL.mk ((l.take (k + 1)).map (fun _ => ([] : List α)) ++ l.drop (k + 1)))) (G := fp i) (fun a na _ => upd_ne fun z => na (by rw [z]; exact hcc)) (fun a ma => .inl ma)
        ⟨rfl, vs, G, eF, nq, by rw [upd_ne (Ne.symm ne)]; exact hq, by
          have := up (upd H' c (.lst [])) [] (fun a na _ => upd_ne fun z => na (by rw [eFc, z]; exact List.mem_singleton_self _)) ⟨eFc, _, upd_same, [], rfl, .nil⟩
          rw [clr_take l k b hb] at this
          exact this⟩
      have e4 : (τk k).set i (.ow (OwA.mk q (DL.mk ((l.take (k + 1)).map (fun _ => ([] : List α)) ++ l.drop (k + 1))))) = τk (k + 1) := by
        show ((τ.set j .un).set i _).set i _ = _
        rw [List.set_set]
      rw [e4] at res
      exact ⟨res, vs, by rw [upd_ne (Ne.symm ne)]; exact hq, by rw [ol.length, List.length_append, List.length_map, List.length_take, List.length_drop]; omega⟩
    · have e : k = l.length := by omega
      subst e
      refine .inl ⟨⟨w2, .of hw2, by rw [hwl]; exact Nat.le_refl _⟩, ?_⟩
      have okf := ok2.unpin (hτk _)
      have e5 : (τk l.length).set i (.ow (DL.mk ((l.take l.length).map (fun _ => ([] : List α)) ++ l.drop l.length))) = (τ.set j .un).set i (.ow (DL.mk (l.map fun _ => ([] : List α)))) := by
        show ((τ.set j .un).set i _).set i _ = _
        rw [List.set_set, List.take_length, List.drop_length, List.append_nil]
      rw [e5] at okf
      exact em.nx B H2 σ2 _ okf hR
theorem sx_clrAll (G : Gd p m) (i j : Nat) (nij : i ≠ j) {α : Type} [Py α] {l : List (List α)} {x y : Str} {apos cpos spos : Pos} (hN : p.N[i]? = some x) (hi : i < m) (hτ : τ[i]? = some (.ow (DL.mk l))) (hM : p.N[j]? = some y) (hj : j < m) (hjl : j < τ.length)
    (hbase : ∀ env, attributeBase (.Name y py) "clear" env (eval (.Name y py) env) = eval (.Name y py) env)
    (hline : (apos.endLine == cpos.line) = true) (hsw : ∀ env, swapsWith (.Call (.Attribute (.Name y py) "clear" apos) [] [] cpos) none spos.line env = pure false) (hfs : ∀ env x', foldedSetIterable (.Name x px) env x' = pure x')
    (k : SX p rest ((τ.set j .un).set i (.ow (DL.mk (l.map fun _ => ([] : List α))))) R) :
    SX p (.For (.Name y pos') (.Name x px) [.Expr (.Call (.Attribute (.Name y py) "clear" apos) [] [] cpos) spos] [] pos :: rest) τ R :=
  sx_step (s_clrAll i j nij G.nd hN (G.vs hN hi) hτ hM hjl (G.lc hM hj) (.inl (G.fn y)) (G.ok x (List.mem_of_getElem? hN)).1 (G.ok x (List.mem_of_getElem? hN)).2 (G.ok y (List.mem_of_getElem? hM)).1 (G.ok y (List.mem_of_getElem? hM)).2 hbase hline hsw hfs) k
end
end Ly

namespace Ly
open PySem PySem.Spec PyProof.Rows L2
open Py
section
variable {p : Par} {τ τ1 : List Sl} {e a b o : Expr} {pos pos2 : Pos}
/-! ### {k: v, ..} -/
variable {κ α : Type} [Py κ] [DecidableEq κ] [KeyF κ] [Py α]
def PPx (p : Par) (keys : List (Option Expr)) (vals : List Expr) (τ : List Sl) (kys : List (κ × α)) : Prop := ∃ trs, (∀ X, p.In X → ∀ ps, PPs X ps keys vals trs) ∧ ∀ B0 H0 B H σ, Ok p.K B0 H0 B H σ τ → ∀ Q, (∀ B' H' ps, Ext B H B' H' → All2 (fun z (y : κ × α) => rep p.K B' z.1 y.1 ∧ rep p.K B' z.2 y.2) ps kys → Q ps H') → tPairs trs σ H Q
theorem ppx_nil : PPx p [] [] τ ([] : List (κ × α)) := ⟨[], fun _ _ _ => pps_nil, fun B0 H0 B H σ ok Q q => q B H [] (.refl ok.bh) .nil⟩
theorem ppx_cons {k : κ} {y : α} {kys : List (κ × α)} {keys : List (Option Expr)} {vals : List Expr} (ha : PX p a τ (.sh k)) (hb : PX p b τ (.sh y)) (h : PPx p keys vals τ kys) : PPx p (some a :: keys) (b :: vals) τ ((k, y) :: kys) := by
  obtain ⟨trs, h1, h2⟩ := h
  refine ⟨(EE p a, EE p b) :: trs, fun X hX ps => pps_cons (ee hX) (ee hX) (h1 X hX ps), fun B0 H0 B H σ ok Q q => ?_⟩
  refine ha B0 H0 B H σ ok _ fun B1 H1 v x1 r1 => hb B0 H0 B1 H1 σ (ok.go x1) _ fun B2 H2 u x2 r2 => h2 B0 H0 B2 H2 σ ((ok.go x1).go x2) _ fun B3 H3 ps x3 r3 => ?_
  exact q B3 H3 _ ((x1.trans x2).trans x3) (.cons ⟨Py.mono (.of (x2.trans x3).bb) (show rep p.K B1 v k from r1), Py.mono (.of x3.bb) (show rep p.K B2 u y from r2)⟩ r3)
theorem disp_run {K : PySem.W.Frag} {B : Hp} : ∀ {ps : List (V × V)} {kys : List (κ × α)} {acc : List (κ × V)} {l : List (κ × α)}, All2 (fun z (y : κ × α) => rep K B z.1 y.1 ∧ rep K B z.2 y.2) ps kys → All2 (Dr K B) acc l →
    ∃ kvs : List (Key × V), ps = kvs.map (fun kv => (kV kv.1, kv.2)) ∧ ∃ acc' : List (κ × V), mergeK (acc.map fun q => (KeyF.kf q.1, q.2)) kvs = acc'.map (fun q => (KeyF.kf q.1, q.2)) ∧ All2 (Dr K B) acc' (kys.foldl (fun d q => aput d q.1 q.2) l)
  | _, _, acc, l, .nil, r => ⟨[], rfl, acc, rfl, r⟩
  | (v, u) :: ps, (k, y) :: kys, acc, l, .cons h t, r => by
    obtain ⟨e, ok⟩ := KeyF.to h.1
    obtain ⟨kvs, e1, acc', e2, r2⟩ := disp_run (acc := putK acc k u) (l := aput l k y) t (dr_put r ok h.2)
    refine ⟨(KeyF.kf k, u) :: kvs, by rw [List.map_cons, ← e1]; exact congrArg (· :: ps) (Prod.ext e rfl), acc', ?_, r2⟩
    rw [← e2]
    show mergeK (putK (acc.map fun q => (KeyF.kf q.1, q.2)) (KeyF.kf k) u) kvs = _
    rw [putK_inj KeyF.inj]
theorem px_disp {kys : List (κ × α)} {keys : List (Option Expr)} {vals : List Expr} (h : PPx p keys vals τ kys) (hall : keys.all (·.isSome) = true) (hl : keys.length = vals.length) (h0 : keys ≠ []) (h15 : kys.length ≤ 15 ∧ keys.length ≤ 15) :
    PX p (.Dict keys vals pos) τ (.ow (Dct.mk (kys.foldl (fun d q => aput d q.1 q.2) []))) := fun B0 H0 B H σ ok Q q => by
  obtain ⟨trs, h1, h2⟩ := h
  refine ⟨tDisp trs, fun X hX => pe_disp (h1 X hX pos) hall hl h0 h15.2, fun d nd => ?_⟩
  have x0 : Ext B H B (upd H d (.dK [])) := Ext.made ok.bh nd
  refine h2 B0 H0 B _ σ (ok.go x0) _ fun B1 H1 ps x1 r1 => ?_
  have hd : H1 d = some (.dK []) := x1.hh _ _ upd_same
  have nb : B1 d = none := x1.nw d _ (ok.bh.free nd) upd_same fun xs z => by cases z
  obtain ⟨kvs, e1, acc', e2, r2⟩ := disp_run (acc := []) (l := []) r1 .nil
  refine ⟨hd, kvs, e1, ?_, ?_⟩
  · have := r1.length
    rw [e1, List.length_map] at this
    omega
  · have x01 := x0.trans x1
    refine q B1 _ _ ⟨fun c u g => ?_, fun c u g => ?_, x01.bb, fun c o g n t => x01.nw c o g n t⟩ (vow ⟨d, _, rfl, nd, nb, upd_same, acc', ?_, r2⟩)
    · rw [upd_ne (fun z => by rw [z, nb] at g; cases g)]; exact x01.bh c u g
    · rw [upd_ne (fun z => by rw [z, nd] at g; cases g)]; exact x01.hh c u g
    · show HO.dK (mergeK [] kvs) = _
      exact congrArg HO.dK e2
end
end Ly

namespace Ly
open PySem PySem.Spec PyProof.Rows L2
open Py
section
variable {p : Par} {m : Nat} {τ τ1 : List Sl} {R : Post} {st : Stmt} {sts rest : List Stmt} {e a b o : Expr} {es : List Expr} {pos pos' px py : Pos}
/-! ### x = [..], x a name that a comprehension reads -/
theorem sw_cell {elt : Expr} {gs : List Comprehension} {scope : Scope} {py : Pos} {y : Str} {l : Nat} {env : Env} (hy : env.scope.names.lookup y = some .cell) : swapsWith (.ListComp elt gs scope pos) (some (.Name y py)) l env = pure false := by
  have ky : env.kindOf y = some .cell := hy
  unfold swapsWith
  simp only [ky]
  rw [show (some NameKind.cell == some NameKind.local) = false from rfl]
  simp only [Bool.and_false, Bool.false_and]
theorem sx_setC (G : Gd p m) (i : Nat) {β : Type} [Od β] {v : β} {x : Str} {elt : Expr} {gs : List Comprehension} {scope : Scope} {pos2 : Pos} (hN : p.N[i]? = some x) (hi : i < m) (hy : p.sc.names.lookup x = some .cell) (h : PX p (.ListComp elt gs scope pos) τ (.ow v))
    (k : ∀ y, y = v → SX p rest (τ.set i (.ow y)) R) : SX p (.Assign [.Name x pos'] (.ListComp elt gs scope pos) pos2 :: rest) τ R :=
  sx_step (fun R hR B0 H0 B H σ ok D em => by
    refine ⟨tAsg (EE p (.ListComp elt gs scope pos)) (gName i), fun X hX => ?_, h B0 H0 B H σ ok _ fun B1 H1 v x1 r1 => em.nx B1 H1 _ _ (ok.putN x1 r1) hR⟩
    have hX' := hX
    obtain ⟨k, rfl, _⟩ := hX'
    exact ps_set G.nd hN (G.lc hN hi) (ee hX) (sw_cell hy) (.inl (G.fn x))) (k v rfl)
end
end Ly

namespace Ly
open PySem PySem.Spec PyProof.Rows L2
open Py
section
variable {p : Par} {m : Nat} {τ τ1 : List Sl} {R : Post} {rest : List Stmt} {e : Expr} {pos : Pos}
/-- t = x.pop(i), x a name's own list -/
theorem s_popU (i : Nat) {α : Type} [Py α] {xs : List α} {j : Int} {y : α} {x : Str} {px apos cpos : Pos} {tg : Expr} {w : List Nat} (hN : p.N[i]? = some x) (hv : Vis p.sc x) (hτ : τ[i]? = some (.ow xs)) (he : PX p e τ (.sh j)) (h0 : 0 ≤ j) (hj : j < ((xs.length : Nat) : Int)) (hl : xs.length ≤ sizeLine) (hy : xs[j.toNat]? = some y)
    (hg : GX p tg w (.sh y) (τ.set i (.ow (xs.eraseIdx j.toNat))) τ1)
    (hd : (x == ("__debug__" : Str)) = false) (hc : (x == ("__classdict__" : Str)) = false) (hbase : ∀ env, attributeBase (.Name x px) "pop" env (eval (.Name x px) env) = eval (.Name x px) env) (hline : (apos.endLine == cpos.line) = true) (hs : ∀ env, starEach [e] env = [(false, eval e env)])
    (hsw : ∀ env, swapsWithSole [tg] (.Call (.Attribute (.Name x px) "pop" apos) [e] [] cpos) pos.line env = pure false) (hw : ∀ env, swappedStores [tg] (.Call (.Attribute (.Name x px) "pop" apos) [e] [] cpos) env = pure none) (h1 : ∀ env, (assignEach [tg] env).map (·.2) = [assign tg env]) :
    D1 p (.Assign [tg] (.Call (.Attribute (.Name x px) "pop" apos) [e] [] cpos) pos) τ τ1 := fun R hR B0 H0 B H σ ok D em => by
  refine ⟨tAsg (tBM p.K "list" rPopAt (tVar i) (tCons (EE p e) tNil)) (EG p tg), fun X hX => ?_, ?_⟩
  · have hX' := hX
    obtain ⟨k, rfl, _⟩ := hX'
    exact ps_asg (pe_bm PySem.F.plainAttrs_list PySem.F.slot_list_pop PySem.F.type_list_pop mt_popAt (pe_var hN hv hd hc) (pa_cons (ee hX) pa_nil (hs _)) (hbase _) (by rw [hs]; rfl) hline (hs _) rfl) (eg hX) (hsw _) (hw _) (h1 _)
  · obtain ⟨q, ob, e1, n0, nb, hq, vs, e2, r1⟩ := ok.own hτ
    subst e2
    refine ⟨_, e1, .inl ⟨rfl, vs, .of hq⟩, he B0 H0 B H σ ok _ fun B1 H1 v x1 r2 => ?_⟩
    have ok1 := ok.go x1
    have nb1 := x1.nw q _ nb hq (fun _ z => by cases z)
    have r1' : All2 (rep p.K B1) vs xs := r1.imp fun _ _ g => Py.mono (.of x1.bb) g
    obtain ⟨u, hu, ru⟩ := r1'.get hy
    rw [sizeLine_eq] at hl
    refine ⟨q, vs, j, j.toNat, u, rfl, by rw [show v = .int j from r2], x1.hh _ _ hq, by omega, by omega, ?_, hu, ?_⟩
    · exact seqIndex_of h0 (by rw [r1'.length]; exact hj)
    · exact hg B0 H0 B1 _ σ u (ok1.mut (y := xs.eraseIdx j.toNat) hτ e1 n0 nb1 ⟨_, rfl, r1'.eraseIdx j.toNat⟩) ru _ fun σ' ok' _ => em.nx _ _ _ _ ok' hR
theorem sx_popU (G : Gd p m) (i : Nat) {α : Type} [Py α] {xs : List α} {j : Int} {x : Str} {px apos cpos : Pos} {tg : Expr} {w : List Nat} {τ1 : α → List Sl} {d : α} (hN : p.N[i]? = some x) (hi : i < m) (hτ : τ[i]? = some (.ow xs)) (he : PX p e τ (.sh j)) (h0 : 0 ≤ j ∧ j < ((xs.length : Nat) : Int) ∧ xs.length ≤ sizeLine)
    (hg : ∀ z, GX p tg w (.sh z) (τ.set i (.ow (xs.eraseIdx j.toNat))) (τ1 z))
    (hbase : ∀ env, attributeBase (.Name x px) "pop" env (eval (.Name x px) env) = eval (.Name x px) env) (hline : (apos.endLine == cpos.line) = true) (hs : ∀ env, starEach [e] env = [(false, eval e env)])
    (hsw : ∀ env, swapsWithSole [tg] (.Call (.Attribute (.Name x px) "pop" apos) [e] [] cpos) pos.line env = pure false) (hw : ∀ env, swappedStores [tg] (.Call (.Attribute (.Name x px) "pop" apos) [e] [] cpos) env = pure none) (h1 : ∀ env, (assignEach [tg] env).map (·.2) = [assign tg env])
    (k : ∀ z, z = xs.getD j.toNat d → SX p rest (τ1 z) R) : SX p (.Assign [tg] (.Call (.Attribute (.Name x px) "pop" apos) [e] [] cpos) pos :: rest) τ R := by
  have hy : xs[j.toNat]? = some (xs.getD j.toNat d) := by
    have : j.toNat < xs.length := by omega
    rw [List.getD_eq_getElem?_getD, List.getElem?_eq_getElem this]; rfl
  exact sx_step (s_popU i hN (G.vs hN hi) hτ he h0.1 h0.2.1 h0.2.2 hy (hg _) (G.ok x (List.mem_of_getElem? hN)).1 (G.ok x (List.mem_of_getElem? hN)).2 hbase hline hs hsw hw h1) (k _ rfl)
end
end Ly

namespace Ly
open PySem PySem.Spec PyProof.Rows L2
open Py
/-! ### a sign, some times over; the first signs of a text -/
theorem one_sgn {x : Str} (h : x.length = 1) : ∃ c, x = sgn c := by
  obtain ⟨cps⟩ := x
  obtain ⟨l⟩ := cps
  have h : l.length = 1 := h
  match l, h with
  | [c], _ => exact ⟨c, rfl⟩
theorem mul_ok {x : Str} {n : Int} (hx : x.length = 1) (h0 : -100 ≤ n) (h1 : n ≤ 100) : MulOk x n := by
  refine ⟨?_, fun h2 _ => ?_, fun _ _ => ?_⟩
  · rw [decide_eq_false (show ¬ n < -(2 ^ 63 : Int) by omega), decide_eq_false (show ¬ n ≥ 2 ^ 63 by omega)]; rfl
  · rw [hx]
    have : (100 : Int) ≤ (2 ^ 63 - 1) / n := Int.le_ediv_of_mul_le (by omega) (by have : (100 : Int) * n ≤ 100 * 100 := Int.mul_le_mul_of_nonneg_left h1 (by decide); omega)
    show ¬ ((1 : Nat) : Int) > _
    omega
  · rw [hx, Nat.one_mul]
    show decide (n.toNat > sizeLine) = false
    rw [sizeLine_eq]; exact decide_eq_false (by omega)
theorem mul_sgn (c : Nat) (n : Int) : (Txt.mul (sgn c) n).cps.toList = List.replicate n.toNat c := mul_one_list c n
theorem sg_mul {x : Str} {n : Int} (hx : x.length = 1) (h1 : n ≤ 100) (h : SG x) : SG (Txt.mul x n) := by
  obtain ⟨c, rfl⟩ := one_sgn hx
  refine ⟨strOk_all.mpr fun d hd => ?_, ?_⟩
  · rw [mul_sgn] at hd
    rw [List.eq_of_mem_replicate hd]
    exact strOk_all.mp h.1 c (by simp [sgn])
  · show (Txt.mul (sgn c) n).cps.size ≤ _
    rw [← Array.length_toList, mul_sgn, List.length_replicate, sizeLine_eq]; omega
theorem op_srep {X : Cx} : OpR X (binaryOp .Mult) (fun x y H Q => ∃ z n, x = .str z ∧ y = .int n ∧ MulOk z n ∧ Q (.str (Txt.mul z n)) H) := by
  intro pins s σ H x y v u Q I rx ry h
  obtain ⟨z, n, rfl, rfl, hok, q⟩ := h
  obtain ⟨t, rfl⟩ := rx
  obtain ⟨t', rfl⟩ := ry
  exact SB.mul hok fun t' k => ⟨.str _, H, I.tok _, ⟨_, rfl⟩, q⟩
section
variable {p : Par} {τ : List Sl} {a b : Expr} {pos : Pos}
theorem px_srep {x : Str} {n : Int} (ha : PX p a τ (.sh x)) (hb : PX p b τ (.sh n)) (h : x.length = 1 ∧ -100 ≤ n ∧ n ≤ 100) : PX p (.BinOp a .Mult b pos) τ (.sh (Txt.mul x n)) :=
  px_op2 (fun _ _ => op_srep) ha hb fun B H v u Q s r1 r2 q => ⟨x, n, r1.1, r2, mul_ok h.1 h.2.1 h.2.2, q B H _ (.refl s) ⟨rfl, sg_mul h.1 h.2.2 r1.2⟩⟩
theorem px_slS {x : Str} {lo hi : Option Expr} {l u : Option Int} {p2 : Pos} (ha : PX p a τ (.sh x)) (hl : POx p lo τ l) (hu : POx p hi τ u) : PX p (.Subscript a (.Slice lo hi none p2) pos) τ (.sh (cutS x l u)) := fun B0 H0 B H σ ok Q q => by
  refine ⟨tSl rSlS (EE p a) (EO p lo) (EO p hi), fun X hX => pe_slice sl_str (ee hX) (eo_ hX) (eo_ hX), ha B0 H0 B H σ ok _ fun B1 H1 v x1 r1 => ?_⟩
  refine eo_run hl (ok.go x1) fun B2 H2 x2 => eo_run hu ((ok.go x1).go x2) fun B3 H3 x3 => ?_
  have x13 := x2.trans x3
  refine ⟨x, r1.1, r1.2.2, q B3 H3 _ (x1.trans x13) ⟨rfl, ⟨strOk_all.mpr fun d hd => strOk_all.mp r1.2.1 d ?_, Nat.le_trans (cutS_length x l u) r1.2.2⟩⟩⟩
  have hd : d ∈ (cutS x l u).cps.toList := hd
  unfold cutS at hd
  simp only [List.toList_toArray] at hd
  exact List.mem_of_mem_drop (List.mem_of_mem_take hd)
end
end Ly

namespace Ly
open PySem PySem.Spec PyProof.Rows L2
open Py
/-! ### sep.join(a list of texts); a module's own text -/
theorem joinL_mem {S : List Nat} {c : Nat} : ∀ {ps : List (List Nat)}, c ∈ TL.joinL S ps → c ∈ S ∨ ∃ p ∈ ps, c ∈ p
  | [], h => by cases h
  | [p], h => .inr ⟨p, List.mem_singleton_self _, h⟩
  | p :: q :: r, h => by
    rcases List.mem_append.mp (show c ∈ p ++ (S ++ TL.joinL S (q :: r)) from h) with h | h
    · exact .inr ⟨p, List.mem_cons_self, h⟩
    · rcases List.mem_append.mp h with h | h
      · exact .inl h
      · rcases joinL_mem h with h | ⟨x, hx, hc⟩
        · exact .inl h
        · exact .inr ⟨x, List.mem_cons_of_mem _ hx, hc⟩
theorem joinL_len {S : List Nat} : ∀ ps : List (List Nat), (TL.joinL S ps).length ≤ (ps.map List.length).sum + ps.length * S.length
  | [] => Nat.zero_le _
  | [p] => by show p.length ≤ _; simp
  | p :: q :: r => by
    have := joinL_len (S := S) (q :: r)
    show (p ++ (S ++ TL.joinL S (q :: r))).length ≤ _
    rw [List.length_append, List.length_append, List.map_cons, List.sum_cons, List.length_cons, Nat.add_mul]
    omega
theorem tl_len (x : Str) : (TL.tl x).length = x.length := by
  show x.cps.toList.length = x.cps.size
  rw [Array.length_toList]
theorem sg_join {a : Str} {xs : List Str} (ha : SG a) (hx : ∀ x ∈ xs, SG x) (hl : (xs.map (·.length)).sum + xs.length * a.length ≤ 16777216) : SG (Str.join a xs) := by
  refine ⟨strOk_all.mpr fun c hc => ?_, ?_⟩
  · have hc : c ∈ TL.tl (Str.join a xs) := hc
    rw [TL.tl_join] at hc
    rcases joinL_mem hc with h | ⟨p, hp, h⟩
    · exact strOk_all.mp ha.1 c h
    · obtain ⟨x, hx2, rfl⟩ := List.mem_map.mp hp
      exact strOk_all.mp (hx x hx2).1 c h
  · rw [← tl_len, TL.tl_join, sizeLine_eq]
    have h := joinL_len (S := TL.tl a) (xs.map TL.tl)
    rw [List.map_map, List.length_map, tl_len] at h
    have e : List.map (List.length ∘ TL.tl) xs = xs.map (·.length) := List.map_congr_left fun x _ => tl_len x
    rw [e] at h
    omega
section
variable {p : Par} {τ : List Sl} {o e : Expr} {pos : Pos}
theorem px_join {a : Str} {xs : List Str} {apos : Pos} (ho : PX p o τ (.sh a)) (he : PX p e τ (.sh xs)) (hl : (xs.map (·.length)).sum + xs.length * a.length ≤ 16777216) (hbase : ∀ env, attributeBase o "join" env (eval o env) = eval o env) (hline : (apos.endLine == pos.line) = true) (hs : ∀ env, starEach [e] env = [(false, eval e env)]) :
    PX p (.Call (.Attribute o "join" apos) [e] [] pos) τ (.sh (Str.join a xs)) := fun B0 H0 B H σ ok Q q => by
  refine ⟨tM1 (fun x ys H Q => ∃ a c, ∃ zs : List Str, x = .str a ∧ ys = [.ref c] ∧ (SqL p.K H c (zs.map V.str) ∨ SqT p.K H c (zs.map V.str)) ∧ (zs.map (·.length)).sum + zs.length * a.length ≤ 16777216 ∧ Q (.str (Txt.join a zs)) H) (EE p o) (EE p e), fun X hX => ?_, ho B0 H0 B H σ ok _ fun B1 H1 v x1 r1 => ?_⟩
  rotate_left
  · refine ⟨⟨a, r1.1⟩, he B0 H0 B1 H1 σ (ok.go x1) _ fun B2 H2 u x2 r2 => ?_⟩
    obtain ⟨c, ob, e1, hc, vs, e2, r⟩ := r2
    subst e2
    have key : ∀ {us : List V} {ys : List Str}, All2 (rep p.K B2) us ys → us = ys.map V.str ∧ ∀ y ∈ ys, SG y := by
      intro us ys h
      induction h with
      | nil => exact ⟨rfl, fun y m => by cases m⟩
      | cons g _ ih =>
        obtain ⟨g1, g2⟩ := g
        refine ⟨by rw [g1, ih.1]; rfl, fun y m => ?_⟩
        rcases List.mem_cons.mp m with rfl | m
        · exact g2
        · exact ih.2 y m
    obtain ⟨k1, k2⟩ := key r
    refine ⟨a, c, xs, r1.1, by rw [e1], .inl (by rw [← k1]; exact .of (x2.bh _ _ hc.lst)), hl, ?_⟩
    rw [TL.join_eq]
    exact q B2 H2 _ (x1.trans x2) ⟨rfl, sg_join r1.2 k2 hl⟩
  · have hX' := hX
    obtain ⟨k, rfl, _⟩ := hX'
    exact pe_join (X := X) (ee hX) (ee hX) (hs _) (hbase _) hline
theorem px_gstr {x n : Str} (hg : p.sc.names.lookup n = some .globalImplicit) (hv : ∃ t, p.mg n = some (.str x t)) (hd : (n == ("__debug__" : Str)) = false) (hx : SG x) : PX p (.Name n pos) τ (.sh x) := fun B0 H0 B H σ ok Q q => by
  obtain ⟨t, hv⟩ := hv
  refine ⟨tC (.str x), fun X hX => ?_, q B H _ (.refl ok.bh) ⟨rfl, hx⟩⟩
  have hX' := hX
  obtain ⟨k, rfl, _⟩ := hX'
  exact pe_glob hg hv ⟨t, rfl⟩ hd
end
end Ly

namespace Ly
open PySem PySem.Spec PyProof.Rows L2
open Py
/-! ### expressions that change own things: from the slots τ they give s and leave τ' -/
def PXm (p : Par) (e : Expr) (τ : List Sl) (s : Sl) (τ' : List Sl) : Prop := ∀ B0 H0 B H σ, Ok p.K B0 H0 B H σ τ → ∀ Q : VK, (∀ B' H' v, Ok p.K B0 H0 B' H' σ τ' → Same B B' → Shr p.K B' v s → Q v H') → EE p e σ H Q
def PAm (p : Par) (es : List Expr) (τ : List Sl) (ss : List Sl) (τ' : List Sl) : Prop := ∀ B0 H0 B H σ, Ok p.K B0 H0 B H σ τ → ∀ Q : List V → Hp → Prop, (∀ B' H' vs, Ok p.K B0 H0 B' H' σ τ' → Same B B' → All2 (Shr p.K B') vs ss → Q vs H') → EA p es σ H Q
section
variable {p : Par} {m : Nat} {τ τ1 τ' τ'' : List Sl} {R : Post} {rest : List Stmt} {e : Expr} {es : List Expr} {pos : Pos}
theorem pxm_of {α : Type} [Py α] {x : α} (h : PX p e τ (.sh x)) : PXm p e τ (.sh x) τ := fun B0 H0 B H σ ok Q q => h B0 H0 B H σ ok Q fun B' H' v x r => q B' H' v (ok.go x) x.bb r
theorem pam_of {ss : List Sl} (h : PAx p es τ ss) : PAm p es τ ss τ := fun B0 H0 B H σ ok Q q => h B0 H0 B H σ ok Q fun B' H' vs x r => q B' H' vs (ok.go x) x.bb r
theorem pam_cons {α : Type} [Py α] {x : α} {ss : List Sl} (h : PXm p e τ (.sh x) τ') (k : PAm p es τ' ss τ'') (hs : ∀ env, starEach (e :: es) env = (false, eval e env) :: starEach es env := by intro _; rfl) : PAm p (e :: es) τ (.sh x :: ss) τ'' := fun B0 H0 B H σ ok Q q => by
  refine ⟨tCons (EE p e) (EA p es), fun X hX => pa_cons (ee hX) (ea hX) (hs _), h B0 H0 B H σ ok _ fun B1 H1 v1 ok1 b1 r1 => ?_⟩
  refine k B0 H0 B1 H1 σ ok1 _ fun B2 H2 vs ok2 b2 r2 => q B2 H2 (v1 :: vs) ok2 (b1.trans b2) (.cons ?_ r2)
  exact Py.mono (.of b2) (show rep p.K B1 v1 x from r1)
theorem pxm_tup2 {α β : Type} [Py α] [Py β] {x : α} {y : β} {j : Nat} (h : PAm p es τ [.sh x, .sh y] τ') : PXm p (.Tuple es j pos) τ (.sh (x, y)) τ' := fun B0 H0 B H σ ok Q q => by
  refine ⟨tTup (EA p es), fun X hX => pe_tup (ea hX), h B0 H0 B H σ ok _ fun B1 H1 vs ok1 b1 r => ⟨by rw [r.length]; show 2 ≤ sizeLine; decide, fun a na => ?_⟩⟩
  have x2 := Ext.laid (o := .tup vs) ok1.bh na
  cases r with
  | cons r1 r => cases r with
    | cons r2 r =>
      cases r
      exact q _ _ _ (ok1.go x2) (b1.trans x2.bb) ⟨a, _, _, rfl, upd_same, Py.mono (.of x2.bb) (show rep p.K B1 _ x from r1), Py.mono (.of x2.bb) (show rep p.K B1 _ y from r2)⟩
/-- x.pop(i), x a name's own list -/
theorem pxm_pop (G : Gd p m) (i : Nat) {α : Type} [Py α] {xs : List α} {j : Int} {d : α} {x : Str} {px apos cpos : Pos} (hN : p.N[i]? = some x) (hi : i < m) (hτ : τ[i]? = some (.ow xs)) (he : PX p e τ (.sh j)) (h0 : 0 ≤ j ∧ j < ((xs.length : Nat) : Int) ∧ xs.length ≤ sizeLine)
    (hbase : ∀ env, attributeBase (.Name x px) "pop" env (eval (.Name x px) env) = eval (.Name x px) env) (hline : (apos.endLine == cpos.line) = true) (hs : ∀ env, starEach [e] env = [(false, eval e env)]) :
    PXm p (.Call (.Attribute (.Name x px) "pop" apos) [e] [] cpos) τ (.sh (xs.getD j.toNat d)) (τ.set i (.ow (xs.eraseIdx j.toNat))) := fun B0 H0 B H σ ok Q k => by
  have hy : xs[j.toNat]? = some (xs.getD j.toNat d) := by
    have : j.toNat < xs.length := by omega
    rw [List.getD_eq_getElem?_getD, List.getElem?_eq_getElem this]; rfl
  refine ⟨tBM p.K "list" rPopAt (tVar i) (tCons (EE p e) tNil), fun X hX => ?_, ?_⟩
  · have hX' := hX
    obtain ⟨k, rfl, _⟩ := hX'
    exact pe_bm PySem.F.plainAttrs_list PySem.F.slot_list_pop PySem.F.type_list_pop mt_popAt (pe_var hN (G.vs hN hi) (G.ok x (List.mem_of_getElem? hN)).1 (G.ok x (List.mem_of_getElem? hN)).2) (pa_cons (ee hX) pa_nil (hs _)) (hbase _) (by rw [hs]; rfl) hline (hs _) rfl
  · obtain ⟨q, ob, e1, n0, nb, hq, vs, e2, r1⟩ := ok.own hτ
    subst e2
    refine ⟨_, e1, .inl ⟨rfl, vs, .of hq⟩, he B0 H0 B H σ ok _ fun B1 H1 v x1 r2 => ?_⟩
    have ok1 := ok.go x1
    have nb1 := x1.nw q _ nb hq (fun _ z => by cases z)
    have r1' : All2 (rep p.K B1) vs xs := r1.imp fun _ _ g => Py.mono (.of x1.bb) g
    obtain ⟨u, hu, ru⟩ := r1'.get hy
    have hl := h0.2.2
    rw [sizeLine_eq] at hl
    refine ⟨q, vs, j, j.toNat, u, rfl, by rw [show v = .int j from r2], x1.hh _ _ hq, by omega, by omega, ?_, hu, ?_⟩
    · exact seqIndex_of h0.1 (by rw [r1'.length]; exact h0.2.1)
    · exact k B1 _ u (ok1.mut (y := xs.eraseIdx j.toNat) hτ e1 n0 nb1 ⟨_, rfl, r1'.eraseIdx j.toNat⟩) x1.bb ru
/-- xs.append(e), e changes other own things -/
theorem s_appendM (i : Nat) {α : Type} [Py α] {xs : List α} {y : α} {x : Str} {px apos cpos : Pos} (hN : p.N[i]? = some x) (hv : Vis p.sc x) (hτ : τ[i]? = some (.ow xs)) (hτ' : τ'[i]? = some (.ow xs)) (he : PXm p e τ (.sh y) τ') (hl : xs.length < sizeLine)
    (hd : (x == ("__debug__" : Str)) = false) (hc : (x == ("__classdict__" : Str)) = false) (hbase : ∀ env, attributeBase (.Name x px) "append" env (eval (.Name x px) env) = eval (.Name x px) env)
    (hline : (apos.endLine == cpos.line) = true) (hs : ∀ env, starEach [e] env = [(false, eval e env)]) (hsw : ∀ env, swapsWith (.Call (.Attribute (.Name x px) "append" apos) [e] [] cpos) none pos.line env = pure false) :
    D1 p (.Expr (.Call (.Attribute (.Name x px) "append" apos) [e] [] cpos) pos) τ (τ'.set i (.ow (xs ++ [y]))) := fun R hR B0 H0 B H σ ok D em => by
  refine ⟨tDrop (tBM p.K "list" rAppend (tVar i) (tCons (EE p e) tNil)), fun X hX => ?_, ?_⟩
  · have hX' := hX
    obtain ⟨k, rfl, _⟩ := hX'
    exact ps_expr (pe_bm PySem.F.plainAttrs_list PySem.F.slot_list_append PySem.F.type_list_append mt_append (pe_var hN hv hd hc) (pa_cons (ee hX) pa_nil (hs _)) (hbase _) (by rw [hs]; rfl) hline (hs _) rfl) (hsw _)
  · obtain ⟨q, ob, e1, n0, nb, hq, vs, e2, r1⟩ := ok.own hτ
    subst e2
    refine ⟨_, e1, .inl ⟨rfl, vs, .of hq⟩, he B0 H0 B H σ ok _ fun B1 H1 v ok1 b1 r2 => ?_⟩
    obtain ⟨q', ob', e1', n0', nb', hq', vs', e2', r1'⟩ := ok1.own hτ'
    rw [e1] at e1'
    cases e1'
    subst e2'
    refine ⟨q, vs', v, rfl, rfl, hq', by rw [r1'.length]; exact hl, ?_⟩
    exact em.nx _ _ _ _ (ok1.mut (y := xs ++ [y]) hτ' e1 n0' nb' ⟨_, rfl, r1'.append (.cons r2 .nil)⟩) hR
theorem sx_appendM (G : Gd p m) (i : Nat) {α : Type} [Py α] {xs : List α} {y : α} {x : Str} {px apos cpos : Pos} (hN : p.N[i]? = some x) (hi : i < m) (hτ : τ[i]? = some (.ow xs)) (hτ' : τ'[i]? = some (.ow xs)) (he : PXm p e τ (.sh y) τ') (hl : xs.length < sizeLine)
    (hbase : ∀ env, attributeBase (.Name x px) "append" env (eval (.Name x px) env) = eval (.Name x px) env) (hline : (apos.endLine == cpos.line) = true) (hs : ∀ env, starEach [e] env = [(false, eval e env)])
    (hsw : ∀ env, swapsWith (.Call (.Attribute (.Name x px) "append" apos) [e] [] cpos) none pos.line env = pure false) (k : SX p rest (τ'.set i (.ow (xs ++ [y]))) R) : SX p (.Expr (.Call (.Attribute (.Name x px) "append" apos) [e] [] cpos) pos :: rest) τ R :=
  sx_step (s_appendM i hN (G.vs hN hi) hτ hτ' he hl (G.ok x (List.mem_of_getElem? hN)).1 (G.ok x (List.mem_of_getElem? hN)).2 hbase hline hs hsw) k
/-- x = e -/
theorem sx_setM (G : Gd p m) (i : Nat) {α : Type} [Py α] {v : α} {x : Str} {pos' : Pos} (hN : p.N[i]? = some x) (hi : i < m) (h : PXm p e τ (.sh v) τ') (hs : ∀ env, swapsWithSole [.Name x pos'] e pos.line env = pure false) (hw : ∀ env, swappedStores [.Name x pos'] e env = pure none)
    (h1 : ∀ env, (assignEach [.Name x pos'] env).map (·.2) = [assign (.Name x pos') env]) (k : ∀ y, y = v → SX p rest (τ'.set i (.sh y)) R) : SX p (.Assign [.Name x pos'] e pos :: rest) τ R :=
  sx_step (show D1 p (.Assign [.Name x pos'] e pos) τ (τ'.set i (.sh v)) from fun R hR B0 H0 B H σ ok D em =>
    ⟨tAsg (EE p e) (EG p (.Name x pos')), fun X hX => ps_asg (ee hX) (eg hX) (hs _) (hw _) (h1 _), h B0 H0 B H σ ok _ fun B1 H1 u ok1 b1 r1 => (gx_n G i hN hi (s := .sh v) trivial) B0 H0 B1 H1 σ u ok1 r1 _ fun σ' ok' _ => em.nx B1 H1 σ' _ ok' hR⟩) (k v rfl)
end
end Ly

namespace Ly
open PySem PySem.Spec PyProof.Rows L2
open Py
/-! ### d.setdefault(k, []).append(y), d by texts; text.split(sep) -/
theorem aput_twice {κ α : Type} [DecidableEq κ] (l : List (κ × α)) (k : κ) (u v : α) : aput (aput l k u) k v = aput l k v := by
  have hs : (aget (aput l k u) k).isSome = true := by rw [aget_put, if_pos rfl]; rfl
  have e1 : aput (aput l k u) k v = (aput l k u).map (fun kv => if kv.1 = k then (kv.1, v) else kv) := by
    conv => lhs; unfold aput
    rw [any_aget, show aget (if (l.any fun kv => decide (kv.1 = k)) = true then l.map (fun kv => if kv.1 = k then (kv.1, u) else kv) else l ++ [(k, u)]) k = aget (aput l k u) k from rfl, if_pos hs]
    rfl
  rw [e1]
  unfold aput
  rw [any_aget]
  cases h : aget l k with
  | some x =>
    rw [if_pos (by rfl), if_pos (by rfl), List.map_map]
    refine List.map_congr_left fun p _ => ?_
    by_cases e : p.1 = k
    · simp [Function.comp, e]
    · simp [Function.comp, e]
  | none =>
    rw [if_neg (show ¬ (none : Option α).isSome = true from Bool.false_ne_true), if_neg (show ¬ (none : Option α).isSome = true from Bool.false_ne_true), List.map_append]
    congr 1
    · refine (List.map_congr_left fun p hp => ?_).trans (List.map_id _)
      have : ¬ p.1 = k := fun e => by
        have : k ∈ l.map (·.1) := List.mem_map.mpr ⟨p, hp, e⟩
        rw [← aget_keys, h] at this
        cases this
      rw [if_neg this]; rfl
    · simp
theorem setd_split {Q : VK} {KV : List (Key × V)} {k : Key} {z : V} {H2 H3 : Hp} {P : Addr → Hp → Prop} (h : ∀ c H, P c H → Q (.ref c) H) (h1 : ∀ v, valV KV k = some v → ∃ c, v = .ref c ∧ P c H2) (h2 : valV KV k = none → ∃ c, z = .ref c ∧ P c H3) :
    (∀ v, valV KV k = some v → Q v H2) ∧ (valV KV k = none → Q z H3) :=
  ⟨fun v e => by obtain ⟨c, rfl, g⟩ := h1 v e; exact h c _ g, fun e => by obtain ⟨c, rfl, g⟩ := h2 e; exact h c _ g⟩
section
variable {p : Par} {m : Nat} {τ τ1 : List Sl} {R : Post} {rest : List Stmt} {e b f : Expr} {pos : Pos} {α : Type} [Py α]
theorem s_ddsd (i : Nat) {d : DD Str (List α)} {k : Str} {y : α} {x : Str} {px apos spos apos2 cpos : Pos} (hN : p.N[i]? = some x) (hv : Vis p.sc x) (hτ : τ[i]? = some (.ow d)) (hk : PX p b τ (.sh k)) (hf : PX p f τ (.ow ([] : List α)))
    (hy : PX p e (τ.set i (.ow (DD.mk (aput d.l k ((aget d.l k).getD []))))) (.sh y)) (hl : d.l.length < sizeLine) (hl2 : ((aget d.l k).getD []).length < sizeLine)
    (hd : (x == ("__debug__" : Str)) = false) (hc : (x == ("__classdict__" : Str)) = false)
    (hbase : ∀ env, attributeBase (.Name x px) "setdefault" env (eval (.Name x px) env) = eval (.Name x px) env) (hline : (apos.endLine == spos.line) = true) (hs2 : ∀ env, starEach [b, f] env = [(false, eval b env), (false, eval f env)])
    (hbase2 : ∀ env, attributeBase (.Call (.Attribute (.Name x px) "setdefault" apos) [b, f] [] spos) "append" env (eval (.Call (.Attribute (.Name x px) "setdefault" apos) [b, f] [] spos) env) = eval (.Call (.Attribute (.Name x px) "setdefault" apos) [b, f] [] spos) env)
    (hline2 : (apos2.endLine == cpos.line) = true) (hs : ∀ env, starEach [e] env = [(false, eval e env)])
    (hsw : ∀ env, swapsWith (.Call (.Attribute (.Call (.Attribute (.Name x px) "setdefault" apos) [b, f] [] spos) "append" apos2) [e] [] cpos) none pos.line env = pure false) :
    D1 p (.Expr (.Call (.Attribute (.Call (.Attribute (.Name x px) "setdefault" apos) [b, f] [] spos) "append" apos2) [e] [] cpos) pos) τ (τ.set i (.ow (DD.mk (aput d.l k ((aget d.l k).getD [] ++ [y]))))) := fun R hR B0 H0 B H σ ok D em => by
  refine ⟨tDrop (tBM p.K "list" rAppend (tDSetd (tVar i) (EE p b) (EE p f)) (tCons (EE p e) tNil)), fun X hX => ?_, ?_⟩
  · have hX' := hX
    obtain ⟨k, rfl, _⟩ := hX'
    exact ps_expr (pe_bm PySem.F.plainAttrs_list PySem.F.slot_list_append PySem.F.type_list_append mt_append (pe_dsetd (pe_var hN hv hd hc) (ee hX) (ee hX) ⟨hbase _, by rw [hs2]; rfl, hline, by rw [hs2]; rfl⟩) (pa_cons (ee hX) pa_nil (hs _)) (hbase2 _) (by rw [hs]; rfl) hline2 (hs _) rfl) (hsw _)
  · obtain ⟨fp, f0, q, e1, n, own⟩ := ok.ownF hτ
    have inH : ∀ a ∈ fp i, ∃ o, H a = some o := fun a m => by
      obtain ⟨o, h, _⟩ := Od.lay own a m
      exact ⟨o, h⟩
    obtain ⟨kvs, G, e2, np, hq, ol⟩ := own
    refine ⟨_, e1, q, rfl, PKey.isd (κ := Str) (.inl hq), hk B0 H0 B H σ ok _ fun B1 H1 u x1 r1 => hf B0 H0 B1 H1 σ (ok.go x1) _ fun B2 H2 z x2 r2 => ?_⟩
    have xx := x1.trans x2
    have ok2 := ok.go xx
    have f2 := f0.ext xx
    have hq2 := xx.hh _ _ hq
    have ol2 := ol.mono (.of xx.bb) (xx.keep ol.lay)
    have rk := (KeyF.to (show rep p.K B1 u k from r1)).2
    refine ⟨kvs.map fun p => (KeyF.kf p.1, p.2), KeyF.kf k, hq2, (KeyF.to (show rep p.K B1 u k from r1)).1, by rw [List.length_map, ol2.length]; exact hl, ?_⟩
    refine setd_split (Q := fun x H1 => tyV p.K "list" x H1 ∧ tCons (EE p e) tNil σ H1 fun xs H2 => rAppend x xs H2 fun x H1 => D.nx σ H1) (P := fun c H3 => Ok p.K B0 H0 B2 H3 σ (τ.set i (.ow (DD.mk (aput d.l k ((aget d.l k).getD []))))) ∧ ∃ KV, H3 q = some (.dK KV) ∧ valV KV (KeyF.kf k) = some (.ref c)) (fun c H3 g => ?_) (fun v hvv => ?_) (fun hvv => ?_)
    · obtain ⟨ok3, KV, hq3, hv3⟩ := g
      have hs3 : (τ.set i (.ow (DD.mk (aput d.l k ((aget d.l k).getD [])))))[i]? = some (.ow (DD.mk (aput d.l k ((aget d.l k).getD [])))) := List.getElem?_set_self (lt_of_get hτ)
      obtain ⟨fp3, f3, q', e1', n3, own3⟩ := ok3.ownF hs3
      rw [e1] at e1'
      cases e1'
      obtain ⟨kvs3, G3, eG3, np3, hq3', ol3⟩ := own3
      have hu : aget (aput d.l k ((aget d.l k).getD [])) k = some ((aget d.l k).getD []) := by rw [aget_put, if_pos rfl]
      obtain ⟨q2, F2, hv2, own2, s2, _⟩ := ol3.get hu
      have ec : c = q2 := by
        rw [hq3] at hq3'
        have eKV : KV = kvs3.map fun p => (KeyF.kf p.1, p.2) := by injection hq3' with z; injection z
        rw [eKV, valV_inj KeyF.inj, hv2] at hv3
        cases hv3; rfl
      subst ec
      obtain ⟨eF, ob, hc2, vs, e4, rr⟩ := own2
      subst e4
      refine ⟨.inl ⟨rfl, vs, .of hc2⟩, hy B0 H0 B2 H3 σ ok3 _ fun B4 H4 w x4 r4 => ?_⟩
      have ok4 := ok3.go x4
      have f4 := f3.ext x4
      have hq4 := x4.hh _ _ hq3'
      have ol4 := ol3.mono (.of x4.bb) (x4.keep ol3.lay)
      obtain ⟨q4, F4, hv4, own4, s4, up⟩ := ol4.get hu
      rw [hv2] at hv4
      cases hv4
      obtain ⟨eF4, ob4, hc4, vs4, e5, rr4⟩ := own4
      subst e5
      refine ⟨c, vs4, w, rfl, rfl, hc4, by rw [rr4.length]; exact hl2, em.nx B4 _ _ _ ?_ hR⟩
      have ne : c ≠ q := fun z => np3 (by rw [← z]; exact s4 c (by rw [eF4]; exact List.mem_singleton_self _))
      obtain ⟨G5, t5, s5⟩ := up (upd H4 c (.lst (vs4 ++ [w]))) ((aget d.l k).getD [] ++ [y]) [c] (fun a na hn => by rw [upd_ne (fun z => na (by rw [z, eF4]; exact List.mem_singleton_self _))]) (fun a ma => .inl (by rw [eF4]; exact ma))
        ⟨rfl, _, upd_same, _, rfl, rr4.append (.cons r4 .nil)⟩
      rw [aput_twice] at t5
      have out := ok4.mutF f4 hs3 e1 (H1 := upd H4 c (.lst (vs4 ++ [w]))) (y := (DD.mk (aput d.l k ((aget d.l k).getD [] ++ [y])) : DD Str (List α))) (G := q :: G5) (fun a na hn => ?_) (fun a ma => ?_) ⟨kvs3, G5, rfl, fun m => ?_, by rw [upd_ne (Ne.symm ne)]; exact hq4, t5⟩
      · rw [List.set_set] at out; exact out
      · rw [upd_ne (fun z => na (by rw [z, eG3]; exact List.mem_cons_of_mem _ (s4 c (by rw [eF4]; exact List.mem_singleton_self _))))]
      · rcases List.mem_cons.mp ma with z | ma
        · exact .inl (by rw [z, eG3]; exact List.mem_cons_self)
        · exact (s5 a ma).imp (fun w => by rw [eG3]; exact List.mem_cons_of_mem _ w) id
      · rcases s5 q m with w | w
        · exact np3 w
        · rw [hq4] at w; cases w
    · rw [valV_inj KeyF.inj] at hvv
      cases eu : aget d.l k with
      | none => rw [ol2.no eu] at hvv; cases hvv
      | some u0 =>
        obtain ⟨q2, F2, hv2, own2, s2, up⟩ := ol2.get eu
        rw [hv2] at hvv
        cases hvv
        obtain ⟨G5, t5, s5⟩ := up H2 u0 F2 (fun _ _ _ => rfl) (fun a ma => .inl ma) own2
        refine ⟨q2, rfl, ?_, _, hq2, by rw [valV_inj KeyF.inj]; exact hv2⟩
        refine ok2.mutF f2 hτ e1 (y := (DD.mk (aput d.l k u0) : DD Str (List α))) (G := q :: G5) (fun a na hn => rfl) (fun a ma => ?_) ⟨kvs, G5, rfl, fun m => ?_, hq2, t5⟩
        · rcases List.mem_cons.mp ma with z | ma
          · exact .inl (by rw [z, e2]; exact List.mem_cons_self)
          · exact (s5 a ma).imp (fun w => by rw [e2]; exact List.mem_cons_of_mem _ w) id
        · rcases s5 q m with w | w
          · exact np w
          · rw [hq2] at w; cases w
    · rw [valV_inj KeyF.inj] at hvv
      have eu : aget d.l k = none := by
        cases eu : aget d.l k with
        | none => rfl
        | some u0 =>
          obtain ⟨q2, F2, hv2, _⟩ := ol2.get eu
          rw [hv2] at hvv; cases hvv
      obtain ⟨F, qy, ev, ny, ry⟩ := r2
      have dis : ∀ a ∈ F, a ∉ G := fun a m mg => by
        obtain ⟨o, h⟩ := inH a (by rw [e2]; exact List.mem_cons_of_mem _ mg)
        have := x1.hh _ _ h
        rw [(ny a m).1] at this; cases this
      have nq : q ∉ F := fun m => by
        obtain ⟨o, h⟩ := inH q (by rw [e2]; exact List.mem_cons_self)
        have := x1.hh _ _ h
        rw [(ny q m).1] at this; cases this
      obtain ⟨G2, t2, s2⟩ := ol2.put rk ry dis
      have nG2 : q ∉ G2 := fun m => (s2 q m).elim np nq
      refine ⟨qy, ev, ?_, _, upd_same, ?_⟩
      · rw [eu, ev, putK_inj KeyF.inj]
        refine ok2.mutG f2 hτ e1 (H1 := upd H2 q (PKey.obj (putK kvs k (.ref qy)))) (y := (DD.mk (aput d.l k []) : DD Str (List α))) (G := q :: G2) (fun a na hn => ?_) (fun a ma => ?_) ⟨_, G2, rfl, nG2, upd_same, t2.mono (.refl _) fun a ma => ?_⟩
        · rw [upd_ne (fun z => na (by rw [z, e2]; exact List.mem_cons_self))]
        · rcases List.mem_cons.mp ma with z | ma
          · exact .inl (by rw [z, e2]; exact List.mem_cons_self)
          · rcases s2 a ma with w | w
            · exact .inl (by rw [e2]; exact List.mem_cons_of_mem _ w)
            · have na : H a = none := x1.hh.free (ny a w).1
              exact .inr ⟨ok.ext.hh.free na, (ny a w).2, f0.notin na⟩
        · rw [upd_ne (fun z => nG2 (by rw [← z]; exact ma))]
      · show aget (aput _ (KeyF.kf k) z) (KeyF.kf k) = some (.ref qy)
        rw [aget_put, if_pos rfl, ev]
theorem sx_ddsd (G : Gd p m) (i : Nat) {d : DD Str (List α)} {k : Str} {y : α} {x : Str} {px apos spos apos2 cpos : Pos} (hN : p.N[i]? = some x) (hi : i < m) (hτ : τ[i]? = some (.ow d)) (hk : PX p b τ (.sh k)) (hf : PX p f τ (.ow ([] : List α)))
    (hy : PX p e (τ.set i (.ow (DD.mk (aput d.l k ((aget d.l k).getD []))))) (.sh y)) (hl : d.l.length < sizeLine ∧ ((aget d.l k).getD []).length < sizeLine)
    (hbase : ∀ env, attributeBase (.Name x px) "setdefault" env (eval (.Name x px) env) = eval (.Name x px) env) (hline : (apos.endLine == spos.line) = true) (hs2 : ∀ env, starEach [b, f] env = [(false, eval b env), (false, eval f env)])
    (hbase2 : ∀ env, attributeBase (.Call (.Attribute (.Name x px) "setdefault" apos) [b, f] [] spos) "append" env (eval (.Call (.Attribute (.Name x px) "setdefault" apos) [b, f] [] spos) env) = eval (.Call (.Attribute (.Name x px) "setdefault" apos) [b, f] [] spos) env)
    (hline2 : (apos2.endLine == cpos.line) = true) (hs : ∀ env, starEach [e] env = [(false, eval e env)])
    (hsw : ∀ env, swapsWith (.Call (.Attribute (.Call (.Attribute (.Name x px) "setdefault" apos) [b, f] [] spos) "append" apos2) [e] [] cpos) none pos.line env = pure false)
    (kk : SX p rest (τ.set i (.ow (DD.mk (aput d.l k ((aget d.l k).getD [] ++ [y]))))) R) :
    SX p (.Expr (.Call (.Attribute (.Call (.Attribute (.Name x px) "setdefault" apos) [b, f] [] spos) "append" apos2) [e] [] cpos) pos :: rest) τ R :=
  sx_step (s_ddsd i hN (G.vs hN hi) hτ hk hf hy hl.1 hl.2 (G.ok x (List.mem_of_getElem? hN)).1 (G.ok x (List.mem_of_getElem? hN)).2 hbase hline hs2 hbase2 hline2 hs hsw) kk
/-! ### text.split(sep) -/
theorem sg_part {a : Str} {xs : List Str} {s : Str} (h : SG (Str.join s xs)) : ∀ x ∈ xs, SG x := fun x m => by
  have key : ∀ {S : List Nat} {ps : List (List Nat)} {q : List Nat}, q ∈ ps → (∀ c ∈ q, c ∈ TL.joinL S ps) ∧ q.length ≤ (TL.joinL S ps).length := by
    intro S ps
    induction ps with
    | nil => intro q h; cases h
    | cons r t ih =>
      intro q h
      cases t with
      | nil =>
        have : q = r := by simpa using h
        subst this
        exact ⟨fun c hc => hc, Nat.le_refl _⟩
      | cons u v =>
        show (∀ c ∈ q, c ∈ r ++ (S ++ TL.joinL S (u :: v))) ∧ q.length ≤ (r ++ (S ++ TL.joinL S (u :: v))).length
        rw [List.length_append, List.length_append]
        rcases List.mem_cons.mp h with e | h
        · subst e
          exact ⟨fun c hc => List.mem_append_left _ hc, by omega⟩
        · have := ih h
          exact ⟨fun c hc => List.mem_append_right _ (List.mem_append_right _ (this.1 c hc)), by omega⟩
  have hk := key (S := TL.tl s) (ps := xs.map TL.tl) (q := TL.tl x) (List.mem_map_of_mem m)
  rw [← TL.tl_join] at hk
  refine ⟨strOk_all.mpr fun c hc => strOk_all.mp h.1 c (hk.1 c hc), ?_⟩
  have h2 := h.2
  rw [← tl_len] at h2 ⊢
  omega
theorem px_split {a s : Str} {xs : List Str} {o : Expr} {apos : Pos} (ho : PX p o τ (.sh a)) (he : PX p e τ (.sh s)) (hx : (s.length == 0) = false ∧ a.length + 2 ≤ sizeLine ∧ Txt.split a s = xs ∧ Str.join s xs = a) (hbase : ∀ env, attributeBase o "split" env (eval o env) = eval o env) (hline : (apos.endLine == pos.line) = true) (hs : ∀ env, starEach [e] env = [(false, eval e env)]) :
    PX p (.Call (.Attribute o "split" apos) [e] [] pos) τ (.ow xs) := fun B0 H0 B H σ ok Q q => by
  refine ⟨tM1 (fun x ys H Q => ∃ a b, x = .str a ∧ ys = [.str b] ∧ (b.length == 0) = false ∧ a.length + 2 ≤ sizeLine ∧ rNewStrs (Txt.split a b) H Q) (EE p o) (EE p e), fun X hX => ?_, ho B0 H0 B H σ ok _ fun B1 H1 v x1 r1 => ?_⟩
  rotate_left
  · refine ⟨⟨a, r1.1⟩, he B0 H0 B1 H1 σ (ok.go x1) _ fun B2 H2 u x2 r2 => ?_⟩
    refine ⟨a, s, r1.1, by rw [r2.1], hx.1, hx.2.1, fun c nc => ?_⟩
    have xx := x1.trans x2
    have sg := sg_part (a := a) (s := s) (xs := xs) (by rw [hx.2.2.2]; exact r1.2)
    rw [hx.2.2.1]
    refine q B2 _ _ (xx.trans (.made x2.bh nc)) ⟨[c], c, rfl, fun b m => ?_, rfl, _, upd_same, _, rfl, ?_⟩
    · rw [List.mem_singleton.mp m]
      exact ⟨xx.hh.free nc, x2.bh.free nc⟩
    · have : ∀ ys : List Str, (∀ y ∈ ys, SG y) → All2 (rep p.K B2) (ys.map V.str) ys := by
        intro ys
        induction ys with
        | nil => intro _; exact .nil
        | cons y r ih => intro h; exact .cons ⟨rfl, h y List.mem_cons_self⟩ (ih fun z m => h z (List.mem_cons_of_mem _ m))
      exact this xs sg
  · have hX' := hX
    obtain ⟨k, rfl, _⟩ := hX'
    exact pe_split (X := X) (ee hX) (ee hX) (hs _) (hbase _) hline
theorem sx_pubDDL {sts : List Stmt} {κ : Type} [Py κ] [DecidableEq κ] [PKey κ] (i : Nat) {d : DD κ (List α)} (hi : τ[i]? = some (.ow d)) (h : SX p sts (τ.set i (.sh (Dct.mk d.l : Dct κ (List α)))) R) : SX p sts τ R :=
  sx_pubD (γ := Dct κ (List α)) i hi (by
    have e : (Pub.rd d : Dct κ (List α)) = Dct.mk d.l := by
      show Dct.mk (d.l.map fun p => (p.1, p.2)) = _
      rw [map_pair]
    rw [e]; exact h)
end
end Ly

namespace Ly
open PySem PySem.Spec PyProof.Rows L2
open Py
/-! ### enumerate of a text -/
def StrTy (ty : String) : Prop := ty = "str_ascii_iterator" ∨ ty = "str_iterator"
theorem strTy (x : Str) : StrTy (strIterType x) := by
  unfold StrTy strIterType
  split
  · exact .inl rfl
  · exact .inr rfl
theorem str_next {prog : Program} {w : World} {A : Around} {E : Value → Shared → Prop} {s : Shared} {ty : String} {it : Addr} {x : Str} {t : Tok} {i c : Nat} {Q : Value → Shared → Prop} (hy : StrTy ty) (h : s.heap.IsStrIter it ty x t i) (hx : x.cps[i]? = some c)
    (q : ∀ h', h'.IsStrIter it ty x t (i + 1) → Heap.SameBut it s.heap h' → Q (.str { cps := #[c] } s.toks) { s with heap := h', toks := s.toks + 1 }) : wpAny (model prog w) A (Builtin.SmallTypes.nextOf (.ref it)) Q E s := by
  rcases hy with rfl | rfl
  · exact wpAny_nextOf_ascii_item h hx q
  · exact wpAny_nextOf_wide_item h hx q
theorem str_stop {prog : Program} {w : World} {A : Around} {E : Value → Shared → Prop} {s : Shared} {ty : String} {it : Addr} {x : Str} {t : Tok} {i : Nat} {Q : Value → Shared → Prop} (hh : A.handled = none) (hy : StrTy ty) (h : s.heap.IsStrIter it ty x t i) (hx : x.cps[i]? = none)
    (q : ∀ (h' : Heap) (e : Addr), Heap.ExtBut it s.heap h' → (∃ o, h'.get? e = some o ∧ o.cls = .type "StopIteration") → E (.ref e) { s with heap := h' }) : wpAny (model prog w) A (Builtin.SmallTypes.nextOf (.ref it)) Q E s := by
  rcases hy with rfl | rfl
  · exact wpAny_nextOf_ascii_end hh h hx q
  · exact wpAny_nextOf_wide_end hh h hx q
theorem strIter_at {h h' : Heap} {it : Addr} {ty : String} {x : Str} {t : Tok} {i : Nat} (st : h.IsStrIter it ty x t i) (k : ∀ o, h.get? it = some o → h'.get? it = some o) : h'.IsStrIter it ty x t i := by
  obtain ⟨o, e, r⟩ := st
  exact ⟨o, k o e, r⟩
section
variable {prog : Program} {w : World} {A : Around} {E : Value → Shared → Prop} {s : Shared} {e it : Addr} {ty : String} {x : Str} {t : Tok}
theorem enumS_item {i c : Nat} {old : Value} {Q : Value → Shared → Prop} (hy : StrTy ty)
    (he : IsEnum s.heap e it i old) (hit : s.heap.IsStrIter it ty x t i) (hx : x.cps[i]? = some c) (hne : e ≠ it)
    (hQ : ∀ h', IsEnumOut h' e it ((i : Int) + 1) (.str { cps := #[c] } s.toks) s.heap.objs.size → h'.IsStrIter it ty x t (i + 1) →
      h'.get? s.heap.objs.size = some { cls := .type "tuple", data := .seq #[.int i (s.toks + 1), .str { cps := #[c] } s.toks] } → h'.objs.size = s.heap.objs.size + 1 →
      (∀ b o, b ≠ e → b ≠ it → s.heap.get? b = some o → h'.get? b = some o) → Q (.ref s.heap.objs.size) { s with heap := h', toks := s.toks + 1 + 1 }) :
    wpAny (model prog w) A (Builtin.«enumerate.__next__» ⟨[.ref e], []⟩) (fun fin s' => ∃ v, fin = .done (.ret v) ∧ Q v s') E s := by
  obtain ⟨hp, g, d, tk, os⟩ := s
  show wpAny _ _ (field (.ref e) 2 >>= _) _ _ _
  refine wpAny_bind (wpAny_field he rfl (x := .ref it) rfl ?_)
  refine wpAny_bind (str_next hy hit hx fun h₁ hit₁ hs₁ => ?_)
  replace hs₁ : Heap.SameBut it hp h₁ := hs₁
  have he₁ : IsEnum h₁ e it i old := (hs₁.2 e hne).trans he
  show wpAny _ _ (field (.ref e) 3 >>= _) _ _ ⟨h₁, g, d, tk + 1, os⟩
  refine wpAny_bind (wpAny_field he₁ rfl (x := rawInt i) rfl ?_)
  show wpAny _ _ (field (.ref e) 4 >>= _) _ _ ⟨h₁, g, d, tk + 1, os⟩
  refine wpAny_bind (wpAny_field he₁ rfl (x := .none) rfl ?_)
  show wpAny _ _ (mkInt i >>= _) _ _ ⟨h₁, g, d, tk + 1, os⟩
  refine wpAny_bind (wpAny_mkInt ?_)
  show wpAny _ _ (setField (.ref e) 3 (rawInt ((i : Int) + 1)) >>= _) _ _ ⟨h₁, g, d, tk + 1 + 1, os⟩
  refine wpAny_bind (wpAny_setField_rec he₁ (by simp) fun h₂ he₂ hs₂ => ?_)
  replace hs₂ : Heap.SameBut e h₁ h₂ := hs₂
  replace he₂ : IsEnum h₂ e it ((i : Int) + 1) old := he₂
  show wpAny _ _ (setField (.ref e) 4 .none >>= _) _ _ ⟨h₂, g, d, tk + 1 + 1, os⟩
  refine wpAny_bind (wpAny_setField_rec he₂ (by simp) fun h₃ he₃ hs₃ => ?_)
  replace hs₃ : Heap.SameBut e h₂ h₃ := hs₃
  replace he₃ : IsEnum h₃ e it ((i : Int) + 1) old := he₃
  show wpAny _ _ (newTuple [.int i (tk + 1), .str { cps := #[c] } tk] >>= _) _ _ ⟨h₃, g, d, tk + 1 + 1, os⟩
  refine wpAny_bind (wpAny_newTuple ?_)
  have he₄ : IsEnum (h₃.push { cls := .type "tuple", data := .seq #[.int i (tk + 1), .str { cps := #[c] } tk] }) e it ((i : Int) + 1) old := Heap.get?_push_of_some _ he₃
  generalize hh₄ : h₃.push { cls := .type "tuple", data := .seq #[.int i (tk + 1), .str { cps := #[c] } tk] } = h₄ at he₄
  have hsz : h₃.objs.size = hp.objs.size := by rw [hs₃.1, hs₂.1, hs₁.1]
  have hel : e < hp.objs.size := Heap.lt_size he
  have ht₄ : h₄.get? hp.objs.size = some { cls := .type "tuple", data := .seq #[.int i (tk + 1), .str { cps := #[c] } tk] } := by rw [← hh₄, ← hsz]; exact Heap.get?_push_size _ rfl
  have hz₄ : h₄.objs.size = hp.objs.size + 1 := by rw [← hh₄, Heap.size_push, hsz]
  have hk₄ : ∀ b o, b ≠ e → b ≠ it → hp.get? b = some o → h₄.get? b = some o := fun b o hbe hbi hb => by
    rw [← hh₄]; exact Heap.get?_push_of_some _ (hs₃.extBut b o hbe (hs₂.extBut b o hbe (hs₁.extBut b o hbi hb)))
  have hit₄ : h₄.IsStrIter it ty x t (i + 1) := strIter_at hit₁ fun o ho => by
    rw [← hh₄]; exact Heap.get?_push_of_some _ (hs₃.extBut it o (Ne.symm hne) (hs₂.extBut it o (Ne.symm hne) ho))
  show wpAny _ _ (Builtin.SmallTypes.ownedTupleIsFree (.ref e) >>= _) _ _ ⟨h₄, g, d, tk + 1 + 1, os⟩
  rw [hsz]
  clear hh₄ he₃ hs₃ he₂ hs₂ he₁ hs₁ hit₁ hsz h₃ h₂ h₁
  refine wpAny_bind ?_
  · unfold Builtin.SmallTypes.ownedTupleIsFree
    refine wpAny_bind (wpAny_field he₄ rfl (x := .none) rfl (wpAny_pure ?_))
    simp only [if_true]
    refine wpAny_bind (wpAny_rule ?_)
    refine wpAny_bind (wpAny_field he₄ rfl (x := old) rfl ?_)
    refine wpAny_bind (wpAny_setField_rec he₄ (by simp) fun h₅ he₅ hs₅ => ?_)
    replace hs₅ : Heap.SameBut e h₄ h₅ := hs₅
    replace he₅ : IsEnum h₅ e it ((i : Int) + 1) (.str { cps := #[c] } tk) := he₅
    show wpAny _ _ (Builtin.SmallTypes.ownedTupleHandOut (.ref e) (.ref hp.objs.size) >>= _) _ _ ⟨h₅, g, d, tk + 1 + 1, os⟩
    refine wpAny_bind ?_
    · unfold Builtin.SmallTypes.ownedTupleHandOut
      refine wpAny_bind (wpAny_setField_rec he₅ (by simp) fun h₆ he₆ hs₆ => ?_)
      replace hs₆ : Heap.SameBut e h₅ h₆ := hs₆
      replace he₆ : IsEnumOut h₆ e it ((i : Int) + 1) (.str { cps := #[c] } tk) hp.objs.size := he₆
      refine wpAny_setField_rec he₆ (by simp) fun h₇ he₇ hs₇ => ?_
      replace hs₇ : Heap.SameBut e h₆ h₇ := hs₇
      replace he₇ : IsEnumOut h₇ e it ((i : Int) + 1) (.str { cps := #[c] } tk) hp.objs.size := he₇
      have up : ∀ b o, b ≠ e → h₄.get? b = some o → h₇.get? b = some o := fun b o nb q => hs₇.extBut b o nb (hs₆.extBut b o nb (hs₅.extBut b o nb q))
      refine wpAny_bind (wpAny_letGo (wpAny_pure ⟨_, rfl, hQ h₇ he₇ ?_ ?_ ?_ ?_⟩))
      · exact strIter_at hit₄ fun o q => up it o (Ne.symm hne) q
      · exact up _ _ (Nat.ne_of_gt hel) ht₄
      · rw [hs₇.1, hs₆.1, hs₅.1, hz₄]
      · exact fun b o hbe hbi hb => up b o hbe (hk₄ b o hbe hbi hb)
theorem pyNext_enumS_item {i c : Nat} {old : Value} {Q : Option Value → Shared → Prop} (hy : StrTy ty)
    (he : IsEnum s.heap e it i old) (hit : s.heap.IsStrIter it ty x t i) (hx : x.cps[i]? = some c) (hne : e ≠ it)
    (hQ : ∀ h', IsEnumOut h' e it ((i : Int) + 1) (.str { cps := #[c] } s.toks) s.heap.objs.size → h'.IsStrIter it ty x t (i + 1) →
      h'.get? s.heap.objs.size = some { cls := .type "tuple", data := .seq #[.int i (s.toks + 1), .str { cps := #[c] } s.toks] } → h'.objs.size = s.heap.objs.size + 1 →
      (∀ b o, b ≠ e → b ≠ it → s.heap.get? b = some o → h'.get? b = some o) → Q (some (.ref s.heap.objs.size)) { s with heap := h', toks := s.toks + 1 + 1 }) :
    wpAny (model prog w) A (pyNext (.ref e)) Q E s := by
  have hT : s.TypeIs (.ref e) "enumerate" := ⟨_, he, rfl⟩
  unfold pyNext
  exact wpAny_bind (wpAny_attempt (wpAny_callSpecial?_slot (name := Str.ofString "__next__") hT F.slot_enumerate_next
    (wpAny_call_entry F.slot_enumerate_next hT F.entry_enumerate_next
      (enumS_item hy he hit hx hne fun h' a b c d k => wpAny_pure (hQ h' a b c d k)) (F.args_enumerate_next_1 _))))
theorem pyNext_enumS_end {i : Nat} {old : Value} {Q : Option Value → Shared → Prop} (hh : A.in1.handled = none) (hy : StrTy ty)
    (he : IsEnum s.heap e it i old) (hit : s.heap.IsStrIter it ty x t i) (hx : x.cps[i]? = none)
    (hQ : ∀ h', Heap.ExtBut it s.heap h' → Q none { s with heap := h' }) : wpAny (model prog w) A (pyNext (.ref e)) Q E s := by
  have hT : s.TypeIs (.ref e) "enumerate" := ⟨_, he, rfl⟩
  unfold pyNext
  refine wpAny_bind (wpAny_attempt (wpAny_callSpecial?_slot (name := Str.ofString "__next__") hT F.slot_enumerate_next
    (wpAny_call_entry F.slot_enumerate_next hT F.entry_enumerate_next ?_ (F.args_enumerate_next_1 _))))
  show wpAny _ _ (field (.ref e) 2 >>= _) _ _ _
  refine wpAny_bind (wpAny_field he rfl (x := .ref it) rfl ?_)
  refine wpAny_bind (str_stop hh hy hit hx fun h' x he' hx' => ?_)
  obtain ⟨o, ho, hc⟩ := hx'
  refine wpAny_bind (wpAny_isInstance (T := "StopIteration") (b := true) ⟨o, ho, hc⟩ isSubtype_stop ?_)
  exact wpAny_pure (hQ _ he')
end
/-- the text's sgnsOf with their numbers in new pairs -/
def IteS (x : Str) : It :=
  ⟨fun i _ => i < x.cps.size, fun i H v H' => ∃ T c, v = .ref T ∧ H T = none ∧ H' = upd H T (.tup [.int (i : Nat), .str { cps := #[c] }]) ∧ x.cps[i]? = some c, fun i _ => x.cps.size ≤ i⟩
theorem turn_enumS {P : Program} {w : World} {K : PySem.W.Frag} {elts : List Expr} {kk : Nat} {tpos : Pos} {ty : String} {x : Str} {t : Tok} (hy : StrTy ty) (e it : Addr) :
    Turn P w K (.Tuple elts kk tpos) (IteS x) [e, it] e (fun i h => (∃ old, IsEnum h e it ((i : Nat) : Int) old) ∧ h.IsStrIter it ty x t i ∧ e ≠ it) where
  mem := by simp
  obj := fun i h st b hb => by
    obtain ⟨⟨old, he⟩, ⟨o, ho, hc, hd⟩, _⟩ := st
    rcases two hb with z | z
    · rw [z]; exact ⟨_, he, fun v q => nomatch q⟩
    · rw [z]; exact ⟨o, ho, fun v q => by rw [hd] at q; cases q⟩
  keep := fun i h h' st k => let ⟨⟨old, he⟩, hi, hne⟩ := st; ⟨⟨old, k e (by simp) _ he⟩, strIter_at hi fun o q => k it (by simp) o q, hne⟩
  item := by
    intro X hP hw hK hc i pins s σ H E I hf st hg
    subst hP hw hK
    obtain ⟨⟨old, he⟩, hit, hne⟩ := st
    obtain ⟨c, hx⟩ : ∃ c, x.cps[i]? = some c := ⟨_, Array.getElem?_eq_getElem hg⟩
    have hel : e < s.heap.objs.size := Heap.lt_size he
    have hil : it < s.heap.objs.size := by obtain ⟨_, q, _⟩ := hit; exact Heap.lt_size q
    refine pyNext_enumS_item hy he hit hx hne fun h' ho hit' hT hsz hk => ?_
    refine ⟨_, rfl, wpAny_letOwnedTupleGo_enum (s := { s with heap := h', toks := s.toks + 1 + 1 }) ho fun h'' he' sb => ?_⟩
    have hT2 : h''.get? s.heap.objs.size = some { cls := .type "tuple", data := .seq #[.int i (s.toks + 1), .str { cps := #[c] } s.toks] } := (sb.2 _ (Nat.ne_of_gt hel)).trans hT
    have new : ObjOk X.prog X.w (upd H s.heap.objs.size (.tup [.int (i : Nat), .str { cps := #[c] }])) h'' s.heap.objs.size (.tup [.int (i : Nat), .str { cps := #[c] }]) :=
      ⟨by show 2 ≤ sizeLine; decide, [.int i (s.toks + 1), .str { cps := #[c] } s.toks], .cons ⟨_, rfl⟩ (.cons ⟨_, rfl⟩ .nil), ⟨_, hT2, rfl, _, rfl⟩⟩
    have I1 : Inv X pins σ (upd H s.heap.objs.size (.tup [.int (i : Nat), .str { cps := #[c] }])) { s with heap := h'', toks := s.toks + 1 + 1 } :=
      I.turnedNew (ch := [e, it]) (fun b ob hb q => (sb.2 b (notTwo hb).1).trans (hk b ob (notTwo hb).1 (notTwo hb).2 q)) hf (Nat.le_refl _) new
    refine ⟨.ref s.heap.objs.size, _, I1, rfl, ⟨_, c, rfl, I.hok.fresh (Nat.le_refl _), rfl, hx⟩, ⟨⟨.str { cps := #[c] } s.toks, ?_⟩, strIter_at hit' fun o q => (sb.2 it (Ne.symm hne)).trans q, hne⟩, fun b hb => ?_⟩
    · have e1 : ((i + 1 : Nat) : Int) = (i : Int) + 1 := by omega
      rw [e1]; exact he'
    · have hb' : b < s.heap.objs.size := by
        rcases two hb with z | z
        · rw [z]; exact hel
        · rw [z]; exact hil
      rw [upd_ne (Nat.ne_of_lt hb')]
      exact (hf b hb).1
  done := by
    intro X hP hw hK hc i pins s σ H E I hf st hg
    subst hP hw hK
    obtain ⟨⟨old, he⟩, hit, hne⟩ := st
    obtain ⟨f0, f1, f2, f3, f4, f5⟩ := hf it (by simp)
    have hg : x.cps.size ≤ i := hg
    exact pyNext_enumS_end (I.ok.hd hc) hy he hit (Array.getElem?_eq_none hg) fun h' eb => ⟨rfl, I.turned (t' := s.toks) (fun b o hb q => eb b o hb q) f0 f1 f3 f4 f5⟩
  self := fun A i s Q E st h => let ⟨⟨_, he⟩, _⟩ := st; wpAny_pyIter_enum he h
def iEnumS (ta : TA) : TI := fun σ H R => ta σ H fun vs H1 => ∃ x, vs = [.str x] ∧ R (IteS x) H1
theorem pi_enumS {X : Cx} {e : Expr} {ta : TA} {p pos tpos : Pos} {elts : List Expr} {kk : Nat} (hg : Gl X "enumerate") (hm : X.mg "enumerate" = none) (ha : PA X [e] ta) (hs : starEach [e] X.env = [(false, eval e X.env)] := by rfl) :
    PI X (.Tuple elts kk tpos) (.Call (.Name "enumerate" p) [e] [] pos) (iEnumS ta) := by
  refine ⟨fun pins s σ H R I h => ?_⟩
  refine Call_ (ld_blt I hg hm boot_enumerate (PyProof.Rows.callWith_type1 (thn (ha.run pos pins s σ H _ I h) fun us s1 ⟨vs, H1, I1, r1, q1⟩ => ?_) hs rfl))
  obtain ⟨x, ex, q⟩ := q1
  subst ex
  obtain ⟨u, rfl, ra⟩ := vals1 r1
  obtain ⟨t, rfl⟩ := ra
  refine call_enumerate_str fun h' he hit hsz hk => wpAny_pyIter_enum he ?_
  have I2 : Inv X pins σ H1 { s1 with heap := h' } := I1.kept (t' := s1.toks) hk
  refine ⟨s1.heap.objs.size + 1, [s1.heap.objs.size + 1, s1.heap.objs.size], _, _, H1, rfl, I2, turn_enumS (strTy x) (s1.heap.objs.size + 1) s1.heap.objs.size, ⟨⟨.none, he⟩, hit, Nat.succ_ne_self _⟩, fun b hb => ?_, q⟩
  have hle : s1.heap.objs.size ≤ b := by
    rcases two hb with z | z <;> (rw [z]; omega)
  exact I1.fpOk hle (I1.hok.fresh hle)
section
variable {p : Par} {τ : List Sl} {e : Expr} {pos pp tpos : Pos} {elts : List Expr} {kk : Nat}
def sgnsOf (x : Str) : List Str := x.cps.toList.map sgn
theorem ix_enumS {x : Str} (hg : p.sc.names.lookup ("enumerate" : Str) = some .globalImplicit) (hm : p.mg "enumerate" = none) (ha : PX p e τ (.sh x)) (hs : ∀ env, starEach [e] env = [(false, eval e env)] := by intro _; rfl) :
    IX p (.Tuple elts kk tpos) (.Call (.Name "enumerate" pp) [e] [] pos) τ ((enumL (sgnsOf x)).map fun z => .sh z) := fun B0 H0 B H σ ok R q => by
  refine ⟨iEnumS (tCons (EE p e) tNil), fun X hX => ?_, ha B0 H0 B H σ ok _ fun B1 H1 v x1 r1 => ?_⟩
  · have hX' := hX
    obtain ⟨k, rfl, _⟩ := hX'
    exact pi_enumS hg hm (pa_cons (ee hX) pa_nil (hs _)) (hs _)
  · refine ⟨x, by rw [r1.1], q B1 H1 _ x1 fun B2 H2 s1 s2 => ⟨fun i s hi => ?_, ?_⟩⟩
    · obtain ⟨z, hz, rfl⟩ := items_at hi
      obtain ⟨hx, hi1⟩ := enumL_get hz
      unfold sgnsOf at hx
      rw [List.getElem?_map] at hx
      obtain ⟨c, hc, e⟩ := Option.map_eq_some_iff.mp hx
      have hlt := lt_of_get hc
      refine ⟨by show i < x.cps.size; simpa using hlt, fun y H' hy => ?_⟩
      obtain ⟨T, c', rfl, hT, rfl, hc'⟩ := hy
      rw [← Array.getElem?_toList, hc] at hc'
      cases hc'
      have x4 := Ext.laid (o := .tup [.int (i : Nat), .str { cps := #[c] }]) s2 hT
      have sg : SG z.2 := by rw [← e]; exact sg_sgn r1.2 (List.mem_of_getElem? hc)
      exact ⟨_, x4, T, _, _, rfl, upd_same, by rw [hi1]; rfl, by rw [← e]; rfl, sg⟩
    · show x.cps.size ≤ _
      rw [List.length_map]
      unfold enumL sgnsOf
      rw [List.length_zip]
      unfold rng
      rw [List.length_map, List.length_range, List.length_map, Array.length_toList]
      omega
theorem ix_enumL {α : Type} [Py α] {xs : List α} (hg : p.sc.names.lookup ("enumerate" : Str) = some .globalImplicit) (hm : p.mg "enumerate" = none) (ha : PX p e τ (.sh xs)) (hs : ∀ env, starEach [e] env = [(false, eval e env)] := by intro _; rfl) :
    IX p (.Tuple elts kk tpos) (.Call (.Name "enumerate" pp) [e] [] pos) τ ((enumL xs).map fun z => .sh z) := fun B0 H0 B H σ ok R q => by
  refine ⟨iEnum p.K (tCons (EE p e) tNil), fun X hX => ?_, ha B0 H0 B H σ ok _ fun B1 H1 v x1 r1 => ?_⟩
  · have hX' := hX
    obtain ⟨k, rfl, _⟩ := hX'
    exact pi_enum hg hm (pa_cons (ee hX) pa_nil (hs _)) (hs _)
  · obtain ⟨c, ob, e1, hc, vs, e2, r⟩ := (show rep p.K B1 v xs from r1)
    subst e2
    have hc := hc.lst
    refine ⟨c, vs, by rw [e1], .of (x1.bh _ _ hc), q B1 H1 _ x1 fun B2 H2 s1 s2 => ⟨fun i s hi => ?_, vs, .of (s2 _ _ (s1 _ _ hc)), ?_⟩⟩
    · obtain ⟨z, hz, rfl⟩ := items_at hi
      obtain ⟨hx, hi1⟩ := enumL_get hz
      obtain ⟨v1, hv1, rv1⟩ := r.get hx
      refine ⟨⟨vs, v1, .of (s2 _ _ (s1 _ _ hc)), hv1⟩, fun y H' hy => ?_⟩
      obtain ⟨T, a, rfl, hT, rfl, g1⟩ := hy
      have ea := (g1 vs (.of (s2 _ _ (s1 _ _ hc)))).symm.trans hv1
      cases ea
      have x4 := Ext.laid (o := .tup [.int (i : Nat), v1]) s2 hT
      exact ⟨_, x4, T, _, v1, rfl, upd_same, by rw [hi1]; rfl, Py.mono (.of (s1.trans x4.bb)) rv1⟩
    · rw [List.length_map, r.length]
      unfold enumL
      rw [List.length_zip]
      unfold rng
      rw [List.length_map, List.length_range]
      omega
end
/-! ### x is True -/
theorem c_isB {p : Par} {i j : Bool} : Cmp2 p .Is i j (decide (i = j)) := ⟨_, fun _ _ => op_isBl, fun _ _ v u Q _ r1 r2 q => ⟨i, j, r1, r2, q⟩⟩
theorem c_notB {p : Par} {i j : Bool} : Cmp2 p .IsNot i j (!decide (i = j)) := ⟨_, fun _ _ => op_notBl, fun _ _ v u Q _ r1 r2 q => ⟨i, j, r1, r2, q⟩⟩
theorem opt_nb (o : Option Int) : kitB (Ty.tn o) "bool" = some false := by
  cases o with
  | none => show kitB "NoneType" "bool" = _; decide +kernel
  | some a => show kitB "int" "bool" = _; decide +kernel
end Ly

namespace Ly
open PySem PySem.Spec PyProof.Rows L2
open Py
/-! ### list(reversed(xs)) -/
section
variable {prog : Program} {w : World} {A : Around} {E : Value → Shared → Prop} {s : Shared}
theorem extend_rev {R : Result → Shared → Prop} {it l : Addr} {items : Array Value} (hh : A.handled = none) (hit : s.heap.IsRevIter it l ((items.size : Int) - 1)) (hl : s.heap.IsList l items) (hne : l ≠ it) (hn : items.size ≤ sizeLine)
    (S : Addr) (res : Value) (c₀ : Nat) (hSi : S ≠ it) (hSl : S ≠ l) (hS : s.heap.get? S = some { cls := .type "list", data := .seq #[] c₀ })
    (hR : ∀ h' tk acc' c', (∀ b o, b ≠ S → b ≠ it → s.heap.get? b = some o → h'.get? b = some o) → h'.get? S = some { cls := .type "list", dict := none, data := .seq acc' c', slots := #[] } →
      ItemsOf (fun i v => items[items.size - 1 - i]? = some v) acc' items.size → R (.ok (.ret res)) { s with heap := h', toks := tk }) :
    wpAny (model prog w) A.in1 (Builtin.List.listExtendWith (.ref S) (.ref it) res)
      (fun fin s' => match fin with | .done f => R (.ok f) s' | .again c' => c'.quiet = true ∧ codeAny (model prog w) A c' R s') (fun e s' => R (.error e) s') s := by
  have W := (Walks.listRev (prog := prog) (w := w) (A := A.in1) hh it l hne items).toS
  have hSf : S ∉ [it, l] := by simp only [List.mem_cons, List.not_mem_nil, or_false, not_or]; exact ⟨hSi, hSl⟩
  have hT : s.TypeIs (.ref it) "list_reverseiterator" := hit.typeIs
  have h1 : Builtin.List.listSameRef (.ref S) (.ref it) = false := by simp [Builtin.List.listSameRef, hSi]
  unfold Builtin.List.listExtendWith
  refine wpAny_bind (wpAny_typeOf hT ?_)
  rw [if_neg (by rw [h1]; decide)]
  refine wpAny_bind (wpAny_pyIter_revIter hit ?_)
  refine wpAny_bind (wpAny_holding ?_)
  unfold Builtin.List.listLengthHint
  refine wpAny_bind (wpAny_specialOf hT RT.nolen_lri ?_)
  show wpAny _ A.in1 (specialOf (Value.ref it) (Str.ofString "__length_hint__") >>= _) _ _ _
  refine wpAny_bind (wpAny_specialOf hT RT.hint_lri ?_)
  generalize hid : ("list_reverseiterator.__length_hint__" : String) = id0
  wp_delta
  rw [show splitId id0 = some ("list_reverseiterator", "__length_hint__") from by subst hid; decide +kernel]
  subst hid
  refine wpAny_bind (wpAny_isInstance (b := true) hT (by rw [isSubtype_type]; kernel_rfl) ?_)
  refine wpAny_pure ?_
  rw [if_neg (by decide)]
  have e0 : ((items.size : Nat) : Int) - 1 - ((0 : Nat) : Int) = (items.size : Int) - 1 := by omega
  refine wpAny_pure ⟨plainId_quiet F.plain_extend_loop _, codeAny_extend_loopS W hn S hSf res items.size 0 _ _ _ rfl (Nat.zero_le _) ⟨Nat.zero_le _, by rw [e0]; exact hit, hl⟩ hS (ItemsOf.nil _) fun s' acc' c' hm hS' hacc => ?_⟩
  rw [Moved.eq_with hm]
  refine hR s'.heap s'.toks acc' c' (fun b o hb hb2 e => hm.heap b o (fun hmem => ?_) e) hS' hacc
  rcases List.mem_cons.mp hmem with e' | hmem
  · exact hb e'
  · exact hb2 (List.mem_singleton.mp hmem)
theorem list_init_rev {R : Result → Shared → Prop} {it l : Addr} {items : Array Value} (hh : A.handled = none) (hit : s.heap.IsRevIter it l ((items.size : Int) - 1)) (hl : s.heap.IsList l items) (hne : l ≠ it) (hn : items.size ≤ sizeLine)
    (S : Addr) (hSi : S ≠ it) (hSl : S ≠ l) (hS : s.heap.get? S = some { cls := .type "list", data := .seq #[] })
    (hR : ∀ h' tk acc' c', (∀ b o, b ≠ S → b ≠ it → s.heap.get? b = some o → h'.get? b = some o) → h'.get? S = some { cls := .type "list", dict := none, data := .seq acc' c', slots := #[] } →
      ItemsOf (fun i v => items[items.size - 1 - i]? = some v) acc' items.size → R (.ok (.ret .none)) { s with heap := h', toks := tk }) :
    wpAny (model prog w) A.in1 (Builtin.«list.__init__» ⟨[.ref S, .ref it], []⟩)
      (fun fin s' => match fin with | .done f => R (.ok f) s' | .again c' => c'.quiet = true ∧ codeAny (model prog w) A c' R s') (fun e s' => R (.error e) s') s := by
  show wpAny _ _ (do let old ← Builtin.List.listItems (.ref S); Builtin.List.listUpdate (.ref S) (fun _ => #[]); letGo old.toList.reverse; Builtin.List.listExtendWith (.ref S) (.ref it) .none) _ _ s
  refine wpAny_bind ?_
  unfold Builtin.List.listItems
  refine wpAny_bind (wpAny_seqItems hS rfl (wpAny_pure ?_))
  show wpAny _ _ (updateSeq S (fun _ => #[]) >>= fun _ => letGo (#[] : Array Value).toList.reverse >>= fun _ => Builtin.List.listExtendWith (.ref S) (.ref it) .none) _ _ s
  refine wpAny_bind (wpAny_updateSeq hS rfl ?_)
  have hS₂ := Heap.get?_update_self (Obj.mapSeq (fun _ => (#[] : Array Value))) hS rfl
  have oth : ∀ b o, b ≠ S → s.heap.get? b = some o → (s.heap.update S (Obj.mapSeq (fun _ => (#[] : Array Value)))).get? b = some o :=
    fun b o hb e => (Heap.get?_update_other _ _ (Ne.symm hb)).trans e
  refine wpAny_bind (wpAny_letGo ?_)
  refine extend_rev hh (hit.at fun o e => oth it o (Ne.symm hSi) e) (by obtain ⟨o, e, r⟩ := hl; exact ⟨o, oth l o (Ne.symm hSl) e, r⟩) hne hn S .none _ hSi hSl hS₂ fun h' tk acc' c' hk hS' hacc => ?_
  exact hR h' tk acc' c' (fun b o hb hb2 e => hk b o hb hb2 (oth b o hb e)) hS' hacc
theorem call_list_rev {Q : Value → Shared → Prop} {it l : Addr} {items : Array Value} (hh : A.handled = none) (hit : s.heap.IsRevIter it l ((items.size : Int) - 1)) (hl : s.heap.IsList l items) (hne : l ≠ it) (hn : items.size ≤ sizeLine)
    (hQ : ∀ h' tk acc' c', (∀ b o, b ≠ it → s.heap.get? b = some o → h'.get? b = some o) →
      h'.get? s.heap.objs.size = some { cls := .type "list", dict := none, data := .seq acc' c', slots := #[] } → ItemsOf (fun i v => items[items.size - 1 - i]? = some v) acc' items.size → Q (.ref s.heap.objs.size) { s with heap := h', toks := tk }) :
    wpAny (model prog w) A (call (.type "list") [.ref it]) Q E s := by
  refine callType_codes (Q₁ := fun obj s₁ => obj = .ref s.heap.objs.size ∧ s₁ = { s with heap := s.heap.push { cls := .type "list", data := .seq #[] } }) F.called_list (F.typeCall_list_1 _) F.entry_list_init
    (code_list_new _ ⟨rfl, rfl⟩) fun obj s₁ h₁ => ?_
  obtain ⟨rfl, rfl⟩ := h₁
  have hS : (s.heap.push { cls := .type "list", data := .seq #[] }).get? s.heap.objs.size = some { cls := .type "list", data := .seq #[] } := Heap.get?_push_size _ rfl
  obtain ⟨oi, hoi, _⟩ := id hit
  obtain ⟨ol, hol, _⟩ := id hl
  refine ⟨⟨_, hS, rfl⟩, F.args_list_init_2 _ _, list_init_rev (A := A.in1) hh (hit.at fun o e => Heap.get?_push_of_some _ e) (hl.push _) hne hn _ (Nat.ne_of_gt (Heap.lt_size hoi)) (Nat.ne_of_gt (Heap.lt_size hol)) hS fun h' tk acc' c' hk hS' hacc => ?_⟩
  exact ⟨rfl, hQ h' tk acc' c' (fun b o hb e => hk b o (Nat.ne_of_lt (Heap.lt_size e)) hb (Heap.get?_push_of_some _ e)) hS' hacc⟩
end
def tListRev (K : PySem.W.Frag) (ta : TE) : TE := fun σ H Q => ta σ H fun x H1 => ∃ a xs, x = .ref a ∧ SqL K H1 a xs ∧ ∀ q, H1 q = none → Q (.ref q) (upd H1 q (.lst xs.reverse))
theorem vals_rev {xs : List V} {its : List Value} {acc : Array Value} (r : Vals xs its) (h : ItemsOf (fun i v => its.toArray[its.toArray.size - 1 - i]? = some v) acc its.toArray.size) : Vals xs.reverse acc.toList := by
  have hl := r.length
  have hs : its.toArray.size = its.length := by simp
  have e : acc.toList = its.reverse := by
    refine List.ext_getElem? fun j => ?_
    by_cases hj : j < its.length
    · have hj' : j < acc.size := by rw [h.1, hs]; exact hj
      have := h.2 j acc[j] (Array.getElem?_eq_getElem hj')
      rw [hs] at this
      rw [Array.getElem?_toList, Array.getElem?_eq_getElem hj', List.getElem?_reverse hj, ← this]
      simp
    · rw [List.getElem?_eq_none (by rw [Array.length_toList, h.1, hs]; omega), List.getElem?_eq_none (by rw [List.length_reverse]; omega)]
  rw [e]
  exact r.reverse
theorem pe_listRev {X : Cx} {e : Expr} {ta : TE} {p p2 pos pos2 : Pos} (hc : X.calm = true) (hg : Gl X "list") (hm : X.mg "list" = none) (hg2 : Gl X "reversed") (hm2 : X.mg "reversed" = none) (ha : PE X e ta)
    (na2 : starEach [e] X.env = (false, eval e X.env) :: starEach [] X.env) (na : starEach [.Call (.Name "reversed" p2) [e] [] pos2] X.env = (false, eval (.Call (.Name "reversed" p2) [e] [] pos2) X.env) :: starEach [] X.env) :
    PE X (.Call (.Name "list" p) [.Call (.Name "reversed" p2) [e] [] pos2] [] pos) (tListRev X.K ta) := by
  refine ⟨fun pins s σ H Q I h => ?_⟩
  have inner : wpAny (model X.prog X.w) X.A (eval (.Call (.Name "reversed" p2) [e] [] pos2) X.env) (fun x s1 => ∃ it a xs H1 its, x = .ref it ∧ Inv X pins σ H1 s1 ∧ FpOk X pins H1 it ∧ Vals xs its ∧ xs.length ≤ sizeLine ∧ s1.heap.IsRevIter it a ((its.toArray.size : Int) - 1) ∧ s1.heap.IsList a its.toArray ∧ a ≠ it ∧ ∀ q, H1 q = none → Q (.ref q) (upd H1 q (.lst xs.reverse))) X.xe s := by
    refine Call_ (ld_blt I hg2 hm2 PyProof.Rows.boot_reversed (PyProof.Rows.callWith_type1 (one_arg ha I h (fun v s2 x H2 I2 r q => ?_) na2) na2))
    obtain ⟨a, xs, rfl, hq, q⟩ := q
    cases r
    obtain ⟨its, rv, pl, hz⟩ := I2.list hq
    obtain ⟨ol, hol, _⟩ := id pl.isList
    refine call_reversed_list pl.isList ⟨s2.heap.objs.size, a, xs, H2, its, rfl, I2.kept (t' := s2.toks) fun b o e => Heap.get?_push_of_some _ e, I2.fpOk (Nat.le_refl _) (I2.hok.fresh (Nat.le_refl _)), rv, hz, ⟨_, Heap.get?_push_size _ rfl, rfl, rfl⟩, pl.isList.push _, Nat.ne_of_lt (Heap.lt_size hol), q⟩
  refine Call_ (ld_blt I hg hm boot_list (PyProof.Rows.callWith_type1 (args_cons (thn inner fun x s1 ⟨it, a, xs, H1, its, ex, I1, fp, rv, hz, hit, hl, hne, q⟩ => args_nil ?_) na) na))
  subst ex
  refine call_list_rev (I1.ok.hd hc) hit hl hne (by rw [List.size_toArray, ← rv.length]; exact hz) fun h' tk acc c' hk e' hi => ?_
  refine ⟨.ref s1.heap.objs.size, upd H1 s1.heap.objs.size (.lst xs.reverse), I1.turnedNew (ch := [it]) (fun b o hb e => hk b o (by simpa using hb) e) (fun b hb => by rw [List.mem_singleton.mp hb]; exact fp) (Nat.le_refl _) (show ObjOk X.prog X.w _ _ _ (.lst xs.reverse) from ⟨?_, acc.toList, c', vals_rev rv hi, ?_⟩), rfl, q _ (I1.hok.fresh (Nat.le_refl _))⟩
  · rw [List.length_reverse]; exact hz
  · rw [Array.toArray_toList]; exact e'
theorem px_listRev {p : Par} {τ : List Sl} {e : Expr} {α : Type} [Py α] {xs : List α} {pp p2 pos pos2 : Pos} (hg : p.sc.names.lookup ("list" : Str) = some .globalImplicit) (hm : p.mg "list" = none) (hg2 : p.sc.names.lookup ("reversed" : Str) = some .globalImplicit) (hm2 : p.mg "reversed" = none)
    (ha : PX p e τ (.sh xs)) (na2 : ∀ env, starEach [e] env = [(false, eval e env)] := by intro _; rfl) (na : ∀ env, starEach [.Call (.Name "reversed" p2) [e] [] pos2] env = [(false, eval (.Call (.Name "reversed" p2) [e] [] pos2) env)] := by intro _; rfl) :
    PX p (.Call (.Name "list" pp) [.Call (.Name "reversed" p2) [e] [] pos2] [] pos) τ (.ow xs.reverse) := fun B0 H0 B H σ ok Q q => by
  refine ⟨tListRev p.K (EE p e), fun X hX => ?_, ha B0 H0 B H σ ok _ fun B1 H1 v x1 r1 => ?_⟩
  · have hX' := hX
    obtain ⟨k, rfl, hc, _⟩ := hX'
    exact pe_listRev hc hg hm hg2 hm2 (ee hX) (na2 _) (na _)
  · obtain ⟨c, ob, e1, hc, vs, e2, r⟩ := r1
    subst e2
    refine ⟨c, vs, e1, .of (x1.bh _ _ hc.lst), fun l hl => ?_⟩
    refine q B1 _ _ (x1.trans (Ext.made x1.bh hl)) ?_
    exact (vow ⟨l, .lst vs.reverse, rfl, hl, x1.bh.free hl, upd_same, vs.reverse, rfl, r.reverse⟩ : Vok p.K B1 (upd H1 l (.lst vs.reverse)) H1 (.ref l) (.ow xs.reverse)).base x1.hh
/-! ### x[i], x a name's own list -/
theorem px_ixO {p : Par} {m : Nat} {τ : List Sl} {b : Expr} {pos : Pos} (G : Gd p m) (i0 : Nat) {α : Type} [Py α] {xs : List α} {i : Int} {y : α} {x : Str} {px : Pos} (hN : p.N[i0]? = some x) (hi : i0 < m) (hτ : τ[i0]? = some (.ow xs)) (hb : PX p b τ (.sh i)) (hk : atI xs i = some y) (hp : PlainIx b) :
    PX p (.Subscript (.Name x px) b pos) τ (.sh y) := fun B0 H0 B H σ ok Q q => by
  obtain ⟨q0, ob, e1, n0, nb, hq, vs, e2, r⟩ := ok.own hτ
  subst e2
  refine ⟨tOp (rIxL p.K) (tVar i0) (EE p b), fun X hX => ?_, ⟨_, e1, hb B0 H0 B H σ ok _ fun B2 H2 v2 x2 r2 => ?_⟩⟩
  · have hX' := hX
    obtain ⟨k, rfl, _⟩ := hX'
    exact pe_ix L2.ix_list (pe_var hN (G.vs hN hi) (G.ok x (List.mem_of_getElem? hN)).1 (G.ok x (List.mem_of_getElem? hN)).2) (ee hX) hp
  · unfold atI at hk
    obtain ⟨j, hj, hk⟩ := Option.bind_eq_some_iff.mp hk
    obtain ⟨v, hv, r3⟩ := r.get hk
    refine ⟨q0, vs, i, v, rfl, r2, .of (x2.hh _ _ hq), ?_, q B2 H2 v x2 (Py.mono (.of x2.bb) r3)⟩
    unfold atI
    rw [r.length, hj]; exact hv
end Ly

namespace Ly
open PySem PySem.Spec PyProof.Rows L2
open Py
/-! ### a told pair of a list and None, or None and a list; the list is its own -/
inductive Two (α β : Type)
  | fst (xs : List α)
  | snd (ys : List β)
section
variable {α β : Type} [Py α] [Py β]
def twoOwn (K : PySem.W.Frag) (B H : Hp) (p q : Addr) : Two α β → Prop
  | .fst xs => B p = some (.tup [.ref q, .non]) ∧ ∃ vs, H q = some (.lst vs) ∧ All2 (rep K B) vs xs
  | .snd ys => B p = some (.tup [.non, .ref q]) ∧ ∃ vs, H q = some (.lst vs) ∧ All2 (rep K B) vs ys
instance twoOd : Od (Two α β) := ⟨fun K B H p x F => ∃ q, F = [q] ∧ twoOwn K B H p q x,
  fun {K B H p x F} ⟨q, e, h⟩ a m => by
    rw [e] at m
    rw [List.mem_singleton.mp m]
    cases x with
    | fst xs => obtain ⟨_, vs, h, _⟩ := h; exact ⟨_, h, fun xs z => by cases z⟩
    | snd ys => obtain ⟨_, vs, h, _⟩ := h; exact ⟨_, h, fun xs z => by cases z⟩,
  fun {K B H B' H' p x F} l s ⟨q, e, h⟩ => ⟨q, e, by
    have sq := s q (by rw [e]; exact List.mem_singleton_self _)
    cases x with
    | fst xs => obtain ⟨h1, vs, h2, h3⟩ := h; exact ⟨l.tup h1, vs, by rw [sq]; exact h2, h3.imp fun _ _ g => Py.mono l g⟩
    | snd ys => obtain ⟨h1, vs, h2, h3⟩ := h; exact ⟨l.tup h1, vs, by rw [sq]; exact h2, h3.imp fun _ _ g => Py.mono l g⟩⟩⟩
instance [Imm α] [Imm β] : ImmO (Two α β) := ⟨fun {K B H B' p x F} l ⟨q, e, h⟩ => ⟨q, e, by
  cases x with
  | fst xs => obtain ⟨h1, vs, h2, h3⟩ := h; exact ⟨l _ _ h1, vs, h2, h3.imp fun _ _ g => Imm.keep l g⟩
  | snd ys => obtain ⟨h1, vs, h2, h3⟩ := h; exact ⟨l _ _ h1, vs, h2, h3.imp fun _ _ g => Imm.keep l g⟩⟩⟩
def twoRd : Two α β → Option (List α) × Option (List β)
  | .fst xs => (some xs, none)
  | .snd ys => (none, some ys)
instance twoPub : Pub (Two α β) (Option (List α) × Option (List β)) := ⟨twoRd, fun {K B H p x F} n ⟨q, e, h⟩ => by
  have hb : Same B (over B H F) := over_same n
  cases x with
  | fst xs =>
    obtain ⟨h1, vs, h2, h3⟩ := h
    refine ⟨p, .ref q, .non, rfl, hb _ _ h1, ⟨q, _, rfl, .of (by rw [over_in (by rw [e]; exact List.mem_singleton_self _)]; exact h2), vs, rfl, h3.imp fun _ _ g => Py.mono (.of hb) g⟩, rfl⟩
  | snd ys =>
    obtain ⟨h1, vs, h2, h3⟩ := h
    refine ⟨p, .non, .ref q, rfl, hb _ _ h1, rfl, ⟨q, _, rfl, .of (by rw [over_in (by rw [e]; exact List.mem_singleton_self _)]; exact h2), vs, rfl, h3.imp fun _ _ g => Py.mono (.of hb) g⟩⟩⟩
end
section
variable {p : Par} {m : Nat} {τ τ1 : List Sl} {R : Post} {st : Stmt} {rest : List Stmt} {e : Expr} {pos pos' : Pos} {α β : Type} [Py α] [Py β]
theorem px_lendRT (i : Nat) {x : Two α β} {s : Sl} (hi : τ[i]? = some (.ow x)) (h : PX p e (τ.set i (.sh (twoRd x))) s) (hs : s.imm) : PX p e τ s := px_lendD (γ := Option (List α) × Option (List β)) i hi hs h
theorem pt_lendT (i : Nat) {x : Two α β} {c : Bool} (hi : τ[i]? = some (.ow x)) (h : PTx p e (τ.set i (.sh (twoRd x))) c) : PTx p e τ c := pt_lendD (γ := Option (List α) × Option (List β)) i hi h
theorem px_pubT {x : Two α β} (h : PX p e τ (.ow x)) : PX p e τ (.sh (twoRd x)) := fun B0 H0 B H σ ok Q q =>
  h B0 H0 B H σ ok Q fun B1 H1 v x1 r1 => by
    obtain ⟨F, c, rfl, n, own⟩ := r1
    have hb : Same B1 (over B1 H1 F) := over_same fun a m => (n a m).2
    obtain ⟨o, own2⟩ := own
    refine q (over B1 H1 F) H1 _ ⟨?_, x1.hh, x1.bb.trans hb, fun a o e nw t => ?_⟩ (show rep p.K (over B1 H1 F) (.ref c) (twoRd x) from Pub.pub (b := x) (fun a m => (n a m).2) ⟨o, own2⟩)
    · intro a o e
      by_cases z : a ∈ F
      · rw [over_in z] at e; exact e
      · rw [over_out z] at e; exact x1.bh _ _ e
    · by_cases z : a ∈ F
      · have := (n a z).1
        rw [nw] at this; cases this
      · rw [over_out z]; exact x1.nw a o e nw t
/-- return (None, x), x a name's own list -/
theorem sx_retTwoS (G : Gd p m) (i : Nat) {ys : List β} {x : Str} {px tpos cpos : Pos} {u : Nat} {j : Nat} (hN : p.N[i]? = some x) (hi : i < m) (hτ : τ[i]? = some (.ow ys)) (hs : ∀ env, starEach [.Constant .none u cpos, .Name x px] env = [(false, eval (.Constant .none u cpos) env), (false, eval (.Name x px) env)])
    (hs2 : ∀ env, starEach [.Name x px] env = [(false, eval (.Name x px) env)]) (hR : R.rt (.ow (Two.snd ys : Two α β))) : SX p (.Return (some (.Tuple [.Constant .none u cpos, .Name x px] j tpos)) pos :: rest) τ R :=
  sx_cons (fun _ => False) (fun B0 H0 B H σ ok D em => by
    refine ⟨tRet (tTup (tCons (tC .non) (tCons (tVar i) tNil))), fun X hX => ?_, ?_⟩
    · have hX' := hX
      obtain ⟨k, rfl, _⟩ := hX'
      exact ps_ret (pe_tup (pa_cons pe_non (pa_cons (pe_var hN (G.vs hN hi) (G.ok x (List.mem_of_getElem? hN)).1 (G.ok x (List.mem_of_getElem? hN)).2) pa_nil (hs2 _)) (by rw [hs, hs2])))
    · obtain ⟨q, ob, e1, n0, nb, hq, vs, e2, r1⟩ := ok.own hτ
      subst e2
      refine ⟨_, e1, by show 2 ≤ sizeLine; decide, fun a na => ?_⟩
      have x2 := Ext.laid (o := .tup [.non, .ref q]) ok.bh na
      refine em.rt _ _ (.ref a) (.ow (Two.snd ys : Two α β)) (ok.ext.trans x2) ⟨[q], a, rfl, fun b mb => ?_, q, rfl, upd_same, vs, x2.hh _ _ hq, r1.imp fun _ _ g => Py.mono (.of x2.bb) g⟩ hR
      rw [List.mem_singleton.mp mb]
      exact ⟨n0, x2.nw q _ nb hq fun _ z => by cases z⟩) fun _ z => z.elim
/-- (e, None), e a new list -/
theorem px_twoF {xs : List α} {cpos : Pos} {u : Nat} {j : Nat} (h : PX p e τ (.ow xs)) (hs : ∀ env, starEach [e, .Constant .none u cpos] env = [(false, eval e env), (false, eval (.Constant .none u cpos) env)]) (hs2 : ∀ env, starEach [.Constant .none u cpos] env = [(false, eval (.Constant .none u cpos) env)]) :
    PX p (.Tuple [e, .Constant .none u cpos] j pos) τ (.ow (Two.fst xs : Two α β)) := fun B0 H0 B H σ ok Q q => by
  refine ⟨tTup (tCons (EE p e) (tCons (tC .non) tNil)), fun X hX => ?_, ?_⟩
  · exact pe_tup (pa_cons (ee hX) (pa_cons pe_non pa_nil (hs2 _)) (by rw [hs, hs2]))
  · refine h B0 H0 B H σ ok _ fun B1 H1 v x1 r1 => ⟨by show 2 ≤ sizeLine; decide, fun a na => ?_⟩
    obtain ⟨F, c, rfl, n, eF, ob, hc, vs, e2, r⟩ := r1
    subst e2
    have x2 := Ext.laid (o := .tup [.ref c, .non]) x1.bh na
    refine q _ _ _ (x1.trans x2) ⟨[c], a, rfl, fun b mb => ?_, c, rfl, upd_same, vs, x2.hh _ _ hc, r.imp fun _ _ g => Py.mono (.of x2.bb) g⟩
    rw [List.mem_singleton.mp mb]
    have := n c (by rw [eF]; exact List.mem_singleton_self _)
    exact ⟨this.1, x2.nw c _ this.2 hc fun _ z => by cases z⟩
end
end Ly

namespace Ly
open PySem PySem.Spec PyProof.Rows L2
open Py
/-! ### {k: v}, k a tuple -/
def tDisp1T (ta tb : TE) : TE := fun σ H Q => ∀ p, H p = none → tPairs [(ta, tb)] σ (upd H p (.dT [])) fun ps H2 => H2 p = some (.dT []) ∧ ∃ (b : Addr) (k : List Key) (v : V), ps = [(.ref b, v)] ∧ H2 b = some (.tup (k.map kV)) ∧ Q (.ref p) (upd H2 p (.dT [(k, v)]))
theorem pe_disp1T {X : Cx} {ka va : Expr} {ta tb : TE} {pos : Pos} (hu : X.A.units + 1 < cLine) (h : PPs X pos [some ka] [va] [(ta, tb)]) : PE X (.Dict [some ka] [va] pos) (tDisp1T ta tb) :=
  ⟨fun pins s σ H Q I h0 => by
    refine wpAny_Dict_any rfl rfl (by simp) (by show 1 ≤ 15; decide) ?_
    have I1 : Inv X pins σ (upd H s.heap.objs.size (.dT [])) { s with heap := s.heap.push { cls := Value.type "dict", data := Data.dict #[] } } :=
      Inv.laid I (fun x x_1 q => Heap.get?_push_of_some { cls := Value.type "dict", data := Data.dict #[] } q) (Nat.le_refl s.heap.objs.size) (dt_empty s.heap (Inv.big I))
    refine thn (h.run pins _ σ _ _ I1 (h0 _ (HOk.fresh I.hok (Nat.le_refl _)))) fun vs s1 g => ?_
    obtain ⟨ps, H2, I2, rv, hd, b, k, v, rfl, eb, q⟩ := g
    cases rv with
    | cons g t =>
    rename_i z0 vs'
    cases t
    obtain ⟨u, r⟩ := z0
    obtain ⟨r1, r2⟩ := g
    have r1 : RelV (.ref b) u := r1
    have r2 : RelV v r := r2
    cases r1
    unfold storeAll
    simp only [List.forIn_cons, List.forIn_nil]
    obtain ⟨z, hds, xs, rel, dd⟩ := dt_of I2.hok hd
    have hz : xs.length ≤ sizeLine := by rw [← Paired.length rel]; exact Nat.zero_le _
    refine wpAny_bind (wpAny_bind (wpAny_dictSet_heap (show X.A.units < cLine by omega) (key_of I2.hok eb) dd (fun h' dd' hs => ?_) hz))
    refine wpAny_pure (wpAny_pure ?_)
    refine ⟨.ref s.heap.objs.size, upd H2 s.heap.objs.size (.dT [(k, v)]), ?_, rfl, q⟩
    have he : ∃ q, h'.get? s.heap.objs.size = some q := by obtain ⟨q, es, ep, hq, _⟩ := dd'; exact ⟨q, hq⟩
    refine d_write I2 (by rw [hd]; trivial) hs he ?_
    have kt := (KT.put rel k eb r2).keeps (H' := upd H2 s.heap.objs.size (.dT [(k, v)])) fun c ys e => by
      rw [upd_ne (ne_of e hd (by simp))]; exact e
    obtain ⟨q, es, ep, h1, h2, h3, h4, h5⟩ := dd'
    exact ⟨by show 1 ≤ sizeLine; decide, hds, _, kt, q, es, ep, h1, h2, h3, h4, (by first | exact h5 | exact h5.1 | exact h5.2 | exact h5.2.1)⟩⟩
section
variable {p : Par} {τ τ1 : List Sl} {e a b o : Expr} {pos pos2 : Pos}
variable {κ α : Type} [Py κ] [DecidableEq κ] [KeyT κ] [Py α]
theorem px_disp1T {k : κ} {y : α} (ha : PX p a τ (.sh k)) (hb : PX p b τ (.sh y)) : PX p (.Dict [some a] [b] pos) τ (.ow (Dct.mk [(k, y)])) := fun B0 H0 B H σ ok Q q => by
  refine ⟨tDisp1T (EE p a) (EE p b), fun X hX => pe_disp1T (units1 hX) (pps_cons (ee hX) (ee hX) pps_nil), fun d nd => ?_⟩
  have x0 : Ext B H B (upd H d (.dT [])) := Ext.made ok.bh nd
  refine ha B0 H0 B _ σ (ok.go x0) _ fun B1 H1 v x1 r1 => hb B0 H0 B1 H1 σ ((ok.go x0).go x1) _ fun B2 H2 u x2 r2 => ?_
  have x12 := x1.trans x2
  have hd : H2 d = some (.dT []) := x12.hh _ _ upd_same
  have nb : B2 d = none := x12.nw d _ (ok.bh.free nd) upd_same fun xs z => by cases z
  obtain ⟨⟨c, e1, hc⟩, okk⟩ := KeyT.to (show rep p.K B1 v k from r1)
  have hc2 := x2.bb _ _ hc
  refine ⟨hd, c, KeyT.kt k, u, by rw [e1], x2.bh _ _ hc2, ?_⟩
  have x01 := x0.trans x12
  refine q B2 _ _ ⟨fun c u g => ?_, fun c u g => ?_, x01.bb, fun c o g n t => x01.nw c o g n t⟩ (vow ⟨d, _, rfl, nd, nb, upd_same, [(k, u)], rfl, .cons ⟨rfl, okk, r2⟩ .nil⟩)
  · rw [upd_ne (fun z => by rw [z, nb] at g; cases g)]; exact x01.bh c u g
  · rw [upd_ne (fun z => by rw [z, nd] at g; cases g)]; exact x01.hh c u g
end
end Ly

namespace Ly
open PySem PySem.Spec PyProof.Rows L2
open Py
/-! ### a list of dicts of its own: [{}, {}, {}]; xs[i][k] = y -/
section
variable {β : Type} [Od β]
theorem OwnS.at_ {K : PySem.W.Frag} {B H : Hp} : ∀ {vs : List V} {l : List β} {G : List Addr} {i : Nat} {b : β}, OwnS K B H vs l G → l[i]? = some b →
    ∃ q F, vs[i]? = some (.ref q) ∧ Od.own K B H q b F ∧ (∀ a ∈ F, a ∈ G) ∧ ∀ (H1 : Hp) (b' : β) (F2 : List Addr), (∀ a, a ∉ F → H a ≠ none → H1 a = H a) → (∀ a ∈ F2, a ∈ F ∨ H a = none) → Od.own K B H1 q b' F2 →
      ∃ G2, OwnS K B H1 vs (l.set i b') G2 ∧ ∀ a ∈ G2, a ∈ G ∨ H a = none
  | _, _, _, i, b, .nil, e => by simp at e
  | _, _, _, 0, b, @OwnS.cons _ _ _ _ _ q' b0 F G vs l r d t, e => by
    have : b0 = b := by simpa using e
    subst this
    refine ⟨q', F, rfl, r, fun a m => List.mem_append_left _ m, fun H1 b' F2 out inn r2 => ⟨F2 ++ G, ?_, fun a m => ?_⟩⟩
    · have t' := t.mono (H' := H1) (.refl B) fun a m => out a (fun mf => d a mf m) (by obtain ⟨o, h, _⟩ := t.lay a m; rw [h]; exact Option.some_ne_none o)
      refine .cons r2 (fun a m mg => ?_) t'
      rcases inn a m with w | w
      · exact d a w mg
      · obtain ⟨o, h, _⟩ := t.lay a mg
        rw [w] at h; cases h
    · rcases List.mem_append.mp m with m | m
      · exact (inn a m).imp (fun h => List.mem_append_left _ h) id
      · exact .inl (List.mem_append_right _ m)
  | _, _, _, i + 1, b, @OwnS.cons _ _ _ _ _ q' b0 F G vs l r d t, e => by
    obtain ⟨q, F1, e1, r1, s1, up⟩ := t.at_ (i := i) (by simpa using e)
    refine ⟨q, F1, by simpa using e1, r1, fun a m => List.mem_append_right _ (s1 a m), fun H1 b' F2 out inn r2 => ?_⟩
    obtain ⟨G2, t2, s2⟩ := up H1 b' F2 out inn r2
    refine ⟨F ++ G2, ?_, fun a m => ?_⟩
    · refine .cons (Od.dmono (.refl B) (fun a m => out a (fun mf => d a m (s1 a mf)) (by obtain ⟨o, h, _⟩ := Od.lay r a m; rw [h]; exact Option.some_ne_none o)) r) (fun a m mg => ?_) t2
      rcases s2 a mg with w | w
      · exact d a m w
      · obtain ⟨o, h, _⟩ := Od.lay r a m
        rw [w] at h; cases h
    · rcases List.mem_append.mp m with m | m
      · exact .inl (List.mem_append_left _ m)
      · exact (s2 a m).imp (fun h => List.mem_append_right _ h) id
end
section
variable {p : Par} {m : Nat} {τ τ1 : List Sl} {R : Post} {rest sts : List Stmt} {e e2 e3 a b c : Expr} {pos pos' pos2 : Pos}
/-- [e, e2, e3], each a new thing of its own -/
theorem px_dl3 {β : Type} [Od β] {x y z : β} (h1 : PX p e τ (.ow x)) (h2 : PX p e2 τ (.ow y)) (h3 : PX p e3 τ (.ow z)) (hs : ∀ env, starEach [e, e2, e3] env = [(false, eval e env), (false, eval e2 env), (false, eval e3 env)]) (hs2 : ∀ env, starEach [e2, e3] env = [(false, eval e2 env), (false, eval e3 env)]) (hs3 : ∀ env, starEach [e3] env = [(false, eval e3 env)]) :
    PX p (.List [e, e2, e3] pos) τ (.ow (DL.mk [x, y, z])) := fun B0 H0 B H σ ok Q q => by
  refine ⟨tLst (tCons (EE p e) (tCons (EE p e2) (tCons (EE p e3) tNil))), fun X hX => pe_lst (pa_cons (ee hX) (pa_cons (ee hX) (pa_cons (ee hX) pa_nil (hs3 _)) (by rw [hs2, hs3])) (by rw [hs, hs2])), ?_⟩
  refine h1 B0 H0 B H σ ok _ fun B1 H1 v1 x1 r1 => h2 B0 H0 B1 H1 σ (ok.go x1) _ fun B2 H2 v2 x2 r2 => h3 B0 H0 B2 H2 σ ((ok.go x1).go x2) _ fun B3 H3 v3 x3 r3 => ?_
  refine ⟨by show 3 ≤ sizeLine; decide, fun d nd => ?_⟩
  obtain ⟨F1, q1, rfl, n1, o1⟩ := r1
  obtain ⟨F2, q2, rfl, n2, o2⟩ := r2
  obtain ⟨F3, q3, rfl, n3, o3⟩ := r3
  have x12 := x1.trans x2
  have x123 := x12.trans x3
  have x23 := x2.trans x3
  have xm : Ext B3 H3 B3 (upd H3 d (.lst [.ref q1, .ref q2, .ref q3])) := Ext.made x3.bh nd
  have s1 := Od.dmono (.of (x23.trans xm).bb) ((x23.trans xm).keep (Od.lay o1)) o1
  have s2 := Od.dmono (.of (x3.trans xm).bb) ((x3.trans xm).keep (Od.lay o2)) o2
  have s3 := Od.dmono (.of xm.bb) (xm.keep (Od.lay o3)) o3
  have nb1 : ∀ a ∈ F1, B3 a = none := fun a m => by obtain ⟨o, h, t⟩ := Od.lay o1 a m; exact x23.nw a o (n1 a m).2 h t
  have nb2 : ∀ a ∈ F2, B3 a = none := fun a m => by obtain ⟨o, h, t⟩ := Od.lay o2 a m; exact x3.nw a o (n2 a m).2 h t
  have d12 : ∀ a ∈ F1, a ∉ F2 := fun a m m2 => by obtain ⟨o, h, _⟩ := Od.lay o1 a m; rw [(n2 a m2).1] at h; cases h
  have d13 : ∀ a ∈ F1, a ∉ F3 := fun a m m2 => by obtain ⟨o, h, _⟩ := Od.lay o1 a m; have := x2.hh a o h; rw [(n3 a m2).1] at this; cases this
  have d23 : ∀ a ∈ F2, a ∉ F3 := fun a m m2 => by obtain ⟨o, h, _⟩ := Od.lay o2 a m; rw [(n3 a m2).1] at h; cases h
  have nd1 : d ∉ F1 := fun m => by obtain ⟨o, h, _⟩ := Od.lay o1 d m; have := x23.hh d o h; rw [nd] at this; cases this
  have nd2 : d ∉ F2 := fun m => by obtain ⟨o, h, _⟩ := Od.lay o2 d m; have := x3.hh d o h; rw [nd] at this; cases this
  have nd3 : d ∉ F3 := fun m => by obtain ⟨o, h, _⟩ := Od.lay o3 d m; rw [nd] at h; cases h
  refine q B3 _ _ (x123.trans xm) ⟨d :: (F1 ++ (F2 ++ (F3 ++ []))), d, rfl, fun a m => ?_, [.ref q1, .ref q2, .ref q3], _, rfl, ?_, upd_same, .cons s1 ?_ (.cons s2 ?_ (.cons s3 (fun _ _ m => by cases m) .nil))⟩
  · rcases List.mem_cons.mp m with z | m
    · rw [z]; exact ⟨x123.hh.free nd, x3.bh.free nd⟩
    · rcases List.mem_append.mp m with m | m
      · exact ⟨(n1 a m).1, nb1 a m⟩
      · rcases List.mem_append.mp m with m | m
        · exact ⟨x1.hh.free (n2 a m).1, nb2 a m⟩
        · rw [List.append_nil] at m
          exact ⟨x12.hh.free (n3 a m).1, (n3 a m).2⟩
  · intro m
    rcases List.mem_append.mp m with m | m
    · exact nd1 m
    · rcases List.mem_append.mp m with m | m
      · exact nd2 m
      · rw [List.append_nil] at m; exact nd3 m
  · intro a m m2
    rcases List.mem_append.mp m2 with m2 | m2
    · exact d12 a m m2
    · rw [List.append_nil] at m2; exact d13 a m m2
  · intro a m m2
    rw [List.append_nil] at m2; exact d23 a m m2
variable {κ α : Type} [Py κ] [DecidableEq κ] [PKey κ] [Py α]
theorem sx_pubDLd (i : Nat) {d : DL (Dct κ α)} (hi : τ[i]? = some (.ow d)) (h : SX p sts (τ.set i (.sh d.l)) R) : SX p sts τ R :=
  sx_pubD (γ := List (Dct κ α)) i hi (by
    have e : (Pub.rd d : List (Dct κ α)) = d.l := map_idd d.l
    rw [e]; exact h)
theorem s_dldput (i : Nat) {d : DL (Dct κ α)} {j : Int} {k : κ} {u : Dct κ α} {y : α} {x : Str} {px : Pos} (hN : p.N[i]? = some x) (hv : Vis p.sc x) (hτ : τ[i]? = some (.ow d)) (hy : PX p e τ (.sh y)) (hj : PX p b τ (.sh j)) (hk : PX p c τ (.sh k)) (hu : 0 ≤ j ∧ d.l[j.toNat]? = some u) (hl : u.l.length < sizeLine)
    (hd : (x == ("__debug__" : Str)) = false) (hc : (x == ("__classdict__" : Str)) = false) (hsl : PlainIx b) (hs : ∀ env, swapsWith e (some (.Subscript (.Subscript (.Name x px) b pos2) c pos')) pos.line env = pure false) :
    D1 p (.Assign [.Subscript (.Subscript (.Name x px) b pos2) c pos'] e pos) τ (τ.set i (.ow (DL.mk (d.l.set j.toNat (Dct.mk (aput u.l k y)))))) := fun R hR B0 H0 B H σ ok D em => by
  refine ⟨sDPut (tOp (rIxL p.K) (tVar i) (EE p b)) (EE p c) (EE p e), fun X hX => ?_, hy B0 H0 B H σ ok _ fun B1 H1 v x1 r1 => ?_⟩
  · have hX' := hX
    obtain ⟨j, rfl, _⟩ := hX'
    exact ps_dput (units1 hX) (pe_ix L2.ix_list (pe_var hN hv hd hc) (ee hX) hsl) (ee hX) (ee hX) (hs _)
  · have ok1 := ok.go x1
    obtain ⟨fp, f, q, e1, n, own⟩ := ok1.ownF hτ
    refine ⟨_, e1, hj B0 H0 B1 H1 σ ok1 _ fun B2 H2 w x2 r2 => ?_⟩
    have ok2 := ok1.go x2
    have own2 := Od.dmono (.of x2.bb) (x2.keep (Od.lay own)) own
    obtain ⟨vs, G, e2, np, hq, ol⟩ := own2
    obtain ⟨q2, F, hv2, _, _, _⟩ := ol.at_ hu.2
    have hlen := ol.length
    have hjl := lt_of_get hu.2
    refine ⟨q, vs, j, V.ref q2, rfl, r2, .of hq, ?_, hk B0 H0 B2 H2 σ ok2 _ fun B3 H3 z x3 r3 => ?_⟩
    · have e0 : ixN vs.length j = some j.toNat := ixN_nat hu.1 (by omega)
      show (ixN vs.length j).bind _ = _
      rw [e0]; exact hv2
    · have ok3 := ok2.go x3
      have f3 := (f.ext x2).ext x3
      have hq3 := x3.hh _ _ hq
      have ol3 := ol.mono (.of x3.bb) (x3.keep ol.lay)
      obtain ⟨q3, F3, hv3, own3, s3, up⟩ := ol3.at_ hu.2
      rw [hv2] at hv3
      cases hv3
      obtain ⟨eF, ob, hq2, kvs2, e4, rr⟩ := own3
      subst e4
      have xx := x2.trans x3
      have y3 : rep p.K B3 v y := Py.mono (.of xx.bb) (show rep p.K B1 v y from r1)
      refine ⟨q2, _, rfl, PKey.put x3.bh hq2 r3 (by rw [rr.length]; exact hl), em.nx B3 _ _ _ ?_ hR⟩
      have ne : q2 ≠ q := fun z => np (by rw [← z]; exact s3 q2 (by rw [eF]; exact List.mem_singleton_self _))
      obtain ⟨G2, t2, s2⟩ := up (upd H3 q2 (PKey.obj (putK kvs2 k v))) (Dct.mk (aput u.l k y)) [q2] (fun a na hn => by rw [upd_ne (fun z => na (by rw [z, eF]; exact List.mem_singleton_self _))]) (fun a ma => .inl (by rw [eF]; exact ma))
        ⟨rfl, _, upd_same, _, rfl, dr_put rr (PKey.rok (show rep p.K B3 z k from r3)) y3⟩
      refine ok3.mutF f3 hτ e1 (G := q :: G2) (fun a na hn => ?_) (fun a ma => ?_) ⟨vs, G2, rfl, fun m => ?_, by rw [upd_ne (Ne.symm ne)]; exact hq3, t2⟩
      · rw [upd_ne (fun z => na (by rw [z, e2]; exact List.mem_cons_of_mem _ (s3 q2 (by rw [eF]; exact List.mem_singleton_self _))))]
      · rcases List.mem_cons.mp ma with z | ma
        · exact .inl (by rw [z, e2]; exact List.mem_cons_self)
        · exact (s2 a ma).imp (fun w => by rw [e2]; exact List.mem_cons_of_mem _ w) id
      · rcases s2 q m with w | w
        · exact np w
        · rw [hq3] at w; cases w
theorem sx_dldput (G : Gd p m) (i : Nat) {d : DL (Dct κ α)} {j : Int} {k : κ} {u : Dct κ α} {y : α} {x : Str} {px : Pos} (hN : p.N[i]? = some x) (hi : i < m) (hτ : τ[i]? = some (.ow d)) (hy : PX p e τ (.sh y)) (hj : PX p b τ (.sh j)) (hk : PX p c τ (.sh k)) (hu : 0 ≤ j ∧ d.l[j.toNat]? = some u) (hl : u.l.length < sizeLine)
    (hsl : PlainIx b) (hs : ∀ env, swapsWith e (some (.Subscript (.Subscript (.Name x px) b pos2) c pos')) pos.line env = pure false) (kk : SX p rest (τ.set i (.ow (DL.mk (d.l.set j.toNat (Dct.mk (aput u.l k y)))))) R) :
    SX p (.Assign [.Subscript (.Subscript (.Name x px) b pos2) c pos'] e pos :: rest) τ R :=
  sx_step (s_dldput i hN (G.vs hN hi) hτ hy hj hk hu hl (G.ok x (List.mem_of_getElem? hN)).1 (G.ok x (List.mem_of_getElem? hN)).2 hsl hs) kk
end
/-! ### a, b = x, y: two local names -/
section
variable {p : Par} {m : Nat} {τ : List Sl} {R : Post} {rest : List Stmt} {a b : Expr} {pos px py pt pt2 : Pos} {kt k2 : Nat}
theorem sx_par (G : Gd p m) (i j : Nat) {α β : Type} [Py α] [Py β] {v : α} {w : β} {x y : Str} (hi : p.N[i]? = some x) (hj : p.N[j]? = some y) (hij : i ≠ j) (lx : p.sc.names.lookup x = some .local) (ly : p.sc.names.lookup y = some .local)
    (h : PAx p [a, b] τ [.sh v, .sh w]) (hw : ∀ env : Env, env.scope = p.sc → swappedStores [.Tuple [.Name x px, .Name y py] kt pt] (.Tuple [a, b] k2 pt2) env = pure (some [x, y]))
    (hs : ∀ env, swapsWithSole [.Tuple [.Name x px, .Name y py] kt pt] (.Tuple [a, b] k2 pt2) pos.line env = pure false)
    (k : ∀ v' w', v' = v → w' = w → SX p rest ((τ.set i (.sh v')).set j (.sh w')) R) : SX p (.Assign [.Tuple [.Name x px, .Name y py] kt pt] (.Tuple [a, b] k2 pt2) pos :: rest) τ R :=
  sx_step (show D1 p (.Assign [.Tuple [.Name x px, .Name y py] kt pt] (.Tuple [a, b] k2 pt2) pos) τ ((τ.set i (.sh v)).set j (.sh w)) from fun R hR B0 H0 B H σ ok D em => by
    refine ⟨tPar i j (EA p [a, b]), fun X hX => ?_, h B0 H0 B H σ ok _ fun B1 H1 vs x1 r1 => ?_⟩
    · have hX' := hX
      obtain ⟨k, rfl, calm, _⟩ := hX'
      exact ps_par calm G.nd hi hj hij lx ly (ea hX) (hw _ rfl) (hs _)
    · cases r1 with
      | cons g1 r1 => cases r1 with
        | cons g2 r1 =>
          cases r1
          have ok1 := (ok.go x1).putN (i := i) (s := .sh v) (.refl x1.bh) (show rep p.K B1 _ v from g1)
          have ok2 := ok1.putN (i := j) (s := .sh w) (.refl x1.bh) (show rep p.K B1 _ w from g2)
          exact ⟨_, _, rfl, em.nx B1 H1 _ _ ok2 hR⟩) (k v w rfl rfl)
end
end Ly

namespace Ly
open PySem PySem.Spec PyProof.Rows L2
open Py
/-! ### x[k].m(), x[k].append(e): x a name's own pair of a list and None -/
section
variable {p : Par} {m : Nat} {τ τ1 : List Sl} {R : Post} {st : Stmt} {rest : List Stmt} {e : Expr} {pos pos' : Pos} {α β : Type} [Py α] [Py β]
theorem Ok.two {K : PySem.W.Frag} {B0 H0 B H : Hp} {σ : L2.St} {τ : List Sl} (h : Ok K B0 H0 B H σ τ) {i : Nat} {x : Two α β} (hi : τ[i]? = some (.ow x)) :
    ∃ p q, σ[i]? = some (some (.ref p)) ∧ H0 q = none ∧ B q = none ∧ twoOwn K B H p q x ∧
      ∀ (H1 : Hp) (x' : Two α β) (ws : List V), H1 = upd H q (.lst ws) → twoOwn K B H1 p q x' → Ok K B0 H0 B H1 σ (τ.set i (.ow x')) := by
  obtain ⟨fp, f⟩ := h.fps
  rcases f.at_ i _ hi with z | ⟨v, e, r⟩
  · cases z
  · obtain ⟨c, rfl, n, q, eF, ow⟩ := r
    have nq := n q (by rw [eF]; exact List.mem_singleton_self _)
    refine ⟨c, q, e, nq.1, nq.2, ow, fun H1 x' ws e1 o1 => ?_⟩
    subst e1
    refine h.mutF f hi e (G := [q]) (fun a m k => ?_) (fun a m => .inl (by rw [eF]; exact m)) ⟨q, rfl, o1⟩
    rw [upd_ne (fun z => m (by rw [eF, z]; exact List.mem_singleton_self _))]
theorem s_tw0 (k : Nat) (G : Gd p m) (i : Nat) {x x' : Two α β} {nm me : Str} {id : String} {r : V → List V → Hp → VK → Prop} {cj : Nat} {px cp sp apos cpos : Pos} (pa : PlainAttrs "list") (slot : Slot "list" me id) (hty : typeOf (.builtin id) = pure (.type "method_descriptor"))
    (hm : ∀ X, p.In X → MtR X id r) (hN : p.N[i]? = some nm) (hi : i < m) (hτ : τ[i]? = some (.ow x))
    (hw : ∀ B H c q, twoOwn p.K B H c q x → ∃ us, B c = some (.tup us) ∧ us[k]? = some (.ref q) ∧ (∃ vs, H q = some (.lst vs)) ∧ ∀ Q, (∀ z ws, twoOwn p.K B (upd H q (.lst ws)) c q x' → Q z (upd H q (.lst ws))) → r (.ref q) [] H Q)
    (hbase : ∀ env, attributeBase (.Subscript (.Name nm px) (.Constant (.int k) cj cp) sp) me env (eval (.Subscript (.Name nm px) (.Constant (.int k) cj cp) sp) env) = eval (.Subscript (.Name nm px) (.Constant (.int k) cj cp) sp) env)
    (hline : (apos.endLine == cpos.line) = true) (hsw : ∀ env, swapsWith (.Call (.Attribute (.Subscript (.Name nm px) (.Constant (.int k) cj cp) sp) me apos) [] [] cpos) none pos.line env = pure false) :
    D1 p (.Expr (.Call (.Attribute (.Subscript (.Name nm px) (.Constant (.int k) cj cp) sp) me apos) [] [] cpos) pos) τ (τ.set i (.ow x')) := fun R hR B0 H0 B H σ ok D em => by
  refine ⟨tDrop (tBM0 p.K "list" r (tOp (rIxT p.K) (tVar i) (tC (.int k)))), fun X hX => ?_, ?_⟩
  · have hX' := hX
    obtain ⟨k, rfl, _⟩ := hX'
    exact ps_expr (pe_bm0 pa slot hty (hm X hX) (pe_ix L2.ix_tup (pe_var hN (G.vs hN hi) (G.ok nm (List.mem_of_getElem? hN)).1 (G.ok nm (List.mem_of_getElem? hN)).2) pe_int (fun _ _ => rfl)) (hbase _) hline) (hsw _)
  · obtain ⟨c, q, e1, n0, nb, ow, up⟩ := ok.two hτ
    obtain ⟨us, hc, hu, ⟨vs, hq⟩, run⟩ := hw _ _ _ _ ow
    refine ⟨_, e1, c, us, k, .ref q, rfl, rfl, .of (ok.bh _ _ hc), atI_nat hu, .inl ⟨rfl, vs, .of hq⟩, run _ fun z ws o1 => ?_⟩
    exact em.nx _ _ _ _ (up _ x' ws rfl o1) hR
theorem s_tw1 (k : Nat) (G : Gd p m) (i : Nat) {x x' : Two α β} {nm me : Str} {id : String} {r : V → List V → Hp → VK → Prop} {cj : Nat} {px cp sp apos cpos : Pos} {γ : Type} [Py γ] {y : γ} (pa : PlainAttrs "list") (slot : Slot "list" me id) (hty : typeOf (.builtin id) = pure (.type "method_descriptor"))
    (hm : ∀ X, p.In X → MtR X id r) (hN : p.N[i]? = some nm) (hi : i < m) (hτ : τ[i]? = some (.ow x)) (he : PX p e τ (.sh y))
    (hw : ∀ B H c q, twoOwn p.K B H c q x → ∃ us, B c = some (.tup us) ∧ us[k]? = some (.ref q) ∧ (∃ vs, H q = some (.lst vs)) ∧ ∀ B1 H1 v Q, Same B B1 → H1 q = H q → rep p.K B1 v y → (∀ z ws, twoOwn p.K B1 (upd H1 q (.lst ws)) c q x' → Q z (upd H1 q (.lst ws))) → r (.ref q) [v] H1 Q)
    (hbase : ∀ env, attributeBase (.Subscript (.Name nm px) (.Constant (.int k) cj cp) sp) me env (eval (.Subscript (.Name nm px) (.Constant (.int k) cj cp) sp) env) = eval (.Subscript (.Name nm px) (.Constant (.int k) cj cp) sp) env)
    (hline : (apos.endLine == cpos.line) = true) (hs : ∀ env, starEach [e] env = [(false, eval e env)]) (hsw : ∀ env, swapsWith (.Call (.Attribute (.Subscript (.Name nm px) (.Constant (.int k) cj cp) sp) me apos) [e] [] cpos) none pos.line env = pure false) :
    D1 p (.Expr (.Call (.Attribute (.Subscript (.Name nm px) (.Constant (.int k) cj cp) sp) me apos) [e] [] cpos) pos) τ (τ.set i (.ow x')) := fun R hR B0 H0 B H σ ok D em => by
  refine ⟨tDrop (tBM p.K "list" r (tOp (rIxT p.K) (tVar i) (tC (.int k))) (tCons (EE p e) tNil)), fun X hX => ?_, ?_⟩
  · have hX' := hX
    obtain ⟨k, rfl, _⟩ := hX'
    exact ps_expr (pe_bm pa slot hty (hm X hX) (pe_ix L2.ix_tup (pe_var hN (G.vs hN hi) (G.ok nm (List.mem_of_getElem? hN)).1 (G.ok nm (List.mem_of_getElem? hN)).2) pe_int (fun _ _ => rfl)) (pa_cons (ee hX) pa_nil (hs _)) (hbase _) (by rw [hs]; rfl) hline (hs _) rfl) (hsw _)
  · obtain ⟨c, q, e1, n0, nb, ow, up⟩ := ok.two hτ
    obtain ⟨us, hc, hu, ⟨vs, hq⟩, run⟩ := hw _ _ _ _ ow
    refine ⟨_, e1, c, us, k, .ref q, rfl, rfl, .of (ok.bh _ _ hc), atI_nat hu, .inl ⟨rfl, vs, .of hq⟩, he B0 H0 B H σ ok _ fun B1 H1 v x1 r1 => ?_⟩
    have ok1 := ok.go x1
    obtain ⟨c', q', e1', n0', nb', ow', up'⟩ := ok1.two hτ
    rw [e1] at e1'
    cases e1'
    have eq : q' = q := by
      cases x with
      | fst xs =>
        obtain ⟨a1, _⟩ := ow'
        have a2 := x1.bb _ _ ow.1
        rw [a1] at a2; cases a2; rfl
      | snd xs =>
        obtain ⟨a1, _⟩ := ow'
        have a2 := x1.bb _ _ ow.1
        rw [a1] at a2; cases a2; rfl
    subst eq
    refine run B1 H1 v _ x1.bb (by rw [x1.hh _ _ hq, hq]) r1 fun z ws o1 => ?_
    exact em.nx _ _ _ _ (up' _ x' ws rfl o1) hR
section
variable {nm : Str} {cj : Nat} {px cp sp apos cpos : Pos}
/-- x[0].clear() -/
theorem sx_twClear (G : Gd p m) (i : Nat) {xs : List α} (hN : p.N[i]? = some nm) (hi : i < m) (hτ : τ[i]? = some (.ow (Two.fst xs : Two α β)))
    (hbase : ∀ env, attributeBase (.Subscript (.Name nm px) (.Constant (.int 0) cj cp) sp) "clear" env (eval (.Subscript (.Name nm px) (.Constant (.int 0) cj cp) sp) env) = eval (.Subscript (.Name nm px) (.Constant (.int 0) cj cp) sp) env)
    (hline : (apos.endLine == cpos.line) = true) (hsw : ∀ env, swapsWith (.Call (.Attribute (.Subscript (.Name nm px) (.Constant (.int 0) cj cp) sp) "clear" apos) [] [] cpos) none pos.line env = pure false)
    (k : SX p rest (τ.set i (.ow (Two.fst [] : Two α β))) R) : SX p (.Expr (.Call (.Attribute (.Subscript (.Name nm px) (.Constant (.int 0) cj cp) sp) "clear" apos) [] [] cpos) pos :: rest) τ R :=
  sx_step (s_tw0 (x' := (Two.fst [] : Two α β)) 0 G i PySem.F.plainAttrs_list PySem.F.slot_list_clear PySem.F.type_list_clear (fun _ _ => mt_clear) hN hi hτ (fun B H c q ⟨h1, vs, h2, h3⟩ => ⟨_, h1, rfl, ⟨vs, h2⟩, fun Q k => ⟨q, vs, rfl, rfl, h2, k _ [] ⟨h1, [], upd_same, .nil⟩⟩⟩) hbase hline hsw) k
/-- x[1].reverse() -/
theorem sx_twRev (G : Gd p m) (i : Nat) {ys : List β} (hN : p.N[i]? = some nm) (hi : i < m) (hτ : τ[i]? = some (.ow (Two.snd ys : Two α β)))
    (hbase : ∀ env, attributeBase (.Subscript (.Name nm px) (.Constant (.int 1) cj cp) sp) "reverse" env (eval (.Subscript (.Name nm px) (.Constant (.int 1) cj cp) sp) env) = eval (.Subscript (.Name nm px) (.Constant (.int 1) cj cp) sp) env)
    (hline : (apos.endLine == cpos.line) = true) (hsw : ∀ env, swapsWith (.Call (.Attribute (.Subscript (.Name nm px) (.Constant (.int 1) cj cp) sp) "reverse" apos) [] [] cpos) none pos.line env = pure false)
    (k : SX p rest (τ.set i (.ow (Two.snd ys.reverse : Two α β))) R) : SX p (.Expr (.Call (.Attribute (.Subscript (.Name nm px) (.Constant (.int 1) cj cp) sp) "reverse" apos) [] [] cpos) pos :: rest) τ R :=
  sx_step (s_tw0 (x' := (Two.snd ys.reverse : Two α β)) 1 G i PySem.F.plainAttrs_list PySem.F.slot_list_reverse PySem.F.type_list_reverse (fun _ _ => mt_reverse) hN hi hτ (fun B H c q ⟨h1, vs, h2, h3⟩ => ⟨_, h1, rfl, ⟨vs, h2⟩, fun Q k => ⟨q, vs, rfl, rfl, h2, k _ vs.reverse ⟨h1, _, upd_same, h3.reverse⟩⟩⟩) hbase hline hsw) k
/-- x[1].append(e) -/
theorem sx_twApp (G : Gd p m) (i : Nat) {ys : List β} {y : β} (hN : p.N[i]? = some nm) (hi : i < m) (hτ : τ[i]? = some (.ow (Two.snd ys : Two α β))) (he : PX p e τ (.sh y)) (hl : ys.length < sizeLine)
    (hbase : ∀ env, attributeBase (.Subscript (.Name nm px) (.Constant (.int 1) cj cp) sp) "append" env (eval (.Subscript (.Name nm px) (.Constant (.int 1) cj cp) sp) env) = eval (.Subscript (.Name nm px) (.Constant (.int 1) cj cp) sp) env)
    (hline : (apos.endLine == cpos.line) = true) (hs : ∀ env, starEach [e] env = [(false, eval e env)]) (hsw : ∀ env, swapsWith (.Call (.Attribute (.Subscript (.Name nm px) (.Constant (.int 1) cj cp) sp) "append" apos) [e] [] cpos) none pos.line env = pure false)
    (k : SX p rest (τ.set i (.ow (Two.snd (ys ++ [y]) : Two α β))) R) : SX p (.Expr (.Call (.Attribute (.Subscript (.Name nm px) (.Constant (.int 1) cj cp) sp) "append" apos) [e] [] cpos) pos :: rest) τ R :=
  sx_step (s_tw1 (x' := (Two.snd (ys ++ [y]) : Two α β)) 1 G i PySem.F.plainAttrs_list PySem.F.slot_list_append PySem.F.type_list_append (fun _ _ => mt_append) hN hi hτ he (fun B H c q ⟨h1, vs, h2, h3⟩ => ⟨_, h1, rfl, ⟨vs, h2⟩, fun B1 H1 v Q sb e2 rv k => ⟨q, vs, v, rfl, rfl, by rw [e2]; exact h2, by rw [h3.length]; exact hl, k _ _ ⟨sb _ _ h1, _, upd_same, (h3.imp fun _ _ g => Py.mono (.of sb) g).append (.cons rv .nil)⟩⟩⟩) hbase hline hs hsw) k
end
end
end Ly

namespace Ly
open PySem PySem.Spec PyProof.Rows L2
open Py
/-! ### values beside the slots -/
theorem get_app {α : Type u} {l r : List α} {i : Nat} {a : α} (h : (l ++ r)[i]? = some a) : (i < l.length ∧ l[i]? = some a) ∨ (l.length ≤ i ∧ r[i - l.length]? = some a) := by
  by_cases z : i < l.length
  · rw [List.getElem?_append_left z] at h; exact .inl ⟨z, h⟩
  · rw [List.getElem?_append_right (by omega)] at h; exact .inr ⟨by omega, h⟩
section
variable {K : PySem.W.Frag} {B0 H0 B H B' H' : Hp} {σ σ2 : L2.St} {τ τ2 : List Sl} {v : V} {s : Sl}
theorem Ok.fst (h : Ok K B0 H0 B H (σ ++ σ2) (τ ++ τ2)) (l : σ.length = τ.length) : Ok K B0 H0 B H σ τ := by
  obtain ⟨fp, f⟩ := h.fps
  have up : ∀ {i : Nat} {s : Sl}, τ[i]? = some s → (τ ++ τ2)[i]? = some s := fun {i s} e => by rw [List.getElem?_append_left (lt_of_get e)]; exact e
  refine ⟨h.ext, l, fp, fun i s e => ?_, fun i j s u a e1 e2 => f.dis i j s u a (up e1) (up e2)⟩
  refine (f.at_ i s (up e)).imp id fun ⟨v, e1, q⟩ => ⟨v, ?_, q⟩
  rw [List.getElem?_append_left (by rw [l]; exact lt_of_get e)] at e1
  exact e1
theorem Ok.top (h : Ok K B0 H0 B H (σ ++ [some v]) (τ ++ [s])) (l : σ.length = τ.length) : Vok K B H H0 v s := by
  rcases h.at_ τ.length s (by rw [List.getElem?_append_right (Nat.le_refl _), Nat.sub_self]; rfl) with z | ⟨u, e, q⟩
  · rw [z]; trivial
  · rw [List.getElem?_append_right (by omega), l, Nat.sub_self] at e
    have e : some (some v) = some (some u) := e
    cases e; exact q
theorem Ok.pad (h : Ok K B0 H0 B H σ τ) : Ok K B0 H0 B H (σ ++ [none]) (τ ++ [.un]) := by
  obtain ⟨fp, f⟩ := h.fps
  refine ⟨h.ext, by rw [List.length_append, List.length_append, h.len]; rfl, fp, fun i s e => ?_, fun i j s u a e1 e2 o1 o2 => ?_⟩
  · rcases get_app e with ⟨hi, e⟩ | ⟨hi, e⟩
    · refine (f.at_ i s e).imp id fun ⟨v, e1, q⟩ => ⟨v, ?_, q⟩
      rw [List.getElem?_append_left (by rw [h.len]; exact hi)]; exact e1
    · have := lt_of_get e
      have : i - τ.length = 0 := by simp at this; omega
      rw [this] at e
      exact .inl (Option.some.inj e).symm
  · have go : ∀ {i : Nat} {s : Sl}, (τ ++ [.un])[i]? = some s → s.own → τ[i]? = some s := fun {i s} e o => by
      rcases get_app e with ⟨_, e⟩ | ⟨_, e⟩
      · exact e
      · have := lt_of_get e
        have : i - τ.length = 0 := by simp at this; omega
        rw [this] at e
        have e : some Sl.un = some s := e
        cases e; exact o.elim
    exact f.dis i j s u a (go e1 o1) (go e2 o2) o1 o2
theorem set_end {α : Type u} : ∀ (l : List α) (a b : α), (l ++ [a]).set l.length b = l ++ [b]
  | [], _, _ => rfl
  | x :: r, a, b => by show x :: (r ++ [a]).set r.length b = _; rw [set_end r]; rfl
theorem Ok.push (h : Ok K B0 H0 B H σ τ) (x : Ext B H B' H') (q : Vok K B' H' H v s) : Ok K B0 H0 B' H' (σ ++ [some v]) (τ ++ [s]) := by
  have k := h.pad.putN (i := τ.length) x q
  have e1 := set_end τ Sl.un s
  have e2 := set_end σ (none : Option V) (some v)
  rw [h.len] at e2
  rw [e1, e2] at k
  exact k
/-- stored from beside -/
theorem Ok.sto (h : Ok K B0 H0 B H (σ ++ [some v]) (τ ++ [s])) (l : σ.length = τ.length) (i : Nat) : Ok K B0 H0 B H (σ.set i (some v)) (τ.set i s) := by
  obtain ⟨fp, f⟩ := h.fps
  have h1 := h.fst l
  have tp : (τ ++ [s])[τ.length]? = some s := by rw [List.getElem?_append_right (Nat.le_refl _), Nat.sub_self]; rfl
  have up : ∀ {i : Nat} {s' : Sl}, τ[i]? = some s' → (τ ++ [s])[i]? = some s' := fun {i s'} e => by rw [List.getElem?_append_left (lt_of_get e)]; exact e
  have cs : ∀ {j : Nat} {u : Sl}, (τ.set i s)[j]? = some u → ∃ k, (τ ++ [s])[k]? = some u ∧ (k = if j = i then τ.length else j) ∧ j < τ.length := fun {j u} e => by
    have hl := lt_of_get e
    rw [List.length_set] at hl
    by_cases z : j = i
    · subst z
      rw [List.getElem?_set_self hl] at e
      cases e
      exact ⟨_, tp, by rw [if_pos rfl], hl⟩
    · rw [List.getElem?_set_ne (Ne.symm z)] at e
      exact ⟨j, up e, by rw [if_neg z], hl⟩
  refine ⟨h.ext, by rw [List.length_set, List.length_set, l], fun j => if j = i then fp τ.length else fp j, fun j u e => ?_, fun j k u w a e1 e2 o1 o2 f1 f2 => ?_⟩
  · obtain ⟨k, ek, hk, hj⟩ := cs e
    refine (f.at_ k u ek).imp id fun ⟨v', e1, q⟩ => ⟨v', ?_, ?_⟩
    · by_cases z : j = i
      · subst z
        rw [if_pos rfl] at hk
        subst hk
        rw [List.getElem?_append_right (by omega), l, Nat.sub_self] at e1
        have e1 : some (some v) = some (some v') := e1
        cases e1
        rw [List.getElem?_set_self (by omega)]
      · rw [if_neg z] at hk
        subst hk
        rw [List.getElem?_append_left (by omega)] at e1
        rw [List.getElem?_set_ne (Ne.symm z)]; exact e1
    · show Vokf K B H H0 v' (if j = i then fp τ.length else fp j) u
      by_cases z : j = i
      · rw [if_pos z] at hk ⊢; rw [← hk]; exact q
      · rw [if_neg z] at hk ⊢; rw [← hk]; exact q
  · obtain ⟨k1, ek1, hk1, l1⟩ := cs e1
    obtain ⟨k2, ek2, hk2, l2⟩ := cs e2
    have g1 : a ∈ fp k1 := by
      rw [hk1]
      by_cases z : j = i
      · simp only [z, if_true] at f1 ⊢; exact f1
      · simp only [z, if_false] at f1 ⊢; exact f1
    have g2 : a ∈ fp k2 := by
      rw [hk2]
      by_cases z : k = i
      · simp only [z, if_true] at f2 ⊢; exact f2
      · simp only [z, if_false] at f2 ⊢; exact f2
    have := f.dis k1 k2 u w a ek1 ek2 o1 o2 g1 g2
    rw [hk1, hk2] at this
    split at this <;> split at this <;> omega
/-- a slot's own thing goes beside -/
theorem Ok.out (h : Ok K B0 H0 B H σ τ) {i : Nat} (hi : τ[i]? = some s) (hv : σ[i]? = some (some v)) (hs : s ≠ .un) : Ok K B0 H0 B H (σ ++ [some v]) (τ.set i .un ++ [s]) := by
  obtain ⟨fp, f⟩ := h.fps
  have hl := lt_of_get hi
  have cs : ∀ {j : Nat} {u : Sl}, (τ.set i .un ++ [s])[j]? = some u → u = .un ∨ (j ≠ i ∧ j < τ.length ∧ τ[j]? = some u) ∨ (j = τ.length ∧ u = s) := fun {j u} e => by
    rcases get_app e with ⟨hj, e⟩ | ⟨hj, e⟩
    · rw [List.length_set] at hj
      by_cases z : j = i
      · subst z; rw [List.getElem?_set_self hl] at e; exact .inl (Option.some.inj e).symm
      · rw [List.getElem?_set_ne (Ne.symm z)] at e; exact .inr (.inl ⟨z, hj, e⟩)
    · rw [List.length_set] at hj e
      have := lt_of_get e
      have z : j - τ.length = 0 := by simp at this; omega
      rw [z] at e
      have e : some s = some u := e
      cases e
      exact .inr (.inr ⟨by omega, rfl⟩)
  refine ⟨h.ext, by rw [List.length_append, List.length_append, List.length_set, h.len]; rfl, fun j => if j = τ.length then fp i else fp j, fun j u e => ?_, fun j k u w a e1 e2 o1 o2 f1 f2 => ?_⟩
  · rcases cs e with z | ⟨z, hj, e⟩ | ⟨z, eu⟩
    · exact .inl z
    · refine (f.at_ j u e).imp id fun ⟨v', e1, q⟩ => ⟨v', by rw [List.getElem?_append_left (by rw [h.len]; exact hj)]; exact e1, ?_⟩
      simp only [show ¬ j = τ.length by omega, if_false]; exact q
    · subst z eu
      rcases f.at_ i _ hi with z | ⟨v', e1, q⟩
      · exact absurd z hs
      · rw [hv] at e1; cases e1
        refine .inr ⟨v, by rw [List.getElem?_append_right (by rw [h.len]; exact Nat.le_refl _), h.len, Nat.sub_self]; rfl, ?_⟩
        simp only [if_true]; exact q
  · have go : ∀ {j : Nat} {u : Sl}, (τ.set i .un ++ [s])[j]? = some u → u.own → a ∈ (if j = τ.length then fp i else fp j) → ∃ k u', τ[k]? = some u' ∧ u'.own ∧ a ∈ fp k ∧ k = if j = τ.length then i else j := fun {j u} e o m => by
      rcases cs e with z | ⟨z, hj, e⟩ | ⟨z, e⟩
      · rw [z] at o; exact o.elim
      · rw [if_neg (by omega)] at m; exact ⟨j, u, e, o, m, by rw [if_neg (by omega)]⟩
      · subst e; rw [if_pos z] at m; exact ⟨i, _, hi, o, m, by rw [if_pos z]⟩
    obtain ⟨k1, u1, a1, b1, c1, d1⟩ := go e1 o1 f1
    obtain ⟨k2, u2, a2, b2, c2, d2⟩ := go e2 o2 f2
    have e := f.dis k1 k2 u1 u2 a a1 a2 b1 b2 c1 c2
    rw [d1, d2] at e
    have ne : ∀ {j : Nat} {u : Sl}, (τ.set i .un ++ [s])[j]? = some u → u.own → j ≠ τ.length → j ≠ i := fun {j u} e o z => by
      rcases cs e with w | ⟨w, _, _⟩ | ⟨w, _⟩
      · rw [w] at o; exact o.elim
      · exact w
      · exact absurd w z
    by_cases z1 : j = τ.length
    · by_cases z2 : k = τ.length
      · rw [z1, z2]
      · rw [if_pos z1, if_neg z2] at e; exact absurd e.symm (ne e2 o2 z2)
    · by_cases z2 : k = τ.length
      · rw [if_neg z1, if_pos z2] at e; exact absurd e (ne e1 o1 z1)
      · rw [if_neg z1, if_neg z2] at e; exact e
/-- forgetting beside -/
theorem Ok.weakL {τ' : List Sl} (h : Ok K B0 H0 B H (σ ++ σ2) (τ ++ τ2)) (hl : τ'.length = τ.length) (w : ∀ (i : Nat) (s : Sl), τ'[i]? = some s → s = .un ∨ τ[i]? = some s) : Ok K B0 H0 B H (σ ++ σ2) (τ' ++ τ2) :=
  h.weak (by rw [List.length_append, List.length_append, hl]) fun i s e => by
    rcases get_app e with ⟨hi, e⟩ | ⟨hi, e⟩
    · refine (w i s e).imp id fun z => ?_
      rw [List.getElem?_append_left (lt_of_get z)]; exact z
    · refine .inr ?_
      rw [hl] at hi e
      rw [List.getElem?_append_right hi]; exact e
end
/-- an own thing that tells where it stands -/
class Pinned (β : Type) [Od β] where
  adr : β → Addr
  at_ : ∀ {K : PySem.W.Frag} {B H : Hp} {p : Addr} {b : β} {F : List Addr}, Od.own K B H p b F → p = adr b
/-! ### the state of a call's arguments -/
section
variable {K : PySem.W.Frag} {B0 H0 B H : Hp} {σ : L2.St} {τ : List Sl}
theorem args_ok {vs : List V} {as : List Sl} (r : All2 (Shr K B) vs as) (hb : Same B H) : Ok K B H B H (vs.map some) as := by
  have := all2_at r 0 hb
  rw [List.replicate_zero, List.append_nil, List.replicate_zero, List.append_nil] at this
  exact this
/-- one own thing is handed over, and taken back -/
theorem Ok.call1 {β : Type} [Od β] {b : β} (h : Ok K B0 H0 B H σ τ) {i k : Nat} (hi : τ[i]? = some (.ow b)) {vs : List V} {as : List Sl} {v : V} (hs : σ[i]? = some (some v)) (hv : vs[k]? = some v) (ha : as[k]? = some (.ow b)) (hl : vs.length = as.length)
    (hr : ∀ j s, as[j]? = some s → j ≠ k → ∃ v, vs[j]? = some v ∧ Shr K B v s) :
    ∃ Hc, Ok K B Hc B H (vs.map some) as ∧ ∀ (B' H' : Hp) (as' : List Sl) (ρ : L2.St) (μ : List Sl) {γ : Type} [Od γ] (b' : γ), as'.length = as.length → as'[k]? = some (.ow b') → Ok K B Hc B' H' (vs.map some ++ ρ) (as' ++ μ) → Ok K B0 H0 B' H' (σ ++ ρ) (τ.set i (.ow b') ++ μ) := by
  obtain ⟨fp, f⟩ := h.fps
  have hil := lt_of_get hi
  rcases f.at_ i _ hi with z | ⟨v1, e1, p0, ev, nF, own⟩
  · cases z
  rw [hs] at e1
  cases e1
  have inF : ∀ a ∈ fp i, ∃ o, H a = some o ∧ ∀ xs, o ≠ .tup xs := Od.lay own
  have hc_of : ∀ {a : Addr}, unl H (fp i) a = none → a ∈ fp i ∨ H a = none := fun {a} e => by
    by_cases m : a ∈ fp i
    · exact .inl m
    · rw [unl_out m] at e; exact .inr e
  have h0_of : ∀ {a : Addr}, unl H (fp i) a = none → H0 a = none := fun {a} e => by
    rcases hc_of e with m | m
    · exact (nF a m).1
    · exact h.ext.hh.free m
  have ask : ∀ {j : Nat} {s : Sl}, as[j]? = some s → s.own → j = k := fun {j s} e o => by
    by_cases z : j = k
    · exact z
    · obtain ⟨v, _, q⟩ := hr j s e z
      cases s with
      | un => exact o.elim
      | sh y => exact o.elim
      | ow y => exact q.elim
  refine ⟨unl H (fp i), ⟨⟨h.bh, unl_same (Same.refl _), Same.refl _, fun _ _ e _ _ => e⟩, by rw [List.length_map, hl], fun j => if j = k then fp i else [], fun j s e => ?_, fun j j2 s u a e1 e2 o1 o2 f1 f2 => ?_⟩, fun B' H' as' ρ μ γ _ b' hl' ha' okc => ?_⟩
  · by_cases z : j = k
    · subst z
      rw [ha] at e
      cases e
      refine .inr ⟨v, by rw [List.getElem?_map, hv]; rfl, ?_⟩
      rw [if_pos rfl]
      exact ⟨p0, ev, fun a m => ⟨unl_in m, (nF a m).2⟩, own⟩
    · obtain ⟨v', e', q⟩ := hr j s e z
      refine .inr ⟨v', by rw [List.getElem?_map, e']; rfl, ?_⟩
      cases s with
      | un => exact q.elim
      | sh y => exact q
      | ow y => exact q.elim
  · rw [ask e1 o1, ask e2 o2]
  · obtain ⟨fpc, fc⟩ := okc.fps
    have hvl : k < vs.length := lt_of_get hv
    have lρ : ρ.length = μ.length := by
      have := okc.len
      rw [List.length_append, List.length_append, List.length_map, hl', hl] at this
      omega
    have lσ := h.len
    -- own slots of ours other than i
    have keep : ∀ {j : Nat} {s : Sl}, j ≠ i → τ[j]? = some s → s.own → ∀ a ∈ fp j, ∃ o, H a = some o ∧ (∀ xs, o ≠ .tup xs) ∧ unl H (fp i) a = some o ∧ H' a = some o := fun {j s} z e o a m => by
      rcases f.at_ j s e with w | ⟨v2, _, q⟩
      · rw [w] at o; exact o.elim
      · cases s with
        | un => exact o.elim
        | sh y => exact o.elim
        | ow y =>
          obtain ⟨_, _, _, r2⟩ := q
          obtain ⟨ob, hob, t⟩ := Od.lay r2 a m
          have na : a ∉ fp i := fun mi => z (f.dis j i _ _ a e hi o trivial m mi)
          have hu : unl H (fp i) a = some ob := by rw [unl_out na]; exact hob
          exact ⟨ob, hob, t, hu, okc.ext.hh _ _ hu⟩
    have ck : (as' ++ μ)[k]? = some (.ow b') := by rw [List.getElem?_append_left (lt_of_get ha')]; exact ha'
    have cs : ∀ {j : Nat} {s : Sl}, (τ.set i (.ow b') ++ μ)[j]? = some s → (j = i ∧ s = .ow b') ∨ (j ≠ i ∧ j < τ.length ∧ τ[j]? = some s) ∨ (τ.length ≤ j ∧ (as' ++ μ)[j - τ.length + as'.length]? = some s) := fun {j s} e => by
      rcases get_app e with ⟨hj, e⟩ | ⟨hj, e⟩
      · rw [List.length_set] at hj
        by_cases z : j = i
        · subst z; rw [List.getElem?_set_self hil] at e; exact .inl ⟨rfl, (Option.some.inj e).symm⟩
        · rw [List.getElem?_set_ne (Ne.symm z)] at e; exact .inr (.inl ⟨z, hj, e⟩)
      · rw [List.length_set] at hj e
        exact .inr (.inr ⟨hj, by rw [List.getElem?_append_right (by omega), show j - τ.length + as'.length - as'.length = j - τ.length by omega]; exact e⟩)
    refine ⟨⟨okc.bh, fun a o e => ?_, h.ext.bb.trans okc.ext.bb, fun a o e g t => ?_⟩, ?_, fun j => if j = i then fpc k else if j < τ.length then fp j else fpc (j - τ.length + as'.length), fun j s e => ?_, fun j j2 s u a e1 e2 o1 o2 f1 f2 => ?_⟩
    · refine okc.ext.hh a o ?_
      rw [unl_out (fun m => by rw [(nF a m).1] at e; cases e)]
      exact h.ext.hh a o e
    · refine okc.ext.nw a o (h.ext.nw a o e g t) ?_ t
      rw [unl_out (fun m => by rw [(nF a m).1] at g; cases g)]
      exact h.ext.hh a o g
    · rw [List.length_append, List.length_append, List.length_set, lσ, lρ]
    · rcases cs e with ⟨z, eu⟩ | ⟨z, hj, e⟩ | ⟨hj, e⟩
      · subst z eu
        rcases fc.at_ k _ ck with w | ⟨v2, e2, p2, ev2, n2, own2⟩
        · cases w
        · rw [List.getElem?_append_left (by rw [List.length_map]; exact hvl), List.getElem?_map, hv] at e2
          have e2 : some (some v) = some (some v2) := e2
          cases e2
          refine .inr ⟨v, by rw [List.getElem?_append_left (by rw [lσ]; exact hil)]; exact hs, ?_⟩
          simp only [if_true]
          exact ⟨p2, ev2, fun a m => ⟨h0_of (n2 a m).1, (n2 a m).2⟩, own2⟩
      · refine (f.at_ j s e).imp id fun ⟨v2, e2, q⟩ => ⟨v2, by rw [List.getElem?_append_left (by rw [lσ]; exact hj)]; exact e2, ?_⟩
        simp only [z, hj, if_false, if_true]
        cases s with
        | un => trivial
        | sh y => exact Py.mono (.of okc.ext.bb) (show rep K B v2 y from q)
        | ow y =>
          have kp := keep z e (trivial : (Sl.ow y).own)
          obtain ⟨c, ec, n2, r2⟩ := q
          refine ⟨c, ec, fun a m => ⟨(n2 a m).1, ?_⟩, Od.dmono (.of okc.ext.bb) (fun a m => ?_) r2⟩
          · obtain ⟨ob, ho, t, hu, _⟩ := kp a m
            exact okc.ext.nw a ob (n2 a m).2 hu t
          · obtain ⟨ob, ho, t, hu, h2⟩ := kp a m
            rw [ho, h2]
      · refine (fc.at_ _ s e).imp id fun ⟨v2, e2, q⟩ => ⟨v2, ?_, ?_⟩
        · rw [List.getElem?_append_right (by rw [lσ]; exact hj), lσ]
          rw [List.getElem?_append_right (by rw [List.length_map]; omega), List.length_map] at e2
          rw [show j - τ.length + as'.length - vs.length = j - τ.length by omega] at e2
          exact e2
        · simp only [show ¬ j = i by omega, show ¬ j < τ.length by omega, if_false]
          cases s with
          | un => trivial
          | sh y => exact q
          | ow y =>
            obtain ⟨c, ec, n2, r2⟩ := q
            exact ⟨c, ec, fun a m => ⟨h0_of (n2 a m).1, (n2 a m).2⟩, r2⟩
    · -- where an own slot's address stands: with the caller's others, or among the call's
      have wh : ∀ {j : Nat} {s : Sl}, (τ.set i (.ow b') ++ μ)[j]? = some s → s.own → a ∈ (if j = i then fpc k else if j < τ.length then fp j else fpc (j - τ.length + as'.length)) →
          (j ≠ i ∧ j < τ.length ∧ τ[j]? = some s ∧ a ∈ fp j ∧ unl H (fp i) a ≠ none) ∨ (∃ q, (as' ++ μ)[q]? = some s ∧ a ∈ fpc q ∧ unl H (fp i) a = none ∧ (q = if j = i then k else j - τ.length + as'.length) ∧ (j = i ∨ τ.length ≤ j)) := fun {j s} e o m => by
        have fr : ∀ {q : Nat}, (as' ++ μ)[q]? = some s → a ∈ fpc q → unl H (fp i) a = none := fun {q} e m => by
          rcases fc.at_ q s e with w | ⟨v2, _, r⟩
          · rw [w] at o; exact o.elim
          · cases s with
            | un => exact o.elim
            | sh y => exact o.elim
            | ow y => obtain ⟨_, _, n2, _⟩ := r; exact (n2 a m).1
        rcases cs e with ⟨z, eu⟩ | ⟨z, hj, e⟩ | ⟨hj, e⟩
        · rw [if_pos z] at m
          subst eu
          exact .inr ⟨k, ck, m, fr ck m, by rw [if_pos z], .inl z⟩
        · rw [if_neg z, if_pos hj] at m
          obtain ⟨ob, _, _, hu, _⟩ := keep z e o a m
          exact .inl ⟨z, hj, e, m, by rw [hu]; exact Option.some_ne_none _⟩
        · rw [if_neg (by omega), if_neg (by omega)] at m
          exact .inr ⟨_, e, m, fr e m, by rw [if_neg (by omega)], .inr hj⟩
      rcases wh e1 o1 f1 with ⟨z1, l1, t1, m1, n1⟩ | ⟨q1, t1, m1, n1, w1, c1⟩
      · rcases wh e2 o2 f2 with ⟨z2, l2, t2, m2, n2⟩ | ⟨q2, t2, m2, n2, w2, c2⟩
        · exact f.dis j j2 s u a t1 t2 o1 o2 m1 m2
        · exact absurd n2 n1
      · rcases wh e2 o2 f2 with ⟨z2, l2, t2, m2, n2⟩ | ⟨q2, t2, m2, n2, w2, c2⟩
        · exact absurd n1 n2
        · have e := fc.dis q1 q2 s u a t1 t2 o1 o2 m1 m2
          rw [w1, w2] at e
          have hk := lt_of_get ha'
          by_cases x1 : j = i
          · by_cases x2 : j2 = i
            · rw [x1, x2]
            · rw [if_pos x1, if_neg x2] at e; omega
          · by_cases x2 : j2 = i
            · rw [if_neg x1, if_pos x2] at e; omega
            · rw [if_neg x1, if_neg x2] at e
              have d1 := c1.resolve_left x1
              have d2 := c2.resolve_left x2
              omega
end
end Ly

namespace Ly
open PySem PySem.Spec PyProof.Rows L2
open Py
/-! ### promises of defs that may raise, or change what they are handed -/
inductive Out : Type 1
  | val (s : Sl)
  | exc (x : Exn)
def spG (K : PySem.W.Frag) (mg : Str → Option Value) (okf : List Sl → List Sl → Out → Prop) : Sp := fun vs H Q E => ∃ B Hc as as' o, Ok K B Hc B H (vs.map some) as ∧ okf as as' o ∧ as'.length = as.length ∧
  match o with
  | .val s => ∀ B' H' v, Ok K B Hc B' H' (vs.map some ++ [some v]) (as' ++ [s]) → Q v H'
  | .exc x => ∀ B' H' cls d, OkX K mg B Hc B' H' (vs.map some) as' cls d x → E cls d H'
/-- nothing is told of it -/
def Und (as : List Sl) : Prop := ∀ (j : Nat) (s : Sl), as[j]? = some s → s = .un
theorem und_nil : Und [] := fun _ _ h => by simp at h
theorem und_cons {as : List Sl} (h : Und as) : Und (.un :: as) := fun j s e => by
  cases j with
  | zero => exact (Option.some.inj e).symm
  | succ j => exact h j s e
/-- what is told of the arguments behind: own things that stand where they stood -/
def Pins (as as' : List Sl) : Prop := ∀ (j : Nat) (s : Sl), as'[j]? = some s → s = .un ∨ ∃ (β : Type) (i : Od β) (pn : @Pinned β i) (b b' : β), s = @Sl.ow β i b' ∧ as[j]? = some (@Sl.ow β i b) ∧ pn.adr b' = pn.adr b
theorem Und.pins {as as' : List Sl} (h : Und as') : Pins as as' := fun j s e => .inl (h j s e)
def Kp (as' τ : List Sl) : Prop := ∀ (j : Nat) (s : Sl), as'[j]? = some s → s = .un ∨ τ[j]? = some s
theorem Und.kp {as' τ : List Sl} (h : Und as') : Kp as' τ := fun j s e => .inl (h j s e)
theorem kp_nil {τ : List Sl} : Kp [] τ := fun _ _ h => by simp at h
theorem kp_un {as' τ : List Sl} {s : Sl} (h : Kp as' τ) : Kp (.un :: as') (s :: τ) := fun j s' e => by
  cases j with
  | zero => exact .inl (Option.some.inj e).symm
  | succ j => exact h j s' e
theorem kp_same {as' τ : List Sl} {s : Sl} (h : Kp as' τ) : Kp (s :: as') (s :: τ) := fun j s' e => by
  cases j with
  | zero => exact .inr e
  | succ j => exact h j s' e
def pg (as' : List Sl) (o : Out) : Post := ⟨fun τ => o = .val (.sh ()) ∧ Kp as' τ, fun s => o = .val s ∧ Und as', fun τ s => o = .val s ∧ Kp as' τ, fun x τ => o = .exc x ∧ Kp as' τ⟩
section
variable {K : PySem.W.Frag} {B0 H0 B H B' H' Hc : Hp} {σ ρ : L2.St} {τ μ as as' : List Sl} {vs : List V} {v : V} {s : Sl}
theorem Ok.reix (h0 : Ok K B Hc B H (vs.map some) as) (pn : Pins as as') (hl : as'.length = as.length) (kp : Kp as' τ) (h : Ok K B Hc B' H' (σ ++ ρ) (τ ++ μ)) (l : σ.length = τ.length) : Ok K B Hc B' H' (vs.map some ++ ρ) (as' ++ μ) := by
  obtain ⟨fp, f⟩ := h.fps
  have lv : vs.length = as'.length := by have := h0.len; rw [List.length_map] at this; omega
  have lρ : ρ.length = μ.length := by have := h.len; rw [List.length_append, List.length_append] at this; omega
  have cs : ∀ {j : Nat} {s : Sl}, (as' ++ μ)[j]? = some s → s = .un ∨ (j < as'.length ∧ as'[j]? = some s ∧ (τ ++ μ)[j]? = some s) ∨ (as'.length ≤ j ∧ (τ ++ μ)[j - as'.length + τ.length]? = some s) := fun {j s} e => by
    rcases get_app e with ⟨hj, e⟩ | ⟨hj, e⟩
    · rcases kp j s e with z | z
      · exact .inl z
      · exact .inr (.inl ⟨hj, e, by rw [List.getElem?_append_left (lt_of_get z)]; exact z⟩)
    · exact .inr (.inr ⟨hj, by rw [List.getElem?_append_right (by omega), Nat.add_sub_cancel]; exact e⟩)
  refine ⟨h.ext, by rw [List.length_append, List.length_append, List.length_map, lv, lρ], fun j => if j < as'.length then fp j else fp (j - as'.length + τ.length), fun j s e => ?_, fun j k s u a e1 e2 o1 o2 f1 f2 => ?_⟩
  · rcases cs e with z | ⟨hj, ea, e⟩ | ⟨hj, e⟩
    · exact .inl z
    · rcases pn j s ea with z | ⟨β, i, pb, b, b', rfl, eb, ad⟩
      · exact .inl z
      · rcases f.at_ j _ e with z | ⟨v1, e1, p1, rfl, n1, own1⟩
        · cases z
        · rcases h0.at_ j _ eb with z | ⟨v0, e0, F0, p0, rfl, n0, own0⟩
          · cases z
          · have q1 := pb.at_ own1
            have q0 := pb.at_ own0
            have hvj : j < vs.length := by omega
            refine .inr ⟨.ref p0, by rw [List.getElem?_append_left (by rw [List.length_map]; exact hvj)]; exact e0, ?_⟩
            simp only [hj, if_true]
            exact ⟨p1, by rw [q1, q0, ad], n1, own1⟩
    · refine (f.at_ _ s e).imp id fun ⟨v1, e1, q⟩ => ⟨v1, ?_, ?_⟩
      · rw [List.getElem?_append_right (by rw [l]; omega), l, Nat.add_sub_cancel] at e1
        rw [List.getElem?_append_right (by rw [List.length_map]; omega), List.length_map, lv]; exact e1
      · simp only [show ¬ j < as'.length by omega, if_false]; exact q
  · have go : ∀ {j : Nat} {s : Sl}, (as' ++ μ)[j]? = some s → s.own → ∃ k, (τ ++ μ)[k]? = some s ∧ (k = if j < as'.length then j else j - as'.length + τ.length) ∧ (j < as'.length → j < τ.length) := fun {j s} e o => by
      rcases cs e with z | ⟨hj, ea, e⟩ | ⟨hj, e⟩
      · rw [z] at o; exact o.elim
      · refine ⟨j, e, by rw [if_pos hj], fun _ => ?_⟩
        rcases kp j s ea with z | z
        · rw [z] at o; exact o.elim
        · exact lt_of_get z
      · exact ⟨_, e, by rw [if_neg (by omega)], fun z => by omega⟩
    obtain ⟨k1, a1, b1, c1⟩ := go e1 o1
    obtain ⟨k2, a2, b2, c2⟩ := go e2 o2
    have g1 : a ∈ fp k1 := by rw [b1]; by_cases z : j < as'.length <;> simp only [z, if_true, if_false] at f1 ⊢ <;> exact f1
    have g2 : a ∈ fp k2 := by rw [b2]; by_cases z : k < as'.length <;> simp only [z, if_true, if_false] at f2 ⊢ <;> exact f2
    have e := f.dis k1 k2 s u a a1 a2 o1 o2 g1 g2
    rw [b1, b2] at e
    by_cases z1 : j < as'.length
    · by_cases z2 : k < as'.length
      · rw [if_pos z1, if_pos z2] at e; exact e
      · rw [if_pos z1, if_neg z2] at e; have := c1 z1; omega
    · by_cases z2 : k < as'.length
      · rw [if_neg z1, if_pos z2] at e; have := c2 z2; omega
      · rw [if_neg z1, if_neg z2] at e; omega
theorem Ok.undo (x : Ext B Hc B' H') (hu : Und as') (lv : vs.length = as'.length) (q : Vok K B' H' Hc v s) : Ok K B Hc B' H' (vs.map some ++ [some v]) (as' ++ [s]) := by
  obtain ⟨F, q⟩ := q.f
  have cs : ∀ {j : Nat} {u : Sl}, (as' ++ [s])[j]? = some u → u = .un ∨ (j = as'.length ∧ u = s) := fun {j u} e => by
    rcases get_app e with ⟨hj, e⟩ | ⟨hj, e⟩
    · exact .inl (hu j u e)
    · have := lt_of_get e
      have z : j - as'.length = 0 := by simp at this; omega
      rw [z] at e
      have e : some s = some u := e
      cases e
      exact .inr ⟨by omega, rfl⟩
  refine ⟨x, by rw [List.length_append, List.length_append, List.length_map, lv]; rfl, fun _ => F, fun j u e => ?_, fun j k u w a e1 e2 o1 o2 _ _ => ?_⟩
  · rcases cs e with z | ⟨rfl, rfl⟩
    · exact .inl z
    · exact .inr ⟨v, by rw [List.getElem?_append_right (by rw [List.length_map, lv]; exact Nat.le_refl _), List.length_map, lv, Nat.sub_self]; rfl, q⟩
  · rcases cs e1 with z | ⟨z1, _⟩
    · rw [z] at o1; exact o1.elim
    · rcases cs e2 with z | ⟨z2, _⟩
      · rw [z] at o2; exact o2.elim
      · rw [z1, z2]
/-- behind a call that was handed no own thing -/
theorem Ok.call0 (h : Ok K B0 H0 B H σ τ) (okc : Ok K B H B' H' (vs.map some ++ ρ) (as' ++ μ)) (lv : vs.length = as'.length) : Ok K B0 H0 B' H' (σ ++ ρ) (τ ++ μ) := by
  obtain ⟨fp, f⟩ := h.fps
  obtain ⟨fpc, fc⟩ := okc.fps
  have lρ : ρ.length = μ.length := by have := okc.len; rw [List.length_append, List.length_append, List.length_map] at this; omega
  have cs : ∀ {j : Nat} {s : Sl}, (τ ++ μ)[j]? = some s → (j < τ.length ∧ τ[j]? = some s) ∨ (τ.length ≤ j ∧ (as' ++ μ)[j - τ.length + as'.length]? = some s) := fun {j s} e => by
    rcases get_app e with z | ⟨hj, e⟩
    · exact .inl z
    · exact .inr ⟨hj, by rw [List.getElem?_append_right (by omega), Nat.add_sub_cancel]; exact e⟩
  have f1 := f.ext okc.ext
  refine ⟨h.ext.trans okc.ext, by rw [List.length_append, List.length_append, h.len, lρ], fun j => if j < τ.length then fp j else fpc (j - τ.length + as'.length), fun j s e => ?_, fun j k s u a e1 e2 o1 o2 g1 g2 => ?_⟩
  · rcases cs e with ⟨hj, e⟩ | ⟨hj, e⟩
    · refine (f1.at_ j s e).imp id fun ⟨v, e1, q⟩ => ⟨v, by rw [List.getElem?_append_left (by rw [h.len]; exact hj)]; exact e1, ?_⟩
      simp only [hj, if_true]; exact q
    · refine (fc.at_ _ s e).imp id fun ⟨v, e1, q⟩ => ⟨v, ?_, ?_⟩
      · rw [List.getElem?_append_right (by rw [List.length_map]; omega), List.length_map, lv, Nat.add_sub_cancel] at e1
        rw [List.getElem?_append_right (by rw [h.len]; exact hj), h.len]; exact e1
      · simp only [show ¬ j < τ.length by omega, if_false]
        exact q.base h.ext.hh
  · have wh : ∀ {j : Nat} {s : Sl}, (τ ++ μ)[j]? = some s → s.own → a ∈ (if j < τ.length then fp j else fpc (j - τ.length + as'.length)) → (j < τ.length ∧ τ[j]? = some s ∧ a ∈ fp j ∧ H a ≠ none) ∨ (τ.length ≤ j ∧ (as' ++ μ)[j - τ.length + as'.length]? = some s ∧ a ∈ fpc (j - τ.length + as'.length) ∧ H a = none) := fun {j s} e o m => by
      rcases cs e with ⟨hj, e⟩ | ⟨hj, e⟩
      · rw [if_pos hj] at m
        refine .inl ⟨hj, e, m, ?_⟩
        rcases f.at_ j s e with z | ⟨v, _, q⟩
        · rw [z] at o; exact o.elim
        · cases s with
          | un => exact o.elim
          | sh y => exact o.elim
          | ow y =>
            obtain ⟨_, _, _, r⟩ := q
            obtain ⟨ob, hob, _⟩ := Od.lay r a m
            rw [hob]; exact Option.some_ne_none _
      · rw [if_neg (by omega)] at m
        refine .inr ⟨hj, e, m, ?_⟩
        rcases fc.at_ _ s e with z | ⟨v, _, q⟩
        · rw [z] at o; exact o.elim
        · cases s with
          | un => exact o.elim
          | sh y => exact o.elim
          | ow y =>
            obtain ⟨_, _, n, _⟩ := q
            exact (n a m).1
    rcases wh e1 o1 g1 with ⟨l1, t1, m1, n1⟩ | ⟨l1, t1, m1, n1⟩
    · rcases wh e2 o2 g2 with ⟨l2, t2, m2, n2⟩ | ⟨l2, t2, m2, n2⟩
      · exact f.dis j k s u a t1 t2 o1 o2 m1 m2
      · exact absurd n2 n1
    · rcases wh e2 o2 g2 with ⟨l2, t2, m2, n2⟩ | ⟨l2, t2, m2, n2⟩
      · exact absurd n1 n2
      · have := fc.dis _ _ s u a t1 t2 o1 o2 m1 m2
        omega
end
/-- THE RULE for such a def -/
theorem fn_TG {P : Program} {w : World} {K : PySem.W.Frag} {mg : Str → Option Value} {base : Heap} {x qual : Str} {f : Addr} {fd : FuncData} {N ps : List Str} {k : Nat} {st : Stmt} {okf : List Sl → List Sl → Out → Prop} (F : Fun K x qual st f fd)
    (S : FnScope N ps (defScope st)) (len : ∀ as as' o, okf as as' o → as.length = ps.length ∧ Pins as as')
    (body : ∀ W as as' o, okf as as' o → SX ⟨P, w, K, mg, base, N, defScope st, fun _ => true, k, W, true⟩ (defBody st) (as ++ List.replicate (N.length - as.length) .un) (pg as' o)) : FnOk P w K mg base (L2.CX P w) (k + 1) f fd ps (spG K mg okf) := by
  refine F.okX S (fun vs H Q E h => ?_) (fun cdv A outer s H vs Q E hr h => ?_)
  · obtain ⟨B, Hc, as, as', o, r, ho, _⟩ := h
    have := r.len
    rw [List.length_map] at this
    rw [this]
    exact (len as as' o ho).1
  · obtain ⟨B, Hc, as, as', o, r, ho, hl, q⟩ := h
    have lv : vs.length = as.length := by have := r.len; rwa [List.length_map] at this
    have pn := (len as as' o ho).2
    have r0 : Ok K B Hc B H (L2.start N vs) (as ++ List.replicate (N.length - as.length) .un) := by
      unfold L2.start
      rw [lv]
      generalize N.length - as.length = n
      induction n with
      | zero => rw [List.replicate_zero, List.append_nil, List.replicate_zero, List.append_nil]; exact r
      | succ n ih =>
        have := ih.pad
        rw [List.append_assoc, List.append_assoc, ← List.replicate_succ', ← List.replicate_succ'] at this
        exact this
    let p : Par := ⟨P, w, K, mg, base, N, defScope st, fun _ => true, k, fun cls d _ H' => E cls d H', true⟩
    have em : Emb p B Hc { nx := fun _ H' => Q .non H', rt := Q } (pg as' o) := by
      refine ⟨fun B' H' σ τ ok e => ?_, fun B' H' v s x vo e => ?_, fun B' H' σ τ v s ok l e => ?_, fun B' H' σ τ cls d x ok e => ?_⟩
      · obtain ⟨eo, kp⟩ := e
        rw [eo] at q
        have := ok.push (.refl ok.bh) (v := .non) (s := .sh ()) (show rep K B' V.non () from rfl)
        exact q B' H' .non (r.reix pn hl kp this ok.len)
      · obtain ⟨eo, hu⟩ := e
        rw [eo] at q
        exact q B' H' v (Ok.undo x hu (by rw [hl]; exact lv) vo)
      · obtain ⟨eo, kp⟩ := e
        rw [eo] at q
        exact q B' H' v (r.reix pn hl kp ok l)
      · obtain ⟨eo, kp⟩ := e
        rw [eo] at q
        exact q B' H' cls d ⟨ok.cl, by rw [List.length_map, hl]; exact lv, r.reix pn hl kp ok.ok ok.len⟩
    obtain ⟨t, ht, hq⟩ := body (fun cls d _ H' => E cls d H') as as' o ho B Hc B H (L2.start N vs) r0 { nx := fun _ H' => Q .non H', rt := Q } em
    exact ⟨t, ht _ ⟨(k, (fun cls d _ H' => E cls d H'), true), rfl, rfl, hr, passes_of rfl, takes_of rfl rfl rfl rfl, fun _ => ⟨rfl, rfl, rfl⟩⟩, hq⟩
/-- the def at the module's name x keeps it, at level k -/
def CalG (P : Program) (w : World) (K : PySem.W.Frag) (mg : Str → Option Value) (base : Heap) (k : Nat) (x : Str) (okf : List Sl → List Sl → Out → Prop) : Prop :=
  ∃ (f : Addr) (fd : FuncData) (ps : List Str), FnOk P w K mg base (L2.CX P w) k f fd ps (spG K mg okf) ∧ mg x = some (.ref f) ∧ PySem.W.keepIn K (.ref f) = true ∧ Binds K fd ps []
/-- an expression that raises x, with the slots τ' -/
def PR (p : Par) (e : Expr) (τ : List Sl) (x : Exn) (τ' : List Sl) : Prop := ∀ B0 H0 B H σ, Ok p.K B0 H0 B H σ τ → ∀ Q : VK, (∀ B' H' cls d, OkX p.K p.mg B0 H0 B' H' σ τ' cls d x → p.W cls d σ H') → EE p e σ H Q
section
variable {p : Par} {m : Nat} {τ τ' : List Sl} {R : Post} {rest : List Stmt} {e o : Expr} {es : List Expr} {pos : Pos}
/-- a call, handed readable things: its value -/
theorem px_callG {x : Str} {pp : Pos} {as as' : List Sl} {s : Sl} {k : Nat} {okf : List Sl → List Sl → Out → Prop} (G : CalG p.P p.w p.K p.mg p.base k x okf) (hk : k ≤ p.k) (hg : p.sc.names.lookup x = some .globalImplicit)
    (ha : PAx p (e :: es) τ as) (h : okf as as' (.val s)) (hl : as'.length = as.length) (hs : s ≠ .un) (hdb : (x == ("__debug__" : Str)) = false)
    (he : ∀ env, starEach (e :: es) env = (false, eval e env) :: starEach es env) (hpl : ∀ env, (backTo pos (starEach es env)).any (·.1) = false) : PX p (.Call (.Name x pp) (e :: es) [] pos) τ s := fun B0 H0 B H σ ok Q q => by
  obtain ⟨f, fd, ps, F, hm, kp, bd⟩ := G
  refine ⟨tCallS (spG p.K p.mg okf) (WE fun _ _ _ _ => False) (EA p (e :: es)), fun X hX => ?_, ha B0 H0 B H σ ok _ fun B1 H1 vs x1 r1 => ?_⟩
  · have hX' := hX
    obtain ⟨j, rfl, calm, room, _⟩ := hX'
    exact pe_callS F (room.mono hk) hg hm kp bd (passAt takes0) (ea hX) hdb (he _) (hpl _)
  · have ll : (vs.map some).length = as'.length := by rw [List.length_map, r1.length, hl]
    refine ⟨B1, H1, as, as', _, args_ok r1 x1.bh, h, hl, fun B' H' v okc => q B' H' v (x1.trans okc.ext) ((okc.top ll).base x1.hh)⟩
/-- .. it raises -/
theorem pr_callG {x : Str} {pp : Pos} {as as' : List Sl} {y : Exn} {k : Nat} {okf : List Sl → List Sl → Out → Prop} (G : CalG p.P p.w p.K p.mg p.base k x okf) (hk : k ≤ p.k) (hg : p.sc.names.lookup x = some .globalImplicit)
    (ha : PAx p (e :: es) τ as) (h : okf as as' (.exc y)) (hl : as'.length = as.length) (hdb : (x == ("__debug__" : Str)) = false)
    (he : ∀ env, starEach (e :: es) env = (false, eval e env) :: starEach es env) (hpl : ∀ env, (backTo pos (starEach es env)).any (·.1) = false) : PR p (.Call (.Name x pp) (e :: es) [] pos) τ y τ := fun B0 H0 B H σ ok Q q => by
  obtain ⟨f, fd, ps, F, hm, kp, bd⟩ := G
  refine ⟨tCallS (spG p.K p.mg okf) (WE p.W) (EA p (e :: es)), fun X hX => ?_, ha B0 H0 B H σ ok _ fun B1 H1 vs x1 r1 => ?_⟩
  · have hX' := hX
    obtain ⟨j, rfl, calm, room, _, tk, _⟩ := hX'
    exact pe_callS F (room.mono hk) hg hm kp bd (passAt tk) (ea hX) hdb (he _) (hpl _)
  · have ll : vs.length = as'.length := by rw [r1.length, hl]
    refine ⟨B1, H1, as, as', _, args_ok r1 x1.bh, h, hl, fun B' H' cls d okc => q B' H' cls d ⟨okc.cl, ok.len, (ok.go x1).call0 okc.ok ll⟩⟩
/-! where it stands -/
theorem sx_exprR {x : Exn} (h : PR p e τ x τ') (hR : R.ex x τ') (hs : ∀ env, swapsWith e none pos.line env = pure false) : SX p (.Expr e pos :: rest) τ R :=
  sx_cons (fun _ => False) (fun B0 H0 B H σ ok D em => ⟨tDrop (EE p e), fun X hX => ps_expr (ee hX) (hs _), h B0 H0 B H σ ok _ fun B' H' cls d ok => em.ex B' H' σ τ' cls d x ok hR⟩) fun _ z => z.elim
theorem sx_setR {x : Exn} {y : Str} {py : Pos} (i : Nat) (G : Gd p m) (hN : p.N[i]? = some y) (hi : i < m) (h : PR p e τ x τ') (hR : R.ex x τ') (hs : ∀ env, swapsWith e (some (.Name y py)) pos.line env = pure false) : SX p (.Assign [.Name y py] e pos :: rest) τ R :=
  sx_cons (fun _ => False) (fun B0 H0 B H σ ok D em => ⟨tAsg (EE p e) (gName i), fun X hX => by
    have hX' := hX
    obtain ⟨k, rfl, _⟩ := hX'
    exact ps_set G.nd hN (G.lc hN hi) (ee hX) (hs _) (.inl (G.fn y)), h B0 H0 B H σ ok _ fun B' H' cls d ok => em.ex B' H' σ τ' cls d x ok hR⟩) fun _ z => z.elim
theorem sx_retR {x : Exn} (h : PR p e τ x τ') (hR : R.ex x τ') : SX p (.Return (some e) pos :: rest) τ R :=
  sx_cons (fun _ => False) (fun B0 H0 B H σ ok D em => ⟨tRet (EE p e), fun X hX => ps_ret (ee hX), h B0 H0 B H σ ok _ fun B' H' cls d ok => em.ex B' H' σ τ' cls d x ok hR⟩) fun _ z => z.elim
/-- xs.append(e), e raises -/
theorem sx_appR {x : Exn} (G : Gd p m) (i : Nat) {α : Type} [Py α] {xs : List α} {nm : Str} {px apos cpos : Pos} (hN : p.N[i]? = some nm) (hi : i < m) (hτ : τ[i]? = some (.ow xs)) (h : PR p e τ x τ') (hR : R.ex x τ')
    (hbase : ∀ env, attributeBase (.Name nm px) "append" env (eval (.Name nm px) env) = eval (.Name nm px) env) (hline : (apos.endLine == cpos.line) = true) (hs : ∀ env, starEach [e] env = [(false, eval e env)])
    (hsw : ∀ env, swapsWith (.Call (.Attribute (.Name nm px) "append" apos) [e] [] cpos) none pos.line env = pure false) : SX p (.Expr (.Call (.Attribute (.Name nm px) "append" apos) [e] [] cpos) pos :: rest) τ R :=
  sx_cons (fun _ => False) (fun B0 H0 B H σ ok D em => by
    refine ⟨tDrop (tBM p.K "list" rAppend (tVar i) (tCons (EE p e) tNil)), fun X hX => ?_, ?_⟩
    · have hX' := hX
      obtain ⟨k, rfl, _⟩ := hX'
      exact ps_expr (pe_bm PySem.F.plainAttrs_list PySem.F.slot_list_append PySem.F.type_list_append mt_append (pe_var hN (G.vs hN hi) (G.ok nm (List.mem_of_getElem? hN)).1 (G.ok nm (List.mem_of_getElem? hN)).2) (pa_cons (ee hX) pa_nil (hs _)) (hbase _) (by rw [hs]; rfl) hline (hs _) rfl) (hsw _)
    · obtain ⟨q, ob, e1, n0, nb, hq, vs, e2, r1⟩ := ok.own hτ
      subst e2
      exact ⟨_, e1, .inl ⟨rfl, vs, .of hq⟩, h B0 H0 B H σ ok _ fun B' H' cls d ok => em.ex B' H' σ τ' cls d x ok hR⟩) fun _ z => z.elim
end
end Ly

namespace Ly
open PySem PySem.Spec PyProof.Rows L2
open Py
/-! ### errors of own classes: made, raised, caught, kept, asked -/
/-- what the top has written of such a class -/
structure XC (K : PySem.W.Frag) (mg : Str → Option Value) (nm : Str) (C : Addr) : Prop where
  ns : PySem.W.nsIn K mainGlobals nm = some (some (.ref C))
  mg : mg nm = some (.ref C)
  ex : PySem.W.subIn K (.ref C) (.type "BaseException") = some true
  ty : PySem.W.typeIn K (.ref C) = some (.type "type")
  dc : PySem.W.hasDictIn K C = true
  kp : PySem.W.keepIn K (.ref C) = true
/-- .. that it's made with a text -/
def X0 (K : PySem.W.Frag) (C : Addr) : Prop := PySem.W.excIn K C [.type "ValueError", .type "Exception", .type "BaseException", .type "object"] "ValueError.__new__" = true
/-- self.f = v, of a new error -/
def spXI (K : PySem.W.Frag) (C : Addr) (f : Str) : Sp := fun vs H Q _ => ∃ a v, vs = [.ref a, v] ∧ OexC K C ∧ PySem.W.findIn K (.ref C) f = some none ∧ H a = some (exo a C none) ∧
  ∀ dx, H dx = none → dx ≠ a → Q .non (upd (upd H dx (exd dx [(f, v)])) a (exo a C (some dx)))
/-- .. that it has an __init__ of one field -/
def X1 (P : Program) (w : World) (K : PySem.W.Frag) (mg : Str → Option Value) (base : Heap) (C : Addr) (f : Str) : Prop :=
  ∃ (g : Addr) (fd : FuncData) (ps : List Str), OexC K C ∧ PySem.W.findIn K (.ref C) f = some none ∧ PySem.W.findIn K (.ref C) "__init__" = some (some (.ref g)) ∧ PySem.W.typeIn K (.ref g) = some (.type "function") ∧ FnOk P w K mg base CX0 1 g fd ps (spXI K C f) ∧ Binds K fd ps []
theorem fn_initX {P : Program} {w : World} {K : PySem.W.Frag} {mg : Str → Option Value} {base : Heap} {qual : Str} {f C : Addr} {fd : FuncData} {st : Stmt} {sf x fld : Str} {p1 p2 p3 p4 : Pos} (F : Fun K "__init__" qual st f fd) (S : FnScope [sf, x] [sf, x] (defScope st))
    (hb : defBody st = [.Assign [.Attribute (.Name sf p1) fld p2] (.Name x p3) p4]) (h1 : (sf == ("__debug__" : Str)) = false) (h2 : (sf == ("__classdict__" : Str)) = false) (h3 : (x == ("__debug__" : Str)) = false) (h4 : (x == ("__classdict__" : Str)) = false)
    (hs : ∀ env, swapsWith (.Name x p3) (some (.Attribute (.Name sf p1) fld p2)) p4.line env = pure false) : FnOk P w K mg base CX0 1 f fd [sf, x] (spXI K C fld) := by
  refine F.ok S (fun vs H Q E h => ?_) (fun cdv A outer s H vs Q E hr h => ?_)
  · obtain ⟨a, v, rfl, _⟩ := h
    rfl
  · obtain ⟨a, v, rfl, T, hn, ha, k⟩ := h
    have v1 : Vis (defScope st) sf := (S.par sf (by simp)).elim .inl fun h => .inr (.inl h)
    have v2 : Vis (defScope st) x := (S.par x (by simp)).elim .inl fun h => .inr (.inl h)
    rw [hb]
    refine ⟨_, pss_one (ps_ost (pe_var (i := 0) rfl v1 h1 h2) (pe_var (i := 1) rfl v2 h3 h4) (hs _)), ?_⟩
    exact ⟨v, rfl, .ref a, rfl, a, C, rfl, T, hn, .inl ⟨ha, k⟩⟩
/-- what a field may hold -/
class XA (α : Type) [Py α] where
  of : α → XArg
  rp : ∀ {K : PySem.W.Frag} {B : Hp} {v : V} {a : α}, rep K B v a → (of a).rep K B v
  pr : ∀ {K : PySem.W.Frag} {B : Hp} {v : V} {a : α}, (of a).rep K B v → rep K B v a
  ne : ∀ a, of a ≠ .no
instance : XA Int := ⟨.int, fun h => h, fun h => h, fun _ h => by cases h⟩
instance : XA Str := ⟨.str, fun h => h, fun h => h, fun _ h => by cases h⟩
instance : XA (Int × Int) := ⟨.cell, fun h => h, fun h => h, fun _ h => by cases h⟩
theorem xs_of {x : Exn} (h : x.arg ≠ .no) : xs x = [.ow (XD.mk x)] := by
  unfold xs
  split
  · rename_i e; exact absurd e h
  · rfl
section
variable {p : Par} {m : Nat} {τ τ' : List Sl} {R : Post} {rest : List Stmt} {e o : Expr} {es : List Expr} {pos pos2 : Pos}
/-- raise X("..") -/
theorem sx_raise0 {nm z : Str} {C : Addr} {j : Nat} {p1 p2 : Pos} (c : XC p.K p.mg nm C) (c0 : X0 p.K C) (hg : p.sc.names.lookup nm = some .globalImplicit) (hdb : (nm == ("__debug__" : Str)) = false) (hR : R.ex ⟨nm, "", .no⟩ τ) :
    SX p (.Raise (some (.Call (.Name nm p1) [.Constant (.str z) j p2] [] pos)) none pos2 :: rest) τ R :=
  sx_cons (fun _ => False) (fun B0 H0 B H σ ok D em => by
    refine ⟨fun _ σ H => (fun (_ : L2.St) H (Q : XK) => Q (.ref C) none H) σ H fun cls d H' => p.W cls d σ H', fun X hX => ?_, ?_⟩
    · have hX' := hX
      obtain ⟨k, rfl, calm, _, _, tk, _⟩ := hX'
      exact ps_raise calm tk (pmk_own PySem.F.excBase_ValueError c0 c.mg c.kp (raises_own c.ex c.ty) hg hdb)
    · exact em.ex B H σ τ (.ref C) none ⟨nm, "", .no⟩ ⟨⟨C, rfl, c.mg, c.ns⟩, ok.len, by show Ok p.K B0 H0 B H (σ ++ []) (τ ++ []); rw [List.append_nil, List.append_nil]; exact ok⟩ hR) fun _ z => z.elim
/-- raise X(e), of one field -/
theorem sx_raise1 {nm f : Str} {C : Addr} {p1 : Pos} {α : Type} [Py α] [XA α] {y : α} (c : XC p.K p.mg nm C) (c1 : X1 p.P p.w p.K p.mg p.base C f) (hk : 2 ≤ p.k) (hg : p.sc.names.lookup nm = some .globalImplicit) (h : PX p e τ (.sh y)) (hdb : (nm == ("__debug__" : Str)) = false)
    (he : ∀ env, starEach [e] env = [(false, eval e env)]) (hR : R.ex ⟨nm, f, XA.of y⟩ τ) : SX p (.Raise (some (.Call (.Name nm p1) [e] [] pos)) none pos2 :: rest) τ R :=
  sx_cons (fun _ => False) (fun B0 H0 B H σ ok D em => by
    obtain ⟨g, fd, ps, T, hn, iC, tI, F, bd⟩ := c1
    refine ⟨fun _ σ H => tMkO C (spXI p.K C f) [] (tCons (EE p e) tNil) σ H fun cls d H' => p.W cls d σ H', fun X hX => ?_, ?_⟩
    · have hX' := hX
      obtain ⟨k, rfl, calm, room, _, tk, _⟩ := hX'
      exact ps_raise calm tk (pmk_oex T iC tI F (room.mono hk) bd .nil pass0 hg c.mg (pa_cons (ee hX) pa_nil (he _)) hdb (he _) rfl)
    · refine h B0 H0 B H σ ok _ fun B1 H1 v x1 r1 => ⟨by show 1 ≤ 1000; decide, fun a na => ⟨a, v, rfl, T, hn, upd_same, fun dx nd ne => ?_⟩⟩
      rw [upd_ne ne] at nd
      refine ⟨rfl, dx, [(f, v)], upd_same, by rw [upd_ne ne, upd_same], nd, ?_⟩
      have eH : upd (L2.del (upd (upd (upd H1 a (exo a C none)) dx (exd dx [(f, v)])) a (exo a C (some dx))) a) dx (.xd [(f, v)]) = upd H1 dx (.xd [(f, v)]) := by
        funext b
        by_cases z : b = dx
        · subst z; rw [upd_same, upd_same]
        · rw [upd_ne z, upd_ne z]
          by_cases z2 : b = a
          · subst z2; rw [L2.del_same, na]
          · rw [L2.del_ne z2, upd_ne z2, upd_ne z, upd_ne z2]
      rw [eH]
      have x2 : Ext B1 H1 B1 (upd H1 dx (.xd [(f, v)])) := Ext.made x1.bh nd
      refine em.ex B1 _ σ τ (.ref C) (some dx) ⟨nm, f, XA.of y⟩ ⟨⟨C, rfl, c.mg, c.ns⟩, ok.len, ?_⟩ hR
      rw [xs_of (XA.ne y)]
      refine (ok.go x1).push x2 (vow ⟨dx, _, rfl, nd, x1.bh.free nd, upd_same, v, rfl, XA.rp r1⟩)) fun _ z => z.elim
end
/-! ### kept -/
/-- an error, once raised, of the class at C, its dict at d -/
def Exq (a C : Addr) (d : Option Addr) : HO := .ext fun h => ∃ (oe : Obj) (vs : Array Value), h.get? a = some oe ∧ Zc (.ref C) d oe ∧ oe.data = .fields vs
theorem exq_ok {P : Program} {w : World} {H : Hp} {h : Heap} {a C : Addr} {d : Option Addr} {oe : Obj} {vs : Array Value} (e : h.get? a = some oe) (z : Zc (.ref C) d oe) (dd : oe.data = .fields vs) : ObjOk P w H h a (Exq a C d) :=
  ⟨⟨oe, vs, e, z, dd⟩, ⟨oe, e⟩, fun _ _ ⟨o, v, q, r⟩ k => ⟨o, v, k o q, r⟩⟩
theorem exq_at {P : Program} {w : World} {H : Hp} {h : Heap} {a C : Addr} {d : Option Addr} (hok : HOk P w H h) (e : H a = some (Exq a C d)) : ∃ (oe : Obj) (vs : Array Value), h.get? a = some oe ∧ Zc (.ref C) d oe ∧ oe.data = .fields vs := by
  have x : ObjOk P w H h a (.ext fun h => ∃ (oe : Obj) (vs : Array Value), h.get? a = some oe ∧ Zc (.ref C) d oe ∧ oe.data = .fields vs) := hok a _ e
  exact x.1
theorem exq_no {a C : Addr} {d : Option Addr} {o : HO} (h : match o with | .ext _ => False | _ => True) : Exq a C d ≠ o := fun z => by
  rw [← z] at h; exact h
theorem nrm_exq {o : HO} {a C : Addr} {d : Option Addr} (h : nrm o = Exq a C d) : o = Exq a C d := by
  cases o with
  | frz ob u => cases u <;> exact absurd h (by intro z; cases z)
  | _ => exact h
theorem nrm_xd {o : HO} {fs : List (Str × V)} (h : nrm o = .xd fs) : o = .xd fs := by
  cases o with
  | frz ob u => cases u <;> simp [nrm] at h
  | _ => simpa [nrm] using h
theorem Le.exq {B B' : Hp} (h : Le B B') {a C : Addr} {d : Option Addr} (e : B a = some (Exq a C d)) : B' a = some (Exq a C d) := by
  obtain ⟨o, e1, n⟩ := h a _ e
  rw [e1, nrm_exq (show nrm o = Exq a C d from n)]
theorem Le.xd {B B' : Hp} (h : Le B B') {a : Addr} {fs : List (Str × V)} (e : B a = some (.xd fs)) : B' a = some (.xd fs) := by
  obtain ⟨o, e1, n⟩ := h a _ e
  rw [e1, nrm_xd (show nrm o = .xd fs from n)]
structure Exv where
  x : Exn
  deriving DecidableEq, Inhabited
def exvD (K : PySem.W.Frag) (B : Hp) (d : Option Addr) (x : Exn) : Prop := (x.arg = .no ∧ d = none) ∨ (x.arg ≠ .no ∧ ∃ dd w, d = some dd ∧ B dd = some (.xd [(x.fld, w)]) ∧ x.arg.rep K B w)
instance : Py Exv := ⟨fun K B v e => ∃ a C d, v = .ref a ∧ PySem.W.nsIn K mainGlobals e.x.cls = some (some (.ref C)) ∧ B a = some (Exq a C d) ∧ exvD K B d e.x, fun l ⟨a, C, d, e, n, b, r⟩ => ⟨a, C, d, e, n, l.exq b, r.imp id fun ⟨q, dd, w, e1, b1, r1⟩ => ⟨q, dd, w, e1, l.xd b1, XArg.keep l.tle r1⟩⟩⟩
instance : NoN Exv := ⟨fun ⟨_, _, _, e, _⟩ z => by rw [z] at e; cases e⟩
/-! ### asked -/
/-- wherever one stands, in an except suite too -/
def Par.InS (p : Par) (X : Cx) : Prop := ∃ k, Par.of X k = p
def PXS (p : Par) (e : Expr) (τ : List Sl) (s : Sl) : Prop := ∀ B0 H0 B H σ, Ok p.K B0 H0 B H σ τ → ∀ Q : VK, (∀ B' H' v, Ext B H B' H' → Vok p.K B' H' H v s → Q v H') → ∃ t : TE, (∀ X, p.InS X → PE X e t) ∧ t σ H Q
/-- what isinstance and attributes of its instances want -/
structure XI (K : PySem.W.Frag) (C : Addr) : Prop where
  ga : PySem.W.findIn K (.ref C) "__getattribute__" = some (some (.builtin "BaseException.__getattribute__"))
  gg : PySem.W.findIn K (.ref C) "__getattr__" = some none
  ha : PySem.W.findIn K (.ref C) "__class__" = some (some (.builtin "object.__class__"))
  hn : PySem.W.specialIn K (.builtin "object.__class__") "__get__" = some (some (.builtin "getset_descriptor.__get__"))
  ht : PySem.W.takesIn K (.builtin "object.__class__") = some true
  hm : PySem.W.mroIn K C (.type "object") = some true
def XAt (H : Hp) (a C : Addr) (d : Option Addr) : Prop := H a = some (Exq a C d) ∧ (d = none ∨ ∃ dd fs, d = some dd ∧ H dd = some (.xd fs))
theorem XAt.inst {X : Cx} {pins : List (Addr × Obj)} {σ : L2.St} {H : Hp} {s : Shared} {a C : Addr} {d : Option Addr} (I : Inv X pins σ H s) (h : XAt H a C d) : ∃ oe od, PySem.W.InstAt s.heap a oe C od := by
  obtain ⟨oe, vs, he, hz, hd⟩ := exq_at I.hok h.1
  rcases h.2 with e | ⟨dd, fs, e, hx⟩
  · subst e
    exact ⟨oe, none, he, hz.1, by unfold PySem.W.notCls; rw [hd] <;> rfl, by rw [hz.2]; trivial⟩
  · subst e
    have hx : ObjOk X.prog X.w H s.heap dd (.xd fs) := I.hok dd _ hx
    obtain ⟨mA, hns, hr⟩ := hx
    obtain ⟨od, ho, _⟩ := lookIn_ns hns
    exact ⟨oe, some od, he, hz.1, by unfold PySem.W.notCls; rw [hd] <;> rfl, by rw [hz.2]; exact ho⟩
def rIsX (K : PySem.W.Frag) : List V → Hp → VK → Prop := fun xs H Q => ∃ (a C : Addr) (d : Option Addr) (c : V) (cv : Value) (b : Bool), xs = [.ref a, c] ∧ XAt H a C d ∧ XI K C ∧ PySem.W.subIn K (.ref C) (.type "BaseException") = some true ∧ PySem.W.hasDictIn K C = true ∧ (∀ u, RelV c u → u = cv) ∧ PySem.W.kitOne K (.ref C) cv = some b ∧ Q (.bl b) H
theorem call_isX {X : Cx} : CallR X (.builtin "isinstance") (rIsX X.K) := by
  intro pins s σ H xs us Q I r h
  obtain ⟨a, C, d, c, cv, b, rfl, at_, xi, hs, hd, hcv, e, q⟩ := h
  obtain ⟨u1, u2, rfl, r1, r2⟩ := vals2 r
  cases (show u1 = Value.ref a from r1)
  have ec := hcv _ r2
  subst ec
  obtain ⟨oe, od, J⟩ := at_.inst I
  obtain ⟨cd, hc, _⟩ := PySem.W.any_some hd
  exact PySem.W.kia_one (PySem.W.kitx_exc (by rw [hc]; rfl) xi.ga xi.gg hs xi.ha xi.hn xi.ht xi.hm) I.kIn J e (fun z => nomatch z) fun tk => ⟨.bl b, H, I.tok tk, rfl, q⟩
def rIsXT (K : PySem.W.Frag) : List V → Hp → VK → Prop := fun xs H Q => ∃ (a C tp : Addr) (d : Option Addr) (cs : List Addr) (b : Bool), xs = [.ref a, .ref tp] ∧ H tp = some (.tup (cs.map V.ref)) ∧ XAt H a C d ∧ XI K C ∧ PySem.W.subIn K (.ref C) (.type "BaseException") = some true ∧ PySem.W.hasDictIn K C = true ∧ PySem.W.kitAny K (.ref C) (cs.map Value.ref) = some b ∧ Q (.bl b) H
theorem vals_refs : ∀ {cs : List Addr} {us : List Value}, Vals (cs.map V.ref) us → us = cs.map Value.ref
  | [], _, h => by cases h; rfl
  | c :: cs, _, h => by cases h with | cons r t => rw [List.map_cons, ← vals_refs t]; rw [show _ = Value.ref c from r]
theorem call_isXT {X : Cx} : CallR X (.builtin "isinstance") (rIsXT X.K) := by
  intro pins s σ H xs us Q I r h
  obtain ⟨a, C, tp, d, cs, b, rfl, hT, at_, xi, hs, hd, e, q⟩ := h
  obtain ⟨u1, u2, rfl, r1, r2⟩ := vals2 r
  cases (show u1 = Value.ref a from r1)
  cases (show u2 = Value.ref tp from r2)
  obtain ⟨oe, od, J⟩ := at_.inst I
  obtain ⟨cd, hc, _⟩ := PySem.W.any_some hd
  obtain ⟨_, its, rv, o, h1, h2, n, h3⟩ := (show ObjOk X.prog X.w H s.heap tp (.tup (cs.map V.ref)) from I.hok tp _ hT)
  have e3 := vals_refs rv
  subst e3
  obtain ⟨oc, od2, dt, sl⟩ := o
  simp only at h2 h3
  subst h2 h3
  exact PySem.W.kia_tup (PySem.W.kitx_exc (by rw [hc]; rfl) xi.ga xi.gg hs xi.ha xi.hn xi.ht xi.hm) I.kIn J h1 e (fun z => nomatch z) fun tk => ⟨.bl b, H, I.tok tk, rfl, q⟩
/-- e.f, of such an error -/
def tXq (K : PySem.W.Frag) (f : Str) (te : TE) : TE := fun σ H Q => te σ H fun x H1 => ∃ (a C dd : Addr) (v : V), x = .ref a ∧ H1 a = some (Exq a C (some dd)) ∧ XI K C ∧ PySem.W.subIn K (.ref C) (.type "BaseException") = some true ∧ PySem.W.hasDictIn K C = true ∧ PySem.W.findIn K (.ref C) f = some none ∧ H1 dd = some (.xd [(f, v)]) ∧ Q v H1
theorem pe_xq {X : Cx} {e : Expr} {te : TE} {pos : Pos} {n : Str} (he : PE X e te) (hb : attributeBase e n X.env (eval e X.env) = eval e X.env) : PE X (.Attribute e n pos) (tXq X.K n te) := by
  refine ⟨fun pins s σ H Q I h => ?_⟩
  refine attr_of hb (thn (he.run pins s σ H _ I h) fun u s1 hh => ?_)
  obtain ⟨x, H1, I1, rx, a, C, dd, v, ex, eq, T, hs, hdC, hno, ea, q⟩ := hh
  subst ex
  obtain rfl : u = Value.ref a := rx
  obtain ⟨oe, vs, ha, hz, hd⟩ := exq_at I1.hok eq
  have hx : ObjOk X.prog X.w H1 s1.heap dd (.xd [(n, v)]) := I1.hok dd _ ea
  obtain ⟨mA, hns, hr⟩ := hx
  obtain ⟨od, ho, hl⟩ := lookIn_ns hns
  have l : List.lookup n [(n, v)] = some v := by simp [List.lookup]
  obtain ⟨u, hu, ru⟩ := RelO.some_of (v := v) (o := mA n) (by rw [← l]; exact hr n)
  have J : PySem.W.InstAt s1.heap a oe C (some od) := ⟨ha, hz.1, by unfold PySem.W.notCls; rw [hd] <;> rfl, by rw [hz.2]; exact ho⟩
  exact HandSPX.exc_get I1.kIn J T.ga T.gg hs (PySem.W.findObj_own hdC hno rfl (by rw [hl, hu])) (handed_of ru) ⟨v, H1, I1.tok _, ru, q⟩
section
variable {p : Par} {m : Nat} {τ τ' : List Sl} {R : Post} {rest : List Stmt} {e o a b c : Expr} {es : List Expr} {pos pos2 : Pos}
theorem PXS.px {s : Sl} (h : PXS p e τ s) : PX p e τ s := fun B0 H0 B H σ ok Q q => by
  obtain ⟨t, h1, h2⟩ := h B0 H0 B H σ ok Q q
  exact ⟨t, fun X hX => h1 X (by obtain ⟨k, e, _⟩ := hX; exact ⟨k, e⟩), h2⟩
theorem pxs_v (G : Gd p m) (i : Nat) {s : Sl} {x : Str} (hN : p.N[i]? = some x) (hi : i < m) (hτ : τ[i]? = some s) (hs : isSh s) : PXS p (.Name x pos) τ s := fun B0 H0 B H σ ok Q q => by
  refine ⟨tVar i, fun X hX => ?_, ?_⟩
  · obtain ⟨k, rfl⟩ := hX
    exact pe_var hN (G.vs hN hi) (G.ok x (List.mem_of_getElem? hN)).1 (G.ok x (List.mem_of_getElem? hN)).2
  · rcases ok.at_ i s hτ with z | ⟨v, e1, r⟩
    · subst z; exact hs.elim
    · refine ⟨v, e1, q B H v (.refl ok.bh) ?_⟩
      cases s with
      | sh a => exact r
      | un => exact hs.elim
      | ow b => exact hs.elim
theorem pxs_bl {c : Bool} {j : Nat} : PXS p (.Constant (.bool c) j pos) τ (.sh c) := fun B0 H0 B H σ ok Q q => ⟨tC (.bl c), fun X _ => pe_bl, q B H _ (.refl ok.bh) rfl⟩
theorem pxs_get {α : Type} [Py α] {o : Option α} {x : α} (h : PXS p e τ (.sh o)) (ho : o = some x) : PXS p e τ (.sh x) := fun B0 H0 B H σ ok Q q => h B0 H0 B H σ ok Q fun B' H' v x1 r => q B' H' v x1 (by rw [ho] at r; exact r)
theorem pxs_tup3 {α β γ : Type} [Py α] [Py β] [Py γ] {x : α} {y : β} {z : γ} {j : Nat} (h1 : PXS p a τ (.sh x)) (h2 : PXS p b τ (.sh y)) (h3 : PXS p c τ (.sh z)) (hs : ∀ env, starEach [a, b, c] env = [(false, eval a env), (false, eval b env), (false, eval c env)] := by intro _; rfl)
    (hs2 : ∀ env, starEach [b, c] env = [(false, eval b env), (false, eval c env)] := by intro _; rfl) (hs3 : ∀ env, starEach [c] env = [(false, eval c env)] := by intro _; rfl) : PXS p (.Tuple [a, b, c] j pos) τ (.sh (T3.mk x y z)) := fun B0 H0 B H σ ok Q q => by
  -- the parts' readings, whatever is wanted behind
  let E (e : Expr) : TE := fun σ H Q => ∃ t : TE, (∀ X, p.InS X → PE X e t) ∧ t σ H Q
  have pe : ∀ e X, p.InS X → PE X e (E e) := fun e X hX => ⟨fun pins s σ H Q I ⟨_, ht, hq⟩ => (ht X hX).run pins s σ H Q I hq⟩
  refine ⟨tTup (tCons (E a) (tCons (E b) (tCons (E c) tNil))), fun X hX => pe_tup (pa_cons (pe a X hX) (pa_cons (pe b X hX) (pa_cons (pe c X hX) pa_nil (hs3 _)) (by rw [hs2, hs3])) (by rw [hs, hs2])), ?_⟩
  refine h1 B0 H0 B H σ ok _ fun B1 H1 v1 x1 r1 => h2 B0 H0 B1 H1 σ (ok.go x1) _ fun B2 H2 v2 x2 r2 => h3 B0 H0 B2 H2 σ ((ok.go x1).go x2) _ fun B3 H3 v3 x3 r3 => ⟨by show 3 ≤ sizeLine; decide, fun d nd => ?_⟩
  have x4 := Ext.laid (o := .tup [v1, v2, v3]) x3.bh nd
  have r1 : rep p.K B1 v1 x := r1
  have r2 : rep p.K B2 v2 y := r2
  have r3 : rep p.K B3 v3 z := r3
  exact q _ _ _ (((x1.trans x2).trans x3).trans x4) ⟨d, v1, v2, v3, rfl, upd_same, Py.mono (.of ((x2.trans x3).trans x4).bb) r1, Py.mono (.of (x3.trans x4).bb) r2, Py.mono (.of x4.bb) r3⟩
theorem exv_at {K : PySem.W.Frag} {B H : Hp} {v : V} {x : Exv} {C : Addr} (s : Same B H) (r : rep K B v x) (n : PySem.W.nsIn K mainGlobals x.x.cls = some (some (.ref C))) : ∃ a d, v = .ref a ∧ XAt H a C d := by
  obtain ⟨a, C', d, e, n', b, r⟩ := r
  rw [n] at n'
  cases n'
  refine ⟨a, d, e, s _ _ b, ?_⟩
  rcases r with ⟨_, e⟩ | ⟨_, dd, w, e, b, _⟩
  · exact .inl e
  · exact .inr ⟨dd, _, e, s _ _ b⟩
/-- isinstance(e, Y), Y an own class -/
theorem pxs_isX {x : Exv} {nm cn : Str} {C D : Addr} {k : Bool} {pp pT : Pos} (hg : p.sc.names.lookup ("isinstance" : Str) = some .globalImplicit) (hm : p.mg "isinstance" = none) (h : PXS p e τ (.sh x)) (hc : x.x.cls = nm) (cf : XC p.K p.mg nm C) (xi : XI p.K C) (hk : PySem.W.kitOne p.K (.ref C) (.ref D) = some k)
    (hgT : p.sc.names.lookup cn = some .globalImplicit) (hD : p.mg cn = some (.ref D)) (hdb : (cn == ("__debug__" : Str)) = false) (he : ∀ env, starEach [e, .Name cn pT] env = [(false, eval e env), (false, eval (.Name cn pT) env)] := by intro _; rfl) :
    PXS p (.Call (.Name "isinstance" pp) [e, .Name cn pT] [] pos) τ (.sh k) := fun B0 H0 B H σ ok Q q => by
  obtain ⟨t, h1, h2⟩ := h B0 H0 B H σ ok (fun v H1 => ∃ a d, v = .ref a ∧ XAt H1 a C d ∧ ∃ B1, Ext B H B1 H1) fun B1 H1 v x1 r1 => by
    obtain ⟨a, d, e1, at_⟩ := exv_at x1.bh (show rep p.K B1 v x from r1) (by rw [hc]; exact cf.ns)
    exact ⟨a, d, e1, at_, B1, x1⟩
  let E : TE := fun σ H Q => ∃ t : TE, (∀ X, p.InS X → PE X e t) ∧ t σ H Q
  have pe : ∀ X, p.InS X → PE X e E := fun X hX => ⟨fun pins s σ H Q I ⟨_, ht, hq⟩ => (ht X hX).run pins s σ H Q I hq⟩
  refine ⟨tCB (rIsX p.K) (tCons E (tCons (tC (.ref D)) tNil)), fun X hX => ?_, ?_⟩
  · have hX' := hX
    obtain ⟨k, rfl⟩ := hX'
    exact pe_callB call_isX hg hm (by decide +kernel) (pa_cons (pe X hX) (pa_cons (pe_glob hgT hD rfl hdb) pa_nil rfl) (he _)) (by decide) (by decide) (he _) rfl
  · refine h B0 H0 B H σ ok _ fun B1 H1 v x1 r1 => ?_
    obtain ⟨a, d, e1, at_⟩ := exv_at x1.bh (show rep p.K B1 v x from r1) (by rw [hc]; exact cf.ns)
    subst e1
    exact ⟨a, C, d, .ref D, .ref D, k, rfl, at_, xi, cf.ex, cf.dc, fun _ r => r, hk, q B1 H1 _ x1 rfl⟩
/-- .. a built-in one -/
theorem pxs_isXB {x : Exv} {nm cn : Str} {T : String} {C : Addr} {k : Bool} {pp pT : Pos} (hg : p.sc.names.lookup ("isinstance" : Str) = some .globalImplicit) (hm : p.mg "isinstance" = none) (h : PXS p e τ (.sh x)) (hc : x.x.cls = nm) (cf : XC p.K p.mg nm C) (xi : XI p.K C) (hk : PySem.W.kitOne p.K (.ref C) (.type T) = some k)
    (hgT : p.sc.names.lookup cn = some .globalImplicit) (hmT : p.mg cn = none) (hvT : bootBuiltins cn = some (.type T)) (hn : cn ≠ "__name__") (hdb : (cn == ("__debug__" : Str)) = false) (he : ∀ env, starEach [e, .Name cn pT] env = [(false, eval e env), (false, eval (.Name cn pT) env)] := by intro _; rfl) :
    PXS p (.Call (.Name "isinstance" pp) [e, .Name cn pT] [] pos) τ (.sh k) := fun B0 H0 B H σ ok Q q => by
  let E : TE := fun σ H Q => ∃ t : TE, (∀ X, p.InS X → PE X e t) ∧ t σ H Q
  have pe : ∀ X, p.InS X → PE X e E := fun X hX => ⟨fun pins s σ H Q I ⟨_, ht, hq⟩ => (ht X hX).run pins s σ H Q I hq⟩
  refine ⟨tCB (rIsX p.K) (tCons E (tCons (tC (.ty T)) tNil)), fun X hX => ?_, ?_⟩
  · have hX' := hX
    obtain ⟨k, rfl⟩ := hX'
    exact pe_callB call_isX hg hm (by decide +kernel) (pa_cons (pe X hX) (pa_cons (pe_bltn hgT hmT hvT rfl hn hdb) pa_nil rfl) (he _)) (by decide) (by decide) (he _) rfl
  · refine h B0 H0 B H σ ok _ fun B1 H1 v x1 r1 => ?_
    obtain ⟨a, d, e1, at_⟩ := exv_at x1.bh (show rep p.K B1 v x from r1) (by rw [hc]; exact cf.ns)
    subst e1
    exact ⟨a, C, d, .ty T, .type T, k, rfl, at_, xi, cf.ex, cf.dc, fun _ r => r, hk, q B1 H1 _ x1 rfl⟩
/-- the names of own classes, as a tuple's parts -/
inductive Clss (p : Par) : List Expr → List Addr → Prop
  | nil : Clss p [] []
  | cons {cn : Str} {D : Addr} {pT : Pos} {es : List Expr} {cs : List Addr} : p.sc.names.lookup cn = some .globalImplicit → p.mg cn = some (.ref D) → (cn == ("__debug__" : Str)) = false → (∀ env, starEach (.Name cn pT :: es) env = (false, eval (.Name cn pT) env) :: starEach es env) → Clss p es cs → Clss p (.Name cn pT :: es) (D :: cs)
def tClss : List Addr → TA
  | [] => tNil
  | c :: cs => tCons (tC (.ref c)) (tClss cs)
theorem Clss.pa {es : List Expr} {cs : List Addr} (h : Clss p es cs) {X : Cx} (hX : p.InS X) : PA X es (tClss cs) := by
  induction h with
  | nil => exact pa_nil
  | cons h1 h2 h3 h4 _ ih =>
    obtain ⟨k, rfl⟩ := hX
    exact pa_cons (pe_glob h1 h2 rfl h3) ih (h4 _)
theorem tClss_run : ∀ (cs : List Addr) {σ : L2.St} {H : Hp} {Q : List V → Hp → Prop}, Q (cs.map V.ref) H → tClss cs σ H Q
  | [], _, _, _, h => h
  | c :: cs, _, _, _, h => tClss_run cs h
/-- isinstance(e, (Y, ..)) -/
theorem pxs_isXT {x : Exv} {nm : Str} {C : Addr} {k : Bool} {pp tp : Pos} {es : List Expr} {cs : List Addr} {j : Nat} (hg : p.sc.names.lookup ("isinstance" : Str) = some .globalImplicit) (hm : p.mg "isinstance" = none) (h : PXS p e τ (.sh x)) (hc : x.x.cls = nm) (cf : XC p.K p.mg nm C) (xi : XI p.K C) (hk : PySem.W.kitAny p.K (.ref C) (cs.map Value.ref) = some k)
    (hs : Clss p es cs) (hl : cs.length ≤ sizeLine) (he : ∀ env, starEach [e, .Tuple es j tp] env = [(false, eval e env), (false, eval (.Tuple es j tp) env)] := by intro _; rfl) (he2 : ∀ env, starEach [.Tuple es j tp] env = [(false, eval (.Tuple es j tp) env)] := by intro _; rfl) :
    PXS p (.Call (.Name "isinstance" pp) [e, .Tuple es j tp] [] pos) τ (.sh k) := fun B0 H0 B H σ ok Q q => by
  let E : TE := fun σ H Q => ∃ t : TE, (∀ X, p.InS X → PE X e t) ∧ t σ H Q
  have pe : ∀ X, p.InS X → PE X e E := fun X hX => ⟨fun pins s σ H Q I ⟨_, ht, hq⟩ => (ht X hX).run pins s σ H Q I hq⟩
  refine ⟨tCB (rIsXT p.K) (tCons E (tCons (tTup (tClss cs)) tNil)), fun X hX => ?_, ?_⟩
  · have hX' := hX
    obtain ⟨k, rfl⟩ := hX'
    exact pe_callB call_isXT hg hm (by decide +kernel) (pa_cons (pe X hX) (pa_cons (pe_tup (hs.pa hX)) pa_nil (he2 _)) (by rw [he, he2])) (by decide) (by decide) (by rw [he, he2]) (by rw [he2]; rfl)
  · refine h B0 H0 B H σ ok _ fun B1 H1 v x1 r1 => tClss_run cs ⟨by rw [List.length_map]; exact hl, fun t nt => ?_⟩
    have x2 := Ext.laid (o := .tup (cs.map V.ref)) x1.bh nt
    obtain ⟨a, d, e1, at_⟩ := exv_at x2.bh (Py.mono (.of x2.bb) (show rep p.K B1 v x from r1)) (by rw [hc]; exact cf.ns)
    subst e1
    exact ⟨a, C, t, d, cs, k, rfl, upd_same, at_, xi, cf.ex, cf.dc, hk, q _ _ _ (x1.trans x2) rfl⟩
/-- e.f -/
theorem pxs_attr {x : Exv} {nm f : Str} {C : Addr} {α : Type} [Py α] [XA α] {y : α} (h : PXS p e τ (.sh x)) (hc : x.x.cls = nm) (hf : x.x.fld = f) (hy : x.x.arg = XA.of y) (cf : XC p.K p.mg nm C) (xi : XI p.K C) (hn : PySem.W.findIn p.K (.ref C) f = some none)
    (hb : ∀ env, attributeBase e f env (eval e env) = eval e env) : PXS p (.Attribute e f pos) τ (.sh y) := fun B0 H0 B H σ ok Q q => by
  let E : TE := fun σ H Q => ∃ t : TE, (∀ X, p.InS X → PE X e t) ∧ t σ H Q
  have pe : ∀ X, p.InS X → PE X e E := fun X hX => ⟨fun pins s σ H Q I ⟨_, ht, hq⟩ => (ht X hX).run pins s σ H Q I hq⟩
  refine ⟨tXq p.K f E, fun X hX => ?_, ?_⟩
  · have hX' := hX
    obtain ⟨k, rfl⟩ := hX'
    exact pe_xq (pe X hX) (hb _)
  · refine h B0 H0 B H σ ok _ fun B1 H1 v x1 r1 => ?_
    obtain ⟨a, C', d, e1, n', b1, r⟩ := (show rep p.K B1 v x from r1)
    rw [hc, cf.ns] at n'
    cases n'
    rcases r with ⟨e2, _⟩ | ⟨_, dd, w, e2, b2, r2⟩
    · rw [hy] at e2; exact absurd e2 (XA.ne y)
    · subst e2
      rw [hf] at b2
      rw [hy] at r2
      exact ⟨a, C, dd, w, e1, x1.bh _ _ b1, xi, cf.ex, cf.dc, hn, x1.bh _ _ b2, q B1 H1 w x1 (XA.pr r2)⟩
end
end Ly

namespace Ly
open PySem PySem.Spec PyProof.Rows L2
open Py
/-! ### try: .. except X as n: .. : the error stays readable -/
abbrev suk (X : Cx) (a : Addr) : Cx := { X with A := X.A.mark (some (.ref a)), calm := false, xe := fun _ _ => False }
section
variable {X : Cx} {pins : List (Addr × Obj)} {σ : L2.St} {H : Hp} {s : Shared}
theorem okSuk {X : Cx} (k : X.Ok) (a : Addr) : (suk X a).Ok :=
  { mod := k.mod, kind := k.kind, glob := k.glob, blt := k.blt, above := k.above, inj := k.inj, has := k.has, cab := k.cab, hd := fun z => absurd (show false = true from z) Bool.false_ne_true, frames := k.frames, stk := k.stk, exf := k.exf, bs := k.bs, bsz := k.bsz, noex := k.noex, exfs := k.exfs, funs := k.funs, frf := k.frf }
theorem toSuk (I : Inv X pins σ H s) (a : Addr) : Inv (suk X a) pins σ H s := { ok := okSuk I.ok a, os := I.os, bare := I.bare, base := I.base, loc := I.loc, cell := I.cell, free := I.free, freeC := I.freeC, pin := I.pin, hok := I.hok, len := I.len }
theorem ofSuk {a : Addr} (I : Inv (suk X a) pins σ H s) (k : X.Ok) : Inv X pins σ H s := { ok := k, os := I.os, bare := I.bare, base := I.base, loc := I.loc, cell := I.cell, free := I.free, freeC := I.freeC, pin := I.pin, hok := I.hok, len := I.len }
theorem keepX {a C : Addr} {d : Option Addr} {oe : Obj} {vs : Array Value} (I : Inv X pins σ H s) (he : s.heap.get? a = some oe) (hz : Zc (.ref C) d oe) (hd : oe.data = .fields vs) (na : H a = none) (nL : a ≠ X.env.locals) (n0 : X.s_0.heap.get? a = none) (np : ∀ q ∈ X.pn ++ pins, q.1 ≠ a) :
    Inv X pins σ (upd H a (Exq a C d)) s := by
  have ne0 : ∀ b o, X.s_0.heap.get? b = some o → b ≠ a := fun b o e z => by rw [z, n0] at e; cases e
  refine { ok := I.ok, os := I.os, bare := I.bare, base := ?_, loc := I.loc, cell := I.cell, free := ?_, freeC := fun x c e => ?_, pin := fun q hq => ?_, hok := fun b u e => ?_, len := I.len }
  · exact { keep := I.base.keep, slot := I.base.slot, free := fun b o e n hx => (by rw [upd_ne (ne0 b o e)]; exact I.base.free b o e n hx), there := I.base.there,
            tups := fun b ys e => (by have g := I.base.tups b ys e; rw [upd_ne (ne_of_none g na)]; exact g), frzs := fun b o ys e => (by have g := I.base.frzs b o ys e; rw [upd_ne (ne_of_none g na)]; exact g),
            tbls := fun b ps e => (by obtain ⟨mo, g⟩ := I.base.tbls b ps e; exact ⟨mo, by rw [upd_ne (ne_of_none g na)]; exact g⟩) }
  · rw [upd_ne (Ne.symm nL)]; exact I.free
  · have g : c ≠ a := fun z => by
      obtain ⟨v, o, ho, hv⟩ := I.cell x c e
      rw [z, he] at ho
      cases ho
      rw [hd] at hv
      cases hv
    rw [upd_ne g]; exact I.freeC x c e
  · obtain ⟨g1, g2, g3, g4, g5⟩ := I.pin q hq
    exact ⟨g1, by rw [upd_ne (np q hq)]; exact g2, g3, g4, g5⟩
  · by_cases z : b = a
    · subst z
      rw [upd_same] at e
      cases e
      exact exq_ok he hz hd
    · rw [upd_ne z] at e
      exact (I.hok b u e).stay (fun c v _ g => g) (fun c g => by rw [upd_ne (ne_of_none g na)]; exact g) fun c ys g => by rw [upd_ne (ne_of_none g na)]; exact g
end
/-- what the clause wishes of what the body raises; slot i is the error's name -/
def wKp (K : PySem.W.Frag) (c : Value) (i : Nat) (ts : Addr → Addr → Option Addr → TS) (Wout : WX) (D : Ends) : WX := fun cls d σ H =>
  ∃ b, PySem.W.exmOne K cls c = some b ∧ (b = true → ∃ C, cls = .ref C ∧ ∀ a, H a = none → ts a C d { nx := fun σ' H' => D.nx (σ'.set i none) H', rt := D.rt, bk := fun σ' H' => D.bk (σ'.set i none) H', ct := fun σ' H' => D.ct (σ'.set i none) H' } (σ.set i (some (.ref a))) (upd H a (Exq a C d))) ∧
    (b = false → Wout cls d σ H)
section
variable {X : Cx} {x n : Str} {c : Value} {i : Nat} {body suite : List Stmt} {b₀ : Stmt} {np pos pos' : Pos} {tb : WX → TS} {ts : Addr → Addr → Option Addr → TS} {Wo : WX}
theorem ps_tryK (hst : X.stack = X.env :: X.outer) (hfr0 : X.env.frame = some X.env.locals) (hex : X.ex = []) (nd : X.N.Nodup) (hi : X.N[i]? = some n) (hln : X.env.kindOf n = some .local) (hc : Names X x c) (tk : Takes X Wo)
    (hbody : ∀ (W : WX) (pn : List (Addr × Obj)) (xe : Value → Shared → Prop), Takes (X.tr pn xe) W → PassesOwn (model X.prog X.w) X.A X.env xe → PSs (X.tr pn xe) body (tb W)) (hsuite : ∀ a C d, PSs (suk X a) (b₀ :: suite) (ts a C d)) :
    PS X (.Try body [.ExceptHandler (some (.Name x np)) (some n) (b₀ :: suite) pos'] [] [] pos) (fun D σ H => tb (wKp X.K c i ts Wo D) D σ H) := by
  refine ⟨fun pins s σ H D I h => ?_⟩
  have okX := I.ok
  have fr2 : X.A.frames = some (X.env :: X.outer) := by rw [okX.frames, hst]
  have hlo : L2.Loc X.env.scope n := .inl hln
  refine wpAny_Try_except (wpAny_mono ((hbody (wKp X.K c i ts Wo D) (X.pn ++ pins) (fun e s₁ => wpAny (model X.prog X.w) X.A (noteFrame e X.env) (fun _ s₂ => wpAny (model X.prog X.w) X.A (setFlight e none) (fun _ s₃ =>
      wpAny (model X.prog X.w) X.A (handleBy e X.env [.ExceptHandler (some (.Name x np)) (some n) (b₀ :: suite) pos']) (SP X pins D) X.xe s₃) X.xe s₂) X.xe s₁)
    (fun u s' xx => ?_) PassesOwn.looking).run [] s σ H D (I.toTry _) h) (fun f s1 hsp => ?_) (fun e s1 he => he))
  · obtain ⟨a, B, sI, pins', σ', H', cls, d, rfl, Jt, nb, up, sky, na, hos, ag, b, hb1, hyes, hno⟩ := xx
    have J : Inv X pins σ' H' sI := Jt.ofTry okX
    have sky2 : Sky B (X.env :: X.outer) a (Zc cls d) X.env.locals s'.heap := by rw [← hst]; exact sky
    show wpAny (model X.prog X.w) X.A (noteFrame (.ref a) X.env) (fun _ s₂ => wpAny (model X.prog X.w) X.A (setFlight (.ref a) none) _ X.xe s₂) X.xe s'
    refine Sky.land Zc.steady fr2 hfr0 sky2 fun h3 fl3 up3 => ?_
    have J3 : Inv X pins σ' H' { s' with heap := h3 } := J.landed nb fl3.1 (up.trans up3) hos ag
    obtain ⟨oe3, vs3, he3, hz3, hd3⟩ := fl3.there
    have nfr : a ∉ frs (X.env :: X.outer) := fun hm => by
      obtain ⟨_, o', e', hnf⟩ := (fl3.2.2.1).mem hm
      rw [he3] at e'; cases e'
      exact hnf _ hd3
    have nL : a ≠ X.env.locals := fun z => nfr (List.mem_filterMap.mpr ⟨X.env, List.mem_cons_self, by rw [hfr0, z]⟩)
    have nF : a ∉ X.fs := fun hm => by
      obtain ⟨e, he, q⟩ := List.mem_filterMap.mp hm
      exact nfr (List.mem_filterMap.mpr ⟨e, List.mem_cons_of_mem _ he, q⟩)
    have nI : sI.heap.get? a = none := by
      cases g : sI.heap.get? a with
      | none => rfl
      | some o =>
        have := nb a o g (by rw [hst]; exact nfr)
        rw [fl3.2.1] at this
        cases this
    have n0 : X.s_0.heap.get? a = none := by
      cases g : X.s_0.heap.get? a with
      | none => rfl
      | some o =>
        obtain ⟨o', g'⟩ := J.base.there a o g (by rw [hex]; exact fun z => nomatch z)
        rw [nI] at g'
        cases g'
    have npn : ∀ q ∈ X.pn ++ pins, q.1 ≠ a := fun q hq z => by
      have g := (J.pin q hq).1
      rw [z, nI] at g
      cases g
    have S3 := J3.suite he3 hd3 na nL nF
    refine wpAny_handleBy_cons (codeAny_handlers_test ?_) (by intro q; cases q)
    have LT : PySem.W.Looks (model X.prog X.w) h3 (typeOf (.ref a)) cls := fun A Q E s k q => wpAny_typeOf_ref (k _ _ he3) (by rw [hz3.1]; exact q)
    have LM := PySem.W.exm_one (M := model X.prog X.w) (J3.kIn) LT hb1
    have tst : ∀ {Q : Value → Shared → Prop} {E : Value → Shared → Prop}, Q c { s' with heap := h3 } → wpAny (model X.prog X.w) (X.A.mark (some (.ref a))) (eval (.Name x np) X.env) Q E { s' with heap := h3 } := fun {Q E} q => by
      obtain ⟨hg, hdbg, hm | ⟨hm, hv, hnn⟩⟩ := hc
      · exact ld_glob (X := X.suite a ((a, oe3) :: (X.pn ++ pins))) S3 hg hm q hdbg
      · exact ld_blt (X := X.suite a ((a, oe3) :: (X.pn ++ pins))) S3 hg hm hv q hnn hdbg
    refine tst (LM.here ?_)
    cases b with
    | true =>
      obtain ⟨C, rfl, hy2⟩ := hyes rfl
      refine codeAny_handlers_suite_as ?_
      refine HandSPX.lands_againZ fl3 fun h4 fl4 up4 => ?_
      have J4 : Inv X pins σ' H' { s' with heap := h4 } := J.landed nb fl4.1 ((up.trans up3).trans up4) hos ag
      obtain ⟨oe4, vs4, he4, hz4, hd4⟩ := fl4.there
      have K4 := toSuk (keepX J4 he4 hz4 hd4 na nL n0 npn) a
      refine store_ok (X := suk X a) (v := .ref a) K4 nd hi hlo rfl (fun s5 S5 => ?_) (.inr hln)
      refine wpAny_mono ((hsuite a C d).run pins s5 _ _ _ S5 (hy2 a na)) (fun f s6 hsp => ?_) (fun _ _ z => False.elim z)
      have fin : ∀ {σ6 : L2.St} {H6 : Hp} {Q : Shared → Prop}, Inv (suk X a) pins σ6 H6 s6 → (∀ s7, Inv X pins (σ6.set i none) H6 s7 → Q s7) →
          wpAny (model X.prog X.w) X.A (do bindName X.env n .none; unbindBehindTheSuite X.env n pos') (fun _ s7 => Q s7) X.xe s6 := fun {σ6 H6 Q} S6 hq => gone_ok (ofSuk S6 okX) nd hi hln hq
      cases f with
      | next => obtain ⟨σ6, H6, S6, q6⟩ := hsp; exact fin S6 fun s7 J7 => ⟨_, _, J7, q6⟩
      | brk => obtain ⟨σ6, H6, S6, q6⟩ := hsp; exact fin S6 fun s7 J7 => ⟨_, _, J7, q6⟩
      | cont => obtain ⟨σ6, H6, S6, q6⟩ := hsp; exact fin S6 fun s7 J7 => ⟨_, _, J7, q6⟩
      | ret u => obtain ⟨v6, σ6, H6, S6, r6, q6⟩ := hsp; exact fin S6 fun s7 J7 => ⟨_, _, _, J7, r6, q6⟩
    | false =>
      show wpAny (model X.prog X.w) X.A (handleBy (.ref a) X.env []) (SP X pins D) X.xe { s' with heap := h3 }
      refine wpAny_handleBy_nil ?_
      obtain ⟨k1, k2, k3, oe, vs, T, oT, ts', he, hz, hd, h1, hr⟩ := id fl3
      unfold PySem.passOn
      refine wpAny_bind (wpAny_field he hd h1 ?_)
      rw [if_neg (show ¬ ((Value.ref T == Value.none) = true) from by simp)]
      have fin : wpAny (model X.prog X.w) X.A (setFlight (.ref a) X.env.frame) (fun _ s4 => wpAny (model X.prog X.w) X.A (throw (.ref a) : Sem Flow) (SP X pins D) X.xe s4) X.xe { s' with heap := h3 } := by
        rw [hfr0]
        refine HandSPX.setFlight_upZ fl3 fun h4 hh4 up4 => wpAny_throw (tk _ _ ?_)
        exact ⟨a, B, sI, pins, σ', H', cls, d, rfl, J, nb, (up.trans up3).trans up4, .inr (.inr (by rw [hst]; exact hh4)), na, hos, ag, hno rfl⟩
      first
        | exact wpAny_bind (wpAny_pure (wpAny_bind fin))
        | exact wpAny_bind fin
  · cases f with
    | next => obtain ⟨σ', H', Jn, q⟩ := hsp; exact wpAny_execs_nil ⟨σ', H', Jn.ofTry okX, q⟩
    | brk => obtain ⟨σ', H', Jn, q⟩ := hsp; exact ⟨σ', H', Jn.ofTry okX, q⟩
    | cont => obtain ⟨σ', H', Jn, q⟩ := hsp; exact ⟨σ', H', Jn.ofTry okX, q⟩
    | ret u => obtain ⟨v, σ', H', Jn, r, q⟩ := hsp; exact ⟨v, σ', H', Jn.ofTry okX, r, q⟩
end
end Ly

namespace Ly
open PySem PySem.Spec PyProof.Rows L2
open Py
/-! ### try, typed -/
section
variable {K : PySem.W.Frag} {mg : Str → Option Value} {B0 H0 B H : Hp} {σ : L2.St} {τ : List Sl} {cls : Value} {d : Option Addr} {x : Exn}
theorem Rn.xd {B : Hp} {a : Addr} {fs : List (Str × V)} (h : Rn B a (.xd fs)) : B a = some (.xd fs) := by
  obtain ⟨o, e, n⟩ := h
  rw [e, nrm_xd (show nrm o = .xd fs from n)]
theorem OkX.dct (h : OkX K mg B0 H0 B H σ τ cls d x) : ∃ B1, Ok K B0 H0 B1 H σ τ ∧ exvD K B1 d x := by
  have h2 := h.ok
  by_cases e : x.arg = .no
  · have ex : xs x = [] := by unfold xs; rw [e]
    rw [ex] at h2
    have l2 := h2.len
    rw [List.length_append, List.length_append, h.len] at l2
    have ed : d = none := by
      cases d with
      | none => rfl
      | some a => simp [xv] at l2
    subst ed
    exact ⟨B, h2.fst h.len, .inl ⟨e, rfl⟩⟩
  · rw [xs_of e] at h2
    have l2 := h2.len
    rw [List.length_append, List.length_append, h.len] at l2
    cases d with
    | none => simp [xv] at l2
    | some dd =>
      have tp : (τ ++ [Sl.ow (XD.mk x)])[τ.length]? = some (.ow (XD.mk x)) := by rw [List.getElem?_append_right (Nat.le_refl _), Nat.sub_self]; rfl
      obtain ⟨F, q, n, eq, own, ok3⟩ := h2.lendF (γ := XD) tp
      have es : (τ ++ [Sl.ow (XD.mk x)]).set τ.length (.sh (XD.mk x)) = τ ++ [.sh (XD.mk x)] := set_end _ _ _
      have ok3 : Ok K B0 H0 (over B H F) H (σ ++ [some (.ref dd)]) (τ ++ [.sh (XD.mk x)]) := by rw [← es]; exact ok3
      have r : rep K (over B H F) (.ref dd) (XD.mk x) := ok3.top h.len
      obtain ⟨p, o, e1, hr, w, e2, rr⟩ := r
      cases e1
      subst e2
      exact ⟨_, ok3.fst h.len, .inr ⟨e, dd, w, rfl, hr.xd, rr⟩⟩
/-- caught at a -/
theorem OkX.at_ (h : OkX K mg B0 H0 B H σ τ cls d x) : ∃ C B1, cls = .ref C ∧ mg x.cls = some (.ref C) ∧ ∀ a, H a = none → Ok K B0 H0 (upd B1 a (Exq a C d)) (upd H a (Exq a C d)) σ τ ∧ rep K (upd B1 a (Exq a C d)) (.ref a) (Exv.mk x) := by
  obtain ⟨C, e1, m, n⟩ := h.cl
  obtain ⟨B1, ok, r⟩ := h.dct
  refine ⟨C, B1, e1, m, fun a na => ?_⟩
  have xl := Ext.laid (o := Exq a C d) ok.bh na
  refine ⟨ok.go xl, a, C, d, rfl, n, upd_same, r.imp id fun ⟨q, dd, w, e2, b2, r2⟩ => ⟨q, dd, w, e2, xl.bb _ _ b2, XArg.keep (Le.of xl.bb).tle r2⟩⟩
end
section
variable {p : Par} {m : Nat} {τ τ' : List Sl} {R : Post} {rest body : List Stmt} {e : Expr} {pos pos' apos np py : Pos}
theorem pxs_some {α : Type} [Py α] {x : α} (h : PXS p e τ (.sh x)) : PXS p e τ (.sh (some x)) := fun B0 H0 B H σ ok Q q => h B0 H0 B H σ ok Q fun B' H' v x1 r => q B' H' v x1 (show optRep p.K B' v (some x) from r)
/-- e's reading, in an except suite too -/
def EES (p : Par) (e : Expr) : TE := fun σ H Q => ∃ t : TE, (∀ X, p.InS X → PE X e t) ∧ t σ H Q
theorem ees {X : Cx} (h : p.InS X) : PE X e (EES p e) := ⟨fun pins s σ H Q I ⟨_, ht, hq⟩ => (ht X h).run pins s σ H Q I hq⟩
theorem blk_eb {X : Cx} {W : WX} {pn : List (Addr × Obj)} {xe : Value → Shared → Prop} (hX : p.In X) (tk : Takes (X.tr pn xe) W) (po : PassesOwn (model X.prog X.w) X.A X.env xe) : PSs (X.tr pn xe) body (EB { p with W := W } body) := by
  obtain ⟨k, rfl, calm, room, _, _, fr⟩ := hX
  exact eb ⟨(k.1, W, k.2.2), rfl, calm, room, po, tk, fr⟩
/-- try: body; except cx as n: y = e -/
theorem sx_tryK (G : Gd p m) (i j : Nat) {cx n y : Str} {Cc : Addr} (hfr : p.fr = true) (hN : p.N[i]? = some n) (hi : i < m) (hln : p.sc.names.lookup n = some .local) (hM : p.N[j]? = some y) (hj : j < m)
    (hg : p.sc.names.lookup cx = some .globalImplicit) (hC : p.mg cx = some (.ref Cc)) (hdb : (cx == ("__debug__" : Str)) = false) (hs : ∀ env, swapsWith e (some (.Name y py)) apos.line env = pure false)
    (hb : ∀ W, SX { p with W := W } body τ ⟨fun τ' => SX p rest τ' R, R.rt, R.rx, fun x τ' => (∀ C, p.mg x.cls = some (.ref C) → PySem.W.exmOne p.K (.ref C) (.ref Cc) = some true) ∧ ∃ s, PXS p e (τ'.set i (.sh (Exv.mk x))) s ∧ SX p rest (((τ'.set i (.sh (Exv.mk x))).set j s).set i .un) R⟩) :
    SX p (.Try body [.ExceptHandler (some (.Name cx np)) (some n) [.Assign [.Name y py] e apos] pos'] [] [] pos :: rest) τ R :=
  sx_cons (fun τ' => SX p rest τ' R) (fun B0 H0 B H σ ok D em => by
    let ts : Addr → Addr → Option Addr → TS := fun _ _ _ => tAsg (EES p e) (gName j)
    refine ⟨fun D σ H => EB { p with W := wKp p.K (.ref Cc) i ts p.W D } body D σ H, fun X hX => ?_, ?_⟩
    · have hX' := hX
      obtain ⟨k, rfl, calm, room, po, tk, fr⟩ := hX'
      obtain ⟨f1, f2, f3⟩ := fr hfr
      exact ps_tryK f1 f2 f3 G.nd hN hln ⟨hg, hdb, .inl hC⟩ tk (fun W pn xe tk po => blk_eb hX tk po) fun a C d => pss_one (ps_set G.nd hM (G.lc hM hj) (ees (X := suk X a) ⟨k, rfl⟩) (hs _) (.inl (G.fn y)))
    · refine hb (wKp p.K (.ref Cc) i ts p.W D) B0 H0 B H σ ok D ⟨em.nx, em.rt, em.rx, fun B' H' σ' τ' cls d x okx q => ?_⟩
      obtain ⟨hx, s, hp, hr⟩ := q
      obtain ⟨C, B1, rfl, hm, at_⟩ := okx.at_
      refine ⟨true, hx C hm, fun _ => ⟨C, rfl, fun a na => ?_⟩, fun z => by cases z⟩
      obtain ⟨ok2, r2⟩ := at_ a na
      have ok3 := ok2.putN (i := i) (s := .sh (Exv.mk x)) (.refl ok2.bh) (show rep p.K _ (.ref a) (Exv.mk x) from r2)
      refine hp B0 H0 _ _ _ ok3 _ fun B4 H4 v x4 r4 => ?_
      exact em.nx B4 H4 _ _ ((ok3.putN (i := j) x4 r4).wipe i) hr) fun _ h => h
/-- try: body; except cx: y = e -/
theorem sx_tryN (G : Gd p m) (j : Nat) {cx y : Str} {Cc : Addr} (hfr : p.fr = true) (hM : p.N[j]? = some y) (hj : j < m)
    (hg : p.sc.names.lookup cx = some .globalImplicit) (hC : p.mg cx = some (.ref Cc)) (hdb : (cx == ("__debug__" : Str)) = false) (hs : ∀ env, swapsWith e (some (.Name y py)) apos.line env = pure false)
    (hb : ∀ W, SX { p with W := W } body τ ⟨fun τ' => SX p rest τ' R, R.rt, R.rx, fun x τ' => (∀ C, p.mg x.cls = some (.ref C) → PySem.W.exmOne p.K (.ref C) (.ref Cc) = some true) ∧ ∃ s, PXS p e τ' s ∧ SX p rest (τ'.set j s) R⟩) :
    SX p (.Try body [.ExceptHandler (some (.Name cx np)) none [.Assign [.Name y py] e apos] pos'] [] [] pos :: rest) τ R :=
  sx_cons (fun τ' => SX p rest τ' R) (fun B0 H0 B H σ ok D em => by
    let ts : Addr → Value → Option Addr → TS := fun _ _ _ => tAsg (EES p e) (gName j)
    refine ⟨fun D σ H => EB { p with W := wOnly p.K (.ref Cc) ts p.W D } body D σ H, fun X hX => ?_, ?_⟩
    · have hX' := hX
      obtain ⟨k, rfl, calm, room, po, tk, fr⟩ := hX'
      obtain ⟨f1, f2, f3⟩ := fr hfr
      exact ps_try_only f1 f2 ⟨hg, hdb, .inl hC⟩ tk (fun W pn xe tk po => blk_eb hX tk po) fun a oe cls d pn _ _ => pss_one (ps_set G.nd hM (G.lc hM hj) (ees (X := X.suite a ((a, oe) :: pn)) ⟨k, rfl⟩) (hs _) (.inl (G.fn y)))
    · refine hb (wOnly p.K (.ref Cc) ts p.W D) B0 H0 B H σ ok D ⟨em.nx, em.rt, em.rx, fun B' H' σ' τ' cls d x okx q => ?_⟩
      obtain ⟨hx, s, hp, hr⟩ := q
      obtain ⟨C, rfl, hm, _⟩ := okx.cl
      obtain ⟨B1, ok2, _⟩ := okx.dct
      refine ⟨true, hx C hm, fun _ a na => ?_, fun z => by cases z⟩
      refine hp B0 H0 _ _ _ ok2 _ fun B4 H4 v x4 r4 => ?_
      exact em.nx B4 H4 _ _ (ok2.putN (i := j) x4 r4) hr) fun _ h => h
end
end Ly
namespace Ly
open PySem PySem.Spec PyProof.Rows L2
open Py
/-! ### which class is which -/
section
variable {K : PySem.W.Frag} {C D : Addr}
theorem kx_self : PySem.W.kitOne K (.ref C) (.ref C) = some true := by unfold PySem.W.kitOne; rw [if_pos (beq_self_eq_true _)]
theorem kx_own {b : Bool} (n : (Value.ref C == Value.ref D) = false) (c : PySem.W.isClsIn K D = true) (t : PySem.W.typeIn K (.ref D) = some (.type "type")) (h : PySem.W.subIn K (.ref C) (.ref D) = some b) : PySem.W.kitOne K (.ref C) (.ref D) = some b := by
  unfold PySem.W.kitOne
  rw [if_neg (by rw [n]; decide)]
  show (if _ then _ else _) = _
  rw [if_pos (by rw [Bool.and_eq_true]; exact ⟨c, by rw [t]; exact beq_self_eq_true _⟩)]
  exact h
theorem kx_blt {T : String} {b : Bool} (m : PySem.W.kitMeta T = true) (h : PySem.W.subIn K (.ref C) (.type T) = some b) : PySem.W.kitOne K (.ref C) (.type T) = some b := by
  unfold PySem.W.kitOne
  rw [if_neg (fun z => by have := beq_iff_eq.mp z; cases this)]
  show (if _ then _ else _) = _
  rw [if_pos m]
  exact h
theorem kx_nil : PySem.W.kitAny K (.ref C) (([] : List Addr).map Value.ref) = some false := rfl
theorem kx_cons {cs : List Addr} (h : PySem.W.kitOne K (.ref C) (.ref D) = some false) (t : PySem.W.kitAny K (.ref C) (cs.map Value.ref) = some false) : PySem.W.kitAny K (.ref C) ((D :: cs).map Value.ref) = some false :=
  kitAny_cons h (fun _ => t) fun z => by cases z
end
end Ly

namespace Ly
open PySem PySem.Spec PyProof.Rows L2
open Py
/-! ### parts of written tuples, set together -/
section
variable {p : Par} {τ : List Sl} {a b : Expr} {pos p2 : Pos} {lo hi : Option Expr}
section
variable {α β γ δ ε : Type} [Py α] [Py β] [Py γ] [Py δ] [Py ε]
theorem px_slT4_0_3 {x : T4 α β γ δ} (ha : PX p a τ (.sh x)) (hl : POx p lo τ none) (hu : POx p hi τ (some 3)) : PX p (.Subscript a (.Slice lo hi none p2) pos) τ (.sh (T3.mk x.a x.b x.c)) :=
  px_slT (n := 4) ha hl hu rfl (by decide) fun B vs q r e => by
    have r : All2 (Shr p.K B) vs [.sh x.a, .sh x.b, .sh x.c] := r
    cases r with
    | cons r1 r => cases r with
      | cons r2 r => cases r with
        | cons r3 r => cases r; exact ⟨q, _, _, _, rfl, e, r1, r2, r3⟩
theorem px_slT5_0_4 {x : T5 α β γ δ ε} (ha : PX p a τ (.sh x)) (hl : POx p lo τ none) (hu : POx p hi τ (some 4)) : PX p (.Subscript a (.Slice lo hi none p2) pos) τ (.sh (T4.mk x.a x.b x.c x.d)) :=
  px_slT (n := 5) ha hl hu rfl (by decide) fun B vs q r e => by
    have r : All2 (Shr p.K B) vs [.sh x.a, .sh x.b, .sh x.c, .sh x.d] := r
    cases r with
    | cons r1 r => cases r with
      | cons r2 r => cases r with
        | cons r3 r => cases r with
          | cons r4 r => cases r; exact ⟨q, _, _, _, _, rfl, e, r1, r2, r3, r4⟩
theorem px_slT5_1_5 {x : T5 α β γ δ ε} (ha : PX p a τ (.sh x)) (hl : POx p lo τ (some 1)) (hu : POx p hi τ none) : PX p (.Subscript a (.Slice lo hi none p2) pos) τ (.sh (T4.mk x.b x.c x.d x.e)) :=
  px_slT (n := 5) ha hl hu rfl (by decide) fun B vs q r e => by
    have r : All2 (Shr p.K B) vs [.sh x.b, .sh x.c, .sh x.d, .sh x.e] := r
    cases r with
    | cons r1 r => cases r with
      | cons r2 r => cases r with
        | cons r3 r => cases r with
          | cons r4 r => cases r; exact ⟨q, _, _, _, _, rfl, e, r1, r2, r3, r4⟩
theorem px_catT3_1 {x : T3 α β γ} {y : T1 δ} (ha : PX p a τ (.sh x)) (hb : PX p b τ (.sh y)) : PX p (.BinOp a .Add b pos) τ (.sh (T4.mk x.a x.b x.c y.a)) :=
  px_op2 (r := rCatT p.K) (fun X hX => by obtain ⟨k, rfl, _⟩ := hX; exact op_catT) ha hb fun B H v u Q s g1 g2 q => by
    obtain ⟨c, v1, v2, v3, e1, h1, r1, r2, r3⟩ := g1
    obtain ⟨d, w1, e2, h2, r4⟩ := g2
    refine ⟨c, d, _, _, e1, e2, .of (s _ _ h1), .of (s _ _ h2), by simp, (by show 4 ≤ sizeLine; decide), (fun z => by cases z), fun _ l hl => ?_⟩
    have x2 := Ext.laid (o := .tup ([v1, v2, v3] ++ [w1])) s hl
    exact q _ _ _ x2 ⟨l, v1, v2, v3, w1, rfl, upd_same, Py.mono (.of x2.bb) r1, Py.mono (.of x2.bb) r2, Py.mono (.of x2.bb) r3, Py.mono (.of x2.bb) r4⟩
theorem px_catT4_1 {x : T4 α β γ δ} {y : T1 ε} (ha : PX p a τ (.sh x)) (hb : PX p b τ (.sh y)) : PX p (.BinOp a .Add b pos) τ (.sh (T5.mk x.a x.b x.c x.d y.a)) :=
  px_op2 (r := rCatT p.K) (fun X hX => by obtain ⟨k, rfl, _⟩ := hX; exact op_catT) ha hb fun B H v u Q s g1 g2 q => by
    obtain ⟨c, v1, v2, v3, v4, e1, h1, r1, r2, r3, r4⟩ := g1
    obtain ⟨d, w1, e2, h2, r5⟩ := g2
    refine ⟨c, d, _, _, e1, e2, .of (s _ _ h1), .of (s _ _ h2), by simp, (by show 5 ≤ sizeLine; decide), (fun z => by cases z), fun _ l hl => ?_⟩
    have x2 := Ext.laid (o := .tup ([v1, v2, v3, v4] ++ [w1])) s hl
    exact q _ _ _ x2 ⟨l, v1, v2, v3, v4, w1, rfl, upd_same, Py.mono (.of x2.bb) r1, Py.mono (.of x2.bb) r2, Py.mono (.of x2.bb) r3, Py.mono (.of x2.bb) r4, Py.mono (.of x2.bb) r5⟩
theorem px_catT1_4 {x : T1 α} {y : T4 β γ δ ε} (ha : PX p a τ (.sh x)) (hb : PX p b τ (.sh y)) : PX p (.BinOp a .Add b pos) τ (.sh (T5.mk x.a y.a y.b y.c y.d)) :=
  px_op2 (r := rCatT p.K) (fun X hX => by obtain ⟨k, rfl, _⟩ := hX; exact op_catT) ha hb fun B H v u Q s g1 g2 q => by
    obtain ⟨c, v1, e1, h1, r1⟩ := g1
    obtain ⟨d, w1, w2, w3, w4, e2, h2, r2, r3, r4, r5⟩ := g2
    refine ⟨c, d, _, _, e1, e2, .of (s _ _ h1), .of (s _ _ h2), by simp, (by show 5 ≤ sizeLine; decide), (fun z => by cases z), fun _ l hl => ?_⟩
    have x2 := Ext.laid (o := .tup ([v1] ++ [w1, w2, w3, w4])) s hl
    exact q _ _ _ x2 ⟨l, v1, w1, w2, w3, w4, rfl, upd_same, Py.mono (.of x2.bb) r1, Py.mono (.of x2.bb) r2, Py.mono (.of x2.bb) r3, Py.mono (.of x2.bb) r4, Py.mono (.of x2.bb) r5⟩
end
end
end Ly

namespace My
open PySem PySem.Spec PyProof.Rows L2 Ly
open Ly.Py

local macro_rules | `(tactic| walk_at "sc_mul") => `(tactic| first | exact Or.inr ⟨by decide, by decide⟩ | exact Or.inl ⟨by decide, by decide⟩ | exact Or.inr ⟨by omega, by omega⟩ | exact Or.inl ⟨by omega, by omega⟩)
local macro_rules | `(tactic| walk_at "sc_mod") => `(tactic| first | decide | omega)
local macro_rules | `(tactic| walk_at "sc_div") => `(tactic| first | exact ⟨by decide, by decide⟩ | exact ⟨by omega, by omega⟩)
local macro_rules | `(tactic| walk_at "sc_pow") => `(tactic| exact ⟨by decide, by decide, by decide⟩)
local macro_rules | `(tactic| walk_at "sc_shl") => `(tactic| first | exact ⟨by decide, by decide, by decide⟩ | exact ⟨by omega, by omega, by decide⟩)
local macro_rules | `(tactic| walk_at "sc_divW") => `(tactic| exact wide_div (by decide) (b := 300) (by decide) (by decide) (by decide))
local macro_rules | `(tactic| walk_at "sc_isi") => `(tactic| first | rfl | decide +kernel)
local macro_rules | `(tactic| walk_at "sc_rng") => `(tactic| omega)
local macro_rules | `(tactic| walk_at "sc_dget") => `(tactic| first | assumption | simp_all)
local macro_rules | `(tactic| walk_at "sc_pre") => `(tactic| first | assumption | trivial | decide)
local macro_rules | `(tactic| walk_at "imm") => `(tactic| (first | (show Imm _; infer_instance) | (show ImmO _; infer_instance)))

def top (i : Nat) : Stmt := PySem.Challenge.pw_labelplace_k33_not_two.main.body.getD i (.Pass ⟨0, 0, 0, 0⟩)
structure Blt (mg : Str → Option Value) : Prop where
  range_ : mg "range" = none
  len_ : mg "len" = none
  isinstance_ : mg "isinstance" = none
  bool_ : mg "bool" = none
  tuple_ : mg "tuple" = none
  list_ : mg "list" = none
  min_ : mg "min" = none
  max_ : mg "max" = none
  reversed_ : mg "reversed" = none
  str_ : mg "str" = none
  ValueError_ : mg "ValueError" = none

abbrev Box := T4 Int Int Int Int
def BoxS (b : Box) : Prop := -1000 ≤ b.a ∧ b.a ≤ 1000 ∧ -1000 ≤ b.b ∧ b.b ≤ 1000 ∧ 0 ≤ b.c ∧ b.c ≤ 1000 ∧ 0 ≤ b.d ∧ b.d ≤ 1000
def rowOf (b : Box) (r : Int) : List (Int × Int) := (rng b.a (b.a + b.c - b.a).toNat).map fun c => (c, r)
def cellsTo (b : Box) (i : Nat) : List (Int × Int) := ((rng b.b (b.b + b.d - b.b).toNat).take i).flatMap (rowOf b)
def cellsOf (b : Box) : List (Int × Int) := (rng b.b (b.b + b.d - b.b).toNat).flatMap (rowOf b)
theorem rng_len (lo : Int) (n : Nat) : (rng lo n).length = n := by unfold rng; rw [List.length_map, List.length_range]
theorem cellsTo_all (b : Box) : cellsTo b (rng b.b (b.b + b.d - b.b).toNat).length = cellsOf b := by
  unfold cellsTo cellsOf
  rw [List.take_length]
theorem cellsTo_succ {b : Box} {i : Nat} {x : Int} (h : (rng b.b (b.b + b.d - b.b).toNat)[i]? = some x) : cellsTo b (i + 1) = cellsTo b i ++ rowOf b x := by
  unfold cellsTo
  rw [List.take_add_one, h, List.flatMap_append]
  simp
theorem row_len {b : Box} (h : BoxS b) : (rng b.a (b.a + b.c - b.a).toNat).length ≤ sizeLine := by
  rw [rng_len, sizeLine_eq]
  unfold BoxS at h
  omega
theorem cellsTo_len (b : Box) (i : Nat) (h : i ≤ (b.b + b.d - b.b).toNat) : (cellsTo b i).length = i * b.c.toNat := by
  unfold cellsTo
  rw [List.length_flatMap]
  have e : ∀ l : List Int, (l.map fun r => (rowOf b r).length).sum = l.length * b.c.toNat := by
    intro l
    induction l with
    | nil => simp
    | cons x r ih =>
      rw [List.map_cons, List.sum_cons, ih, List.length_cons]
      unfold rowOf
      rw [List.length_map, rng_len, Nat.add_mul, Nat.one_mul, Nat.add_comm]
      have : (b.a + b.c - b.a).toNat = b.c.toNat := by omega
      rw [this]
  rw [e, List.length_take, rng_len, Nat.min_eq_left h]
theorem cells_app {b : Box} (h : BoxS b) {i : Nat} {x : Int} {acc : List (Int × Int)} (hx : (rng b.b (b.b + b.d - b.b).toNat)[i]? = some x) (ha : acc = cellsTo b i) {f : Int → Int × Int} : acc.length + ((rng b.a (b.a + b.c - b.a).toNat).map f).length ≤ sizeLine := by
  have hi := (rng_get hx).1
  rw [ha, cellsTo_len b i (Nat.le_of_lt hi), List.length_map, rng_len, sizeLine_eq]
  unfold BoxS at h
  have h1 : i ≤ 1000 := by omega
  have h2 : b.c.toNat ≤ 1000 := by omega
  have h3 : i * b.c.toNat ≤ 1000 * 1000 := Nat.mul_le_mul h1 h2
  omega

def meet (x y : Box) : Bool := (decide (x.a < y.a + y.c) && decide (y.a < x.a + x.c)) && (decide (x.b < y.b + y.d) && decide (y.b < x.b + x.d))
def liesIn (x : Box) (wd hg : Int) : Bool := decide (0 ≤ x.a) && (decide (0 ≤ x.b) && (decide (x.a + x.c ≤ wd) && decide (x.b + x.d ≤ hg)))

abbrev Pt := T5 Str Int Int Int (Tup (Str × Int))
abbrev Plan := T4 Int Int (Tup Box) (Tup Pt)
theorem atI_getD {α : Type} {xs : List α} {k : Int} {d : α} (h0 : 0 ≤ k) (h : k < xs.length) : atI xs k = some (xs.getD k.toNat d) := by
  have e : k = (k.toNat : Int) := by omega
  have hl : k.toNat < xs.length := by omega
  rw [e]
  exact atI_nat (by rw [Int.toNat_natCast, List.getD_eq_getElem?_getD, List.getElem?_eq_getElem hl]; rfl)
def cellAt (s : List Int) (k : Int) : Int := if k < (s.length : Nat) then s.getD k.toNat 0 else 0
def row0 (c : Int) : Int := if c % 2 = 0 then c / 2 % 2147483647 + 1 else c / 2
def rowS (c : Int) : Nat → Int × List Int
  | 0 => (row0 c, [])
  | i + 1 => if c % 2 = 1 then ((rowS c i).1 / 10 ^ (60 : Int).toNat, (rowS c i).2 ++ [(rowS c i).1 % 10 ^ (60 : Int).toNat])
    else ((rowS c i).1 * 48271 % 2147483647, (rowS c i).2 ++ [(rowS c i).1 * 48271 % 2147483647 * 69621 ^ (13 : Int).toNat / 7 % 10 ^ (60 : Int).toNat])
theorem rowS_odd {c : Int} {i : Nat} (h : c % 2 = 1) : rowS c (i + 1) = ((rowS c i).1 / 10 ^ (60 : Int).toNat, (rowS c i).2 ++ [(rowS c i).1 % 10 ^ (60 : Int).toNat]) := by rw [rowS, if_pos h]
theorem rowS_even {c : Int} {i : Nat} (h : ¬ c % 2 = 1) : rowS c (i + 1) = ((rowS c i).1 * 48271 % 2147483647, (rowS c i).2 ++ [(rowS c i).1 * 48271 % 2147483647 * 69621 ^ (13 : Int).toNat / 7 % 10 ^ (60 : Int).toNat]) := by rw [rowS, if_neg h]
theorem rowS_len (c : Int) : ∀ i, (rowS c i).2.length = i
  | 0 => rfl
  | i + 1 => by
    unfold rowS
    split <;> (rw [List.length_append, rowS_len c i]; rfl)
def rowN (c mn : Int) : List Int := (rowS c (rng 0 mn.toNat).length).2
theorem rowN_len (c : Int) {mn : Int} (h : 0 ≤ mn) : ((rowN c mn).length : Int) = mn := by
  unfold rowN
  rw [rowS_len, rng_len]; omega

def wl0 : List Str := ["right", "below", "left", "above", "down", "up"]
def sizes : List Int := [10, 1000, 10 ^ (60 : Int).toNat]
def sizeOf' (row : List Int) : Int := ([10, 1000, 10 ^ (60 : Int).toNat] : List Int).getD (row.getD (0 : Int).toNat 0 % 3).toNat 0
theorem size_pos (r : Int) : 0 < ([10, 1000, 10 ^ (60 : Int).toNat] : List Int).getD (r % 3).toNat 0 := by
  have h1 := Int.emod_nonneg r (show (3 : Int) ≠ 0 by decide)
  have h2 := Int.emod_lt_of_pos r (show (0 : Int) < 3 by decide)
  have : ∀ k : Nat, k < 3 → 0 < ([10, 1000, 10 ^ (60 : Int).toNat] : List Int).getD k 0 := by decide
  exact this _ (by omega)
def wayAt (row : List Int) (W : List Str) (i : Nat) : Str := W.getD (row.getD (2 + ((0 : Int) + (i : Nat))).toNat 0 % (W.length : Nat)).toNat default
def prS (row : List Int) (size : Int) : Nat → List Str × List (Str × Int)
  | 0 => (wl0, [])
  | i + 1 => ((prS row size i).1.filter (fun o => !decide (o = wayAt row (prS row size i).1 i)), (prS row size i).2 ++ [(wayAt row (prS row size i).1 i, row.getD (8 + ((0 : Int) + (i : Nat))).toNat 0 % size)])
theorem prS_len (row : List Int) (size : Int) : ∀ i, (prS row size i).2.length = i
  | 0 => rfl
  | i + 1 => by rw [prS, List.length_append, prS_len row size i]; rfl
theorem filter_ne_len {α : Type} [DecidableEq α] : ∀ {l : List α} {a : α}, l.Nodup → a ∈ l → (l.filter fun o => !decide (o = a)).length + 1 = l.length
  | x :: r, a, nd, m => by
    obtain ⟨h1, h2⟩ := List.nodup_cons.mp nd
    rw [List.filter_cons]
    by_cases e : x = a
    · subst e
      rw [decide_eq_true rfl]
      have : (r.filter fun o => !decide (o = x)) = r := List.filter_eq_self.mpr fun y hy => by
        rw [decide_eq_false (show ¬ y = x from fun z => h1 (z ▸ hy))]; rfl
      rw [if_neg (by decide), this]; rfl
    · rw [decide_eq_false e]
      have m2 : a ∈ r := (List.mem_cons.mp m).resolve_left fun z => e z.symm
      have := filter_ne_len h2 m2
      simp only [Bool.not_false, if_true, List.length_cons]
      omega
theorem wayAt_mem (row : List Int) {W : List Str} (i : Nat) (h : 0 < W.length) : wayAt row W i ∈ W := by
  unfold wayAt
  generalize row.getD (2 + ((0 : Int) + (i : Nat))).toNat 0 = r
  have h1 := Int.emod_nonneg r (show ((W.length : Nat) : Int) ≠ 0 by omega)
  have h2 := Int.emod_lt_of_pos r (show (0 : Int) < (W.length : Nat) by omega)
  have hl : (r % (W.length : Nat)).toNat < W.length := by omega
  rw [List.getD_eq_getElem?_getD, List.getElem?_eq_getElem hl]
  exact List.getElem_mem hl
theorem wl0_nodup : wl0.Nodup := by decide +kernel
theorem prS_ok (row : List Int) (size : Int) : ∀ i, i ≤ 6 → (prS row size i).1.length = 6 - i ∧ (prS row size i).1.Nodup ∧ (∀ w ∈ (prS row size i).1, w ∈ wl0) ∧ (∀ q ∈ (prS row size i).2, q.1 ∈ wl0 ∧ q.1 ∉ (prS row size i).1) ∧ ((prS row size i).2.map (·.1)).Nodup
  | 0, _ => ⟨rfl, wl0_nodup, fun _ h => h, fun _ h => (by cases h), List.nodup_nil⟩
  | i + 1, h => by
    obtain ⟨h1, h2, h3, h4, h5⟩ := prS_ok row size i (by omega)
    have hm := wayAt_mem row (W := (prS row size i).1) i (by omega)
    have hl := filter_ne_len h2 hm
    rw [prS]
    refine ⟨by simp only; omega, h2.sublist List.filter_sublist, fun w hw => h3 w (List.mem_filter.mp hw).1, fun q hq => ?_, ?_⟩
    · rcases List.mem_append.mp hq with hq | hq
      · exact ⟨(h4 q hq).1, fun hw => (h4 q hq).2 (List.mem_filter.mp hw).1⟩
      · rw [List.mem_singleton.mp hq]
        refine ⟨h3 _ hm, fun hw => ?_⟩
        have := (List.mem_filter.mp hw).2
        rw [decide_eq_true rfl] at this
        cases this
    · rw [List.map_append]
      refine List.nodup_append.mpr ⟨h5, by simp, fun a ha b hb e => ?_⟩
      obtain ⟨q, hq, rfl⟩ := List.mem_map.mp ha
      have : b = wayAt row (prS row size i).1 i := by simpa using hb
      rw [this] at e
      exact (h4 q hq).2 (e ▸ hm)
def pricedN (row : List Int) (most : Int) : Int × Tup (Str × Int) := (row.getD (14 : Int).toNat 0 % sizeOf' row, Tup.mk (prS row (sizeOf' row) (rng 0 (1 + row.getD (1 : Int).toNat 0 % most).toNat).length).2)

theorem cut_nat {α : Type} {xs : List α} {lo hi : Nat} (h : lo ≤ hi ∧ hi ≤ xs.length) : cut xs (some (lo : Int)) (some (hi : Int)) = (xs.drop lo).take (hi - lo) := by
  unfold cut
  rw [HT.sIx_nat, HT.sIx_nat, Nat.min_eq_left (by omega), Nat.min_eq_left (by omega)]
theorem cut_len {α : Type} {xs : List α} {lo hi : Nat} (h : lo ≤ hi ∧ hi ≤ xs.length) : (cut xs (some (lo : Int)) (some (hi : Int))).length = hi - lo := by
  rw [cut_nat h, List.length_take, List.length_drop]; omega
def nameLen (row : List Int) : Int := 1 + row.getD (0 : Int).toNat 0 % ([3, 5, 8] : List Int).getD (row.getD (0 : Int).toNat 0 / 120 % 3).toNat 0
theorem nm_pos (r : Int) : 0 < ([3, 5, 8] : List Int).getD (r % 3).toNat 0 ∧ ([3, 5, 8] : List Int).getD (r % 3).toNat 0 ≤ 8 := by
  have h1 := Int.emod_nonneg r (show (3 : Int) ≠ 0 by decide)
  have h2 := Int.emod_lt_of_pos r (show (0 : Int) < 3 by decide)
  have : ∀ k : Nat, k < 3 → 0 < ([3, 5, 8] : List Int).getD k 0 ∧ ([3, 5, 8] : List Int).getD k 0 ≤ 8 := by decide
  exact this _ (by omega)
theorem nm_len (row : List Int) : 1 ≤ nameLen row ∧ nameLen row ≤ 8 := by
  unfold nameLen
  have h := nm_pos (row.getD (0 : Int).toNat 0 / 120)
  generalize ([3, 5, 8] : List Int).getD (row.getD (0 : Int).toNat 0 / 120 % 3).toNat 0 = k at *
  have h1 := Int.emod_nonneg (row.getD (0 : Int).toNat 0) (show k ≠ 0 by omega)
  have h2 := Int.emod_lt_of_pos (row.getD (0 : Int).toNat 0) (show 0 < k by omega)
  omega
theorem abc_at {i : Int} (h0 : 0 ≤ i) (h : i < 26) : atI ("abcdefghijklmnopqrstuvwxyz" : Str).cps.toList i = some (97 + i.toNat) := by
  have e : i = (i.toNat : Int) := by omega
  rw [e]
  refine atI_nat ?_
  have : ∀ k : Fin 26, ("abcdefghijklmnopqrstuvwxyz" : Str).cps.toList[k.val]? = some (97 + k.val) := by decide +kernel
  rw [Int.toNat_natCast]
  exact this ⟨i.toNat, by omega⟩
def nmS (row : List Int) : Nat → Str
  | 0 => ""
  | i + 1 => nmS row i ++ sgn (97 + (row.getD (1 + ((0 : Int) + (i : Nat))).toNat 0 % 26).toNat)
theorem nmS_len (row : List Int) : ∀ i, (nmS row i).length = i
  | 0 => rfl
  | i + 1 => by rw [nmS, str_len, nmS_len row i]; rfl
def pointN (c w h most : Int) : Pt := T5.mk (nmS (rowN c 25) (rng 0 (nameLen (rowN c 25)).toNat).length) ((rowN c 25).getD (24 : Int).toNat 0 % w) ((rowN c 25).getD (24 : Int).toNat 0 / 20 % h)
  (pricedN (cut (rowN c 25) (some 9) (some 24)) most).1 (pricedN (cut (rowN c 25) (some 9) (some 24)) most).2

def wideOf (c : Int) : Int := if c % 2 = 1 then 1 + c / 2 % 20 else 3 + c / 2 % 10
def highOf (c : Int) : Int := if c % 2 = 1 then 1 + c / 40 % 20 else 2 + c / 20 % 7
theorem wide_in (c : Int) : 1 ≤ wideOf c ∧ wideOf c ≤ 20 := by unfold wideOf; split <;> omega
theorem high_in (c : Int) : 1 ≤ highOf c ∧ highOf c ≤ 20 := by unfold highOf; split <;> omega
def q4 (row : List Int) (k : Int) (j : Nat) : Int := row.getD ((4 * k).toNat + j) 0
theorem cut4 {row : List Int} {k : Int} (h : 0 ≤ k) (hl : 4 * k + 4 ≤ (row.length : Nat)) : cut row (some (4 * k)) (some (4 * k + 4)) = [q4 row k 0, q4 row k 1, q4 row k 2, q4 row k 3] := by
  obtain ⟨n, hn⟩ : ∃ n : Nat, 4 * k = (n : Int) := ⟨(4 * k).toNat, by omega⟩
  have e2 : 4 * k + 4 = ((n + 4 : Nat) : Int) := by omega
  unfold q4
  rw [e2, hn, cut_nat (by omega), Int.toNat_natCast]
  have e : n + 4 - n = 4 := by omega
  rw [e]
  have g : ∀ j, j < 4 → row.getD (n + j) 0 = row[n + j]! := fun j hj => by
    rw [List.getD_eq_getElem?_getD, List.getElem?_eq_getElem (by omega), getElem!_pos row (n + j) (by omega)]; rfl
  rw [List.drop_eq_getElem_cons (show n < row.length by omega), List.drop_eq_getElem_cons (show n + 1 < row.length by omega), List.drop_eq_getElem_cons (show n + 1 + 1 < row.length by omega), List.drop_eq_getElem_cons (show n + 1 + 1 + 1 < row.length by omega)]
  rw [g 0 (by decide), g 1 (by decide), g 2 (by decide), g 3 (by decide), getElem!_pos row (n + 0) (by omega), getElem!_pos row (n + 1) (by omega), getElem!_pos row (n + 2) (by omega), getElem!_pos row (n + 3) (by omega)]
  rfl
theorem mc_pos (r : Int) : 1 ≤ ([2, 20] : List Int).getD (r % 2).toNat 0 := by
  have h1 := Int.emod_nonneg r (show (2 : Int) ≠ 0 by decide)
  have h2 := Int.emod_lt_of_pos r (show (0 : Int) < 2 by decide)
  have : ∀ k : Nat, k < 2 → 1 ≤ ([2, 20] : List Int).getD k 0 := by decide
  exact this _ (by omega)
theorem mn_pos {a b : Int} (ha : 1 ≤ a) (hb : 1 ≤ b) : 0 < (if b < a then b else a) := by split <;> omega
def keptB (row : List Int) (W Hh : Int) (x : Int) : Box :=
  ⟨q4 row x 0 % W, q4 row x 1 % Hh, 1 + q4 row x 2 % (if W - q4 row x 0 % W < ([2, 20] : List Int).getD (q4 row x 2 / 400 % 2).toNat 0 then W - q4 row x 0 % W else ([2, 20] : List Int).getD (q4 row x 2 / 400 % 2).toNat 0),
   1 + q4 row x 3 % (if Hh - q4 row x 1 % Hh < ([2, 20] : List Int).getD (q4 row x 2 / 400 % 2).toNat 0 then Hh - q4 row x 1 % Hh else ([2, 20] : List Int).getD (q4 row x 2 / 400 % 2).toNat 0)⟩
theorem map_take {α β : Type} {xs : List α} {i : Nat} {x : α} {f : α → β} (h : xs[i]? = some x) : (xs.take (i + 1)).map f = (xs.take i).map f ++ [f x] := by
  rw [List.take_add_one, h, List.map_append]; rfl
theorem fold_take {α β : Type} {xs : List α} {i : Nat} {x : α} {f : β → α → β} {a : β} (h : xs[i]? = some x) : (xs.take (i + 1)).foldl f a = f ((xs.take i).foldl f a) x := by
  rw [List.take_add_one, h, List.foldl_append]; rfl
def addP (many : Int) (ps : List Pt) (q : Pt) : List Pt :=
  if (decide (((ps.length : Nat) : Int) < many) && !decide (q.a ∈ ps.map fun o => o.a)) = true then (if (!decide (((q.b, q.c) : Int × Int) ∈ ps.map fun o => (o.b, o.c))) = true then ps ++ [q] else ps) else ps
theorem addP_no1 {many : Int} {ps : List Pt} {q : Pt} (h : (decide (((ps.length : Nat) : Int) < many) && !decide (q.a ∈ ps.map fun o => o.a)) = false) : addP many ps q = ps := by
  unfold addP
  rw [if_neg (by rw [h]; exact Bool.false_ne_true)]
theorem addP_no2 {many : Int} {ps : List Pt} {q : Pt} (h : (decide (((ps.length : Nat) : Int) < many) && !decide (q.a ∈ ps.map fun o => o.a)) = true) (h2 : (!decide (((q.b, q.c) : Int × Int) ∈ ps.map fun o => (o.b, o.c))) = false) : addP many ps q = ps := by
  unfold addP
  rw [if_pos h, if_neg (by rw [h2]; exact Bool.false_ne_true)]
theorem addP_yes {many : Int} {ps : List Pt} {q : Pt} (h : (decide (((ps.length : Nat) : Int) < many) && !decide (q.a ∈ ps.map fun o => o.a)) = true) (h2 : (!decide (((q.b, q.c) : Int × Int) ∈ ps.map fun o => (o.b, o.c))) = true) : addP many ps q = ps ++ [q] := by
  unfold addP
  rw [if_pos h, if_pos h2]
theorem addP_len (many : Int) (ps : List Pt) (q : Pt) : (addP many ps q).length ≤ ps.length + 1 := by
  unfold addP
  split
  · split
    · rw [List.length_append]; exact Nat.le_refl _
    · omega
  · omega
theorem fold_len (s : List Int) (st e many W Hh most : Int) (i : Nat) : (((cut s (some st) (some e)).take i).foldl (fun ps c => addP many ps (pointN c W Hh most)) []).length ≤ i := by
  have key : ∀ (l : List Int) (acc : List Pt), (l.foldl (fun ps c => addP many ps (pointN c W Hh most)) acc).length ≤ acc.length + l.length := by
    intro l
    induction l with
    | nil => intro acc; exact Nat.le_refl _
    | cons c r ih =>
      intro acc
      rw [List.foldl_cons, List.length_cons]
      have := ih (addP many acc (pointN c W Hh most))
      have := addP_len many acc (pointN c W Hh most)
      omega
  have := key ((cut s (some st) (some e)).take i) []
  rw [List.length_take] at this
  simp only [List.length_nil] at this
  omega
def keptsN (c W Hh : Int) : List Box := (rng 0 (c / 800 % 4).toNat).map (keptB (rowN (c / 3200) 12) W Hh)
def pointsN (s : List Int) (st many most W Hh : Int) : List Pt := (cut s (some st) (some 63)).foldl (fun ps c => addP many ps (pointN c W Hh most)) []
def planN (s : List Int) (st many most : Int) : Plan := T4.mk (wideOf (cellAt s 0)) (highOf (cellAt s 0)) (Tup.mk (keptsN (cellAt s 0) (wideOf (cellAt s 0)) (highOf (cellAt s 0)))) (Tup.mk (pointsN s st many most (wideOf (cellAt s 0)) (highOf (cellAt s 0))))

def lawBox (wy : Str) (x y n : Int) : Box :=
  if wy = ("right" : Str) then ⟨x + 1, y, n, 1⟩ else if wy = ("left" : Str) then ⟨x - n, y, n, 1⟩ else if wy = ("above" : Str) then ⟨x - (n - 1) / 2, y - 1, n, 1⟩
  else if wy = ("below" : Str) then ⟨x - (n - 1) / 2, y + 1, n, 1⟩ else if wy = ("up" : Str) then ⟨x, y - n, 1, n⟩ else ⟨x, y + 1, 1, n⟩
def lawApart (x y : Box) : Bool := if (decide (x.a + x.c ≤ y.a) || decide (y.a + y.c ≤ x.a)) = true then true else (decide (x.b + x.d ≤ y.b) || decide (y.b + y.d ≤ x.b))
def lawBoxes (q : Pt) : List Box := q.e.l.map fun r => lawBox r.1 q.b q.c (q.a.length : Nat)
def ptBox (q : Pt) : Box := ⟨q.b, q.c, 1, 1⟩
def lawOpen (pl : Plan) (b : Box) : Bool := if liesIn b pl.a pl.b = true then ((pl.c.l ++ pl.d.l.map ptBox).map fun o => lawApart b o).all id else false
theorem boxes_len (q : Pt) : (lawBoxes q).length = q.e.l.length := by unfold lawBoxes; rw [List.length_map]

theorem aput_aput {κ α : Type} [DecidableEq κ] (l : List (κ × α)) (k : κ) (u v : α) : aput (aput l k u) k v = aput l k v := by
  have hs : (aget (aput l k u) k).isSome = true := by rw [aget_put, if_pos rfl]; rfl
  have e1 : aput (aput l k u) k v = (aput l k u).map (fun kv => if kv.1 = k then (kv.1, v) else kv) := by
    conv => lhs; unfold aput
    rw [any_aget, show aget (if (l.any fun kv => decide (kv.1 = k)) = true then l.map (fun kv => if kv.1 = k then (kv.1, u) else kv) else l ++ [(k, u)]) k = aget (aput l k u) k from rfl, if_pos hs]
    rfl
  rw [e1]
  unfold aput
  rw [any_aget]
  cases h : aget l k with
  | some x =>
    rw [if_pos (by rfl), if_pos (by rfl), List.map_map]
    refine List.map_congr_left fun p _ => ?_
    by_cases e : p.1 = k
    · simp [Function.comp, e]
    · simp [Function.comp, e]
  | none =>
    rw [if_neg (show ¬ (none : Option α).isSome = true from Bool.false_ne_true), if_neg (show ¬ (none : Option α).isSome = true from Bool.false_ne_true), List.map_append]
    congr 1
    · refine (List.map_congr_left fun p hp => ?_).trans (List.map_id _)
      have : ¬ p.1 = k := fun e => by
        have : k ∈ l.map (·.1) := List.mem_map.mpr ⟨p, hp, e⟩
        rw [← aget_keys, h] at this
        cases this
      rw [if_neg this]; rfl
    · simp
theorem afold_len {α κ β : Type} [DecidableEq κ] (f : α → κ) (g : α → β) : ∀ (l : List α) (acc : List (κ × β)), (l.foldl (fun d q => aput d (f q) (g q)) acc).length ≤ acc.length + l.length
  | [], acc => Nat.le_refl _
  | x :: r, acc => by
    rw [List.foldl_cons, List.length_cons]
    have := afold_len f g r (aput acc (f x) (g x))
    have := aput_len acc (f x) (g x)
    omega
def innerOf (pl : Plan) (q : Pt) (ks : List Int) : Dct Int Box := Dct.mk (ks.foldl (fun d k => if lawOpen pl ((lawBoxes q).getD k.toNat default) = true then aput d k ((lawBoxes q).getD k.toNat default) else d) [])
theorem inner_len (pl : Plan) (q : Pt) (ks : List Int) : (innerOf pl q ks).l.length ≤ ks.length := by
  have key : ∀ (ks : List Int) (acc : List (Int × Box)), (ks.foldl (fun d k => if lawOpen pl ((lawBoxes q).getD k.toNat default) = true then aput d k ((lawBoxes q).getD k.toNat default) else d) acc).length ≤ acc.length + ks.length := by
    intro ks
    induction ks with
    | nil => intro acc; exact Nat.le_refl _
    | cons k r ih =>
      intro acc
      rw [List.foldl_cons, List.length_cons]
      split
      · have := ih (aput acc k ((lawBoxes q).getD k.toNat default))
        have := aput_len acc k ((lawBoxes q).getD k.toNat default)
        omega
      · have := ih acc
        omega
  have := key ks []
  rw [List.length_nil, Nat.zero_add] at this
  exact this
theorem inner_yes {pl : Plan} {q : Pt} {ks : List Int} {j : Nat} {k : Int} (h : ks[j]? = some k) (c : lawOpen pl ((lawBoxes q).getD k.toNat default) = true) : innerOf pl q (ks.take (j + 1)) = Dct.mk (aput (innerOf pl q (ks.take j)).l k ((lawBoxes q).getD k.toNat default)) := by
  unfold innerOf
  rw [fold_take h, if_pos c]
theorem inner_no {pl : Plan} {q : Pt} {ks : List Int} {j : Nat} {k : Int} (h : ks[j]? = some k) (c : lawOpen pl ((lawBoxes q).getD k.toNat default) = false) : innerOf pl q (ks.take (j + 1)) = innerOf pl q (ks.take j) := by
  unfold innerOf
  rw [fold_take h, if_neg (by rw [c]; exact Bool.false_ne_true)]
def innerN (pl : Plan) (q : Pt) : Dct Int Box := innerOf pl q (rng 0 ((lawBoxes q).length : Int).toNat)
def openedN (pl : Plan) : Dct Str (Dct Int Box) := Dct.mk (pl.d.l.foldl (fun d q => aput d q.a (innerN pl q)) [])
theorem box_nth {B : List Box} {j n : Nat} {k : Int} (h : j < n ∧ k = (0 : Int) + (j : Nat)) (e : n = (B.length : Int).toNat := by rfl) : atI B k = some (B.getD k.toNat default) := atI_getD (d := default) (by omega) (by omega)

inductive WayO where
  | right | left | level (k : Int) | upright (k : Bool)
instance : Ins WayO := ⟨fun w => match w with | .right => "Right" | .left => "Left" | .level _ => "Level" | .upright _ => "Upright", fun w => match w with | .right => [] | .left => [] | .level k => [("step", .sh k)] | .upright k => [("ends", .sh k)]⟩
def wbox (w : WayO) (x y n : Int) : Box := match w with
  | .right => ⟨x + 1, y, n, 1⟩
  | .left => ⟨x - n, y, n, 1⟩
  | .level k => ⟨x - (n - 1) / 2, y + k, n, 1⟩
  | .upright k => if k = true then ⟨x, y - n, 1, n⟩ else ⟨x, y + 1, 1, n⟩
def wayOf (w : Str) : WayO := if w = ("right" : Str) then .right else if w = ("left" : Str) then .left else if w = ("above" : Str) then .level (0 - 1) else if w = ("below" : Str) then .level 1 else .upright (decide (w = ("up" : Str)))
def boxAt (w : Str) (x y n : Int) : Box := wbox (wayOf w) x y n

def InS (b : Box) (w h : Int) : Prop := 0 ≤ b.a ∧ 0 ≤ b.b ∧ b.a + b.c ≤ w ∧ b.b + b.d ≤ h ∧ 1 ≤ b.c ∧ 1 ≤ b.d ∧ w ≤ 20 ∧ h ≤ 20
theorem InS.boxS {b : Box} {w h : Int} (i : InS b w h) : BoxS b := by unfold InS at i; unfold BoxS; omega
theorem InS.up {b : Box} {w h : Int} (i : InS b w h) : InS b w 20 := by unfold InS at *; omega
theorem mem_cellsOf (b : Box) (z : Int × Int) : z ∈ cellsOf b ↔ (b.a ≤ z.1 ∧ z.1 < b.a + b.c) ∧ b.b ≤ z.2 ∧ z.2 < b.b + b.d := by
  unfold cellsOf rowOf rng
  rw [List.mem_flatMap]
  constructor
  · rintro ⟨r, hr, hz⟩
    obtain ⟨n, hn, rfl⟩ := List.mem_map.mp hr
    obtain ⟨c, hc, rfl⟩ := List.mem_map.mp hz
    obtain ⟨k, hk, rfl⟩ := List.mem_map.mp hc
    rw [List.mem_range] at hn hk
    simp only
    omega
  · rintro ⟨⟨e1, e2⟩, e3, e4⟩
    refine ⟨z.2, List.mem_map.mpr ⟨(z.2 - b.b).toNat, List.mem_range.mpr (by omega), by omega⟩, List.mem_map.mpr ⟨z.1, List.mem_map.mpr ⟨(z.1 - b.a).toNat, List.mem_range.mpr (by omega), by omega⟩, rfl⟩⟩
def ex (wd : Int) (z : Int × Int) : Nat := (z.2 * wd + z.1).toNat
def bitsN (b : Box) (wd : Int) : Nat := ((cellsOf b).map fun z => 2 ^ ex wd z).sum
theorem add_bit : ∀ (e m : Nat), m.testBit e = false → ∀ n, (m + 2 ^ e).testBit n = (m.testBit n || decide (n = e))
  | 0, m, h, n => by
    have hm : m % 2 = 0 := by
      rw [Nat.testBit_zero] at h
      have := of_decide_eq_false h
      omega
    cases n with
    | zero =>
      rw [Nat.testBit_zero, Nat.testBit_zero]
      simp
      omega
    | succ n =>
      rw [Nat.testBit_succ, Nat.testBit_succ]
      have e : (m + 2 ^ 0) / 2 = m / 2 := by simp; omega
      rw [e]
      simp
  | e + 1, m, h, n => by
    rw [Nat.testBit_succ] at h
    have e1 : (m + 2 ^ (e + 1)) / 2 = m / 2 + 2 ^ e := by rw [Nat.pow_succ]; omega
    cases n with
    | zero =>
      rw [Nat.testBit_zero, Nat.testBit_zero]
      have : (m + 2 ^ (e + 1)) % 2 = m % 2 := by rw [Nat.pow_succ]; omega
      rw [this]
      simp
    | succ n =>
      rw [Nat.testBit_succ, Nat.testBit_succ, e1, add_bit e (m / 2) h n]
      simp
theorem sum_bits : ∀ (es : List Nat), es.Nodup → ∀ n, ((es.map fun e => 2 ^ e).sum).testBit n = decide (n ∈ es)
  | [], _, n => by simp
  | e :: r, nd, n => by
    obtain ⟨h1, h2⟩ := List.nodup_cons.mp nd
    rw [List.map_cons, List.sum_cons, Nat.add_comm, add_bit e _ (by rw [sum_bits r h2]; exact decide_eq_false h1), sum_bits r h2]
    rw [Bool.eq_iff_iff]
    simp only [Bool.or_eq_true, decide_eq_true_eq, List.mem_cons]
    exact ⟨Or.symm, Or.symm⟩
theorem nodup_map {α β : Type} {f : α → β} : ∀ {l : List α}, l.Nodup → (∀ a ∈ l, ∀ b ∈ l, f a = f b → a = b) → (l.map f).Nodup
  | [], _, _ => List.nodup_nil
  | x :: r, nd, inj => by
    obtain ⟨h1, h2⟩ := List.nodup_cons.mp nd
    rw [List.map_cons]
    refine List.nodup_cons.mpr ⟨fun hm => ?_, nodup_map h2 fun a ha b hb => inj a (List.mem_cons_of_mem _ ha) b (List.mem_cons_of_mem _ hb)⟩
    obtain ⟨y, hy, e⟩ := List.mem_map.mp hm
    have := inj y (List.mem_cons_of_mem _ hy) x List.mem_cons_self e
    exact h1 (this ▸ hy)
theorem nodup_flatMap {α β : Type} {f : α → List β} : ∀ {l : List α}, l.Nodup → (∀ a ∈ l, (f a).Nodup) → (∀ a ∈ l, ∀ b ∈ l, a ≠ b → ∀ z, z ∈ f a → z ∈ f b → False) → (l.flatMap f).Nodup
  | [], _, _, _ => List.nodup_nil
  | x :: r, nd, h, d => by
    obtain ⟨h1, h2⟩ := List.nodup_cons.mp nd
    rw [List.flatMap_cons]
    refine List.nodup_append.mpr ⟨h x List.mem_cons_self, nodup_flatMap h2 (fun a ha => h a (List.mem_cons_of_mem _ ha)) fun a ha b hb => d a (List.mem_cons_of_mem _ ha) b (List.mem_cons_of_mem _ hb), ?_⟩
    intro a ha b hb e
    subst e
    obtain ⟨y, hy, hz⟩ := List.mem_flatMap.mp hb
    exact d x List.mem_cons_self y (List.mem_cons_of_mem _ hy) (fun z => h1 (z ▸ hy)) a ha hz
theorem rng_nodup (lo : Int) (n : Nat) : (rng lo n).Nodup := nodup_map List.nodup_range fun a _ b _ e => by omega
theorem cells_nodup (b : Box) : (cellsOf b).Nodup := by
  refine nodup_flatMap (rng_nodup _ _) (fun r _ => nodup_map (rng_nodup _ _) fun a _ c _ e => (Prod.mk.inj e).1) fun r _ s _ ne z h1 h2 => ?_
  obtain ⟨c, _, rfl⟩ := List.mem_map.mp h1
  obtain ⟨d, _, e⟩ := List.mem_map.mp h2
  exact ne (Prod.mk.inj e).2.symm
theorem ex_inj {w : Int} {z u : Int × Int} (h1 : 0 ≤ z.1 ∧ z.1 < w ∧ 0 ≤ z.2) (h2 : 0 ≤ u.1 ∧ u.1 < w ∧ 0 ≤ u.2) (e : ex w z = ex w u) : z = u := by
  unfold ex at e
  obtain ⟨a, b⟩ := z
  obtain ⟨c, d⟩ := u
  simp only at *
  have p1 : 0 ≤ b * w := Int.mul_nonneg (by omega) (by omega)
  have p2 : 0 ≤ d * w := Int.mul_nonneg (by omega) (by omega)
  have e2 : b * w + a = d * w + c := by omega
  have q1 : (b * w + a) % w = a := by rw [Int.add_comm, Int.add_mul_emod_self_right, Int.emod_eq_of_lt (by omega) (by omega)]
  have q2 : (d * w + c) % w = c := by rw [Int.add_comm, Int.add_mul_emod_self_right, Int.emod_eq_of_lt (by omega) (by omega)]
  have q3 : (b * w + a) / w = b := by rw [Int.add_comm, Int.add_mul_ediv_right _ _ (by omega), Int.ediv_eq_zero_of_lt (by omega) (by omega)]; omega
  have q4 : (d * w + c) / w = d := by rw [Int.add_comm, Int.add_mul_ediv_right _ _ (by omega), Int.ediv_eq_zero_of_lt (by omega) (by omega)]; omega
  rw [e2] at q1 q3
  rw [Prod.mk.injEq]
  exact ⟨q1.symm.trans q2, q3.symm.trans q4⟩
theorem InS.in_ {b : Box} {w h : Int} (i : InS b w h) {z : Int × Int} (hz : z ∈ cellsOf b) : 0 ≤ z.1 ∧ z.1 < w ∧ 0 ≤ z.2 ∧ z.2 < h := by
  have := (mem_cellsOf b z).mp hz
  unfold InS at i
  omega
theorem bits_at {b : Box} {w h : Int} (i : InS b w h) {z : Int × Int} (hz : 0 ≤ z.1 ∧ z.1 < w ∧ 0 ≤ z.2) : (bitsN b w).testBit (ex w z) = decide (z ∈ cellsOf b) := by
  have e : bitsN b w = (((cellsOf b).map (ex w)).map fun e => 2 ^ e).sum := by
    unfold bitsN
    rw [List.map_map]
    rfl
  rw [e, sum_bits _ (nodup_map (cells_nodup b) fun u hu v hv => ex_inj (let q := i.in_ hu; ⟨q.1, q.2.1, q.2.2.1⟩) (let q := i.in_ hv; ⟨q.1, q.2.1, q.2.2.1⟩))]
  rw [Bool.eq_iff_iff, decide_eq_true_iff, decide_eq_true_iff, List.mem_map]
  constructor
  · rintro ⟨u, hu, q⟩
    have := ex_inj (let q := i.in_ hu; ⟨q.1, q.2.1, q.2.2.1⟩) hz q
    exact this ▸ hu
  · exact fun q => ⟨z, q, rfl⟩
theorem bits_ex {b : Box} {w h : Int} (i : InS b w h) {n : Nat} (hn : (bitsN b w).testBit n = true) : ∃ z, z ∈ cellsOf b ∧ ex w z = n := by
  have e : bitsN b w = (((cellsOf b).map (ex w)).map fun e => 2 ^ e).sum := by
    unfold bitsN
    rw [List.map_map]
    rfl
  rw [e, sum_bits _ (nodup_map (cells_nodup b) fun u hu v hv => ex_inj (let q := i.in_ hu; ⟨q.1, q.2.1, q.2.2.1⟩) (let q := i.in_ hv; ⟨q.1, q.2.1, q.2.2.1⟩)), decide_eq_true_iff, List.mem_map] at hn
  exact hn
theorem shl_ok {b : Box} {w : Int} (i : InS b w 20) {k : Nat} {z : Int × Int} (hx : (cellsOf b)[k]? = some z) : CPow 1 (z.2 * w + z.1) := by
  have q := i.in_ (List.mem_of_getElem? hx)
  have h1 : 0 ≤ z.2 * w := Int.mul_nonneg (by omega) (by omega)
  have h2 : z.2 * w ≤ 20 * 20 := by
    have hw : w ≤ 20 := by unfold InS at i; omega
    exact Int.mul_le_mul (by omega) hw (by omega) (by omega)
  unfold InS at i
  exact ⟨by omega, by omega, by decide⟩
theorem bits_step {b : Box} {w : Int} {i : Nat} {z : Int × Int} {F G : Int} (hx : (cellsOf b)[i]? = some z) (hF : F = (((((cellsOf b).take i).map fun z => 2 ^ ex w z).sum : Nat) : Int)) (hG : G = F + 1 * 2 ^ (z.2 * w + z.1).toNat) :
    G = (((((cellsOf b).take (i + 1)).map fun z => 2 ^ ex w z).sum : Nat) : Int) := by
  rw [hG, hF, List.take_add_one, hx, List.map_append, List.sum_append]
  simp [ex]
theorem and_meet {b c : Box} {w h : Int} (i : InS b w h) (j : InS c w h) : ((bitsN b w &&& bitsN c w) ≠ 0) ↔ ∃ z, z ∈ cellsOf b ∧ z ∈ cellsOf c := by
  constructor
  · intro q
    obtain ⟨n, hn⟩ := Nat.exists_testBit_of_ne_zero q
    rw [Nat.testBit_and, Bool.and_eq_true] at hn
    obtain ⟨z, hz, e⟩ := bits_ex i hn.1
    have e1 := i.in_ hz
    have := hn.2
    rw [← e, bits_at j ⟨e1.1, e1.2.1, e1.2.2.1⟩] at this
    exact ⟨z, hz, of_decide_eq_true this⟩
  · rintro ⟨z, hz, hz'⟩ q
    have e1 := i.in_ hz
    have : (bitsN b w &&& bitsN c w).testBit (ex w z) = true := by
      rw [Nat.testBit_and, bits_at i ⟨e1.1, e1.2.1, e1.2.2.1⟩, bits_at j ⟨e1.1, e1.2.1, e1.2.2.1⟩, decide_eq_true hz, decide_eq_true hz']
      rfl
    rw [q, Nat.zero_testBit] at this
    cases this

def six : List Str := ["right", "left", "above", "below", "up", "down"]
instance : Inhabited Pt := ⟨T5.mk default 0 0 0 (Tup.mk [])⟩
structure PlanOk (p : Plan) : Prop where
  wd : 1 ≤ p.a ∧ p.a ≤ 20
  hg : 1 ≤ p.b ∧ p.b ≤ 20
  kp : ∀ b ∈ p.c.l, InS b p.a p.b
  kl : p.c.l.length ≤ 63
  pt : ∀ q ∈ p.d.l, 1 ≤ q.a.length ∧ q.a.length ≤ 8 ∧ 0 ≤ q.b ∧ q.b < p.a ∧ 0 ≤ q.c ∧ q.c < p.b
  pl : ∀ q ∈ p.d.l, 1 ≤ q.e.l.length ∧ q.e.l.length ≤ 6
  ways : ∀ q ∈ p.d.l, ∀ r ∈ q.e.l, r.1 ∈ six
  nm : (p.d.l.map fun q => q.a).Nodup
  dl : p.d.l.length ≤ 63
theorem PlanOk.ptBox {p : Plan} (h : PlanOk p) {q : Pt} (m : q ∈ p.d.l) : InS (ptBox q) p.a p.b := by
  have := h.pt q m
  have := h.wd
  have := h.hg
  unfold InS My.ptBox
  simp only
  omega
def pointOf (pl : Plan) (nm : Str) : Option Pt := pl.d.l.find? fun q => decide (q.a = nm)
theorem find_no {nm : Str} {l : List Pt} {i : Nat} {x : Pt} (hx : l[i]? = some x) (h : (l.take i).find? (fun q => decide (q.a = nm)) = none) (c : decide (x.a = nm) = false) : (l.take (i + 1)).find? (fun q => decide (q.a = nm)) = none := by
  rw [List.take_add_one, hx, List.find?_append, h]
  simp [List.find?_cons, c]
theorem find_yes {pl : Plan} {nm : Str} {i : Nat} {x : Pt} (hx : pl.d.l[i]? = some x) (h : (pl.d.l.take i).find? (fun q => decide (q.a = nm)) = none) (c : decide (x.a = nm) = true) : pointOf pl nm = some x := by
  unfold pointOf
  have hl := lt_of_get hx
  have e : pl.d.l = pl.d.l.take i ++ x :: pl.d.l.drop (i + 1) := by
    rw [List.getElem?_eq_getElem hl] at hx
    cases hx
    rw [← List.drop_eq_getElem_cons hl, List.take_append_drop]
  rw [e, List.find?_append, h, List.find?_cons, c]
  rfl
def placedN (q : Pt) (k : Int) : Box := boxAt (q.e.l.getD k.toNat default).1 q.b q.c (q.a.length : Nat)
def orL (l : List Nat) : Nat := l.foldl (fun a b => a ||| b) 0
theorem or_step (l : List Nat) (x : Nat) : orL (l ++ [x]) = orL l ||| x := by unfold orL; rw [List.foldl_append]; rfl
theorem bitOr_nat (a b : Nat) : Builtin.bitOr (a : Int) (b : Int) = ((a ||| b : Nat) : Int) := by rw [Bits.bitOr_pp (by omega) (by omega), Int.toNat_natCast, Int.toNat_natCast]
def allShut (pl : Plan) : List Box := pl.c.l ++ pl.d.l.map ptBox
def shutN (pl : Plan) : Nat := orL ((allShut pl).map fun b => bitsN b pl.a)
def isOpenN (pl : Plan) (b : Box) : Bool := liesIn b pl.a pl.b && decide (Builtin.bitAnd ((bitsN b pl.a : Nat) : Int) ((shutN pl : Nat) : Int) = 0)
def bitsOf (pl : Plan) (q : Pt) (ks : List Int) : Dct Int Int := Dct.mk (ks.foldl (fun d k => if isOpenN pl (placedN q k) = true then aput d k ((bitsN (placedN q k) pl.a : Nat) : Int) else d) [])
theorem bits_yes {pl : Plan} {q : Pt} {ks : List Int} {j : Nat} {k : Int} (h : ks[j]? = some k) (c : isOpenN pl (placedN q k) = true) : bitsOf pl q (ks.take (j + 1)) = Dct.mk (aput (bitsOf pl q (ks.take j)).l k ((bitsN (placedN q k) pl.a : Nat) : Int)) := by
  unfold bitsOf
  rw [fold_take h, if_pos c]
theorem bits_no {pl : Plan} {q : Pt} {ks : List Int} {j : Nat} {k : Int} (h : ks[j]? = some k) (c : isOpenN pl (placedN q k) = false) : bitsOf pl q (ks.take (j + 1)) = bitsOf pl q (ks.take j) := by
  unfold bitsOf
  rw [fold_take h, if_neg (by rw [c]; exact Bool.false_ne_true)]
theorem bits_len (pl : Plan) (q : Pt) (ks : List Int) : (bitsOf pl q ks).l.length ≤ ks.length := by
  have key : ∀ (ks : List Int) (acc : List (Int × Int)), (ks.foldl (fun d k => if isOpenN pl (placedN q k) = true then aput d k ((bitsN (placedN q k) pl.a : Nat) : Int) else d) acc).length ≤ acc.length + ks.length := by
    intro ks
    induction ks with
    | nil => intro acc; exact Nat.le_refl _
    | cons k r ih =>
      intro acc
      rw [List.foldl_cons, List.length_cons]
      split
      · have := ih (aput acc k ((bitsN (placedN q k) pl.a : Nat) : Int))
        have := aput_len acc k ((bitsN (placedN q k) pl.a : Nat) : Int)
        omega
      · have := ih acc
        omega
  have := key ks []
  rw [List.length_nil, Nat.zero_add] at this
  exact this
def openBits (pl : Plan) (q : Pt) : Dct Int Int := bitsOf pl q (rng 0 (q.e.l.length : Int).toNat)
def openPl (pl : Plan) (nm : Str) : List Int := (openBits pl ((pointOf pl nm).getD default)).l.map (·.1)
theorem and_l {a b : Bool} (h : (a && b) = true) : a = true := (Bool.and_eq_true _ _ ▸ h).1
theorem placed_pos {pl : Plan} (h : PlanOk pl) {q : Pt} (m : q ∈ pl.d.l) (k : Int) : 1 ≤ (placedN q k).c ∧ 1 ≤ (placedN q k).d := by
  have := h.pt q m
  unfold placedN boxAt
  generalize (q.e.l.getD k.toNat default).1 = w
  cases wayOf w with
  | right => simp [wbox]; omega
  | left => simp [wbox]; omega
  | level n => simp [wbox]; omega
  | upright n => cases n <;> simp [wbox] <;> omega
theorem liesIn_ok {pl : Plan} (h : PlanOk pl) {q : Pt} {k : Int} {b : Box} (m : q ∈ pl.d.l) (e : b = placedN q k) (c : liesIn b pl.a pl.b = true) : InS b pl.a pl.b := by
  have hp := placed_pos h m k
  rw [← e] at hp
  have := h.wd
  have := h.hg
  unfold liesIn at c
  simp only [Bool.and_eq_true, decide_eq_true_eq] at c
  unfold InS
  omega

/-! #### the plan that is built is right -/
theorem keptB_in {row : List Int} {W Hh k : Int} (hw : 1 ≤ W ∧ W ≤ 20) (hh : 1 ≤ Hh ∧ Hh ≤ 20) : InS (keptB row W Hh k) W Hh := by
  have a1 := Int.emod_nonneg (q4 row k 0) (show W ≠ 0 by omega)
  have a2 := Int.emod_lt_of_pos (q4 row k 0) (show 0 < W by omega)
  have b1 := Int.emod_nonneg (q4 row k 1) (show Hh ≠ 0 by omega)
  have b2 := Int.emod_lt_of_pos (q4 row k 1) (show 0 < Hh by omega)
  have mc := mc_pos (q4 row k 2 / 400)
  unfold keptB InS
  simp only
  generalize ([2, 20] : List Int).getD (q4 row k 2 / 400 % 2).toNat 0 = c at *
  generalize q4 row k 0 % W = x at *
  generalize q4 row k 1 % Hh = y at *
  have key : ∀ (n m : Int), 1 ≤ m → ∀ r : Int, 1 + r % (if m < c then m else c) ≤ m ∧ 1 ≤ 1 + r % (if m < c then m else c) := fun n m hm r => by
    have p := mn_pos mc hm
    have le : (if m < c then m else c) ≤ m := by split <;> omega
    generalize (if m < c then m else c) = d at *
    have := Int.emod_nonneg r (show d ≠ 0 by omega)
    have := Int.emod_lt_of_pos r (show 0 < d by omega)
    omega
  have k1 := key 0 (W - x) (by omega) (q4 row k 2)
  have k2 := key 0 (Hh - y) (by omega) (q4 row k 3)
  omega
theorem wl0_six : ∀ w ∈ wl0, w ∈ six := by decide +kernel
theorem pointN_ok {c wd hg most : Int} (hw : 1 ≤ wd) (hh : 1 ≤ hg) (hm : 1 ≤ most ∧ most ≤ 6) : (1 ≤ (pointN c wd hg most).a.length ∧ (pointN c wd hg most).a.length ≤ 8 ∧ 0 ≤ (pointN c wd hg most).b ∧ (pointN c wd hg most).b < wd ∧ 0 ≤ (pointN c wd hg most).c ∧ (pointN c wd hg most).c < hg) ∧
    (1 ≤ (pointN c wd hg most).e.l.length ∧ ((pointN c wd hg most).e.l.length : Int) ≤ most) ∧ (∀ r ∈ (pointN c wd hg most).e.l, r.1 ∈ six) ∧ ((pointN c wd hg most).e.l.map (·.1)).Nodup := by
  have nl := nm_len (rowN c 25)
  unfold pointN pricedN
  simp only
  generalize cut (rowN c 25) (some 9) (some 24) = row
  have m0 := Int.emod_nonneg (row.getD (1 : Int).toNat 0) (show most ≠ 0 by omega)
  have m1 := Int.emod_lt_of_pos (row.getD (1 : Int).toNat 0) (show 0 < most by omega)
  have hi : (rng 0 (1 + row.getD (1 : Int).toNat 0 % most).toNat).length ≤ 6 := by rw [rng_len]; omega
  have pk := prS_ok row (sizeOf' row) _ hi
  refine ⟨⟨?_, ?_, Int.emod_nonneg _ (by omega), Int.emod_lt_of_pos _ (by omega), Int.emod_nonneg _ (by omega), Int.emod_lt_of_pos _ (by omega)⟩, ⟨?_, ?_⟩, fun r hr => wl0_six _ (pk.2.2.2.1 r hr).1, pk.2.2.2.2⟩
  · rw [nmS_len, rng_len]; omega
  · rw [nmS_len, rng_len]; omega
  · rw [prS_len, rng_len]; omega
  · rw [prS_len, rng_len]; omega
theorem addP_inv {many : Int} {ps : List Pt} {q : Pt} {good : Pt → Prop} (h : (ps.map fun o => o.a).Nodup ∧ (ps.map fun o => ((o.b, o.c) : Int × Int)).Nodup ∧ (∀ o ∈ ps, good o) ∧ ((ps.length : Nat) : Int) ≤ many) (g : good q) :
    ((addP many ps q).map fun o => o.a).Nodup ∧ ((addP many ps q).map fun o => ((o.b, o.c) : Int × Int)).Nodup ∧ (∀ o ∈ addP many ps q, good o) ∧ (((addP many ps q).length : Nat) : Int) ≤ many := by
  unfold addP
  split
  · rename_i c1
    split
    · rename_i c2
      simp only [Bool.and_eq_true, decide_eq_true_eq, Bool.not_eq_true', decide_eq_false_iff_not] at c1 c2
      refine ⟨?_, ?_, fun o ho => ?_, by rw [List.length_append]; simp only [List.length_cons, List.length_nil]; omega⟩
      · rw [List.map_append]
        refine List.nodup_append.mpr ⟨h.1, by simp, fun a ha b hb e => ?_⟩
        simp only [List.map_cons, List.map_nil, List.mem_singleton] at hb
        subst hb
        exact c1.2 (e ▸ ha)
      · rw [List.map_append]
        refine List.nodup_append.mpr ⟨h.2.1, by simp, fun a ha b hb e => ?_⟩
        simp only [List.map_cons, List.map_nil, List.mem_singleton] at hb
        subst hb
        exact c2 (e ▸ ha)
      · rcases List.mem_append.mp ho with ho | ho
        · exact h.2.2.1 o ho
        · rw [List.mem_singleton.mp ho]; exact g
    · exact h
  · exact h
theorem points_ok (s : List Int) (st many most W Hh : Int) (hm : 0 ≤ many) (good : Pt → Prop) (g : ∀ c, good (pointN c W Hh most)) :
    ((pointsN s st many most W Hh).map fun o => o.a).Nodup ∧ ((pointsN s st many most W Hh).map fun o => ((o.b, o.c) : Int × Int)).Nodup ∧ (∀ o ∈ pointsN s st many most W Hh, good o) ∧ (((pointsN s st many most W Hh).length : Nat) : Int) ≤ many := by
  unfold pointsN
  generalize cut s (some st) (some 63) = l
  have key : ∀ (l : List Int) (ps : List Pt), ((ps.map fun o => o.a).Nodup ∧ (ps.map fun o => ((o.b, o.c) : Int × Int)).Nodup ∧ (∀ o ∈ ps, good o) ∧ ((ps.length : Nat) : Int) ≤ many) →
      (((l.foldl (fun ps c => addP many ps (pointN c W Hh most)) ps).map fun o => o.a).Nodup ∧ ((l.foldl (fun ps c => addP many ps (pointN c W Hh most)) ps).map fun o => ((o.b, o.c) : Int × Int)).Nodup ∧ (∀ o ∈ l.foldl (fun ps c => addP many ps (pointN c W Hh most)) ps, good o) ∧ (((l.foldl (fun ps c => addP many ps (pointN c W Hh most)) ps).length : Nat) : Int) ≤ many) := by
    intro l
    induction l with
    | nil => exact fun ps h => h
    | cons c r ih => exact fun ps h => ih _ (addP_inv h (g c))
  exact key l [] ⟨List.nodup_nil, List.nodup_nil, fun _ h => (by cases h), hm⟩
theorem plan_ok (s : List Int) (st many most : Int) (hm : 1 ≤ most ∧ most ≤ 6) (hmany : 0 ≤ many ∧ many ≤ 63) : PlanOk (planN s st many most) := by
  have w := wide_in (cellAt s 0)
  have h := high_in (cellAt s 0)
  have pk := points_ok s st many most (wideOf (cellAt s 0)) (highOf (cellAt s 0)) hmany.1 (fun q => (1 ≤ q.a.length ∧ q.a.length ≤ 8 ∧ 0 ≤ q.b ∧ q.b < wideOf (cellAt s 0) ∧ 0 ≤ q.c ∧ q.c < highOf (cellAt s 0)) ∧ (1 ≤ q.e.l.length ∧ (q.e.l.length : Int) ≤ most) ∧ (∀ r ∈ q.e.l, r.1 ∈ six) ∧ (q.e.l.map (·.1)).Nodup)
    fun c => pointN_ok w.1 h.1 hm
  refine ⟨w, h, fun b hb => ?_, ?_, fun q hq => (pk.2.2.1 q hq).1, fun q hq => ?_, fun q hq => (pk.2.2.1 q hq).2.2.1, pk.1, ?_⟩
  · obtain ⟨k, _, rfl⟩ := List.mem_map.mp hb
    exact keptB_in w h
  · show (keptsN _ _ _).length ≤ 63
    unfold keptsN
    rw [List.length_map, rng_len]
    omega
  · have := (pk.2.2.1 q hq).2.1
    omega
  · have := pk.2.2.2
    show (pointsN _ _ _ _ _ _).length ≤ 63
    omega
theorem planN_dl (s : List Int) (st many most : Int) (hmany : 0 ≤ many) : (((planN s st many most).d.l.length : Nat) : Int) ≤ many := (points_ok s st many most _ _ hmany (fun _ => True) fun _ => trivial).2.2.2
theorem find_nodup : ∀ {l : List Pt} {q : Pt}, (l.map fun q => q.a).Nodup → q ∈ l → l.find? (fun o => decide (o.a = q.a)) = some q
  | x :: r, q, nd, m => by
    rw [List.map_cons] at nd
    obtain ⟨h1, h2⟩ := List.nodup_cons.mp nd
    rcases List.mem_cons.mp m with e | m
    · rw [← e, List.find?_cons, decide_eq_true rfl]
    · have ne : ¬ x.a = q.a := fun z => h1 (List.mem_map.mpr ⟨q, m, z.symm⟩)
      rw [List.find?_cons, decide_eq_false ne]
      exact find_nodup h2 m
theorem point_of_mem {pl : Plan} (h : PlanOk pl) {q : Pt} (m : q ∈ pl.d.l) : pointOf pl q.a = some q := find_nodup h.nm m
theorem law_box {w : Str} (h : w ∈ six) (x y n : Int) : lawBox w x y n = boxAt w x y n := by
  have hc : w = ("right" : Str) ∨ w = ("left" : Str) ∨ w = ("above" : Str) ∨ w = ("below" : Str) ∨ w = ("up" : Str) ∨ w = ("down" : Str) := by simpa [six] using h
  rcases hc with rfl | rfl | rfl | rfl | rfl | rfl
  · unfold lawBox boxAt wayOf; rw [if_pos rfl, if_pos rfl]; rfl
  · unfold lawBox boxAt wayOf; rw [if_neg (by decide +kernel), if_pos rfl, if_neg (by decide +kernel), if_pos rfl]; rfl
  · unfold lawBox boxAt wayOf
    rw [if_neg (by decide +kernel), if_neg (by decide +kernel), if_pos rfl, if_neg (by decide +kernel), if_neg (by decide +kernel), if_pos rfl]
    simp only [wbox]
    congr 1
  · unfold lawBox boxAt wayOf
    rw [if_neg (by decide +kernel), if_neg (by decide +kernel), if_neg (by decide +kernel), if_pos rfl, if_neg (by decide +kernel), if_neg (by decide +kernel), if_neg (by decide +kernel), if_pos rfl]
    rfl
  · unfold lawBox boxAt wayOf
    rw [if_neg (by decide +kernel), if_neg (by decide +kernel), if_neg (by decide +kernel), if_neg (by decide +kernel), if_pos rfl, if_neg (by decide +kernel), if_neg (by decide +kernel), if_neg (by decide +kernel), if_neg (by decide +kernel)]
    rfl
  · unfold lawBox boxAt wayOf
    rw [if_neg (by decide +kernel), if_neg (by decide +kernel), if_neg (by decide +kernel), if_neg (by decide +kernel), if_neg (by decide +kernel), if_neg (by decide +kernel), if_neg (by decide +kernel), if_neg (by decide +kernel), if_neg (by decide +kernel)]
    rw [show decide (("down" : Str) = ("up" : Str)) = false by decide +kernel]
    rfl
theorem law_placed {pl : Plan} (h : PlanOk pl) {q : Pt} (m : q ∈ pl.d.l) {k : Int} (h0 : 0 ≤ k) (hk : k < (q.e.l.length : Nat)) : (lawBoxes q).getD k.toNat default = placedN q k := by
  have hl : k.toNat < q.e.l.length := by omega
  unfold lawBoxes placedN
  rw [List.getD_eq_getElem?_getD, List.getElem?_map, List.getD_eq_getElem?_getD, List.getElem?_eq_getElem hl]
  exact law_box (h.ways q m _ (List.getElem_mem hl)) _ _ _
/-! #### open, by the law and by the bits -/
theorem apart_iff {x y : Box} (hx : 1 ≤ x.c ∧ 1 ≤ x.d) (hy : 1 ≤ y.c ∧ 1 ≤ y.d) : lawApart x y = true ↔ ¬ ∃ z, z ∈ cellsOf x ∧ z ∈ cellsOf y := by
  unfold lawApart
  constructor
  · intro h
    rintro ⟨z, h1, h2⟩
    have h1 := (mem_cellsOf x z).mp h1
    have h2 := (mem_cellsOf y z).mp h2
    split at h
    · rename_i c
      simp only [Bool.or_eq_true, decide_eq_true_eq] at c
      omega
    · simp only [Bool.or_eq_true, decide_eq_true_eq] at h
      omega
  · intro h
    split
    · rfl
    · rename_i c
      simp only [Bool.or_eq_true, decide_eq_true_eq] at c ⊢
      refine Classical.byContradiction fun n => h ⟨(max x.a y.a, max x.b y.b), (mem_cellsOf x _).mpr ?_, (mem_cellsOf y _).mpr ?_⟩
      · simp only; omega
      · simp only; omega
theorem orL_bit : ∀ (l : List Nat) (n : Nat), (orL l).testBit n = l.any fun x => x.testBit n := by
  intro l n
  have key : ∀ (l : List Nat) (a : Nat), (l.foldl (fun a b => a ||| b) a).testBit n = (a.testBit n || l.any fun x => x.testBit n) := by
    intro l
    induction l with
    | nil => intro a; simp
    | cons x r ih => intro a; rw [List.foldl_cons, ih, Nat.testBit_or, List.any_cons, Bool.or_assoc]
  unfold orL
  rw [key]; simp
theorem or_meet {pl : Plan} {b : Box} {w h : Int} (i : InS b w h) : ∀ {l : List Box}, (∀ o ∈ l, InS o w h) → ((bitsN b w &&& orL (l.map fun o => bitsN o w) = 0) ↔ ∀ o ∈ l, ¬ ∃ z, z ∈ cellsOf b ∧ z ∈ cellsOf o) := by
  intro l hl
  constructor
  · intro e o ho hz
    have := (and_meet i (hl o ho)).mpr hz
    obtain ⟨n, hn⟩ := Nat.exists_testBit_of_ne_zero this
    rw [Nat.testBit_and, Bool.and_eq_true] at hn
    have h2 : (bitsN b w &&& orL (l.map fun o => bitsN o w)).testBit n = true := by
      rw [Nat.testBit_and, hn.1, orL_bit, List.any_map, Bool.true_and, List.any_eq_true]
      exact ⟨o, ho, hn.2⟩
    rw [e, Nat.zero_testBit] at h2
    cases h2
  · intro h
    refine Classical.byContradiction fun ne => ?_
    obtain ⟨n, hn⟩ := Nat.exists_testBit_of_ne_zero ne
    rw [Nat.testBit_and, orL_bit, List.any_map, Bool.and_eq_true, List.any_eq_true] at hn
    obtain ⟨h1, o, ho, h2⟩ := hn
    have : bitsN b w &&& bitsN o w ≠ 0 := fun z => by
      have : (bitsN b w &&& bitsN o w).testBit n = true := by rw [Nat.testBit_and, h1]; exact h2
      rw [z, Nat.zero_testBit] at this
      cases this
    exact h o ho ((and_meet i (hl o ho)).mp this)
theorem allShut_in {pl : Plan} (h : PlanOk pl) : ∀ o ∈ allShut pl, InS o pl.a pl.b := fun o ho => by
  unfold allShut at ho
  rcases List.mem_append.mp ho with ho | ho
  · exact h.kp o ho
  · obtain ⟨q, hq, rfl⟩ := List.mem_map.mp ho
    exact h.ptBox hq
theorem open_same {pl : Plan} (h : PlanOk pl) {b : Box} (hb : 1 ≤ b.c ∧ 1 ≤ b.d) : isOpenN pl b = lawOpen pl b := by
  unfold isOpenN lawOpen
  cases c : liesIn b pl.a pl.b with
  | false => simp
  | true =>
    rw [if_pos rfl, Bool.true_and]
    have i : InS b pl.a pl.b := by
      have := h.wd
      have := h.hg
      unfold liesIn at c
      simp only [Bool.and_eq_true, decide_eq_true_eq] at c
      unfold InS
      omega
    have hs := allShut_in h
    rw [bitAnd_pp (by omega) (by omega), Int.toNat_natCast, Int.toNat_natCast, Bool.eq_iff_iff, decide_eq_true_iff, List.all_map, List.all_eq_true]
    have e := or_meet (pl := pl) i hs
    unfold shutN
    constructor
    · intro z o ho
      have z : bitsN b pl.a &&& orL ((allShut pl).map fun o => bitsN o pl.a) = 0 := by omega
      have io := hs o ho
      unfold InS at io
      exact (apart_iff hb ⟨io.2.2.2.2.1, io.2.2.2.2.2.1⟩).mpr (e.mp z o ho)
    · intro a
      have : bitsN b pl.a &&& orL ((allShut pl).map fun o => bitsN o pl.a) = 0 := e.mpr fun o ho => by
        have io := hs o ho
        unfold InS at io
        exact (apart_iff hb ⟨io.2.2.2.2.1, io.2.2.2.2.2.1⟩).mp (a o ho)
      omega
/-! #### the tables -/
theorem fold_keys {κ α : Type} [DecidableEq κ] (c : κ → Bool) (f : κ → α) : ∀ (ks : List κ) (acc : List (κ × α)), ks.Nodup → (∀ k ∈ ks, k ∉ acc.map (·.1)) →
    ks.foldl (fun d k => if c k = true then aput d k (f k) else d) acc = acc ++ (ks.filter c).map fun k => (k, f k)
  | [], acc, _, _ => by simp
  | k :: r, acc, nd, h => by
    obtain ⟨h1, h2⟩ := List.nodup_cons.mp nd
    rw [List.foldl_cons, List.filter_cons]
    by_cases e : c k = true
    · rw [if_pos e, if_pos e]
      have hn : aget acc k = none := by
        cases q : aget acc k with
        | none => rfl
        | some v => exact absurd (aget_keys.mp (by rw [q]; rfl)) (h k List.mem_cons_self)
      rw [aput_new _ hn, fold_keys c f r _ h2 fun j hj hm => ?_]
      · simp
      · rw [List.map_append] at hm
        rcases List.mem_append.mp hm with hm | hm
        · exact h j (List.mem_cons_of_mem _ hj) hm
        · simp at hm
          exact h1 (hm ▸ hj)
    · rw [if_neg e, if_neg e]
      exact fold_keys c f r acc h2 fun j hj => h j (List.mem_cons_of_mem _ hj)
theorem bits_list (pl : Plan) (q : Pt) : (openBits pl q).l = ((rng 0 (q.e.l.length : Int).toNat).filter fun k => isOpenN pl (placedN q k)).map fun k => (k, ((bitsN (placedN q k) pl.a : Nat) : Int)) := by
  unfold openBits bitsOf
  have := fold_keys (fun k => isOpenN pl (placedN q k)) (fun k => ((bitsN (placedN q k) pl.a : Nat) : Int)) (rng 0 (q.e.l.length : Int).toNat) [] (rng_nodup _ _) (fun _ _ h => by cases h)
  rw [List.nil_append] at this
  exact this
theorem inner_list (pl : Plan) (q : Pt) : (innerN pl q).l = ((rng 0 ((lawBoxes q).length : Int).toNat).filter fun k => lawOpen pl ((lawBoxes q).getD k.toNat default)).map fun k => (k, (lawBoxes q).getD k.toNat default) := by
  unfold innerN innerOf
  have := fold_keys (fun k : Int => lawOpen pl ((lawBoxes q).getD k.toNat default)) (fun k => (lawBoxes q).getD k.toNat default) (rng 0 ((lawBoxes q).length : Int).toNat) [] (rng_nodup _ _) (fun _ _ h => by cases h)
  rw [List.nil_append] at this
  exact this
theorem keys_same {pl : Plan} (h : PlanOk pl) {q : Pt} (m : q ∈ pl.d.l) : (openBits pl q).l.map (·.1) = (innerN pl q).l.map (·.1) := by
  rw [bits_list, inner_list, List.map_map, List.map_map, boxes_len]
  have e : ∀ k ∈ rng 0 (q.e.l.length : Int).toNat, isOpenN pl (placedN q k) = lawOpen pl ((lawBoxes q).getD k.toNat default) := fun k hk => by
    unfold rng at hk
    obtain ⟨n, hn, rfl⟩ := List.mem_map.mp hk
    rw [List.mem_range] at hn
    rw [law_placed h m (by omega) (by omega)]
    exact open_same h (placed_pos h m _)
  rw [List.filter_congr e]
  exact List.map_congr_left fun k _ => rfl
theorem afold_get {κ β : Type} [DecidableEq κ] (g : Pt → β) (f : Pt → κ) : ∀ (l : List Pt) (acc : List (κ × β)) (q : Pt), (l.map f).Nodup → q ∈ l → aget (l.foldl (fun d o => aput d (f o) (g o)) acc) (f q) = some (g q)
  | x :: r, acc, q, nd, m => by
    rw [List.map_cons] at nd
    obtain ⟨h1, h2⟩ := List.nodup_cons.mp nd
    rw [List.foldl_cons]
    rcases List.mem_cons.mp m with e | m
    · subst e
      have key : ∀ (r : List Pt) (acc : List (κ × β)), f q ∉ r.map f → aget acc (f q) = some (g q) → aget (r.foldl (fun d o => aput d (f o) (g o)) acc) (f q) = some (g q) := by
        intro r
        induction r with
        | nil => exact fun acc _ h => h
        | cons y t ih =>
          intro acc hn h
          rw [List.foldl_cons]
          refine ih _ (fun z => hn (List.mem_cons_of_mem _ z)) ?_
          rw [aget_put, if_neg (fun z => hn (by rw [List.map_cons, z]; exact List.mem_cons_self)), h]
      exact key r _ h1 (by rw [aget_put, if_pos rfl])
    · exact afold_get g f r _ q h2 m
theorem opened_get {pl : Plan} (h : PlanOk pl) {q : Pt} (m : q ∈ pl.d.l) : aget (openedN pl).l q.a = some (innerN pl q) := afold_get (innerN pl) (fun q => q.a) pl.d.l [] q h.nm m
theorem open_due {pl : Plan} (h : PlanOk pl) {q : Pt} (m : q ∈ pl.d.l) : openPl pl q.a = (innerN pl q).l.map (·.1) := by
  unfold openPl
  rw [point_of_mem h m]
  exact keys_same h m

def rowsN (pl : Plan) : Dct Str (Dct Int Int) := Dct.mk (pl.d.l.foldl (fun d q => aput d q.a (openBits pl q)) [])
def bit2 (m h : Int) : Bool := !decide (Builtin.bitAnd m h = 0)
def touchN (o t : Dct Int Int) : Bool := (o.l.map fun p => p.2).any fun m => (t.l.map fun p => p.2).any fun h => bit2 m h
def lawTouch (o t : Dct Int Box) : Bool := (o.l.map fun p => p.2).any fun m => (t.l.map fun p => p.2).any fun h => !lawApart m h
theorem any_take {α : Type} {xs : List α} {i : Nat} {x : α} {f : α → Bool} (h : xs[i]? = some x) : (xs.take (i + 1)).any f = ((xs.take i).any f || f x) := by
  rw [List.take_add_one, h, List.any_append]; simp
theorem any_yes {α : Type} {xs : List α} {x : α} {f : α → Bool} (h : x ∈ xs) (c : f x = true) : xs.any f = true := List.any_eq_true.mpr ⟨x, h, c⟩
theorem get_def {κ α : Type} [DecidableEq κ] [Inhabited α] {l : List (κ × α)} {k : κ} (h : (aget l k).isSome = true) : aget l k = some ((aget l k).getD default) := by
  cases e : aget l k with
  | none => rw [e] at h; cases h
  | some v => rfl
theorem afold_keys {α κ β : Type} [DecidableEq κ] (f : α → κ) (g : α → β) : ∀ (l : List α) (acc : List (κ × β)), (l.map f).Nodup → (∀ q ∈ l, f q ∉ acc.map (·.1)) → l.foldl (fun d q => aput d (f q) (g q)) acc = acc ++ l.map fun q => (f q, g q)
  | [], acc, _, _ => by simp
  | x :: r, acc, nd, h => by
    rw [List.map_cons] at nd
    obtain ⟨h1, h2⟩ := List.nodup_cons.mp nd
    have hn : aget acc (f x) = none := by
      cases q : aget acc (f x) with
      | none => rfl
      | some v => exact absurd (aget_keys.mp (by rw [q]; rfl)) (h x List.mem_cons_self)
    rw [List.foldl_cons, aput_new _ hn, afold_keys f g r _ h2 fun q hq hm => ?_]
    · simp
    · rw [List.map_append] at hm
      rcases List.mem_append.mp hm with hm | hm
      · exact h q (List.mem_cons_of_mem _ hq) hm
      · simp at hm
        exact h1 (hm ▸ List.mem_map_of_mem hq)
theorem rows_list {pl : Plan} (h : PlanOk pl) : (rowsN pl).l = pl.d.l.map fun q => (q.a, openBits pl q) := by
  have := afold_keys (fun q : Pt => q.a) (openBits pl) pl.d.l [] h.nm (fun _ _ z => by cases z)
  rw [List.nil_append] at this
  exact this
theorem rows_keys {pl : Plan} (h : PlanOk pl) : (rowsN pl).l.map (·.1) = pl.d.l.map fun q => q.a := by
  rw [rows_list h, List.map_map]; rfl
theorem rows_has {pl : Plan} (h : PlanOk pl) {nm : Str} (e : ∃ q ∈ pl.d.l, q.a = nm) : (aget (rowsN pl).l nm).isSome = true := by
  obtain ⟨q, m, rfl⟩ := e
  exact aget_keys.mpr (by rw [rows_keys h]; exact List.mem_map_of_mem m)
def rowAt (pl : Plan) (nm : Str) : Dct Int Int := (aget (rowsN pl).l nm).getD default
def neighN (pl : Plan) (nm : Str) : List Str := ((rowsN pl).l.map (·.1)).filter fun o => !decide (o = nm) && touchN (rowAt pl nm) (rowAt pl o)

theorem rowAt_mem {pl : Plan} (h : PlanOk pl) {q : Pt} (m : q ∈ pl.d.l) : rowAt pl q.a = openBits pl q := by
  unfold rowAt rowsN
  rw [afold_get (openBits pl) (fun q => q.a) pl.d.l [] q h.nm m]
  rfl
theorem opened_list {pl : Plan} (h : PlanOk pl) : (openedN pl).l = pl.d.l.map fun q => (q.a, innerN pl q) := by
  have := afold_keys (fun q : Pt => q.a) (innerN pl) pl.d.l [] h.nm (fun _ _ z => by cases z)
  rw [List.nil_append] at this
  exact this
theorem opened_keys {pl : Plan} (h : PlanOk pl) : (openedN pl).l.map (·.1) = pl.d.l.map fun q => q.a := by
  rw [opened_list h, List.map_map]; rfl
theorem opened_has {pl : Plan} (h : PlanOk pl) {nm : Str} (e : nm ∈ (openedN pl).l.map (·.1)) : ∃ q ∈ pl.d.l, q.a = nm := by
  rw [opened_keys h] at e
  exact List.mem_map.mp e
def openKs (pl : Plan) (q : Pt) : List Int := (rng 0 (q.e.l.length : Int).toNat).filter fun k => isOpenN pl (placedN q k)
theorem openKs_in {pl : Plan} (h : PlanOk pl) {q : Pt} (m : q ∈ pl.d.l) {k : Int} (hk : k ∈ openKs pl q) : 0 ≤ k ∧ k < (q.e.l.length : Nat) ∧ InS (placedN q k) pl.a pl.b := by
  obtain ⟨h1, h2⟩ := List.mem_filter.mp hk
  unfold rng at h1
  obtain ⟨n, hn, rfl⟩ := List.mem_map.mp h1
  rw [List.mem_range] at hn
  refine ⟨by omega, by omega, liesIn_ok h m rfl ?_⟩
  unfold isOpenN at h2
  exact and_l h2
theorem inner_list' {pl : Plan} (h : PlanOk pl) {q : Pt} (m : q ∈ pl.d.l) : (innerN pl q).l = (openKs pl q).map fun k => (k, placedN q k) := by
  rw [inner_list, boxes_len]
  have e : ∀ k ∈ rng 0 (q.e.l.length : Int).toNat, lawOpen pl ((lawBoxes q).getD k.toNat default) = isOpenN pl (placedN q k) := fun k hk => by
    unfold rng at hk
    obtain ⟨n, hn, rfl⟩ := List.mem_map.mp hk
    rw [List.mem_range] at hn
    rw [law_placed h m (by omega) (by omega)]
    exact (open_same h (placed_pos h m _)).symm
  rw [List.filter_congr e]
  refine List.map_congr_left fun k hk => ?_
  have := openKs_in h m hk
  rw [law_placed h m this.1 this.2.1]
theorem bit2_apart {pl : Plan} {b c : Box} (i : InS b pl.a pl.b) (j : InS c pl.a pl.b) : bit2 ((bitsN b pl.a : Nat) : Int) ((bitsN c pl.a : Nat) : Int) = !lawApart b c := by
  unfold bit2
  rw [bitAnd_pp (by omega) (by omega), Int.toNat_natCast, Int.toNat_natCast]
  have e := and_meet i j
  have ib := i
  have jb := j
  unfold InS at ib jb
  have a := apart_iff (x := b) (y := c) (by omega) (by omega)
  congr 1
  rw [Bool.eq_iff_iff, decide_eq_true_iff, a]
  constructor
  · intro z hz
    have := e.mpr hz
    omega
  · intro n
    refine Classical.byContradiction fun z => n (e.mp fun q => z (by omega))
theorem touch_same {pl : Plan} (h : PlanOk pl) {q r : Pt} (m : q ∈ pl.d.l) (m2 : r ∈ pl.d.l) : touchN (openBits pl q) (openBits pl r) = lawTouch (innerN pl q) (innerN pl r) := by
  unfold touchN lawTouch
  rw [bits_list, bits_list, inner_list' h m, inner_list' h m2]
  simp only [List.map_map, List.any_map]
  show (openKs pl q).any _ = (openKs pl q).any _
  have any_congr : ∀ {l : List Int} {f g : Int → Bool}, (∀ x ∈ l, f x = g x) → l.any f = l.any g := by
    intro l f g hh
    induction l with
    | nil => rfl
    | cons x t ih => rw [List.any_cons, List.any_cons, hh x List.mem_cons_self, ih fun y hy => hh y (List.mem_cons_of_mem _ hy)]
  refine any_congr fun k hk => ?_
  show (openKs pl r).any _ = (openKs pl r).any _
  refine any_congr fun j hj => ?_
  exact bit2_apart (openKs_in h m hk).2.2 (openKs_in h m2 hj).2.2
theorem neigh_due {pl : Plan} (h : PlanOk pl) {nm : Str} (e : ∃ q ∈ pl.d.l, q.a = nm) : neighN pl nm = ((openedN pl).l.map (·.1)).filter fun o => !decide (o = nm) && lawTouch ((aget (openedN pl).l nm).getD default) ((aget (openedN pl).l o).getD default) := by
  obtain ⟨q, m, rfl⟩ := e
  unfold neighN
  rw [rows_keys h, opened_keys h]
  refine List.filter_congr fun o ho => ?_
  obtain ⟨r, m2, rfl⟩ := List.mem_map.mp ho
  rw [rowAt_mem h m, rowAt_mem h m2, opened_get h m, opened_get h m2, touch_same h m m2]
  rfl

theorem getD_in {α : Type} {xs : List α} {k : Nat} {d : α} (h : k < xs.length) : xs.getD k d ∈ xs := by
  rw [List.getD_eq_getElem?_getD, List.getElem?_eq_getElem h]
  exact List.getElem_mem h
theorem nodup_le {α : Type} [DecidableEq α] : ∀ {xs ys : List α}, xs.Nodup → (∀ x ∈ xs, x ∈ ys) → xs.length ≤ ys.length
  | [], _, _, _ => Nat.zero_le _
  | x :: r, ys, nd, h => by
    obtain ⟨h1, h2⟩ := List.nodup_cons.mp nd
    have hx := h x List.mem_cons_self
    have := nodup_le (xs := r) (ys := ys.erase x) h2 fun y hy => (List.mem_erase_of_ne (fun (e : y = x) => h1 (e ▸ hy))).mpr (h y (List.mem_cons_of_mem _ hy))
    rw [List.length_erase_of_mem hx] at this
    have := List.length_pos_of_mem hx
    rw [List.length_cons]; omega
def lawNum (s : Scr) (k : Int) : Int := if k < s.l.length then s.l.getD k.toNat 0 * 48271 % 2147483647 else k * k * 16807 % 2147483629
theorem lawNum_nn (s : Scr) (k : Int) : 0 ≤ lawNum s k := by unfold lawNum; split <;> omega

def szN (n : Int) (i : Nat) : Int := if (19 : Int) < (i : Nat) then (if 2 > 1 + (n / (((i : Nat) : Int) + 1) + ((i : Nat) : Int)) % 8 then 2 else 1 + (n / (((i : Nat) : Int) + 1) + ((i : Nat) : Int)) % 8) else 1 + (n / (((i : Nat) : Int) + 1) + ((i : Nat) : Int)) % 8
theorem szN_in (n : Int) (i : Nat) : 1 ≤ szN n i ∧ szN n i ≤ 8 := by unfold szN; split <;> (try split) <;> omega
theorem sz_big {n x s t : Int} {i : Nat} (hx : x = 0 + (i : Nat)) (c : decide (19 < x) = true) (hs : s = 1 + (n / (x + 1) + x) % 8) (ht : t = if 2 > s then 2 else s) : t = szN n i := by
  have e : x = (i : Nat) := by omega
  subst e
  unfold szN
  rw [if_pos (of_decide_eq_true c), ht, hs]
theorem sz_small {n x s : Int} {i : Nat} (hx : x = 0 + (i : Nat)) (c : decide (19 < x) = false) (hs : s = 1 + (n / (x + 1) + x) % 8) : s = szN n i := by
  have e : x = (i : Nat) := by omega
  subst e
  unfold szN
  rw [if_neg (of_decide_eq_false c), hs]
def textN (c : Int) : Str := sgn (97 + (c / 26).toNat) ++ sgn (97 + (c % 26).toNat)
def nmOf (n : Int) (z c : Int) : Str := if z = 1 then cutS (textN c) none (some 1) else
  ([Txt.mul (sgn (97 + (n / 1352 % 26).toNat)) (z - 2) ++ textN c, textN c ++ Txt.mul (sgn (97 + (n / 1352 % 26).toNat)) (z - 2)] : List Str).getD (n / 676 % 2).toNat default
def fT (P : Nat → Bool) : Nat → Nat → Nat
  | 0, t => t
  | f + 1, t => if P t then t else fT P f (t + 1)
theorem fT_ok {P : Nat → Bool} : ∀ {f t u : Nat}, t ≤ u → u < t + f → P u = true → P (fT P f t) = true ∧ t ≤ fT P f t ∧ fT P f t ≤ u ∧ ∀ j, t ≤ j → j < fT P f t → P j = false
  | 0, t, u, h1, h2, _ => absurd h2 (by omega)
  | f + 1, t, u, h1, h2, h => by
    rw [fT]
    cases hp : P t with
    | true => rw [if_pos rfl]; exact ⟨hp, Nat.le_refl _, h1, fun j h3 h4 => absurd h4 (by omega)⟩
    | false =>
      rw [if_neg Bool.false_ne_true]
      have hu : t + 1 ≤ u := by
        rcases Nat.lt_or_ge t u with z | z
        · exact z
        · have : t = u := by omega
          subst this
          rw [hp] at h; cases h
      obtain ⟨a, b, c, d⟩ := fT_ok (f := f) hu (by omega) h
      refine ⟨a, by omega, c, fun j h3 h4 => ?_⟩
      rcases Nat.lt_or_ge t j with z | z
      · exact d j z h4
      · have : t = j := by omega
        subst this; exact hp
def goodT (n z C : Int) (F : List Str) (t : Nat) : Bool := !decide (nmOf n z ((C + 7 * (t : Nat)) % 676) ∈ F)
def nsS (n : Int) : Nat → Int × List Str
  | 0 => (n % 676, [])
  | i + 1 => (((nsS n i).1 + 7 * ((fT (goodT n (szN n i) (nsS n i).1 (nsS n i).2) 676 1 : Nat) : Int)) % 676,
    (nsS n i).2 ++ [nmOf n (szN n i) (((nsS n i).1 + 7 * ((fT (goodT n (szN n i) (nsS n i).1 (nsS n i).2) 676 1 : Nat) : Int)) % 676)])
def namesN (n mn : Int) : List Str := (nsS n (rng 0 mn.toNat).length).2
theorem nsS_len (n : Int) : ∀ i, (nsS n i).2.length = i
  | 0 => rfl
  | i + 1 => by rw [nsS]; show (_ ++ [_]).length = _; rw [List.length_append, nsS_len n i]; rfl
theorem nsS_code (n : Int) : ∀ i, 0 ≤ (nsS n i).1 ∧ (nsS n i).1 < 676
  | 0 => by show 0 ≤ n % 676 ∧ n % 676 < 676; omega
  | i + 1 => by rw [nsS]; show 0 ≤ _ % 676 ∧ _ % 676 < 676; omega
theorem two_len (a b : Nat) : (sgn a ++ sgn b : Str).length = 2 := rfl
theorem mul_len (c : Nat) {n : Int} : ((Txt.mul (sgn c) n).length : Nat) = n.toNat := by
  show (Txt.mul (sgn c) n).cps.size = _
  rw [← Array.length_toList, mul_sgn, List.length_replicate]
theorem code_in (c : Int) {d : Int} (h : c = (d + 7) % 676) : 0 ≤ c ∧ c < 676 := by omega
/-- some name is free -/
theorem sgn_list (c : Nat) : (sgn c).cps.toList = [c] := rfl
theorem text_list (c : Int) : (textN c).cps.toList = [97 + (c / 26).toNat, 97 + (c % 26).toNat] := by
  unfold textN
  rw [str_toList, sgn_list, sgn_list]; rfl
theorem nm_list1 (n c : Int) : (nmOf n 1 c).cps.toList = [97 + (c / 26).toNat] := by
  unfold nmOf
  rw [if_pos rfl]
  unfold cutS
  rw [text_list]
  rfl
theorem nm_list {n z c : Int} (hz : ¬ z = 1) : (nmOf n z c).cps.toList = (if n / 676 % 2 = 0 then List.replicate (z - 2).toNat (97 + (n / 1352 % 26).toNat) ++ [97 + (c / 26).toNat, 97 + (c % 26).toNat] else [97 + (c / 26).toNat, 97 + (c % 26).toNat] ++ List.replicate (z - 2).toNat (97 + (n / 1352 % 26).toNat)) := by
  unfold nmOf
  rw [if_neg hz]
  rcases (show n / 676 % 2 = 0 ∨ n / 676 % 2 = 1 by omega) with h | h
  · rw [h, if_pos rfl]
    show (Txt.mul _ _ ++ _ : Str).cps.toList = _
    rw [str_toList, mul_sgn, text_list]
  · rw [h, if_neg (by decide)]
    show (_ ++ Txt.mul _ _ : Str).cps.toList = _
    rw [str_toList, mul_sgn, text_list]
theorem nmo_len {n z c : Int} (h : 1 ≤ z) : ((nmOf n z c).length : Int) = z := by
  have e : (nmOf n z c).length = (nmOf n z c).cps.toList.length := by rw [Array.length_toList]; rfl
  rw [e]
  by_cases hz : z = 1
  · subst hz; rw [nm_list1]; rfl
  · rw [nm_list hz]
    split
    · rw [List.length_append, List.length_replicate]; simp; omega
    · rw [List.length_append, List.length_replicate]; simp; omega
theorem nm_inj {n z : Int} {a b : Nat} (ha : a < 26) (hb : b < 26) (h : nmOf n z (26 * (a : Nat)) = nmOf n z (26 * (b : Nat))) : a = b := by
  have h : (nmOf n z (26 * (a : Nat))).cps.toList = (nmOf n z (26 * (b : Nat))).cps.toList := by rw [h]
  by_cases hz : z = 1
  · subst hz
    rw [nm_list1, nm_list1] at h
    have := List.head_eq_of_cons_eq h
    omega
  · rw [nm_list hz, nm_list hz] at h
    split at h
    · have := List.append_cancel_left h
      have := List.head_eq_of_cons_eq this
      omega
    · have := List.append_cancel_right h
      have := List.head_eq_of_cons_eq this
      omega
theorem nm_free (n z : Int) {F : List Str} (h : F.length < 26) : ∃ a : Nat, a < 26 ∧ nmOf n z (26 * (a : Nat)) ∉ F := by
  by_cases q : ∀ a : Nat, a < 26 → nmOf n z (26 * (a : Nat)) ∈ F
  · have nd : ((List.range 26).map fun a => nmOf n z (26 * ((a : Nat) : Int))).Nodup :=
      List.pairwise_map.mpr (List.Pairwise.imp_of_mem (fun {x y} hx hy hne e => hne (nm_inj (List.mem_range.mp hx) (List.mem_range.mp hy) e)) List.nodup_range)
    have := nodup_le nd (ys := F) fun x hx => by
      obtain ⟨a, ha, rfl⟩ := List.mem_map.mp hx
      exact q a (List.mem_range.mp ha)
    rw [List.length_map, List.length_range] at this
    omega
  · obtain ⟨a, ha⟩ := Classical.not_forall.mp q
    obtain ⟨h1, h2⟩ := Classical.not_imp.mp ha
    exact ⟨a, h1, h2⟩
theorem good_t (n z : Int) {C : Int} {F : List Str} (hc : 0 ≤ C ∧ C < 676) (h : F.length < 26) : ∃ u : Nat, 1 ≤ u ∧ u < 1 + 676 ∧ goodT n z C F u = true := by
  obtain ⟨a, ha, hn⟩ := nm_free n z h
  have key : ∀ t : Nat, (C + 7 * ((t : Nat) : Int)) % 676 = 26 * (a : Nat) → goodT n z C F t = true := fun t e => by
    unfold goodT
    rw [e, decide_eq_false hn]; rfl
  by_cases q : ((26 * (a : Int) - C) * 483 % 676).toNat = 0
  · exact ⟨676, by decide, by decide, key _ (by omega)⟩
  · exact ⟨((26 * (a : Int) - C) * 483 % 676).toNat, by omega, by omega, key _ (by omega)⟩
abbrev Tn (n : Int) (i : Nat) (C : Int) (F : List Str) : Nat := fT (goodT n (szN n i) C F) 676 1
theorem tn_ok (n : Int) (i : Nat) {C : Int} {F : List Str} (hc : 0 ≤ C ∧ C < 676) (h : F.length < 26) : goodT n (szN n i) C F (Tn n i C F) = true ∧ 1 ≤ Tn n i C F ∧ ∀ j, 1 ≤ j → j < Tn n i C F → goodT n (szN n i) C F j = false := by
  obtain ⟨u, h1, h2, h3⟩ := good_t n (szN n i) hc h
  obtain ⟨a, b, _, d⟩ := fT_ok h1 h2 h3
  exact ⟨a, b, d⟩
/-- while a name is sought: t steps gone, m to go -/
structure StN (n : Int) (i : Nat) (C : Int) (F : List Str) (D : Int) (M : Str) (m : Nat) : Prop where
  hc : 0 ≤ C ∧ C < 676
  hl : F.length < 26
  st : (m = Tn n i C F ∧ D = C ∧ M = "") ∨ ∃ t : Nat, 1 ≤ t ∧ t + m = Tn n i C F ∧ D = (C + 7 * ((t : Nat) : Int)) % 676 ∧ M = nmOf n (szN n i) D
theorem st_zero {n : Int} {i : Nat} {C : Int} {F : List Str} {M : Str} (hM : M = "") (hc : 0 ≤ C ∧ C < 676) (hl : F.length = i) (hi : i < 26) : StN n i C F C M (Tn n i C F) := ⟨hc, by omega, .inl ⟨rfl, rfl, hM⟩⟩
theorem st_pos {n : Int} {i : Nat} {C : Int} {F : List Str} {D : Int} {M : Str} {m : Nat} (S : StN n i C F D M m) (w : M = "" ∨ M ∈ F) : 0 < m := by
  have T := tn_ok n i S.hc S.hl
  rcases S.st with ⟨e, _, _⟩ | ⟨t, h1, h2, h3, h4⟩
  · rw [e]; omega
  · rcases Nat.eq_zero_or_pos m with z | z
    · have e : t = Tn n i C F := by omega
      have g := T.1
      rw [← e] at g
      unfold goodT at g
      rw [← h3, ← h4] at g
      rcases w with w | w
      · rw [w] at h4
        have := nmo_len (n := n) (z := szN n i) (c := D) (szN_in n i).1
        rw [← h4] at this
        have := (szN_in n i).1
        have e0 : (("" : Str).length : Int) = 0 := rfl
        omega
      · rw [decide_eq_true w] at g; cases g
    · exact z
theorem st_less {n : Int} {i : Nat} {C : Int} {F : List Str} {D : Int} {M : Str} {m : Nat} (S : StN n i C F D M m) (w : M = "" ∨ M ∈ F) : m - 1 < m := by
  have := st_pos S w
  omega
theorem st_step {n : Int} {i : Nat} {C : Int} {F : List Str} {D : Int} {M : Str} {m : Nat} (S : StN n i C F D M m) (w : M = "" ∨ M ∈ F) {E : Int} (hE : E = (D + 7) % 676) : StN n i C F E (nmOf n (szN n i) E) (m - 1) := by
  have hp := st_pos S w
  refine ⟨S.hc, S.hl, .inr ?_⟩
  rcases S.st with ⟨e, e2, _⟩ | ⟨t, h1, h2, h3, h4⟩
  · exact ⟨1, Nat.le_refl _, by omega, by rw [hE, e2]; rfl, rfl⟩
  · exact ⟨t + 1, by omega, by omega, by rw [hE, h3]; omega, rfl⟩
theorem st_next1 {n : Int} {i : Nat} {C : Int} {F : List Str} {D Z : Int} {M p t a : Str} {m : Nat} {c : Int} (hp : p = sgn (97 + (n / 1352 % 26).toNat)) (hZ : Z = szN n i) (S : StN n i C F D M m) (w : M = "" ∨ M ∈ F) (hc : c = (D + 7) % 676) (ht : t = sgn (97 + (c / 26).toNat) ++ sgn (97 + (c % 26).toNat))
    (ha : a = cutS t none (some 1)) (h : decide (Z = 1) = true) : StN n i C F c a (m - 1) := by
  have e : a = nmOf n (szN n i) c := by
    unfold nmOf
    rw [← hZ, if_pos (of_decide_eq_true h), ha, ht]; rfl
  rw [e]
  exact st_step S w hc
theorem st_next2 {n : Int} {i : Nat} {C : Int} {F : List Str} {D Z : Int} {M p t a : Str} {m : Nat} {c : Int} (hp : p = sgn (97 + (n / 1352 % 26).toNat)) (hZ : Z = szN n i) (S : StN n i C F D M m) (w : M = "" ∨ M ∈ F) (hc : c = (D + 7) % 676) (ht : t = sgn (97 + (c / 26).toNat) ++ sgn (97 + (c % 26).toNat))
    (ha : a = ([Txt.mul p (Z - 2) ++ t, t ++ Txt.mul p (Z - 2)] : List Str).getD (n / 676 % 2).toNat default) (h : decide (Z = 1) = false) : StN n i C F c a (m - 1) := by
  have e : a = nmOf n (szN n i) c := by
    unfold nmOf
    rw [← hZ, if_neg (of_decide_eq_false h), ha, ht, hp]; rfl
  rw [e]
  exact st_step S w hc
theorem ns_next {n : Int} {i : Nat} {C : Int} {F : List Str} {D Z : Int} {M p : Str} {m : Nat} (hp : p = sgn (97 + (n / 1352 % 26).toNat)) (hZ : Z = szN n i) (hC : C = (nsS n i).1) (hF : F = (nsS n i).2) (S : StN n i C F D M m) (w : ¬ M = "" ∧ ¬ M ∈ F) : D = (nsS n (i + 1)).1 ∧ F ++ [M] = (nsS n (i + 1)).2 := by
  have T := tn_ok n i S.hc S.hl
  rcases S.st with ⟨_, _, e⟩ | ⟨t, h1, h2, h3, h4⟩
  · exact absurd e w.1
  · have e : t = Tn n i C F := by
      rcases Nat.lt_or_ge t (Tn n i C F) with z | z
      · have g := T.2.2 t h1 z
        unfold goodT at g
        rw [← h3, ← h4, decide_eq_false w.2] at g
        cases g
      · omega
    subst hC hF
    have e2 : D = (nsS n (i + 1)).1 := by rw [nsS, h3, e]
    refine ⟨e2, ?_⟩
    rw [h4, e2]
    rfl
theorem nsS_ok (n : Int) : ∀ {i : Nat}, i ≤ 26 → (nsS n i).2.Nodup ∧ ∀ x ∈ (nsS n i).2, 1 ≤ x.length ∧ x.length ≤ 8
  | 0, _ => ⟨List.nodup_nil, fun x m => by cases m⟩
  | i + 1, h => by
    obtain ⟨h1, h2⟩ := nsS_ok n (i := i) (by omega)
    have T := tn_ok n i (nsS_code n i) (F := (nsS n i).2) (by rw [nsS_len]; omega)
    have g := T.1
    unfold goodT at g
    rw [nsS]
    refine ⟨List.nodup_append.mpr ⟨h1, by simp, fun a ha b hb e => ?_⟩, fun x m => ?_⟩
    · rw [List.mem_singleton.mp hb] at e
      rw [e] at ha
      rw [decide_eq_true ha] at g
      cases g
    · rcases List.mem_append.mp m with m | m
      · exact h2 x m
      · rw [List.mem_singleton.mp m]
        have := nmo_len (n := n) (z := szN n i) (c := ((nsS n i).1 + 7 * ((fT (goodT n (szN n i) (nsS n i).1 (nsS n i).2) 676 1 : Nat) : Int)) % 676) (szN_in n i).1
        have := szN_in n i
        omega

theorem st15 (r : Int) : 0 ≤ ([1, 5] : List Int).getD (r % 2).toNat 0 ∧ ([1, 5] : List Int).getD (r % 2).toNat 0 ≤ 5 := by
  rcases (show r % 2 = 0 ∨ r % 2 = 1 by omega) with h | h <;> rw [h] <;> decide
theorem pr_pos (r : Int) : 0 < ([10, 1000, 10 ^ (9 : Int).toNat] : List Int).getD (r % 3).toNat 0 := by
  rcases (show r % 3 = 0 ∨ r % 3 = 1 ∨ r % 3 = 2 by omega) with h | h | h <;> rw [h] <;> decide
def plN (n : Int) : Nat → Int
  | 0 => n
  | i + 1 => (plN n i + 1) * 16807 % 2147483587
def plS (n : Int) : Nat → List (Str × Int)
  | 0 => []
  | i + 1 => plS n i ++ [(six.getD ((n % 6 + (0 + ((i : Nat) : Int)) * ([1, 5] : List Int).getD (n / 6 % 2).toNat 0) % 6).toNat default, (plN n i + 1) * 16807 % 2147483587 / 8 % ([10, 1000, 10 ^ (9 : Int).toNat] : List Int).getD ((plN n i + 1) * 16807 % 2147483587 % 3).toNat 0)]
theorem plS_len (n : Int) : ∀ i, (plS n i).length = i
  | 0 => rfl
  | i + 1 => by rw [plS, List.length_append, plS_len n i]; rfl
theorem plS_six (n : Int) : ∀ i, ∀ r ∈ plS n i, r.1 ∈ six
  | 0, r, h => by cases h
  | i + 1, r, h => by
    rcases List.mem_append.mp h with h | h
    · exact plS_six n i r h
    · rw [List.mem_singleton.mp h]
      exact getD_in (by show _ < 6; omega)
def kpC (n : Int) : Nat := (([0, 1, 2, 4] : List Int).getD (n % 4).toNat 0).toNat
theorem kp_in (n : Int) : ([0, 1, 2, 4] : List Int).getD (n % 4).toNat 0 ≤ 16777216 ∧ -16777216 ≤ ([0, 1, 2, 4] : List Int).getD (n % 4).toNat 0 := by
  rcases (show n % 4 = 0 ∨ n % 4 = 1 ∨ n % 4 = 2 ∨ n % 4 = 3 by omega) with h | h | h | h <;> rw [h] <;> decide
theorem kpC_le (n : Int) : kpC n ≤ 4 := by
  unfold kpC
  rcases (show n % 4 = 0 ∨ n % 4 = 1 ∨ n % 4 = 2 ∨ n % 4 = 3 by omega) with h | h | h | h <;> rw [h] <;> decide
def kpN (n : Int) : Nat → Int
  | 0 => n
  | i + 1 => (kpN n i + 1) * 48271 % 2147483587
def kpB (n wd hg : Int) : Box := ⟨n % wd, n / 20 % hg, 1 + n / 400 % (if wd - n % wd < 3 then wd - n % wd else 3), 1 + n / 2400 % (if hg - n / 20 % hg < 3 then hg - n / 20 % hg else 3)⟩
def kpS (n wd hg : Int) : Nat → List Box
  | 0 => []
  | i + 1 => kpS n wd hg i ++ [kpB ((kpN n i + 1) * 48271 % 2147483587) wd hg]
theorem kpS_len (n wd hg : Int) : ∀ i, (kpS n wd hg i).length = i
  | 0 => rfl
  | i + 1 => by rw [kpS, List.length_append, kpS_len n wd hg i]; rfl
theorem kpB_in (n : Int) {wd hg : Int} (hw : 1 ≤ wd ∧ wd ≤ 20) (hh : 1 ≤ hg ∧ hg ≤ 20) : InS (kpB n wd hg) wd hg := by
  have a1 := Int.emod_nonneg n (show wd ≠ 0 by omega)
  have a2 := Int.emod_lt_of_pos n (show 0 < wd by omega)
  have b1 := Int.emod_nonneg (n / 20) (show hg ≠ 0 by omega)
  have b2 := Int.emod_lt_of_pos (n / 20) (show 0 < hg by omega)
  have key : ∀ (m r : Int), 1 ≤ m → 1 ≤ 1 + r % (if m < 3 then m else 3) ∧ 1 + r % (if m < 3 then m else 3) ≤ m := fun m r hm => by
    have h0 : 0 < (if m < 3 then m else 3) := by split <;> omega
    have h1 : (if m < 3 then m else 3) ≤ m := by split <;> omega
    generalize (if m < 3 then m else 3) = d at *
    have := Int.emod_nonneg r (show d ≠ 0 by omega)
    have := Int.emod_lt_of_pos r h0
    omega
  have k1 := key (wd - n % wd) (n / 400) (by omega)
  have k2 := key (hg - n / 20 % hg) (n / 2400) (by omega)
  unfold kpB InS
  simp only
  omega
theorem kpS_in (n : Int) {wd hg : Int} (hw : 1 ≤ wd ∧ wd ≤ 20) (hh : 1 ≤ hg ∧ hg ≤ 20) : ∀ i, ∀ b ∈ kpS n wd hg i, InS b wd hg
  | 0, b, h => by cases h
  | i + 1, b, h => by
    rcases List.mem_append.mp h with h | h
    · exact kpS_in n hw hh i b h
    · rw [List.mem_singleton.mp h]; exact kpB_in _ hw hh
def wdN (s : Scr) : Int := 4 + lawNum s 0 % 17
def hgN (s : Scr) : Int := 2 + lawNum s 0 / 17 % 19
theorem wh_in (s : Scr) : (4 + lawNum s 0 % 17) * (2 + lawNum s 0 / 17 % 19) ≤ 400 ∧ 0 ≤ (4 + lawNum s 0 % 17) * (2 + lawNum s 0 / 17 % 19) := by
  have h := lawNum_nn s 0
  have h1 : 4 ≤ 4 + lawNum s 0 % 17 ∧ 4 + lawNum s 0 % 17 ≤ 20 := by omega
  have h2 : 2 ≤ 2 + lawNum s 0 / 17 % 19 ∧ 2 + lawNum s 0 / 17 % 19 ≤ 20 := by omega
  generalize 4 + lawNum s 0 % 17 = a at *
  generalize 2 + lawNum s 0 / 17 % 19 = b at *
  constructor
  · have := Int.mul_le_mul h1.2 h2.2 (by omega) (by decide); omega
  · exact Int.mul_nonneg (by omega) (by omega)
def miN (s : Scr) (fi mo : Int) : Int := if fi + mo < ((s.l.length : Nat) : Int) then fi + mo else ((s.l.length : Nat) : Int)
theorem mi_in (s : Scr) (fi mo : Int) : (if fi + mo < ((s.l.length : Nat) : Int) then fi + mo else ((s.l.length : Nat) : Int)) ≤ fi + mo ∧ (if fi + mo < ((s.l.length : Nat) : Int) then fi + mo else ((s.l.length : Nat) : Int)) ≤ ((s.l.length : Nat) : Int) := by split <;> omega
def spotN (s : Scr) (fi mo pn : Int) (i : Nat) (F : List (Int × Int)) : Pt := T5.mk ((namesN (lawNum s 1) mo).getD (fi + ((i : Nat) : Int) - fi).toNat default) (F.getD (lawNum s (fi + ((i : Nat) : Int)) % ((F.length : Nat) : Int)).toNat default).1 (F.getD (lawNum s (fi + ((i : Nat) : Int)) % ((F.length : Nat) : Int)).toNat default).2
  (lawNum s (fi + ((i : Nat) : Int)) / 400 % 90) (Tup.mk (plS (lawNum s (fi + ((i : Nat) : Int)) / 7) pn.toNat))
def ptS (s : Scr) (fi mo pn : Int) : Nat → List (Int × Int) × List Pt
  | 0 => ((rng 0 ((4 + lawNum s 0 % 17) * (2 + lawNum s 0 / 17 % 19)).toNat).map fun k => (k % (4 + lawNum s 0 % 17), k / (4 + lawNum s 0 % 17)), [])
  | i + 1 => if (ptS s fi mo pn i).1 = [] then ptS s fi mo pn i else
    ((ptS s fi mo pn i).1.eraseIdx (lawNum s (fi + ((i : Nat) : Int)) % (((ptS s fi mo pn i).1.length : Nat) : Int)).toNat, (ptS s fi mo pn i).2 ++ [spotN s fi mo pn i (ptS s fi mo pn i).1])
theorem pt_stay {s : Scr} {fi mo pn : Int} {i : Nat} {F : List (Int × Int)} {G : List Pt} (hF : F = (ptS s fi mo pn i).1) (hG : G = (ptS s fi mo pn i).2) (c : (!decide (F = [])) = false) : F = (ptS s fi mo pn (i + 1)).1 ∧ G = (ptS s fi mo pn (i + 1)).2 := by
  subst hF hG
  rw [ptS, if_pos (by simpa using c)]
  exact ⟨rfl, rfl⟩
theorem pt_next {s : Scr} {fi mo pn : Int} {i : Nat} {F : List (Int × Int)} {G : List Pt} {x sp : Int} {z : Int × Int} (hx : x = fi + ((i : Nat) : Int)) (hF : F = (ptS s fi mo pn i).1) (hG : G = (ptS s fi mo pn i).2) (c : (!decide (F = [])) = true) (hs : sp = lawNum s x) (hz : z = F.getD (sp % ((F.length : Nat) : Int)).toNat default) :
    F.eraseIdx (sp % ((F.length : Nat) : Int)).toNat = (ptS s fi mo pn (i + 1)).1 ∧ G ++ [T5.mk ((namesN (lawNum s 1) mo).getD (x - fi).toNat default) z.1 z.2 (sp / 400 % 90) (Tup.mk (plS (sp / 7) pn.toNat))] = (ptS s fi mo pn (i + 1)).2 := by
  subst hz hs hx hF hG
  rw [ptS, if_neg (by simpa using c)]
  exact ⟨rfl, rfl⟩
theorem ptS_len (s : Scr) (fi mo pn : Int) : ∀ i, (ptS s fi mo pn i).1.length ≤ 400
  | 0 => by
    show (List.map _ _).length ≤ 400
    rw [List.length_map, rng_len]
    have := wh_in s
    omega
  | i + 1 => by
    have := ptS_len s fi mo pn i
    rw [ptS]
    split
    · exact this
    · exact Nat.le_trans (List.length_eraseIdx_le _ _) this
theorem ptS_cnt (s : Scr) (fi mo pn : Int) : ∀ i, (ptS s fi mo pn i).2.length ≤ i
  | 0 => Nat.le_refl _
  | i + 1 => by
    have := ptS_cnt s fi mo pn i
    rw [ptS]
    split
    · omega
    · show (_ ++ [_]).length ≤ _
      rw [List.length_append]; show _ + 1 ≤ _; omega
theorem pop_ok {F : List (Int × Int)} {sp : Int} (h : ¬ F = []) (hl : F.length ≤ 400) : 0 ≤ sp % ((F.length : Nat) : Int) ∧ sp % ((F.length : Nat) : Int) < ((F.length : Nat) : Int) ∧ F.length ≤ sizeLine := by
  have := List.length_pos_iff.mpr h
  exact ⟨Int.emod_nonneg _ (by omega), Int.emod_lt_of_pos _ (by omega), by rw [sizeLine_eq]; omega⟩
theorem names_len (n : Int) {mn : Int} (h : 0 ≤ mn) : ((namesN n mn).length : Int) = mn := by
  unfold namesN
  rw [nsS_len, rng_len]; omega
def numPlan (s : Scr) (fi mo pn : Int) : Plan := T4.mk (4 + lawNum s 0 % 17) (2 + lawNum s 0 / 17 % 19) (Tup.mk (kpS (lawNum s 0 / 323) (4 + lawNum s 0 % 17) (2 + lawNum s 0 / 17 % 19) (kpC (lawNum s 0 / 323)))) (Tup.mk (ptS s fi mo pn (rng fi (miN s fi mo - fi).toNat).length).2)
theorem ptS_ok (s : Scr) {fi mo pn : Int} (hm : 0 ≤ mo ∧ mo ≤ 26) : ∀ i : Nat, (i : Int) ≤ mo → (∀ z ∈ (ptS s fi mo pn i).1, 0 ≤ z.1 ∧ z.1 < 4 + lawNum s 0 % 17 ∧ 0 ≤ z.2 ∧ z.2 < 2 + lawNum s 0 / 17 % 19) ∧
    (∀ q ∈ (ptS s fi mo pn i).2, q.a ∈ (namesN (lawNum s 1) mo).take i ∧ 0 ≤ q.b ∧ q.b < 4 + lawNum s 0 % 17 ∧ 0 ≤ q.c ∧ q.c < 2 + lawNum s 0 / 17 % 19 ∧ ∃ n, q.e = Tup.mk (plS n pn.toNat)) ∧ ((ptS s fi mo pn i).2.map fun q => q.a).Nodup
  | 0, _ => by
    refine ⟨fun z hz => ?_, fun q hq => (by cases hq), List.nodup_nil⟩
    obtain ⟨k, hk, rfl⟩ := List.mem_map.mp (show z ∈ List.map _ _ from hz)
    unfold rng at hk
    obtain ⟨n, hn, rfl⟩ := List.mem_map.mp hk
    rw [List.mem_range] at hn
    have h := lawNum_nn s 0
    have h1 : 4 ≤ 4 + lawNum s 0 % 17 := by omega
    generalize 4 + lawNum s 0 % 17 = a at *
    generalize 2 + lawNum s 0 / 17 % 19 = b at *
    simp only
    refine ⟨Int.emod_nonneg _ (by omega), Int.emod_lt_of_pos _ (by omega), Int.ediv_nonneg (by omega) (by omega), Int.ediv_lt_of_lt_mul (by omega) ?_⟩
    rw [Int.mul_comm]; omega
  | i + 1, hi => by
    obtain ⟨h1, h2, h3⟩ := ptS_ok s (fi := fi) (pn := pn) hm i (by omega)
    have hnl := names_len (lawNum s 1) (mn := mo) hm.1
    have nd : (namesN (lawNum s 1) mo).Nodup := (nsS_ok (lawNum s 1) (i := (rng 0 mo.toNat).length) (by rw [rng_len]; omega)).1
    have tk : ∀ x ∈ (namesN (lawNum s 1) mo).take i, x ∈ (namesN (lawNum s 1) mo).take (i + 1) := fun x hx => List.take_subset_take_left _ (Nat.le_succ i) hx
    rw [ptS]
    split
    · exact ⟨h1, fun q hq => ⟨tk _ (h2 q hq).1, (h2 q hq).2⟩, h3⟩
    · rename_i hne
      have hlen := List.length_pos_iff.mpr hne
      have hz : (ptS s fi mo pn i).1.getD (lawNum s (fi + ((i : Nat) : Int)) % (((ptS s fi mo pn i).1.length : Nat) : Int)).toNat default ∈ (ptS s fi mo pn i).1 := by
        have a1 := Int.emod_nonneg (lawNum s (fi + ((i : Nat) : Int))) (show (((ptS s fi mo pn i).1.length : Nat) : Int) ≠ 0 by omega)
        have a2 := Int.emod_lt_of_pos (lawNum s (fi + ((i : Nat) : Int))) (show (0 : Int) < (((ptS s fi mo pn i).1.length : Nat) : Int) by omega)
        exact getD_in (by omega)
      have hn : (namesN (lawNum s 1) mo).getD (fi + ((i : Nat) : Int) - fi).toNat default = (namesN (lawNum s 1) mo)[i]'(by omega) := by
        rw [show (fi + ((i : Nat) : Int) - fi).toNat = i by omega, List.getD_eq_getElem?_getD, List.getElem?_eq_getElem (by omega)]; rfl
      refine ⟨fun z m => h1 z (List.mem_of_mem_eraseIdx m), fun q hq => ?_, ?_⟩
      · rcases List.mem_append.mp hq with hq | hq
        · exact ⟨tk _ (h2 q hq).1, (h2 q hq).2⟩
        · rw [List.mem_singleton.mp hq]
          have := h1 _ hz
          refine ⟨?_, this.1, this.2.1, this.2.2.1, this.2.2.2, _, rfl⟩
          show (namesN (lawNum s 1) mo).getD _ default ∈ _
          rw [hn, List.take_add_one, List.getElem?_eq_getElem (by omega)]
          exact List.mem_append_right _ (by show _ ∈ [_]; exact List.mem_singleton_self _)
      · rw [List.map_append]
        refine List.nodup_append.mpr ⟨h3, by simp, fun a ha b hb e => ?_⟩
        obtain ⟨q, hq, rfl⟩ := List.mem_map.mp ha
        have hb : b = (namesN (lawNum s 1) mo).getD (fi + ((i : Nat) : Int) - fi).toNat default := by simpa [spotN] using hb
        rw [hb, hn] at e
        have m := (h2 q hq).1
        rw [e] at m
        obtain ⟨j, hj⟩ := List.getElem?_of_mem m
        rw [List.getElem?_take] at hj
        split at hj
        · rename_i hji
          rw [List.getElem?_eq_getElem (by omega)] at hj
          have := (List.getElem_inj nd).mp (Option.some.inj hj)
          omega
        · cases hj
theorem num_ok (s : Scr) {fi mo pn : Int} (hf : 0 ≤ fi) (hm : 0 ≤ mo ∧ mo ≤ 26) (hp : 1 ≤ pn ∧ pn ≤ 6) : PlanOk (numPlan s fi mo pn) ∧ ∀ q ∈ (numPlan s fi mo pn).d.l, (q.e.l.length : Int) = pn := by
  have h0 := lawNum_nn s 0
  have hi : ((rng fi (miN s fi mo - fi).toNat).length : Int) ≤ mo := by
    rw [rng_len]
    have := mi_in s fi mo
    unfold miN
    omega
  obtain ⟨h1, h2, h3⟩ := ptS_ok s (fi := fi) (pn := pn) hm _ hi
  have hnl := names_len (lawNum s 1) (mn := mo) hm.1
  have hn := (nsS_ok (lawNum s 1) (i := (rng 0 mo.toNat).length) (by rw [rng_len]; omega)).2
  have hpl : ∀ q ∈ (numPlan s fi mo pn).d.l, (q.e.l.length : Int) = pn := fun q hq => by
    obtain ⟨n, e⟩ := (h2 q hq).2.2.2.2.2
    rw [e]
    show ((plS n pn.toNat).length : Int) = pn
    rw [plS_len]; omega
  refine ⟨⟨by show 1 ≤ 4 + lawNum s 0 % 17 ∧ 4 + lawNum s 0 % 17 ≤ 20; omega, by show 1 ≤ 2 + lawNum s 0 / 17 % 19 ∧ 2 + lawNum s 0 / 17 % 19 ≤ 20; omega, fun b hb => kpS_in _ (by show 1 ≤ 4 + lawNum s 0 % 17 ∧ 4 + lawNum s 0 % 17 ≤ 20; omega) (by show 1 ≤ 2 + lawNum s 0 / 17 % 19 ∧ 2 + lawNum s 0 / 17 % 19 ≤ 20; omega) _ b hb, ?_, fun q hq => ?_, fun q hq => ?_, fun q hq r hr => ?_, h3, ?_⟩, hpl⟩
  · show (kpS _ _ _ _).length ≤ 63
    rw [kpS_len]
    have := kpC_le (lawNum s 0 / 323); omega
  · have a := h2 q hq
    have b := hn _ (List.mem_of_mem_take a.1)
    exact ⟨b.1, b.2, a.2.1, a.2.2.1, a.2.2.2.1, a.2.2.2.2.1⟩
  · have := hpl q hq
    omega
  · obtain ⟨n, e⟩ := (h2 q hq).2.2.2.2.2
    rw [e] at hr
    exact plS_six n _ r hr
  · show (ptS s fi mo pn _).2.length ≤ 63
    have := ptS_cnt s fi mo pn (rng fi (miN s fi mo - fi).toNat).length
    omega

theorem filter_take {α : Type} {xs : List α} {i : Nat} {x : α} {f : α → Bool} (h : xs[i]? = some x) : (xs.take (i + 1)).filter f = (xs.take i).filter f ++ (if f x = true then [x] else []) := by
  rw [List.take_add_one, h, List.filter_append]
  congr 1
  show List.filter f [x] = _
  rw [List.filter_cons]; rfl
def obOf (pl : Plan) (q : Pt) : List ((Str × Int) × Box) := (openPl pl q.a).map fun k => ((q.a, k), placedN ((pointOf pl q.a).getD default) k)
def obN (pl : Plan) : Dct (Str × Int) Box := Dct.mk (pl.d.l.flatMap (obOf pl))
def folC (B : Dct (Str × Int) Box) (r o : Str × Int) : Bool := !decide (o.1 = r.1) && meet ((aget B.l r).getD default) ((aget B.l o).getD default)
def folN (B : Dct (Str × Int) Box) (r : Str × Int) : List (Str × Int) := if (!(aget B.l r).isSome) = true then [(r.1, 1 - r.2)] else ((B.l.map (·.1)).filter (folC B r)).map fun o => (o.1, 1 - o.2)
theorem pt_find {pl : Plan} (h : PlanOk pl) {q : Pt} (m : q ∈ pl.d.l) : ∃ o, pointOf pl q.a = some o := ⟨q, point_of_mem h m⟩
theorem open_ks {pl : Plan} (h : PlanOk pl) {q : Pt} (m : q ∈ pl.d.l) : openPl pl q.a = openKs pl q := by
  unfold openPl
  rw [point_of_mem h m]
  show (openBits pl q).l.map (·.1) = _
  rw [bits_list, List.map_map]
  exact List.map_id _
theorem ob_place {pl : Plan} (h : PlanOk pl) {q : Pt} (m : q ∈ pl.d.l) {k : Int} (hk : k ∈ openPl pl q.a) : ∃ o, pointOf pl q.a = some o ∧ 0 ≤ k ∧ k < (o.e.l.length : Nat) := by
  rw [open_ks h m] at hk
  have := openKs_in h m hk
  exact ⟨q, point_of_mem h m, this.1, this.2.1⟩
theorem open_len {pl : Plan} (h : PlanOk pl) {q : Pt} (m : q ∈ pl.d.l) : (openPl pl q.a).length ≤ 6 := by
  rw [open_ks h m]
  have := List.length_filter_le (fun k => isOpenN pl (placedN q k)) (rng 0 (q.e.l.length : Int).toNat)
  rw [rng_len] at this
  have := (h.pl q m).2
  unfold openKs
  omega
theorem flat_le {α β : Type} (f : α → List β) (n : Nat) : ∀ l : List α, (∀ x ∈ l, (f x).length ≤ n) → (l.flatMap f).length ≤ n * l.length
  | [], _ => by simp
  | x :: r, h => by
    rw [List.flatMap_cons, List.length_append, List.length_cons]
    have h1 := flat_le f n r fun y m => h y (List.mem_cons_of_mem _ m)
    have h2 := h x (List.mem_cons_self ..)
    rw [Nat.mul_add]; omega
theorem obOf_len {pl : Plan} (h : PlanOk pl) {q : Pt} (m : q ∈ pl.d.l) : (obOf pl q).length ≤ 6 := by
  unfold obOf
  rw [List.length_map]; exact open_len h m
theorem obN_len {pl : Plan} (h : PlanOk pl) : (obN pl).l.length ≤ 400 := by
  have := flat_le (obOf pl) 6 pl.d.l fun q m => obOf_len h m
  have := h.dl
  show (pl.d.l.flatMap (obOf pl)).length ≤ 400
  omega
section
variable {pl : Plan} {i j : Nat} {x : Pt} {y : Int} {F F2 : Dct (Str × Int) Box}
theorem ob_len (h : PlanOk pl) (hx : pl.d.l[i]? = some x) (hy : (openPl pl x.a)[j]? = some y) (h2 : F2.l = F.l ++ ((openPl pl x.a).take j).map fun k => ((x.a, k), placedN ((pointOf pl x.a).getD default) k)) (hF : F.l = (pl.d.l.take i).flatMap (obOf pl)) : F2.l.length < sizeLine := by
  rw [h2, hF, List.length_append, List.length_map, List.length_take, sizeLine_eq]
  have h1 := flat_le (obOf pl) 6 (pl.d.l.take i) fun q m => obOf_len h (List.mem_of_mem_take m)
  rw [List.length_take] at h1
  have := h.dl
  have := open_len h (List.mem_of_getElem? hx)
  omega
theorem flat_take {α β : Type} {f : α → List β} {l : List α} {i : Nat} {x : α} (h : l[i]? = some x) : (l.take (i + 1)).flatMap f = (l.take i).flatMap f ++ f x := by
  rw [List.take_add_one, h, List.flatMap_append]; simp
theorem ob_next (hx : pl.d.l[i]? = some x) (hF : F.l = (pl.d.l.take i).flatMap (obOf pl)) (h2 : F2.l = F.l ++ ((openPl pl x.a).take (openPl pl x.a).length).map fun k => ((x.a, k), placedN ((pointOf pl x.a).getD default) k)) : F2.l = (pl.d.l.take (i + 1)).flatMap (obOf pl) := by
  rw [h2, hF, flat_take hx, List.take_length]; rfl
theorem nodup_take_not {α : Type} {l : List α} (nd : l.Nodup) {i : Nat} {x : α} (h : l[i]? = some x) : x ∉ l.take i := fun m => by
  obtain ⟨j, hj⟩ := List.getElem?_of_mem m
  have hil := lt_of_get h
  rw [List.getElem?_take] at hj
  split at hj
  · rename_i hji
    have hjl := lt_of_get hj
    rw [List.getElem?_eq_getElem hil] at h
    rw [List.getElem?_eq_getElem hjl] at hj
    have := (List.getElem_inj nd).mp ((Option.some.inj hj).trans (Option.some.inj h).symm)
    omega
  · cases hj
theorem ob_put (h : PlanOk pl) (hx : pl.d.l[i]? = some x) (hF : F.l = (pl.d.l.take i).flatMap (obOf pl)) (hy : (openPl pl x.a)[j]? = some y) (h2 : F2.l = F.l ++ ((openPl pl x.a).take j).map fun k => ((x.a, k), placedN ((pointOf pl x.a).getD default) k)) :
    (Dct.mk (aput F2.l (x.a, y) (placedN ((pointOf pl x.a).getD default) y))).l = F.l ++ ((openPl pl x.a).take (j + 1)).map fun k => ((x.a, k), placedN ((pointOf pl x.a).getD default) k) := by
  have hn : aget F2.l (x.a, y) = none := by
    cases e : aget F2.l (x.a, y) with
    | none => rfl
    | some v =>
      have m := aget_keys.mp (show (aget F2.l (x.a, y)).isSome = true by rw [e]; rfl)
      rw [h2, List.map_append, List.mem_append] at m
      rcases m with m | m
      · rw [hF] at m
        obtain ⟨p, hp, e1⟩ := List.mem_map.mp m
        obtain ⟨q, hq, hp⟩ := List.mem_flatMap.mp hp
        obtain ⟨k, hk, rfl⟩ := List.mem_map.mp hp
        have e2 : q.a = x.a := congrArg Prod.fst e1
        have m1 : q.a ∈ (pl.d.l.map fun q => q.a).take i := by rw [← List.map_take]; exact List.mem_map_of_mem hq
        exact absurd (e2 ▸ m1) (nodup_take_not h.nm (by rw [List.getElem?_map, hx]; rfl))
      · rw [List.map_map] at m
        obtain ⟨k, hk, e1⟩ := List.mem_map.mp m
        have e2 : k = y := congrArg Prod.snd e1
        have nd : (openPl pl x.a).Nodup := by
          rw [open_ks h (List.mem_of_getElem? hx)]
          exact (rng_nodup _ _).sublist List.filter_sublist
        exact absurd (e2 ▸ hk) (nodup_take_not nd hy)
  show aput F2.l _ _ = _
  rw [aput_new _ hn, h2, List.append_assoc, map_take hy]
theorem ob_is (hF : F.l = (pl.d.l.take pl.d.l.length).flatMap (obOf pl)) : F = obN pl := by
  rw [List.take_length] at hF
  obtain ⟨l⟩ := F
  exact congrArg Dct.mk hF
end
theorem ob_key {pl : Plan} (h : PlanOk pl) (tw : ∀ q ∈ pl.d.l, q.e.l.length = 2) {o : Str × Int} (m : o ∈ (obN pl).l.map (·.1)) : (∃ q ∈ pl.d.l, q.a = o.1) ∧ (o.2 = 0 ∨ o.2 = 1) := by
  obtain ⟨p, hp, rfl⟩ := List.mem_map.mp m
  obtain ⟨q, hq, hp⟩ := List.mem_flatMap.mp (show p ∈ pl.d.l.flatMap (obOf pl) from hp)
  obtain ⟨k, hk, rfl⟩ := List.mem_map.mp hp
  rw [open_ks h hq] at hk
  have a := openKs_in h hq hk
  have := tw q hq
  exact ⟨⟨q, hq, rfl⟩, by show k = 0 ∨ k = 1; omega⟩
structure Tab0 (pl : Plan) (T : Dct (Str × Int) (List (Str × Int))) (n : Nat) : Prop where
  at_ : ∀ k v, aget T.l k = some v → (∃ q ∈ pl.d.l, q.a = k.1) ∧ (k.2 = 0 ∨ k.2 = 1) ∧ v = folN (obN pl) k
  len : T.l.length ≤ n
structure Tab (pl : Plan) (T : Dct (Str × Int) (List (Str × Int))) (n : Nat) (qs : List Pt) : Prop extends Tab0 pl T n where
  has : ∀ q ∈ qs, ∀ k : Int, k = 0 ∨ k = 1 → (aget T.l (q.a, k)).isSome = true
structure Tab2 (pl : Plan) (T : Dct (Str × Int) (List (Str × Int))) (n : Nat) (qs : List Pt) (nm : Str) (j : Nat) : Prop extends Tab pl T n qs where
  now : ∀ k : Nat, k < j → (aget T.l (nm, ((k : Nat) : Int))).isSome = true
theorem tab_zero {pl : Plan} : Tab pl (Dct.mk []) (2 * 0) (pl.d.l.take 0) := ⟨⟨fun k v e => (by have e : (none : Option (List (Str × Int))) = some v := e; cases e), Nat.le_refl _⟩, fun q m => (by cases m)⟩
section
variable {pl : Plan} {T : Dct (Str × Int) (List (Str × Int))} {i j n : Nat} {x : Pt} {y : Int} {qs : List Pt}
theorem tab_in (h : Tab pl T n qs) : Tab2 pl T (n + 0) qs x.a 0 := ⟨h, fun k hk => absurd hk (Nat.not_lt_zero _)⟩
theorem tab_put (hx : pl.d.l[i]? = some x) (hy : (rng 0 (2 : Int).toNat)[j]? = some y) (h : Tab2 pl T (n + j) qs x.a j) : Tab2 pl (Dct.mk (aput T.l (x.a, y) (folN (obN pl) (x.a, y)))) (n + (j + 1)) qs x.a (j + 1) := by
  obtain ⟨hj, e⟩ := rng_get hy
  have hj : j < 2 := hj
  refine ⟨⟨⟨fun k v hk => ?_, ?_⟩, fun q m k hk => ?_⟩, fun k hk => ?_⟩
  · have hk : aget (aput T.l (x.a, y) (folN (obN pl) (x.a, y))) k = some v := hk
    rw [aget_put] at hk
    split at hk
    · rename_i ek
      cases hk
      subst ek
      exact ⟨⟨x, List.mem_of_getElem? hx, rfl⟩, by show y = 0 ∨ y = 1; omega, rfl⟩
    · exact h.at_ k v hk
  · have := aput_len T.l (x.a, y) (folN (obN pl) (x.a, y))
    have := h.len
    show (aput T.l _ _).length ≤ _
    omega
  · show (aget (aput T.l _ _) _).isSome = true
    rw [aget_put]
    split
    · rfl
    · exact h.has q m k hk
  · show (aget (aput T.l _ _) _).isSome = true
    rw [aget_put]
    split
    · rfl
    · rename_i ne
      rcases Nat.lt_or_ge k j with z | z
      · exact h.now k z
      · have : k = j := by omega
        subst this
        exact absurd (by rw [e, Int.zero_add]) ne
theorem tab_row (hx : pl.d.l[i]? = some x) (h : Tab2 pl T (2 * i + (rng 0 (2 : Int).toNat).length) (pl.d.l.take i) x.a (rng 0 (2 : Int).toNat).length) : Tab pl T (2 * (i + 1)) (pl.d.l.take (i + 1)) := by
  refine ⟨⟨h.at_, by have := h.len; rw [rng_len] at this; show _ ≤ 2 * (i + 1); have e : (2 : Int).toNat = 2 := rfl; omega⟩, fun q m k hk => ?_⟩
  rw [List.take_add_one, hx] at m
  rcases List.mem_append.mp m with m | m
  · exact h.has q m k hk
  · have e : q = x := by simpa using m
    subst e
    rcases hk with rfl | rfl
    · exact h.now 0 (by decide)
    · exact h.now 1 (by decide)
end
theorem meet_comm' (a b : Box) : meet a b = meet b a := by
  unfold meet
  rw [Bool.eq_iff_iff]
  simp only [Bool.and_eq_true, decide_eq_true_eq]
  constructor <;> (rintro ⟨⟨h1, h2⟩, h3, h4⟩; exact ⟨⟨h2, h1⟩, h4, h3⟩)
section
variable {pl : Plan} {T : Dct (Str × Int) (List (Str × Int))} {n l o : Nat} {z u : Str × Int} (h : PlanOk pl) (tw : ∀ q ∈ pl.d.l, q.e.l.length = 2) (hT : Tab pl T n (pl.d.l.take pl.d.l.length)) (hz : (T.l.map (·.1))[l]? = some z) (hu : ((aget T.l z).getD default)[o]? = some u)
include h tw hT hz hu
theorem tab_val {k : Str × Int} (hk : (aget T.l k).isSome = true) : (aget T.l k).getD default = folN (obN pl) k := by
  cases e : aget T.l k with
  | none => rw [e] at hk; cases hk
  | some v => exact (hT.at_ k v e).2.2
theorem tab_z : (aget T.l z).isSome = true ∧ (∃ q ∈ pl.d.l, q.a = z.1) ∧ (z.2 = 0 ∨ z.2 = 1) := by
  have hk : (aget T.l z).isSome = true := aget_keys.mpr (List.mem_of_getElem? hz)
  refine ⟨hk, ?_⟩
  cases e : aget T.l z with
  | none => rw [e] at hk; cases hk
  | some v => exact ⟨(hT.at_ z v e).1, (hT.at_ z v e).2.1⟩
/-- either shut, or another open one that meets -/
theorem tab_u : ((aget (obN pl).l z).isSome = false ∧ u = (z.1, 1 - z.2)) ∨ ((aget (obN pl).l z).isSome = true ∧ ∃ w, w ∈ (obN pl).l.map (·.1) ∧ folC (obN pl) z w = true ∧ u = (w.1, 1 - w.2)) := by
  obtain ⟨hk, hq, h2⟩ := tab_z h tw hT hz hu
  rw [tab_val h tw hT hz hu hk] at hu
  have m := List.mem_of_getElem? hu
  unfold folN at m
  split at m
  · rename_i c
    exact .inl ⟨by simpa using c, List.mem_singleton.mp m⟩
  · rename_i c
    obtain ⟨w, hw, rfl⟩ := List.mem_map.mp m
    obtain ⟨h3, h4⟩ := List.mem_filter.mp hw
    exact .inr ⟨(by cases hh : (aget (obN pl).l z).isSome with | true => rfl | false => exact absurd (by rw [hh]; rfl) c), w, h3, h4, rfl⟩
theorem tab_key : (aget T.l (u.1, 1 - u.2)).isSome = true := by
  obtain ⟨hk, hq, h2⟩ := tab_z h tw hT hz hu
  rw [List.take_length] at hT
  rcases tab_u h tw (by rw [List.take_length]; exact hT) hz hu with ⟨_, rfl⟩ | ⟨_, w, hw, _, rfl⟩
  · show (aget T.l (z.1, 1 - (1 - z.2))).isSome = true
    rw [show 1 - (1 - z.2) = z.2 by omega]; exact hk
  · obtain ⟨⟨q, hq, e⟩, h3⟩ := ob_key h tw hw
    show (aget T.l (w.1, 1 - (1 - w.2))).isSome = true
    rw [show 1 - (1 - w.2) = w.2 by omega, ← e]
    exact hT.has q hq _ h3
theorem law_c0 : ¬ (!decide ((z.1, 1 - z.2) ∈ (aget T.l (u.1, 1 - u.2)).getD default)) = true := by
  obtain ⟨hk, hq, h2⟩ := tab_z h tw hT hz hu
  rw [tab_val h tw hT hz hu (tab_key h tw hT hz hu)]
  have key : (z.1, 1 - z.2) ∈ folN (obN pl) (u.1, 1 - u.2) := by
    rcases tab_u h tw hT hz hu with ⟨c, rfl⟩ | ⟨c, w, hw, hc, rfl⟩
    · have e : ((z.1, 1 - (1 - z.2)) : Str × Int) = z := by rw [show 1 - (1 - z.2) = z.2 by omega]
      simp only
      rw [e]
      unfold folN
      rw [if_pos (by rw [c]; rfl)]
      exact List.mem_singleton_self _
    · have e : ((w.1, 1 - (1 - w.2)) : Str × Int) = w := by rw [show 1 - (1 - w.2) = w.2 by omega]
      simp only
      rw [e]
      unfold folN
      rw [if_neg (by rw [aget_keys.mpr hw]; decide)]
      refine List.mem_map.mpr ⟨z, List.mem_filter.mpr ⟨aget_keys.mp c, ?_⟩, rfl⟩
      unfold folC at hc ⊢
      rw [Bool.and_eq_true] at hc ⊢
      refine ⟨?_, by rw [meet_comm']; exact hc.2⟩
      have := hc.1
      simp only [Bool.not_eq_true', decide_eq_false_iff_not] at this ⊢
      exact fun q => this q.symm
  rw [decide_eq_true key]; decide
theorem law_c1 : ¬ (decide (u.1 = z.1) && !decide ((aget T.l z).getD default = [(z.1, 1 - z.2)])) = true := by
  obtain ⟨hk, hq, h2⟩ := tab_z h tw hT hz hu
  rw [tab_val h tw hT hz hu hk]
  rcases tab_u h tw hT hz hu with ⟨c, rfl⟩ | ⟨c, w, hw, hc, rfl⟩
  · unfold folN
    rw [if_pos (by rw [c]; rfl)]
    simp
  · unfold folC at hc
    rw [Bool.and_eq_true] at hc
    have := hc.1
    simp only [Bool.not_eq_true', decide_eq_false_iff_not] at this
    rw [show decide (w.1 = z.1) = false from decide_eq_false this]
    simp
end
def Fine6 (b : Box) : Prop := 1 ≤ b.c ∧ b.c ≤ 100 ∧ 1 ≤ b.d ∧ b.d ≤ 100
def lawCells (b : Box) : List (Int × Int) := (rng 0 (b.c * b.d).toNat).map fun k => (b.a + k % b.c, b.b + k / b.c)
theorem area {b : Box} (h : Fine6 b) : 0 ≤ b.c * b.d ∧ b.c * b.d ≤ 10000 := by
  obtain ⟨h1, h2, h3, h4⟩ := h
  constructor
  · exact Int.mul_nonneg (by omega) (by omega)
  · have := Int.mul_le_mul h2 h4 (by omega) (by omega : (0 : Int) ≤ 100)
    omega
theorem mem_cells {b : Box} (h : Fine6 b) (z : Int × Int) : z ∈ lawCells b ↔ (b.a ≤ z.1 ∧ z.1 < b.a + b.c) ∧ b.b ≤ z.2 ∧ z.2 < b.b + b.d := by
  have ar := area h
  obtain ⟨h1, h2, h3, h4⟩ := h
  unfold lawCells rng
  rw [List.mem_map]
  constructor
  · rintro ⟨k, hk, rfl⟩
    obtain ⟨n, hn, rfl⟩ := List.mem_map.mp hk
    rw [List.mem_range] at hn
    have a1 := Int.emod_nonneg ((0 : Int) + n) (show b.c ≠ 0 by omega)
    have a2 := Int.emod_lt_of_pos ((0 : Int) + n) (show 0 < b.c by omega)
    have a3 : 0 ≤ ((0 : Int) + n) / b.c := Int.ediv_nonneg (by omega) (by omega)
    have a4 : ((0 : Int) + n) / b.c < b.d := Int.ediv_lt_of_lt_mul (by omega) (by rw [Int.mul_comm]; omega)
    simp only
    omega
  · rintro ⟨⟨e1, e2⟩, e3, e4⟩
    obtain ⟨x, y⟩ := z
    simp only at e1 e2 e3 e4
    have b1 : (y - b.b) * b.c ≤ (b.d - 1) * b.c := Int.mul_le_mul_of_nonneg_right (by omega) (by omega)
    have b0 : 0 ≤ (y - b.b) * b.c := Int.mul_nonneg (by omega) (by omega)
    have b2 : (b.d - 1) * b.c = b.c * b.d - b.c := by rw [Int.sub_mul, Int.mul_comm]; omega
    have key : (y - b.b) * b.c + (x - b.a) < b.c * b.d := by omega
    refine ⟨(y - b.b) * b.c + (x - b.a), List.mem_map.mpr ⟨((y - b.b) * b.c + (x - b.a)).toNat, ?_, ?_⟩, ?_⟩
    · rw [List.mem_range]
      omega
    · omega
    · have q1 : ((y - b.b) * b.c + (x - b.a)) % b.c = x - b.a := by
        rw [Int.add_comm, Int.add_mul_emod_self_right, Int.emod_eq_of_lt (by omega) (by omega)]
      have q2 : ((y - b.b) * b.c + (x - b.a)) / b.c = y - b.b := by
        rw [Int.add_comm, Int.add_mul_ediv_right _ _ (by omega), Int.ediv_eq_zero_of_lt (by omega) (by omega)]
        omega
      rw [q1, q2]
      have r1 : b.a + (x - b.a) = x := by omega
      have r2 : b.b + (y - b.b) = y := by omega
      rw [r1, r2]
def due (x y : Box) : Bool := decide (0 < (((lawCells y).filter fun z => decide (z ∈ lawCells x)).map fun z => z).length)
theorem due_meet {x y : Box} (hx : Fine6 x) (hy : Fine6 y) : meet x y = due x y := by
  unfold due
  rw [List.length_map, Bool.eq_iff_iff, decide_eq_true_iff, List.length_pos_iff_exists_mem]
  constructor
  · intro h
    simp only [meet, Bool.and_eq_true, decide_eq_true_eq] at h
    obtain ⟨h1, h2, h3, h4⟩ := hx
    obtain ⟨k1, k2, k3, k4⟩ := hy
    refine ⟨(max x.a y.a, max x.b y.b), List.mem_filter.mpr ⟨(mem_cells ⟨k1, k2, k3, k4⟩ _).mpr ?_, decide_eq_true ((mem_cells ⟨h1, h2, h3, h4⟩ _).mpr ?_)⟩⟩ <;> simp only <;> omega
  · rintro ⟨z, hz⟩
    obtain ⟨m1, m2⟩ := List.mem_filter.mp hz
    have m1 := (mem_cells hy z).mp m1
    have m2 := (mem_cells hx z).mp (of_decide_eq_true m2)
    simp only [meet, Bool.and_eq_true, decide_eq_true_eq]
    omega

theorem lb_get {wd : Str} {x y n m : Int} {B : Dct Str Box} (h : wd ∈ six) (hB : B = Dct.mk (([("right", (⟨x + 1, y, n, 1⟩ : Box)), ("left", ⟨x - n, y, n, 1⟩), ("above", ⟨m, y - 1, n, 1⟩)] : List (Str × Box)).foldl (fun d q => aput d q.1 q.2) [])) (hm : m = x - (n - 1) / 2) :
    aget (aput (aput (aput B.l "below" (⟨m, y + 1, n, 1⟩ : Box)) "up" ⟨x, y - n, 1, n⟩) "down" ⟨x, y + 1, 1, n⟩) wd = some (boxAt wd x y n) := by
  rw [← law_box h]
  subst hB hm
  simp only [six, List.mem_cons, List.not_mem_nil, or_false] at h
  rcases h with rfl | rfl | rfl | rfl | rfl | rfl <;> rfl
theorem fine_in {b : Box} {W H : Int} (h : InS b W H) : Fine6 b := by unfold InS at h; unfold Fine6; omega
theorem cells_small {b : Box} (h : Fine6 b) : (lawCells b).length ≤ 16777216 := by
  have := area h
  unfold lawCells
  rw [List.length_map, rng_len]; omega
theorem cells_len {b : Box} (h : Fine6 b) : (lawCells b).length ≤ 10000 := by
  have := area h
  unfold lawCells
  rw [List.length_map, rng_len]; omega
def shf (L : List (Int × Int)) : List ((Int × Int) × Bool) := L.foldl (fun d z => aput d z true) []
theorem shf_snoc (L : List (Int × Int)) (z : Int × Int) : shf (L ++ [z]) = aput (shf L) z true := by unfold shf; rw [List.foldl_append]; rfl
theorem shf_len (L : List (Int × Int)) : (shf L).length ≤ L.length := by
  have key : ∀ (l : List (Int × Int)) (acc : List ((Int × Int) × Bool)), (l.foldl (fun d z => aput d z true) acc).length ≤ acc.length + l.length := by
    intro l
    induction l with
    | nil => intro acc; exact Nat.le_refl _
    | cons c r ih =>
      intro acc
      rw [List.foldl_cons, List.length_cons]
      have := ih (aput acc c true)
      have := aput_len acc c true
      omega
  have := key L []
  rw [List.length_nil, Nat.zero_add] at this
  exact this
theorem shf_mem (L : List (Int × Int)) (z : Int × Int) : (aget (shf L) z).isSome = true ↔ z ∈ L := by
  have key : ∀ (l : List (Int × Int)) (acc : List ((Int × Int) × Bool)), (aget (l.foldl (fun d z => aput d z true) acc) z).isSome = true ↔ (aget acc z).isSome = true ∨ z ∈ l := by
    intro l
    induction l with
    | nil => intro acc; simp
    | cons c r ih =>
      intro acc
      rw [List.foldl_cons, ih, aget_put, List.mem_cons]
      by_cases e : z = c
      · rw [if_pos e]; simp [e]
      · rw [if_neg e]; simp [e]
  have := key L []
  unfold shf
  rw [this]
  constructor
  · rintro (h | h)
    · cases h
    · exact h
  · exact .inr
def spots (pl : Plan) : List (Int × Int) := pl.c.l.flatMap lawCells ++ pl.d.l.map fun q => (q.b, q.c)
def shD (pl : Plan) : Dct (Int × Int) Bool := Dct.mk (shf (spots pl))
theorem flat_small {pl : Plan} (h : PlanOk pl) (i : Nat) : ((pl.c.l.take i).flatMap lawCells).length ≤ 630000 := by
  have := flat_le lawCells 10000 (pl.c.l.take i) fun b m => cells_len (fine_in (h.kp b (List.mem_of_mem_take m)))
  rw [List.length_take] at this
  have := h.kl
  omega
section
variable {pl : Plan} {i j : Nat} {F F2 : Dct (Int × Int) Bool}
theorem sh_len1 (h : PlanOk pl) {x : Box} (hx : pl.c.l[i]? = some x) (hF2 : F2.l = shf ((pl.c.l.take i).flatMap lawCells ++ (lawCells x).take j)) : F2.l.length < sizeLine := by
  rw [hF2, sizeLine_eq]
  have h1 := shf_len ((pl.c.l.take i).flatMap lawCells ++ (lawCells x).take j)
  rw [List.length_append, List.length_take] at h1
  have := flat_small h i
  have := cells_len (fine_in (h.kp x (List.mem_of_getElem? hx)))
  omega
theorem sh_len2 (h : PlanOk pl) {q : Pt} (hq : pl.d.l[i]? = some q) (hF2 : F2.l = shf (pl.c.l.flatMap lawCells ++ (pl.d.l.take i).map fun q => (q.b, q.c))) : F2.l.length < sizeLine := by
  rw [hF2, sizeLine_eq]
  have h1 := shf_len (pl.c.l.flatMap lawCells ++ (pl.d.l.take i).map fun q => (q.b, q.c))
  rw [List.length_append, List.length_map, List.length_take] at h1
  have h2 := flat_small h pl.c.l.length
  rw [List.take_length] at h2
  have := h.dl
  omega
theorem sh_put {x : Box} {y : Int × Int} (hy : (lawCells x)[j]? = some y) (hF2 : F2.l = shf ((pl.c.l.take i).flatMap lawCells ++ (lawCells x).take j)) : (Dct.mk (aput F2.l y true)).l = shf ((pl.c.l.take i).flatMap lawCells ++ (lawCells x).take (j + 1)) := by
  show aput F2.l y true = _
  rw [hF2, List.take_add_one, hy, ← List.append_assoc, ← shf_snoc]; rfl
theorem sh_put2 {q : Pt} (hq : pl.d.l[i]? = some q) (hF2 : F2.l = shf (pl.c.l.flatMap lawCells ++ (pl.d.l.take i).map fun q => (q.b, q.c))) : (Dct.mk (aput F2.l (q.b, q.c) true)).l = shf (pl.c.l.flatMap lawCells ++ (pl.d.l.take (i + 1)).map fun q => (q.b, q.c)) := by
  show aput F2.l _ true = _
  rw [hF2, map_take hq, ← List.append_assoc, ← shf_snoc]
theorem sh_is (hF : F.l = shf (pl.c.l.flatMap lawCells ++ (pl.d.l.take pl.d.l.length).map fun q => (q.b, q.c))) : F = shD pl := by
  rw [List.take_length] at hF
  obtain ⟨l⟩ := F
  exact congrArg Dct.mk hF
end
theorem placed_fine {pl : Plan} (h : PlanOk pl) {q : Pt} (m : q ∈ pl.d.l) (k : Int) : 1 ≤ (placedN q k).c ∧ 1 ≤ (placedN q k).d := placed_pos h m k
theorem fine_placed {pl : Plan} (h : PlanOk pl) {q : Pt} (m : q ∈ pl.d.l) (k : Int) : Fine6 (placedN q k) := by
  have hp := placed_pos h m k
  have hn := h.pt q m
  have hb : ∀ wd : Str, (boxAt wd q.b q.c (q.a.length : Nat)).c ≤ 8 ∧ (boxAt wd q.b q.c (q.a.length : Nat)).d ≤ 8 := fun wd => by
    unfold boxAt
    cases wayOf wd with
    | right => exact ⟨by show ((q.a.length : Nat) : Int) ≤ 8; omega, by show (1 : Int) ≤ 8; decide⟩
    | left => exact ⟨by show ((q.a.length : Nat) : Int) ≤ 8; omega, by show (1 : Int) ≤ 8; decide⟩
    | level s => exact ⟨by show ((q.a.length : Nat) : Int) ≤ 8; omega, by show (1 : Int) ≤ 8; decide⟩
    | upright e => cases e <;> exact ⟨by show (1 : Int) ≤ 8; decide, by show ((q.a.length : Nat) : Int) ≤ 8; omega⟩
  have := hb (q.e.l.getD k.toNat default).1
  exact ⟨hp.1, Int.le_trans this.1 (by decide), hp.2, Int.le_trans this.2 (by decide)⟩
theorem apart_cells {b o : Box} (hb : Fine6 b) (ho : Fine6 o) : lawApart b o = true ↔ ∀ z ∈ lawCells b, z ∉ lawCells o := by
  have e : lawApart b o = !meet b o := by
    unfold lawApart meet
    obtain ⟨h1, h2, h3, h4⟩ := hb
    obtain ⟨k1, k2, k3, k4⟩ := ho
    rw [Bool.eq_iff_iff]
    split
    · rename_i c
      simp only [Bool.or_eq_true, decide_eq_true_eq] at c
      simp only [Bool.not_eq_true', Bool.and_eq_false_iff, decide_eq_false_iff_not, true_iff]
      omega
    · rename_i c
      simp only [Bool.or_eq_true, decide_eq_true_eq] at c
      simp only [Bool.or_eq_true, decide_eq_true_eq, Bool.not_eq_true', Bool.and_eq_false_iff, decide_eq_false_iff_not]
      omega
  rw [e, due_meet hb ho]
  unfold due
  rw [Bool.not_eq_true', decide_eq_false_iff_not, List.length_map, List.length_pos_iff_exists_mem]
  constructor
  · intro q z hz hz2
    exact q ⟨z, List.mem_filter.mpr ⟨hz2, decide_eq_true hz⟩⟩
  · rintro q ⟨z, hz⟩
    obtain ⟨a1, a2⟩ := List.mem_filter.mp hz
    exact q z (of_decide_eq_true a2) a1
theorem open_iff {pl : Plan} (h : PlanOk pl) {b : Box} (hb : Fine6 b) : isOpenN pl b = true ↔ ∀ z ∈ lawCells b, z ∉ spots pl ∧ 0 ≤ z.1 ∧ z.1 < pl.a ∧ 0 ≤ z.2 ∧ z.2 < pl.b := by
  have hb2 := hb
  obtain ⟨b1, b2, b3, b4⟩ := hb2
  have fp : ∀ q ∈ pl.d.l, Fine6 (ptBox q) := fun q _ => ⟨by show (1 : Int) ≤ 1; decide, by show (1 : Int) ≤ 100; decide, by show (1 : Int) ≤ 1; decide, by show (1 : Int) ≤ 100; decide⟩
  have cp : ∀ q : Pt, ∀ z : Int × Int, q ∈ pl.d.l → (z ∈ lawCells (ptBox q) ↔ z = (q.b, q.c)) := fun q z m => by
    rw [mem_cells (fp q m)]
    obtain ⟨z1, z2⟩ := z
    unfold ptBox
    simp only [Prod.mk.injEq]
    omega
  rw [open_same h ⟨b1, b3⟩]
  unfold lawOpen
  constructor
  · intro q z hz
    split at q
    · rename_i c
      rw [List.all_eq_true] at q
      have hz' := (mem_cells hb z).mp hz
      unfold liesIn at c
      simp only [Bool.and_eq_true, decide_eq_true_eq] at c
      refine ⟨fun m => ?_, by omega, by omega, by omega, by omega⟩
      rcases List.mem_append.mp m with m | m
      · obtain ⟨o, ho, mo⟩ := List.mem_flatMap.mp m
        have := q _ (List.mem_map_of_mem (List.mem_append_left _ ho))
        exact (apart_cells hb (fine_in (h.kp o ho))).mp this z hz mo
      · obtain ⟨o, ho, rfl⟩ := List.mem_map.mp m
        have := q _ (List.mem_map_of_mem (List.mem_append_right _ (List.mem_map_of_mem ho)))
        exact (apart_cells hb (fp o ho)).mp this _ hz ((cp o _ ho).mpr rfl)
    · cases q
  · intro q
    have q1 := q (b.a, b.b) ((mem_cells hb _).mpr ⟨⟨Int.le_refl _, by simp only; omega⟩, Int.le_refl _, by simp only; omega⟩)
    have q2 := q (b.a + b.c - 1, b.b + b.d - 1) ((mem_cells hb _).mpr ⟨⟨by simp only; omega, by simp only; omega⟩, by simp only; omega, by simp only; omega⟩)
    simp only at q1 q2
    rw [if_pos (by unfold liesIn; simp only [Bool.and_eq_true, decide_eq_true_eq]; omega), List.all_eq_true]
    intro v hv
    obtain ⟨o, ho, rfl⟩ := List.mem_map.mp hv
    show lawApart b o = true
    rcases List.mem_append.mp ho with ho | ho
    · exact (apart_cells hb (fine_in (h.kp o ho))).mpr fun z hz mo => (q z hz).1 (List.mem_append_left _ (List.mem_flatMap.mpr ⟨o, ho, mo⟩))
    · obtain ⟨p, hp, rfl⟩ := List.mem_map.mp ho
      exact (apart_cells hb (fp p hp)).mpr fun z hz mo => (q z hz).1 (List.mem_append_right _ (List.mem_map.mpr ⟨p, hp, ((cp p z hp).mp mo).symm⟩))
def ocOf (pl : Plan) (q : Pt) : List ((Str × Int) × List (Int × Int)) := (obOf pl q).map fun z => (z.1, lawCells z.2)
def ocD (pl : Plan) : Dct (Str × Int) (List (Int × Int)) := Dct.mk (pl.d.l.flatMap (ocOf pl))
theorem oc_map (pl : Plan) : (ocD pl).l = (obN pl).l.map fun z => (z.1, lawCells z.2) := by
  show pl.d.l.flatMap (ocOf pl) = (pl.d.l.flatMap (obOf pl)).map _
  rw [List.map_flatMap]; rfl
theorem oc_of {pl : Plan} (h : PlanOk pl) {q : Pt} (m : q ∈ pl.d.l) : ocOf pl q = ((rng 0 (q.e.l.length : Int).toNat).filter fun k => isOpenN pl (placedN q k)).map fun k => ((q.a, k), lawCells (placedN q k)) := by
  unfold ocOf obOf
  rw [open_ks h m, point_of_mem h m, List.map_map]
  rfl
section
variable {pl : Plan} {i j : Nat} {q : Pt} {k : Int} {F F2 : Dct (Str × Int) (List (Int × Int))} (h : PlanOk pl) (hq : pl.d.l[i]? = some q)
include h hq
theorem oc_next (hF : F.l = (pl.d.l.take i).flatMap (ocOf pl)) (hF2 : F2.l = F.l ++ (((rng 0 (q.e.l.length : Int).toNat).take (rng 0 (q.e.l.length : Int).toNat).length).filter fun k => isOpenN pl (placedN q k)).map fun k => ((q.a, k), lawCells (placedN q k))) : F2.l = (pl.d.l.take (i + 1)).flatMap (ocOf pl) := by
  rw [hF2, hF, flat_take hq, List.take_length, oc_of h (List.mem_of_getElem? hq)]
theorem oc_len (hF2 : F2.l = F.l ++ (((rng 0 (q.e.l.length : Int).toNat).take j).filter fun k => isOpenN pl (placedN q k)).map fun k => ((q.a, k), lawCells (placedN q k))) (hF : F.l = (pl.d.l.take i).flatMap (ocOf pl)) (hk : (rng 0 (q.e.l.length : Int).toNat)[j]? = some k) : F2.l.length < sizeLine := by
  have h1 := flat_le (ocOf pl) 6 (pl.d.l.take i) fun p m => by unfold ocOf; rw [List.length_map]; exact obOf_len h (List.mem_of_mem_take m)
  rw [List.length_take] at h1
  have h2 := List.length_filter_le (fun k => isOpenN pl (placedN q k)) ((rng 0 (q.e.l.length : Int).toNat).take j)
  rw [List.length_take, rng_len] at h2
  have := h.dl
  have := (h.pl q (List.mem_of_getElem? hq)).2
  rw [hF2, hF, List.length_append, List.length_map, sizeLine_eq]
  omega
theorem oc_put (hF : F.l = (pl.d.l.take i).flatMap (ocOf pl)) (hk : (rng 0 (q.e.l.length : Int).toNat)[j]? = some k) (hF2 : F2.l = F.l ++ (((rng 0 (q.e.l.length : Int).toNat).take j).filter fun k => isOpenN pl (placedN q k)).map fun k => ((q.a, k), lawCells (placedN q k))) {cs : List (Int × Int)} (hc : cs = lawCells (placedN q k)) (ho : isOpenN pl (placedN q k) = true) :
    (Dct.mk (aput F2.l (q.a, k) cs)).l = F.l ++ (((rng 0 (q.e.l.length : Int).toNat).take (j + 1)).filter fun k => isOpenN pl (placedN q k)).map fun k => ((q.a, k), lawCells (placedN q k)) := by
  have hn : aget F2.l (q.a, k) = none := by
    cases e : aget F2.l (q.a, k) with
    | none => rfl
    | some v =>
      have m := aget_keys.mp (show (aget F2.l (q.a, k)).isSome = true by rw [e]; rfl)
      rw [hF2, List.map_append, List.mem_append] at m
      rcases m with m | m
      · rw [hF] at m
        obtain ⟨p, hp, e1⟩ := List.mem_map.mp m
        obtain ⟨r, hr, hp⟩ := List.mem_flatMap.mp hp
        obtain ⟨z, hz, rfl⟩ := List.mem_map.mp hp
        obtain ⟨c, hc, rfl⟩ := List.mem_map.mp hz
        have e2 : r.a = q.a := congrArg Prod.fst e1
        have m1 : r.a ∈ (pl.d.l.map fun q => q.a).take i := by rw [← List.map_take]; exact List.mem_map_of_mem hr
        exact absurd (e2 ▸ m1) (nodup_take_not h.nm (by rw [List.getElem?_map, hq]; rfl))
      · rw [List.map_map] at m
        obtain ⟨c, hc, e1⟩ := List.mem_map.mp m
        have e2 : c = k := congrArg Prod.snd e1
        exact absurd (e2 ▸ (List.mem_filter.mp hc).1) (nodup_take_not (rng_nodup _ _) hk)
  show aput F2.l _ _ = _
  rw [aput_new _ hn, hF2, List.append_assoc, filter_take hk, if_pos ho, List.map_append, hc]; rfl
omit h hq in
theorem oc_stay (hk : (rng 0 (q.e.l.length : Int).toNat)[j]? = some k) (hF2 : F2.l = F.l ++ (((rng 0 (q.e.l.length : Int).toNat).take j).filter fun k => isOpenN pl (placedN q k)).map fun k => ((q.a, k), lawCells (placedN q k))) (ho : isOpenN pl (placedN q k) = false) :
    F2.l = F.l ++ (((rng 0 (q.e.l.length : Int).toNat).take (j + 1)).filter fun k => isOpenN pl (placedN q k)).map fun k => ((q.a, k), lawCells (placedN q k)) := by
  rw [filter_take hk, if_neg (by rw [ho]; exact Bool.false_ne_true), List.append_nil]; exact hF2
end
theorem oc_is {pl : Plan} {F : Dct (Str × Int) (List (Int × Int))} (hF : F.l = (pl.d.l.take pl.d.l.length).flatMap (ocOf pl)) : F = ocD pl := by
  rw [List.take_length] at hF
  obtain ⟨l⟩ := F
  exact congrArg Dct.mk hF
theorem filter_all {α : Type} (f : α → Bool) (l : List α) : ((l.filter f).length = l.length) ↔ ∀ z ∈ l, f z = true := by
  rw [List.length_filter_eq_length_iff]
section
variable {pl : Plan} {q : Pt} {k : Int} (h : PlanOk pl) (m : q ∈ pl.d.l) {cs gd : List (Int × Int)} {sd : Dct (Int × Int) Bool} (hc : cs = lawCells (placedN q k))
  (hg : gd = List.map (fun x => x) (List.filter (fun x => !(aget sd.l x).isSome && ((decide (0 ≤ x.1) && decide (x.1 < pl.a)) && (decide (0 ≤ x.2) && decide (x.2 < pl.b)))) cs)) (hs : sd = shD pl)
include h m hc hg hs
theorem good_iff : gd.length = cs.length ↔ isOpenN pl (placedN q k) = true := by
  subst hc hg hs
  rw [List.length_map, filter_all, open_iff h (fine_placed h m k)]
  refine forall_congr' fun z => forall_congr' fun _ => ?_
  have e : (aget (shD pl).l z).isSome = true ↔ z ∈ spots pl := shf_mem _ _
  rw [Bool.and_eq_true, Bool.not_eq_true', Bool.and_eq_true, Bool.and_eq_true, Bool.and_eq_true, decide_eq_true_iff, decide_eq_true_iff, decide_eq_true_iff, decide_eq_true_iff, ← Bool.not_eq_true, e]
  constructor
  · rintro ⟨a, ⟨b, c⟩, d, e⟩; exact ⟨a, b, c, d, e⟩
  · rintro ⟨a, b, c, d, e⟩; exact ⟨a, ⟨b, c⟩, d, e⟩
theorem good_yes (c0 : decide (((gd.length : Nat) : Int) = ((cs.length : Nat) : Int)) = true) : isOpenN pl (placedN q k) = true := (good_iff h m hc hg hs).mp (by have := of_decide_eq_true c0; omega)
theorem good_no (c0 : decide (((gd.length : Nat) : Int) = ((cs.length : Nat) : Int)) = false) : isOpenN pl (placedN q k) = false := by
  have := of_decide_eq_false c0
  rw [Bool.eq_false_iff]
  exact fun z => this (by rw [(good_iff h m hc hg hs).mpr z])
end
def comN {α : Type} [DecidableEq α] (a b : List α) : List α := List.map (fun x => x) (List.filter (fun x => decide (x ∈ a)) b)
def dueC (O : Dct (Str × Int) (List (Int × Int))) (r o : Str × Int) : Bool := !decide (o.1 = r.1) && !decide (comN ((aget O.l r).getD default) ((aget O.l o).getD default) = [])
def dueR (O : Dct (Str × Int) (List (Int × Int))) (r : Str × Int) : List (Str × Int) := if (!(aget O.l r).isSome) = true then [(r.1, 1 - r.2)] else srt (((O.l.map (·.1)).filter (dueC O r)).map fun o => (o.1, 1 - o.2))
section
variable {O : Dct (Str × Int) (List (Int × Int))} {r o : Str × Int} {cm : List (Int × Int)}
theorem due_small (h : ∀ z ∈ O.l, z.2.length ≤ 10000) (ho : o ∈ O.l.map (·.1)) : ((aget O.l o).getD default).length ≤ 16777216 := by
  cases e : aget O.l o with
  | none => exact Nat.zero_le _
  | some v => have := h _ (aget_mem e); show v.length ≤ _; simp only at this; omega
theorem due_yes (c1 : ¬ o.1 = r.1) (hc : cm = comN ((aget O.l r).getD default) ((aget O.l o).getD default)) (c2 : ¬ cm = []) : dueC O r o = true := by
  unfold dueC
  rw [← hc, decide_eq_false c1, decide_eq_false c2]; rfl
theorem due_no2 (hc : cm = comN ((aget O.l r).getD default) ((aget O.l o).getD default)) (c2 : cm = []) : ¬ dueC O r o = true := by
  unfold dueC
  rw [← hc, decide_eq_true c2]; simp
theorem due_no1 (c1 : o.1 = r.1) : ¬ dueC O r o = true := by
  unfold dueC
  rw [decide_eq_true c1]; simp
end
theorem aget_mapv {κ α β : Type} [DecidableEq κ] (f : α → β) : ∀ (l : List (κ × α)) (k : κ), aget (l.map fun z => (z.1, f z.2)) k = (aget l k).map f
  | [], _ => rfl
  | p :: r, k => by
    rw [List.map_cons, aget_cons, aget_cons, aget_mapv f r k]
    split <;> rfl
theorem ob_fine {pl : Plan} (h : PlanOk pl) {o : Str × Int} (m : (aget (obN pl).l o).isSome = true) : Fine6 ((aget (obN pl).l o).getD default) := by
  cases e : aget (obN pl).l o with
  | none => rw [e] at m; cases m
  | some b =>
    have := aget_mem e
    obtain ⟨q, hq, hp⟩ := List.mem_flatMap.mp (show (o, b) ∈ pl.d.l.flatMap (obOf pl) from this)
    obtain ⟨k, hk, e2⟩ := List.mem_map.mp hp
    have e3 : b = placedN ((pointOf pl q.a).getD default) k := (congrArg Prod.snd e2).symm
    rw [point_of_mem h hq] at e3
    show Fine6 b
    rw [e3]; exact fine_placed h hq k
theorem oc_small {pl : Plan} (h : PlanOk pl) : (ocD pl).l.length ≤ 400 ∧ ∀ z ∈ (ocD pl).l, z.2.length ≤ 10000 := by
  rw [oc_map]
  refine ⟨by rw [List.length_map]; exact obN_len h, fun z m => ?_⟩
  obtain ⟨w, hw, rfl⟩ := List.mem_map.mp m
  obtain ⟨q, hq, hp⟩ := List.mem_flatMap.mp (show w ∈ pl.d.l.flatMap (obOf pl) from hw)
  obtain ⟨k, hk, rfl⟩ := List.mem_map.mp hp
  rw [point_of_mem h hq]
  exact cells_len (fine_placed h hq k)
theorem fol_due {pl : Plan} (h : PlanOk pl) (r : Str × Int) : srt (folN (obN pl) r) = dueR (ocD pl) r := by
  unfold folN dueR
  rw [oc_map, aget_mapv, Option.isSome_map, List.map_map]
  have hk : List.map ((fun x : (Str × Int) × List (Int × Int) => x.1) ∘ fun z : (Str × Int) × Box => (z.1, lawCells z.2)) (obN pl).l = (obN pl).l.map (·.1) := rfl
  rw [hk]
  split
  · exact List.mergeSort_singleton _
  · rename_i c
    have c : (aget (obN pl).l r).isSome = true := by cases hh : (aget (obN pl).l r).isSome with | true => rfl | false => exact absurd (by rw [hh]; rfl) c
    congr 2
    refine List.filter_congr fun o ho => ?_
    have ho := aget_keys.mpr ho
    unfold folC dueC
    rw [oc_map, aget_mapv, aget_mapv]
    congr 1
    rw [due_meet (ob_fine h c) (ob_fine h ho)]
    cases e1 : aget (obN pl).l r with
    | none => rw [e1] at c; cases c
    | some a =>
      cases e2 : aget (obN pl).l o with
      | none => rw [e2] at ho; cases ho
      | some b =>
        show due a b = !decide (comN (lawCells a) (lawCells b) = [])
        have e : comN (lawCells a) (lawCells b) = ((lawCells b).filter fun z => decide (z ∈ lawCells a)).map fun z => z := by
          unfold comN
          refine congrArg _ (List.filter_congr fun z _ => ?_)
          by_cases hz : z ∈ lawCells a <;> simp [hz]
        rw [e]
        unfold due
        rw [Bool.eq_iff_iff, decide_eq_true_iff, Bool.not_eq_true', decide_eq_false_iff_not, List.length_pos_iff]
theorem fol_len {pl : Plan} (h : PlanOk pl) (r : Str × Int) : (folN (obN pl) r).length ≤ 400 := by
  unfold folN
  split
  · show 1 ≤ 400; decide
  · rw [List.length_map]
    have := List.length_filter_le (folC (obN pl) r) ((obN pl).l.map (·.1))
    rw [List.length_map] at this
    have := obN_len h
    omega

/-! #### the table -/
def tbOf (pl : Plan) (q : Pt) : List ((Str × Int) × List (Str × Int)) := (rng 0 (2 : Int).toNat).map fun k => ((q.a, k), folN (obN pl) (q.a, k))
def tableN (pl : Plan) : Dct (Str × Int) (List (Str × Int)) := Dct.mk (pl.d.l.flatMap (tbOf pl))
section
variable {pl : Plan} {i j : Nat} {x : Pt} {y : Int} {F F2 : Dct (Str × Int) (List (Str × Int))}
theorem tb_len (h : PlanOk pl) (hx : pl.d.l[i]? = some x) (hF : F.l = (pl.d.l.take i).flatMap (tbOf pl)) (hF2 : F2.l = F.l ++ ((rng 0 (2 : Int).toNat).take j).map fun k => ((x.a, k), folN (obN pl) (x.a, k))) (hy : (rng 0 (2 : Int).toNat)[j]? = some y) : F2.l.length < sizeLine := by
  have h1 := flat_le (tbOf pl) 2 (pl.d.l.take i) fun q _ => by unfold tbOf; rw [List.length_map, rng_len]; exact Nat.le_refl _
  rw [List.length_take] at h1
  have := h.dl
  have h2 : ((rng 0 (2 : Int).toNat).take j).length ≤ 2 := by rw [List.length_take, rng_len]; exact Nat.min_le_right _ _
  rw [hF2, hF, List.length_append, List.length_map, sizeLine_eq]
  omega
theorem tb_put (h : PlanOk pl) (hx : pl.d.l[i]? = some x) (hF : F.l = (pl.d.l.take i).flatMap (tbOf pl)) (hy : (rng 0 (2 : Int).toNat)[j]? = some y) (h2 : F2.l = F.l ++ ((rng 0 (2 : Int).toNat).take j).map fun k => ((x.a, k), folN (obN pl) (x.a, k))) :
    (Dct.mk (aput F2.l (x.a, y) (folN (obN pl) (x.a, y)))).l = F.l ++ ((rng 0 (2 : Int).toNat).take (j + 1)).map fun k => ((x.a, k), folN (obN pl) (x.a, k)) := by
  have hn : aget F2.l (x.a, y) = none := by
    cases e : aget F2.l (x.a, y) with
    | none => rfl
    | some v =>
      have m := aget_keys.mp (show (aget F2.l (x.a, y)).isSome = true by rw [e]; rfl)
      rw [h2, List.map_append, List.mem_append] at m
      rcases m with m | m
      · rw [hF] at m
        obtain ⟨p, hp, e1⟩ := List.mem_map.mp m
        obtain ⟨q, hq, hp⟩ := List.mem_flatMap.mp hp
        obtain ⟨k, hk, rfl⟩ := List.mem_map.mp hp
        have e2 : q.a = x.a := congrArg Prod.fst e1
        have m1 : q.a ∈ (pl.d.l.map fun q => q.a).take i := by rw [← List.map_take]; exact List.mem_map_of_mem hq
        exact absurd (e2 ▸ m1) (nodup_take_not h.nm (by rw [List.getElem?_map, hx]; rfl))
      · rw [List.map_map] at m
        obtain ⟨k, hk, e1⟩ := List.mem_map.mp m
        have e2 : k = y := congrArg Prod.snd e1
        exact absurd (e2 ▸ hk) (nodup_take_not (rng_nodup _ _) hy)
  show aput F2.l _ _ = _
  rw [aput_new _ hn, h2, List.append_assoc, map_take hy]
theorem tb_is (hF : F.l = (pl.d.l.take pl.d.l.length).flatMap (tbOf pl)) : F = tableN pl := by
  rw [List.take_length] at hF
  obtain ⟨l⟩ := F
  exact congrArg Dct.mk hF
end
/-! #### all that is come to -/
def cmStep (u : Str × Int) (C : List ((Str × Int) × Option (Str × Int))) (r : Str × Int) : List ((Str × Int) × Option (Str × Int)) := if (aget C r).isSome = true then C else C ++ [(r, some u)]
def cmTurn (T : Dct (Str × Int) (List (Str × Int))) (n : Nat) (C : List ((Str × Int) × Option (Str × Int))) : List ((Str × Int) × Option (Str × Int)) := match C[n]? with
  | none => C
  | some e => ((aget T.l e.1).getD default).foldl (cmStep e.1) C
def cmS (T : Dct (Str × Int) (List (Str × Int))) (b : Str × Int) : Nat → List ((Str × Int) × Option (Str × Int))
  | 0 => [(b, none)]
  | n + 1 => cmTurn T n (cmS T b n)
@[irreducible] def fuel : Nat := 200
theorem fuel_is : fuel = 200 := by unfold fuel; rfl
def comeN (T : Dct (Str × Int) (List (Str × Int))) (b : Str × Int) : Dct (Str × Int) (Option (Str × Int)) := Dct.mk (cmS T b fuel)
structure TabOk (T : Dct (Str × Int) (List (Str × Int))) : Prop where
  len : T.l.length ≤ 190
  has : ∀ k v, aget T.l k = some v → ∀ u ∈ v, (aget T.l u).isSome = true
structure CmOk (T : Dct (Str × Int) (List (Str × Int))) (b : Str × Int) (C : List ((Str × Int) × Option (Str × Int))) : Prop where
  hd : C[0]? = some (b, none)
  nd : (C.map (·.1)).Nodup
  sub : ∀ r ∈ C.map (·.1), (aget T.l r).isSome = true
  pred : ∀ (i : Nat) (e : (Str × Int) × Option (Str × Int)), C[i]? = some e → i ≠ 0 → ∃ w, e.2 = some w ∧ w ∈ (C.take i).map (·.1) ∧ e.1 ∈ (aget T.l w).getD default
theorem cm_step {T : Dct (Str × Int) (List (Str × Int))} {b u r : Str × Int} {C : List ((Str × Int) × Option (Str × Int))} (t : TabOk T) (h : CmOk T b C) (hu : u ∈ C.map (·.1)) (hr : r ∈ (aget T.l u).getD default) : CmOk T b (cmStep u C r) := by
  unfold cmStep
  split
  · exact h
  · rename_i c
    have hn : r ∉ C.map (·.1) := fun m => c (aget_keys.mpr m)
    have hp : 0 < C.length := lt_of_get h.hd
    refine ⟨by rw [List.getElem?_append_left hp]; exact h.hd, ?_, fun x m => ?_, fun i e hi h0 => ?_⟩
    · rw [List.map_append]
      refine List.nodup_append.mpr ⟨h.nd, by simp, fun a ha b hb e => ?_⟩
      have : b = r := by simpa using hb
      exact hn (by rw [← this, ← e]; exact ha)
    · rw [List.map_append] at m
      rcases List.mem_append.mp m with m | m
      · exact h.sub x m
      · have e : x = r := by simpa using m
        subst e
        cases e2 : aget T.l u with
        | none => rw [e2] at hr; cases hr
        | some v => rw [e2] at hr; exact t.has u v e2 x hr
    · rcases Nat.lt_or_ge i C.length with lt | ge
      · rw [List.getElem?_append_left lt] at hi
        obtain ⟨w, e1, e2, e3⟩ := h.pred i e hi h0
        exact ⟨w, e1, by rw [List.take_append_of_le_length (Nat.le_of_lt lt)]; exact e2, e3⟩
      · have hl := lt_of_get hi
        rw [List.length_append] at hl
        have hl : i = C.length := by simp at hl; omega
        subst hl
        rw [List.getElem?_append_right (Nat.le_refl _), Nat.sub_self] at hi
        have : e = (r, some u) := by simpa using hi.symm
        subst this
        exact ⟨u, rfl, by rw [List.take_append_of_le_length (Nat.le_refl _), List.take_length]; exact hu, hr⟩
theorem cm_mono {u r : Str × Int} {C : List ((Str × Int) × Option (Str × Int))} : ∃ D, cmStep u C r = C ++ D := by
  unfold cmStep
  split
  · exact ⟨[], (List.append_nil _).symm⟩
  · exact ⟨_, rfl⟩
theorem cm_fold {u : Str × Int} : ∀ (rs : List (Str × Int)) (C : List ((Str × Int) × Option (Str × Int))), ∃ D, rs.foldl (cmStep u) C = C ++ D
  | [], C => ⟨[], (List.append_nil _).symm⟩
  | r :: t, C => by
    obtain ⟨D, e⟩ := cm_mono (u := u) (r := r) (C := C)
    obtain ⟨E, e2⟩ := cm_fold (u := u) t (cmStep u C r)
    exact ⟨D ++ E, by rw [List.foldl_cons, e2, e, List.append_assoc]⟩
theorem cm_folds {T : Dct (Str × Int) (List (Str × Int))} {b u : Str × Int} (t : TabOk T) : ∀ (rs : List (Str × Int)) (C : List ((Str × Int) × Option (Str × Int))), CmOk T b C → u ∈ C.map (·.1) → (∀ r ∈ rs, r ∈ (aget T.l u).getD default) → CmOk T b (rs.foldl (cmStep u) C)
  | [], C, h, _, _ => h
  | r :: s, C, h, hu, hr => by
    rw [List.foldl_cons]
    refine cm_folds t s _ (cm_step t h hu (hr r List.mem_cons_self)) ?_ fun x m => hr x (List.mem_cons_of_mem _ m)
    obtain ⟨D, e⟩ := cm_mono (u := u) (r := r) (C := C)
    rw [e, List.map_append]
    exact List.mem_append_left _ hu
theorem cm_ok {T : Dct (Str × Int) (List (Str × Int))} {b : Str × Int} (t : TabOk T) (hb : (aget T.l b).isSome = true) : ∀ n, CmOk T b (cmS T b n)
  | 0 => ⟨rfl, by show [b].Nodup; simp, fun r m => by have : r = b := by simpa [cmS] using m
                                                      rw [this]; exact hb, fun i e hi h0 => by
    have := lt_of_get hi
    have : i = 0 := by simp [cmS] at this; exact this
    exact absurd this h0⟩
  | n + 1 => by
    have ih := cm_ok t hb n
    rw [cmS]
    unfold cmTurn
    split
    · exact ih
    · rename_i e he
      exact cm_folds t _ _ ih (List.mem_map_of_mem (List.mem_of_getElem? he)) fun r m => m
theorem CmOk.len {T : Dct (Str × Int) (List (Str × Int))} {b : Str × Int} {C : List ((Str × Int) × Option (Str × Int))} (t : TabOk T) (h : CmOk T b C) : C.length ≤ 190 := by
  have h1 : (C.map (·.1)).length ≤ (T.l.map (·.1)).length := h.nd.length_le_of_subset fun r m => aget_keys.mp (h.sub r m)
  rw [List.length_map, List.length_map] at h1
  exact Nat.le_trans h1 t.len
section
variable {T : Dct (Str × Int) (List (Str × Int))} {b x : Str × Int} {n i : Nat} {C C2 : Dct (Str × Int) (Option (Str × Int))} {L L2 : List (Str × Int)} {A A2 : Int} (hp : TabOk T ∧ (aget T.l b).isSome = true)
theorem cm_at0 (hL : L = C.l.map (·.1)) (hA : A = ((n : Nat) : Int)) (hn : n < L.length) : atI L A = some (L.getD A.toNat default) := atI_getD (by omega) (by omega)
theorem cm_grow {xs : List (Str × Int)} (hL : L = C.l.map (·.1)) (hL2 : L2 = C2.l.map (·.1)) {u : Str × Int} (hC2 : C2.l = xs.foldl (cmStep u) C.l) : ∃ D, L2 = L ++ D := by
  obtain ⟨D, e⟩ := cm_fold (u := u) xs C.l
  exact ⟨D.map (·.1), by rw [hL2, hC2, e, List.map_append, hL]⟩
theorem cm_same {xs : List (Str × Int)} (hL : L = C.l.map (·.1)) (hL2 : L2 = C2.l.map (·.1)) {u : Str × Int} (hC2 : C2.l = xs.foldl (cmStep u) C.l) (hA : A = ((n : Nat) : Int)) (hn : n < L.length) : L2.getD A.toNat default = L.getD A.toNat default ∧ n < L2.length := by
  obtain ⟨D, e⟩ := cm_grow hL hL2 hC2
  have ha : A.toNat = n := by omega
  rw [e, ha, List.getD_eq_getElem?_getD, List.getElem?_append_left hn, ← List.getD_eq_getElem?_getD, List.length_append]
  exact ⟨rfl, by omega⟩
theorem cm_at {xs : List (Str × Int)} (hL : L = C.l.map (·.1)) (hL2 : L2 = C2.l.map (·.1)) {u : Str × Int} (hC2 : C2.l = xs.foldl (cmStep u) C.l) (hA : A = ((n : Nat) : Int)) (hn : n < L.length) : atI L2 A = some (L2.getD A.toNat default) :=
  atI_getD (by omega) (by have := (cm_same hL hL2 hC2 hA hn).2; omega)
theorem cm_get (hL : L = C.l.map (·.1)) (hA : A = ((n : Nat) : Int)) (hn : n < L.length) : ∃ e, C.l[n]? = some e ∧ L.getD A.toNat default = e.1 := by
  have ha : A.toNat = n := by omega
  have hn2 : n < C.l.length := by rw [hL, List.length_map] at hn; exact hn
  refine ⟨C.l[n], List.getElem?_eq_getElem hn2, ?_⟩
  rw [ha, hL, List.getD_eq_getElem?_getD, List.getElem?_map, List.getElem?_eq_getElem hn2]; rfl
include hp
theorem cm_key (hC : C.l = cmS T b n) (hL : L = C.l.map (·.1)) (hA : A = ((n : Nat) : Int)) (hn : n < L.length) : (aget T.l (L.getD A.toNat default)).isSome = true := by
  obtain ⟨e, he, e2⟩ := cm_get hL hA hn
  rw [e2]
  refine (cm_ok hp.1 hp.2 n).sub _ ?_
  rw [← hC]
  exact List.mem_map_of_mem (List.mem_of_getElem? he)
theorem cm_part (hC : C.l = cmS T b n) (hL : L = C.l.map (·.1)) (hA : A = ((n : Nat) : Int)) (hn : n < L.length) (hC2 : C2.l = (((aget T.l (L.getD A.toNat default)).getD default).take i).foldl (cmStep (L.getD A.toNat default)) C.l) : CmOk T b C2.l := by
  obtain ⟨e, he, e2⟩ := cm_get hL hA hn
  rw [hC2]
  refine cm_folds hp.1 _ _ (by rw [hC]; exact cm_ok hp.1 hp.2 n) ?_ fun r m => List.mem_of_mem_take m
  rw [e2]
  exact List.mem_map_of_mem (List.mem_of_getElem? he)
theorem cm_small (hC : C.l = cmS T b n) (hL : L = C.l.map (·.1)) (hA : A = ((n : Nat) : Int)) (hn : n < L.length) (hC2 : C2.l = (((aget T.l (L.getD A.toNat default)).getD default).take i).foldl (cmStep (L.getD A.toNat default)) C.l) : C2.l.length ≤ 190 := (cm_part hp hC hL hA hn hC2).len hp.1
theorem cm_bound (hC : C.l = cmS T b n) (hL : L = C.l.map (·.1)) (hn : n < L.length) : n < 190 := by
  have := (cm_ok hp.1 hp.2 n).len hp.1
  rw [hL, List.length_map, hC] at hn
  omega
theorem cm_next (hC : C.l = cmS T b n) (hL : L = C.l.map (·.1)) (hA : A = ((n : Nat) : Int)) (hn : n < L.length) (hC2 : C2.l = (((aget T.l (L.getD A.toNat default)).getD default).take ((aget T.l (L.getD A.toNat default)).getD default).length).foldl (cmStep (L.getD A.toNat default)) C.l) (hL2 : L2 = C2.l.map (·.1)) (hA2 : A2 = A + 1) :
    C2.l = cmS T b (n + 1) ∧ L2 = C2.l.map (·.1) ∧ A2 = ((n + 1 : Nat) : Int) ∧ n + 1 ≤ fuel ∧ fuel - (n + 1) = fuel - (n + 1) := by
  have hb := cm_bound hp hC hL hn
  have hf := fuel_is
  obtain ⟨e, he, e2⟩ := cm_get hL hA hn
  refine ⟨?_, hL2, by omega, by omega, rfl⟩
  rw [List.take_length, e2] at hC2
  rw [cmS]
  unfold cmTurn
  rw [← hC, he]
  exact hC2
omit hp in
theorem cm_put {xs : List (Str × Int)} (hL : L = C.l.map (·.1)) (hL2 : L2 = C2.l.map (·.1)) (hC2 : C2.l = (xs.take i).foldl (cmStep (L.getD A.toNat default)) C.l) (hA : A = ((n : Nat) : Int)) (hn : n < L.length) (hx : xs[i]? = some x) (c : (!(aget C2.l x).isSome) = true) :
    (Dct.mk (aput C2.l x (some (L2.getD A.toNat default)))).l = (xs.take (i + 1)).foldl (cmStep (L.getD A.toNat default)) C.l ∧ L2 ++ [x] = (Dct.mk (aput C2.l x (some (L2.getD A.toNat default)))).l.map (·.1) := by
  have hn2 : aget C2.l x = none := by
    cases e : aget C2.l x with
    | none => rfl
    | some v => rw [e] at c; cases c
  have e1 := (cm_same hL hL2 hC2 hA hn).1
  show aput C2.l x _ = _ ∧ _ = (aput C2.l x _).map (·.1)
  rw [aput_new _ hn2, e1]
  refine ⟨?_, by rw [List.map_append, hL2]; rfl⟩
  rw [fold_take hx, ← hC2]
  unfold cmStep
  rw [if_neg (by rw [hn2]; exact Bool.false_ne_true)]
omit hp in
theorem cm_stay {xs : List (Str × Int)} {u : Str × Int} (hL2 : L2 = C2.l.map (·.1)) (hC2 : C2.l = (xs.take i).foldl (cmStep u) C.l) (hx : xs[i]? = some x) (c : (!(aget C2.l x).isSome) = false) :
    C2.l = (xs.take (i + 1)).foldl (cmStep u) C.l ∧ L2 = C2.l.map (·.1) := by
  refine ⟨?_, hL2⟩
  rw [fold_take hx, ← hC2]
  unfold cmStep
  rw [if_pos (by simpa using c)]
omit hp in
theorem cm_stable {m : Nat} (h : (cmS T b n).length ≤ n) : cmS T b (n + m) = cmS T b n := by
  induction m with
  | zero => rfl
  | succ m ih =>
    rw [← Nat.add_assoc, cmS, ih]
    unfold cmTurn
    rw [List.getElem?_eq_none (by omega)]
omit hp in
theorem cm_is (hC : C.l = cmS T b n) (hL : L = C.l.map (·.1)) (hn : ¬ n < L.length) (hn2 : n ≤ fuel) : C = comeN T b := by
  have e : cmS T b fuel = cmS T b n := by
    rw [hL, List.length_map, hC] at hn
    have := cm_stable (T := T) (b := b) (m := fuel - n) (n := n) (by omega)
    rw [show n + (fuel - n) = fuel by omega] at this
    exact this
  obtain ⟨l⟩ := C
  unfold comeN
  rw [e]
  exact congrArg Dct.mk hC
end
/-! the way that was gone -/
structure PredOk (C : Dct (Str × Int) (Option (Str × Int))) : Prop where
  len : C.l.length ≤ 200
  nd : (C.l.map (·.1)).Nodup
  pr : ∀ (i : Nat) (e : (Str × Int) × Option (Str × Int)) (w : Str × Int), C.l[i]? = some e → e.2 = some w → w ∈ (C.l.take i).map (·.1)
def trF (C : Dct (Str × Int) (Option (Str × Int))) : Nat → Option (Str × Int) → List (Str × Int)
  | 0, _ => []
  | _ + 1, none => []
  | n + 1, some r => r :: trF C n ((aget C.l r).getD default)
def traceN (C : Dct (Str × Int) (Option (Str × Int))) (r : Option (Str × Int)) : List (Str × Int) := (trF C fuel r).reverse
theorem tr_none (C : Dct (Str × Int) (Option (Str × Int))) : ∀ n, trF C n none = []
  | 0 => rfl
  | _ + 1 => rfl
theorem tr_le (C : Dct (Str × Int) (Option (Str × Int))) : ∀ n r, (trF C n r).length ≤ n
  | 0, _ => Nat.le_refl _
  | _ + 1, none => Nat.zero_le _
  | n + 1, some r => Nat.succ_le_succ (tr_le C n _)
theorem trace_le (C : Dct (Str × Int) (Option (Str × Int))) (r : Option (Str × Int)) : (traceN C r).length ≤ 200 := by
  unfold traceN
  rw [List.length_reverse, ← fuel_is]; exact tr_le C fuel r
theorem aget_at {κ α : Type} [DecidableEq κ] : ∀ {l : List (κ × α)} {i : Nat} {e : κ × α}, (l.map (·.1)).Nodup → l[i]? = some e → aget l e.1 = some e.2
  | [], i, e, _, h => by simp at h
  | p :: r, 0, e, _, h => by
    have : p = e := by simpa using h
    subst this
    rw [aget_cons, if_pos rfl]
  | p :: r, i + 1, e, nd, h => by
    rw [List.map_cons] at nd
    obtain ⟨h1, h2⟩ := List.nodup_cons.mp nd
    have h : r[i]? = some e := by simpa using h
    rw [aget_cons, if_neg (fun z => h1 (by rw [z]; exact List.mem_map_of_mem (List.mem_of_getElem? h))), aget_at h2 h]
section
variable {C : Dct (Str × Int) (Option (Str × Int))} {r O O2 : Option (Str × Int)} {k : Nat} {W : List (Str × Int)}
theorem tr_start (h : PredOk C ∧ ∀ x, r = some x → x ∈ C.l.map (·.1)) : ∀ x, r = some x → ∃ i, i < fuel ∧ (C.l.map (·.1))[i]? = some x := fun x e => by
  obtain ⟨i, hi⟩ := List.getElem?_of_mem (h.2 x e)
  have := lt_of_get hi
  rw [List.length_map] at this
  have := h.1.len
  have hf := fuel_is
  exact ⟨i, by omega, hi⟩
theorem tr_has (hI : ∀ x, O = some x → ∃ i, i < k ∧ (C.l.map (·.1))[i]? = some x) (c : (!O.isNone) = true) : (aget C.l (O.getD default)).isSome = true := by
  cases O with
  | none => cases c
  | some x =>
    obtain ⟨i, _, hi⟩ := hI x rfl
    exact aget_keys.mpr (List.mem_of_getElem? hi)
theorem tr_pos (hI : ∀ x, O = some x → ∃ i, i < k ∧ (C.l.map (·.1))[i]? = some x) (c : (!O.isNone) = true) : 0 < k := by
  cases O with
  | none => cases c
  | some x => obtain ⟨i, h, _⟩ := hI x rfl; omega
theorem tr_next (h : PredOk C) (hI : ∀ x, O = some x → ∃ i, i < k ∧ (C.l.map (·.1))[i]? = some x) (c : (!O.isNone) = true) (hk : W.length + k = fuel) (hW : W ++ trF C k O = trF C fuel r) (hO : O2 = (aget C.l (O.getD default)).getD default) :
    (W ++ [O.getD default]) ++ trF C (k - 1) O2 = trF C fuel r ∧ (∀ x, O2 = some x → ∃ i, i < k - 1 ∧ (C.l.map (·.1))[i]? = some x) ∧ (W ++ [O.getD default]).length + (k - 1) = fuel ∧ k - 1 = k - 1 := by
  have hp := tr_pos hI c
  cases O with
  | none => cases c
  | some x =>
    obtain ⟨k, rfl⟩ : ∃ j, k = j + 1 := ⟨k - 1, by omega⟩
    refine ⟨?_, fun y e => ?_, by rw [List.length_append]; show W.length + 1 + _ = _; omega, rfl⟩
    · rw [← hW, List.append_assoc, hO]; rfl
    · obtain ⟨i, hi, hx⟩ := hI x rfl
      rw [List.getElem?_map] at hx
      obtain ⟨e2, he, ex⟩ := Option.map_eq_some_iff.mp hx
      have ha := aget_at h.nd he
      have hO : O2 = (aget C.l x).getD default := hO
      rw [ex] at ha
      rw [ha, e] at hO
      have hm := h.pr i e2 y he hO.symm
      obtain ⟨j, hj⟩ := List.getElem?_of_mem hm
      have hjl := lt_of_get hj
      rw [List.length_map, List.length_take] at hjl
      rw [List.map_take, List.getElem?_take_of_lt (by omega)] at hj
      exact ⟨j, by omega, hj⟩
theorem tr_done (c : (!O.isNone) = false) (hW : W ++ trF C k O = trF C fuel r) : W = trF C fuel r := by
  cases O with
  | none => rw [tr_none, List.append_nil] at hW; exact hW
  | some x => cases c
end
/-! a chain -/
def chainN (T : Dct (Str × Int) (List (Str × Int))) (nm : Str) : Option (List (Str × Int)) :=
  if (!(aget (comeN T (nm, 0)).l (nm, 1)).isSome) = true then none else if (!(aget (comeN T (nm, 1)).l (nm, 0)).isSome) = true then none else
    some (traceN (comeN T (nm, 0)) (some (nm, 1)) ++ cut (traceN (comeN T (nm, 1)) (some (nm, 0))) (some 1) none)
def chainSl : Option (List (Str × Int)) → Sl
  | none => .sh ()
  | some ys => .ow ys
theorem come_pred {T : Dct (Str × Int) (List (Str × Int))} {b : Str × Int} (t : TabOk T) (hb : (aget T.l b).isSome = true) : PredOk (comeN T b) := by
  have h := cm_ok t hb fuel
  refine ⟨Nat.le_trans (h.len t) (by decide), h.nd, fun i e w he ew => ?_⟩
  by_cases h0 : i = 0
  · subst h0
    have : cmS T b fuel = (comeN T b).l := rfl
    have e2 := h.hd
    rw [this, he] at e2
    cases e2
    cases ew
  · obtain ⟨w', e1, e2, _⟩ := h.pred i e he h0
    rw [ew] at e1
    cases e1
    exact e2
section
variable {T : Dct (Str × Int) (List (Str × Int))} {b x y : Str × Int} {C C2 : Dct (Str × Int) (Option (Str × Int))} {nm : Str}
theorem ch_pre (t : TabOk T) (hb : (aget T.l b).isSome = true) (hC : C = comeN T b) (c : (!(aget C.l x).isSome) = false) : PredOk C ∧ ∀ y, some x = some y → y ∈ C.l.map (·.1) := by
  subst hC
  refine ⟨come_pred t hb, fun y e => ?_⟩
  cases e
  exact aget_keys.mp (by simpa using c)
variable (hx : x = (nm, 0)) (hy : y = (nm, 1)) (hC : C = comeN T x)
include hx hy hC
theorem ch_none1 (c : (!(aget C.l y).isSome) = true) : chainN T nm = none := by
  subst hC hx hy
  unfold chainN
  rw [if_pos c]
variable (hC2 : C2 = comeN T y)
include hC2
theorem ch_none2 (c : (!(aget C.l y).isSome) = false) (c2 : (!(aget C2.l x).isSome) = true) : chainN T nm = none := by
  subst hC hC2 hx hy
  unfold chainN
  rw [if_neg (by rw [c]; exact Bool.false_ne_true), if_pos c2]
theorem ch_some (c : (!(aget C.l y).isSome) = false) (c2 : (!(aget C2.l x).isSome) = false) : chainN T nm = some (traceN C (some y) ++ cut (traceN C2 (some x)) (some 1) none) := by
  subst hC hC2 hx hy
  unfold chainN
  rw [if_neg (by rw [c]; exact Bool.false_ne_true), if_neg (by rw [c2]; exact Bool.false_ne_true)]
end
/-! all set -/
theorem tb_get {pl : Plan} {k : Str × Int} {v : List (Str × Int)} (e : aget (tableN pl).l k = some v) : (∃ q ∈ pl.d.l, q.a = k.1) ∧ (k.2 = 0 ∨ k.2 = 1) ∧ v = folN (obN pl) k := by
  have hm := aget_mem e
  obtain ⟨q, hq, hp⟩ := List.mem_flatMap.mp (show (k, v) ∈ pl.d.l.flatMap (tbOf pl) from hm)
  obtain ⟨j, hj, e2⟩ := List.mem_map.mp hp
  have e3 : (q.a, j) = k := congrArg Prod.fst e2
  have e4 : folN (obN pl) (q.a, j) = v := congrArg Prod.snd e2
  subst e3
  unfold rng at hj
  obtain ⟨n, hn, rfl⟩ := List.mem_map.mp hj
  have hn := List.mem_range.mp hn
  have hn : n < 2 := hn
  refine ⟨⟨q, hq, rfl⟩, ?_, e4.symm⟩
  show 0 + ((n : Nat) : Int) = 0 ∨ 0 + ((n : Nat) : Int) = 1
  omega
theorem tb_has {pl : Plan} {q : Pt} (m : q ∈ pl.d.l) {k : Int} (hk : k = 0 ∨ k = 1) : (aget (tableN pl).l (q.a, k)).isSome = true := by
  refine aget_keys.mpr (List.mem_map.mpr ⟨((q.a, k), folN (obN pl) (q.a, k)), List.mem_flatMap.mpr ⟨q, m, List.mem_map.mpr ⟨k, ?_, rfl⟩⟩, rfl⟩)
  unfold rng
  rcases hk with rfl | rfl
  · exact List.mem_map.mpr ⟨0, List.mem_range.mpr (by decide), rfl⟩
  · exact List.mem_map.mpr ⟨1, List.mem_range.mpr (by decide), rfl⟩
theorem fol_room {pl : Plan} (h : PlanOk pl) (tw : ∀ q ∈ pl.d.l, q.e.l.length = 2) {k u : Str × Int} (hk : (∃ q ∈ pl.d.l, q.a = k.1) ∧ (k.2 = 0 ∨ k.2 = 1)) (hu : u ∈ folN (obN pl) k) : (∃ q ∈ pl.d.l, q.a = u.1) ∧ (u.2 = 0 ∨ u.2 = 1) := by
  unfold folN at hu
  split at hu
  · rw [List.mem_singleton.mp hu]
    refine ⟨hk.1, ?_⟩
    show 1 - k.2 = 0 ∨ 1 - k.2 = 1
    omega
  · obtain ⟨w, hw, rfl⟩ := List.mem_map.mp hu
    have := ob_key h tw (List.mem_filter.mp hw).1
    refine ⟨this.1, ?_⟩
    show 1 - w.2 = 0 ∨ 1 - w.2 = 1
    omega
theorem tb_ok {pl : Plan} (h : PlanOk pl) (tw : ∀ q ∈ pl.d.l, q.e.l.length = 2) : TabOk (tableN pl) := by
  refine ⟨?_, fun k v e u m => ?_⟩
  · have h1 := flat_le (tbOf pl) 2 pl.d.l fun q _ => by unfold tbOf; rw [List.length_map, rng_len]; exact Nat.le_refl _
    have := h.dl
    show (pl.d.l.flatMap (tbOf pl)).length ≤ 190
    omega
  · obtain ⟨h1, h2, h3⟩ := tb_get e
    rw [h3] at m
    obtain ⟨⟨q, hq, e1⟩, e2⟩ := fol_room h tw ⟨h1, h2⟩ m
    have := tb_has hq e2
    rw [e1] at this
    exact this
theorem tb_chain {pl : Plan} (h : PlanOk pl ∧ ∀ q ∈ pl.d.l, q.e.l.length = 2) {q : Pt} (m : q ∈ pl.d.l) : TabOk (tableN pl) ∧ (aget (tableN pl).l (q.a, 0)).isSome = true ∧ (aget (tableN pl).l (q.a, 1)).isSome = true :=
  ⟨tb_ok h.1 h.2, tb_has m (.inl rfl), tb_has m (.inr rfl)⟩
def pickN (T : Dct (Str × Int) (List (Str × Int))) (nm : Str) : Dct (Str × Int) (Option (Str × Int)) := if (aget (comeN T (nm, 0)).l (nm, 1)).isSome = true then comeN T (nm, 1) else comeN T (nm, 0)
def tkAdd (D : List (Str × Int)) (C : Dct (Str × Int) (Option (Str × Int))) : List (Str × Int) := (C.l.map (·.1)).foldl (fun d r => aput d r.1 r.2) D
def tkStep (T : Dct (Str × Int) (List (Str × Int))) (D : List (Str × Int)) (q : Pt) : List (Str × Int) := if (aget D q.a).isSome = true then D else tkAdd D (pickN T q.a)
def tkS (T : Dct (Str × Int) (List (Str × Int))) (ps : List Pt) : List (Str × Int) := ps.foldl (tkStep T) []
def allN (pl : Plan) : Two Int (Str × Int) := match pl.d.l.findSome? (fun q => chainN (tableN pl) q.a) with
  | some c => .snd c
  | none => .fst (pl.d.l.map fun q => (aget (tkS (tableN pl) pl.d.l) q.a).getD default)
theorem cm_len {T : Dct (Str × Int) (List (Str × Int))} {b : Str × Int} (t : TabOk T) (hb : (aget T.l b).isSome = true) : (comeN T b).l.length ≤ 190 := (cm_ok t hb fuel).len t
theorem pk_len {T : Dct (Str × Int) (List (Str × Int))} {nm : Str} (t : TabOk T ∧ (aget T.l (nm, 0)).isSome = true ∧ (aget T.l (nm, 1)).isSome = true) : (pickN T nm).l.length ≤ 190 := by
  unfold pickN
  split
  · exact cm_len t.1 t.2.2
  · exact cm_len t.1 t.2.1
theorem rs_len : ∀ (rs : List (Str × Int)) (D : List (Str × Int)), (rs.foldl (fun d r => aput d r.1 r.2) D).length ≤ D.length + rs.length
  | [], D => Nat.le_refl _
  | r :: s, D => by
    rw [List.foldl_cons, List.length_cons]
    have := rs_len s (aput D r.1 r.2)
    have := aput_len D r.1 r.2
    omega
section
variable {pl : Plan} {i j : Nat} {x : Pt} {y : Str × Int} {T : Dct (Str × Int) (List (Str × Int))} {D E : Dct Str Int} {K K2 : Dct (Str × Int) (Option (Str × Int))} {nm : Str} {ys ch : List (Str × Int)}
theorem pk_one (c : (aget K.l (nm, 1)).isSome = true) (hK : K = comeN T (nm, 0)) (hK2 : K2 = comeN T (nm, 1)) : K2 = pickN T nm := by
  subst hK hK2
  unfold pickN
  rw [if_pos c]
theorem pk_zero (c : (aget K.l (nm, 1)).isSome = false) (hK : K = comeN T (nm, 0)) : K = pickN T nm := by
  subst hK
  unfold pickN
  rw [if_neg (by rw [c]; exact Bool.false_ne_true)]
theorem tk_len (h : PlanOk pl ∧ ∀ q ∈ pl.d.l, q.e.l.length = 2) : ∀ (ps : List Pt), (∀ q ∈ ps, q ∈ pl.d.l) → ∀ D, (ps.foldl (tkStep (tableN pl)) D).length ≤ D.length + 190 * ps.length
  | [], _, D => Nat.le_refl _
  | q :: r, hm, D => by
    rw [List.foldl_cons, List.length_cons]
    have h1 := tk_len h r (fun z m => hm z (List.mem_cons_of_mem _ m)) (tkStep (tableN pl) D q)
    have h2 : (tkStep (tableN pl) D q).length ≤ D.length + 190 := by
      unfold tkStep tkAdd
      split
      · omega
      · have := rs_len ((pickN (tableN pl) q.a).l.map (·.1)) D
        rw [List.length_map] at this
        have := pk_len (tb_chain h (hm q List.mem_cons_self))
        omega
    omega
theorem tk_size (h : PlanOk pl ∧ ∀ q ∈ pl.d.l, q.e.l.length = 2) (hx : pl.d.l[i]? = some x) (hT : T = tableN pl) (hn : nm = x.a) (hD : D.l = tkS T (pl.d.l.take i)) (hK : K = pickN T nm) (hE : E.l = ((K.l.map (·.1)).take j).foldl (fun d r => aput d r.1 r.2) D.l) : E.l.length < sizeLine := by
  subst hT hn hK
  have h1 := tk_len h (pl.d.l.take i) (fun q m => List.mem_of_mem_take m) []
  have h2 := rs_len (((pickN (tableN pl) x.a).l.map (·.1)).take j) D.l
  have h3 := pk_len (tb_chain h (List.mem_of_getElem? hx))
  rw [List.length_take] at h1
  rw [List.length_take, List.length_map] at h2
  rw [hE, sizeLine_eq]
  unfold tkS at hD
  rw [← hD] at h1
  have := h.1.dl
  rw [List.length_nil] at h1
  omega
theorem find_none2 (hx : pl.d.l[i]? = some x) (hN : (pl.d.l.take i).findSome? (fun q => chainN T q.a) = none) (hc : chainN T x.a = none) : (pl.d.l.take (i + 1)).findSome? (fun q => chainN T q.a) = none := by
  rw [List.findSome?_eq_none_iff] at hN ⊢
  intro q m
  rw [List.take_add_one, hx] at m
  rcases List.mem_append.mp m with m | m
  · exact hN q m
  · have : q = x := by simpa using m
    rw [this]; exact hc
theorem tk_next (hx : pl.d.l[i]? = some x) (hN : (pl.d.l.take i).findSome? (fun q => chainN T q.a) = none) (hn : nm = x.a) (hc : chainN T nm = none) (hD : D.l = tkS T (pl.d.l.take i)) (c : (!(aget D.l nm).isSome) = true) (hK : K = pickN T nm) (hE : E.l = ((K.l.map (·.1)).take (K.l.map (·.1)).length).foldl (fun d r => aput d r.1 r.2) D.l) :
    (pl.d.l.take (i + 1)).findSome? (fun q => chainN T q.a) = none ∧ E.l = tkS T (pl.d.l.take (i + 1)) := by
  subst hn
  refine ⟨find_none2 hx hN hc, ?_⟩
  unfold tkS at hD ⊢
  rw [fold_take hx, ← hD]
  unfold tkStep tkAdd
  rw [if_neg (by simpa using c), hE, List.take_length, hK]
theorem tk_stay (hx : pl.d.l[i]? = some x) (hN : (pl.d.l.take i).findSome? (fun q => chainN T q.a) = none) (hn : nm = x.a) (hc : chainN T nm = none) (hD : D.l = tkS T (pl.d.l.take i)) (c : (!(aget D.l nm).isSome) = false) :
    (pl.d.l.take (i + 1)).findSome? (fun q => chainN T q.a) = none ∧ D.l = tkS T (pl.d.l.take (i + 1)) := by
  subst hn
  refine ⟨find_none2 hx hN hc, ?_⟩
  unfold tkS at hD ⊢
  rw [fold_take hx, ← hD]
  unfold tkStep
  rw [if_pos (by simpa using c)]
theorem rs_keep : ∀ (rs : List (Str × Int)) (D : List (Str × Int)) (k : Str), ((aget D k).isSome = true ∨ ∃ r ∈ rs, r.1 = k) → (aget (rs.foldl (fun d r => aput d r.1 r.2) D) k).isSome = true
  | [], D, k, h => by
    rcases h with h | ⟨r, m, _⟩
    · exact h
    · cases m
  | r :: s, D, k, h => by
    rw [List.foldl_cons]
    refine rs_keep s _ k ?_
    rcases h with h | ⟨q, m, e⟩
    · refine .inl ?_
      rw [aget_put]
      split
      · rfl
      · exact h
    · rcases List.mem_cons.mp m with rfl | m
      · refine .inl ?_
        rw [aget_put, if_pos e.symm]; rfl
      · exact .inr ⟨q, m, e⟩
theorem come_mem {T : Dct (Str × Int) (List (Str × Int))} {b : Str × Int} (t : TabOk T) (hb : (aget T.l b).isSome = true) : b ∈ (comeN T b).l.map (·.1) := by
  have := (cm_ok t hb fuel).hd
  exact List.mem_map.mpr ⟨_, List.mem_of_getElem? this, rfl⟩
theorem pk_name {T : Dct (Str × Int) (List (Str × Int))} {nm : Str} (t : TabOk T ∧ (aget T.l (nm, 0)).isSome = true ∧ (aget T.l (nm, 1)).isSome = true) : ∃ r ∈ (pickN T nm).l.map (·.1), r.1 = nm := by
  unfold pickN
  split
  · exact ⟨_, come_mem t.1 t.2.2, rfl⟩
  · exact ⟨_, come_mem t.1 t.2.1, rfl⟩
theorem tk_has (h : PlanOk pl ∧ ∀ q ∈ pl.d.l, q.e.l.length = 2) : ∀ (ps : List Pt), (∀ q ∈ ps, q ∈ pl.d.l) → ∀ (D : List (Str × Int)) (k : Str), ((aget D k).isSome = true ∨ ∃ q ∈ ps, q.a = k) → (aget (ps.foldl (tkStep (tableN pl)) D) k).isSome = true
  | [], _, D, k, hk => by
    rcases hk with hk | ⟨r, m, _⟩
    · exact hk
    · cases m
  | q :: r, hm, D, k, hk => by
    rw [List.foldl_cons]
    refine tk_has h r (fun z m => hm z (List.mem_cons_of_mem _ m)) _ k ?_
    rcases hk with hk | ⟨z, m, e⟩
    · refine .inl ?_
      unfold tkStep tkAdd
      split
      · exact hk
      · exact rs_keep _ _ _ (.inl hk)
    · rcases List.mem_cons.mp m with rfl | m
      · refine .inl ?_
        unfold tkStep tkAdd
        split
        · rename_i c; rw [← e]; exact c
        · refine rs_keep _ _ _ (.inr ?_)
          rw [← e]
          exact pk_name (tb_chain h (hm z List.mem_cons_self))
      · exact .inr ⟨z, m, e⟩
theorem tk_all (h : PlanOk pl ∧ ∀ q ∈ pl.d.l, q.e.l.length = 2) (hT : T = tableN pl) (hD : D.l = tkS T (pl.d.l.take pl.d.l.length)) (m : x ∈ pl.d.l) : (aget D.l x.a).isSome = true := by
  subst hT
  rw [hD, List.take_length]
  exact tk_has h pl.d.l (fun q m => m) [] x.a (.inr ⟨x, m, rfl⟩)
theorem all_snd (hx : pl.d.l[i]? = some x) (hN : (pl.d.l.take i).findSome? (fun q => chainN T q.a) = none) (hT : T = tableN pl) (hn : nm = x.a) (hc : chainN T nm = some ys) (he : ch = ys) : (Two.snd ch : Two Int (Str × Int)) = allN pl := by
  subst hT hn he
  have : pl.d.l.findSome? (fun q => chainN (tableN pl) q.a) = some ch := by
    have hl := lt_of_get hx
    have e : pl.d.l = pl.d.l.take i ++ x :: pl.d.l.drop (i + 1) := by
      rw [List.getElem?_eq_getElem hl] at hx
      cases hx
      rw [← List.drop_eq_getElem_cons hl, List.take_append_drop]
    conv => lhs; rw [e]
    rw [List.findSome?_append, hN, List.findSome?_cons, hc]; rfl
  unfold allN
  rw [this]
theorem all_fst (hT : T = tableN pl) (hN : (pl.d.l.take pl.d.l.length).findSome? (fun q => chainN T q.a) = none) (hD : D.l = tkS T (pl.d.l.take pl.d.l.length)) : (Two.fst (pl.d.l.map fun q => (aget D.l q.a).getD default) : Two Int (Str × Int)) = allN pl := by
  subst hT
  rw [List.take_length] at hN hD
  unfold allN
  rw [hN, hD]
end

theorem cut_one (x : Str × Int) (l : List (Str × Int)) : cut (x :: l) (some 1) none = l := by
  have : HT.sIx (x :: l).length 0 (some 1) = 1 := by
    have := HT.sIx_nat (x :: l).length 0 1
    rw [show ((1 : Nat) : Int) = 1 from rfl] at this
    rw [this]; simp
  unfold cut
  rw [this]
  show List.take _ l = l
  exact List.take_of_length_le (by show l.length ≤ (x :: l).length - 1; simp)
theorem apart_meet {b o : Box} (hb : Fine6 b) (ho : Fine6 o) : lawApart b o = !meet b o := by
  unfold lawApart meet
  obtain ⟨h1, h2, h3, h4⟩ := hb
  obtain ⟨k1, k2, k3, k4⟩ := ho
  rw [Bool.eq_iff_iff]
  split
  · rename_i c
    simp only [Bool.or_eq_true, decide_eq_true_eq] at c
    simp only [Bool.not_eq_true', Bool.and_eq_false_iff, decide_eq_false_iff_not, true_iff]
    omega
  · rename_i c
    simp only [Bool.or_eq_true, decide_eq_true_eq] at c
    simp only [Bool.or_eq_true, decide_eq_true_eq, Bool.not_eq_true', Bool.and_eq_false_iff, decide_eq_false_iff_not]
    omega
/-! #### rooms, steps -/
def neg (r : Str × Int) : Str × Int := (r.1, 1 - r.2)
theorem neg_neg (r : Str × Int) : neg (neg r) = r := by
  obtain ⟨a, b⟩ := r
  show (a, 1 - (1 - b)) = (a, b)
  rw [show 1 - (1 - b) = b by omega]
def RoomOk (pl : Plan) (r : Str × Int) : Prop := (∃ q ∈ pl.d.l, q.a = r.1) ∧ (r.2 = 0 ∨ r.2 = 1)
theorem RoomOk.neg {pl : Plan} {r : Str × Int} (h : RoomOk pl r) : RoomOk pl (neg r) := ⟨h.1, by show 1 - r.2 = 0 ∨ 1 - r.2 = 1; have := h.2; omega⟩
theorem tb_room {pl : Plan} {r : Str × Int} (h : RoomOk pl r) : (aget (tableN pl).l r).isSome = true ∧ (aget (tableN pl).l r).getD default = folN (obN pl) r := by
  obtain ⟨⟨q, m, e⟩, h2⟩ := h
  have hs := tb_has m h2
  rw [e] at hs
  have hs : (aget (tableN pl).l r).isSome = true := hs
  refine ⟨hs, ?_⟩
  cases e2 : aget (tableN pl).l r with
  | none => rw [e2] at hs; cases hs
  | some v => exact (tb_get e2).2.2
theorem skew {pl : Plan} {r u : Str × Int} (hu : u ∈ folN (obN pl) r) : neg r ∈ folN (obN pl) (neg u) := by
  have hu0 := hu
  unfold folN at hu
  split at hu
  · rename_i c
    have e : u = neg r := List.mem_singleton.mp hu
    rw [e, neg_neg]
    rw [e] at hu0
    exact hu0
  · rename_i c
    have c : (aget (obN pl).l r).isSome = true := by cases hh : (aget (obN pl).l r).isSome with | true => rfl | false => exact absurd (by rw [hh]; rfl) c
    obtain ⟨w, hw, e⟩ := List.mem_map.mp hu
    obtain ⟨h3, hc⟩ := List.mem_filter.mp hw
    have e : u = neg w := e.symm
    rw [e, neg_neg]
    unfold folN
    rw [if_neg (by rw [aget_keys.mpr h3]; decide)]
    refine List.mem_map.mpr ⟨r, List.mem_filter.mpr ⟨aget_keys.mp c, ?_⟩, rfl⟩
    unfold folC at hc ⊢
    rw [Bool.and_eq_true] at hc ⊢
    refine ⟨?_, by rw [meet_comm']; exact hc.2⟩
    have := hc.1
    simp only [Bool.not_eq_true', decide_eq_false_iff_not] at this ⊢
    exact fun q => this q.symm
/-! #### what is come to -/
theorem fold_has {u : Str × Int} : ∀ (rs : List (Str × Int)) (C : List ((Str × Int) × Option (Str × Int))), ∀ r ∈ rs, r ∈ (rs.foldl (cmStep u) C).map (·.1)
  | [], C, r, m => by cases m
  | s :: t, C, r, m => by
    rw [List.foldl_cons]
    rcases List.mem_cons.mp m with rfl | m
    · obtain ⟨D, e⟩ := cm_fold (u := u) t (cmStep u C r)
      rw [e, List.map_append]
      refine List.mem_append_left _ ?_
      unfold cmStep
      split
      · rename_i c; exact aget_keys.mp c
      · rw [List.map_append]; exact List.mem_append_right _ (by simp)
    · exact fold_has t _ r m
theorem turn_grow (T : Dct (Str × Int) (List (Str × Int))) (n : Nat) (C : List ((Str × Int) × Option (Str × Int))) : ∃ D, cmTurn T n C = C ++ D := by
  unfold cmTurn
  split
  · exact ⟨[], (List.append_nil _).symm⟩
  · exact cm_fold _ _
theorem cm_cl (T : Dct (Str × Int) (List (Str × Int))) (b : Str × Int) : ∀ (n i : Nat) (e : (Str × Int) × Option (Str × Int)), i < n → (cmS T b n)[i]? = some e → ∀ u ∈ (aget T.l e.1).getD default, u ∈ (cmS T b n).map (·.1)
  | 0, i, e, h, _, _, _ => absurd h (Nat.not_lt_zero _)
  | n + 1, i, e, h, he, u, hu => by
    rw [cmS] at he ⊢
    obtain ⟨D, eD⟩ := turn_grow T n (cmS T b n)
    by_cases hl : i < (cmS T b n).length
    · have he2 : (cmS T b n)[i]? = some e := by rw [eD, List.getElem?_append_left hl] at he; exact he
      by_cases hi : i < n
      · rw [eD, List.map_append]
        exact List.mem_append_left _ (cm_cl T b n i e hi he2 u hu)
      · have : i = n := by omega
        subst this
        unfold cmTurn
        rw [he2]
        exact fold_has _ _ u hu
    · have hn : (cmS T b n)[n]? = none := List.getElem?_eq_none (by omega)
      unfold cmTurn at he
      rw [hn] at he
      have he : (cmS T b n)[i]? = some e := he
      have := lt_of_get he
      omega
section
variable {T : Dct (Str × Int) (List (Str × Int))} {b x u w : Str × Int} (t : TabOk T) (hb : (aget T.l b).isSome = true)
def Reach (T : Dct (Str × Int) (List (Str × Int))) (b x : Str × Int) : Prop := x ∈ (comeN T b).l.map (·.1)
include t hb
theorem reach_step (h : Reach T b u) (hw : w ∈ (aget T.l u).getD default) : Reach T b w := by
  obtain ⟨e, he, rfl⟩ := List.mem_map.mp h
  obtain ⟨i, hi⟩ := List.getElem?_of_mem he
  have hl := lt_of_get hi
  have h2 := (cm_ok t hb fuel).len t
  have hl : i < (cmS T b fuel).length := hl
  have hf := fuel_is
  exact cm_cl T b fuel i e (by omega) hi w hw
theorem reach_min {P : Str × Int → Prop} (h0 : P b) (hs : ∀ u w, (aget T.l u).isSome = true → P u → w ∈ (aget T.l u).getD default → P w) (h : Reach T b x) : P x := by
  have ok := cm_ok t hb fuel
  have key : ∀ (n i : Nat) (e : (Str × Int) × Option (Str × Int)), i < n → (cmS T b fuel)[i]? = some e → P e.1 := by
    intro n
    induction n with
    | zero => intro i e h; exact absurd h (Nat.not_lt_zero _)
    | succ n ih =>
      intro i e hi he
      by_cases h1 : i = 0
      · subst h1
        have := ok.hd
        rw [he] at this
        cases this
        exact h0
      · obtain ⟨w, e1, e2, e3⟩ := ok.pred i e he h1
        obtain ⟨z, hz, rfl⟩ := List.mem_map.mp e2
        obtain ⟨j, hj⟩ := List.getElem?_of_mem hz
        have hjl := lt_of_get hj
        rw [List.length_take] at hjl
        rw [List.getElem?_take_of_lt (by omega)] at hj
        refine hs _ _ (ok.sub _ ?_) (ih j z (by omega) hj) e3
        exact List.mem_map_of_mem (List.mem_of_getElem? hj)
  obtain ⟨e, he, rfl⟩ := List.mem_map.mp h
  obtain ⟨i, hi⟩ := List.getElem?_of_mem he
  exact key (i + 1) i e (Nat.lt_succ_self _) hi
theorem reach_refl : Reach T b b := come_mem t hb
theorem reach_has (h : Reach T b x) : (aget T.l x).isSome = true := (cm_ok t hb fuel).sub x h
theorem reach_trans (h : Reach T b u) (h2 : Reach T u w) : Reach T b w :=
  reach_min t (reach_has t hb h) h (fun _ _ _ p m => reach_step t hb p m) h2
end
section
variable {pl : Plan} (h : PlanOk pl) (tw : ∀ q ∈ pl.d.l, q.e.l.length = 2)
theorem room_of {x : Str × Int} (hx : (aget (tableN pl).l x).isSome = true) : RoomOk pl x := by
  cases e : aget (tableN pl).l x with
  | none => rw [e] at hx; cases hx
  | some v => exact ⟨(tb_get e).1, (tb_get e).2.1⟩
include h tw
theorem reach_contra {b x : Str × Int} (hb : RoomOk pl b) (hr : Reach (tableN pl) b x) : Reach (tableN pl) (neg x) (neg b) := by
  have t := tb_ok h tw
  have hb' := (tb_room hb).1
  refine reach_min t hb' (P := fun u => Reach (tableN pl) (neg u) (neg b)) (reach_refl t (tb_room hb.neg).1) (fun u w hu p m => ?_) hr
  have ru := room_of hu
  rw [(tb_room ru).2] at m
  have rw' : RoomOk pl w := fol_room h tw ru m
  have s := skew m
  have h1 : Reach (tableN pl) (neg w) (neg u) := reach_step t (tb_room rw'.neg).1 (reach_refl t (tb_room rw'.neg).1) (by rw [(tb_room rw'.neg).2]; exact s)
  exact reach_trans t (tb_room rw'.neg).1 h1 p
end
/-! #### a setting -/
theorem rs_in {v : Int} {k : Str} : ∀ (rs : List (Str × Int)) (D : List (Str × Int)), (∀ r ∈ rs, r.1 = k → r.2 = v) → ((∃ r ∈ rs, r.1 = k) ∨ aget D k = some v) → aget (rs.foldl (fun d r => aput d r.1 r.2) D) k = some v
  | [], D, _, h => by
    rcases h with ⟨r, m, _⟩ | h
    · cases m
    · exact h
  | r :: t, D, hv, h => by
    rw [List.foldl_cons]
    refine rs_in t _ (fun z m => hv z (List.mem_cons_of_mem _ m)) ?_
    by_cases e : r.1 = k
    · exact .inr (by rw [aget_put, if_pos e.symm, hv r List.mem_cons_self e])
    · rcases h with ⟨z, m, ez⟩ | h
      · rcases List.mem_cons.mp m with rfl | m
        · exact absurd ez e
        · exact .inl ⟨z, m, ez⟩
      · exact .inr (by rw [aget_put, if_neg (fun z => e z.symm)]; exact h)
theorem rs_out {k : Str} : ∀ (rs : List (Str × Int)) (D : List (Str × Int)), (∀ r ∈ rs, r.1 ≠ k) → aget (rs.foldl (fun d r => aput d r.1 r.2) D) k = aget D k
  | [], D, _ => rfl
  | r :: t, D, h => by
    rw [List.foldl_cons, rs_out t _ fun z m => h z (List.mem_cons_of_mem _ m), aget_put, if_neg (fun z => h r List.mem_cons_self z.symm)]
structure TkOk (pl : Plan) (D : List (Str × Int)) : Prop where
  rm : ∀ n v, aget D n = some v → RoomOk pl (n, v)
  cl : ∀ n v, aget D n = some v → ∀ u ∈ folN (obN pl) (n, v), aget D u.1 = some u.2
section
variable {pl : Plan} (h : PlanOk pl) (tw : ∀ q ∈ pl.d.l, q.e.l.length = 2)
include h tw
theorem tk_reach {D : List (Str × Int)} (hD : TkOk pl D) {r x : Str × Int} (hr : aget D r.1 = some r.2) (hx : Reach (tableN pl) r x) : aget D x.1 = some x.2 := by
  have ro := hD.rm r.1 r.2 hr
  refine reach_min (tb_ok h tw) (tb_room ro).1 (P := fun u => aget D u.1 = some u.2) hr (fun u w hu p m => ?_) hx
  rw [(tb_room (room_of hu)).2] at m
  exact hD.cl u.1 u.2 p w m
theorem tk_add {D : List (Str × Int)} (hD : TkOk pl D) {b : Str × Int} (rb : RoomOk pl b) (hn : aget D b.1 = none) (hb : ¬ Reach (tableN pl) b (neg b)) : TkOk pl (tkAdd D (comeN (tableN pl) b)) := by
  have t := tb_ok h tw
  have ht := (tb_room rb).1
  have rok : ∀ r, Reach (tableN pl) b r → RoomOk pl r := fun r hr => room_of (reach_has t ht hr)
  have two : ∀ r, Reach (tableN pl) b r → ¬ Reach (tableN pl) b (neg r) := fun r h1 h2 => by
    have c := reach_contra h tw rb h2
    rw [neg_neg] at c
    exact hb (reach_trans t ht h1 c)
  have same : ∀ r s, Reach (tableN pl) b r → Reach (tableN pl) b s → r.1 = s.1 → r = s := fun r s h1 h2 e => by
    have a := (rok r h1).2
    have c := (rok s h2).2
    by_cases e2 : r.2 = s.2
    · exact Prod.ext e e2
    · have : s = neg r := Prod.ext e.symm (by show s.2 = 1 - r.2; omega)
      rw [this] at h2
      exact absurd h2 (two r h1)
  have inn : ∀ r, Reach (tableN pl) b r → aget (tkAdd D (comeN (tableN pl) b)) r.1 = some r.2 := fun r hr => rs_in _ _ (fun s hs e => by rw [same s r hs hr e]) (.inl ⟨r, hr, rfl⟩)
  have out : ∀ k, (∀ r, Reach (tableN pl) b r → r.1 ≠ k) → aget (tkAdd D (comeN (tableN pl) b)) k = aget D k := fun k hk => rs_out _ _ hk
  have split : ∀ n v, aget (tkAdd D (comeN (tableN pl) b)) n = some v → Reach (tableN pl) b (n, v) ∨ ((∀ r, Reach (tableN pl) b r → r.1 ≠ n) ∧ aget D n = some v) := fun n v e => by
    by_cases hx : ∃ r, Reach (tableN pl) b r ∧ r.1 = n
    · obtain ⟨r, hr, e2⟩ := hx
      have := inn r hr
      rw [e2, e] at this
      have e3 : v = r.2 := Option.some.inj this
      have : r = (n, v) := Prod.ext e2 e3.symm
      exact .inl (this ▸ hr)
    · have hx : ∀ r, Reach (tableN pl) b r → r.1 ≠ n := fun r hr e2 => hx ⟨r, hr, e2⟩
      exact .inr ⟨hx, by rw [← out n hx]; exact e⟩
  refine ⟨fun n v e => ?_, fun n v e u hu => ?_⟩
  · rcases split n v e with hr | ⟨_, e2⟩
    · exact rok _ hr
    · exact hD.rm n v e2
  · rcases split n v e with hr | ⟨_, e2⟩
    · exact inn u (reach_step t ht hr (by rw [(tb_room (rok _ hr)).2]; exact hu))
    · have hu2 := hD.cl n v e2 u hu
      by_cases hx : ∃ r, Reach (tableN pl) b r ∧ r.1 = u.1
      · obtain ⟨r, hr, e3⟩ := hx
        have ru := hD.rm u.1 u.2 hu2
        have a := (rok r hr).2
        have c := ru.2
        by_cases e4 : r.2 = u.2
        · have : r = u := Prod.ext e3 e4
          rw [← this]; exact inn r hr
        · have e5 : neg r = u := Prod.ext e3 (by show 1 - r.2 = u.2; have c : u.2 = 0 ∨ u.2 = 1 := c; omega)
          have c2 := reach_contra h tw rb hr
          rw [e5] at c2
          have := tk_reach h tw hD hu2 c2
          have : aget D b.1 = some (1 - b.2) := this
          rw [hn] at this; cases this
      · rw [out u.1 fun r hr e3 => hx ⟨r, hr, e3⟩]; exact hu2
theorem pick_free2 {q : Pt} (m : q ∈ pl.d.l) (hc : chainN (tableN pl) q.a = none) : ∃ b : Str × Int, b.1 = q.a ∧ RoomOk pl b ∧ pickN (tableN pl) q.a = comeN (tableN pl) b ∧ ¬ Reach (tableN pl) b (neg b) := by
  unfold pickN
  split
  · rename_i c
    refine ⟨(q.a, 1), rfl, ⟨⟨q, m, rfl⟩, .inr rfl⟩, rfl, fun r => ?_⟩
    unfold chainN at hc
    rw [if_neg (by rw [c]; decide)] at hc
    split at hc
    · rename_i c2
      have r : ((q.a, 0) : Str × Int) ∈ (comeN (tableN pl) (q.a, 1)).l.map (·.1) := r
      have := aget_keys.mpr r
      rw [this] at c2; cases c2
    · cases hc
  · rename_i c
    refine ⟨(q.a, 0), rfl, ⟨⟨q, m, rfl⟩, .inl rfl⟩, rfl, fun r => ?_⟩
    have r : ((q.a, 1) : Str × Int) ∈ (comeN (tableN pl) (q.a, 0)).l.map (·.1) := r
    exact c (aget_keys.mpr r)
theorem tk_ok : ∀ (ps : List Pt) (D : List (Str × Int)), (∀ q ∈ ps, q ∈ pl.d.l ∧ chainN (tableN pl) q.a = none) → TkOk pl D → TkOk pl (ps.foldl (tkStep (tableN pl)) D)
  | [], D, _, hD => hD
  | q :: r, D, hm, hD => by
    rw [List.foldl_cons]
    refine tk_ok r _ (fun z m => hm z (List.mem_cons_of_mem _ m)) ?_
    unfold tkStep
    split
    · exact hD
    · rename_i c
      have hq := hm q List.mem_cons_self
      obtain ⟨b, e1, e2, e3, e4⟩ := pick_free2 h tw hq.1 hq.2
      rw [e3]
      refine tk_add h tw hD e2 ?_ e4
      rw [e1]
      cases e : aget D q.a with
      | none => rfl
      | some v => rw [e] at c; exact absurd rfl c
end
structure SetOk2 (pl : Plan) (xs : List Int) : Prop where
  len : xs.length = pl.d.l.length
  op : ∀ (i : Nat) (q : Pt), pl.d.l[i]? = some q → xs.getD i default ∈ openKs pl q
  ap : ∀ (i j : Nat) (q r : Pt), i ≠ j → pl.d.l[i]? = some q → pl.d.l[j]? = some r → ∀ z ∈ lawCells (placedN q (xs.getD i default)), z ∉ lawCells (placedN r (xs.getD j default))
theorem ob_val {pl : Plan} (h : PlanOk pl) {q : Pt} (m : q ∈ pl.d.l) {k : Int} {v : Box} (e : aget (obN pl).l (q.a, k) = some v) : k ∈ openKs pl q ∧ v = placedN q k := by
  have hm := aget_mem e
  obtain ⟨r, hr, hp⟩ := List.mem_flatMap.mp (show ((q.a, k), v) ∈ pl.d.l.flatMap (obOf pl) from hm)
  obtain ⟨j, hj, e2⟩ := List.mem_map.mp hp
  have e3 : r.a = q.a := congrArg (fun z => z.1.1) e2
  have e4 : j = k := congrArg (fun z => z.1.2) e2
  have e5 : placedN ((pointOf pl r.a).getD default) j = v := congrArg Prod.snd e2
  rw [e3, e4, open_ks h m] at hj
  rw [e3, e4, point_of_mem h m] at e5
  exact ⟨hj, e5.symm⟩
theorem ob_has {pl : Plan} (h : PlanOk pl) {q : Pt} (m : q ∈ pl.d.l) {k : Int} (hk : k ∈ openKs pl q) : aget (obN pl).l (q.a, k) = some (placedN q k) := by
  have hs : (aget (obN pl).l (q.a, k)).isSome = true := by
    refine aget_keys.mpr (List.mem_map.mpr ⟨((q.a, k), placedN ((pointOf pl q.a).getD default) k), List.mem_flatMap.mpr ⟨q, m, List.mem_map.mpr ⟨k, ?_, rfl⟩⟩, rfl⟩)
    rw [open_ks h m]; exact hk
  cases e : aget (obN pl).l (q.a, k) with
  | none => rw [e] at hs; cases hs
  | some v => rw [(ob_val h m e).2]
theorem oc_has2 {pl : Plan} (h : PlanOk pl) {q : Pt} (m : q ∈ pl.d.l) {k : Int} (hk : k ∈ openKs pl q) : aget (ocD pl).l (q.a, k) = some (lawCells (placedN q k)) := by
  rw [oc_map, aget_mapv, ob_has h m hk]; rfl
theorem oc_is_ob {pl : Plan} (r : Str × Int) : (aget (ocD pl).l r).isSome = (aget (obN pl).l r).isSome := by
  rw [oc_map, aget_mapv, Option.isSome_map]
theorem all_fst_ok {pl : Plan} (h : PlanOk pl) (tw : ∀ q ∈ pl.d.l, q.e.l.length = 2) {xs : List Int} (e : allN pl = .fst xs) : SetOk2 pl xs := by
  unfold allN at e
  split at e
  · cases e
  · rename_i hN
    rw [List.findSome?_eq_none_iff] at hN
    have D := tk_ok h tw pl.d.l [] (fun q m => ⟨m, hN q m⟩) ⟨fun n v e => (by cases e), fun n v e => (by cases e)⟩
    have all : ∀ q ∈ pl.d.l, (aget (tkS (tableN pl) pl.d.l) q.a).isSome = true := fun q m => tk_has ⟨h, tw⟩ pl.d.l (fun q m => m) [] q.a (.inr ⟨q, m, rfl⟩)
    have D : TkOk pl (tkS (tableN pl) pl.d.l) := D
    generalize tkS (tableN pl) pl.d.l = F at *
    cases e
    have val : ∀ (i : Nat) (q : Pt), pl.d.l[i]? = some q → aget F q.a = some ((pl.d.l.map fun q => (aget F q.a).getD default).getD i default) := fun i q hq => by
      rw [List.getD_eq_getElem?_getD, List.getElem?_map, hq]
      exact get_def (all q (List.mem_of_getElem? hq))
    have opn : ∀ (i : Nat) (q : Pt), pl.d.l[i]? = some q → (pl.d.l.map fun q => (aget F q.a).getD default).getD i default ∈ openKs pl q := fun i q hq => by
      have m := List.mem_of_getElem? hq
      have hv := val i q hq
      generalize (pl.d.l.map fun q => (aget F q.a).getD default).getD i default = k at *
      cases e2 : aget (obN pl).l (q.a, k) with
      | some b => exact (ob_val h m e2).1
      | none =>
        have hu : neg (q.a, k) ∈ folN (obN pl) (q.a, k) := by
          unfold folN
          rw [if_pos (by rw [e2]; rfl)]
          exact List.mem_singleton_self _
        have := D.cl q.a k hv _ hu
        have : aget F q.a = some (1 - k) := this
        rw [hv] at this
        have := Option.some.inj this
        omega
    refine ⟨by rw [List.length_map], opn, fun i j q r ne hi hj => ?_⟩
    have mi := List.mem_of_getElem? hi
    have mj := List.mem_of_getElem? hj
    have oi := opn i q hi
    have oj := opn j r hj
    have vi := val i q hi
    have vj := val j r hj
    generalize (pl.d.l.map fun q => (aget F q.a).getD default).getD i default = k at *
    generalize (pl.d.l.map fun q => (aget F q.a).getD default).getD j default = n at *
    rw [← apart_cells (fine_placed h mi _) (fine_placed h mj _)]
    have nn : ¬ r.a = q.a := fun e => by
      have hi2 : (pl.d.l.map fun q => q.a)[i]? = some q.a := by rw [List.getElem?_map, hi]; rfl
      have hj2 : (pl.d.l.map fun q => q.a)[j]? = some q.a := by rw [List.getElem?_map, hj]; exact congrArg some e
      have li := lt_of_get hi2
      have lj := lt_of_get hj2
      rw [List.getElem?_eq_getElem li] at hi2
      rw [List.getElem?_eq_getElem lj] at hj2
      exact ne ((List.getElem_inj h.nm).mp ((Option.some.inj hi2).trans (Option.some.inj hj2).symm))
    cases c : meet (placedN q k) (placedN r n) with
    | false =>
      have e1 : lawApart (placedN q k) (placedN r n) = !meet (placedN q k) (placedN r n) := apart_meet (fine_placed h mi _) (fine_placed h mj _)
      rw [e1, c]; rfl
    | true =>
      have hu : neg (r.a, n) ∈ folN (obN pl) (q.a, k) := by
        unfold folN
        rw [if_neg (by rw [ob_has h mi oi]; exact Bool.false_ne_true)]
        refine List.mem_map.mpr ⟨(r.a, n), List.mem_filter.mpr ⟨aget_keys.mp (by rw [ob_has h mj oj]; rfl), ?_⟩, rfl⟩
        unfold folC
        rw [ob_has h mi oi, ob_has h mj oj]
        show (!decide (r.a = q.a) && meet (placedN q k) (placedN r n)) = true
        rw [decide_eq_false nn, c]; rfl
      have := D.cl q.a k vi _ hu
      have : aget F r.a = some (1 - n) := this
      rw [vj] at this
      have := Option.some.inj this
      omega
/-! #### a chain -/
def Walk (R : Str × Int → Str × Int → Prop) : List (Str × Int) → Prop
  | [] => True
  | x :: t => (∀ y, t.head? = some y → R x y) ∧ Walk R t
theorem walk_one {R : Str × Int → Str × Int → Prop} {x : Str × Int} : Walk R [x] := ⟨fun y z => (by cases z), trivial⟩
theorem walk_two {R : Str × Int → Str × Int → Prop} {x y : Str × Int} (h : R x y) : Walk R [x, y] := ⟨fun z e => (by cases e; exact h), walk_one⟩
theorem nn_ {b : Bool} (h : ¬ (!b) = true) : b = true := by cases b <;> simp_all
theorem walk_app {R : Str × Int → Str × Int → Prop} {x : Str × Int} {m : List (Str × Int)} : ∀ {l : List (Str × Int)}, Walk R (l ++ [x]) → Walk R (x :: m) → Walk R (l ++ x :: m)
  | [], _, h2 => h2
  | [y], h1, h2 => ⟨fun z e => by cases e; exact h1.1 x rfl, h2⟩
  | y :: z :: t, h1, h2 => ⟨fun w e => by cases e; exact h1.1 z rfl, walk_app (l := z :: t) h1.2 h2⟩
theorem walk_at {R : Str × Int → Str × Int → Prop} : ∀ {l : List (Str × Int)} {i : Nat} {x y : Str × Int}, Walk R l → l[i]? = some x → l[i + 1]? = some y → R x y
  | [], i, x, y, _, h, _ => by simp at h
  | a :: t, 0, x, y, hw, h1, h2 => by
    have : a = x := by simpa using h1
    subst this
    refine hw.1 y ?_
    cases t with
    | nil => simp at h2
    | cons b r => simpa using h2
  | a :: t, i + 1, x, y, hw, h1, h2 => walk_at hw.2 (by simpa using h1) (by simpa using h2)
def Must (T : Dct (Str × Int) (List (Str × Int))) (x y : Str × Int) : Prop := y ∈ (aget T.l x).getD default
theorem trace_walk {T : Dct (Str × Int) (List (Str × Int))} {b : Str × Int} (t : TabOk T) (hb : (aget T.l b).isSome = true) : ∀ (n i : Nat) (x : Str × Int), i < n → ((comeN T b).l.map (·.1))[i]? = some x →
    ∃ l, (trF (comeN T b) n (some x)).reverse = l ++ [x] ∧ Walk (Must T) (l ++ [x]) ∧ (l ++ [x]).head? = some b ∧ l.length ≤ i
  | 0, i, x, h, _ => absurd h (Nat.not_lt_zero _)
  | n + 1, i, x, hi, hx => by
    have ok := cm_ok t hb fuel
    rw [List.getElem?_map] at hx
    obtain ⟨e, he, ex⟩ := Option.map_eq_some_iff.mp hx
    have ha : aget (comeN T b).l e.1 = some e.2 := aget_at ok.nd he
    rw [trF, List.reverse_cons, ← ex, ha]
    by_cases h0 : i = 0
    · subst h0
      have h1 := ok.hd
      have he2 : (cmS T b fuel)[0]? = some e := he
      rw [he2] at h1
      cases h1
      refine ⟨[], ?_, walk_one, rfl, Nat.zero_le _⟩
      show (trF (comeN T b) n none).reverse ++ [b] = _
      rw [tr_none]; rfl
    · obtain ⟨w, e1, e2, e3⟩ := ok.pred i e he h0
      obtain ⟨j, hj⟩ := List.getElem?_of_mem e2
      have hjl := lt_of_get hj
      rw [List.length_map, List.length_take] at hjl
      rw [List.map_take, List.getElem?_take_of_lt (by omega)] at hj
      obtain ⟨l, l1, l2, l3, l4⟩ := trace_walk t hb n j w (by omega) hj
      rw [e1]
      refine ⟨l ++ [w], ?_, ?_, ?_, by rw [List.length_append]; show l.length + 1 ≤ i; omega⟩
      · show (trF (comeN T b) n (some w)).reverse ++ [e.1] = _
        rw [l1]
      · rw [List.append_assoc]
        exact walk_app l2 (walk_two e3)
      · cases l with
        | nil => exact l3
        | cons a r => exact l3
structure WalkOk (pl : Plan) (c : List (Str × Int)) : Prop where
  st : ∀ (i : Nat) (x y : Str × Int), c[i]? = some x → c[i + 1]? = some y → y ∈ folN (obN pl) x
  len : 3 ≤ c.length ∧ c.length ≤ 200
  ends : ∃ (nm : Str) (j : Nat), c[0]? = some (nm, 0) ∧ c[c.length - 1]? = some (nm, 0) ∧ 0 < j ∧ j < c.length - 1 ∧ c[j]? = some (nm, 1)
  rm : ∀ r ∈ c, RoomOk pl r
theorem chain_ok {pl : Plan} (h : PlanOk pl) (tw : ∀ q ∈ pl.d.l, q.e.l.length = 2) (sm : pl.d.l.length ≤ 26) {q : Pt} (m : q ∈ pl.d.l) {c : List (Str × Int)} (e : chainN (tableN pl) q.a = some c) : WalkOk pl c := by
  have t := tb_ok h tw
  have h0 : (aget (tableN pl).l (q.a, 0)).isSome = true := tb_has m (.inl rfl)
  have h1 : (aget (tableN pl).l (q.a, 1)).isSome = true := tb_has m (.inr rfl)
  have hf := fuel_is
  have tl : (tableN pl).l.length ≤ 52 := by
    have h1 := flat_le (tbOf pl) 2 pl.d.l fun q _ => by unfold tbOf; rw [List.length_map, rng_len]; exact Nat.le_refl _
    show (pl.d.l.flatMap (tbOf pl)).length ≤ 52
    omega
  have cl : ∀ b, (aget (tableN pl).l b).isSome = true → (comeN (tableN pl) b).l.length ≤ 52 := fun b hb => by
    have ok := cm_ok t hb fuel
    have h1 : ((cmS (tableN pl) b fuel).map (·.1)).length ≤ ((tableN pl).l.map (·.1)).length := ok.nd.length_le_of_subset fun r m => aget_keys.mp (ok.sub r m)
    rw [List.length_map, List.length_map] at h1
    exact Nat.le_trans h1 tl
  unfold chainN at e
  split at e
  · cases e
  · rename_i c1
    split at e
    · cases e
    · rename_i c2
      have k1 : ((q.a, 1) : Str × Int) ∈ (comeN (tableN pl) (q.a, 0)).l.map (·.1) := aget_keys.mp (nn_ c1)
      have k2 : ((q.a, 0) : Str × Int) ∈ (comeN (tableN pl) (q.a, 1)).l.map (·.1) := aget_keys.mp (nn_ c2)
      obtain ⟨i, hi⟩ := List.getElem?_of_mem k1
      obtain ⟨j, hj⟩ := List.getElem?_of_mem k2
      have hil := lt_of_get hi
      have hjl := lt_of_get hj
      rw [List.length_map] at hil hjl
      have l1 := cl _ h0
      have l2 := cl _ h1
      obtain ⟨A, a1, a2, a3, a4⟩ := trace_walk t h0 fuel i _ (by omega) hi
      obtain ⟨B, b1, b2, b3, b4⟩ := trace_walk t h1 fuel j _ (by omega) hj
      have e := Option.some.inj e
      unfold traceN at e
      rw [a1, b1] at e
      have hA : ∃ A', A = (q.a, 0) :: A' := by
        cases A with
        | nil => have : ((q.a, 1) : Str × Int) = (q.a, 0) := Option.some.inj a3; exact absurd (congrArg Prod.snd this) (by show ¬ (1 : Int) = 0; decide)
        | cons x r => have : x = (q.a, 0) := Option.some.inj a3; exact ⟨r, by rw [this]⟩
      have hB : ∃ B', B = (q.a, 1) :: B' := by
        cases B with
        | nil => have : ((q.a, 0) : Str × Int) = (q.a, 1) := Option.some.inj b3; exact absurd (congrArg Prod.snd this) (by show ¬ (0 : Int) = 1; decide)
        | cons x r => have : x = (q.a, 1) := Option.some.inj b3; exact ⟨r, by rw [this]⟩
      obtain ⟨A', rfl⟩ := hA
      obtain ⟨B', rfl⟩ := hB
      have ec : cut ((q.a, 1) :: B' ++ [(q.a, 0)]) (some 1) none = B' ++ [(q.a, 0)] := cut_one _ _
      rw [ec] at e
      have w : Walk (Must (tableN pl)) (((q.a, 0) :: A') ++ (q.a, 1) :: (B' ++ [(q.a, 0)])) := walk_app a2 b2
      have e2 : c = ((q.a, 0) :: A') ++ (q.a, 1) :: (B' ++ [(q.a, 0)]) := by rw [← e, List.append_assoc]; rfl
      have rooms : ∀ r ∈ c, RoomOk pl r := by
        have st : ∀ (n : Nat) (x : Str × Int), c[n]? = some x → RoomOk pl x := by
          intro n
          induction n with
          | zero =>
            intro x hx
            rw [e2] at hx
            have : x = (q.a, 0) := (Option.some.inj hx).symm
            rw [this]
            exact ⟨⟨q, m, rfl⟩, .inl rfl⟩
          | succ n ih =>
            intro x hx
            have hl := lt_of_get hx
            have hp : c[n]? = some c[n] := List.getElem?_eq_getElem (by omega)
            have rp := ih _ hp
            have := walk_at (by rw [← e2] at w; exact w) hp hx
            unfold Must at this
            rw [(tb_room rp).2] at this
            exact fol_room h tw rp this
        intro r mr
        obtain ⟨n, hn⟩ := List.getElem?_of_mem mr
        exact st n r hn
      have hlen : c.length = A'.length + 1 + (B'.length + 1 + 1) := by rw [e2, List.length_append, List.length_cons, List.length_cons, List.length_append]; rfl
      rw [List.length_cons] at a4 b4
      refine ⟨fun n x y hx hy => ?_, ⟨by omega, by omega⟩, ⟨q.a, A'.length + 1, by rw [e2]; rfl, ?_, by omega, by omega, ?_⟩, rooms⟩
      · have := walk_at (by rw [← e2] at w; exact w) hx hy
        unfold Must at this
        rw [(tb_room (rooms x (List.mem_of_getElem? hx))).2] at this
        exact this
      · rw [hlen, e2, List.getElem?_append_right (by rw [List.length_cons]; omega), List.length_cons]
        rw [show A'.length + 1 + (B'.length + 1 + 1) - 1 - (A'.length + 1) = B'.length + 1 by omega, List.getElem?_cons_succ, List.getElem?_append_right (Nat.le_refl _), Nat.sub_self]; rfl
      · rw [e2, List.getElem?_append_right (by rw [List.length_cons]; exact Nat.le_refl _), List.length_cons, Nat.sub_self]; rfl
theorem all_snd_ok {pl : Plan} (h : PlanOk pl) (tw : ∀ q ∈ pl.d.l, q.e.l.length = 2) (sm : pl.d.l.length ≤ 26) {ys : List (Str × Int)} (e : allN pl = .snd ys) : WalkOk pl ys := by
  unfold allN at e
  split at e
  · rename_i c hc
    cases e
    obtain ⟨q, m, e2⟩ := List.exists_of_findSome?_eq_some hc
    exact chain_ok h tw sm m e2
  · cases e

/-! ### k33 -/
def ntB (q : Pt) : Bool := !decide (((q.e.l.length : Nat) : Int) = 2)
def notTwo (pl : Plan) : Option Pt := pl.d.l.find? ntB
def ntO (pl : Plan) (s : Sl) : Out := match notTwo pl with
  | some q => .exc ⟨"NotTwo", "name", XA.of q.a⟩
  | none => .val s
section
variable {pl : Plan} {q x : Pt} {i : Nat} {s : Sl}
theorem nt_val (h : notTwo pl = none) : ntO pl s = .val s := by unfold ntO; rw [h]
theorem nt_exc (h : notTwo pl = some q) : ntO pl s = .exc ⟨"NotTwo", "name", XA.of q.a⟩ := by unfold ntO; rw [h]
theorem nt_step (hx : pl.d.l[i]? = some x) (hN : (pl.d.l.take i).find? ntB = none) (c : (!decide (((x.e.l.length : Nat) : Int) = 2)) = false) : (pl.d.l.take (i + 1)).find? ntB = none := by
  rw [List.take_add_one, hx, List.find?_append, hN]
  show List.find? ntB [x] = none
  rw [List.find?_cons, show ntB x = false from c]; rfl
theorem nt_found (hx : pl.d.l[i]? = some x) (hN : (pl.d.l.take i).find? ntB = none) (c : (!decide (((x.e.l.length : Nat) : Int) = 2)) = true) : ntO pl s = .exc ⟨"NotTwo", "name", XA.of x.a⟩ := by
  refine nt_exc ?_
  unfold notTwo
  have e : pl.d.l = pl.d.l.take i ++ x :: pl.d.l.drop (i + 1) := by
    have hl := lt_of_get hx
    have e2 : pl.d.l[i] = x := by rw [List.getElem?_eq_getElem hl] at hx; exact Option.some.inj hx
    rw [← e2, ← List.drop_eq_getElem_cons hl, List.take_append_drop]
  rw [e, List.find?_append, hN, List.find?_cons, show ntB x = true from c]; rfl
theorem nt_end (hN : (pl.d.l.take pl.d.l.length).find? ntB = none) : ntO pl s = .val s := by
  rw [List.take_length] at hN
  exact nt_val hN
theorem nt_all (h : notTwo pl = none) : ∀ q ∈ pl.d.l, q.e.l.length = 2 := fun q m => by
  have := List.find?_eq_none.mp h q m
  unfold ntB at this
  simp at this
  omega
theorem nt_none (h : ∀ q ∈ pl.d.l, q.e.l.length = 2) : notTwo pl = none := List.find?_eq_none.mpr fun q m => by
  unfold ntB
  rw [h q m]; decide
theorem nt_pos (h : notTwo pl = some q) : 0 < pl.d.l.length := List.length_pos_of_mem (List.mem_of_find?_eq_some h)
end
theorem at_last {α : Type} [Inhabited α] {l : List α} (h : 0 < l.length) : atI l (-1) = some (l.getD (l.length - 1) default) := by
  unfold atI
  have e : ixN l.length (-1) = some (l.length - 1) := by
    unfold ixN
    rw [if_neg (by decide), if_pos (by omega)]
    exact congrArg some (by omega)
  rw [e]
  show l[l.length - 1]? = _
  rw [List.getD_eq_getElem?_getD, List.getElem?_eq_getElem (by omega)]; rfl
/-! other points -/
def manyN (n : Int) : Int := ([1, 3, 4, 5, 6] : List Int).getD (n / 60 % 5).toNat 0
def othS (ps : List Pt) (n : Int) : Nat → List Pt × Int
  | 0 => (ps, n)
  | k + 1 => let r := othS ps n k
    let at_ := (r.2 / 2 % ((r.1.length : Nat) : Int)).toNat
    let q := r.1.getD at_ default
    (r.1.set at_ (T5.mk q.a q.b q.c q.d (Tup.mk (plS (r.2 / 300) (manyN r.2).toNat))), r.2 * 16807 % 2147483629)
theorem many_in (n : Int) : 1 ≤ manyN n ∧ manyN n ≤ 6 ∧ manyN n ≠ 2 := by
  unfold manyN
  rcases (show n / 60 % 5 = 0 ∨ n / 60 % 5 = 1 ∨ n / 60 % 5 = 2 ∨ n / 60 % 5 = 3 ∨ n / 60 % 5 = 4 by omega) with h | h | h | h | h <;> rw [h] <;> decide
theorem oth_len (ps : List Pt) (n : Int) : ∀ k, (othS ps n k).1.length = ps.length
  | 0 => rfl
  | k + 1 => by show (List.set _ _ _).length = _; rw [List.length_set, oth_len ps n k]
section
variable {ps : Tup Pt} {n N at_ mn : Int} {F : List Pt} {i : Nat}
theorem oth_nn (h : 0 ≤ n) : ∀ i, 0 ≤ (othS ps.l n i).2
  | 0 => h
  | i + 1 => by show 0 ≤ (othS ps.l n i).2 * 16807 % 2147483629; omega
theorem oth_many (h : mn = ([1, 3, 4, 5, 6] : List Int).getD (N / 60 % 5).toNat 0) : 0 ≤ mn ∧ mn ≤ 6 := by
  have := many_in N
  unfold manyN at this
  omega
theorem oth_at (hp : 0 ≤ n ∧ 1 ≤ ps.l.length ∧ ps.l.length ≤ 63) (hF : F = (othS ps.l n i).1) (ha : at_ = N / 2 % ((F.length : Nat) : Int)) : ixN F.length at_ = some at_.toNat ∧ atI F at_ = some (F.getD at_.toNat default) := by
  have hl : F.length = ps.l.length := by rw [hF, oth_len]
  have h0 : 0 ≤ at_ := by rw [ha]; exact Int.emod_nonneg _ (by omega)
  have h1 : at_ < ((F.length : Nat) : Int) := by rw [ha]; exact Int.emod_lt_of_pos _ (by omega)
  exact ⟨ixN_nat h0 h1, atI_getD (d := default) h0 h1⟩
theorem oth_next {N2 : Int} (hF : F = (othS ps.l n i).1) (hN : N = (othS ps.l n i).2) (ha : at_ = N / 2 % ((F.length : Nat) : Int)) (hm : mn = ([1, 3, 4, 5, 6] : List Int).getD (N / 60 % 5).toNat 0) (h2 : N2 = N * 16807 % 2147483629) :
    F.set at_.toNat (T5.mk (F.getD at_.toNat default).a (F.getD at_.toNat default).b (F.getD at_.toNat default).c (F.getD at_.toNat default).d (Tup.mk (plS (N / 300) mn.toNat))) = (othS ps.l n (i + 1)).1 ∧ N2 = (othS ps.l n (i + 1)).2 := by
  subst h2 hm ha hF hN
  exact ⟨rfl, rfl⟩
end
theorem lw_pos {α : Type} {l : List α} (c : decide (((l.length : Nat) : Int) = 0) = false) : 1 ≤ l.length := by
  have := of_decide_eq_false c
  omega
theorem oth_inv {pl : Plan} (h : PlanOk pl) (p1 : 1 ≤ pl.d.l.length) (n : Int) : ∀ k, PlanOk (T4.mk pl.a pl.b pl.c (Tup.mk (othS pl.d.l n k).1)) ∧ (1 ≤ k → ∃ q ∈ (othS pl.d.l n k).1, q.e.l.length ≠ 2)
  | 0 => ⟨h, fun z => absurd z (by decide)⟩
  | k + 1 => by
    obtain ⟨ok, _⟩ := oth_inv h p1 n k
    have hl := oth_len pl.d.l n k
    generalize hr : othS pl.d.l n k = r at ok hl
    have e : othS pl.d.l n (k + 1) = (r.1.set (r.2 / 2 % ((r.1.length : Nat) : Int)).toNat (T5.mk (r.1.getD (r.2 / 2 % ((r.1.length : Nat) : Int)).toNat default).a (r.1.getD (r.2 / 2 % ((r.1.length : Nat) : Int)).toNat default).b (r.1.getD (r.2 / 2 % ((r.1.length : Nat) : Int)).toNat default).c (r.1.getD (r.2 / 2 % ((r.1.length : Nat) : Int)).toNat default).d (Tup.mk (plS (r.2 / 300) (manyN r.2).toNat))), r.2 * 16807 % 2147483629) := by rw [← hr]; rfl
    rw [e]
    have hlt : (r.2 / 2 % ((r.1.length : Nat) : Int)).toNat < r.1.length := by
      have := Int.emod_nonneg (r.2 / 2) (show ((r.1.length : Nat) : Int) ≠ 0 by omega)
      have := Int.emod_lt_of_pos (r.2 / 2) (show (0 : Int) < ((r.1.length : Nat) : Int) by omega)
      omega
    generalize (r.2 / 2 % ((r.1.length : Nat) : Int)).toNat = at_ at hlt
    have hm := many_in r.2
    have g0 : r.1[at_]? = some (r.1.getD at_ default) := by rw [List.getD_eq_getElem?_getD, List.getElem?_eq_getElem hlt]; rfl
    generalize r.1.getD at_ default = q0 at g0
    have hplen : (plS (r.2 / 300) (manyN r.2).toNat).length = (manyN r.2).toNat := plS_len _ _
    have hsix := plS_six (r.2 / 300) (manyN r.2).toNat
    generalize plS (r.2 / 300) (manyN r.2).toNat = pls at hplen hsix
    have m0 : q0 ∈ r.1 := List.mem_of_getElem? g0
    have nw : ∀ q, q ∈ r.1.set at_ (T5.mk q0.a q0.b q0.c q0.d (Tup.mk pls)) → q ∈ r.1 ∨ q = T5.mk q0.a q0.b q0.c q0.d (Tup.mk pls) := fun q m => List.mem_or_eq_of_mem_set m
    refine ⟨⟨ok.wd, ok.hg, ok.kp, ok.kl, fun q m => ?_, fun q m => ?_, fun q m => ?_, ?_, ?_⟩, fun _ => ⟨_, List.mem_set hlt _, by show pls.length ≠ 2; omega⟩⟩
    · rcases nw q m with m | rfl
      · exact ok.pt q m
      · exact ok.pt q0 m0
    · rcases nw q m with m | rfl
      · exact ok.pl q m
      · show 1 ≤ pls.length ∧ pls.length ≤ 6; omega
    · rcases nw q m with m | rfl
      · exact ok.ways q m
      · exact hsix
    · have : (r.1.set at_ (T5.mk q0.a q0.b q0.c q0.d (Tup.mk pls))).map (fun q => q.a) = r.1.map fun q => q.a := by
        rw [List.map_set]
        show (r.1.map fun q => q.a).set at_ q0.a = _
        refine List.ext_getElem? fun j => ?_
        by_cases z : at_ = j
        · subst z
          rw [List.getElem?_set_self (by rw [List.length_map]; exact hlt), List.getElem?_map, g0]; rfl
        · rw [List.getElem?_set_ne z]
      show ((r.1.set at_ _).map fun q => q.a).Nodup
      rw [this]
      exact ok.nm
    · show (r.1.set at_ _).length ≤ 63
      rw [List.length_set]; exact ok.dl
theorem oth_ok {pl ot : Plan} (h : PlanOk pl) {n : Int} (hn : 0 ≤ n) (p1 : 1 ≤ pl.d.l.length) (he : ot = T4.mk pl.a pl.b pl.c (Tup.mk (othS pl.d.l n (1 + n % 2).toNat).1)) : PlanOk ot ∧ ∃ q, notTwo ot = some q := by
  obtain ⟨ok, ex⟩ := oth_inv h p1 n (1 + n % 2).toNat
  subst he
  refine ⟨ok, ?_⟩
  obtain ⟨q, m, hq⟩ := ex (by omega)
  cases e : notTwo (T4.mk pl.a pl.b pl.c (Tup.mk (othS pl.d.l n (1 + n % 2).toNat).1)) with
  | some r => exact ⟨r, rfl⟩
  | none => exact absurd (nt_all e q m) hq

def outN {α : Type} [DecidableEq Str] (bad : List Str) (l : List (T5 Str Int Int Int α)) : List (T5 Str Int Int Int α) := (l.filter fun q => !decide (q.a ∈ bad)).map fun q => q
section
variable {α : Type} {bad : List Str} {l : List (T5 Str Int Int Int α)} {q : T5 Str Int Int Int α}
theorem out_mem (m : q ∈ outN bad l) : q ∈ l := by
  obtain ⟨r, hr, rfl⟩ := List.mem_map.mp m
  exact (List.mem_filter.mp hr).1
theorem out_not (m : q ∈ outN bad l) : q.a ∉ bad := by
  obtain ⟨r, hr, rfl⟩ := List.mem_map.mp m
  have := (List.mem_filter.mp hr).2
  simpa using this
theorem out_nodup (h : (l.map fun q => q.a).Nodup) : ((outN bad l).map fun q => q.a).Nodup := by
  unfold outN
  rw [List.map_map]
  exact List.Nodup.sublist (List.Sublist.map _ (List.filter_sublist)) h
theorem out_len (bad : List Str) (l : List (T5 Str Int Int Int α)) : (outN bad l).length ≤ l.length := by
  unfold outN
  rw [List.length_map]
  exact List.length_filter_le _ _
end
def badN (pl : Plan) : List Str := (pl.d.l.filter ntB).map fun q => q.a
theorem bad_head {pl : Plan} {q : Pt} (h : notTwo pl = some q) : (pl.d.l.filter ntB).head? = some q := by rw [List.head?_filter]; exact h
theorem bad_nm {pl : Plan} {q : Pt} (h : notTwo pl = some q) : (badN pl).getD 0 default = q.a := by
  have := bad_head h
  unfold badN
  cases e : pl.d.l.filter ntB with
  | nil => rw [e] at this; cases this
  | cons a r => rw [e] at this; cases this; rfl
theorem bad_at {pl : Plan} {q : Pt} (h : notTwo pl = some q) : atI (badN pl) 0 = some ((badN pl).getD 0 default) := by
  have := bad_head h
  refine atI_getD (d := default) (by decide) ?_
  unfold badN
  cases e : pl.d.l.filter ntB with
  | nil => rw [e] at this; cases this
  | cons a r => rw [List.length_map]; show (0 : Int) < ((r.length + 1 : Nat) : Int); omega
def leftN (pl : Plan) (bad : List Str) : Plan := T4.mk pl.a pl.b pl.c (Tup.mk (outN bad pl.d.l))
theorem left_ok {pl : Plan} {bad : List Str} (h : PlanOk pl) : PlanOk (leftN pl bad) := by
  have sub : ∀ q, q ∈ outN bad pl.d.l → q ∈ pl.d.l := fun q m => out_mem m
  refine ⟨h.wd, h.hg, h.kp, h.kl, fun q m => h.pt q (sub q m), fun q m => h.pl q (sub q m), fun q m => h.ways q (sub q m), ?_, ?_⟩
  · show ((outN bad pl.d.l).map fun q => q.a).Nodup
    exact out_nodup h.nm
  · have := out_len bad pl.d.l
    have := h.dl
    show (outN bad pl.d.l).length ≤ 63
    omega
theorem left_two (pl : Plan) : notTwo (leftN pl (badN pl)) = none := nt_none fun q m => by
  have m1 := out_mem m
  have m2 := out_not m
  by_cases e : ntB q = true
  · exact absurd (List.mem_map.mpr ⟨q, List.mem_filter.mpr ⟨m1, e⟩, rfl⟩) m2
  · unfold ntB at e
    simp at e
    omega
theorem all_nil {pl : Plan} (c : decide (((pl.d.l.length : Nat) : Int) = 0) = true) : twoRd (allN pl) = (some [], none) := by
  have e : pl.d.l = [] := List.length_eq_zero_iff.mp (by have := of_decide_eq_true c; omega)
  unfold allN
  rw [e]; rfl
theorem two_one {α β : Type} (g : Two α β) : (true && (decide ((2 : Int) = 2) && !decide ((twoRd g).1.isNone = (twoRd g).2.isNone))) = true := by
  cases g <;> rfl

section
variable {P : Program} {w : World} {K : PySem.W.Frag} {mg : Str → Option Value} {base : Heap}
/-! #### Right.box -/
abbrev s_Right_box : Stmt := inClass (top 17) 0
theorem sc_Right_box : FnScope ["self", "x", "y", "size"] ["self", "x", "y", "size"] (defScope s_Right_box) := ⟨rfl, rfl, rfl, by decide +kernel, rfl, by decide +kernel, by decide +kernel⟩
theorem gd_Right_box : gdB ["self", "x", "y", "size"] 4 (defScope s_Right_box) = true := by decide +kernel
def ok_Right_box : List Sl → Sl → Prop := fun as_ u_ => ∃ x : Int, ∃ y : Int, ∃ n : Int, as_ = [.sh WayO.right, .sh x, .sh y, .sh n] ∧ u_ = .sh (wbox WayO.right x y n)
theorem fn_Right_box {f : Addr} {fd : FuncData} (Z : Blt mg) (F : Fun K "box" "Right.box" s_Right_box f fd) : FnOk P w K mg base CX0 1 f fd ["self", "x", "y", "size"] (spT K ok_Right_box) := by
  refine fn_T F sc_Right_box (fun as s h => ?_) (fun as s h => ?_)
  · obtain ⟨x, y, n, rfl, _⟩ := h; rfl
  obtain ⟨x, y, n, rfl, rfl⟩ := h
  have G : Gd ⟨P, w, K, mg, base, ["self", "x", "y", "size"], defScope s_Right_box, fun _ => true, 0, (fun _ _ _ _ => False), true⟩ 4 := gd_of sc_Right_box.nd gd_Right_box
  show SX _ _ [.sh WayO.right, .sh x, .sh y, .sh n] _
  refine sx_ret (px_tup4 (pax_cons (px_add (px_v G 1 rfl (by decide) rfl (by trivial)) (px_int (i := 1))) (pax_cons (px_v G 2 rfl (by decide) rfl (by trivial)) (pax_cons (px_v G 3 rfl (by decide) rfl (by trivial)) (pax_cons (px_int (i := 1)) pax_nil (by intro _; rfl)) (by intro _; rfl)) (by intro _; rfl)) (by intro _; rfl))) ?_
  show Sl.sh _ = _
  subst_vars; rfl
/-! #### Left.box -/
abbrev s_Left_box : Stmt := inClass (top 18) 0
theorem sc_Left_box : FnScope ["self", "x", "y", "size"] ["self", "x", "y", "size"] (defScope s_Left_box) := ⟨rfl, rfl, rfl, by decide +kernel, rfl, by decide +kernel, by decide +kernel⟩
theorem gd_Left_box : gdB ["self", "x", "y", "size"] 4 (defScope s_Left_box) = true := by decide +kernel
def ok_Left_box : List Sl → Sl → Prop := fun as_ u_ => ∃ x : Int, ∃ y : Int, ∃ n : Int, as_ = [.sh WayO.left, .sh x, .sh y, .sh n] ∧ u_ = .sh (wbox WayO.left x y n)
theorem fn_Left_box {f : Addr} {fd : FuncData} (Z : Blt mg) (F : Fun K "box" "Left.box" s_Left_box f fd) : FnOk P w K mg base CX0 1 f fd ["self", "x", "y", "size"] (spT K ok_Left_box) := by
  refine fn_T F sc_Left_box (fun as s h => ?_) (fun as s h => ?_)
  · obtain ⟨x, y, n, rfl, _⟩ := h; rfl
  obtain ⟨x, y, n, rfl, rfl⟩ := h
  have G : Gd ⟨P, w, K, mg, base, ["self", "x", "y", "size"], defScope s_Left_box, fun _ => true, 0, (fun _ _ _ _ => False), true⟩ 4 := gd_of sc_Left_box.nd gd_Left_box
  show SX _ _ [.sh WayO.left, .sh x, .sh y, .sh n] _
  refine sx_ret (px_tup4 (pax_cons (px_sub (px_v G 1 rfl (by decide) rfl (by trivial)) (px_v G 3 rfl (by decide) rfl (by trivial))) (pax_cons (px_v G 2 rfl (by decide) rfl (by trivial)) (pax_cons (px_v G 3 rfl (by decide) rfl (by trivial)) (pax_cons (px_int (i := 1)) pax_nil (by intro _; rfl)) (by intro _; rfl)) (by intro _; rfl)) (by intro _; rfl))) ?_
  show Sl.sh _ = _
  subst_vars; rfl
abbrev s_Level___init__ : Stmt := inClass (top 19) 0
theorem sc_Level___init__ : FnScope ["self", "step"] ["self", "step"] (defScope s_Level___init__) := ⟨rfl, rfl, rfl, by decide +kernel, rfl, by decide +kernel, by decide +kernel⟩
/-! #### Level.box -/
abbrev s_Level_box : Stmt := inClass (top 19) 1
theorem sc_Level_box : FnScope ["self", "x", "y", "size"] ["self", "x", "y", "size"] (defScope s_Level_box) := ⟨rfl, rfl, rfl, by decide +kernel, rfl, by decide +kernel, by decide +kernel⟩
theorem gd_Level_box : gdB ["self", "x", "y", "size"] 4 (defScope s_Level_box) = true := by decide +kernel
def ok_Level_box : List Sl → Sl → Prop := fun as_ u_ => ∃ k : Int, ∃ x : Int, ∃ y : Int, ∃ n : Int, as_ = [.sh (WayO.level k), .sh x, .sh y, .sh n] ∧ u_ = .sh (wbox (WayO.level k) x y n)
theorem fn_Level_box {f : Addr} {fd : FuncData} (Z : Blt mg) (F : Fun K "box" "Level.box" s_Level_box f fd) {A_Level : Addr} (K_Level : CF K mg "Level" A_Level) (n_Level_step : NoAttr K A_Level "step") : FnOk P w K mg base CX0 1 f fd ["self", "x", "y", "size"] (spT K ok_Level_box) := by
  refine fn_T F sc_Level_box (fun as s h => ?_) (fun as s h => ?_)
  · obtain ⟨k, x, y, n, rfl, _⟩ := h; rfl
  obtain ⟨k, x, y, n, rfl, rfl⟩ := h
  have G : Gd ⟨P, w, K, mg, base, ["self", "x", "y", "size"], defScope s_Level_box, fun _ => true, 0, (fun _ _ _ _ => False), true⟩ 4 := gd_of sc_Level_box.nd gd_Level_box
  show SX _ _ [.sh (WayO.level k), .sh x, .sh y, .sh n] _
  refine sx_ret (px_tup4 (pax_cons (px_sub (px_v G 1 rfl (by decide) rfl (by trivial)) (px_fdiv (px_sub (px_v G 3 rfl (by decide) rfl (by trivial)) (px_int (i := 1))) (px_int (i := 2)) (by walk_at "sc_div"))) (pax_cons (px_add (px_v G 2 rfl (by decide) rfl (by trivial)) (px_attr (C := A_Level) (px_v G 0 rfl (by decide) rfl (by trivial)) K_Level n_Level_step rfl (by intro _; rfl))) (pax_cons (px_v G 3 rfl (by decide) rfl (by trivial)) (pax_cons (px_int (i := 1)) pax_nil (by intro _; rfl)) (by intro _; rfl)) (by intro _; rfl)) (by intro _; rfl))) ?_
  show Sl.sh _ = _
  subst_vars; rfl
abbrev s_Upright___init__ : Stmt := inClass (top 20) 0
theorem sc_Upright___init__ : FnScope ["self", "ends"] ["self", "ends"] (defScope s_Upright___init__) := ⟨rfl, rfl, rfl, by decide +kernel, rfl, by decide +kernel, by decide +kernel⟩
/-! #### Upright.box -/
abbrev s_Upright_box : Stmt := inClass (top 20) 1
theorem sc_Upright_box : FnScope ["self", "x", "y", "size"] ["self", "x", "y", "size"] (defScope s_Upright_box) := ⟨rfl, rfl, rfl, by decide +kernel, rfl, by decide +kernel, by decide +kernel⟩
theorem gd_Upright_box : gdB ["self", "x", "y", "size"] 4 (defScope s_Upright_box) = true := by decide +kernel
def ok_Upright_box : List Sl → Sl → Prop := fun as_ u_ => ∃ k : Bool, ∃ x : Int, ∃ y : Int, ∃ n : Int, as_ = [.sh (WayO.upright k), .sh x, .sh y, .sh n] ∧ u_ = .sh (wbox (WayO.upright k) x y n)
theorem fn_Upright_box {f : Addr} {fd : FuncData} (Z : Blt mg) (F : Fun K "box" "Upright.box" s_Upright_box f fd) {A_Upright : Addr} (K_Upright : CF K mg "Upright" A_Upright) (n_Upright_ends : NoAttr K A_Upright "ends") : FnOk P w K mg base CX0 1 f fd ["self", "x", "y", "size"] (spT K ok_Upright_box) := by
  refine fn_T F sc_Upright_box (fun as s h => ?_) (fun as s h => ?_)
  · obtain ⟨k, x, y, n, rfl, _⟩ := h; rfl
  obtain ⟨k, x, y, n, rfl, rfl⟩ := h
  have G : Gd ⟨P, w, K, mg, base, ["self", "x", "y", "size"], defScope s_Upright_box, fun _ => true, 0, (fun _ _ _ _ => False), true⟩ 4 := gd_of sc_Upright_box.nd gd_Upright_box
  show SX _ _ [.sh (WayO.upright k), .sh x, .sh y, .sh n] _
  refine sx_if (Ly.pt_val (px_attr (C := A_Upright) (px_v G 0 rfl (by decide) rfl (by trivial)) K_Upright n_Upright_ends rfl (by intro _; rfl)) (by intro _ _; rfl)) (fun c0 => ?_) (fun c0 => ?_)
  · skip
    refine sx_ret (px_tup4 (pax_cons (px_v G 1 rfl (by decide) rfl (by trivial)) (pax_cons (px_sub (px_v G 2 rfl (by decide) rfl (by trivial)) (px_v G 3 rfl (by decide) rfl (by trivial))) (pax_cons (px_int (i := 1)) (pax_cons (px_v G 3 rfl (by decide) rfl (by trivial)) pax_nil (by intro _; rfl)) (by intro _; rfl)) (by intro _; rfl)) (by intro _; rfl))) ?_
    show Sl.sh _ = _
    rw [c0]; rfl
  · skip
    refine sx_nil ?_
    show SX _ _ [.sh (WayO.upright k), .sh x, .sh y, .sh n] _
    refine sx_ret (px_tup4 (pax_cons (px_v G 1 rfl (by decide) rfl (by trivial)) (pax_cons (px_add (px_v G 2 rfl (by decide) rfl (by trivial)) (px_int (i := 1))) (pax_cons (px_int (i := 1)) (pax_cons (px_v G 3 rfl (by decide) rfl (by trivial)) pax_nil (by intro _; rfl)) (by intro _; rfl)) (by intro _; rfl)) (by intro _; rfl))) ?_
    show Sl.sh _ = _
    rw [c0]; rfl
/-! #### way_of -/
abbrev s_way_of : Stmt := top 21
theorem sc_way_of : FnScope ["word"] ["word"] (defScope s_way_of) := ⟨rfl, rfl, rfl, by decide +kernel, rfl, by decide +kernel, by decide +kernel⟩
theorem gd_way_of : gdB ["word"] 1 (defScope s_way_of) = true := by decide +kernel
def ok_way_of : List Sl → Sl → Prop := fun as_ u_ => ∃ wd : Str, as_ = [.sh wd] ∧ u_ = .sh (wayOf wd)
theorem fn_way_of {f : Addr} {fd : FuncData} (Z : Blt mg) (F : Fun K "way_of" "way_of" s_way_of f fd) (N_Left : CalN0 K mg "Left") (N_Level : CalN1 P w K mg base 1 "Level" "step") (N_Right : CalN0 K mg "Right") (N_Upright : CalN1 P w K mg base 1 "Upright" "ends") : FnOk P w K mg base CX0 3 f fd ["word"] (spT K ok_way_of) := by
  have g_Left : (defScope s_way_of).names.lookup ("Left" : Str) = some .globalImplicit := by decide +kernel
  have g_Level : (defScope s_way_of).names.lookup ("Level" : Str) = some .globalImplicit := by decide +kernel
  have g_Right : (defScope s_way_of).names.lookup ("Right" : Str) = some .globalImplicit := by decide +kernel
  have g_Upright : (defScope s_way_of).names.lookup ("Upright" : Str) = some .globalImplicit := by decide +kernel
  refine fn_T F sc_way_of (fun as s h => ?_) (fun as s h => ?_)
  · obtain ⟨wd, rfl, _⟩ := h; rfl
  obtain ⟨wd, rfl, rfl⟩ := h
  have G : Gd ⟨P, w, K, mg, base, ["word"], defScope s_way_of, fun _ => true, 2, (fun _ _ _ _ => False), true⟩ 1 := gd_of sc_way_of.nd gd_way_of
  show SX _ _ [.sh wd] _
  refine sx_if (Ly.pt_cmp c_eqS (px_v G 0 rfl (by decide) rfl (by trivial)) (px_str (by decide +kernel)) (nomark _)) (fun c0 => ?_) (fun c0 => ?_)
  · skip
    refine sx_ret (px_new0 (x := WayO.right) N_Right rfl rfl g_Right (by decide)) ?_
    show Sl.sh _ = _
    unfold wayOf; rw [if_pos (of_decide_eq_true c0)]
  · skip
    refine sx_nil ?_
    show SX _ _ [.sh wd] _
    refine sx_if (Ly.pt_cmp c_eqS (px_v G 0 rfl (by decide) rfl (by trivial)) (px_str (by decide +kernel)) (nomark _)) (fun c1 => ?_) (fun c1 => ?_)
    · skip
      refine sx_ret (px_new0 (x := WayO.left) N_Left rfl rfl g_Left (by decide)) ?_
      show Sl.sh _ = _
      unfold wayOf; rw [if_neg (of_decide_eq_false c0), if_pos (of_decide_eq_true c1)]
    · skip
      refine sx_nil ?_
      show SX _ _ [.sh wd] _
      refine sx_if (Ly.pt_cmp c_eqS (px_v G 0 rfl (by decide) rfl (by trivial)) (px_str (by decide +kernel)) (nomark _)) (fun c2 => ?_) (fun c2 => ?_)
      · skip
        refine sx_ret (px_new1 (x := (WayO.level _)) N_Level (Nat.le_of_ble_eq_true rfl) rfl rfl g_Level (px_sub (px_int (i := 0)) (px_int (i := 1))) (by decide) (by intro _; rfl)) ?_
        show Sl.sh _ = _
        unfold wayOf; rw [if_neg (of_decide_eq_false c0), if_neg (of_decide_eq_false c1), if_pos (of_decide_eq_true c2)]
      · skip
        refine sx_nil ?_
        show SX _ _ [.sh wd] _
        refine sx_if (Ly.pt_cmp c_eqS (px_v G 0 rfl (by decide) rfl (by trivial)) (px_str (by decide +kernel)) (nomark _)) (fun c3 => ?_) (fun c3 => ?_)
        · skip
          refine sx_ret (px_new1 (x := (WayO.level _)) N_Level (Nat.le_of_ble_eq_true rfl) rfl rfl g_Level (px_int (i := 1)) (by decide) (by intro _; rfl)) ?_
          show Sl.sh _ = _
          unfold wayOf; rw [if_neg (of_decide_eq_false c0), if_neg (of_decide_eq_false c1), if_neg (of_decide_eq_false c2), if_pos (of_decide_eq_true c3)]
        · skip
          refine sx_nil ?_
          show SX _ _ [.sh wd] _
          refine sx_ret (px_new1 (x := (WayO.upright _)) N_Upright (Nat.le_of_ble_eq_true rfl) rfl rfl g_Upright (Ly.px_cmp c_eqS (px_v G 0 rfl (by decide) rfl (by trivial)) (px_str (by decide +kernel)) (nomark _)) (by decide) (by intro _; rfl)) ?_
          show Sl.sh _ = _
          unfold wayOf; rw [if_neg (of_decide_eq_false c0), if_neg (of_decide_eq_false c1), if_neg (of_decide_eq_false c2), if_neg (of_decide_eq_false c3)]
/-! #### box_at -/
abbrev s_box_at : Stmt := top 22
theorem sc_box_at : FnScope ["way", "x", "y", "size"] ["way", "x", "y", "size"] (defScope s_box_at) := ⟨rfl, rfl, rfl, by decide +kernel, rfl, by decide +kernel, by decide +kernel⟩
theorem gd_box_at : gdB ["way", "x", "y", "size"] 4 (defScope s_box_at) = true := by decide +kernel
def ok_box_at : List Sl → Sl → Prop := fun as_ u_ => ∃ wd : Str, ∃ x : Int, ∃ y : Int, ∃ n : Int, as_ = [.sh wd, .sh x, .sh y, .sh n] ∧ u_ = .sh (boxAt wd x y n)
theorem fn_box_at {f : Addr} {fd : FuncData} (Z : Blt mg) (F : Fun K "box_at" "box_at" s_box_at f fd) {A_Left A_Level A_Right A_Upright : Addr} (K_Left : CF K mg "Left" A_Left) (K_Level : CF K mg "Level" A_Level) (K_Right : CF K mg "Right" A_Right) (K_Upright : CF K mg "Upright" A_Upright) (M_Left_box : Calm P w K mg base 1 A_Left "box" ok_Left_box) (M_Level_box : Calm P w K mg base 1 A_Level "box" ok_Level_box) (M_Right_box : Calm P w K mg base 1 A_Right "box" ok_Right_box) (M_Upright_box : Calm P w K mg base 1 A_Upright "box" ok_Upright_box) (C_way_of : Cal P w K mg base 3 "way_of" ok_way_of) : FnOk P w K mg base CX0 4 f fd ["way", "x", "y", "size"] (spT K ok_box_at) := by
  have g_way_of : (defScope s_box_at).names.lookup ("way_of" : Str) = some .globalImplicit := by decide +kernel
  refine fn_T F sc_box_at (fun as s h => ?_) (fun as s h => ?_)
  · obtain ⟨wd, x, y, n, rfl, _⟩ := h; rfl
  obtain ⟨wd, x, y, n, rfl, rfl⟩ := h
  have G : Gd ⟨P, w, K, mg, base, ["way", "x", "y", "size"], defScope s_box_at, fun _ => true, 3, (fun _ _ _ _ => False), true⟩ 4 := gd_of sc_box_at.nd gd_box_at
  show SX _ _ [.sh wd, .sh x, .sh y, .sh n] _
  cases hw : wayOf wd with
  | right =>
    refine sx_ret (px_meth (C := A_Right) ((px_call C_way_of (Nat.le_of_ble_eq_true rfl) g_way_of (pax_cons (px_v G 0 rfl (by decide) rfl (by trivial)) pax_nil (by intro _; rfl)) ⟨_, rfl, rfl⟩ (by decide) (by intro _; rfl) (by intro _; rfl)).to (congrArg Sl.sh hw)) K_Right rfl M_Right_box (Nat.le_of_ble_eq_true rfl) (pax_cons (px_v G 1 rfl (by decide) rfl (by trivial)) (pax_cons (px_v G 2 rfl (by decide) rfl (by trivial)) (pax_cons (px_v G 3 rfl (by decide) rfl (by trivial)) pax_nil (by intro _; rfl)) (by intro _; rfl)) (by intro _; rfl)) ⟨_, _, _, rfl, rfl⟩ (by intro _; rfl) (by intro _; rfl) (by intro _; rfl)) ?_
    show Sl.sh _ = Sl.sh (boxAt wd x y n)
    unfold boxAt; rw [hw]
  | left =>
    refine sx_ret (px_meth (C := A_Left) ((px_call C_way_of (Nat.le_of_ble_eq_true rfl) g_way_of (pax_cons (px_v G 0 rfl (by decide) rfl (by trivial)) pax_nil (by intro _; rfl)) ⟨_, rfl, rfl⟩ (by decide) (by intro _; rfl) (by intro _; rfl)).to (congrArg Sl.sh hw)) K_Left rfl M_Left_box (Nat.le_of_ble_eq_true rfl) (pax_cons (px_v G 1 rfl (by decide) rfl (by trivial)) (pax_cons (px_v G 2 rfl (by decide) rfl (by trivial)) (pax_cons (px_v G 3 rfl (by decide) rfl (by trivial)) pax_nil (by intro _; rfl)) (by intro _; rfl)) (by intro _; rfl)) ⟨_, _, _, rfl, rfl⟩ (by intro _; rfl) (by intro _; rfl) (by intro _; rfl)) ?_
    show Sl.sh _ = Sl.sh (boxAt wd x y n)
    unfold boxAt; rw [hw]
  | level k =>
    refine sx_ret (px_meth (C := A_Level) ((px_call C_way_of (Nat.le_of_ble_eq_true rfl) g_way_of (pax_cons (px_v G 0 rfl (by decide) rfl (by trivial)) pax_nil (by intro _; rfl)) ⟨_, rfl, rfl⟩ (by decide) (by intro _; rfl) (by intro _; rfl)).to (congrArg Sl.sh hw)) K_Level rfl M_Level_box (Nat.le_of_ble_eq_true rfl) (pax_cons (px_v G 1 rfl (by decide) rfl (by trivial)) (pax_cons (px_v G 2 rfl (by decide) rfl (by trivial)) (pax_cons (px_v G 3 rfl (by decide) rfl (by trivial)) pax_nil (by intro _; rfl)) (by intro _; rfl)) (by intro _; rfl)) ⟨_, _, _, _, rfl, rfl⟩ (by intro _; rfl) (by intro _; rfl) (by intro _; rfl)) ?_
    show Sl.sh _ = Sl.sh (boxAt wd x y n)
    unfold boxAt; rw [hw]
  | upright k =>
    refine sx_ret (px_meth (C := A_Upright) ((px_call C_way_of (Nat.le_of_ble_eq_true rfl) g_way_of (pax_cons (px_v G 0 rfl (by decide) rfl (by trivial)) pax_nil (by intro _; rfl)) ⟨_, rfl, rfl⟩ (by decide) (by intro _; rfl) (by intro _; rfl)).to (congrArg Sl.sh hw)) K_Upright rfl M_Upright_box (Nat.le_of_ble_eq_true rfl) (pax_cons (px_v G 1 rfl (by decide) rfl (by trivial)) (pax_cons (px_v G 2 rfl (by decide) rfl (by trivial)) (pax_cons (px_v G 3 rfl (by decide) rfl (by trivial)) pax_nil (by intro _; rfl)) (by intro _; rfl)) (by intro _; rfl)) ⟨_, _, _, _, rfl, rfl⟩ (by intro _; rfl) (by intro _; rfl) (by intro _; rfl)) ?_
    show Sl.sh _ = Sl.sh (boxAt wd x y n)
    unfold boxAt; rw [hw]
/-! #### cells_of -/
abbrev s_cells_of : Stmt := top 1
theorem sc_cells_of : FnScope ["box", "cells", "row", "x", "y", "wide", "high", "column"] ["box"] (defScope s_cells_of) := ⟨rfl, rfl, rfl, by decide +kernel, rfl, by decide +kernel, by decide +kernel⟩
theorem gd_cells_of : gdB ["box", "cells", "row", "x", "y", "wide", "high", "column"] 7 (defScope s_cells_of) = true := by decide +kernel
def ok_cells_of : List Sl → Sl → Prop := fun as_ u_ => ∃ b : Box, as_ = [.sh b] ∧ u_ = .ow (cellsOf b) ∧ (BoxS b)
theorem fn_cells_of {f : Addr} {fd : FuncData} (Z : Blt mg) (F : Fun K "cells_of" "cells_of" s_cells_of f fd) : FnOk P w K mg base CX0 1 f fd ["box"] (spT K ok_cells_of) := by
  have g_range : (defScope s_cells_of).names.lookup ("range" : Str) = some .globalImplicit := by decide +kernel
  refine fn_T F sc_cells_of (fun as s h => ?_) (fun as s h => ?_)
  · obtain ⟨b, rfl, _⟩ := h; rfl
  obtain ⟨b, rfl, rfl, hpre⟩ := h
  have G : Gd ⟨P, w, K, mg, base, ["box", "cells", "row", "x", "y", "wide", "high", "column"], defScope s_cells_of, fun _ => true, 0, (fun _ _ _ _ => False), true⟩ 7 := gd_of sc_cells_of.nd gd_cells_of
  show SX _ _ [.sh b, .un, .un, .un, .un, .un, .un, .un] _
  refine sx_asg (px_v G 0 rfl (by decide) rfl (by trivial)) (gx_tup (gxs_cons (gx_n G 3 rfl (by decide) (by trivial)) (gxs_cons (gx_n G 4 rfl (by decide) (by trivial)) (gxs_cons (gx_n G 5 rfl (by decide) (by trivial)) (gxs_cons (gx_n G 6 rfl (by decide) (by trivial)) gxs_nil (by intro _; rfl)) (by intro _; rfl)) (by intro _; rfl)) (by intro _; rfl)) (by intro _; rfl) (by intro _; rfl)) (by intro _; rfl) (by intro _; rfl) (by intro _; rfl) ?_
  show SX _ _ [.sh b, .un, .un, .sh b.a, .sh b.b, .sh b.c, .sh b.d, .un] _
  refine sx_setO G 1 rfl (by decide) (px_lst (α := (Int × Int)) (xs := []) pax_nil rfl (by show 0 ≤ sizeLine; decide)) (by intro _; rfl) fun cells_1 hcells_1 => ?_
  show SX _ _ [.sh b, .ow cells_1, .un, .sh b.a, .sh b.b, .sh b.c, .sh b.d, .un] _
  refine sx_forL (w := [2]) (fun i τ => ∃ acc : List (Int × Int), τ = [.sh b, .ow acc, .un, .sh b.a, .sh b.b, .sh b.c, .sh b.d, .un] ∧ acc = cellsTo b i) (ix_range2 g_range Z.range_ (px_v G 4 rfl (by decide) rfl (by trivial)) (px_add (px_v G 4 rfl (by decide) rfl (by trivial)) (px_v G 6 rfl (by decide) rfl (by trivial))) (by unfold BoxS at hpre; omega)) ⟨_, rfl, by (subst_vars; rfl)⟩ ?_ (by intro _ _; rfl) ?_
  · rintro i x _ hx ⟨acc, rfl, hacc⟩
    refine ⟨_, (gx_n G 2 rfl (by decide) (by trivial)), ?_⟩
    show SX _ _ [.sh b, .ow acc, .sh x, .sh b.a, .sh b.b, .sh b.c, .sh b.d, .un] _
    refine sx_extend G 1 rfl (by decide) rfl (px_lcM (own := [("column", 7)]) (w := [7]) G.nd (blkOk_by (by show blkC ["box", "cells", "row", "x", "y", "wide", "high", "column"] (defScope s_cells_of) _ _ = true; decide +kernel)) (ix_range2 g_range Z.range_ (px_v G 3 rfl (by decide) rfl (by trivial)) (px_add (px_v G 3 rfl (by decide) rfl (by trivial)) (px_v G 5 rfl (by decide) rfl (by trivial))) (by unfold BoxS at hpre; omega)) (by exact row_len hpre) (by decide) (fun x hx => ⟨_, (gx_w G (by rfl) 7 (by rfl) (by show L2.Loc (relS _ (defScope s_cells_of)) _; decide +kernel) (by first | exact .inr (by show (relS _ (defScope s_cells_of)).names.lookup _ = _; decide +kernel) | exact .inl (by show (List.lookup _ _ == _) = true; decide +kernel)) (by trivial)), (px_tup2 (pax_cons (px_w G (by rfl) 7 (by rfl) (by show Vis (relS _ (defScope s_cells_of)) _; decide +kernel) (by rfl) (by trivial)) (pax_cons (px_w G (by rfl) 2 (by rfl) (by show Vis (relS _ (defScope s_cells_of)) _; decide +kernel) (by rfl) (by trivial)) pax_nil (by intro _; rfl)) (by intro _; rfl)))⟩) (by intro _ _; rfl)) (by exact cells_app hpre hx hacc) (by intro _; rfl) rfl (by intro _; rfl) (by intro _; rfl) ?_
    show SX _ _ [.sh b, .ow (acc ++ _), .sh x, .sh b.a, .sh b.b, .sh b.c, .sh b.d, .un] _
    refine sx_wk (τ' := [.sh b, .ow (acc ++ _), .un, .sh b.a, .sh b.b, .sh b.c, .sh b.d, .un]) ⟨.inr rfl, .inr rfl, .inl rfl, .inr rfl, .inr rfl, .inr rfl, .inr rfl, .inl rfl, trivial⟩ (sx_nil ?_)
    exact ⟨_, rfl, by (rw [hacc]; exact (cellsTo_succ hx).symm)⟩
  · rintro _ ⟨acc, rfl, hacc⟩
    show SX _ _ [.sh b, .ow acc, .un, .sh b.a, .sh b.b, .sh b.c, .sh b.d, .un] _
    refine sx_retV G 1 rfl (by decide) rfl (fun z => by cases z) ?_
    show Sl.ow _ = _
    rw [hacc]; exact congrArg Sl.ow (cellsTo_all b)
/-! #### bits -/
abbrev s_bits : Stmt := top 4
theorem sc_bits : FnScope ["box", "wide", "found", "x", "y"] ["box", "wide"] (defScope s_bits) := ⟨rfl, rfl, rfl, by decide +kernel, rfl, by decide +kernel, by decide +kernel⟩
theorem gd_bits : gdB ["box", "wide", "found", "x", "y"] 5 (defScope s_bits) = true := by decide +kernel
def ok_bits : List Sl → Sl → Prop := fun as_ u_ => ∃ b : Box, ∃ wd : Int, as_ = [.sh b, .sh wd] ∧ u_ = .sh (((bitsN b wd : Nat) : Int)) ∧ (InS b wd 20)
theorem fn_bits {f : Addr} {fd : FuncData} (Z : Blt mg) (F : Fun K "bits" "bits" s_bits f fd) (C_cells_of : Cal P w K mg base 1 "cells_of" ok_cells_of) : FnOk P w K mg base CX0 2 f fd ["box", "wide"] (spT K ok_bits) := by
  have g_cells_of : (defScope s_bits).names.lookup ("cells_of" : Str) = some .globalImplicit := by decide +kernel
  refine fn_T F sc_bits (fun as s h => ?_) (fun as s h => ?_)
  · obtain ⟨b, wd, rfl, _⟩ := h; rfl
  obtain ⟨b, wd, rfl, rfl, hpre⟩ := h
  have G : Gd ⟨P, w, K, mg, base, ["box", "wide", "found", "x", "y"], defScope s_bits, fun _ => true, 1, (fun _ _ _ _ => False), true⟩ 5 := gd_of sc_bits.nd gd_bits
  show SX _ _ [.sh b, .sh wd, .un, .un, .un] _
  refine sx_set G 2 rfl (by decide) (px_int (i := 0)) (by intro _; rfl) fun found_1 hfound_1 => ?_
  show SX _ _ [.sh b, .sh wd, .sh found_1, .un, .un] _
  refine sx_forL (w := [3, 4]) (fun i τ => ∃ F : Int, τ = [.sh b, .sh wd, .sh F, .un, .un] ∧ F = (((((cellsOf b).take i).map fun z => 2 ^ ex wd z).sum : Nat) : Int)) (Ly.ix_list (px_pub (px_call C_cells_of (Nat.le_of_ble_eq_true rfl) g_cells_of (pax_cons (px_v G 0 rfl (by decide) rfl (by trivial)) pax_nil (by intro _; rfl)) ⟨_, rfl, rfl, by exact hpre.boxS⟩ (by decide) (by intro _; rfl) (by intro _; rfl)))) ⟨_, rfl, by (subst_vars; rfl)⟩ ?_ (by intro _ _; rfl) ?_
  · rintro i x _ hx ⟨F, rfl, hF⟩
    refine ⟨_, (gx_tup (gxs_cons (gx_n G 3 rfl (by decide) (by trivial)) (gxs_cons (gx_n G 4 rfl (by decide) (by trivial)) gxs_nil (by intro _; rfl)) (by intro _; rfl)) (by intro _; rfl) (by intro _; rfl)), ?_⟩
    show SX _ _ [.sh b, .sh wd, .sh F, .sh x.1, .sh x.2] _
    refine sx_set G 2 rfl (by decide) (px_add (px_v G 2 rfl (by decide) rfl (by trivial)) (px_shl (px_int (i := 1)) (px_add (px_mul (px_v G 4 rfl (by decide) rfl (by trivial)) (px_v G 1 rfl (by decide) rfl (by trivial)) (by exact .inr (by have := hpre; unfold InS at this; omega))) (px_v G 3 rfl (by decide) rfl (by trivial))) (by exact shl_ok hpre hx))) (by intro _; rfl) fun found_2 hfound_2 => ?_
    show SX _ _ [.sh b, .sh wd, .sh found_2, .sh x.1, .sh x.2] _
    refine sx_wk (τ' := [.sh b, .sh wd, .sh found_2, .un, .un]) ⟨.inr rfl, .inr rfl, .inr rfl, .inl rfl, .inl rfl, trivial⟩ (sx_nil ?_)
    exact ⟨found_2, rfl, by exact bits_step hx hF (by assumption)⟩
  · rintro _ ⟨F, rfl, hF⟩
    show SX _ _ [.sh b, .sh wd, .sh F, .un, .un] _
    refine sx_ret (px_v G 2 rfl (by decide) rfl (by trivial)) ?_
    show Sl.sh _ = _
    rw [hF, List.take_length]; rfl
/-! #### lies_in -/
abbrev s_lies_in : Stmt := top 3
theorem sc_lies_in : FnScope ["box", "wide", "high"] ["box", "wide", "high"] (defScope s_lies_in) := ⟨rfl, rfl, rfl, by decide +kernel, rfl, by decide +kernel, by decide +kernel⟩
theorem gd_lies_in : gdB ["box", "wide", "high"] 3 (defScope s_lies_in) = true := by decide +kernel
def ok_lies_in : List Sl → Sl → Prop := fun as_ u_ => ∃ x : Box, ∃ wd : Int, ∃ hg : Int, as_ = [.sh x, .sh wd, .sh hg] ∧ u_ = .sh (liesIn x wd hg)
theorem fn_lies_in {f : Addr} {fd : FuncData} (Z : Blt mg) (F : Fun K "lies_in" "lies_in" s_lies_in f fd) : FnOk P w K mg base CX0 1 f fd ["box", "wide", "high"] (spT K ok_lies_in) := by
  refine fn_T F sc_lies_in (fun as s h => ?_) (fun as s h => ?_)
  · obtain ⟨x, wd, hg, rfl, _⟩ := h; rfl
  obtain ⟨x, wd, hg, rfl, rfl⟩ := h
  have G : Gd ⟨P, w, K, mg, base, ["box", "wide", "high"], defScope s_lies_in, fun _ => true, 0, (fun _ _ _ _ => False), true⟩ 3 := gd_of sc_lies_in.nd gd_lies_in
  show SX _ _ [.sh x, .sh wd, .sh hg] _
  refine sx_ret (Ly.px_and (Ly.px_cmp c_ge (px_fld 0 (px_v G 0 rfl (by decide) rfl (by trivial)) (px_int (i := 0)) rfl rfl (fun _ _ => rfl)) (px_int (i := 0)) (nomark _)) fun hs1 => (Ly.px_and (Ly.px_cmp c_ge (px_fld 1 (px_v G 0 rfl (by decide) rfl (by trivial)) (px_int (i := 1)) rfl rfl (fun _ _ => rfl)) (px_int (i := 0)) (nomark _)) fun hs2 => (Ly.px_and (Ly.px_cmp c_le (px_add (px_fld 0 (px_v G 0 rfl (by decide) rfl (by trivial)) (px_int (i := 0)) rfl rfl (fun _ _ => rfl)) (px_fld 2 (px_v G 0 rfl (by decide) rfl (by trivial)) (px_int (i := 2)) rfl rfl (fun _ _ => rfl))) (px_v G 1 rfl (by decide) rfl (by trivial)) (nomark _)) fun hs3 => (px_one (Ly.px_cmp c_le (px_add (px_fld 1 (px_v G 0 rfl (by decide) rfl (by trivial)) (px_int (i := 1)) rfl rfl (fun _ _ => rfl)) (px_fld 3 (px_v G 0 rfl (by decide) rfl (by trivial)) (px_int (i := 3)) rfl rfl (fun _ _ => rfl))) (px_v G 2 rfl (by decide) rfl (by trivial)) (nomark _)))))) ?_
  show Sl.sh _ = _
  subst_vars; rfl
/-! #### meet -/
abbrev s_meet : Stmt := top 2
theorem sc_meet : FnScope ["one", "other", "across"] ["one", "other"] (defScope s_meet) := ⟨rfl, rfl, rfl, by decide +kernel, rfl, by decide +kernel, by decide +kernel⟩
theorem gd_meet : gdB ["one", "other", "across"] 3 (defScope s_meet) = true := by decide +kernel
def ok_meet : List Sl → Sl → Prop := fun as_ u_ => ∃ x : Box, ∃ y : Box, as_ = [.sh x, .sh y] ∧ u_ = .sh (meet x y)
theorem fn_meet {f : Addr} {fd : FuncData} (Z : Blt mg) (F : Fun K "meet" "meet" s_meet f fd) : FnOk P w K mg base CX0 1 f fd ["one", "other"] (spT K ok_meet) := by
  refine fn_T F sc_meet (fun as s h => ?_) (fun as s h => ?_)
  · obtain ⟨x, y, rfl, _⟩ := h; rfl
  obtain ⟨x, y, rfl, rfl⟩ := h
  have G : Gd ⟨P, w, K, mg, base, ["one", "other", "across"], defScope s_meet, fun _ => true, 0, (fun _ _ _ _ => False), true⟩ 3 := gd_of sc_meet.nd gd_meet
  show SX _ _ [.sh x, .sh y, .un] _
  refine sx_set G 2 rfl (by decide) (Ly.px_and (Ly.px_cmp c_lt (px_fld 0 (px_v G 0 rfl (by decide) rfl (by trivial)) (px_int (i := 0)) rfl rfl (fun _ _ => rfl)) (px_add (px_fld 0 (px_v G 1 rfl (by decide) rfl (by trivial)) (px_int (i := 0)) rfl rfl (fun _ _ => rfl)) (px_fld 2 (px_v G 1 rfl (by decide) rfl (by trivial)) (px_int (i := 2)) rfl rfl (fun _ _ => rfl))) (nomark _)) fun hs1 => (px_one (Ly.px_cmp c_lt (px_fld 0 (px_v G 1 rfl (by decide) rfl (by trivial)) (px_int (i := 0)) rfl rfl (fun _ _ => rfl)) (px_add (px_fld 0 (px_v G 0 rfl (by decide) rfl (by trivial)) (px_int (i := 0)) rfl rfl (fun _ _ => rfl)) (px_fld 2 (px_v G 0 rfl (by decide) rfl (by trivial)) (px_int (i := 2)) rfl rfl (fun _ _ => rfl))) (nomark _)))) (by intro _; rfl) fun across_1 hacross_1 => ?_
  show SX _ _ [.sh x, .sh y, .sh across_1] _
  refine sx_ret (Ly.px_and (px_v G 2 rfl (by decide) rfl (by trivial)) fun hs2 => (Ly.px_and (Ly.px_cmp c_lt (px_fld 1 (px_v G 0 rfl (by decide) rfl (by trivial)) (px_int (i := 1)) rfl rfl (fun _ _ => rfl)) (px_add (px_fld 1 (px_v G 1 rfl (by decide) rfl (by trivial)) (px_int (i := 1)) rfl rfl (fun _ _ => rfl)) (px_fld 3 (px_v G 1 rfl (by decide) rfl (by trivial)) (px_int (i := 3)) rfl rfl (fun _ _ => rfl))) (nomark _)) fun hs3 => (px_one (Ly.px_cmp c_lt (px_fld 1 (px_v G 1 rfl (by decide) rfl (by trivial)) (px_int (i := 1)) rfl rfl (fun _ _ => rfl)) (px_add (px_fld 1 (px_v G 0 rfl (by decide) rfl (by trivial)) (px_int (i := 1)) rfl rfl (fun _ _ => rfl)) (px_fld 3 (px_v G 0 rfl (by decide) rfl (by trivial)) (px_int (i := 3)) rfl rfl (fun _ _ => rfl))) (nomark _))))) ?_
  show Sl.sh _ = _
  subst_vars; rfl
/-! #### point_of -/
abbrev s_point_of : Stmt := top 24
theorem sc_point_of : FnScope ["plan", "name", "point"] ["plan", "name"] (defScope s_point_of) := ⟨rfl, rfl, rfl, by decide +kernel, rfl, by decide +kernel, by decide +kernel⟩
theorem gd_point_of : gdB ["plan", "name", "point"] 3 (defScope s_point_of) = true := by decide +kernel
def ok_point_of : List Sl → Sl → Prop := fun as_ u_ => ∃ pl : Plan, ∃ nm : Str, as_ = [.sh pl, .sh nm] ∧ u_ = .sh (pointOf pl nm)
theorem fn_point_of {f : Addr} {fd : FuncData} (Z : Blt mg) (F : Fun K "point_of" "point_of" s_point_of f fd) : FnOk P w K mg base CX0 1 f fd ["plan", "name"] (spT K ok_point_of) := by
  refine fn_T F sc_point_of (fun as s h => ?_) (fun as s h => ?_)
  · obtain ⟨pl, nm, rfl, _⟩ := h; rfl
  obtain ⟨pl, nm, rfl, rfl⟩ := h
  have G : Gd ⟨P, w, K, mg, base, ["plan", "name", "point"], defScope s_point_of, fun _ => true, 0, (fun _ _ _ _ => False), true⟩ 3 := gd_of sc_point_of.nd gd_point_of
  show SX _ _ [.sh pl, .sh nm, .un] _
  refine sx_forL (w := [2]) (fun i τ => τ = [.sh pl, .sh nm, .un] ∧ (pl.d.l.take i).find? (fun q => decide (q.a = nm)) = none) (Ly.ix_tup (px_fld 3 (px_v G 0 rfl (by decide) rfl (by trivial)) (px_int (i := 3)) rfl rfl (fun _ _ => rfl))) ⟨rfl, by rfl⟩ ?_ (by intro _ _; rfl) ?_
  · rintro i x _ hx ⟨rfl, hN⟩
    refine ⟨_, (gx_n G 2 rfl (by decide) (by trivial)), ?_⟩
    show SX _ _ [.sh pl, .sh nm, .sh x] _
    refine sx_if (Ly.pt_cmp c_eqS (px_fld 0 (px_v G 2 rfl (by decide) rfl (by trivial)) (px_int (i := 0)) rfl rfl (fun _ _ => rfl)) (px_v G 1 rfl (by decide) rfl (by trivial)) (nomark _)) (fun c0 => ?_) (fun c0 => ?_)
    · skip
      refine sx_ret (px_some (px_v G 2 rfl (by decide) rfl (by trivial))) ?_
      show Sl.sh _ = _
      exact congrArg Sl.sh (find_yes hx hN c0).symm
    · skip
      refine sx_nil ?_
      show SX _ _ [.sh pl, .sh nm, .sh x] _
      refine sx_wk (τ' := [.sh pl, .sh nm, .un]) ⟨.inr rfl, .inr rfl, .inl rfl, trivial⟩ (sx_nil ?_)
      exact ⟨rfl, by exact find_no hx hN c0⟩
  · rintro _ ⟨rfl, hN⟩
    show SX _ _ [.sh pl, .sh nm, .un] _
    refine sx_ret (px_none (α := Pt) px_non) ?_
    show Sl.sh _ = _
    rw [List.take_length] at hN; unfold pointOf; rw [hN]
/-! #### placed -/
abbrev s_placed : Stmt := top 25
theorem sc_placed : FnScope ["point", "place"] ["point", "place"] (defScope s_placed) := ⟨rfl, rfl, rfl, by decide +kernel, rfl, by decide +kernel, by decide +kernel⟩
theorem gd_placed : gdB ["point", "place"] 2 (defScope s_placed) = true := by decide +kernel
def ok_placed : List Sl → Sl → Prop := fun as_ u_ => ∃ q : Pt, ∃ k : Int, as_ = [.sh q, .sh k] ∧ u_ = .sh (placedN q k) ∧ (0 ≤ k ∧ k < (q.e.l.length : Nat))
theorem fn_placed {f : Addr} {fd : FuncData} (Z : Blt mg) (F : Fun K "placed" "placed" s_placed f fd) (C_box_at : Cal P w K mg base 4 "box_at" ok_box_at) : FnOk P w K mg base CX0 5 f fd ["point", "place"] (spT K ok_placed) := by
  have g_box_at : (defScope s_placed).names.lookup ("box_at" : Str) = some .globalImplicit := by decide +kernel
  have g_len : (defScope s_placed).names.lookup ("len" : Str) = some .globalImplicit := by decide +kernel
  refine fn_T F sc_placed (fun as s h => ?_) (fun as s h => ?_)
  · obtain ⟨q, k, rfl, _⟩ := h; rfl
  obtain ⟨q, k, rfl, rfl, hpre⟩ := h
  have G : Gd ⟨P, w, K, mg, base, ["point", "place"], defScope s_placed, fun _ => true, 4, (fun _ _ _ _ => False), true⟩ 2 := gd_of sc_placed.nd gd_placed
  show SX _ _ [.sh q, .sh k] _
  refine sx_ret (px_call C_box_at (Nat.le_of_ble_eq_true rfl) g_box_at (pax_cons (px_fld 0 (px_ixTup (px_fld 4 (px_v G 0 rfl (by decide) rfl (by trivial)) (px_int (i := 4)) rfl rfl (fun _ _ => rfl)) (px_v G 1 rfl (by decide) rfl (by trivial)) (by exact atI_getD (d := default) hpre.1 hpre.2) (fun _ _ => rfl)) (px_int (i := 0)) rfl rfl (fun _ _ => rfl)) (pax_cons (px_fld 1 (px_v G 0 rfl (by decide) rfl (by trivial)) (px_int (i := 1)) rfl rfl (fun _ _ => rfl)) (pax_cons (px_fld 2 (px_v G 0 rfl (by decide) rfl (by trivial)) (px_int (i := 2)) rfl rfl (fun _ _ => rfl)) (pax_cons (px_lenS g_len Z.len_ (px_fld 0 (px_v G 0 rfl (by decide) rfl (by trivial)) (px_int (i := 0)) rfl rfl (fun _ _ => rfl))) pax_nil (by intro _; rfl)) (by intro _; rfl)) (by intro _; rfl)) (by intro _; rfl)) ⟨_, _, _, _, rfl, rfl⟩ (by decide) (by intro _; rfl) (by intro _; rfl)) ?_
  show Sl.sh _ = _
  subst_vars; rfl
/-! #### box_of -/
abbrev s_box_of : Stmt := top 26
theorem sc_box_of : FnScope ["plan", "name", "place"] ["plan", "name", "place"] (defScope s_box_of) := ⟨rfl, rfl, rfl, by decide +kernel, rfl, by decide +kernel, by decide +kernel⟩
theorem gd_box_of : gdB ["plan", "name", "place"] 3 (defScope s_box_of) = true := by decide +kernel
def ok_box_of : List Sl → Sl → Prop := fun as_ u_ => ∃ pl : Plan, ∃ nm : Str, ∃ k : Int, as_ = [.sh pl, .sh nm, .sh k] ∧ u_ = .sh (placedN ((pointOf pl nm).getD default) k) ∧ (∃ q, pointOf pl nm = some q ∧ 0 ≤ k ∧ k < (q.e.l.length : Nat))
theorem fn_box_of {f : Addr} {fd : FuncData} (Z : Blt mg) (F : Fun K "box_of" "box_of" s_box_of f fd) (C_point_of : Cal P w K mg base 1 "point_of" ok_point_of) (C_placed : Cal P w K mg base 5 "placed" ok_placed) : FnOk P w K mg base CX0 6 f fd ["plan", "name", "place"] (spT K ok_box_of) := by
  have g_placed : (defScope s_box_of).names.lookup ("placed" : Str) = some .globalImplicit := by decide +kernel
  have g_point_of : (defScope s_box_of).names.lookup ("point_of" : Str) = some .globalImplicit := by decide +kernel
  refine fn_T F sc_box_of (fun as s h => ?_) (fun as s h => ?_)
  · obtain ⟨pl, nm, k, rfl, _⟩ := h; rfl
  obtain ⟨pl, nm, k, rfl, rfl, hpre⟩ := h
  have G : Gd ⟨P, w, K, mg, base, ["plan", "name", "place"], defScope s_box_of, fun _ => true, 5, (fun _ _ _ _ => False), true⟩ 3 := gd_of sc_box_of.nd gd_box_of
  show SX _ _ [.sh pl, .sh nm, .sh k] _
  refine sx_ret (px_call C_placed (Nat.le_of_ble_eq_true rfl) g_placed (pax_cons (px_get (px_call C_point_of (Nat.le_of_ble_eq_true rfl) g_point_of (pax_cons (px_v G 0 rfl (by decide) rfl (by trivial)) (pax_cons (px_v G 1 rfl (by decide) rfl (by trivial)) pax_nil (by intro _; rfl)) (by intro _; rfl)) ⟨_, _, rfl, rfl⟩ (by decide) (by intro _; rfl) (by intro _; rfl)) (by obtain ⟨q, e, _⟩ := hpre; rw [e]; rfl)) (pax_cons (px_v G 2 rfl (by decide) rfl (by trivial)) pax_nil (by intro _; rfl)) (by intro _; rfl)) ⟨_, _, rfl, rfl, by obtain ⟨q, e, h1, h2⟩ := hpre; rw [e]; exact ⟨h1, h2⟩⟩ (by decide) (by intro _; rfl) (by intro _; rfl)) ?_
  show Sl.sh _ = _
  subst_vars; rfl
/-! #### shut_bits -/
abbrev s_shut_bits : Stmt := top 27
theorem sc_shut_bits : FnScope ["plan", "found", "box", "point"] ["plan"] (defScope s_shut_bits) := ⟨rfl, rfl, rfl, by decide +kernel, rfl, by decide +kernel, by decide +kernel⟩
theorem gd_shut_bits : gdB ["plan", "found", "box", "point"] 4 (defScope s_shut_bits) = true := by decide +kernel
def ok_shut_bits : List Sl → Sl → Prop := fun as_ u_ => ∃ pl : Plan, as_ = [.sh pl] ∧ u_ = .sh (((shutN pl : Nat) : Int)) ∧ (PlanOk pl)
theorem fn_shut_bits {f : Addr} {fd : FuncData} (Z : Blt mg) (F : Fun K "shut_bits" "shut_bits" s_shut_bits f fd) (C_bits : Cal P w K mg base 2 "bits" ok_bits) : FnOk P w K mg base CX0 3 f fd ["plan"] (spT K ok_shut_bits) := by
  have g_bits : (defScope s_shut_bits).names.lookup ("bits" : Str) = some .globalImplicit := by decide +kernel
  refine fn_T F sc_shut_bits (fun as s h => ?_) (fun as s h => ?_)
  · obtain ⟨pl, rfl, _⟩ := h; rfl
  obtain ⟨pl, rfl, rfl, hpre⟩ := h
  have G : Gd ⟨P, w, K, mg, base, ["plan", "found", "box", "point"], defScope s_shut_bits, fun _ => true, 2, (fun _ _ _ _ => False), true⟩ 4 := gd_of sc_shut_bits.nd gd_shut_bits
  show SX _ _ [.sh pl, .un, .un, .un] _
  refine sx_set G 1 rfl (by decide) (px_int (i := 0)) (by intro _; rfl) fun found_1 hfound_1 => ?_
  show SX _ _ [.sh pl, .sh found_1, .un, .un] _
  refine sx_forL (w := [2]) (fun i τ => ∃ F : Int, τ = [.sh pl, .sh F, .un, .un] ∧ F = ((orL ((pl.c.l.take i).map fun b => bitsN b pl.a) : Nat) : Int)) (Ly.ix_tup (px_fld 2 (px_v G 0 rfl (by decide) rfl (by trivial)) (px_int (i := 2)) rfl rfl (fun _ _ => rfl))) ⟨_, rfl, by (subst_vars; rfl)⟩ ?_ (by intro _ _; rfl) ?_
  · rintro i x _ hx ⟨F, rfl, hF⟩
    refine ⟨_, (gx_n G 2 rfl (by decide) (by trivial)), ?_⟩
    show SX _ _ [.sh pl, .sh F, .sh x, .un] _
    refine sx_set G 1 rfl (by decide) (px_bor (px_v G 1 rfl (by decide) rfl (by trivial)) (px_call C_bits (Nat.le_of_ble_eq_true rfl) g_bits (pax_cons (px_v G 2 rfl (by decide) rfl (by trivial)) (pax_cons (px_fld 0 (px_v G 0 rfl (by decide) rfl (by trivial)) (px_int (i := 0)) rfl rfl (fun _ _ => rfl)) pax_nil (by intro _; rfl)) (by intro _; rfl)) ⟨_, _, rfl, rfl, by (have := hpre.kp _ (List.mem_of_getElem? hx); exact this.up)⟩ (by decide) (by intro _; rfl) (by intro _; rfl))) (by intro _; rfl) fun found_2 hfound_2 => ?_
    show SX _ _ [.sh pl, .sh found_2, .sh x, .un] _
    refine sx_wk (τ' := [.sh pl, .sh found_2, .un, .un]) ⟨.inr rfl, .inr rfl, .inl rfl, .inl rfl, trivial⟩ (sx_nil ?_)
    exact ⟨found_2, rfl, by (rw [map_take hx, or_step, ← bitOr_nat, ← hF]; assumption)⟩
  · rintro _ ⟨F, rfl, hF⟩
    show SX _ _ [.sh pl, .sh F, .un, .un] _
    refine sx_forL (w := [3]) (fun i τ => ∃ F2 : Int, τ = [.sh pl, .sh F2, .un, .un] ∧ F2 = ((orL ((pl.c.l.map fun b => bitsN b pl.a) ++ (pl.d.l.take i).map fun q => bitsN (ptBox q) pl.a) : Nat) : Int)) (Ly.ix_tup (px_fld 3 (px_v G 0 rfl (by decide) rfl (by trivial)) (px_int (i := 3)) rfl rfl (fun _ _ => rfl))) ⟨_, rfl, by (rw [hF, List.take_length]; simp)⟩ ?_ (by intro _ _; rfl) ?_
    · rintro i x _ hx ⟨F2, rfl, hF2⟩
      refine ⟨_, (gx_n G 3 rfl (by decide) (by trivial)), ?_⟩
      show SX _ _ [.sh pl, .sh F2, .un, .sh x] _
      refine sx_set G 1 rfl (by decide) (px_bor (px_v G 1 rfl (by decide) rfl (by trivial)) (px_call C_bits (Nat.le_of_ble_eq_true rfl) g_bits (pax_cons (px_tup4 (pax_cons (px_fld 1 (px_v G 3 rfl (by decide) rfl (by trivial)) (px_int (i := 1)) rfl rfl (fun _ _ => rfl)) (pax_cons (px_fld 2 (px_v G 3 rfl (by decide) rfl (by trivial)) (px_int (i := 2)) rfl rfl (fun _ _ => rfl)) (pax_cons (px_int (i := 1)) (pax_cons (px_int (i := 1)) pax_nil (by intro _; rfl)) (by intro _; rfl)) (by intro _; rfl)) (by intro _; rfl))) (pax_cons (px_fld 0 (px_v G 0 rfl (by decide) rfl (by trivial)) (px_int (i := 0)) rfl rfl (fun _ _ => rfl)) pax_nil (by intro _; rfl)) (by intro _; rfl)) ⟨_, _, rfl, rfl, by exact (hpre.ptBox (List.mem_of_getElem? hx)).up⟩ (by decide) (by intro _; rfl) (by intro _; rfl))) (by intro _; rfl) fun found_3 hfound_3 => ?_
      show SX _ _ [.sh pl, .sh found_3, .un, .sh x] _
      refine sx_wk (τ' := [.sh pl, .sh found_3, .un, .un]) ⟨.inr rfl, .inr rfl, .inl rfl, .inl rfl, trivial⟩ (sx_nil ?_)
      exact ⟨found_3, rfl, by (rw [map_take hx, ← List.append_assoc, or_step, ← bitOr_nat, ← hF2]; assumption)⟩
    · rintro _ ⟨F2, rfl, hF2⟩
      show SX _ _ [.sh pl, .sh F2, .un, .un] _
      refine sx_ret (px_v G 1 rfl (by decide) rfl (by trivial)) ?_
      show Sl.sh _ = _
      rw [hF2, List.take_length]; unfold shutN allShut; rw [List.map_append, List.map_map]; rfl
/-! #### open_bits -/
abbrev s_open_bits : Stmt := top 28
theorem sc_open_bits : FnScope ["plan", "point", "shut", "found", "place", "box"] ["plan", "point", "shut"] (defScope s_open_bits) := ⟨rfl, rfl, rfl, by decide +kernel, rfl, by decide +kernel, by decide +kernel⟩
theorem gd_open_bits : gdB ["plan", "point", "shut", "found", "place", "box"] 6 (defScope s_open_bits) = true := by decide +kernel
def ok_open_bits : List Sl → Sl → Prop := fun as_ u_ => ∃ pl : Plan, ∃ q : Pt, ∃ sb : Int, as_ = [.sh pl, .sh q, .sh sb] ∧ u_ = .ow (openBits pl q) ∧ (PlanOk pl ∧ q ∈ pl.d.l ∧ sb = ((shutN pl : Nat) : Int))
theorem fn_open_bits {f : Addr} {fd : FuncData} (Z : Blt mg) (F : Fun K "open_bits" "open_bits" s_open_bits f fd) (C_lies_in : Cal P w K mg base 1 "lies_in" ok_lies_in) (C_bits : Cal P w K mg base 2 "bits" ok_bits) (C_placed : Cal P w K mg base 5 "placed" ok_placed) : FnOk P w K mg base CX0 6 f fd ["plan", "point", "shut"] (spT K ok_open_bits) := by
  have g_bits : (defScope s_open_bits).names.lookup ("bits" : Str) = some .globalImplicit := by decide +kernel
  have g_len : (defScope s_open_bits).names.lookup ("len" : Str) = some .globalImplicit := by decide +kernel
  have g_lies_in : (defScope s_open_bits).names.lookup ("lies_in" : Str) = some .globalImplicit := by decide +kernel
  have g_placed : (defScope s_open_bits).names.lookup ("placed" : Str) = some .globalImplicit := by decide +kernel
  have g_range : (defScope s_open_bits).names.lookup ("range" : Str) = some .globalImplicit := by decide +kernel
  refine fn_T F sc_open_bits (fun as s h => ?_) (fun as s h => ?_)
  · obtain ⟨pl, q, sb, rfl, _⟩ := h; rfl
  obtain ⟨pl, q, sb, rfl, rfl, hpre⟩ := h
  have G : Gd ⟨P, w, K, mg, base, ["plan", "point", "shut", "found", "place", "box"], defScope s_open_bits, fun _ => true, 5, (fun _ _ _ _ => False), true⟩ 6 := gd_of sc_open_bits.nd gd_open_bits
  show SX _ _ [.sh pl, .sh q, .sh sb, .un, .un, .un] _
  have hq := hpre.1.pl q hpre.2.1
  refine sx_setO G 3 rfl (by decide) (px_dnew (κ := Int) (α := Int)) (by intro _; rfl) fun found_1 hfound_1 => ?_
  show SX _ _ [.sh pl, .sh q, .sh sb, .ow found_1, .un, .un] _
  refine sx_forL (w := [4]) (fun i τ => ∃ D : Dct Int Int, τ = [.sh pl, .sh q, .sh sb, .ow D, .un, .un] ∧ D = bitsOf pl q ((rng 0 (q.e.l.length : Int).toNat).take i)) (ix_range1 g_range Z.range_ (px_lenU g_len Z.len_ (px_fld 4 (px_v G 1 rfl (by decide) rfl (by trivial)) (px_int (i := 4)) rfl rfl (fun _ _ => rfl))) (by exact ⟨by omega, by omega⟩)) ⟨_, rfl, by (subst_vars; rfl)⟩ ?_ (by intro _ _; rfl) ?_
  · rintro i x _ hx ⟨D, rfl, hD⟩
    refine ⟨_, (gx_n G 4 rfl (by decide) (by trivial)), ?_⟩
    show SX _ _ [.sh pl, .sh q, .sh sb, .ow D, .sh x, .un] _
    refine sx_set G 5 rfl (by decide) (px_call C_placed (Nat.le_of_ble_eq_true rfl) g_placed (pax_cons (px_v G 1 rfl (by decide) rfl (by trivial)) (pax_cons (px_v G 4 rfl (by decide) rfl (by trivial)) pax_nil (by intro _; rfl)) (by intro _; rfl)) ⟨_, _, rfl, rfl, by have := rng_get hx; exact ⟨by omega, by omega⟩⟩ (by decide) (by intro _; rfl) (by intro _; rfl)) (by intro _; rfl) fun box_1 hbox_1 => ?_
    show SX _ _ [.sh pl, .sh q, .sh sb, .ow D, .sh x, .sh box_1] _
    refine sx_if (pt_w (Ly.pw_and (Ly.pt_val (px_call C_lies_in (Nat.le_of_ble_eq_true rfl) g_lies_in (pax_cons (px_v G 5 rfl (by decide) rfl (by trivial)) (pax_cons (px_fld 0 (px_v G 0 rfl (by decide) rfl (by trivial)) (px_int (i := 0)) rfl rfl (fun _ _ => rfl)) (pax_cons (px_fld 1 (px_v G 0 rfl (by decide) rfl (by trivial)) (px_int (i := 1)) rfl rfl (fun _ _ => rfl)) pax_nil (by intro _; rfl)) (by intro _; rfl)) (by intro _; rfl)) ⟨_, _, _, rfl, rfl⟩ (by decide) (by intro _; rfl) (by intro _; rfl)) (by intro _ _; rfl)) fun hs1 => (Ly.pw_and1 (Ly.pt_cmp c_eqI (px_band (px_call C_bits (Nat.le_of_ble_eq_true rfl) g_bits (pax_cons (px_v G 5 rfl (by decide) rfl (by trivial)) (pax_cons (px_fld 0 (px_v G 0 rfl (by decide) rfl (by trivial)) (px_int (i := 0)) rfl rfl (fun _ _ => rfl)) pax_nil (by intro _; rfl)) (by intro _; rfl)) ⟨_, _, rfl, rfl, by first | exact (liesIn_ok hpre.1 hpre.2.1 hbox_1 (by assumption)).up | exact (liesIn_ok hpre.1 hpre.2.1 hbox_1 (and_l c0)).up⟩ (by decide) (by intro _; rfl) (by intro _; rfl)) (px_v G 2 rfl (by decide) rfl (by trivial))) (px_int (i := 0)) (nomark _))))) (fun c0 => ?_) (fun c0 => ?_)
    · skip
      refine sx_dput G 3 rfl (by decide) rfl (px_call C_bits (Nat.le_of_ble_eq_true rfl) g_bits (pax_cons (px_v G 5 rfl (by decide) rfl (by trivial)) (pax_cons (px_fld 0 (px_v G 0 rfl (by decide) rfl (by trivial)) (px_int (i := 0)) rfl rfl (fun _ _ => rfl)) pax_nil (by intro _; rfl)) (by intro _; rfl)) ⟨_, _, rfl, rfl, by first | exact (liesIn_ok hpre.1 hpre.2.1 hbox_1 (by assumption)).up | exact (liesIn_ok hpre.1 hpre.2.1 hbox_1 (and_l c0)).up⟩ (by decide) (by intro _; rfl) (by intro _; rfl)) (px_v G 4 rfl (by decide) rfl (by trivial)) (by rw [hD, sizeLine_eq]; have := bits_len pl q ((rng 0 (q.e.l.length : Int).toNat).take i); rw [List.length_take] at this; have := (rng_get hx).1; omega) (by intro _; rfl) ?_
      show SX _ _ [.sh pl, .sh q, .sh sb, .ow (Dct.mk (aput D.l x ((bitsN box_1 pl.a : Nat) : Int))), .sh x, .sh box_1] _
      refine sx_nil ?_
      show SX _ _ [.sh pl, .sh q, .sh sb, .ow (Dct.mk (aput D.l x ((bitsN box_1 pl.a : Nat) : Int))), .sh x, .sh box_1] _
      refine sx_wk (τ' := [.sh pl, .sh q, .sh sb, .ow (Dct.mk (aput D.l x ((bitsN box_1 pl.a : Nat) : Int))), .un, .un]) ⟨.inr rfl, .inr rfl, .inr rfl, .inr rfl, .inl rfl, .inl rfl, trivial⟩ (sx_nil ?_)
      exact ⟨(Dct.mk (aput D.l x ((bitsN box_1 pl.a : Nat) : Int))), rfl, by (rw [hD]; obtain ⟨_, _, hsb⟩ := hpre; subst hsb; subst hbox_1; first | exact (bits_yes hx c0).symm | exact (bits_no hx c0).symm)⟩
    · skip
      refine sx_nil ?_
      show SX _ _ [.sh pl, .sh q, .sh sb, .ow D, .sh x, .sh box_1] _
      refine sx_wk (τ' := [.sh pl, .sh q, .sh sb, .ow D, .un, .un]) ⟨.inr rfl, .inr rfl, .inr rfl, .inr rfl, .inl rfl, .inl rfl, trivial⟩ (sx_nil ?_)
      exact ⟨D, rfl, by (rw [hD]; obtain ⟨_, _, hsb⟩ := hpre; subst hsb; subst hbox_1; first | exact (bits_yes hx c0).symm | exact (bits_no hx c0).symm)⟩
  · rintro _ ⟨D, rfl, hD⟩
    show SX _ _ [.sh pl, .sh q, .sh sb, .ow D, .un, .un] _
    refine sx_retV G 3 rfl (by decide) rfl (fun z => by cases z) ?_
    show Sl.ow _ = _
    rw [hD, List.take_length]; rfl
/-! #### open_places -/
abbrev s_open_places : Stmt := top 29
theorem sc_open_places : FnScope ["plan", "name"] ["plan", "name"] (defScope s_open_places) := ⟨rfl, rfl, rfl, by decide +kernel, rfl, by decide +kernel, by decide +kernel⟩
theorem gd_open_places : gdB ["plan", "name"] 2 (defScope s_open_places) = true := by decide +kernel
def ok_open_places : List Sl → Sl → Prop := fun as_ u_ => ∃ pl : Plan, ∃ nm : Str, as_ = [.sh pl, .sh nm] ∧ u_ = .ow (openPl pl nm) ∧ (PlanOk pl ∧ ∃ q, pointOf pl nm = some q)
theorem fn_open_places {f : Addr} {fd : FuncData} (Z : Blt mg) (F : Fun K "open_places" "open_places" s_open_places f fd) (C_point_of : Cal P w K mg base 1 "point_of" ok_point_of) (C_shut_bits : Cal P w K mg base 3 "shut_bits" ok_shut_bits) (C_open_bits : Cal P w K mg base 6 "open_bits" ok_open_bits) : FnOk P w K mg base CX0 7 f fd ["plan", "name"] (spT K ok_open_places) := by
  have g_list : (defScope s_open_places).names.lookup ("list" : Str) = some .globalImplicit := by decide +kernel
  have g_open_bits : (defScope s_open_places).names.lookup ("open_bits" : Str) = some .globalImplicit := by decide +kernel
  have g_point_of : (defScope s_open_places).names.lookup ("point_of" : Str) = some .globalImplicit := by decide +kernel
  have g_shut_bits : (defScope s_open_places).names.lookup ("shut_bits" : Str) = some .globalImplicit := by decide +kernel
  refine fn_T F sc_open_places (fun as s h => ?_) (fun as s h => ?_)
  · obtain ⟨pl, nm, rfl, _⟩ := h; rfl
  obtain ⟨pl, nm, rfl, rfl, hpre⟩ := h
  have G : Gd ⟨P, w, K, mg, base, ["plan", "name"], defScope s_open_places, fun _ => true, 6, (fun _ _ _ _ => False), true⟩ 2 := gd_of sc_open_places.nd gd_open_places
  show SX _ _ [.sh pl, .sh nm] _
  refine sx_ret (px_listD g_list Z.list_ (by decide +kernel) (px_pub (px_call C_open_bits (Nat.le_of_ble_eq_true rfl) g_open_bits (pax_cons (px_v G 0 rfl (by decide) rfl (by trivial)) (pax_cons (px_get (px_call C_point_of (Nat.le_of_ble_eq_true rfl) g_point_of (pax_cons (px_v G 0 rfl (by decide) rfl (by trivial)) (pax_cons (px_v G 1 rfl (by decide) rfl (by trivial)) pax_nil (by intro _; rfl)) (by intro _; rfl)) ⟨_, _, rfl, rfl⟩ (by decide) (by intro _; rfl) (by intro _; rfl)) (by obtain ⟨_, q, e⟩ := hpre; rw [e]; rfl)) (pax_cons (px_call C_shut_bits (Nat.le_of_ble_eq_true rfl) g_shut_bits (pax_cons (px_v G 0 rfl (by decide) rfl (by trivial)) pax_nil (by intro _; rfl)) ⟨_, rfl, rfl, by exact hpre.1⟩ (by decide) (by intro _; rfl) (by intro _; rfl)) pax_nil (by intro _; rfl)) (by intro _; rfl)) (by intro _; rfl)) ⟨_, _, _, rfl, rfl, by obtain ⟨h, q, e⟩ := hpre; rw [e]; exact ⟨h, List.mem_of_find?_eq_some e, rfl⟩⟩ (by decide) (by intro _; rfl) (by intro _; rfl)))) ?_
  show Sl.ow _ = _
  subst_vars; rfl
abbrev s_NotTwo___init__ : Stmt := inClass (top 8) 0
theorem sc_NotTwo___init__ : FnScope ["self", "name"] ["self", "name"] (defScope s_NotTwo___init__) := ⟨rfl, rfl, rfl, by decide +kernel, rfl, by decide +kernel, by decide +kernel⟩
/-! #### need_two -/
abbrev s_need_two : Stmt := top 31
theorem sc_need_two : FnScope ["plan", "point"] ["plan"] (defScope s_need_two) := ⟨rfl, rfl, rfl, by decide +kernel, rfl, by decide +kernel, by decide +kernel⟩
theorem gd_need_two : gdB ["plan", "point"] 2 (defScope s_need_two) = true := by decide +kernel
def ok_need_two : List Sl → List Sl → Out → Prop := fun as_ bs_ o_ => ∃ pl : Plan, as_ = [.sh pl] ∧ bs_ = [.un] ∧ o_ = ntO pl (.sh ())
theorem fn_need_two {f : Addr} {fd : FuncData} (Z : Blt mg) (F : Fun K "need_two" "need_two" s_need_two f fd) {A_NotTwo : Addr} (XC_NotTwo : XC K mg "NotTwo" A_NotTwo) (X1_NotTwo : X1 P w K mg base A_NotTwo "name") : FnOk P w K mg base (L2.CX P w) 3 f fd ["plan"] (spG K mg ok_need_two) := by
  have g_NotTwo : (defScope s_need_two).names.lookup ("NotTwo" : Str) = some .globalImplicit := by decide +kernel
  have g_len : (defScope s_need_two).names.lookup ("len" : Str) = some .globalImplicit := by decide +kernel
  refine fn_TG F sc_need_two (fun as as2 o h => ?_) (fun W as as2 o h => ?_)
  · obtain ⟨pl, rfl, rfl, _⟩ := h; exact ⟨rfl, Und.pins (und_cons und_nil)⟩
  obtain ⟨pl, rfl, rfl, rfl⟩ := h
  have G : Gd ⟨P, w, K, mg, base, ["plan", "point"], defScope s_need_two, fun _ => true, 2, W, true⟩ 2 := gd_of sc_need_two.nd gd_need_two
  show SX _ _ [.sh pl, .un] _
  refine sx_forL (w := [1]) (fun i τ => τ = [.sh pl, .un] ∧ (pl.d.l.take i).find? ntB = none) (Ly.ix_tup (px_fld 3 (px_v G 0 rfl (by decide) rfl (by trivial)) (px_int (i := 3)) rfl rfl (fun _ _ => rfl))) ⟨rfl, by rfl⟩ ?_ (by intro _ _; rfl) ?_
  · rintro i x _ hx ⟨rfl, hN⟩
    refine ⟨_, (gx_n G 1 rfl (by decide) (by trivial)), ?_⟩
    show SX _ _ [.sh pl, .sh x] _
    refine sx_if (Ly.pt_cmp c_neI (px_lenU g_len Z.len_ (px_fld 4 (px_v G 1 rfl (by decide) rfl (by trivial)) (px_int (i := 4)) rfl rfl (fun _ _ => rfl))) (px_int (i := 2)) (nomark _)) (fun c0 => ?_) (fun c0 => ?_)
    · skip
      refine sx_raise1 XC_NotTwo X1_NotTwo (Nat.le_of_ble_eq_true rfl) g_NotTwo (px_fld 0 (px_v G 1 rfl (by decide) rfl (by trivial)) (px_int (i := 0)) rfl rfl (fun _ _ => rfl)) (by decide) (by intro _; rfl) ?_
      refine ⟨?_, Und.kp (und_cons und_nil)⟩
      show _ = Out.exc _
      exact nt_found hx hN c0
    · skip
      refine sx_nil ?_
      show SX _ _ [.sh pl, .sh x] _
      refine sx_wk (τ' := [.sh pl, .un]) ⟨.inr rfl, .inl rfl, trivial⟩ (sx_nil ?_)
      exact ⟨rfl, by exact nt_step hx hN c0⟩
  · rintro _ ⟨rfl, hN⟩
    show SX _ _ [.sh pl, .un] _
    refine sx_nil ?_
    refine ⟨?_, Und.kp (und_cons und_nil)⟩
    show _ = Out.val (Sl.sh ())
    exact nt_end hN
/-! #### open_boxes -/
abbrev s_open_boxes : Stmt := top 32
theorem sc_open_boxes : FnScope ["plan", "found", "point", "place"] ["plan"] (defScope s_open_boxes) := ⟨rfl, rfl, rfl, by decide +kernel, rfl, by decide +kernel, by decide +kernel⟩
theorem gd_open_boxes : gdB ["plan", "found", "point", "place"] 4 (defScope s_open_boxes) = true := by decide +kernel
def ok_open_boxes : List Sl → Sl → Prop := fun as_ u_ => ∃ pl : Plan, as_ = [.sh pl] ∧ u_ = .ow (obN pl) ∧ (PlanOk pl)
theorem fn_open_boxes {f : Addr} {fd : FuncData} (Z : Blt mg) (F : Fun K "open_boxes" "open_boxes" s_open_boxes f fd) (C_box_of : Cal P w K mg base 6 "box_of" ok_box_of) (C_open_places : Cal P w K mg base 7 "open_places" ok_open_places) : FnOk P w K mg base CX0 8 f fd ["plan"] (spT K ok_open_boxes) := by
  have g_box_of : (defScope s_open_boxes).names.lookup ("box_of" : Str) = some .globalImplicit := by decide +kernel
  have g_open_places : (defScope s_open_boxes).names.lookup ("open_places" : Str) = some .globalImplicit := by decide +kernel
  refine fn_T F sc_open_boxes (fun as s h => ?_) (fun as s h => ?_)
  · obtain ⟨pl, rfl, _⟩ := h; rfl
  obtain ⟨pl, rfl, rfl, hpre⟩ := h
  have G : Gd ⟨P, w, K, mg, base, ["plan", "found", "point", "place"], defScope s_open_boxes, fun _ => true, 7, (fun _ _ _ _ => False), true⟩ 4 := gd_of sc_open_boxes.nd gd_open_boxes
  show SX _ _ [.sh pl, .un, .un, .un] _
  refine sx_setO G 1 rfl (by decide) (px_dnew (κ := (Str × Int)) (α := Box)) (by intro _; rfl) fun found_1 hfound_1 => ?_
  show SX _ _ [.sh pl, .ow found_1, .un, .un] _
  refine sx_forL (w := [2]) (fun i τ => ∃ F : Dct (Str × Int) Box, τ = [.sh pl, .ow F, .un, .un] ∧ F.l = (pl.d.l.take i).flatMap (obOf pl)) (Ly.ix_tup (px_fld 3 (px_v G 0 rfl (by decide) rfl (by trivial)) (px_int (i := 3)) rfl rfl (fun _ _ => rfl))) ⟨_, rfl, by (subst_vars; rfl)⟩ ?_ (by intro _ _; rfl) ?_
  · rintro i x _ hx ⟨F, rfl, hF⟩
    refine ⟨_, (gx_n G 2 rfl (by decide) (by trivial)), ?_⟩
    show SX _ _ [.sh pl, .ow F, .sh x, .un] _
    refine sx_forL (w := [3]) (fun j τ => ∃ F2 : Dct (Str × Int) Box, τ = [.sh pl, .ow F2, .sh x, .un] ∧ F2.l = F.l ++ ((openPl pl x.a).take j).map fun k => ((x.a, k), placedN ((pointOf pl x.a).getD default) k)) (Ly.ix_list (px_pub (px_call C_open_places (Nat.le_of_ble_eq_true rfl) g_open_places (pax_cons (px_v G 0 rfl (by decide) rfl (by trivial)) (pax_cons (px_fld 0 (px_v G 2 rfl (by decide) rfl (by trivial)) (px_int (i := 0)) rfl rfl (fun _ _ => rfl)) pax_nil (by intro _; rfl)) (by intro _; rfl)) ⟨_, _, rfl, rfl, by exact ⟨hpre, pt_find hpre (List.mem_of_getElem? hx)⟩⟩ (by decide) (by intro _; rfl) (by intro _; rfl)))) ⟨_, rfl, by simp⟩ ?_ (by intro _ _; rfl) ?_
    · rintro j y _ hy ⟨F2, rfl, hF2⟩
      refine ⟨_, (gx_n G 3 rfl (by decide) (by trivial)), ?_⟩
      show SX _ _ [.sh pl, .ow F2, .sh x, .sh y] _
      refine sx_dput G 1 rfl (by decide) rfl (px_call C_box_of (Nat.le_of_ble_eq_true rfl) g_box_of (pax_cons (px_v G 0 rfl (by decide) rfl (by trivial)) (pax_cons (px_fld 0 (px_v G 2 rfl (by decide) rfl (by trivial)) (px_int (i := 0)) rfl rfl (fun _ _ => rfl)) (pax_cons (px_v G 3 rfl (by decide) rfl (by trivial)) pax_nil (by intro _; rfl)) (by intro _; rfl)) (by intro _; rfl)) ⟨_, _, _, rfl, rfl, by exact ob_place hpre (List.mem_of_getElem? hx) (List.mem_of_getElem? hy)⟩ (by decide) (by intro _; rfl) (by intro _; rfl)) (px_tup2 (pax_cons (px_fld 0 (px_v G 2 rfl (by decide) rfl (by trivial)) (px_int (i := 0)) rfl rfl (fun _ _ => rfl)) (pax_cons (px_v G 3 rfl (by decide) rfl (by trivial)) pax_nil (by intro _; rfl)) (by intro _; rfl))) (by exact ob_len hpre hx hy hF2 hF) (by intro _; rfl) ?_
      show SX _ _ [.sh pl, .ow (Dct.mk (aput F2.l (x.a, y) (placedN ((pointOf pl x.a).getD default) y))), .sh x, .sh y] _
      refine sx_wk (τ' := [.sh pl, .ow (Dct.mk (aput F2.l (x.a, y) (placedN ((pointOf pl x.a).getD default) y))), .sh x, .un]) ⟨.inr rfl, .inr rfl, .inr rfl, .inl rfl, trivial⟩ (sx_nil ?_)
      exact ⟨(Dct.mk (aput F2.l (x.a, y) (placedN ((pointOf pl x.a).getD default) y))), rfl, by exact ob_put hpre hx hF hy hF2⟩
    · rintro _ ⟨F2, rfl, hF2⟩
      show SX _ _ [.sh pl, .ow F2, .sh x, .un] _
      refine sx_wk (τ' := [.sh pl, .ow F2, .un, .un]) ⟨.inr rfl, .inr rfl, .inl rfl, .inl rfl, trivial⟩ (sx_nil ?_)
      exact ⟨F2, rfl, by exact ob_next hx hF hF2⟩
  · rintro _ ⟨F, rfl, hF⟩
    show SX _ _ [.sh pl, .ow F, .un, .un] _
    refine sx_retV G 1 rfl (by decide) rfl (fun z => by cases z) ?_
    show Sl.ow _ = _
    exact congrArg Sl.ow (ob_is hF)
/-! #### followed -/
abbrev s_followed : Stmt := top 33
theorem sc_followed : FnScope ["boxes", "room", "found", "other"] ["boxes", "room"] (defScope s_followed) := ⟨rfl, rfl, rfl, by decide +kernel, rfl, by decide +kernel, by decide +kernel⟩
theorem gd_followed : gdB ["boxes", "room", "found", "other"] 4 (defScope s_followed) = true := by decide +kernel
def ok_followed : List Sl → Sl → Prop := fun as_ u_ => ∃ B : (Dct (Str × Int) Box), ∃ r : (Str × Int), as_ = [.sh B, .sh r] ∧ u_ = .ow (folN B r) ∧ (B.l.length ≤ 400)
theorem fn_followed {f : Addr} {fd : FuncData} (Z : Blt mg) (F : Fun K "followed" "followed" s_followed f fd) (C_meet : Cal P w K mg base 1 "meet" ok_meet) : FnOk P w K mg base CX0 2 f fd ["boxes", "room"] (spT K ok_followed) := by
  have g_meet : (defScope s_followed).names.lookup ("meet" : Str) = some .globalImplicit := by decide +kernel
  refine fn_T F sc_followed (fun as s h => ?_) (fun as s h => ?_)
  · obtain ⟨B, r, rfl, _⟩ := h; rfl
  obtain ⟨B, r, rfl, rfl, hpre⟩ := h
  have G : Gd ⟨P, w, K, mg, base, ["boxes", "room", "found", "other"], defScope s_followed, fun _ => true, 1, (fun _ _ _ _ => False), true⟩ 4 := gd_of sc_followed.nd gd_followed
  show SX _ _ [.sh B, .sh r, .un, .un] _
  refine sx_if (Ly.pt_notInK (px_v G 1 rfl (by decide) rfl (by trivial)) (px_v G 0 rfl (by decide) rfl (by trivial)) (by rfl)) (fun c0 => ?_) (fun c0 => ?_)
  · skip
    refine sx_ret (px_lst (α := (Str × Int)) (xs := [_]) (pax_cons (px_tup2 (pax_cons (px_fld 0 (px_v G 1 rfl (by decide) rfl (by trivial)) (px_int (i := 0)) rfl rfl (fun _ _ => rfl)) (pax_cons (px_sub (px_int (i := 1)) (px_fld 1 (px_v G 1 rfl (by decide) rfl (by trivial)) (px_int (i := 1)) rfl rfl (fun _ _ => rfl))) pax_nil (by intro _; rfl)) (by intro _; rfl))) pax_nil (by intro _; rfl)) rfl (by show 1 ≤ sizeLine; decide)) ?_
    show Sl.ow _ = _
    exact congrArg Sl.ow (if_pos c0).symm
  · skip
    refine sx_nil ?_
    show SX _ _ [.sh B, .sh r, .un, .un] _
    refine sx_setO G 2 rfl (by decide) (px_lst (α := (Str × Int)) (xs := []) pax_nil rfl (by show 0 ≤ sizeLine; decide)) (by intro _; rfl) fun found_1 hfound_1 => ?_
    show SX _ _ [.sh B, .sh r, .ow found_1, .un] _
    refine sx_forD (w := [3]) (fun i τ => ∃ F : List (Str × Int), τ = [.sh B, .sh r, .ow F, .un] ∧ F = (((B.l.map (·.1)).take i).filter (folC B r)).map fun o => (o.1, 1 - o.2)) (sv_v G 0 rfl (by decide) rfl (by trivial)) dw_keys ⟨_, rfl, by (subst_vars; rfl)⟩ ?_ (by intro _ _; rfl) ?_
    · rintro i x _ hx ⟨F, rfl, hF⟩
      refine ⟨_, (gx_n G 3 rfl (by decide) (by trivial)), ?_⟩
      show SX _ _ [.sh B, .sh r, .ow F, .sh x] _
      refine sx_if (pt_w (Ly.pw_and (Ly.pt_cmp c_neS (px_fld 0 (px_v G 3 rfl (by decide) rfl (by trivial)) (px_int (i := 0)) rfl rfl (fun _ _ => rfl)) (px_fld 0 (px_v G 1 rfl (by decide) rfl (by trivial)) (px_int (i := 0)) rfl rfl (fun _ _ => rfl)) (nomark _)) fun hs1 => (Ly.pw_and1 (Ly.pt_val (px_call C_meet (Nat.le_of_ble_eq_true rfl) g_meet (pax_cons (px_dget (px_v G 0 rfl (by decide) rfl (by trivial)) (px_v G 1 rfl (by decide) rfl (by trivial)) (by exact get_def (by simpa using c0)) (fun _ _ => rfl)) (pax_cons (px_dget (px_v G 0 rfl (by decide) rfl (by trivial)) (px_v G 3 rfl (by decide) rfl (by trivial)) (by exact get_def (aget_keys.mpr (List.mem_of_getElem? hx))) (fun _ _ => rfl)) pax_nil (by intro _; rfl)) (by intro _; rfl)) ⟨_, _, rfl, rfl⟩ (by decide) (by intro _; rfl) (by intro _; rfl)) (by intro _ _; rfl))))) (fun c1 => ?_) (fun c1 => ?_)
      · skip
        refine sx_append G 2 rfl (by decide) rfl (px_tup2 (pax_cons (px_fld 0 (px_v G 3 rfl (by decide) rfl (by trivial)) (px_int (i := 0)) rfl rfl (fun _ _ => rfl)) (pax_cons (px_sub (px_int (i := 1)) (px_fld 1 (px_v G 3 rfl (by decide) rfl (by trivial)) (px_int (i := 1)) rfl rfl (fun _ _ => rfl))) pax_nil (by intro _; rfl)) (by intro _; rfl))) (by rw [hF, sizeLine_eq, List.length_map]; have := List.length_filter_le (folC B r) ((B.l.map (·.1)).take i); rw [List.length_take, List.length_map] at this; omega) (by intro _; rfl) rfl (by intro _; rfl) (by intro _; rfl) ?_
        show SX _ _ [.sh B, .sh r, .ow (F ++ [(x.1, ((1 : Int) - x.2))]), .sh x] _
        refine sx_nil ?_
        show SX _ _ [.sh B, .sh r, .ow (F ++ [(x.1, ((1 : Int) - x.2))]), .sh x] _
        refine sx_wk (τ' := [.sh B, .sh r, .ow (F ++ [(x.1, ((1 : Int) - x.2))]), .un]) ⟨.inr rfl, .inr rfl, .inr rfl, .inl rfl, trivial⟩ (sx_nil ?_)
        exact ⟨(F ++ [(x.1, ((1 : Int) - x.2))]), rfl, by (rw [filter_take hx, List.map_append, ← hF]; first | (rw [if_pos (show folC B r x = true from c1)]; rfl) | (rw [if_neg (show ¬ folC B r x = true from by rw [show folC B r x = false from c1]; exact Bool.false_ne_true)]; exact (List.append_nil _).symm))⟩
      · skip
        refine sx_nil ?_
        show SX _ _ [.sh B, .sh r, .ow F, .sh x] _
        refine sx_wk (τ' := [.sh B, .sh r, .ow F, .un]) ⟨.inr rfl, .inr rfl, .inr rfl, .inl rfl, trivial⟩ (sx_nil ?_)
        exact ⟨F, rfl, by (rw [filter_take hx, List.map_append, ← hF]; first | (rw [if_pos (show folC B r x = true from c1)]; rfl) | (rw [if_neg (show ¬ folC B r x = true from by rw [show folC B r x = false from c1]; exact Bool.false_ne_true)]; exact (List.append_nil _).symm))⟩
    · rintro _ ⟨F, rfl, hF⟩
      show SX _ _ [.sh B, .sh r, .ow F, .un] _
      refine sx_retV G 2 rfl (by decide) rfl (fun z => by cases z) ?_
      show Sl.ow _ = _
      rw [hF, List.take_length]; exact congrArg Sl.ow (if_neg (by rw [c0]; exact Bool.false_ne_true)).symm
/-! #### follow -/
abbrev s_follow : Stmt := top 34
theorem sc_follow : FnScope ["plan", "name", "place"] ["plan", "name", "place"] (defScope s_follow) := ⟨rfl, rfl, rfl, by decide +kernel, rfl, by decide +kernel, by decide +kernel⟩
theorem gd_follow : gdB ["plan", "name", "place"] 3 (defScope s_follow) = true := by decide +kernel
def ok_follow : List Sl → List Sl → Out → Prop := fun as_ bs_ o_ => ∃ pl : Plan, ∃ nm : Str, ∃ k : Int, as_ = [.sh pl, .sh nm, .sh k] ∧ bs_ = [.un, .un, .un] ∧ o_ = ntO pl (.ow (folN (obN pl) (nm, k))) ∧ (PlanOk pl)
theorem fn_follow {f : Addr} {fd : FuncData} (Z : Blt mg) (F : Fun K "follow" "follow" s_follow f fd) (C_need_two : CalG P w K mg base 3 "need_two" ok_need_two) (C_open_boxes : Cal P w K mg base 8 "open_boxes" ok_open_boxes) (C_followed : Cal P w K mg base 2 "followed" ok_followed) : FnOk P w K mg base (L2.CX P w) 9 f fd ["plan", "name", "place"] (spG K mg ok_follow) := by
  have g_followed : (defScope s_follow).names.lookup ("followed" : Str) = some .globalImplicit := by decide +kernel
  have g_need_two : (defScope s_follow).names.lookup ("need_two" : Str) = some .globalImplicit := by decide +kernel
  have g_open_boxes : (defScope s_follow).names.lookup ("open_boxes" : Str) = some .globalImplicit := by decide +kernel
  refine fn_TG F sc_follow (fun as as2 o h => ?_) (fun W as as2 o h => ?_)
  · obtain ⟨pl, nm, k, rfl, rfl, _⟩ := h; exact ⟨rfl, Und.pins (und_cons (und_cons (und_cons und_nil)))⟩
  obtain ⟨pl, nm, k, rfl, rfl, rfl, hpre⟩ := h
  have G : Gd ⟨P, w, K, mg, base, ["plan", "name", "place"], defScope s_follow, fun _ => true, 8, W, true⟩ 3 := gd_of sc_follow.nd gd_follow
  show SX _ _ [.sh pl, .sh nm, .sh k] _
  rcases hNT : notTwo pl with _ | q
  · skip
    refine sx_expr (px_callG (s := .sh ()) C_need_two (Nat.le_of_ble_eq_true rfl) g_need_two (pax_cons (px_v G 0 rfl (by decide) rfl (by trivial)) pax_nil (by intro _; rfl)) ⟨_, rfl, rfl, by exact (nt_val hNT).symm⟩ rfl (fun z => by cases z) (by decide) (by intro _; rfl) (by intro _; rfl)) (by intro _; rfl) ?_
    refine sx_ret (px_call C_followed (Nat.le_of_ble_eq_true rfl) g_followed (pax_cons (px_pub (px_call C_open_boxes (Nat.le_of_ble_eq_true rfl) g_open_boxes (pax_cons (px_v G 0 rfl (by decide) rfl (by trivial)) pax_nil (by intro _; rfl)) ⟨_, rfl, rfl, by exact hpre⟩ (by decide) (by intro _; rfl) (by intro _; rfl))) (pax_cons (px_tup2 (pax_cons (px_v G 1 rfl (by decide) rfl (by trivial)) (pax_cons (px_v G 2 rfl (by decide) rfl (by trivial)) pax_nil (by intro _; rfl)) (by intro _; rfl))) pax_nil (by intro _; rfl)) (by intro _; rfl)) ⟨_, _, rfl, rfl, by exact obN_len hpre⟩ (by decide) (by intro _; rfl) (by intro _; rfl)) ?_
    refine ⟨?_, (und_cons (und_cons (und_cons und_nil)))⟩
    show _ = Out.val (Sl.ow _)
    exact nt_val hNT
  · skip
    refine sx_exprR (pr_callG (y := ⟨"NotTwo", "name", XA.of q.a⟩) C_need_two (Nat.le_of_ble_eq_true rfl) g_need_two (pax_cons (px_v G 0 rfl (by decide) rfl (by trivial)) pax_nil (by intro _; rfl)) ⟨_, rfl, rfl, by exact (nt_exc hNT).symm⟩ rfl (by decide) (by intro _; rfl) (by intro _; rfl)) ?_ (by intro _; rfl)
    refine ⟨?_, Und.kp (und_cons (und_cons (und_cons und_nil)))⟩
    show _ = Out.exc _
    exact nt_exc hNT
/-! #### table_of -/
abbrev s_table_of : Stmt := top 35
theorem sc_table_of : FnScope ["plan", "boxes", "table", "point", "place"] ["plan"] (defScope s_table_of) := ⟨rfl, rfl, rfl, by decide +kernel, rfl, by decide +kernel, by decide +kernel⟩
theorem gd_table_of : gdB ["plan", "boxes", "table", "point", "place"] 5 (defScope s_table_of) = true := by decide +kernel
def ok_table_of : List Sl → Sl → Prop := fun as_ u_ => ∃ pl : Plan, as_ = [.sh pl] ∧ u_ = .sh (tableN pl) ∧ (PlanOk pl)
theorem fn_table_of {f : Addr} {fd : FuncData} (Z : Blt mg) (F : Fun K "table_of" "table_of" s_table_of f fd) (C_open_boxes : Cal P w K mg base 8 "open_boxes" ok_open_boxes) (C_followed : Cal P w K mg base 2 "followed" ok_followed) : FnOk P w K mg base CX0 9 f fd ["plan"] (spT K ok_table_of) := by
  have g_followed : (defScope s_table_of).names.lookup ("followed" : Str) = some .globalImplicit := by decide +kernel
  have g_open_boxes : (defScope s_table_of).names.lookup ("open_boxes" : Str) = some .globalImplicit := by decide +kernel
  have g_range : (defScope s_table_of).names.lookup ("range" : Str) = some .globalImplicit := by decide +kernel
  refine fn_T F sc_table_of (fun as s h => ?_) (fun as s h => ?_)
  · obtain ⟨pl, rfl, _⟩ := h; rfl
  obtain ⟨pl, rfl, rfl, hpre⟩ := h
  have G : Gd ⟨P, w, K, mg, base, ["plan", "boxes", "table", "point", "place"], defScope s_table_of, fun _ => true, 8, (fun _ _ _ _ => False), true⟩ 5 := gd_of sc_table_of.nd gd_table_of
  show SX _ _ [.sh pl, .un, .un, .un, .un] _
  refine sx_setO G 1 rfl (by decide) (px_call C_open_boxes (Nat.le_of_ble_eq_true rfl) g_open_boxes (pax_cons (px_v G 0 rfl (by decide) rfl (by trivial)) pax_nil (by intro _; rfl)) ⟨_, rfl, rfl, by exact hpre⟩ (by decide) (by intro _; rfl) (by intro _; rfl)) (by intro _; rfl) fun boxes_1 hboxes_1 => ?_
  show SX _ _ [.sh pl, .ow boxes_1, .un, .un, .un] _
  refine sx_pub 1 rfl ?_
  show SX _ _ [.sh pl, .sh boxes_1, .un, .un, .un] _
  refine sx_setO G 2 rfl (by decide) (px_dnew (κ := (Str × Int)) (α := (List (Str × Int)))) (by intro _; rfl) fun table_1 htable_1 => ?_
  show SX _ _ [.sh pl, .sh boxes_1, .ow table_1, .un, .un] _
  refine sx_forL (w := [3]) (fun i τ => ∃ F : Dct (Str × Int) (List (Str × Int)), τ = [.sh pl, .sh boxes_1, .ow F, .un, .un] ∧ F.l = (pl.d.l.take i).flatMap (tbOf pl)) (Ly.ix_tup (px_fld 3 (px_v G 0 rfl (by decide) rfl (by trivial)) (px_int (i := 3)) rfl rfl (fun _ _ => rfl))) ⟨_, rfl, by (subst_vars; rfl)⟩ ?_ (by intro _ _; rfl) ?_
  · rintro i x _ hx ⟨F, rfl, hF⟩
    refine ⟨_, (gx_n G 3 rfl (by decide) (by trivial)), ?_⟩
    show SX _ _ [.sh pl, .sh boxes_1, .ow F, .sh x, .un] _
    refine sx_forL (w := [4]) (fun j τ => ∃ F2 : Dct (Str × Int) (List (Str × Int)), τ = [.sh pl, .sh boxes_1, .ow F2, .sh x, .un] ∧ F2.l = F.l ++ ((rng 0 (2 : Int).toNat).take j).map fun k => ((x.a, k), folN (obN pl) (x.a, k))) (ix_range1 g_range Z.range_ (px_int (i := 2)) (by walk_at "sc_rng")) ⟨_, rfl, by simp⟩ ?_ (by intro _ _; rfl) ?_
    · rintro j y _ hy ⟨F2, rfl, hF2⟩
      refine ⟨_, (gx_n G 4 rfl (by decide) (by trivial)), ?_⟩
      show SX _ _ [.sh pl, .sh boxes_1, .ow F2, .sh x, .sh y] _
      refine sx_dput G 2 rfl (by decide) rfl (px_pub (px_call C_followed (Nat.le_of_ble_eq_true rfl) g_followed (pax_cons (px_v G 1 rfl (by decide) rfl (by trivial)) (pax_cons (px_tup2 (pax_cons (px_fld 0 (px_v G 3 rfl (by decide) rfl (by trivial)) (px_int (i := 0)) rfl rfl (fun _ _ => rfl)) (pax_cons (px_v G 4 rfl (by decide) rfl (by trivial)) pax_nil (by intro _; rfl)) (by intro _; rfl))) pax_nil (by intro _; rfl)) (by intro _; rfl)) ⟨_, _, rfl, rfl, by rw [hboxes_1]; exact obN_len hpre⟩ (by decide) (by intro _; rfl) (by intro _; rfl))) (px_tup2 (pax_cons (px_fld 0 (px_v G 3 rfl (by decide) rfl (by trivial)) (px_int (i := 0)) rfl rfl (fun _ _ => rfl)) (pax_cons (px_v G 4 rfl (by decide) rfl (by trivial)) pax_nil (by intro _; rfl)) (by intro _; rfl))) (by exact tb_len hpre hx hF hF2 hy) (by intro _; rfl) ?_
      show SX _ _ [.sh pl, .sh boxes_1, .ow (Dct.mk (aput F2.l (x.a, y) (folN boxes_1 (x.a, y)))), .sh x, .sh y] _
      refine sx_wk (τ' := [.sh pl, .sh boxes_1, .ow (Dct.mk (aput F2.l (x.a, y) (folN boxes_1 (x.a, y)))), .sh x, .un]) ⟨.inr rfl, .inr rfl, .inr rfl, .inr rfl, .inl rfl, trivial⟩ (sx_nil ?_)
      exact ⟨(Dct.mk (aput F2.l (x.a, y) (folN boxes_1 (x.a, y)))), rfl, by (rw [hboxes_1]; exact tb_put hpre hx hF hy hF2)⟩
    · rintro _ ⟨F2, rfl, hF2⟩
      show SX _ _ [.sh pl, .sh boxes_1, .ow F2, .sh x, .un] _
      refine sx_wk (τ' := [.sh pl, .sh boxes_1, .ow F2, .un, .un]) ⟨.inr rfl, .inr rfl, .inr rfl, .inl rfl, .inl rfl, trivial⟩ (sx_nil ?_)
      exact ⟨F2, rfl, by (rw [hF2, hF, flat_take hx, List.take_length]; rfl)⟩
  · rintro _ ⟨F, rfl, hF⟩
    show SX _ _ [.sh pl, .sh boxes_1, .ow F, .un, .un] _
    refine sx_pub 2 rfl ?_
    show SX _ _ [.sh pl, .sh boxes_1, .sh F, .un, .un] _
    refine sx_ret (px_v G 2 rfl (by decide) rfl (by trivial)) ?_
    show Sl.sh _ = _
    exact congrArg Sl.sh (tb_is hF)
/-! #### come_to -/
abbrev s_come_to : Stmt := top 36
theorem sc_come_to : FnScope ["table", "begin", "came", "line", "at", "room"] ["table", "begin"] (defScope s_come_to) := ⟨rfl, rfl, rfl, by decide +kernel, rfl, by decide +kernel, by decide +kernel⟩
theorem gd_come_to : gdB ["table", "begin", "came", "line", "at", "room"] 6 (defScope s_come_to) = true := by decide +kernel
def ok_come_to : List Sl → Sl → Prop := fun as_ u_ => ∃ T : (Dct (Str × Int) (List (Str × Int))), ∃ b : (Str × Int), as_ = [.sh T, .sh b] ∧ u_ = .ow (comeN T b) ∧ (TabOk T ∧ (aget T.l b).isSome = true)
theorem fn_come_to {f : Addr} {fd : FuncData} (Z : Blt mg) (F : Fun K "come_to" "come_to" s_come_to f fd) : FnOk P w K mg base CX0 1 f fd ["table", "begin"] (spT K ok_come_to) := by
  have g_len : (defScope s_come_to).names.lookup ("len" : Str) = some .globalImplicit := by decide +kernel
  refine fn_T F sc_come_to (fun as s h => ?_) (fun as s h => ?_)
  · obtain ⟨T, b, rfl, _⟩ := h; rfl
  obtain ⟨T, b, rfl, rfl, hpre⟩ := h
  have G : Gd ⟨P, w, K, mg, base, ["table", "begin", "came", "line", "at", "room"], defScope s_come_to, fun _ => true, 0, (fun _ _ _ _ => False), true⟩ 6 := gd_of sc_come_to.nd gd_come_to
  show SX _ _ [.sh T, .sh b, .un, .un, .un, .un] _
  refine sx_setO G 2 rfl (by decide) (px_disp1T (px_v G 1 rfl (by decide) rfl (by trivial)) (px_none (α := (Str × Int)) px_non)) (by intro _; rfl) fun came_1 hcame_1 => ?_
  show SX _ _ [.sh T, .sh b, .ow came_1, .un, .un, .un] _
  refine sx_setO G 3 rfl (by decide) (px_lst (α := (Str × Int)) (xs := [_]) (pax_cons (px_v G 1 rfl (by decide) rfl (by trivial)) pax_nil (by intro _; rfl)) rfl (by show 1 ≤ sizeLine; decide)) (by intro _; rfl) fun line_1 hline_1 => ?_
  show SX _ _ [.sh T, .sh b, .ow came_1, .ow line_1, .un, .un] _
  refine sx_set G 4 rfl (by decide) (px_int (i := 0)) (by intro _; rfl) fun at_1 hat_1 => ?_
  show SX _ _ [.sh T, .sh b, .ow came_1, .ow line_1, .sh at_1, .un] _
  refine sx_while (fun m τ => ∃ n : Nat, ∃ C : Dct (Str × Int) (Option (Str × Int)), ∃ L : List (Str × Int), ∃ A : Int, τ = [.sh T, .sh b, .ow C, .ow L, .sh A, .un] ∧ C.l = cmS T b n ∧ L = C.l.map (·.1) ∧ A = ((n : Nat) : Int) ∧ n ≤ fuel ∧ m = fuel - n) ⟨_, 0, _, _, _, rfl, by (subst_vars; exact ⟨rfl, rfl, rfl, Nat.zero_le _, rfl⟩)⟩ ?_
  rintro m _ ⟨n, C, L, A, rfl, hC, hL, hA, hn2, hm⟩
  refine ⟨_, (pt_lend 3 rfl (Ly.pt_cmp c_lt (px_v G 4 rfl (by decide) rfl (by trivial)) (px_lenL g_len Z.len_ (px_v G 3 rfl (by decide) rfl (by trivial))) (nomark _))), fun hw => ?_, fun hw => ?_⟩
  · skip
    have hn : n < L.length := by have := of_decide_eq_true hw; omega
    refine sx_forL (w := [5]) (fun i τ => ∃ C2 : Dct (Str × Int) (Option (Str × Int)), ∃ L2 : List (Str × Int), τ = [.sh T, .sh b, .ow C2, .ow L2, .sh A, .un] ∧ C2.l = (((aget T.l (L.getD A.toNat default)).getD default).take i).foldl (cmStep (L.getD A.toNat default)) C.l ∧ L2 = C2.l.map (·.1)) (Ly.ix_list (px_dget (px_v G 0 rfl (by decide) rfl (by trivial)) (px_ixO G 3 rfl (by decide) rfl (px_v G 4 rfl (by decide) rfl (by trivial)) (by first | exact cm_at hL hL2 hC2 hA hn | exact cm_at0 hL hA hn) (fun _ _ => rfl)) (by exact get_def (cm_key hpre hC hL hA hn)) (fun _ _ => rfl))) ⟨_, _, rfl, by exact ⟨rfl, hL⟩⟩ ?_ (by intro _ _; rfl) ?_
    · rintro i x _ hx ⟨C2, L2, rfl, ⟨hC2, hL2⟩⟩
      refine ⟨_, (gx_n G 5 rfl (by decide) (by trivial)), ?_⟩
      show SX _ _ [.sh T, .sh b, .ow C2, .ow L2, .sh A, .sh x] _
      have hl2 := lt_of_get hx
      refine sx_if (pt_lend 2 rfl (Ly.pt_notInK (px_v G 5 rfl (by decide) rfl (by trivial)) (px_v G 2 rfl (by decide) rfl (by trivial)) (by rfl))) (fun c0 => ?_) (fun c0 => ?_)
      · skip
        refine sx_dput G 2 rfl (by decide) rfl (px_some (px_ixO G 3 rfl (by decide) rfl (px_v G 4 rfl (by decide) rfl (by trivial)) (by first | exact cm_at hL hL2 hC2 hA hn | exact cm_at0 hL hA hn) (fun _ _ => rfl))) (px_v G 5 rfl (by decide) rfl (by trivial)) (by rw [sizeLine_eq]; have := cm_small hpre hC hL hA hn hC2; omega) (by intro _; rfl) ?_
        show SX _ _ [.sh T, .sh b, .ow (Dct.mk (aput C2.l x (some (L2.getD (A).toNat default)))), .ow L2, .sh A, .sh x] _
        refine sx_append G 3 rfl (by decide) rfl (px_v G 5 rfl (by decide) rfl (by trivial)) (by rw [sizeLine_eq, hL2, List.length_map]; have := cm_small hpre hC hL hA hn hC2; omega) (by intro _; rfl) rfl (by intro _; rfl) (by intro _; rfl) ?_
        show SX _ _ [.sh T, .sh b, .ow (Dct.mk (aput C2.l x (some (L2.getD (A).toNat default)))), .ow (L2 ++ [x]), .sh A, .sh x] _
        refine sx_nil ?_
        show SX _ _ [.sh T, .sh b, .ow (Dct.mk (aput C2.l x (some (L2.getD (A).toNat default)))), .ow (L2 ++ [x]), .sh A, .sh x] _
        refine sx_wk (τ' := [.sh T, .sh b, .ow (Dct.mk (aput C2.l x (some (L2.getD (A).toNat default)))), .ow (L2 ++ [x]), .sh A, .un]) ⟨.inr rfl, .inr rfl, .inr rfl, .inr rfl, .inr rfl, .inl rfl, trivial⟩ (sx_nil ?_)
        exact ⟨(Dct.mk (aput C2.l x (some (L2.getD (A).toNat default)))), (L2 ++ [x]), rfl, by first | exact cm_put hL hL2 hC2 hA hn hx c0 | exact cm_stay hL2 hC2 hx c0⟩
      · skip
        refine sx_nil ?_
        show SX _ _ [.sh T, .sh b, .ow C2, .ow L2, .sh A, .sh x] _
        refine sx_wk (τ' := [.sh T, .sh b, .ow C2, .ow L2, .sh A, .un]) ⟨.inr rfl, .inr rfl, .inr rfl, .inr rfl, .inr rfl, .inl rfl, trivial⟩ (sx_nil ?_)
        exact ⟨C2, L2, rfl, by first | exact cm_put hL hL2 hC2 hA hn hx c0 | exact cm_stay hL2 hC2 hx c0⟩
    · rintro _ ⟨C2, L2, rfl, ⟨hC2, hL2⟩⟩
      show SX _ _ [.sh T, .sh b, .ow C2, .ow L2, .sh A, .un] _
      refine sx_set G 4 rfl (by decide) (px_add (px_v G 4 rfl (by decide) rfl (by trivial)) (px_int (i := 1))) (by intro _; rfl) fun at_2 hat_2 => ?_
      show SX _ _ [.sh T, .sh b, .ow C2, .ow L2, .sh at_2, .un] _
      refine sx_wk (τ' := [.sh T, .sh b, .ow C2, .ow L2, .sh at_2, .un]) ⟨.inr rfl, .inr rfl, .inr rfl, .inr rfl, .inr rfl, .inl rfl, trivial⟩ (sx_nil ?_)
      exact ⟨fuel - (n + 1), by (have := cm_bound hpre hC hL hn; have hf := fuel_is; omega), (n + 1), C2, L2, at_2, rfl, by exact cm_next hpre hC hL hA hn hC2 hL2 hat_2⟩
  · skip
    have hn : ¬ n < L.length := by have := of_decide_eq_false hw; omega
    refine sx_retV G 2 rfl (by decide) rfl (fun z => by cases z) ?_
    show Sl.ow _ = _
    exact congrArg Sl.ow (cm_is hC hL hn hn2)
/-! #### traced -/
abbrev s_traced : Stmt := top 37
theorem sc_traced : FnScope ["came", "room", "way"] ["came", "room"] (defScope s_traced) := ⟨rfl, rfl, rfl, by decide +kernel, rfl, by decide +kernel, by decide +kernel⟩
theorem gd_traced : gdB ["came", "room", "way"] 3 (defScope s_traced) = true := by decide +kernel
def ok_traced : List Sl → Sl → Prop := fun as_ u_ => ∃ C : (Dct (Str × Int) (Option (Str × Int))), ∃ r : (Option (Str × Int)), as_ = [.sh C, .sh r] ∧ u_ = .ow (traceN C r) ∧ (PredOk C ∧ ∀ x, r = some x → x ∈ C.l.map (·.1))
theorem fn_traced {f : Addr} {fd : FuncData} (Z : Blt mg) (F : Fun K "traced" "traced" s_traced f fd) : FnOk P w K mg base CX0 1 f fd ["came", "room"] (spT K ok_traced) := by
  have g_list : (defScope s_traced).names.lookup ("list" : Str) = some .globalImplicit := by decide +kernel
  have g_reversed : (defScope s_traced).names.lookup ("reversed" : Str) = some .globalImplicit := by decide +kernel
  refine fn_T F sc_traced (fun as s h => ?_) (fun as s h => ?_)
  · obtain ⟨C, r, rfl, _⟩ := h; rfl
  obtain ⟨C, r, rfl, rfl, hpre⟩ := h
  have G : Gd ⟨P, w, K, mg, base, ["came", "room", "way"], defScope s_traced, fun _ => true, 0, (fun _ _ _ _ => False), true⟩ 3 := gd_of sc_traced.nd gd_traced
  show SX _ _ [.sh C, .sh r, .un] _
  refine sx_setO G 2 rfl (by decide) (px_lst (α := (Str × Int)) (xs := []) pax_nil rfl (by show 0 ≤ sizeLine; decide)) (by intro _; rfl) fun way_1 hway_1 => ?_
  show SX _ _ [.sh C, .sh r, .ow way_1] _
  refine sx_while (fun m τ => ∃ k : Nat, ∃ W : List (Str × Int), ∃ O : Option (Str × Int), τ = [.sh C, .sh O, .ow W] ∧ W ++ trF C k O = trF C fuel r ∧ (∀ x, O = some x → ∃ i, i < k ∧ (C.l.map (·.1))[i]? = some x) ∧ W.length + k = fuel ∧ m = k) ⟨_, fuel, _, _, rfl, by (subst_vars; exact ⟨rfl, tr_start hpre, Nat.zero_add _, rfl⟩)⟩ ?_
  rintro m _ ⟨k, W, O, rfl, hW, hI, hk, hm⟩
  refine ⟨_, (Ly.pt_cmp c_notN (px_v G 1 rfl (by decide) rfl (by trivial)) px_non (nomark _)), fun hw => ?_, fun hw => ?_⟩
  · skip
    refine sx_append G 2 rfl (by decide) rfl (px_get (px_v G 1 rfl (by decide) rfl (by trivial)) (by exact hw)) (by rw [sizeLine_eq]; have hf := fuel_is; omega) (by intro _; rfl) rfl (by intro _; rfl) (by intro _; rfl) ?_
    show SX _ _ [.sh C, .sh O, .ow (W ++ [(O.getD default)])] _
    refine sx_set G 1 rfl (by decide) (px_dget (px_v G 0 rfl (by decide) rfl (by trivial)) (px_get (px_v G 1 rfl (by decide) rfl (by trivial)) (by exact hw)) (by exact get_def (tr_has hI hw)) (fun _ _ => rfl)) (by intro _; rfl) fun room_1 hroom_1 => ?_
    show SX _ _ [.sh C, .sh room_1, .ow (W ++ [(O.getD default)])] _
    refine sx_wk (τ' := [.sh C, .sh room_1, .ow (W ++ [(O.getD default)])]) ⟨.inr rfl, .inr rfl, .inr rfl, trivial⟩ (sx_nil ?_)
    exact ⟨(k - 1), by (have := tr_pos hI hw; omega), (k - 1), (W ++ [(O.getD default)]), room_1, rfl, by exact tr_next hpre.1 hI hw hk hW (by assumption)⟩
  · skip
    refine sx_ret (px_lendR 2 rfl (px_listRev g_list Z.list_ g_reversed Z.reversed_ (px_v G 2 rfl (by decide) rfl (by trivial))) (by walk_at "imm")) ?_
    show Sl.ow _ = _
    exact congrArg (fun z => Sl.ow (List.reverse z)) (tr_done hw hW)
/-! #### chain_of -/
abbrev s_chain_of : Stmt := top 38
theorem sc_chain_of : FnScope ["table", "name", "one", "other", "there", "back"] ["table", "name"] (defScope s_chain_of) := ⟨rfl, rfl, rfl, by decide +kernel, rfl, by decide +kernel, by decide +kernel⟩
theorem gd_chain_of : gdB ["table", "name", "one", "other", "there", "back"] 6 (defScope s_chain_of) = true := by decide +kernel
def ok_chain_of : List Sl → Sl → Prop := fun as_ u_ => ∃ T : (Dct (Str × Int) (List (Str × Int))), ∃ nm : Str, as_ = [.sh T, .sh nm] ∧ u_ = chainSl (chainN T nm) ∧ (TabOk T ∧ (aget T.l (nm, 0)).isSome = true ∧ (aget T.l (nm, 1)).isSome = true)
theorem fn_chain_of {f : Addr} {fd : FuncData} (Z : Blt mg) (F : Fun K "chain_of" "chain_of" s_chain_of f fd) (C_come_to : Cal P w K mg base 1 "come_to" ok_come_to) (C_traced : Cal P w K mg base 1 "traced" ok_traced) : FnOk P w K mg base CX0 2 f fd ["table", "name"] (spT K ok_chain_of) := by
  have g_come_to : (defScope s_chain_of).names.lookup ("come_to" : Str) = some .globalImplicit := by decide +kernel
  have g_traced : (defScope s_chain_of).names.lookup ("traced" : Str) = some .globalImplicit := by decide +kernel
  refine fn_T F sc_chain_of (fun as s h => ?_) (fun as s h => ?_)
  · obtain ⟨T, nm, rfl, _⟩ := h; rfl
  obtain ⟨T, nm, rfl, rfl, hpre⟩ := h
  have G : Gd ⟨P, w, K, mg, base, ["table", "name", "one", "other", "there", "back"], defScope s_chain_of, fun _ => true, 1, (fun _ _ _ _ => False), true⟩ 6 := gd_of sc_chain_of.nd gd_chain_of
  show SX _ _ [.sh T, .sh nm, .un, .un, .un, .un] _
  refine sx_set G 2 rfl (by decide) (px_tup2 (pax_cons (px_v G 1 rfl (by decide) rfl (by trivial)) (pax_cons (px_int (i := 0)) pax_nil (by intro _; rfl)) (by intro _; rfl))) (by intro _; rfl) fun one_1 hone_1 => ?_
  show SX _ _ [.sh T, .sh nm, .sh one_1, .un, .un, .un] _
  refine sx_set G 3 rfl (by decide) (px_tup2 (pax_cons (px_v G 1 rfl (by decide) rfl (by trivial)) (pax_cons (px_int (i := 1)) pax_nil (by intro _; rfl)) (by intro _; rfl))) (by intro _; rfl) fun other_1 hother_1 => ?_
  show SX _ _ [.sh T, .sh nm, .sh one_1, .sh other_1, .un, .un] _
  refine sx_setO G 4 rfl (by decide) (px_call C_come_to (Nat.le_of_ble_eq_true rfl) g_come_to (pax_cons (px_v G 0 rfl (by decide) rfl (by trivial)) (pax_cons (px_v G 2 rfl (by decide) rfl (by trivial)) pax_nil (by intro _; rfl)) (by intro _; rfl)) ⟨_, _, rfl, rfl, by rw [hone_1]; exact ⟨hpre.1, hpre.2.1⟩⟩ (by decide) (by intro _; rfl) (by intro _; rfl)) (by intro _; rfl) fun there_1 hthere_1 => ?_
  show SX _ _ [.sh T, .sh nm, .sh one_1, .sh other_1, .ow there_1, .un] _
  refine sx_if (pt_lend 4 rfl (Ly.pt_notInK (px_v G 3 rfl (by decide) rfl (by trivial)) (px_v G 4 rfl (by decide) rfl (by trivial)) (by rfl))) (fun c0 => ?_) (fun c0 => ?_)
  · skip
    refine sx_ret px_non ?_
    show Sl.sh _ = _
    exact (congrArg chainSl (ch_none1 hone_1 hother_1 hthere_1 c0)).symm
  · skip
    refine sx_nil ?_
    show SX _ _ [.sh T, .sh nm, .sh one_1, .sh other_1, .ow there_1, .un] _
    refine sx_setO G 5 rfl (by decide) (px_call C_come_to (Nat.le_of_ble_eq_true rfl) g_come_to (pax_cons (px_v G 0 rfl (by decide) rfl (by trivial)) (pax_cons (px_v G 3 rfl (by decide) rfl (by trivial)) pax_nil (by intro _; rfl)) (by intro _; rfl)) ⟨_, _, rfl, rfl, by rw [hother_1]; exact ⟨hpre.1, hpre.2.2⟩⟩ (by decide) (by intro _; rfl) (by intro _; rfl)) (by intro _; rfl) fun back_1 hback_1 => ?_
    show SX _ _ [.sh T, .sh nm, .sh one_1, .sh other_1, .ow there_1, .ow back_1] _
    refine sx_if (pt_lend 5 rfl (Ly.pt_notInK (px_v G 2 rfl (by decide) rfl (by trivial)) (px_v G 5 rfl (by decide) rfl (by trivial)) (by rfl))) (fun c1 => ?_) (fun c1 => ?_)
    · skip
      refine sx_ret px_non ?_
      show Sl.sh _ = _
      exact (congrArg chainSl (ch_none2 hone_1 hother_1 hthere_1 hback_1 c0 c1)).symm
    · skip
      refine sx_nil ?_
      show SX _ _ [.sh T, .sh nm, .sh one_1, .sh other_1, .ow there_1, .ow back_1] _
      refine sx_pub 4 rfl ?_
      show SX _ _ [.sh T, .sh nm, .sh one_1, .sh other_1, .sh there_1, .ow back_1] _
      refine sx_pub 5 rfl ?_
      show SX _ _ [.sh T, .sh nm, .sh one_1, .sh other_1, .sh there_1, .sh back_1] _
      refine sx_ret (px_catL (px_pub (px_call C_traced (Nat.le_of_ble_eq_true rfl) g_traced (pax_cons (px_v G 4 rfl (by decide) rfl (by trivial)) (pax_cons (px_some (px_v G 3 rfl (by decide) rfl (by trivial))) pax_nil (by intro _; rfl)) (by intro _; rfl)) ⟨_, _, rfl, rfl, by exact ch_pre hpre.1 (by rw [hone_1]; exact hpre.2.1) hthere_1 c0⟩ (by decide) (by intro _; rfl) (by intro _; rfl))) (px_pub (px_sl (px_pub (px_call C_traced (Nat.le_of_ble_eq_true rfl) g_traced (pax_cons (px_v G 5 rfl (by decide) rfl (by trivial)) (pax_cons (px_some (px_v G 2 rfl (by decide) rfl (by trivial))) pax_nil (by intro _; rfl)) (by intro _; rfl)) ⟨_, _, rfl, rfl, by exact ch_pre hpre.1 (by rw [hother_1]; exact hpre.2.2) hback_1 c1⟩ (by decide) (by intro _; rfl) (by intro _; rfl))) (show POx _ (some _) _ (some _) from (px_int (i := 1))) (show POx _ none _ none from trivial))) (by rw [sizeLine_eq]; have h1 := trace_le there_1 (some other_1); have h2 := trace_le back_1 (some one_1); have h3 := cut_le (traceN back_1 (some one_1)) (some 1) none; omega)) ?_
      show Sl.ow _ = _
      exact (congrArg chainSl (ch_some hone_1 hother_1 hthere_1 hback_1 c0 c1)).symm
/-! #### all_set -/
abbrev s_all_set : Stmt := top 39
theorem sc_all_set : FnScope ["plan", "table", "taken", "point", "name", "chain", "came", "room"] ["plan"] (defScope s_all_set) := ⟨rfl, rfl, rfl, by decide +kernel, rfl, by decide +kernel, by decide +kernel⟩
theorem gd_all_set : gdB ["plan", "table", "taken", "point", "name", "chain", "came", "room"] 8 (defScope s_all_set) = true := by decide +kernel
def ok_all_set : List Sl → List Sl → Out → Prop := fun as_ bs_ o_ => ∃ pl : Plan, as_ = [.sh pl] ∧ bs_ = [.un] ∧ o_ = ntO pl (.ow (allN pl)) ∧ (PlanOk pl)
theorem fn_all_set {f : Addr} {fd : FuncData} (Z : Blt mg) (F : Fun K "all_set" "all_set" s_all_set f fd) (C_need_two : CalG P w K mg base 3 "need_two" ok_need_two) (C_table_of : Cal P w K mg base 9 "table_of" ok_table_of) (C_come_to : Cal P w K mg base 1 "come_to" ok_come_to) (C_chain_of : Cal P w K mg base 2 "chain_of" ok_chain_of) : FnOk P w K mg base (L2.CX P w) 10 f fd ["plan"] (spG K mg ok_all_set) := by
  have g_chain_of : (defScope s_all_set).names.lookup ("chain_of" : Str) = some .globalImplicit := by decide +kernel
  have g_come_to : (defScope s_all_set).names.lookup ("come_to" : Str) = some .globalImplicit := by decide +kernel
  have g_need_two : (defScope s_all_set).names.lookup ("need_two" : Str) = some .globalImplicit := by decide +kernel
  have g_table_of : (defScope s_all_set).names.lookup ("table_of" : Str) = some .globalImplicit := by decide +kernel
  refine fn_TG F sc_all_set (fun as as2 o h => ?_) (fun W as as2 o h => ?_)
  · obtain ⟨pl, rfl, rfl, _⟩ := h; exact ⟨rfl, Und.pins (und_cons und_nil)⟩
  obtain ⟨pl, rfl, rfl, rfl, hpre⟩ := h
  have G : Gd ⟨P, w, K, mg, base, ["plan", "table", "taken", "point", "name", "chain", "came", "room"], defScope s_all_set, fun _ => true, 9, W, true⟩ 8 := gd_of sc_all_set.nd gd_all_set
  show SX _ _ [.sh pl, .un, .un, .un, .un, .un, .un, .un] _
  rcases hNT : notTwo pl with _ | q
  · skip
    refine sx_expr (px_callG (s := .sh ()) C_need_two (Nat.le_of_ble_eq_true rfl) g_need_two (pax_cons (px_v G 0 rfl (by decide) rfl (by trivial)) pax_nil (by intro _; rfl)) ⟨_, rfl, rfl, by exact (nt_val hNT).symm⟩ rfl (fun z => by cases z) (by decide) (by intro _; rfl) (by intro _; rfl)) (by intro _; rfl) ?_
    have hpre := And.intro hpre (nt_all hNT)
    refine sx_set G 1 rfl (by decide) (px_call C_table_of (Nat.le_of_ble_eq_true rfl) g_table_of (pax_cons (px_v G 0 rfl (by decide) rfl (by trivial)) pax_nil (by intro _; rfl)) ⟨_, rfl, rfl, by exact hpre.1⟩ (by decide) (by intro _; rfl) (by intro _; rfl)) (by intro _; rfl) fun table_1 htable_1 => ?_
    show SX _ _ [.sh pl, .sh table_1, .un, .un, .un, .un, .un, .un] _
    refine sx_setO G 2 rfl (by decide) (px_dnew (κ := Str) (α := Int)) (by intro _; rfl) fun taken_1 htaken_1 => ?_
    show SX _ _ [.sh pl, .sh table_1, .ow taken_1, .un, .un, .un, .un, .un] _
    refine sx_forL (w := [3]) (fun i τ => ∃ D : Dct Str Int, τ = [.sh pl, .sh table_1, .ow D, .un, .un, .un, .un, .un] ∧ (pl.d.l.take i).findSome? (fun q => chainN table_1 q.a) = none ∧ D.l = tkS table_1 (pl.d.l.take i)) (Ly.ix_tup (px_fld 3 (px_v G 0 rfl (by decide) rfl (by trivial)) (px_int (i := 3)) rfl rfl (fun _ _ => rfl))) ⟨_, rfl, by (subst_vars; exact ⟨rfl, rfl⟩)⟩ ?_ (by intro _ _; rfl) ?_
    · rintro i x _ hx ⟨D, rfl, ⟨hN, hD⟩⟩
      refine ⟨_, (gx_n G 3 rfl (by decide) (by trivial)), ?_⟩
      show SX _ _ [.sh pl, .sh table_1, .ow D, .sh x, .un, .un, .un, .un] _
      refine sx_set G 4 rfl (by decide) (px_fld 0 (px_v G 3 rfl (by decide) rfl (by trivial)) (px_int (i := 0)) rfl rfl (fun _ _ => rfl)) (by intro _; rfl) fun name_1 hname_1 => ?_
      show SX _ _ [.sh pl, .sh table_1, .ow D, .sh x, .sh name_1, .un, .un, .un] _
      cases hch : chainN table_1 name_1 with
      | none =>
        refine sx_set (v := ()) G 5 rfl (by decide) (px_call C_chain_of (Nat.le_of_ble_eq_true rfl) g_chain_of (pax_cons (px_v G 1 rfl (by decide) rfl (by trivial)) (pax_cons (px_v G 4 rfl (by decide) rfl (by trivial)) pax_nil (by intro _; rfl)) (by intro _; rfl)) ⟨_, _, rfl, (by rw [hch]; rfl), by rw [htable_1, hname_1]; exact tb_chain hpre (List.mem_of_getElem? hx)⟩ (by decide) (by intro _; rfl) (by intro _; rfl)) (by intro _; rfl) fun chain_1 hchain_1 => ?_
        show SX _ _ [.sh pl, .sh table_1, .ow D, .sh x, .sh name_1, .sh chain_1, .un, .un] _
        refine sx_if (Ly.pt_cmp c_notN (px_none (α := Int) (px_v G 5 rfl (by decide) rfl (by trivial))) px_non (nomark _)) (fun c => absurd c (by decide)) (fun _ => ?_)
        refine sx_nil ?_
        show SX _ _ [.sh pl, .sh table_1, .ow D, .sh x, .sh name_1, .sh chain_1, .un, .un] _
        refine sx_if (pt_lend 2 rfl (Ly.pt_notInK (px_v G 4 rfl (by decide) rfl (by trivial)) (px_v G 2 rfl (by decide) rfl (by trivial)) (by rfl))) (fun c1 => ?_) (fun c1 => ?_)
        · skip
          refine sx_setO G 6 rfl (by decide) (px_call C_come_to (Nat.le_of_ble_eq_true rfl) g_come_to (pax_cons (px_v G 1 rfl (by decide) rfl (by trivial)) (pax_cons (px_tup2 (pax_cons (px_v G 4 rfl (by decide) rfl (by trivial)) (pax_cons (px_int (i := 0)) pax_nil (by intro _; rfl)) (by intro _; rfl))) pax_nil (by intro _; rfl)) (by intro _; rfl)) ⟨_, _, rfl, rfl, by rw [htable_1, hname_1]; have := tb_chain hpre (List.mem_of_getElem? hx); exact ⟨this.1, this.2.1⟩⟩ (by decide) (by intro _; rfl) (by intro _; rfl)) (by intro _; rfl) fun came_1 hcame_1 => ?_
          show SX _ _ [.sh pl, .sh table_1, .ow D, .sh x, .sh name_1, .sh chain_1, .ow came_1, .un] _
          refine sx_ifJ (fun τ => ∃ K : Dct (Str × Int) (Option (Str × Int)), τ = [.sh pl, .sh table_1, .ow D, .sh x, .sh name_1, .sh chain_1, .ow K, .un] ∧ K = pickN table_1 name_1) (pt_lend 6 rfl (Ly.pt_inK (px_tup2 (pax_cons (px_v G 4 rfl (by decide) rfl (by trivial)) (pax_cons (px_int (i := 1)) pax_nil (by intro _; rfl)) (by intro _; rfl))) (px_v G 6 rfl (by decide) rfl (by trivial)) (by rfl))) (fun c2 => ?_) (fun c2 => ?_) ?_
          · skip
            refine sx_setO G 6 rfl (by decide) (px_call C_come_to (Nat.le_of_ble_eq_true rfl) g_come_to (pax_cons (px_v G 1 rfl (by decide) rfl (by trivial)) (pax_cons (px_tup2 (pax_cons (px_v G 4 rfl (by decide) rfl (by trivial)) (pax_cons (px_int (i := 1)) pax_nil (by intro _; rfl)) (by intro _; rfl))) pax_nil (by intro _; rfl)) (by intro _; rfl)) ⟨_, _, rfl, rfl, by rw [htable_1, hname_1]; have := tb_chain hpre (List.mem_of_getElem? hx); exact ⟨this.1, this.2.2⟩⟩ (by decide) (by intro _; rfl) (by intro _; rfl)) (by intro _; rfl) fun came_2 hcame_2 => ?_
            show SX _ _ [.sh pl, .sh table_1, .ow D, .sh x, .sh name_1, .sh chain_1, .ow came_2, .un] _
            refine sx_wk (τ' := [.sh pl, .sh table_1, .ow D, .sh x, .sh name_1, .sh chain_1, .ow came_2, .un]) ⟨.inr rfl, .inr rfl, .inr rfl, .inr rfl, .inr rfl, .inr rfl, .inr rfl, .inl rfl, trivial⟩ (sx_nil ?_)
            exact ⟨came_2, rfl, by first | exact pk_one c2 hcame_1 (by assumption) | exact pk_zero c2 hcame_1⟩
          · skip
            refine sx_wk (τ' := [.sh pl, .sh table_1, .ow D, .sh x, .sh name_1, .sh chain_1, .ow came_1, .un]) ⟨.inr rfl, .inr rfl, .inr rfl, .inr rfl, .inr rfl, .inr rfl, .inr rfl, .inl rfl, trivial⟩ (sx_nil ?_)
            exact ⟨came_1, rfl, by first | exact pk_one c2 hcame_1 (by assumption) | exact pk_zero c2 hcame_1⟩
          rintro _ ⟨K, rfl, hK⟩
          show SX _ _ [.sh pl, .sh table_1, .ow D, .sh x, .sh name_1, .sh chain_1, .ow K, .un] _
          refine sx_pub 6 rfl ?_
          show SX _ _ [.sh pl, .sh table_1, .ow D, .sh x, .sh name_1, .sh chain_1, .sh K, .un] _
          refine sx_forD (w := [7]) (fun j τ => ∃ E : Dct Str Int, τ = [.sh pl, .sh table_1, .ow E, .sh x, .sh name_1, .sh chain_1, .sh K, .un] ∧ E.l = ((K.l.map (·.1)).take j).foldl (fun d r => aput d r.1 r.2) D.l) (sv_v G 6 rfl (by decide) rfl (by trivial)) dw_keys ⟨_, rfl, by rfl⟩ ?_ (by intro _ _; rfl) ?_
          · rintro j y _ hy ⟨E, rfl, hE⟩
            refine ⟨_, (gx_n G 7 rfl (by decide) (by trivial)), ?_⟩
            show SX _ _ [.sh pl, .sh table_1, .ow E, .sh x, .sh name_1, .sh chain_1, .sh K, .sh y] _
            refine sx_dput G 2 rfl (by decide) rfl (px_fld 1 (px_v G 7 rfl (by decide) rfl (by trivial)) (px_int (i := 1)) rfl rfl (fun _ _ => rfl)) (px_fld 0 (px_v G 7 rfl (by decide) rfl (by trivial)) (px_int (i := 0)) rfl rfl (fun _ _ => rfl)) (by exact tk_size hpre hx htable_1 hname_1 hD hK hE) (by intro _; rfl) ?_
            show SX _ _ [.sh pl, .sh table_1, .ow (Dct.mk (aput E.l y.1 y.2)), .sh x, .sh name_1, .sh chain_1, .sh K, .sh y] _
            refine sx_wk (τ' := [.sh pl, .sh table_1, .ow (Dct.mk (aput E.l y.1 y.2)), .sh x, .sh name_1, .sh chain_1, .sh K, .un]) ⟨.inr rfl, .inr rfl, .inr rfl, .inr rfl, .inr rfl, .inr rfl, .inr rfl, .inl rfl, trivial⟩ (sx_nil ?_)
            exact ⟨(Dct.mk (aput E.l y.1 y.2)), rfl, by (rw [fold_take hy, ← hE])⟩
          · rintro _ ⟨E, rfl, hE⟩
            show SX _ _ [.sh pl, .sh table_1, .ow E, .sh x, .sh name_1, .sh chain_1, .sh K, .un] _
            refine sx_nil ?_
            show SX _ _ [.sh pl, .sh table_1, .ow E, .sh x, .sh name_1, .sh chain_1, .sh K, .un] _
            refine sx_wk (τ' := [.sh pl, .sh table_1, .ow E, .un, .un, .un, .un, .un]) ⟨.inr rfl, .inr rfl, .inr rfl, .inl rfl, .inl rfl, .inl rfl, .inl rfl, .inl rfl, trivial⟩ (sx_nil ?_)
            exact ⟨E, rfl, by first | exact tk_next hx hN hname_1 hch hD c1 hK hE | exact tk_stay hx hN hname_1 hch hD c1⟩
        · skip
          refine sx_nil ?_
          show SX _ _ [.sh pl, .sh table_1, .ow D, .sh x, .sh name_1, .sh chain_1, .un, .un] _
          refine sx_wk (τ' := [.sh pl, .sh table_1, .ow D, .un, .un, .un, .un, .un]) ⟨.inr rfl, .inr rfl, .inr rfl, .inl rfl, .inl rfl, .inl rfl, .inl rfl, .inl rfl, trivial⟩ (sx_nil ?_)
          exact ⟨D, rfl, by first | exact tk_next hx hN hname_1 hch hD c1 hK hE | exact tk_stay hx hN hname_1 hch hD c1⟩
      | some ys =>
        refine sx_setO (v := ys) G 5 rfl (by decide) (px_call C_chain_of (Nat.le_of_ble_eq_true rfl) g_chain_of (pax_cons (px_v G 1 rfl (by decide) rfl (by trivial)) (pax_cons (px_v G 4 rfl (by decide) rfl (by trivial)) pax_nil (by intro _; rfl)) (by intro _; rfl)) ⟨_, _, rfl, (by rw [hch]; rfl), by rw [htable_1, hname_1]; exact tb_chain hpre (List.mem_of_getElem? hx)⟩ (by decide) (by intro _; rfl) (by intro _; rfl)) (by intro _; rfl) fun chain_1 hchain_1 => ?_
        show SX _ _ [.sh pl, .sh table_1, .ow D, .sh x, .sh name_1, .ow chain_1, .un, .un] _
        refine sx_if (pt_lend 5 rfl (Ly.pt_cmp c_notN (px_some (px_v G 5 rfl (by decide) rfl (by trivial))) px_non (nomark _))) (fun _ => ?_) (fun c => absurd (show true = false from c) (by decide))
        refine sx_retTwoS (α := Int) G 5 rfl (by decide) rfl (by intro _; rfl) (by intro _; rfl) ?_
        refine ⟨?_, (und_cons und_nil)⟩
        show _ = Out.val (Sl.ow _)
        exact (nt_val hNT).trans (congrArg Out.val (Eq.symm (congrArg Sl.ow (all_snd hx hN htable_1 hname_1 hch hchain_1))))
    · rintro _ ⟨D, rfl, ⟨hN, hD⟩⟩
      show SX _ _ [.sh pl, .sh table_1, .ow D, .un, .un, .un, .un, .un] _
      refine sx_ret (px_twoF (β := Str × Int) (px_lendR 2 rfl (px_lcM (own := [("point", 3)]) (w := [3]) G.nd (blkOk_by (by show blkC ["plan", "table", "taken", "point", "name", "chain", "came", "room"] (defScope s_all_set) _ _ = true; decide +kernel)) (Ly.ix_tup (px_fld 3 (px_v G 0 rfl (by decide) rfl (by trivial)) (px_int (i := 3)) rfl rfl (fun _ _ => rfl))) (by rw [sizeLine_eq]; have := hpre.1.dl; omega) (by decide) (fun x hx => ⟨_, (gx_w G (by rfl) 3 (by rfl) (by show L2.Loc (relS _ (defScope s_all_set)) _; decide +kernel) (by first | exact .inr (by show (relS _ (defScope s_all_set)).names.lookup _ = _; decide +kernel) | exact .inl (by show (List.lookup _ _ == _) = true; decide +kernel)) (by trivial)), (px_dget (px_w G (by rfl) 2 (by rfl) (by show Vis (relS _ (defScope s_all_set)) _; decide +kernel) (by rfl) (by trivial)) (px_fld 0 (px_w G (by rfl) 3 (by rfl) (by show Vis (relS _ (defScope s_all_set)) _; decide +kernel) (by rfl) (by trivial)) (px_int (i := 0)) rfl rfl (fun _ _ => rfl)) (by exact get_def (tk_all hpre htable_1 hD (by assumption))) (fun _ _ => rfl))⟩) (by intro _ _; rfl)) (by walk_at "imm")) (by intro _; rfl) (by intro _; rfl)) ?_
      refine ⟨?_, (und_cons und_nil)⟩
      show _ = Out.val (Sl.ow _)
      exact (nt_val hNT).trans (congrArg Out.val (Eq.symm (congrArg Sl.ow (all_fst htable_1 hN hD))))
  · skip
    refine sx_exprR (pr_callG (y := ⟨"NotTwo", "name", XA.of q.a⟩) C_need_two (Nat.le_of_ble_eq_true rfl) g_need_two (pax_cons (px_v G 0 rfl (by decide) rfl (by trivial)) pax_nil (by intro _; rfl)) ⟨_, rfl, rfl, by exact (nt_exc hNT).symm⟩ rfl (by decide) (by intro _; rfl) (by intro _; rfl)) ?_ (by intro _; rfl)
    refine ⟨?_, Und.kp (und_cons und_nil)⟩
    show _ = Out.exc _
    exact nt_exc hNT
/-! #### number -/
abbrev s_l_number : Stmt := top 41
theorem sc_l_number : FnScope ["_law_script", "_law_k"] ["_law_script", "_law_k"] (defScope s_l_number) := ⟨rfl, rfl, rfl, by decide +kernel, rfl, by decide +kernel, by decide +kernel⟩
theorem gd_l_number : gdB ["_law_script", "_law_k"] 2 (defScope s_l_number) = true := by decide +kernel
def ok_l_number : List Sl → Sl → Prop := fun as_ u_ => ∃ s : Scr, ∃ k : Int, as_ = [.sh s, .sh k] ∧ u_ = .sh (lawNum s k) ∧ (0 ≤ k ∧ k ≤ 100)
theorem fn_l_number {f : Addr} {fd : FuncData} (Z : Blt mg) (F : Fun K "_law_number" "_law_number" s_l_number f fd) : FnOk P w K mg base CX0 1 f fd ["_law_script", "_law_k"] (spT K ok_l_number) := by
  have g_len : (defScope s_l_number).names.lookup ("len" : Str) = some .globalImplicit := by decide +kernel
  refine fn_T F sc_l_number (fun as s h => ?_) (fun as s h => ?_)
  · obtain ⟨s, k, rfl, _⟩ := h; rfl
  obtain ⟨s, k, rfl, rfl, hpre⟩ := h
  have G : Gd ⟨P, w, K, mg, base, ["_law_script", "_law_k"], defScope s_l_number, fun _ => true, 0, (fun _ _ _ _ => False), true⟩ 2 := gd_of sc_l_number.nd gd_l_number
  show SX _ _ [.sh s, .sh k] _
  refine sx_if (Ly.pt_cmp c_lt (px_v G 1 rfl (by decide) rfl (by trivial)) (px_lenC g_len Z.len_ (px_v G 0 rfl (by decide) rfl (by trivial))) (nomark _)) (fun c0 => ?_) (fun c0 => ?_)
  · skip
    refine sx_ret (px_mod (px_mul (px_ixScr (px_v G 0 rfl (by decide) rfl (by trivial)) (px_v G 1 rfl (by decide) rfl (by trivial)) (by exact atI_getD (d := 0) hpre.1 (of_decide_eq_true c0)) (fun _ _ => rfl)) (px_int (i := 48271)) (by walk_at "sc_mul")) (px_int (i := 2147483647)) (by walk_at "sc_mod")) ?_
    show Sl.sh _ = _
    unfold lawNum; rw [if_pos (of_decide_eq_true c0)]
  · skip
    refine sx_nil ?_
    show SX _ _ [.sh s, .sh k] _
    refine sx_ret (px_mod (px_mul (px_mul (px_v G 1 rfl (by decide) rfl (by trivial)) (px_v G 1 rfl (by decide) rfl (by trivial)) (by exact .inl ⟨by omega, by omega⟩)) (px_int (i := 16807)) (by walk_at "sc_mul")) (px_int (i := 2147483629)) (by walk_at "sc_mod")) ?_
    show Sl.sh _ = _
    unfold lawNum; rw [if_neg (of_decide_eq_false c0)]
/-! #### names -/
abbrev s_l_names : Stmt := top 42
theorem sc_l_names : FnScope ["_law_number_here", "_law_many", "_law_letters", "_law_pad", "_law_code", "_law_names_here", "_law_k", "_law_size", "_law_name", "_law_text"] ["_law_number_here", "_law_many"] (defScope s_l_names) := ⟨rfl, rfl, rfl, by decide +kernel, rfl, by decide +kernel, by decide +kernel⟩
theorem gd_l_names : gdB ["_law_number_here", "_law_many", "_law_letters", "_law_pad", "_law_code", "_law_names_here", "_law_k", "_law_size", "_law_name", "_law_text"] 10 (defScope s_l_names) = true := by decide +kernel
def ok_l_names : List Sl → Sl → Prop := fun as_ u_ => ∃ n : Int, ∃ mn : Int, as_ = [.sh n, .sh mn] ∧ u_ = .ow (namesN n mn) ∧ (0 ≤ n ∧ 0 ≤ mn ∧ mn ≤ 26)
theorem fn_l_names {f : Addr} {fd : FuncData} (Z : Blt mg) (F : Fun K "_law_names" "_law_names" s_l_names f fd) : FnOk P w K mg base CX0 1 f fd ["_law_number_here", "_law_many"] (spT K ok_l_names) := by
  have g_max : (defScope s_l_names).names.lookup ("max" : Str) = some .globalImplicit := by decide +kernel
  have g_range : (defScope s_l_names).names.lookup ("range" : Str) = some .globalImplicit := by decide +kernel
  refine fn_T F sc_l_names (fun as s h => ?_) (fun as s h => ?_)
  · obtain ⟨n, mn, rfl, _⟩ := h; rfl
  obtain ⟨n, mn, rfl, rfl, hpre⟩ := h
  have G : Gd ⟨P, w, K, mg, base, ["_law_number_here", "_law_many", "_law_letters", "_law_pad", "_law_code", "_law_names_here", "_law_k", "_law_size", "_law_name", "_law_text"], defScope s_l_names, fun _ => true, 0, (fun _ _ _ _ => False), true⟩ 10 := gd_of sc_l_names.nd gd_l_names
  show SX _ _ [.sh n, .sh mn, .un, .un, .un, .un, .un, .un, .un, .un] _
  refine sx_set G 2 rfl (by decide) (px_str (by decide +kernel)) (by intro _; rfl) fun letters_1 hletters_1 => ?_
  show SX _ _ [.sh n, .sh mn, .sh letters_1, .un, .un, .un, .un, .un, .un, .un] _
  refine sx_set G 3 rfl (by decide) (px_ixS (px_v G 2 rfl (by decide) rfl (by trivial)) (px_mod (px_fdiv (px_v G 0 rfl (by decide) rfl (by trivial)) (px_int (i := 1352)) (by walk_at "sc_div")) (px_int (i := 26)) (by walk_at "sc_mod")) (by rw [hletters_1]; exact abc_at (by omega) (by omega)) (fun _ _ => rfl)) (by intro _; rfl) fun pad_1 hpad_1 => ?_
  show SX _ _ [.sh n, .sh mn, .sh letters_1, .sh pad_1, .un, .un, .un, .un, .un, .un] _
  refine sx_set G 4 rfl (by decide) (px_mod (px_v G 0 rfl (by decide) rfl (by trivial)) (px_int (i := 676)) (by walk_at "sc_mod")) (by intro _; rfl) fun code_1 hcode_1 => ?_
  show SX _ _ [.sh n, .sh mn, .sh letters_1, .sh pad_1, .sh code_1, .un, .un, .un, .un, .un] _
  refine sx_setO G 5 rfl (by decide) (px_lst (α := Str) (xs := []) pax_nil rfl (by show 0 ≤ sizeLine; decide)) (by intro _; rfl) fun names_here_1 hnames_here_1 => ?_
  show SX _ _ [.sh n, .sh mn, .sh letters_1, .sh pad_1, .sh code_1, .ow names_here_1, .un, .un, .un, .un] _
  refine sx_forL (w := [6]) (fun i τ => ∃ C : Int, ∃ F : List Str, τ = [.sh n, .sh mn, .sh letters_1, .sh pad_1, .sh C, .ow F, .un, .un, .un, .un] ∧ C = (nsS n i).1 ∧ F = (nsS n i).2) (ix_range1 g_range Z.range_ (px_v G 1 rfl (by decide) rfl (by trivial)) (by omega)) ⟨_, _, rfl, by (subst_vars; exact ⟨rfl, rfl⟩)⟩ ?_ (by intro _ _; rfl) ?_
  · rintro i x _ hx ⟨C, F, rfl, ⟨hC, hF⟩⟩
    refine ⟨_, (gx_n G 6 rfl (by decide) (by trivial)), ?_⟩
    show SX _ _ [.sh n, .sh mn, .sh letters_1, .sh pad_1, .sh C, .ow F, .sh x, .un, .un, .un] _
    refine sx_set G 7 rfl (by decide) (px_add (px_int (i := 1)) (px_mod (px_add (px_fdiv (px_v G 0 rfl (by decide) rfl (by trivial)) (px_add (px_v G 6 rfl (by decide) rfl (by trivial)) (px_int (i := 1))) (by have := rng_get hx; exact ⟨by omega, by omega⟩)) (px_v G 6 rfl (by decide) rfl (by trivial))) (px_int (i := 8)) (by walk_at "sc_mod"))) (by intro _; rfl) fun size_1 hsize_1 => ?_
    show SX _ _ [.sh n, .sh mn, .sh letters_1, .sh pad_1, .sh C, .ow F, .sh x, .sh size_1, .un, .un] _
    refine sx_ifJ (fun τ => ∃ Z : Int, τ = [.sh n, .sh mn, .sh letters_1, .sh pad_1, .sh C, .ow F, .sh x, .sh Z, .un, .un] ∧ Z = szN n i) (Ly.pt_cmp c_gt (px_v G 6 rfl (by decide) rfl (by trivial)) (px_int (i := 19)) (nomark _)) (fun c0 => ?_) (fun c0 => ?_) ?_
    · skip
      refine sx_set G 7 rfl (by decide) (px_max g_max Z.max_ (by decide +kernel) (px_v G 7 rfl (by decide) rfl (by trivial)) (px_int (i := 2))) (by intro _; rfl) fun size_2 hsize_2 => ?_
      show SX _ _ [.sh n, .sh mn, .sh letters_1, .sh pad_1, .sh C, .ow F, .sh x, .sh size_2, .un, .un] _
      refine sx_wk (τ' := [.sh n, .sh mn, .sh letters_1, .sh pad_1, .sh C, .ow F, .sh x, .sh size_2, .un, .un]) ⟨.inr rfl, .inr rfl, .inr rfl, .inr rfl, .inr rfl, .inr rfl, .inr rfl, .inr rfl, .inl rfl, .inl rfl, trivial⟩ (sx_nil ?_)
      exact ⟨size_2, rfl, by first | exact sz_big (rng_get hx).2 c0 hsize_1 hsize_2 | exact sz_small (rng_get hx).2 c0 hsize_1⟩
    · skip
      refine sx_wk (τ' := [.sh n, .sh mn, .sh letters_1, .sh pad_1, .sh C, .ow F, .sh x, .sh size_1, .un, .un]) ⟨.inr rfl, .inr rfl, .inr rfl, .inr rfl, .inr rfl, .inr rfl, .inr rfl, .inr rfl, .inl rfl, .inl rfl, trivial⟩ (sx_nil ?_)
      exact ⟨size_1, rfl, by first | exact sz_big (rng_get hx).2 c0 hsize_1 hsize_2 | exact sz_small (rng_get hx).2 c0 hsize_1⟩
    rintro _ ⟨Z, rfl, hZ⟩
    show SX _ _ [.sh n, .sh mn, .sh letters_1, .sh pad_1, .sh C, .ow F, .sh x, .sh Z, .un, .un] _
    have hzb := szN_in n i
    have hxi := rng_get hx
    rw [← hZ] at hzb
    refine sx_set G 8 rfl (by decide) (px_str (by decide +kernel)) (by intro _; rfl) fun name_1 hname_1 => ?_
    show SX _ _ [.sh n, .sh mn, .sh letters_1, .sh pad_1, .sh C, .ow F, .sh x, .sh Z, .sh name_1, .un] _
    refine sx_while (fun m τ => ∃ D : Int, ∃ M : Str, τ = [.sh n, .sh mn, .sh letters_1, .sh pad_1, .sh D, .ow F, .sh x, .sh Z, .sh M, .un] ∧ StN n i C F D M m) ⟨_, C, _, rfl, by exact st_zero hname_1 (by rw [hC]; exact nsS_code _ _) (by rw [hF]; exact nsS_len _ _) (by have := hxi.1; omega)⟩ ?_
    rintro m _ ⟨D, M, rfl, hS⟩
    refine ⟨_, (pt_lend 5 rfl (pt_w (Ly.pw_or (Ly.pt_cmp c_eqS (px_v G 8 rfl (by decide) rfl (by trivial)) (px_str (by decide +kernel)) (nomark _)) fun hs1 => (Ly.pw_or1 (Ly.pt_cmp (c_inD (α := Str) (by decide)) (px_v G 8 rfl (by decide) rfl (by trivial)) (px_v G 5 rfl (by decide) rfl (by trivial)) (by rfl)))))), fun hw => ?_, fun hw => ?_⟩
    · skip
      refine sx_set G 4 rfl (by decide) (px_mod (px_add (px_v G 4 rfl (by decide) rfl (by trivial)) (px_int (i := 7))) (px_int (i := 676)) (by walk_at "sc_mod")) (by intro _; rfl) fun code_2 hcode_2 => ?_
      show SX _ _ [.sh n, .sh mn, .sh letters_1, .sh pad_1, .sh code_2, .ow F, .sh x, .sh Z, .sh M, .un] _
      have hcd := code_in code_2 hcode_2
      refine sx_set G 9 rfl (by decide) (px_cat (px_ixS (px_v G 2 rfl (by decide) rfl (by trivial)) (px_fdiv (px_v G 4 rfl (by decide) rfl (by trivial)) (px_int (i := 26)) (by walk_at "sc_div")) (by rw [hletters_1]; exact abc_at (by have := hcd; omega) (by have := hcd; omega)) (fun _ _ => rfl)) (px_ixS (px_v G 2 rfl (by decide) rfl (by trivial)) (px_mod (px_v G 4 rfl (by decide) rfl (by trivial)) (px_int (i := 26)) (by walk_at "sc_mod")) (by rw [hletters_1]; exact abc_at (by omega) (by omega)) (fun _ _ => rfl)) (by show 1 + 1 ≤ sizeLine; decide)) (by intro _; rfl) fun text_1 htext_1 => ?_
      show SX _ _ [.sh n, .sh mn, .sh letters_1, .sh pad_1, .sh code_2, .ow F, .sh x, .sh Z, .sh M, .sh text_1] _
      refine sx_set G 8 rfl (by decide) (px_ixL (px_pub (px_lst (α := Str) (xs := [_, _]) (pax_cons (px_cat (px_srep (px_v G 3 rfl (by decide) rfl (by trivial)) (px_sub (px_v G 7 rfl (by decide) rfl (by trivial)) (px_int (i := 2))) (by exact ⟨by rw [hpad_1]; rfl, by omega, by omega⟩)) (px_v G 9 rfl (by decide) rfl (by trivial)) (by rw [htext_1, hpad_1, sizeLine_eq]; have := mul_len (97 + (n / 1352 % 26).toNat) (n := Z - 2); have h2 := two_len (97 + (code_2 / 26).toNat) (97 + (code_2 % 26).toNat); omega)) (pax_cons (px_cat (px_v G 9 rfl (by decide) rfl (by trivial)) (px_srep (px_v G 3 rfl (by decide) rfl (by trivial)) (px_sub (px_v G 7 rfl (by decide) rfl (by trivial)) (px_int (i := 2))) (by exact ⟨by rw [hpad_1]; rfl, by omega, by omega⟩)) (by rw [htext_1, hpad_1, sizeLine_eq]; have := mul_len (97 + (n / 1352 % 26).toNat) (n := Z - 2); have h2 := two_len (97 + (code_2 / 26).toNat) (97 + (code_2 % 26).toNat); omega)) pax_nil (by intro _; rfl)) (by intro _; rfl)) rfl (by show 2 ≤ sizeLine; decide))) (px_mod (px_fdiv (px_v G 0 rfl (by decide) rfl (by trivial)) (px_int (i := 676)) (by walk_at "sc_div")) (px_int (i := 2)) (by walk_at "sc_mod")) (by exact atI_getD (d := default) (by omega) (by show _ < ((2 : Nat) : Int); omega)) (fun _ _ => rfl)) (by intro _; rfl) fun name_2 hname_2 => ?_
      show SX _ _ [.sh n, .sh mn, .sh letters_1, .sh pad_1, .sh code_2, .ow F, .sh x, .sh Z, .sh name_2, .sh text_1] _
      refine sx_if (Ly.pt_cmp c_eqI (px_v G 7 rfl (by decide) rfl (by trivial)) (px_int (i := 1)) (nomark _)) (fun c1 => ?_) (fun c1 => ?_)
      · skip
        refine sx_set G 8 rfl (by decide) (px_slS (px_v G 9 rfl (by decide) rfl (by trivial)) (show POx _ none _ none from trivial) (show POx _ (some _) _ (some _) from (px_int (i := 1)))) (by intro _; rfl) fun name_3 hname_3 => ?_
        show SX _ _ [.sh n, .sh mn, .sh letters_1, .sh pad_1, .sh code_2, .ow F, .sh x, .sh Z, .sh name_3, .sh text_1] _
        refine sx_nil ?_
        show SX _ _ [.sh n, .sh mn, .sh letters_1, .sh pad_1, .sh code_2, .ow F, .sh x, .sh Z, .sh name_3, .sh text_1] _
        refine sx_wk (τ' := [.sh n, .sh mn, .sh letters_1, .sh pad_1, .sh code_2, .ow F, .sh x, .sh Z, .sh name_3, .un]) ⟨.inr rfl, .inr rfl, .inr rfl, .inr rfl, .inr rfl, .inr rfl, .inr rfl, .inr rfl, .inr rfl, .inl rfl, trivial⟩ (sx_nil ?_)
        exact ⟨m - 1, by exact st_less hS (by simpa using hw), code_2, name_3, rfl, by first | exact st_next1 hpad_1 hZ hS (by simpa using hw) hcode_2 htext_1 hname_3 c1 | exact st_next2 hpad_1 hZ hS (by simpa using hw) hcode_2 htext_1 hname_2 c1⟩
      · skip
        refine sx_nil ?_
        show SX _ _ [.sh n, .sh mn, .sh letters_1, .sh pad_1, .sh code_2, .ow F, .sh x, .sh Z, .sh name_2, .sh text_1] _
        refine sx_wk (τ' := [.sh n, .sh mn, .sh letters_1, .sh pad_1, .sh code_2, .ow F, .sh x, .sh Z, .sh name_2, .un]) ⟨.inr rfl, .inr rfl, .inr rfl, .inr rfl, .inr rfl, .inr rfl, .inr rfl, .inr rfl, .inr rfl, .inl rfl, trivial⟩ (sx_nil ?_)
        exact ⟨m - 1, by exact st_less hS (by simpa using hw), code_2, name_2, rfl, by first | exact st_next1 hpad_1 hZ hS (by simpa using hw) hcode_2 htext_1 hname_3 c1 | exact st_next2 hpad_1 hZ hS (by simpa using hw) hcode_2 htext_1 hname_2 c1⟩
    · skip
      refine sx_append G 5 rfl (by decide) rfl (px_v G 8 rfl (by decide) rfl (by trivial)) (by rw [hF, nsS_len, sizeLine_eq]; have := (rng_get hx).1; omega) (by intro _; rfl) rfl (by intro _; rfl) (by intro _; rfl) ?_
      show SX _ _ [.sh n, .sh mn, .sh letters_1, .sh pad_1, .sh D, .ow (F ++ [M]), .sh x, .sh Z, .sh M, .un] _
      refine sx_wk (τ' := [.sh n, .sh mn, .sh letters_1, .sh pad_1, .sh D, .ow (F ++ [M]), .un, .un, .un, .un]) ⟨.inr rfl, .inr rfl, .inr rfl, .inr rfl, .inr rfl, .inr rfl, .inl rfl, .inl rfl, .inl rfl, .inl rfl, trivial⟩ (sx_nil ?_)
      exact ⟨D, (F ++ [M]), rfl, by exact ns_next hpad_1 hZ hC hF hS (by simpa using hw)⟩
  · rintro _ ⟨C, F, rfl, ⟨hC, hF⟩⟩
    show SX _ _ [.sh n, .sh mn, .sh letters_1, .sh pad_1, .sh C, .ow F, .un, .un, .un, .un] _
    refine sx_retV G 5 rfl (by decide) rfl (fun z => by cases z) ?_
    show Sl.ow _ = _
    rw [hF]; rfl
/-! #### places -/
abbrev s_l_places : Stmt := top 43
theorem sc_l_places : FnScope ["_law_number_here", "_law_many", "_law_ways", "_law_first", "_law_step", "_law_places_here", "_law_k", "_law_price"] ["_law_number_here", "_law_many"] (defScope s_l_places) := ⟨rfl, rfl, rfl, by decide +kernel, rfl, by decide +kernel, by decide +kernel⟩
theorem gd_l_places : gdB ["_law_number_here", "_law_many", "_law_ways", "_law_first", "_law_step", "_law_places_here", "_law_k", "_law_price"] 8 (defScope s_l_places) = true := by decide +kernel
def ok_l_places : List Sl → Sl → Prop := fun as_ u_ => ∃ n : Int, ∃ mn : Int, as_ = [.sh n, .sh mn] ∧ u_ = .sh (Tup.mk (plS n mn.toNat)) ∧ (0 ≤ n ∧ 0 ≤ mn ∧ mn ≤ 6)
theorem fn_l_places {f : Addr} {fd : FuncData} (Z : Blt mg) (F : Fun K "_law_places" "_law_places" s_l_places f fd) : FnOk P w K mg base CX0 1 f fd ["_law_number_here", "_law_many"] (spT K ok_l_places) := by
  have g_range : (defScope s_l_places).names.lookup ("range" : Str) = some .globalImplicit := by decide +kernel
  have g_tuple : (defScope s_l_places).names.lookup ("tuple" : Str) = some .globalImplicit := by decide +kernel
  refine fn_T F sc_l_places (fun as s h => ?_) (fun as s h => ?_)
  · obtain ⟨n, mn, rfl, _⟩ := h; rfl
  obtain ⟨n, mn, rfl, rfl, hpre⟩ := h
  have G : Gd ⟨P, w, K, mg, base, ["_law_number_here", "_law_many", "_law_ways", "_law_first", "_law_step", "_law_places_here", "_law_k", "_law_price"], defScope s_l_places, fun _ => true, 0, (fun _ _ _ _ => False), true⟩ 8 := gd_of sc_l_places.nd gd_l_places
  show SX _ _ [.sh n, .sh mn, .un, .un, .un, .un, .un, .un] _
  refine sx_setO G 2 rfl (by decide) (px_lst (α := Str) (xs := [_, _, _, _, _, _]) (pax_cons (px_str (by decide +kernel)) (pax_cons (px_str (by decide +kernel)) (pax_cons (px_str (by decide +kernel)) (pax_cons (px_str (by decide +kernel)) (pax_cons (px_str (by decide +kernel)) (pax_cons (px_str (by decide +kernel)) pax_nil (by intro _; rfl)) (by intro _; rfl)) (by intro _; rfl)) (by intro _; rfl)) (by intro _; rfl)) (by intro _; rfl)) rfl (by show 6 ≤ sizeLine; decide)) (by intro _; rfl) fun ways_1 hways_1 => ?_
  show SX _ _ [.sh n, .sh mn, .ow ways_1, .un, .un, .un, .un, .un] _
  refine sx_set G 3 rfl (by decide) (px_mod (px_v G 0 rfl (by decide) rfl (by trivial)) (px_int (i := 6)) (by walk_at "sc_mod")) (by intro _; rfl) fun first_1 hfirst_1 => ?_
  show SX _ _ [.sh n, .sh mn, .ow ways_1, .sh first_1, .un, .un, .un, .un] _
  refine sx_set G 4 rfl (by decide) (px_ixL (px_pub (px_lst (α := Int) (xs := [_, _]) (pax_cons (px_int (i := 1)) (pax_cons (px_int (i := 5)) pax_nil (by intro _; rfl)) (by intro _; rfl)) rfl (by show 2 ≤ sizeLine; decide))) (px_mod (px_fdiv (px_v G 0 rfl (by decide) rfl (by trivial)) (px_int (i := 6)) (by walk_at "sc_div")) (px_int (i := 2)) (by walk_at "sc_mod")) (by exact atI_getD (d := 0) (by omega) (by show _ < ((2 : Nat) : Int); omega)) (fun _ _ => rfl)) (by intro _; rfl) fun step_1 hstep_1 => ?_
  show SX _ _ [.sh n, .sh mn, .ow ways_1, .sh first_1, .sh step_1, .un, .un, .un] _
  refine sx_setO G 5 rfl (by decide) (px_lst (α := (Str × Int)) (xs := []) pax_nil rfl (by show 0 ≤ sizeLine; decide)) (by intro _; rfl) fun places_here_1 hplaces_here_1 => ?_
  show SX _ _ [.sh n, .sh mn, .ow ways_1, .sh first_1, .sh step_1, .ow places_here_1, .un, .un] _
  refine sx_forL (w := [6]) (fun i τ => ∃ N : Int, ∃ F : List (Str × Int), τ = [.sh N, .sh mn, .ow ways_1, .sh first_1, .sh step_1, .ow F, .un, .un] ∧ N = plN n i ∧ F = plS n i) (ix_range1 g_range Z.range_ (px_v G 1 rfl (by decide) rfl (by trivial)) (by omega)) ⟨n, _, rfl, by (subst_vars; exact ⟨rfl, rfl⟩)⟩ ?_ (by intro _ _; rfl) ?_
  · rintro i x _ hx ⟨N, F, rfl, ⟨hN, hF⟩⟩
    refine ⟨_, (gx_n G 6 rfl (by decide) (by trivial)), ?_⟩
    show SX _ _ [.sh N, .sh mn, .ow ways_1, .sh first_1, .sh step_1, .ow F, .sh x, .un] _
    refine sx_set G 0 rfl (by decide) (px_mod (px_mul (px_add (px_v G 0 rfl (by decide) rfl (by trivial)) (px_int (i := 1))) (px_int (i := 16807)) (by walk_at "sc_mul")) (px_int (i := 2147483587)) (by walk_at "sc_mod")) (by intro _; rfl) fun number_here_1 hnumber_here_1 => ?_
    show SX _ _ [.sh number_here_1, .sh mn, .ow ways_1, .sh first_1, .sh step_1, .ow F, .sh x, .un] _
    refine sx_set G 7 rfl (by decide) (px_mod (px_fdiv (px_v G 0 rfl (by decide) rfl (by trivial)) (px_int (i := 8)) (by walk_at "sc_div")) (px_ixL (px_pub (px_lst (α := Int) (xs := [_, _, _]) (pax_cons (px_int (i := 10)) (pax_cons (px_int (i := 1000)) (pax_cons (px_pow (px_int (i := 10)) (px_int (i := 9)) (by walk_at "sc_pow")) pax_nil (by intro _; rfl)) (by intro _; rfl)) (by intro _; rfl)) rfl (by show 3 ≤ sizeLine; decide))) (px_mod (px_v G 0 rfl (by decide) rfl (by trivial)) (px_int (i := 3)) (by walk_at "sc_mod")) (by exact atI_getD (d := 0) (by omega) (by show _ < ((3 : Nat) : Int); omega)) (fun _ _ => rfl)) (by exact pr_pos _)) (by intro _; rfl) fun price_1 hprice_1 => ?_
    show SX _ _ [.sh number_here_1, .sh mn, .ow ways_1, .sh first_1, .sh step_1, .ow F, .sh x, .sh price_1] _
    refine sx_append G 5 rfl (by decide) rfl (px_lendR 2 rfl (px_tup2 (pax_cons (px_ixL (px_v G 2 rfl (by decide) rfl (by trivial)) (px_mod (px_add (px_v G 3 rfl (by decide) rfl (by trivial)) (px_mul (px_v G 6 rfl (by decide) rfl (by trivial)) (px_v G 4 rfl (by decide) rfl (by trivial)) (by have := rng_get hx; have := st15 (n / 6); rw [← hstep_1] at this; exact .inl ⟨by omega, by omega⟩))) (px_int (i := 6)) (by walk_at "sc_mod")) (by exact atI_getD (d := default) (by omega) (by rw [hways_1]; show _ < ((6 : Nat) : Int); omega)) (fun _ _ => rfl)) (pax_cons (px_v G 7 rfl (by decide) rfl (by trivial)) pax_nil (by intro _; rfl)) (by intro _; rfl))) (by walk_at "imm")) (by rw [hF, plS_len, sizeLine_eq]; have := (rng_get hx).1; omega) (by intro _; rfl) rfl (by intro _; rfl) (by intro _; rfl) ?_
    show SX _ _ [.sh number_here_1, .sh mn, .ow ways_1, .sh first_1, .sh step_1, .ow (F ++ [(ways_1.getD ((first_1 + x * step_1) % 6).toNat default, price_1)]), .sh x, .sh price_1] _
    refine sx_wk (τ' := [.sh number_here_1, .sh mn, .ow ways_1, .sh first_1, .sh step_1, .ow (F ++ [(ways_1.getD ((first_1 + x * step_1) % 6).toNat default, price_1)]), .un, .un]) ⟨.inr rfl, .inr rfl, .inr rfl, .inr rfl, .inr rfl, .inr rfl, .inl rfl, .inl rfl, trivial⟩ (sx_nil ?_)
    exact ⟨number_here_1, (F ++ [(ways_1.getD ((first_1 + x * step_1) % 6).toNat default, price_1)]), rfl, by (have e := (rng_get hx).2; subst_vars; exact ⟨rfl, rfl⟩)⟩
  · rintro _ ⟨N, F, rfl, ⟨hN, hF⟩⟩
    show SX _ _ [.sh N, .sh mn, .ow ways_1, .sh first_1, .sh step_1, .ow F, .un, .un] _
    refine sx_ret (px_lendR 5 rfl (px_tuple g_tuple Z.tuple_ (by decide +kernel) (px_v G 5 rfl (by decide) rfl (by trivial))) (by walk_at "imm")) ?_
    show Sl.sh _ = _
    rw [hF, rng_len]
/-! #### kept -/
abbrev s_l_kept : Stmt := top 44
theorem sc_l_kept : FnScope ["_law_number_here", "_law_wide", "_law_high", "_law_kept_here", "_law_k", "_law_x", "_law_y"] ["_law_number_here", "_law_wide", "_law_high"] (defScope s_l_kept) := ⟨rfl, rfl, rfl, by decide +kernel, rfl, by decide +kernel, by decide +kernel⟩
theorem gd_l_kept : gdB ["_law_number_here", "_law_wide", "_law_high", "_law_kept_here", "_law_k", "_law_x", "_law_y"] 7 (defScope s_l_kept) = true := by decide +kernel
def ok_l_kept : List Sl → Sl → Prop := fun as_ u_ => ∃ n : Int, ∃ wd : Int, ∃ hg : Int, as_ = [.sh n, .sh wd, .sh hg] ∧ u_ = .sh (Tup.mk (kpS n wd hg (kpC n))) ∧ (0 ≤ n ∧ 1 ≤ wd ∧ wd ≤ 20 ∧ 1 ≤ hg ∧ hg ≤ 20)
theorem fn_l_kept {f : Addr} {fd : FuncData} (Z : Blt mg) (F : Fun K "_law_kept" "_law_kept" s_l_kept f fd) : FnOk P w K mg base CX0 1 f fd ["_law_number_here", "_law_wide", "_law_high"] (spT K ok_l_kept) := by
  have g_min : (defScope s_l_kept).names.lookup ("min" : Str) = some .globalImplicit := by decide +kernel
  have g_range : (defScope s_l_kept).names.lookup ("range" : Str) = some .globalImplicit := by decide +kernel
  have g_tuple : (defScope s_l_kept).names.lookup ("tuple" : Str) = some .globalImplicit := by decide +kernel
  refine fn_T F sc_l_kept (fun as s h => ?_) (fun as s h => ?_)
  · obtain ⟨n, wd, hg, rfl, _⟩ := h; rfl
  obtain ⟨n, wd, hg, rfl, rfl, hpre⟩ := h
  have G : Gd ⟨P, w, K, mg, base, ["_law_number_here", "_law_wide", "_law_high", "_law_kept_here", "_law_k", "_law_x", "_law_y"], defScope s_l_kept, fun _ => true, 0, (fun _ _ _ _ => False), true⟩ 7 := gd_of sc_l_kept.nd gd_l_kept
  show SX _ _ [.sh n, .sh wd, .sh hg, .un, .un, .un, .un] _
  refine sx_setO G 3 rfl (by decide) (px_lst (α := Box) (xs := []) pax_nil rfl (by show 0 ≤ sizeLine; decide)) (by intro _; rfl) fun kept_here_1 hkept_here_1 => ?_
  show SX _ _ [.sh n, .sh wd, .sh hg, .ow kept_here_1, .un, .un, .un] _
  refine sx_forL (w := [4]) (fun i τ => ∃ N : Int, ∃ F : List Box, τ = [.sh N, .sh wd, .sh hg, .ow F, .un, .un, .un] ∧ N = kpN n i ∧ F = kpS n wd hg i) (ix_range1 g_range Z.range_ (px_ixL (px_pub (px_lst (α := Int) (xs := [_, _, _, _]) (pax_cons (px_int (i := 0)) (pax_cons (px_int (i := 1)) (pax_cons (px_int (i := 2)) (pax_cons (px_int (i := 4)) pax_nil (by intro _; rfl)) (by intro _; rfl)) (by intro _; rfl)) (by intro _; rfl)) rfl (by show 4 ≤ sizeLine; decide))) (px_mod (px_v G 0 rfl (by decide) rfl (by trivial)) (px_int (i := 4)) (by walk_at "sc_mod")) (by exact atI_getD (d := 0) (by omega) (by show _ < ((4 : Nat) : Int); omega)) (fun _ _ => rfl)) (by have := kp_in n; exact ⟨by omega, by omega⟩)) ⟨n, _, rfl, by (subst_vars; exact ⟨rfl, rfl⟩)⟩ ?_ (by intro _ _; rfl) ?_
  · rintro i x _ hx ⟨N, F, rfl, ⟨hN, hF⟩⟩
    refine ⟨_, (gx_n G 4 rfl (by decide) (by trivial)), ?_⟩
    show SX _ _ [.sh N, .sh wd, .sh hg, .ow F, .sh x, .un, .un] _
    refine sx_set G 0 rfl (by decide) (px_mod (px_mul (px_add (px_v G 0 rfl (by decide) rfl (by trivial)) (px_int (i := 1))) (px_int (i := 48271)) (by walk_at "sc_mul")) (px_int (i := 2147483587)) (by walk_at "sc_mod")) (by intro _; rfl) fun number_here_1 hnumber_here_1 => ?_
    show SX _ _ [.sh number_here_1, .sh wd, .sh hg, .ow F, .sh x, .un, .un] _
    refine sx_set G 5 rfl (by decide) (px_mod (px_v G 0 rfl (by decide) rfl (by trivial)) (px_v G 1 rfl (by decide) rfl (by trivial)) (by omega)) (by intro _; rfl) fun x_1 hx_1 => ?_
    show SX _ _ [.sh number_here_1, .sh wd, .sh hg, .ow F, .sh x, .sh x_1, .un] _
    refine sx_set G 6 rfl (by decide) (px_mod (px_fdiv (px_v G 0 rfl (by decide) rfl (by trivial)) (px_int (i := 20)) (by walk_at "sc_div")) (px_v G 2 rfl (by decide) rfl (by trivial)) (by omega)) (by intro _; rfl) fun y_1 hy_1 => ?_
    show SX _ _ [.sh number_here_1, .sh wd, .sh hg, .ow F, .sh x, .sh x_1, .sh y_1] _
    refine sx_append G 3 rfl (by decide) rfl (px_tup4 (pax_cons (px_v G 5 rfl (by decide) rfl (by trivial)) (pax_cons (px_v G 6 rfl (by decide) rfl (by trivial)) (pax_cons (px_add (px_int (i := 1)) (px_mod (px_fdiv (px_v G 0 rfl (by decide) rfl (by trivial)) (px_int (i := 400)) (by walk_at "sc_div")) (px_min g_min Z.min_ (by decide +kernel) (px_int (i := 3)) (px_sub (px_v G 1 rfl (by decide) rfl (by trivial)) (px_v G 5 rfl (by decide) rfl (by trivial)))) (by have := Int.emod_lt_of_pos number_here_1 (show 0 < wd by omega); split <;> omega))) (pax_cons (px_add (px_int (i := 1)) (px_mod (px_fdiv (px_v G 0 rfl (by decide) rfl (by trivial)) (px_int (i := 2400)) (by walk_at "sc_div")) (px_min g_min Z.min_ (by decide +kernel) (px_int (i := 3)) (px_sub (px_v G 2 rfl (by decide) rfl (by trivial)) (px_v G 6 rfl (by decide) rfl (by trivial)))) (by have := Int.emod_lt_of_pos (number_here_1 / 20) (show 0 < hg by omega); split <;> omega))) pax_nil (by intro _; rfl)) (by intro _; rfl)) (by intro _; rfl)) (by intro _; rfl))) (by rw [hF, kpS_len, sizeLine_eq]; have := (rng_get hx).1; have := (kp_in n); omega) (by intro _; rfl) rfl (by intro _; rfl) (by intro _; rfl) ?_
    show SX _ _ [.sh number_here_1, .sh wd, .sh hg, .ow (F ++ [(T4.mk x_1 y_1 (1 + number_here_1 / 400 % (if wd - x_1 < 3 then wd - x_1 else 3)) (1 + number_here_1 / 2400 % (if hg - y_1 < 3 then hg - y_1 else 3)))]), .sh x, .sh x_1, .sh y_1] _
    refine sx_wk (τ' := [.sh number_here_1, .sh wd, .sh hg, .ow (F ++ [(T4.mk x_1 y_1 (1 + number_here_1 / 400 % (if wd - x_1 < 3 then wd - x_1 else 3)) (1 + number_here_1 / 2400 % (if hg - y_1 < 3 then hg - y_1 else 3)))]), .un, .un, .un]) ⟨.inr rfl, .inr rfl, .inr rfl, .inr rfl, .inl rfl, .inl rfl, .inl rfl, trivial⟩ (sx_nil ?_)
    exact ⟨number_here_1, (F ++ [(T4.mk x_1 y_1 (1 + number_here_1 / 400 % (if wd - x_1 < 3 then wd - x_1 else 3)) (1 + number_here_1 / 2400 % (if hg - y_1 < 3 then hg - y_1 else 3)))]), rfl, by (subst_vars; exact ⟨rfl, rfl⟩)⟩
  · rintro _ ⟨N, F, rfl, ⟨hN, hF⟩⟩
    show SX _ _ [.sh N, .sh wd, .sh hg, .ow F, .un, .un, .un] _
    refine sx_ret (px_lendR 3 rfl (px_tuple g_tuple Z.tuple_ (by decide +kernel) (px_v G 3 rfl (by decide) rfl (by trivial))) (by walk_at "imm")) ?_
    show Sl.sh _ = _
    rw [hF, rng_len]; rfl
/-! #### plan -/
abbrev s_l_plan : Stmt := top 45
theorem sc_l_plan : FnScope ["_law_script", "_law_first", "_law_most", "_law_number_here", "_law_wide", "_law_high", "_law_free", "_law_names_here", "_law_points", "_law_k", "_law_spot", "_law_x", "_law_y"] ["_law_script", "_law_first", "_law_most"] (defScope s_l_plan) := ⟨rfl, rfl, rfl, by decide +kernel, rfl, by decide +kernel, by decide +kernel⟩
theorem gd_l_plan : gdB ["_law_script", "_law_first", "_law_most", "_law_number_here", "_law_wide", "_law_high", "_law_free", "_law_names_here", "_law_points", "_law_k", "_law_spot", "_law_x", "_law_y"] 13 (defScope s_l_plan) = true := by decide +kernel
def ok_l_plan : List Sl → Sl → Prop := fun as_ u_ => ∃ s : Scr, ∃ fi : Int, ∃ mo : Int, as_ = [.sh s, .sh fi, .sh mo] ∧ u_ = .sh (numPlan s fi mo 2) ∧ (s.l.length ≤ 63 ∧ 0 ≤ fi ∧ fi ≤ 10 ∧ 0 ≤ mo ∧ mo ≤ 26 ∧ 1 ≤ 2 ∧ 2 ≤ 6)
theorem fn_l_plan {f : Addr} {fd : FuncData} (Z : Blt mg) (F : Fun K "_law_plan" "_law_plan" s_l_plan f fd) (C_l_number : Cal P w K mg base 1 "_law_number" ok_l_number) (C_l_names : Cal P w K mg base 1 "_law_names" ok_l_names) (C_l_places : Cal P w K mg base 1 "_law_places" ok_l_places) (C_l_kept : Cal P w K mg base 1 "_law_kept" ok_l_kept) : FnOk P w K mg base CX0 2 f fd ["_law_script", "_law_first", "_law_most"] (spT K ok_l_plan) := by
  have g_law_kept : (defScope s_l_plan).names.lookup ("_law_kept" : Str) = some .globalImplicit := by decide +kernel
  have g_law_names : (defScope s_l_plan).names.lookup ("_law_names" : Str) = some .globalImplicit := by decide +kernel
  have g_law_number : (defScope s_l_plan).names.lookup ("_law_number" : Str) = some .globalImplicit := by decide +kernel
  have g_law_places : (defScope s_l_plan).names.lookup ("_law_places" : Str) = some .globalImplicit := by decide +kernel
  have g_len : (defScope s_l_plan).names.lookup ("len" : Str) = some .globalImplicit := by decide +kernel
  have g_min : (defScope s_l_plan).names.lookup ("min" : Str) = some .globalImplicit := by decide +kernel
  have g_range : (defScope s_l_plan).names.lookup ("range" : Str) = some .globalImplicit := by decide +kernel
  have g_tuple : (defScope s_l_plan).names.lookup ("tuple" : Str) = some .globalImplicit := by decide +kernel
  refine fn_T F sc_l_plan (fun as s h => ?_) (fun as s h => ?_)
  · obtain ⟨s, fi, mo, rfl, _⟩ := h; rfl
  obtain ⟨s, fi, mo, rfl, rfl, hpre⟩ := h
  have G : Gd ⟨P, w, K, mg, base, ["_law_script", "_law_first", "_law_most", "_law_number_here", "_law_wide", "_law_high", "_law_free", "_law_names_here", "_law_points", "_law_k", "_law_spot", "_law_x", "_law_y"], defScope s_l_plan, fun _ => true, 1, (fun _ _ _ _ => False), true⟩ 13 := gd_of sc_l_plan.nd gd_l_plan
  show SX _ _ [.sh s, .sh fi, .sh mo, .un, .un, .un, .un, .un, .un, .un, .un, .un, .un] _
  refine sx_set G 3 rfl (by decide) (px_call C_l_number (Nat.le_of_ble_eq_true rfl) g_law_number (pax_cons (px_v G 0 rfl (by decide) rfl (by trivial)) (pax_cons (px_int (i := 0)) pax_nil (by intro _; rfl)) (by intro _; rfl)) ⟨_, _, rfl, rfl, by decide⟩ (by decide) (by intro _; rfl) (by intro _; rfl)) (by intro _; rfl) fun number_here_1 hnumber_here_1 => ?_
  show SX _ _ [.sh s, .sh fi, .sh mo, .sh number_here_1, .un, .un, .un, .un, .un, .un, .un, .un, .un] _
  refine sx_set G 4 rfl (by decide) (px_add (px_int (i := 4)) (px_mod (px_v G 3 rfl (by decide) rfl (by trivial)) (px_int (i := 17)) (by walk_at "sc_mod"))) (by intro _; rfl) fun wide_1 hwide_1 => ?_
  show SX _ _ [.sh s, .sh fi, .sh mo, .sh number_here_1, .sh wide_1, .un, .un, .un, .un, .un, .un, .un, .un] _
  refine sx_set G 5 rfl (by decide) (px_add (px_int (i := 2)) (px_mod (px_fdiv (px_v G 3 rfl (by decide) rfl (by trivial)) (px_int (i := 17)) (by walk_at "sc_div")) (px_int (i := 19)) (by walk_at "sc_mod"))) (by intro _; rfl) fun high_1 hhigh_1 => ?_
  show SX _ _ [.sh s, .sh fi, .sh mo, .sh number_here_1, .sh wide_1, .sh high_1, .un, .un, .un, .un, .un, .un, .un] _
  have hwd : 4 ≤ wide_1 ∧ wide_1 ≤ 20 := by rw [hwide_1]; omega
  have hhg : 2 ≤ high_1 ∧ high_1 ≤ 20 := by rw [hhigh_1]; omega
  refine sx_lcM (own := [("_law_k", 9)]) (w := [9]) G 6 rfl (by show (defScope s_l_plan).names.lookup _ = _; decide +kernel) rfl rfl (by decide +kernel) (blkOk_by (by show blkC ["_law_script", "_law_first", "_law_most", "_law_number_here", "_law_wide", "_law_high", "_law_free", "_law_names_here", "_law_points", "_law_k", "_law_spot", "_law_x", "_law_y"] (defScope s_l_plan) _ _ = true; decide +kernel)) (ix_range1 g_range Z.range_ (px_mul (px_v G 4 rfl (by decide) rfl (by trivial)) (px_v G 5 rfl (by decide) rfl (by trivial)) (by exact .inl ⟨by omega, by omega⟩)) (by have := wh_in s; rw [hwide_1, hhigh_1, hnumber_here_1]; exact ⟨by omega, by omega⟩)) (by rw [rng_len, sizeLine_eq, hwide_1, hhigh_1, hnumber_here_1]; have := wh_in s; omega) (by decide) (fun x hx => ⟨_, (gx_w G (by rfl) 9 (by rfl) (by show L2.Loc (relS _ (defScope s_l_plan)) _; decide +kernel) (by first | exact .inr (by show (relS _ (defScope s_l_plan)).names.lookup _ = _; decide +kernel) | exact .inl (by show (List.lookup _ _ == _) = true; decide +kernel)) (by trivial)), (px_tup2 (pax_cons (px_mod (px_w G (by rfl) 9 (by rfl) (by show Vis (relS _ (defScope s_l_plan)) _; decide +kernel) (by rfl) (by trivial)) (px_w G (by rfl) 4 (by rfl) (by show Vis (relS _ (defScope s_l_plan)) _; decide +kernel) (by rfl) (by trivial)) (by omega)) (pax_cons (px_fdiv (px_w G (by rfl) 9 (by rfl) (by show Vis (relS _ (defScope s_l_plan)) _; decide +kernel) (by rfl) (by trivial)) (px_w G (by rfl) 4 (by rfl) (by show Vis (relS _ (defScope s_l_plan)) _; decide +kernel) (by rfl) (by trivial)) (by exact ⟨by omega, by omega⟩)) pax_nil (by intro _; rfl)) (by intro _; rfl)))⟩) (by intro _ _; rfl) fun free_1 hfree_1 => ?_
  show SX _ _ [.sh s, .sh fi, .sh mo, .sh number_here_1, .sh wide_1, .sh high_1, .ow free_1, .un, .un, .un, .un, .un, .un] _
  refine sx_setO G 7 rfl (by decide) (px_call C_l_names (Nat.le_of_ble_eq_true rfl) g_law_names (pax_cons (px_call C_l_number (Nat.le_of_ble_eq_true rfl) g_law_number (pax_cons (px_v G 0 rfl (by decide) rfl (by trivial)) (pax_cons (px_int (i := 1)) pax_nil (by intro _; rfl)) (by intro _; rfl)) ⟨_, _, rfl, rfl, by decide⟩ (by decide) (by intro _; rfl) (by intro _; rfl)) (pax_cons (px_v G 2 rfl (by decide) rfl (by trivial)) pax_nil (by intro _; rfl)) (by intro _; rfl)) ⟨_, _, rfl, rfl, by exact ⟨lawNum_nn _ _, by omega, by omega⟩⟩ (by decide) (by intro _; rfl) (by intro _; rfl)) (by intro _; rfl) fun names_here_1 hnames_here_1 => ?_
  show SX _ _ [.sh s, .sh fi, .sh mo, .sh number_here_1, .sh wide_1, .sh high_1, .ow free_1, .ow names_here_1, .un, .un, .un, .un, .un] _
  refine sx_setO G 8 rfl (by decide) (px_lst (α := Pt) (xs := []) pax_nil rfl (by show 0 ≤ sizeLine; decide)) (by intro _; rfl) fun points_1 hpoints_1 => ?_
  show SX _ _ [.sh s, .sh fi, .sh mo, .sh number_here_1, .sh wide_1, .sh high_1, .ow free_1, .ow names_here_1, .ow points_1, .un, .un, .un, .un] _
  refine sx_forL (w := [9]) (fun i τ => ∃ F : List (Int × Int), ∃ G0 : List Pt, τ = [.sh s, .sh fi, .sh mo, .sh number_here_1, .sh wide_1, .sh high_1, .ow F, .ow names_here_1, .ow G0, .un, .un, .un, .un] ∧ F = (ptS s fi mo 2 i).1 ∧ G0 = (ptS s fi mo 2 i).2) (ix_range2 g_range Z.range_ (px_v G 1 rfl (by decide) rfl (by trivial)) (px_min g_min Z.min_ (by decide +kernel) (px_lenC g_len Z.len_ (px_v G 0 rfl (by decide) rfl (by trivial))) (px_add (px_v G 1 rfl (by decide) rfl (by trivial)) (px_v G 2 rfl (by decide) rfl (by trivial)))) (by split <;> omega)) ⟨_, _, rfl, by (rw [hfree_1, hwide_1, hhigh_1, hnumber_here_1]; exact ⟨rfl, hpoints_1⟩)⟩ ?_ (by intro _ _; rfl) ?_
  · rintro i x _ hx ⟨F, G0, rfl, ⟨hF, hG⟩⟩
    refine ⟨_, (gx_n G 9 rfl (by decide) (by trivial)), ?_⟩
    show SX _ _ [.sh s, .sh fi, .sh mo, .sh number_here_1, .sh wide_1, .sh high_1, .ow F, .ow names_here_1, .ow G0, .sh x, .un, .un, .un] _
    refine sx_if (pt_lend 6 rfl (Ly.pt_cmp (c_neD (α := (List (Int × Int))) (by decide)) (px_v G 6 rfl (by decide) rfl (by trivial)) (px_pub (px_lst (α := (Int × Int)) (xs := []) pax_nil rfl (by show 0 ≤ sizeLine; decide))) (nomark _))) (fun c0 => ?_) (fun c0 => ?_)
    · skip
      refine sx_set G 10 rfl (by decide) (px_call C_l_number (Nat.le_of_ble_eq_true rfl) g_law_number (pax_cons (px_v G 0 rfl (by decide) rfl (by trivial)) (pax_cons (px_v G 9 rfl (by decide) rfl (by trivial)) pax_nil (by intro _; rfl)) (by intro _; rfl)) ⟨_, _, rfl, rfl, by have := rng_get hx; have := mi_in s fi mo; omega⟩ (by decide) (by intro _; rfl) (by intro _; rfl)) (by intro _; rfl) fun spot_1 hspot_1 => ?_
      show SX _ _ [.sh s, .sh fi, .sh mo, .sh number_here_1, .sh wide_1, .sh high_1, .ow F, .ow names_here_1, .ow G0, .sh x, .sh spot_1, .un, .un] _
      refine sx_popU (d := default) (w := [11, 12]) G 6 rfl (by decide) rfl (px_lendR 6 rfl (px_mod (px_v G 10 rfl (by decide) rfl (by trivial)) (px_lenL g_len Z.len_ (px_v G 6 rfl (by decide) rfl (by trivial))) (by have := List.length_pos_iff.mpr (show F ≠ [] by simpa using c0); omega)) (by walk_at "imm")) (by exact pop_ok (by simpa using c0) (by rw [hF]; exact ptS_len s fi mo 2 i)) (fun z_1 => (gx_tup (gxs_cons (gx_n G 11 rfl (by decide) (by trivial)) (gxs_cons (gx_n G 12 rfl (by decide) (by trivial)) gxs_nil (by intro _; rfl)) (by intro _; rfl)) (by intro _; rfl) (by intro _; rfl))) (by intro _; rfl) rfl (by intro _; rfl) (by intro _; rfl) (by intro _; rfl) (by intro _; rfl) fun z_1 hz_1 => ?_
      show SX _ _ [.sh s, .sh fi, .sh mo, .sh number_here_1, .sh wide_1, .sh high_1, .ow (F.eraseIdx (spot_1 % ((F.length : Nat) : Int)).toNat), .ow names_here_1, .ow G0, .sh x, .sh spot_1, .sh z_1.1, .sh z_1.2] _
      refine sx_append G 8 rfl (by decide) rfl (px_lendR 7 rfl (px_tup5 (pax_cons (px_ixL (px_v G 7 rfl (by decide) rfl (by trivial)) (px_sub (px_v G 9 rfl (by decide) rfl (by trivial)) (px_v G 1 rfl (by decide) rfl (by trivial))) (by rw [hnames_here_1]; have := rng_get hx; have := mi_in s fi mo; exact atI_getD (d := default) (by omega) (by have := names_len (lawNum s 1) (mn := mo) (by omega); omega)) (fun _ _ => rfl)) (pax_cons (px_v G 11 rfl (by decide) rfl (by trivial)) (pax_cons (px_v G 12 rfl (by decide) rfl (by trivial)) (pax_cons (px_mod (px_fdiv (px_v G 10 rfl (by decide) rfl (by trivial)) (px_int (i := 400)) (by walk_at "sc_div")) (px_int (i := 90)) (by walk_at "sc_mod")) (pax_cons (px_call C_l_places (Nat.le_of_ble_eq_true rfl) g_law_places (pax_cons (px_fdiv (px_v G 10 rfl (by decide) rfl (by trivial)) (px_int (i := 7)) (by walk_at "sc_div")) (pax_cons (px_int (i := 2)) pax_nil (by intro _; rfl)) (by intro _; rfl)) ⟨_, _, rfl, rfl, by have := lawNum_nn s x; rw [hspot_1]; exact ⟨by omega, by omega, by omega⟩⟩ (by decide) (by intro _; rfl) (by intro _; rfl)) pax_nil (by intro _; rfl)) (by intro _; rfl)) (by intro _; rfl)) (by intro _; rfl)) (by intro _; rfl))) (by walk_at "imm")) (by rw [hG, sizeLine_eq]; have := ptS_cnt s fi mo 2 i; have := rng_get hx; have := mi_in s fi mo; omega) (by intro _; rfl) rfl (by intro _; rfl) (by intro _; rfl) ?_
      show SX _ _ [.sh s, .sh fi, .sh mo, .sh number_here_1, .sh wide_1, .sh high_1, .ow (F.eraseIdx (spot_1 % ((F.length : Nat) : Int)).toNat), .ow names_here_1, .ow (G0 ++ [(T5.mk ((namesN (lawNum s 1) mo).getD (x - fi).toNat default) z_1.1 z_1.2 (spot_1 / 400 % 90) (Tup.mk (plS (spot_1 / 7) (2 : Int).toNat)))]), .sh x, .sh spot_1, .sh z_1.1, .sh z_1.2] _
      refine sx_nil ?_
      show SX _ _ [.sh s, .sh fi, .sh mo, .sh number_here_1, .sh wide_1, .sh high_1, .ow (F.eraseIdx (spot_1 % ((F.length : Nat) : Int)).toNat), .ow names_here_1, .ow (G0 ++ [(T5.mk ((namesN (lawNum s 1) mo).getD (x - fi).toNat default) z_1.1 z_1.2 (spot_1 / 400 % 90) (Tup.mk (plS (spot_1 / 7) (2 : Int).toNat)))]), .sh x, .sh spot_1, .sh z_1.1, .sh z_1.2] _
      refine sx_wk (τ' := [.sh s, .sh fi, .sh mo, .sh number_here_1, .sh wide_1, .sh high_1, .ow (F.eraseIdx (spot_1 % ((F.length : Nat) : Int)).toNat), .ow names_here_1, .ow (G0 ++ [(T5.mk ((namesN (lawNum s 1) mo).getD (x - fi).toNat default) z_1.1 z_1.2 (spot_1 / 400 % 90) (Tup.mk (plS (spot_1 / 7) (2 : Int).toNat)))]), .un, .un, .un, .un]) ⟨.inr rfl, .inr rfl, .inr rfl, .inr rfl, .inr rfl, .inr rfl, .inr rfl, .inr rfl, .inr rfl, .inl rfl, .inl rfl, .inl rfl, .inl rfl, trivial⟩ (sx_nil ?_)
      exact ⟨(F.eraseIdx (spot_1 % ((F.length : Nat) : Int)).toNat), (G0 ++ [(T5.mk ((namesN (lawNum s 1) mo).getD (x - fi).toNat default) z_1.1 z_1.2 (spot_1 / 400 % 90) (Tup.mk (plS (spot_1 / 7) (2 : Int).toNat)))]), rfl, by first | exact pt_next (rng_get hx).2 hF hG c0 hspot_1 (by assumption) | exact pt_stay hF hG c0⟩
    · skip
      refine sx_nil ?_
      show SX _ _ [.sh s, .sh fi, .sh mo, .sh number_here_1, .sh wide_1, .sh high_1, .ow F, .ow names_here_1, .ow G0, .sh x, .un, .un, .un] _
      refine sx_wk (τ' := [.sh s, .sh fi, .sh mo, .sh number_here_1, .sh wide_1, .sh high_1, .ow F, .ow names_here_1, .ow G0, .un, .un, .un, .un]) ⟨.inr rfl, .inr rfl, .inr rfl, .inr rfl, .inr rfl, .inr rfl, .inr rfl, .inr rfl, .inr rfl, .inl rfl, .inl rfl, .inl rfl, .inl rfl, trivial⟩ (sx_nil ?_)
      exact ⟨F, G0, rfl, by first | exact pt_next (rng_get hx).2 hF hG c0 hspot_1 (by assumption) | exact pt_stay hF hG c0⟩
  · rintro _ ⟨F, G0, rfl, ⟨hF, hG⟩⟩
    show SX _ _ [.sh s, .sh fi, .sh mo, .sh number_here_1, .sh wide_1, .sh high_1, .ow F, .ow names_here_1, .ow G0, .un, .un, .un, .un] _
    refine sx_ret (px_lendR 8 rfl (px_tup4 (pax_cons (px_v G 4 rfl (by decide) rfl (by trivial)) (pax_cons (px_v G 5 rfl (by decide) rfl (by trivial)) (pax_cons (px_call C_l_kept (Nat.le_of_ble_eq_true rfl) g_law_kept (pax_cons (px_fdiv (px_v G 3 rfl (by decide) rfl (by trivial)) (px_int (i := 323)) (by walk_at "sc_div")) (pax_cons (px_v G 4 rfl (by decide) rfl (by trivial)) (pax_cons (px_v G 5 rfl (by decide) rfl (by trivial)) pax_nil (by intro _; rfl)) (by intro _; rfl)) (by intro _; rfl)) ⟨_, _, _, rfl, rfl, by have := lawNum_nn s 0; rw [← hnumber_here_1] at this; exact ⟨by omega, by omega, by omega, by omega, by omega⟩⟩ (by decide) (by intro _; rfl) (by intro _; rfl)) (pax_cons (px_tuple g_tuple Z.tuple_ (by decide +kernel) (px_v G 8 rfl (by decide) rfl (by trivial))) pax_nil (by intro _; rfl)) (by intro _; rfl)) (by intro _; rfl)) (by intro _; rfl))) (by walk_at "imm")) ?_
    show Sl.sh _ = _
    rw [hG]; subst_vars; rfl
/-! #### other -/
abbrev s_l_other : Stmt := top 46
theorem sc_l_other : FnScope ["_law_points", "_law_number_here", "_law_k", "_law_at", "_law_many"] ["_law_points", "_law_number_here"] (defScope s_l_other) := ⟨rfl, rfl, rfl, by decide +kernel, rfl, by decide +kernel, by decide +kernel⟩
theorem gd_l_other : gdB ["_law_points", "_law_number_here", "_law_k", "_law_at", "_law_many"] 5 (defScope s_l_other) = true := by decide +kernel
def ok_l_other : List Sl → Sl → Prop := fun as_ u_ => ∃ ps : (Tup Pt), ∃ n : Int, as_ = [.sh ps, .sh n] ∧ u_ = .sh (Tup.mk (othS ps.l n (1 + n % 2).toNat).1) ∧ (0 ≤ n ∧ 1 ≤ ps.l.length ∧ ps.l.length ≤ 63)
theorem fn_l_other {f : Addr} {fd : FuncData} (Z : Blt mg) (F : Fun K "_law_other" "_law_other" s_l_other f fd) (C_l_places : Cal P w K mg base 1 "_law_places" ok_l_places) : FnOk P w K mg base CX0 2 f fd ["_law_points", "_law_number_here"] (spT K ok_l_other) := by
  have g_law_places : (defScope s_l_other).names.lookup ("_law_places" : Str) = some .globalImplicit := by decide +kernel
  have g_len : (defScope s_l_other).names.lookup ("len" : Str) = some .globalImplicit := by decide +kernel
  have g_list : (defScope s_l_other).names.lookup ("list" : Str) = some .globalImplicit := by decide +kernel
  have g_range : (defScope s_l_other).names.lookup ("range" : Str) = some .globalImplicit := by decide +kernel
  have g_tuple : (defScope s_l_other).names.lookup ("tuple" : Str) = some .globalImplicit := by decide +kernel
  refine fn_T F sc_l_other (fun as s h => ?_) (fun as s h => ?_)
  · obtain ⟨ps, n, rfl, _⟩ := h; rfl
  obtain ⟨ps, n, rfl, rfl, hpre⟩ := h
  have G : Gd ⟨P, w, K, mg, base, ["_law_points", "_law_number_here", "_law_k", "_law_at", "_law_many"], defScope s_l_other, fun _ => true, 1, (fun _ _ _ _ => False), true⟩ 5 := gd_of sc_l_other.nd gd_l_other
  show SX _ _ [.sh ps, .sh n, .un, .un, .un] _
  refine sx_setO G 0 rfl (by decide) (px_list g_list Z.list_ (by decide +kernel) (px_v G 0 rfl (by decide) rfl (by trivial))) (by intro _; rfl) fun points_1 hpoints_1 => ?_
  show SX _ _ [.ow points_1, .sh n, .un, .un, .un] _
  refine sx_forL (w := [2]) (fun i τ => ∃ F : List Pt, ∃ N : Int, τ = [.ow F, .sh N, .un, .un, .un] ∧ F = (othS ps.l n i).1 ∧ N = (othS ps.l n i).2) (ix_range1 g_range Z.range_ (px_add (px_int (i := 1)) (px_mod (px_v G 1 rfl (by decide) rfl (by trivial)) (px_int (i := 2)) (by walk_at "sc_mod"))) (by omega)) ⟨_, _, rfl, by (subst_vars; exact ⟨rfl, rfl⟩)⟩ ?_ (by intro _ _; rfl) ?_
  · rintro i x _ hx ⟨F, N, rfl, ⟨hF, hN⟩⟩
    refine ⟨_, (gx_n G 2 rfl (by decide) (by trivial)), ?_⟩
    show SX _ _ [.ow F, .sh N, .sh x, .un, .un] _
    refine sx_set G 3 rfl (by decide) (px_lendR 0 rfl (px_mod (px_fdiv (px_v G 1 rfl (by decide) rfl (by trivial)) (px_int (i := 2)) (by walk_at "sc_div")) (px_lenL g_len Z.len_ (px_v G 0 rfl (by decide) rfl (by trivial))) (by have := hpre.2.1; rw [hF, oth_len]; omega)) (by walk_at "imm")) (by intro _; rfl) fun at_1 hat_1 => ?_
    show SX _ _ [.ow F, .sh N, .sh x, .sh at_1, .un] _
    refine sx_set G 4 rfl (by decide) (px_ixL (px_pub (px_lst (α := Int) (xs := [_, _, _, _, _]) (pax_cons (px_int (i := 1)) (pax_cons (px_int (i := 3)) (pax_cons (px_int (i := 4)) (pax_cons (px_int (i := 5)) (pax_cons (px_int (i := 6)) pax_nil (by intro _; rfl)) (by intro _; rfl)) (by intro _; rfl)) (by intro _; rfl)) (by intro _; rfl)) rfl (by show 5 ≤ sizeLine; decide))) (px_mod (px_fdiv (px_v G 1 rfl (by decide) rfl (by trivial)) (px_int (i := 60)) (by walk_at "sc_div")) (px_int (i := 5)) (by walk_at "sc_mod")) (by exact atI_getD (d := 0) (by omega) (by show _ < ((5 : Nat) : Int); omega)) (fun _ _ => rfl)) (by intro _; rfl) fun many_1 hmany_1 => ?_
    show SX _ _ [.ow F, .sh N, .sh x, .sh at_1, .sh many_1] _
    refine sx_lset (j := at_1.toNat) G 0 rfl (by decide) rfl (px_lendR 0 rfl (px_catT4_1 (px_slT5_0_4 (px_ixL (px_v G 0 rfl (by decide) rfl (by trivial)) (px_v G 3 rfl (by decide) rfl (by trivial)) (by exact (oth_at hpre hF hat_1).2) (fun _ _ => rfl)) (show POx _ none _ none from trivial) (show POx _ (some _) _ (some _) from (px_int (i := 4)))) (px_tup1 (pax_cons (px_call C_l_places (Nat.le_of_ble_eq_true rfl) g_law_places (pax_cons (px_fdiv (px_v G 1 rfl (by decide) rfl (by trivial)) (px_int (i := 300)) (by walk_at "sc_div")) (pax_cons (px_v G 4 rfl (by decide) rfl (by trivial)) pax_nil (by intro _; rfl)) (by intro _; rfl)) ⟨_, _, rfl, rfl, by have := oth_nn (ps := ps) hpre.1 i; rw [← hN] at this; have := oth_many hmany_1; exact ⟨by omega, by omega, by omega⟩⟩ (by decide) (by intro _; rfl) (by intro _; rfl)) pax_nil (by intro _; rfl)))) (by walk_at "imm")) (px_v G 3 rfl (by decide) rfl (by trivial)) (by exact (oth_at hpre hF hat_1).1) (by intro _; rfl) (by intro _; rfl) (by intro _; rfl) (by intro _ _; rfl) ?_
    show SX _ _ [.ow (F.set (at_1.toNat) (T5.mk (F.getD at_1.toNat default).a (F.getD at_1.toNat default).b (F.getD at_1.toNat default).c (F.getD at_1.toNat default).d (Tup.mk (plS (N / 300) many_1.toNat)))), .sh N, .sh x, .sh at_1, .sh many_1] _
    refine sx_set G 1 rfl (by decide) (px_mod (px_mul (px_v G 1 rfl (by decide) rfl (by trivial)) (px_int (i := 16807)) (by walk_at "sc_mul")) (px_int (i := 2147483629)) (by walk_at "sc_mod")) (by intro _; rfl) fun number_here_1 hnumber_here_1 => ?_
    show SX _ _ [.ow (F.set (at_1.toNat) (T5.mk (F.getD at_1.toNat default).a (F.getD at_1.toNat default).b (F.getD at_1.toNat default).c (F.getD at_1.toNat default).d (Tup.mk (plS (N / 300) many_1.toNat)))), .sh number_here_1, .sh x, .sh at_1, .sh many_1] _
    refine sx_wk (τ' := [.ow (F.set (at_1.toNat) (T5.mk (F.getD at_1.toNat default).a (F.getD at_1.toNat default).b (F.getD at_1.toNat default).c (F.getD at_1.toNat default).d (Tup.mk (plS (N / 300) many_1.toNat)))), .sh number_here_1, .un, .un, .un]) ⟨.inr rfl, .inr rfl, .inl rfl, .inl rfl, .inl rfl, trivial⟩ (sx_nil ?_)
    exact ⟨(F.set (at_1.toNat) (T5.mk (F.getD at_1.toNat default).a (F.getD at_1.toNat default).b (F.getD at_1.toNat default).c (F.getD at_1.toNat default).d (Tup.mk (plS (N / 300) many_1.toNat)))), number_here_1, rfl, by exact oth_next hF hN hat_1 hmany_1 (by assumption)⟩
  · rintro _ ⟨F, N, rfl, ⟨hF, hN⟩⟩
    show SX _ _ [.ow F, .sh N, .un, .un, .un] _
    refine sx_ret (px_lendR 0 rfl (px_tuple g_tuple Z.tuple_ (by decide +kernel) (px_v G 0 rfl (by decide) rfl (by trivial))) (by walk_at "imm")) ?_
    show Sl.sh _ = _
    rw [hF, rng_len]
/-! #### refused -/
abbrev s_l_refused : Stmt := top 47
theorem sc_l_refused : FnScope ["_law_plan_here", "_law_name", "_law_ask_all", "_law_kinds", "_law_got", "e"] ["_law_plan_here", "_law_name", "_law_ask_all"] (defScope s_l_refused) := ⟨rfl, rfl, rfl, by decide +kernel, rfl, by decide +kernel, by decide +kernel⟩
theorem gd_l_refused : gdB ["_law_plan_here", "_law_name", "_law_ask_all", "_law_kinds", "_law_got", "e"] 6 (defScope s_l_refused) = true := by decide +kernel
def ok_l_refused : List Sl → Sl → Prop := fun as_ u_ => ∃ pl : Plan, ∃ nm : Str, ∃ b : Bool, ∃ q : Pt, as_ = [.sh pl, .sh nm, .sh b] ∧ u_ = .sh (true) ∧ (PlanOk pl ∧ notTwo pl = some q ∧ q.a = nm)
theorem fn_l_refused {f : Addr} {fd : FuncData} (Z : Blt mg) (F : Fun K "_law_refused" "_law_refused" s_l_refused f fd) {A_LabelError A_NoCell A_NoDeed A_NoDrawing A_NoName A_NoPlan A_NotTwo A_TooMany A_Twice : Addr} (XC_LabelError : XC K mg "LabelError" A_LabelError) (XC_NoCell : XC K mg "NoCell" A_NoCell) (XC_NoDeed : XC K mg "NoDeed" A_NoDeed) (XC_NoDrawing : XC K mg "NoDrawing" A_NoDrawing) (XC_NoName : XC K mg "NoName" A_NoName) (XC_NoPlan : XC K mg "NoPlan" A_NoPlan) (XC_NotTwo : XC K mg "NotTwo" A_NotTwo) (XC_TooMany : XC K mg "TooMany" A_TooMany) (XC_Twice : XC K mg "Twice" A_Twice) (XI_NotTwo : XI K A_NotTwo) (nf_NotTwo_name : PySem.W.findIn K (.ref A_NotTwo) "name" = some none) (em_NotTwo_LabelError : PySem.W.exmOne K (.ref A_NotTwo) (.ref A_LabelError) = some true) (em_NotTwo_NotTwo : PySem.W.exmOne K (.ref A_NotTwo) (.ref A_NotTwo) = some true) (xk_NotTwo_NoCell : PySem.W.kitOne K (.ref A_NotTwo) (.ref A_NoCell) = some false) (xk_NotTwo_NoDeed : PySem.W.kitOne K (.ref A_NotTwo) (.ref A_NoDeed) = some false) (xk_NotTwo_NoDrawing : PySem.W.kitOne K (.ref A_NotTwo) (.ref A_NoDrawing) = some false) (xk_NotTwo_NoName : PySem.W.kitOne K (.ref A_NotTwo) (.ref A_NoName) = some false) (xk_NotTwo_NoPlan : PySem.W.kitOne K (.ref A_NotTwo) (.ref A_NoPlan) = some false) (xk_NotTwo_NotTwo : PySem.W.kitOne K (.ref A_NotTwo) (.ref A_NotTwo) = some true) (xk_NotTwo_TooMany : PySem.W.kitOne K (.ref A_NotTwo) (.ref A_TooMany) = some false) (xk_NotTwo_Twice : PySem.W.kitOne K (.ref A_NotTwo) (.ref A_Twice) = some false) (xk_NotTwo_ValueError : PySem.W.kitOne K (.ref A_NotTwo) (.type "ValueError") = some true) (C_follow : CalG P w K mg base 9 "follow" ok_follow) (C_all_set : CalG P w K mg base 10 "all_set" ok_all_set) : FnOk P w K mg base CX0 11 f fd ["_law_plan_here", "_law_name", "_law_ask_all"] (spT K ok_l_refused) := by
  have g_LabelError : (defScope s_l_refused).names.lookup ("LabelError" : Str) = some .globalImplicit := by decide +kernel
  have g_NoCell : (defScope s_l_refused).names.lookup ("NoCell" : Str) = some .globalImplicit := by decide +kernel
  have g_NoDeed : (defScope s_l_refused).names.lookup ("NoDeed" : Str) = some .globalImplicit := by decide +kernel
  have g_NoDrawing : (defScope s_l_refused).names.lookup ("NoDrawing" : Str) = some .globalImplicit := by decide +kernel
  have g_NoName : (defScope s_l_refused).names.lookup ("NoName" : Str) = some .globalImplicit := by decide +kernel
  have g_NoPlan : (defScope s_l_refused).names.lookup ("NoPlan" : Str) = some .globalImplicit := by decide +kernel
  have g_NotTwo : (defScope s_l_refused).names.lookup ("NotTwo" : Str) = some .globalImplicit := by decide +kernel
  have g_TooMany : (defScope s_l_refused).names.lookup ("TooMany" : Str) = some .globalImplicit := by decide +kernel
  have g_Twice : (defScope s_l_refused).names.lookup ("Twice" : Str) = some .globalImplicit := by decide +kernel
  have g_ValueError : (defScope s_l_refused).names.lookup ("ValueError" : Str) = some .globalImplicit := by decide +kernel
  have g_all_set : (defScope s_l_refused).names.lookup ("all_set" : Str) = some .globalImplicit := by decide +kernel
  have g_follow : (defScope s_l_refused).names.lookup ("follow" : Str) = some .globalImplicit := by decide +kernel
  have g_isinstance : (defScope s_l_refused).names.lookup ("isinstance" : Str) = some .globalImplicit := by decide +kernel
  have g_str : (defScope s_l_refused).names.lookup ("str" : Str) = some .globalImplicit := by decide +kernel
  refine fn_T F sc_l_refused (fun as s h => ?_) (fun as s h => ?_)
  · obtain ⟨pl, nm, b, q, rfl, _⟩ := h; rfl
  obtain ⟨pl, nm, b, q, rfl, rfl, hpre⟩ := h
  have GG : ∀ {W : WX} {fr : Bool}, Gd ⟨P, w, K, mg, base, ["_law_plan_here", "_law_name", "_law_ask_all", "_law_kinds", "_law_got", "e"], defScope s_l_refused, fun _ => true, 10, W, fr⟩ 6 := gd_of sc_l_refused.nd gd_l_refused
  have G := @GG (fun _ _ _ _ => False) true
  show SX _ _ [.sh pl, .sh nm, .sh b, .un, .un, .un] _
  refine sx_set G 3 rfl (by decide) (px_tup3 (pax_cons (px_bl (c := false)) (pax_cons (px_bl (c := false)) (pax_cons (px_bl (c := true)) pax_nil (by intro _; rfl)) (by intro _; rfl)) (by intro _; rfl))) (by intro _; rfl) fun kinds_1 hkinds_1 => ?_
  show SX _ _ [.sh pl, .sh nm, .sh b, .sh kinds_1, .un, .un] _
  refine sx_set G 4 rfl (by decide) (px_none (α := Str) px_non) (by intro _; rfl) fun got_1 hgot_1 => ?_
  show SX _ _ [.sh pl, .sh nm, .sh b, .sh kinds_1, .sh got_1, .un] _
  refine sx_tryK G 5 3 rfl rfl (by decide) (by show (defScope s_l_refused).names.lookup _ = _; decide +kernel) rfl (by decide) g_LabelError XC_LabelError.mg (by decide) (by intro _; rfl) (fun WT => ?_)
  show SX ⟨P, w, K, mg, base, _, _, _, _, _, _⟩ _ [.sh pl, .sh nm, .sh b, .sh kinds_1, .sh got_1, .un] _
  have G := @GG WT true
  refine sx_if (Ly.pt_val (px_v G 2 rfl (by decide) rfl (by trivial)) (by intro _ _; rfl)) (fun c0 => ?_) (fun c0 => ?_)
  · skip
    refine sx_exprR (pr_callG (y := ⟨"NotTwo", "name", XA.of q.a⟩) C_all_set (Nat.le_of_ble_eq_true rfl) g_all_set (pax_cons (px_v G 0 rfl (by decide) rfl (by trivial)) pax_nil (by intro _; rfl)) ⟨_, rfl, rfl, by exact (nt_exc hpre.2.1).symm, by exact hpre.1⟩ rfl (by decide) (by intro _; rfl) (by intro _; rfl)) ?_ (by intro _; rfl)
    have G := @GG (fun _ _ _ _ => False) true
    refine ⟨fun C hC => (by cases XC_NotTwo.mg.symm.trans hC; exact em_NotTwo_LabelError), .sh (T3.mk true true false), (pxs_tup3 (pxs_isX (k := true) g_isinstance Z.isinstance_ (pxs_v G 5 rfl (by decide) rfl (by trivial)) rfl XC_NotTwo XI_NotTwo xk_NotTwo_NotTwo g_NotTwo XC_NotTwo.mg (by decide)) (pxs_isXB (k := true) g_isinstance Z.isinstance_ (pxs_v G 5 rfl (by decide) rfl (by trivial)) rfl XC_NotTwo XI_NotTwo xk_NotTwo_ValueError g_ValueError Z.ValueError_ (by decide +kernel) (by decide) (by decide)) (pxs_isXT (k := false) g_isinstance Z.isinstance_ (pxs_v G 5 rfl (by decide) rfl (by trivial)) rfl XC_NotTwo XI_NotTwo (kx_cons xk_NotTwo_NoCell (kx_cons xk_NotTwo_NoDeed (kx_cons xk_NotTwo_NoDrawing (kx_cons xk_NotTwo_NoName (kx_cons xk_NotTwo_NoPlan (kx_cons xk_NotTwo_TooMany (kx_cons xk_NotTwo_Twice kx_nil))))))) (.cons g_NoCell XC_NoCell.mg (by decide) (by intro _; rfl) (.cons g_NoDeed XC_NoDeed.mg (by decide) (by intro _; rfl) (.cons g_NoDrawing XC_NoDrawing.mg (by decide) (by intro _; rfl) (.cons g_NoName XC_NoName.mg (by decide) (by intro _; rfl) (.cons g_NoPlan XC_NoPlan.mg (by decide) (by intro _; rfl) (.cons g_TooMany XC_TooMany.mg (by decide) (by intro _; rfl) (.cons g_Twice XC_Twice.mg (by decide) (by intro _; rfl) .nil))))))) (by show 7 ≤ sizeLine; decide))), ?_⟩
    show SX _ _ [.sh pl, .sh nm, .sh b, .sh (T3.mk true true false), .sh got_1, .un] _
    refine sx_tryK G 5 4 rfl rfl (by decide) (by show (defScope s_l_refused).names.lookup _ = _; decide +kernel) rfl (by decide) g_NotTwo XC_NotTwo.mg (by decide) (by intro _; rfl) (fun WT => ?_)
    show SX ⟨P, w, K, mg, base, _, _, _, _, _, _⟩ _ [.sh pl, .sh nm, .sh b, .sh (T3.mk true true false), .sh got_1, .un] _
    have G := @GG WT true
    refine sx_exprR (pr_callG (y := ⟨"NotTwo", "name", XA.of q.a⟩) C_all_set (Nat.le_of_ble_eq_true rfl) g_all_set (pax_cons (px_v G 0 rfl (by decide) rfl (by trivial)) pax_nil (by intro _; rfl)) ⟨_, rfl, rfl, by exact (nt_exc hpre.2.1).symm, by exact hpre.1⟩ rfl (by decide) (by intro _; rfl) (by intro _; rfl)) ?_ (by intro _; rfl)
    have G := @GG (fun _ _ _ _ => False) true
    refine ⟨fun C hC => (by cases XC_NotTwo.mg.symm.trans hC; exact em_NotTwo_NotTwo), .sh (some q.a), (pxs_some (pxs_attr (y := (q.a : Str)) (pxs_v G 5 rfl (by decide) rfl (by trivial)) rfl rfl rfl XC_NotTwo XI_NotTwo nf_NotTwo_name (by intro _; rfl))), ?_⟩
    show SX _ _ [.sh pl, .sh nm, .sh b, .sh (T3.mk true true false), .sh (some q.a), .un] _
    refine sx_ret (Ly.px_and (Ly.px_cmp (c_eqD (α := (T3 Bool Bool Bool)) (by decide)) (px_v G 3 rfl (by decide) rfl (by trivial)) (px_tup3 (pax_cons (px_bl (c := true)) (pax_cons (px_bl (c := true)) (pax_cons (px_bl (c := false)) pax_nil (by intro _; rfl)) (by intro _; rfl)) (by intro _; rfl))) (nomark _)) fun hs1 => (Ly.px_and (px_isi (T := "str") g_isinstance Z.isinstance_ (by decide +kernel) g_str Z.str_ (by decide +kernel) (px_v G 4 rfl (by decide) rfl (by trivial)) (by walk_at "sc_isi") (by decide) (by decide)) fun hs2 => (px_one (Ly.px_cmp (c_eqD (α := (Option Str)) (by decide)) (px_v G 4 rfl (by decide) rfl (by trivial)) (px_some (px_v G 1 rfl (by decide) rfl (by trivial))) (nomark _))))) ?_
    show Sl.sh _ = _
    exact congrArg Sl.sh (by rw [hpre.2.2]; simp)
  · skip
    refine sx_exprR (pr_callG (y := ⟨"NotTwo", "name", XA.of q.a⟩) C_follow (Nat.le_of_ble_eq_true rfl) g_follow (pax_cons (px_v G 0 rfl (by decide) rfl (by trivial)) (pax_cons (px_fld 0 (px_ixTup (px_fld 3 (px_v G 0 rfl (by decide) rfl (by trivial)) (px_int (i := 3)) rfl rfl (fun _ _ => rfl)) (px_neg (px_int (i := 1))) (by exact at_last (nt_pos hpre.2.1)) (fun _ _ => rfl)) (px_int (i := 0)) rfl rfl (fun _ _ => rfl)) (pax_cons (px_int (i := 0)) pax_nil (by intro _; rfl)) (by intro _; rfl)) (by intro _; rfl)) ⟨_, _, _, rfl, rfl, by exact (nt_exc hpre.2.1).symm, by exact hpre.1⟩ rfl (by decide) (by intro _; rfl) (by intro _; rfl)) ?_ (by intro _; rfl)
    have G := @GG (fun _ _ _ _ => False) true
    refine ⟨fun C hC => (by cases XC_NotTwo.mg.symm.trans hC; exact em_NotTwo_LabelError), .sh (T3.mk true true false), (pxs_tup3 (pxs_isX (k := true) g_isinstance Z.isinstance_ (pxs_v G 5 rfl (by decide) rfl (by trivial)) rfl XC_NotTwo XI_NotTwo xk_NotTwo_NotTwo g_NotTwo XC_NotTwo.mg (by decide)) (pxs_isXB (k := true) g_isinstance Z.isinstance_ (pxs_v G 5 rfl (by decide) rfl (by trivial)) rfl XC_NotTwo XI_NotTwo xk_NotTwo_ValueError g_ValueError Z.ValueError_ (by decide +kernel) (by decide) (by decide)) (pxs_isXT (k := false) g_isinstance Z.isinstance_ (pxs_v G 5 rfl (by decide) rfl (by trivial)) rfl XC_NotTwo XI_NotTwo (kx_cons xk_NotTwo_NoCell (kx_cons xk_NotTwo_NoDeed (kx_cons xk_NotTwo_NoDrawing (kx_cons xk_NotTwo_NoName (kx_cons xk_NotTwo_NoPlan (kx_cons xk_NotTwo_TooMany (kx_cons xk_NotTwo_Twice kx_nil))))))) (.cons g_NoCell XC_NoCell.mg (by decide) (by intro _; rfl) (.cons g_NoDeed XC_NoDeed.mg (by decide) (by intro _; rfl) (.cons g_NoDrawing XC_NoDrawing.mg (by decide) (by intro _; rfl) (.cons g_NoName XC_NoName.mg (by decide) (by intro _; rfl) (.cons g_NoPlan XC_NoPlan.mg (by decide) (by intro _; rfl) (.cons g_TooMany XC_TooMany.mg (by decide) (by intro _; rfl) (.cons g_Twice XC_Twice.mg (by decide) (by intro _; rfl) .nil))))))) (by show 7 ≤ sizeLine; decide))), ?_⟩
    show SX _ _ [.sh pl, .sh nm, .sh b, .sh (T3.mk true true false), .sh got_1, .un] _
    refine sx_tryK G 5 4 rfl rfl (by decide) (by show (defScope s_l_refused).names.lookup _ = _; decide +kernel) rfl (by decide) g_NotTwo XC_NotTwo.mg (by decide) (by intro _; rfl) (fun WT => ?_)
    show SX ⟨P, w, K, mg, base, _, _, _, _, _, _⟩ _ [.sh pl, .sh nm, .sh b, .sh (T3.mk true true false), .sh got_1, .un] _
    have G := @GG WT true
    refine sx_exprR (pr_callG (y := ⟨"NotTwo", "name", XA.of q.a⟩) C_all_set (Nat.le_of_ble_eq_true rfl) g_all_set (pax_cons (px_v G 0 rfl (by decide) rfl (by trivial)) pax_nil (by intro _; rfl)) ⟨_, rfl, rfl, by exact (nt_exc hpre.2.1).symm, by exact hpre.1⟩ rfl (by decide) (by intro _; rfl) (by intro _; rfl)) ?_ (by intro _; rfl)
    have G := @GG (fun _ _ _ _ => False) true
    refine ⟨fun C hC => (by cases XC_NotTwo.mg.symm.trans hC; exact em_NotTwo_NotTwo), .sh (some q.a), (pxs_some (pxs_attr (y := (q.a : Str)) (pxs_v G 5 rfl (by decide) rfl (by trivial)) rfl rfl rfl XC_NotTwo XI_NotTwo nf_NotTwo_name (by intro _; rfl))), ?_⟩
    show SX _ _ [.sh pl, .sh nm, .sh b, .sh (T3.mk true true false), .sh (some q.a), .un] _
    refine sx_ret (Ly.px_and (Ly.px_cmp (c_eqD (α := (T3 Bool Bool Bool)) (by decide)) (px_v G 3 rfl (by decide) rfl (by trivial)) (px_tup3 (pax_cons (px_bl (c := true)) (pax_cons (px_bl (c := true)) (pax_cons (px_bl (c := false)) pax_nil (by intro _; rfl)) (by intro _; rfl)) (by intro _; rfl))) (nomark _)) fun hs3 => (Ly.px_and (px_isi (T := "str") g_isinstance Z.isinstance_ (by decide +kernel) g_str Z.str_ (by decide +kernel) (px_v G 4 rfl (by decide) rfl (by trivial)) (by walk_at "sc_isi") (by decide) (by decide)) fun hs4 => (px_one (Ly.px_cmp (c_eqD (α := (Option Str)) (by decide)) (px_v G 4 rfl (by decide) rfl (by trivial)) (px_some (px_v G 1 rfl (by decide) rfl (by trivial))) (nomark _))))) ?_
    show Sl.sh _ = _
    exact congrArg Sl.sh (by rw [hpre.2.2]; simp)
/-! #### law -/
abbrev s_law : Stmt := top 48
theorem sc_law : FnScope ["_law_script", "_law_plan_here", "_law_other_here", "_law_bad", "_law_left", "_law_got", "_law_point"] ["_law_script"] (defScope s_law) := ⟨rfl, rfl, rfl, by decide +kernel, rfl, by decide +kernel, by decide +kernel⟩
theorem gd_law : gdB ["_law_script", "_law_plan_here", "_law_other_here", "_law_bad", "_law_left", "_law_got", "_law_point"] 6 (defScope s_law) = true := by decide +kernel
def ok_law : List Sl → Sl → Prop := fun as_ u_ => ∃ s : Scr, as_ = [.sh s] ∧ u_ = .sh (true) ∧ (s.l.length ≤ 63)
theorem fn_law {f : Addr} {fd : FuncData} (Z : Blt mg) (F : Fun K "law" "law" s_law f fd) (C_all_set : CalG P w K mg base 10 "all_set" ok_all_set) (C_l_number : Cal P w K mg base 1 "_law_number" ok_l_number) (C_l_plan : Cal P w K mg base 2 "_law_plan" ok_l_plan) (C_l_other : Cal P w K mg base 2 "_law_other" ok_l_other) (C_l_refused : Cal P w K mg base 11 "_law_refused" ok_l_refused) : FnOk P w K mg base CX0 12 f fd ["_law_script"] (spT K ok_law) := by
  have g_law_number : (defScope s_law).names.lookup ("_law_number" : Str) = some .globalImplicit := by decide +kernel
  have g_law_other : (defScope s_law).names.lookup ("_law_other" : Str) = some .globalImplicit := by decide +kernel
  have g_law_plan : (defScope s_law).names.lookup ("_law_plan" : Str) = some .globalImplicit := by decide +kernel
  have g_law_refused : (defScope s_law).names.lookup ("_law_refused" : Str) = some .globalImplicit := by decide +kernel
  have g_all_set : (defScope s_law).names.lookup ("all_set" : Str) = some .globalImplicit := by decide +kernel
  have g_isinstance : (defScope s_law).names.lookup ("isinstance" : Str) = some .globalImplicit := by decide +kernel
  have g_len : (defScope s_law).names.lookup ("len" : Str) = some .globalImplicit := by decide +kernel
  have g_tuple : (defScope s_law).names.lookup ("tuple" : Str) = some .globalImplicit := by decide +kernel
  refine fn_T F sc_law (fun as s h => ?_) (fun as s h => ?_)
  · obtain ⟨s, rfl, _⟩ := h; rfl
  obtain ⟨s, rfl, rfl, hpre⟩ := h
  have G : Gd ⟨P, w, K, mg, base, ["_law_script", "_law_plan_here", "_law_other_here", "_law_bad", "_law_left", "_law_got", "_law_point"], defScope s_law, fun _ => true, 11, (fun _ _ _ _ => False), true⟩ 6 := gd_of sc_law.nd gd_law
  show SX _ _ [.sh s, .un, .un, .un, .un, .un, .un] _
  refine sx_set G 1 rfl (by decide) (px_call C_l_plan (Nat.le_of_ble_eq_true rfl) g_law_plan (pax_cons (px_v G 0 rfl (by decide) rfl (by trivial)) (pax_cons (px_int (i := 3)) (pax_cons (px_int (i := 26)) pax_nil (by intro _; rfl)) (by intro _; rfl)) (by intro _; rfl)) ⟨_, _, _, rfl, rfl, by exact ⟨hpre, by decide, by decide, by decide, by decide, by decide, by decide⟩⟩ (by decide) (by intro _; rfl) (by intro _; rfl)) (by intro _; rfl) fun plan_here_1 hplan_here_1 => ?_
  show SX _ _ [.sh s, .sh plan_here_1, .un, .un, .un, .un, .un] _
  obtain ⟨hok, htw0⟩ := num_ok s (fi := 3) (mo := 26) (pn := 2) (by decide) (by decide) (by decide)
  rw [← hplan_here_1] at hok htw0
  have htw : ∀ q ∈ plan_here_1.d.l, q.e.l.length = 2 := fun q hq => by have := htw0 q hq; omega
  refine sx_if (Ly.pt_cmp c_eqI (px_lenU g_len Z.len_ (px_fld 3 (px_v G 1 rfl (by decide) rfl (by trivial)) (px_int (i := 3)) rfl rfl (fun _ _ => rfl))) (px_int (i := 0)) (nomark _)) (fun c0 => ?_) (fun c0 => ?_)
  · skip
    refine sx_ret (Ly.px_cmp (c_eqD (α := ((Option (List Int)) × (Option (List (Str × Int))))) (by decide)) (px_pubT (px_callG (s := .ow (allN plan_here_1)) C_all_set (Nat.le_of_ble_eq_true rfl) g_all_set (pax_cons (px_v G 1 rfl (by decide) rfl (by trivial)) pax_nil (by intro _; rfl)) ⟨_, rfl, rfl, by exact (nt_val (nt_none htw)).symm, by exact hok⟩ rfl (fun z => by cases z) (by decide) (by intro _; rfl) (by intro _; rfl))) (px_tup2 (pax_cons (px_some (px_pub (px_lst (α := Int) (xs := []) pax_nil rfl (by show 0 ≤ sizeLine; decide)))) (pax_cons (px_none (α := (List (Str × Int))) px_non) pax_nil (by intro _; rfl)) (by intro _; rfl))) (nomark _)) ?_
    show Sl.sh _ = _
    exact congrArg Sl.sh (decide_eq_true (all_nil c0))
  · skip
    refine sx_nil ?_
    show SX _ _ [.sh s, .sh plan_here_1, .un, .un, .un, .un, .un] _
    refine sx_set G 2 rfl (by decide) (px_catT3_1 (px_slT4_0_3 (px_v G 1 rfl (by decide) rfl (by trivial)) (show POx _ none _ none from trivial) (show POx _ (some _) _ (some _) from (px_int (i := 3)))) (px_tup1 (pax_cons (px_call C_l_other (Nat.le_of_ble_eq_true rfl) g_law_other (pax_cons (px_fld 3 (px_v G 1 rfl (by decide) rfl (by trivial)) (px_int (i := 3)) rfl rfl (fun _ _ => rfl)) (pax_cons (px_call C_l_number (Nat.le_of_ble_eq_true rfl) g_law_number (pax_cons (px_v G 0 rfl (by decide) rfl (by trivial)) (pax_cons (px_int (i := 2)) pax_nil (by intro _; rfl)) (by intro _; rfl)) ⟨_, _, rfl, rfl, by decide⟩ (by decide) (by intro _; rfl) (by intro _; rfl)) pax_nil (by intro _; rfl)) (by intro _; rfl)) ⟨_, _, rfl, rfl, by exact ⟨lawNum_nn _ _, lw_pos c0, hok.dl⟩⟩ (by decide) (by intro _; rfl) (by intro _; rfl)) pax_nil (by intro _; rfl)))) (by intro _; rfl) fun other_here_1 hother_here_1 => ?_
    show SX _ _ [.sh s, .sh plan_here_1, .sh other_here_1, .un, .un, .un, .un] _
    obtain ⟨hok2, q, hq⟩ := oth_ok hok (lawNum_nn s 2) (lw_pos c0) hother_here_1
    refine sx_setC G 3 rfl (by decide) (by show (defScope s_law).names.lookup _ = _; decide +kernel) (px_lcF (own := [("_law_point", 6)]) (w := [6]) G.nd (blkOk_by (by show blkC ["_law_script", "_law_plan_here", "_law_other_here", "_law_bad", "_law_left", "_law_got", "_law_point"] (defScope s_law) _ _ = true; decide +kernel)) (Ly.ix_tup (px_fld 3 (px_v G 2 rfl (by decide) rfl (by trivial)) (px_int (i := 3)) rfl rfl (fun _ _ => rfl))) (by rw [sizeLine_eq]; have := hok2.dl; omega) (by decide) (fun x hx => ⟨_, (gx_w G (by rfl) 6 (by rfl) (by show L2.Loc (relS _ (defScope s_law)) _; decide +kernel) (by first | exact .inr (by show (relS _ (defScope s_law)).names.lookup _ = _; decide +kernel) | exact .inl (by show (List.lookup _ _ == _) = true; decide +kernel)) (by trivial)), (Ly.pt_cmp c_neI (px_lenU (by show (relS _ (defScope s_law)).names.lookup _ = _; decide +kernel) Z.len_ (px_fld 4 (px_w G (by rfl) 6 (by rfl) (by show Vis (relS _ (defScope s_law)) _; decide +kernel) (by rfl) (by trivial)) (px_int (i := 4)) rfl rfl (fun _ _ => rfl))) (px_int (i := 2)) (nomark _)), fun hs1 => (px_fld 0 (px_w G (by rfl) 6 (by rfl) (by show Vis (relS _ (defScope s_law)) _; decide +kernel) (by rfl) (by trivial)) (px_int (i := 0)) rfl rfl (fun _ _ => rfl))⟩) (by intro _ _; rfl)) fun bad_1 hbad_1 => ?_
    show SX _ _ [.sh s, .sh plan_here_1, .sh other_here_1, .ow bad_1, .un, .un, .un] _
    have hqn : q.a = bad_1.getD 0 default := by rw [hbad_1]; exact (bad_nm hq).symm
    refine sx_if (pt_lend 3 rfl (pt_w (Ly.pw_or (Ly.pt_not (Ly.pt_val (px_call C_l_refused (Nat.le_of_ble_eq_true rfl) g_law_refused (pax_cons (px_v G 2 rfl (by decide) rfl (by trivial)) (pax_cons (px_ixL (px_v G 3 rfl (by decide) rfl (by trivial)) (px_int (i := 0)) (by rw [hbad_1]; exact bad_at hq) (fun _ _ => rfl)) (pax_cons (px_bl (c := true)) pax_nil (by intro _; rfl)) (by intro _; rfl)) (by intro _; rfl)) ⟨_, _, _, _, rfl, rfl, by exact ⟨hok2, hq, (bad_nm hq).symm⟩⟩ (by decide) (by intro _; rfl) (by intro _; rfl)) (by intro _ _; rfl))) fun hs2 => (Ly.pw_or1 (Ly.pt_not (Ly.pt_val (px_call C_l_refused (Nat.le_of_ble_eq_true rfl) g_law_refused (pax_cons (px_v G 2 rfl (by decide) rfl (by trivial)) (pax_cons (px_ixL (px_v G 3 rfl (by decide) rfl (by trivial)) (px_int (i := 0)) (by rw [hbad_1]; exact bad_at hq) (fun _ _ => rfl)) (pax_cons (px_bl (c := false)) pax_nil (by intro _; rfl)) (by intro _; rfl)) (by intro _; rfl)) ⟨_, _, _, _, rfl, rfl, by exact ⟨hok2, hq, (bad_nm hq).symm⟩⟩ (by decide) (by intro _; rfl) (by intro _; rfl)) (by intro _ _; rfl))))))) (fun c1 => ?_) (fun c1 => ?_)
    · skip
      refine sx_ret (px_bl (c := false)) ?_
      show Sl.sh _ = _
      exact absurd c1 (by decide)
    · skip
      refine sx_nil ?_
      show SX _ _ [.sh s, .sh plan_here_1, .sh other_here_1, .ow bad_1, .un, .un, .un] _
      refine sx_set G 4 rfl (by decide) (px_lendR 3 rfl (px_catT3_1 (px_slT4_0_3 (px_v G 1 rfl (by decide) rfl (by trivial)) (show POx _ none _ none from trivial) (show POx _ (some _) _ (some _) from (px_int (i := 3)))) (px_tup1 (pax_cons (px_tuple g_tuple Z.tuple_ (by decide +kernel) (px_pub (px_lcF (own := [("_law_point", 6)]) (w := [6]) G.nd (blkOk_by (by show blkC ["_law_script", "_law_plan_here", "_law_other_here", "_law_bad", "_law_left", "_law_got", "_law_point"] (defScope s_law) _ _ = true; decide +kernel)) (Ly.ix_tup (px_fld 3 (px_v G 2 rfl (by decide) rfl (by trivial)) (px_int (i := 3)) rfl rfl (fun _ _ => rfl))) (by rw [sizeLine_eq]; have := hok2.dl; omega) (by decide) (fun x hx => ⟨_, (gx_w G (by rfl) 6 (by rfl) (by show L2.Loc (relS _ (defScope s_law)) _; decide +kernel) (by first | exact .inr (by show (relS _ (defScope s_law)).names.lookup _ = _; decide +kernel) | exact .inl (by show (List.lookup _ _ == _) = true; decide +kernel)) (by trivial)), (Ly.pt_cmp (c_notInD (α := Str) (by decide)) (px_fld 0 (px_w G (by rfl) 6 (by rfl) (by show Vis (relS _ (defScope s_law)) _; decide +kernel) (by rfl) (by trivial)) (px_int (i := 0)) rfl rfl (fun _ _ => rfl)) (px_w G (by rfl) 3 (by rfl) (by show Vis (relS _ (defScope s_law)) _; decide +kernel) (by rfl) (by trivial)) (by rfl)), fun hs3 => (px_w G (by rfl) 6 (by rfl) (by show Vis (relS _ (defScope s_law)) _; decide +kernel) (by rfl) (by trivial))⟩) (by intro _ _; rfl)))) pax_nil (by intro _; rfl)))) (by walk_at "imm")) (by intro _; rfl) fun left_1 hleft_1 => ?_
      show SX _ _ [.sh s, .sh plan_here_1, .sh other_here_1, .ow bad_1, .sh left_1, .un, .un] _
      refine sx_setO G 5 rfl (by decide) (px_callG (s := .ow (allN left_1)) C_all_set (Nat.le_of_ble_eq_true rfl) g_all_set (pax_cons (px_v G 4 rfl (by decide) rfl (by trivial)) pax_nil (by intro _; rfl)) ⟨_, rfl, rfl, by have e := left_two other_here_1; rw [hleft_1, hbad_1]; rw [hother_here_1] at e ⊢; exact (nt_val e).symm, by rw [hleft_1]; have e := left_ok (bad := bad_1) hok2; rw [hother_here_1] at e ⊢; exact e⟩ rfl (fun z => by cases z) (by decide) (by intro _; rfl) (by intro _; rfl)) (by intro _; rfl) fun got_1 hgot_1 => ?_
      show SX _ _ [.sh s, .sh plan_here_1, .sh other_here_1, .ow bad_1, .sh left_1, .ow got_1, .un] _
      refine sx_ret (px_lendRT 5 rfl (Ly.px_and (px_isi (T := "tuple") (c := true) g_isinstance Z.isinstance_ (by decide +kernel) g_tuple Z.tuple_ (by decide +kernel) (px_v G 5 rfl (by decide) rfl (by trivial)) (by show kitB "tuple" "tuple" = _; decide +kernel) (by decide) (by decide)) fun hs4 => (Ly.px_and (Ly.px_cmp c_eqI (px_len2 g_len Z.len_ (px_v G 5 rfl (by decide) rfl (by trivial))) (px_int (i := 2)) (nomark _)) fun hs5 => (px_one (Ly.px_cmp c_neB (Ly.px_cmp c_isN (px_fld 0 (px_v G 5 rfl (by decide) rfl (by trivial)) (px_int (i := 0)) rfl rfl (fun _ _ => rfl)) px_non (nomark _)) (Ly.px_cmp c_isN (px_fld 1 (px_v G 5 rfl (by decide) rfl (by trivial)) (px_int (i := 1)) rfl rfl (fun _ _ => rfl)) px_non (nomark _)) (nomark _))))) (by walk_at "imm")) ?_
      show Sl.sh _ = _
      exact congrArg Sl.sh (by rw [hgot_1]; exact two_one _)
end
theorem all_mk {l : PySem.W.OpenLaw} {w : World} {K : PySem.W.Frag} {h : Heap} {mg : Str → Option Value} {fa f0 f1 f2 f3 f4 f5 f6 f7 f8 f9 f10 f11 f12 f13 f14 f15 f16 f17 f18 f19 f20 f21 f22 f23 f24 f25 f26 f27 f28 f29 f30 f31 f32 f33 f34 f35 A_Left A_Level A_Right A_Upright A_LabelError A_NoCell A_NoDeed A_NoDrawing A_NoName A_NoPlan A_NotTwo A_TooMany A_Twice : Addr} (X : K.In h) (GN : h.Ns mainGlobals mg) (hfa : mg "law" = some (.ref fa))
    {od0 an0 od1 an1 od2 an2 od3 an3 od4 an4 od5 an5 od6 an6 od7 an7 od8 an8 od9 an9 od10 an10 od11 an11 od12 an12 od13 an13 od14 an14 od15 an15 od16 an16 od17 an17 od18 an18 od19 an19 od20 an20 od21 an21 od22 an22 od23 an23 od24 an24 od25 an25 od26 an26 od27 an27 od28 an28 od29 an29 od30 an30 od31 an31 od32 an32 od33 an33 od34 an34 od35 an35 : Option Addr} {sl0 sl1 sl2 sl3 sl4 sl5 sl6 sl7 sl8 sl9 sl10 sl11 sl12 sl13 sl14 sl15 sl16 sl17 sl18 sl19 sl20 sl21 sl22 sl23 sl24 sl25 sl26 sl27 sl28 sl29 sl30 sl31 sl32 sl33 sl34 sl35 : Array (Option Value)}
    {oc0 kV0 dc0 pm0 cd0 ct0 oc1 kV1 dc1 pm1 cd1 ct1 oc2 kV2 dc2 pm2 cd2 ct2 oc3 kV3 dc3 pm3 cd3 ct3 oc4 kV4 dc4 pm4 cd4 ct4 oc5 kV5 dc5 pm5 cd5 ct5 oc6 kV6 dc6 pm6 cd6 ct6 oc7 kV7 dc7 pm7 cd7 ct7 oc8 kV8 dc8 pm8 cd8 ct8 oc9 kV9 dc9 pm9 cd9 ct9 oc10 kV10 dc10 pm10 cd10 ct10 oc11 kV11 dc11 pm11 cd11 ct11 oc12 kV12 dc12 pm12 cd12 ct12 oc13 kV13 dc13 pm13 cd13 ct13 oc14 kV14 dc14 pm14 cd14 ct14 oc15 kV15 dc15 pm15 cd15 ct15 oc16 kV16 dc16 pm16 cd16 ct16 oc17 kV17 dc17 pm17 cd17 ct17 oc18 kV18 dc18 pm18 cd18 ct18 oc19 kV19 dc19 pm19 cd19 ct19 oc20 kV20 dc20 pm20 cd20 ct20 oc21 kV21 dc21 pm21 cd21 ct21 oc22 kV22 dc22 pm22 cd22 ct22 oc23 kV23 dc23 pm23 cd23 ct23 oc24 kV24 dc24 pm24 cd24 ct24 oc25 kV25 dc25 pm25 cd25 ct25 oc26 kV26 dc26 pm26 cd26 ct26 oc27 kV27 dc27 pm27 cd27 ct27 oc28 kV28 dc28 pm28 cd28 ct28 oc29 kV29 dc29 pm29 cd29 ct29 oc30 kV30 dc30 pm30 cd30 ct30 oc31 kV31 dc31 pm31 cd31 ct31 oc32 kV32 dc32 pm32 cd32 ct32 oc33 kV33 dc33 pm33 cd33 ct33 oc34 kV34 dc34 pm34 cd34 ct34 oc35 kV35 dc35 pm35 cd35 ct35 : Value}
    (aC_Left : PySem.W.nsIn K mainGlobals "Left" = some (some (.ref A_Left)))
    (pg_Left : PySem.W.plainGet K A_Left Str.empty = true)
    (hd_Left : PySem.W.hasDictIn K A_Left = true)
    (po_Left : PySem.W.plainOver K A_Left = true)
    (sa_Left : PySem.W.findIn K (.ref A_Left) "__setattr__" = some (some (.builtin "object.__setattr__")))
    (mk_Left : PySem.W.makesIn K A_Left = true)
    (kc_Left : PySem.W.keepIn K (.ref A_Left) = true)
    (in_Left : PySem.W.findIn K (.ref A_Left) "__init__" = some (some (.builtin "object.__init__")))
    (aC_Level : PySem.W.nsIn K mainGlobals "Level" = some (some (.ref A_Level)))
    (pg_Level : PySem.W.plainGet K A_Level Str.empty = true)
    (hd_Level : PySem.W.hasDictIn K A_Level = true)
    (po_Level : PySem.W.plainOver K A_Level = true)
    (sa_Level : PySem.W.findIn K (.ref A_Level) "__setattr__" = some (some (.builtin "object.__setattr__")))
    (mk_Level : PySem.W.makesIn K A_Level = true)
    (kc_Level : PySem.W.keepIn K (.ref A_Level) = true)
    (aC_Right : PySem.W.nsIn K mainGlobals "Right" = some (some (.ref A_Right)))
    (pg_Right : PySem.W.plainGet K A_Right Str.empty = true)
    (hd_Right : PySem.W.hasDictIn K A_Right = true)
    (po_Right : PySem.W.plainOver K A_Right = true)
    (sa_Right : PySem.W.findIn K (.ref A_Right) "__setattr__" = some (some (.builtin "object.__setattr__")))
    (mk_Right : PySem.W.makesIn K A_Right = true)
    (kc_Right : PySem.W.keepIn K (.ref A_Right) = true)
    (in_Right : PySem.W.findIn K (.ref A_Right) "__init__" = some (some (.builtin "object.__init__")))
    (aC_Upright : PySem.W.nsIn K mainGlobals "Upright" = some (some (.ref A_Upright)))
    (pg_Upright : PySem.W.plainGet K A_Upright Str.empty = true)
    (hd_Upright : PySem.W.hasDictIn K A_Upright = true)
    (po_Upright : PySem.W.plainOver K A_Upright = true)
    (sa_Upright : PySem.W.findIn K (.ref A_Upright) "__setattr__" = some (some (.builtin "object.__setattr__")))
    (mk_Upright : PySem.W.makesIn K A_Upright = true)
    (kc_Upright : PySem.W.keepIn K (.ref A_Upright) = true)
    (xa_LabelError : PySem.W.nsIn K mainGlobals "LabelError" = some (some (.ref A_LabelError))) (xe_LabelError : PySem.W.subIn K (.ref A_LabelError) (.type "BaseException") = some true) (xt_LabelError : PySem.W.typeIn K (.ref A_LabelError) = some (.type "type")) (xh_LabelError : PySem.W.hasDictIn K A_LabelError = true) (xp_LabelError : PySem.W.keepIn K (.ref A_LabelError) = true)
    (xa_NoCell : PySem.W.nsIn K mainGlobals "NoCell" = some (some (.ref A_NoCell))) (xe_NoCell : PySem.W.subIn K (.ref A_NoCell) (.type "BaseException") = some true) (xt_NoCell : PySem.W.typeIn K (.ref A_NoCell) = some (.type "type")) (xh_NoCell : PySem.W.hasDictIn K A_NoCell = true) (xp_NoCell : PySem.W.keepIn K (.ref A_NoCell) = true)
    (xa_NoDeed : PySem.W.nsIn K mainGlobals "NoDeed" = some (some (.ref A_NoDeed))) (xe_NoDeed : PySem.W.subIn K (.ref A_NoDeed) (.type "BaseException") = some true) (xt_NoDeed : PySem.W.typeIn K (.ref A_NoDeed) = some (.type "type")) (xh_NoDeed : PySem.W.hasDictIn K A_NoDeed = true) (xp_NoDeed : PySem.W.keepIn K (.ref A_NoDeed) = true)
    (xa_NoDrawing : PySem.W.nsIn K mainGlobals "NoDrawing" = some (some (.ref A_NoDrawing))) (xe_NoDrawing : PySem.W.subIn K (.ref A_NoDrawing) (.type "BaseException") = some true) (xt_NoDrawing : PySem.W.typeIn K (.ref A_NoDrawing) = some (.type "type")) (xh_NoDrawing : PySem.W.hasDictIn K A_NoDrawing = true) (xp_NoDrawing : PySem.W.keepIn K (.ref A_NoDrawing) = true)
    (xa_NoName : PySem.W.nsIn K mainGlobals "NoName" = some (some (.ref A_NoName))) (xe_NoName : PySem.W.subIn K (.ref A_NoName) (.type "BaseException") = some true) (xt_NoName : PySem.W.typeIn K (.ref A_NoName) = some (.type "type")) (xh_NoName : PySem.W.hasDictIn K A_NoName = true) (xp_NoName : PySem.W.keepIn K (.ref A_NoName) = true)
    (xa_NoPlan : PySem.W.nsIn K mainGlobals "NoPlan" = some (some (.ref A_NoPlan))) (xe_NoPlan : PySem.W.subIn K (.ref A_NoPlan) (.type "BaseException") = some true) (xt_NoPlan : PySem.W.typeIn K (.ref A_NoPlan) = some (.type "type")) (xh_NoPlan : PySem.W.hasDictIn K A_NoPlan = true) (xp_NoPlan : PySem.W.keepIn K (.ref A_NoPlan) = true)
    (xa_NotTwo : PySem.W.nsIn K mainGlobals "NotTwo" = some (some (.ref A_NotTwo))) (xe_NotTwo : PySem.W.subIn K (.ref A_NotTwo) (.type "BaseException") = some true) (xt_NotTwo : PySem.W.typeIn K (.ref A_NotTwo) = some (.type "type")) (xh_NotTwo : PySem.W.hasDictIn K A_NotTwo = true) (xp_NotTwo : PySem.W.keepIn K (.ref A_NotTwo) = true)
    (xa_TooMany : PySem.W.nsIn K mainGlobals "TooMany" = some (some (.ref A_TooMany))) (xe_TooMany : PySem.W.subIn K (.ref A_TooMany) (.type "BaseException") = some true) (xt_TooMany : PySem.W.typeIn K (.ref A_TooMany) = some (.type "type")) (xh_TooMany : PySem.W.hasDictIn K A_TooMany = true) (xp_TooMany : PySem.W.keepIn K (.ref A_TooMany) = true)
    (xa_Twice : PySem.W.nsIn K mainGlobals "Twice" = some (some (.ref A_Twice))) (xe_Twice : PySem.W.subIn K (.ref A_Twice) (.type "BaseException") = some true) (xt_Twice : PySem.W.typeIn K (.ref A_Twice) = some (.type "type")) (xh_Twice : PySem.W.hasDictIn K A_Twice = true) (xp_Twice : PySem.W.keepIn K (.ref A_Twice) = true)
    (is_1 : PySem.W.specialIn K (.builtin "object.__class__") "__get__" = some (some (.builtin "getset_descriptor.__get__"))) (is_2 : PySem.W.takesIn K (.builtin "object.__class__") = some true)
    (xg_NotTwo : PySem.W.findIn K (.ref A_NotTwo) "__getattribute__" = some (some (.builtin "BaseException.__getattribute__"))) (xq_NotTwo : PySem.W.findIn K (.ref A_NotTwo) "__getattr__" = some none) (xc_NotTwo : PySem.W.findIn K (.ref A_NotTwo) "__class__" = some (some (.builtin "object.__class__"))) (xm_NotTwo : PySem.W.mroIn K A_NotTwo (.type "object") = some true)
    (xn_NotTwo_name : PySem.W.findIn K (.ref A_NotTwo) "name" = some none)
    {nm_NotTwo qn_NotTwo : Str} {N_NotTwo : Addr} {bs_NotTwo : List Value} {sn_NotTwo : List Str} {sb_NotTwo : List Value} {ab_NotTwo : Bool} {co_NotTwo : Option Bool} {dd_NotTwo : Option Addr} {m0_NotTwo m1_NotTwo m2_NotTwo m3_NotTwo m5_NotTwo : Option Value}
    (xL_NotTwo : K.lookup A_NotTwo = some (excClassObj nm_NotTwo qn_NotTwo A_NotTwo N_NotTwo bs_NotTwo [.ref A_LabelError, .type "ValueError", .type "Exception", .type "BaseException", .type "object"] true sn_NotTwo sb_NotTwo ab_NotTwo co_NotTwo dd_NotTwo m0_NotTwo m1_NotTwo m2_NotTwo m3_NotTwo m5_NotTwo "ValueError.__new__")) (xs_NotTwo : PySem.W.findIn K (.ref A_NotTwo) "__setattr__" = some (some (.builtin "object.__setattr__")))
    (xb_NotTwo_LabelError : PySem.W.subIn K (.ref A_NotTwo) (.ref A_LabelError) = some true)
    (xb_NotTwo_NotTwo : PySem.W.subIn K (.ref A_NotTwo) (.ref A_NotTwo) = some true)
    (ne_NotTwo_NoCell : (Value.ref A_NotTwo == Value.ref A_NoCell) = false) (xr_NotTwo_NoCell : PySem.W.subIn K (.ref A_NotTwo) (.ref A_NoCell) = some false)
    (ne_NotTwo_NoDeed : (Value.ref A_NotTwo == Value.ref A_NoDeed) = false) (xr_NotTwo_NoDeed : PySem.W.subIn K (.ref A_NotTwo) (.ref A_NoDeed) = some false)
    (ne_NotTwo_NoDrawing : (Value.ref A_NotTwo == Value.ref A_NoDrawing) = false) (xr_NotTwo_NoDrawing : PySem.W.subIn K (.ref A_NotTwo) (.ref A_NoDrawing) = some false)
    (ne_NotTwo_NoName : (Value.ref A_NotTwo == Value.ref A_NoName) = false) (xr_NotTwo_NoName : PySem.W.subIn K (.ref A_NotTwo) (.ref A_NoName) = some false)
    (ne_NotTwo_NoPlan : (Value.ref A_NotTwo == Value.ref A_NoPlan) = false) (xr_NotTwo_NoPlan : PySem.W.subIn K (.ref A_NotTwo) (.ref A_NoPlan) = some false)
    (ne_NotTwo_TooMany : (Value.ref A_NotTwo == Value.ref A_TooMany) = false) (xr_NotTwo_TooMany : PySem.W.subIn K (.ref A_NotTwo) (.ref A_TooMany) = some false)
    (ne_NotTwo_Twice : (Value.ref A_NotTwo == Value.ref A_Twice) = false) (xr_NotTwo_Twice : PySem.W.subIn K (.ref A_NotTwo) (.ref A_Twice) = some false)
    (xv_NotTwo : PySem.W.subIn K (.ref A_NotTwo) (.type "ValueError") = some true)
    (xi_NoCell : PySem.W.isClsIn K A_NoCell = true)
    (xi_NoDeed : PySem.W.isClsIn K A_NoDeed = true)
    (xi_NoDrawing : PySem.W.isClsIn K A_NoDrawing = true)
    (xi_NoName : PySem.W.isClsIn K A_NoName = true)
    (xi_NoPlan : PySem.W.isClsIn K A_NoPlan = true)
    (xi_TooMany : PySem.W.isClsIn K A_TooMany = true)
    (xi_Twice : PySem.W.isClsIn K A_Twice = true)
    (na_Level_step : PySem.W.findIn K (.ref A_Level) "step" = some none)
    (na_Upright_ends : PySem.W.findIn K (.ref A_Upright) "ends" = some none)
    (a0 : PySem.W.findIn K (.ref A_Right) "box" = some (some (.ref f0))) (i0 : PySem.W.isFn K (.ref f0) = true)
    (l0 : K.lookup f0 = some ⟨oc0, od0, .func (PySem.W.fnOf "box" "Right.box" (defArgs s_Right_box) (defBody s_Right_box) (defScope s_Right_box) .none kV0 dc0 pm0 an0 cd0 ct0), sl0⟩) (c0 : PySem.W.codeIn K cd0 "Right.box" = true) (k0 : PySem.W.keepIn K (.ref f0) = true)
    (a1 : PySem.W.findIn K (.ref A_Left) "box" = some (some (.ref f1))) (i1 : PySem.W.isFn K (.ref f1) = true)
    (l1 : K.lookup f1 = some ⟨oc1, od1, .func (PySem.W.fnOf "box" "Left.box" (defArgs s_Left_box) (defBody s_Left_box) (defScope s_Left_box) .none kV1 dc1 pm1 an1 cd1 ct1), sl1⟩) (c1 : PySem.W.codeIn K cd1 "Left.box" = true) (k1 : PySem.W.keepIn K (.ref f1) = true)
    (a2 : PySem.W.findIn K (.ref A_Level) "__init__" = some (some (.ref f2))) (i2 : PySem.W.isFn K (.ref f2) = true)
    (l2 : K.lookup f2 = some ⟨oc2, od2, .func (PySem.W.fnOf "__init__" "Level.__init__" (defArgs s_Level___init__) (defBody s_Level___init__) (defScope s_Level___init__) .none kV2 dc2 pm2 an2 cd2 ct2), sl2⟩) (c2 : PySem.W.codeIn K cd2 "Level.__init__" = true) (k2 : PySem.W.keepIn K (.ref f2) = true)
    (a3 : PySem.W.findIn K (.ref A_Level) "box" = some (some (.ref f3))) (i3 : PySem.W.isFn K (.ref f3) = true)
    (l3 : K.lookup f3 = some ⟨oc3, od3, .func (PySem.W.fnOf "box" "Level.box" (defArgs s_Level_box) (defBody s_Level_box) (defScope s_Level_box) .none kV3 dc3 pm3 an3 cd3 ct3), sl3⟩) (c3 : PySem.W.codeIn K cd3 "Level.box" = true) (k3 : PySem.W.keepIn K (.ref f3) = true)
    (a4 : PySem.W.findIn K (.ref A_Upright) "__init__" = some (some (.ref f4))) (i4 : PySem.W.isFn K (.ref f4) = true)
    (l4 : K.lookup f4 = some ⟨oc4, od4, .func (PySem.W.fnOf "__init__" "Upright.__init__" (defArgs s_Upright___init__) (defBody s_Upright___init__) (defScope s_Upright___init__) .none kV4 dc4 pm4 an4 cd4 ct4), sl4⟩) (c4 : PySem.W.codeIn K cd4 "Upright.__init__" = true) (k4 : PySem.W.keepIn K (.ref f4) = true)
    (a5 : PySem.W.findIn K (.ref A_Upright) "box" = some (some (.ref f5))) (i5 : PySem.W.isFn K (.ref f5) = true)
    (l5 : K.lookup f5 = some ⟨oc5, od5, .func (PySem.W.fnOf "box" "Upright.box" (defArgs s_Upright_box) (defBody s_Upright_box) (defScope s_Upright_box) .none kV5 dc5 pm5 an5 cd5 ct5), sl5⟩) (c5 : PySem.W.codeIn K cd5 "Upright.box" = true) (k5 : PySem.W.keepIn K (.ref f5) = true)
    (a6 : PySem.W.nsIn K mainGlobals "way_of" = some (some (.ref f6)))
    (l6 : K.lookup f6 = some ⟨oc6, od6, .func (PySem.W.fnOf "way_of" "way_of" (defArgs s_way_of) (defBody s_way_of) (defScope s_way_of) .none kV6 dc6 pm6 an6 cd6 ct6), sl6⟩) (c6 : PySem.W.codeIn K cd6 "way_of" = true) (k6 : PySem.W.keepIn K (.ref f6) = true)
    (a7 : PySem.W.nsIn K mainGlobals "box_at" = some (some (.ref f7)))
    (l7 : K.lookup f7 = some ⟨oc7, od7, .func (PySem.W.fnOf "box_at" "box_at" (defArgs s_box_at) (defBody s_box_at) (defScope s_box_at) .none kV7 dc7 pm7 an7 cd7 ct7), sl7⟩) (c7 : PySem.W.codeIn K cd7 "box_at" = true) (k7 : PySem.W.keepIn K (.ref f7) = true)
    (a8 : PySem.W.nsIn K mainGlobals "cells_of" = some (some (.ref f8)))
    (l8 : K.lookup f8 = some ⟨oc8, od8, .func (PySem.W.fnOf "cells_of" "cells_of" (defArgs s_cells_of) (defBody s_cells_of) (defScope s_cells_of) .none kV8 dc8 pm8 an8 cd8 ct8), sl8⟩) (c8 : PySem.W.codeIn K cd8 "cells_of" = true) (k8 : PySem.W.keepIn K (.ref f8) = true)
    (a9 : PySem.W.nsIn K mainGlobals "bits" = some (some (.ref f9)))
    (l9 : K.lookup f9 = some ⟨oc9, od9, .func (PySem.W.fnOf "bits" "bits" (defArgs s_bits) (defBody s_bits) (defScope s_bits) .none kV9 dc9 pm9 an9 cd9 ct9), sl9⟩) (c9 : PySem.W.codeIn K cd9 "bits" = true) (k9 : PySem.W.keepIn K (.ref f9) = true)
    (a10 : PySem.W.nsIn K mainGlobals "lies_in" = some (some (.ref f10)))
    (l10 : K.lookup f10 = some ⟨oc10, od10, .func (PySem.W.fnOf "lies_in" "lies_in" (defArgs s_lies_in) (defBody s_lies_in) (defScope s_lies_in) .none kV10 dc10 pm10 an10 cd10 ct10), sl10⟩) (c10 : PySem.W.codeIn K cd10 "lies_in" = true) (k10 : PySem.W.keepIn K (.ref f10) = true)
    (a11 : PySem.W.nsIn K mainGlobals "meet" = some (some (.ref f11)))
    (l11 : K.lookup f11 = some ⟨oc11, od11, .func (PySem.W.fnOf "meet" "meet" (defArgs s_meet) (defBody s_meet) (defScope s_meet) .none kV11 dc11 pm11 an11 cd11 ct11), sl11⟩) (c11 : PySem.W.codeIn K cd11 "meet" = true) (k11 : PySem.W.keepIn K (.ref f11) = true)
    (a12 : PySem.W.nsIn K mainGlobals "point_of" = some (some (.ref f12)))
    (l12 : K.lookup f12 = some ⟨oc12, od12, .func (PySem.W.fnOf "point_of" "point_of" (defArgs s_point_of) (defBody s_point_of) (defScope s_point_of) .none kV12 dc12 pm12 an12 cd12 ct12), sl12⟩) (c12 : PySem.W.codeIn K cd12 "point_of" = true) (k12 : PySem.W.keepIn K (.ref f12) = true)
    (a13 : PySem.W.nsIn K mainGlobals "placed" = some (some (.ref f13)))
    (l13 : K.lookup f13 = some ⟨oc13, od13, .func (PySem.W.fnOf "placed" "placed" (defArgs s_placed) (defBody s_placed) (defScope s_placed) .none kV13 dc13 pm13 an13 cd13 ct13), sl13⟩) (c13 : PySem.W.codeIn K cd13 "placed" = true) (k13 : PySem.W.keepIn K (.ref f13) = true)
    (a14 : PySem.W.nsIn K mainGlobals "box_of" = some (some (.ref f14)))
    (l14 : K.lookup f14 = some ⟨oc14, od14, .func (PySem.W.fnOf "box_of" "box_of" (defArgs s_box_of) (defBody s_box_of) (defScope s_box_of) .none kV14 dc14 pm14 an14 cd14 ct14), sl14⟩) (c14 : PySem.W.codeIn K cd14 "box_of" = true) (k14 : PySem.W.keepIn K (.ref f14) = true)
    (a15 : PySem.W.nsIn K mainGlobals "shut_bits" = some (some (.ref f15)))
    (l15 : K.lookup f15 = some ⟨oc15, od15, .func (PySem.W.fnOf "shut_bits" "shut_bits" (defArgs s_shut_bits) (defBody s_shut_bits) (defScope s_shut_bits) .none kV15 dc15 pm15 an15 cd15 ct15), sl15⟩) (c15 : PySem.W.codeIn K cd15 "shut_bits" = true) (k15 : PySem.W.keepIn K (.ref f15) = true)
    (a16 : PySem.W.nsIn K mainGlobals "open_bits" = some (some (.ref f16)))
    (l16 : K.lookup f16 = some ⟨oc16, od16, .func (PySem.W.fnOf "open_bits" "open_bits" (defArgs s_open_bits) (defBody s_open_bits) (defScope s_open_bits) .none kV16 dc16 pm16 an16 cd16 ct16), sl16⟩) (c16 : PySem.W.codeIn K cd16 "open_bits" = true) (k16 : PySem.W.keepIn K (.ref f16) = true)
    (a17 : PySem.W.nsIn K mainGlobals "open_places" = some (some (.ref f17)))
    (l17 : K.lookup f17 = some ⟨oc17, od17, .func (PySem.W.fnOf "open_places" "open_places" (defArgs s_open_places) (defBody s_open_places) (defScope s_open_places) .none kV17 dc17 pm17 an17 cd17 ct17), sl17⟩) (c17 : PySem.W.codeIn K cd17 "open_places" = true) (k17 : PySem.W.keepIn K (.ref f17) = true)
    (a18 : PySem.W.findIn K (.ref A_NotTwo) "__init__" = some (some (.ref f18))) (i18 : PySem.W.isFn K (.ref f18) = true)
    (t18 : PySem.W.typeIn K (.ref f18) = some (.type "function"))
    (l18 : K.lookup f18 = some ⟨oc18, od18, .func (PySem.W.fnOf "__init__" "NotTwo.__init__" (defArgs s_NotTwo___init__) (defBody s_NotTwo___init__) (defScope s_NotTwo___init__) .none kV18 dc18 pm18 an18 cd18 ct18), sl18⟩) (c18 : PySem.W.codeIn K cd18 "NotTwo.__init__" = true) (k18 : PySem.W.keepIn K (.ref f18) = true)
    (a19 : PySem.W.nsIn K mainGlobals "need_two" = some (some (.ref f19)))
    (l19 : K.lookup f19 = some ⟨oc19, od19, .func (PySem.W.fnOf "need_two" "need_two" (defArgs s_need_two) (defBody s_need_two) (defScope s_need_two) .none kV19 dc19 pm19 an19 cd19 ct19), sl19⟩) (c19 : PySem.W.codeIn K cd19 "need_two" = true) (k19 : PySem.W.keepIn K (.ref f19) = true)
    (a20 : PySem.W.nsIn K mainGlobals "open_boxes" = some (some (.ref f20)))
    (l20 : K.lookup f20 = some ⟨oc20, od20, .func (PySem.W.fnOf "open_boxes" "open_boxes" (defArgs s_open_boxes) (defBody s_open_boxes) (defScope s_open_boxes) .none kV20 dc20 pm20 an20 cd20 ct20), sl20⟩) (c20 : PySem.W.codeIn K cd20 "open_boxes" = true) (k20 : PySem.W.keepIn K (.ref f20) = true)
    (a21 : PySem.W.nsIn K mainGlobals "followed" = some (some (.ref f21)))
    (l21 : K.lookup f21 = some ⟨oc21, od21, .func (PySem.W.fnOf "followed" "followed" (defArgs s_followed) (defBody s_followed) (defScope s_followed) .none kV21 dc21 pm21 an21 cd21 ct21), sl21⟩) (c21 : PySem.W.codeIn K cd21 "followed" = true) (k21 : PySem.W.keepIn K (.ref f21) = true)
    (a22 : PySem.W.nsIn K mainGlobals "follow" = some (some (.ref f22)))
    (l22 : K.lookup f22 = some ⟨oc22, od22, .func (PySem.W.fnOf "follow" "follow" (defArgs s_follow) (defBody s_follow) (defScope s_follow) .none kV22 dc22 pm22 an22 cd22 ct22), sl22⟩) (c22 : PySem.W.codeIn K cd22 "follow" = true) (k22 : PySem.W.keepIn K (.ref f22) = true)
    (a23 : PySem.W.nsIn K mainGlobals "table_of" = some (some (.ref f23)))
    (l23 : K.lookup f23 = some ⟨oc23, od23, .func (PySem.W.fnOf "table_of" "table_of" (defArgs s_table_of) (defBody s_table_of) (defScope s_table_of) .none kV23 dc23 pm23 an23 cd23 ct23), sl23⟩) (c23 : PySem.W.codeIn K cd23 "table_of" = true) (k23 : PySem.W.keepIn K (.ref f23) = true)
    (a24 : PySem.W.nsIn K mainGlobals "come_to" = some (some (.ref f24)))
    (l24 : K.lookup f24 = some ⟨oc24, od24, .func (PySem.W.fnOf "come_to" "come_to" (defArgs s_come_to) (defBody s_come_to) (defScope s_come_to) .none kV24 dc24 pm24 an24 cd24 ct24), sl24⟩) (c24 : PySem.W.codeIn K cd24 "come_to" = true) (k24 : PySem.W.keepIn K (.ref f24) = true)
    (a25 : PySem.W.nsIn K mainGlobals "traced" = some (some (.ref f25)))
    (l25 : K.lookup f25 = some ⟨oc25, od25, .func (PySem.W.fnOf "traced" "traced" (defArgs s_traced) (defBody s_traced) (defScope s_traced) .none kV25 dc25 pm25 an25 cd25 ct25), sl25⟩) (c25 : PySem.W.codeIn K cd25 "traced" = true) (k25 : PySem.W.keepIn K (.ref f25) = true)
    (a26 : PySem.W.nsIn K mainGlobals "chain_of" = some (some (.ref f26)))
    (l26 : K.lookup f26 = some ⟨oc26, od26, .func (PySem.W.fnOf "chain_of" "chain_of" (defArgs s_chain_of) (defBody s_chain_of) (defScope s_chain_of) .none kV26 dc26 pm26 an26 cd26 ct26), sl26⟩) (c26 : PySem.W.codeIn K cd26 "chain_of" = true) (k26 : PySem.W.keepIn K (.ref f26) = true)
    (a27 : PySem.W.nsIn K mainGlobals "all_set" = some (some (.ref f27)))
    (l27 : K.lookup f27 = some ⟨oc27, od27, .func (PySem.W.fnOf "all_set" "all_set" (defArgs s_all_set) (defBody s_all_set) (defScope s_all_set) .none kV27 dc27 pm27 an27 cd27 ct27), sl27⟩) (c27 : PySem.W.codeIn K cd27 "all_set" = true) (k27 : PySem.W.keepIn K (.ref f27) = true)
    (a28 : PySem.W.nsIn K mainGlobals "_law_number" = some (some (.ref f28)))
    (l28 : K.lookup f28 = some ⟨oc28, od28, .func (PySem.W.fnOf "_law_number" "_law_number" (defArgs s_l_number) (defBody s_l_number) (defScope s_l_number) .none kV28 dc28 pm28 an28 cd28 ct28), sl28⟩) (c28 : PySem.W.codeIn K cd28 "_law_number" = true) (k28 : PySem.W.keepIn K (.ref f28) = true)
    (a29 : PySem.W.nsIn K mainGlobals "_law_names" = some (some (.ref f29)))
    (l29 : K.lookup f29 = some ⟨oc29, od29, .func (PySem.W.fnOf "_law_names" "_law_names" (defArgs s_l_names) (defBody s_l_names) (defScope s_l_names) .none kV29 dc29 pm29 an29 cd29 ct29), sl29⟩) (c29 : PySem.W.codeIn K cd29 "_law_names" = true) (k29 : PySem.W.keepIn K (.ref f29) = true)
    (a30 : PySem.W.nsIn K mainGlobals "_law_places" = some (some (.ref f30)))
    (l30 : K.lookup f30 = some ⟨oc30, od30, .func (PySem.W.fnOf "_law_places" "_law_places" (defArgs s_l_places) (defBody s_l_places) (defScope s_l_places) .none kV30 dc30 pm30 an30 cd30 ct30), sl30⟩) (c30 : PySem.W.codeIn K cd30 "_law_places" = true) (k30 : PySem.W.keepIn K (.ref f30) = true)
    (a31 : PySem.W.nsIn K mainGlobals "_law_kept" = some (some (.ref f31)))
    (l31 : K.lookup f31 = some ⟨oc31, od31, .func (PySem.W.fnOf "_law_kept" "_law_kept" (defArgs s_l_kept) (defBody s_l_kept) (defScope s_l_kept) .none kV31 dc31 pm31 an31 cd31 ct31), sl31⟩) (c31 : PySem.W.codeIn K cd31 "_law_kept" = true) (k31 : PySem.W.keepIn K (.ref f31) = true)
    (a32 : PySem.W.nsIn K mainGlobals "_law_plan" = some (some (.ref f32)))
    (l32 : K.lookup f32 = some ⟨oc32, od32, .func (PySem.W.fnOf "_law_plan" "_law_plan" (defArgs s_l_plan) (defBody s_l_plan) (defScope s_l_plan) .none kV32 dc32 pm32 an32 cd32 ct32), sl32⟩) (c32 : PySem.W.codeIn K cd32 "_law_plan" = true) (k32 : PySem.W.keepIn K (.ref f32) = true)
    (a33 : PySem.W.nsIn K mainGlobals "_law_other" = some (some (.ref f33)))
    (l33 : K.lookup f33 = some ⟨oc33, od33, .func (PySem.W.fnOf "_law_other" "_law_other" (defArgs s_l_other) (defBody s_l_other) (defScope s_l_other) .none kV33 dc33 pm33 an33 cd33 ct33), sl33⟩) (c33 : PySem.W.codeIn K cd33 "_law_other" = true) (k33 : PySem.W.keepIn K (.ref f33) = true)
    (a34 : PySem.W.nsIn K mainGlobals "_law_refused" = some (some (.ref f34)))
    (l34 : K.lookup f34 = some ⟨oc34, od34, .func (PySem.W.fnOf "_law_refused" "_law_refused" (defArgs s_l_refused) (defBody s_l_refused) (defScope s_l_refused) .none kV34 dc34 pm34 an34 cd34 ct34), sl34⟩) (c34 : PySem.W.codeIn K cd34 "_law_refused" = true) (k34 : PySem.W.keepIn K (.ref f34) = true)
    (a35 : PySem.W.nsIn K mainGlobals "law" = some (some (.ref f35)))
    (l35 : K.lookup f35 = some ⟨oc35, od35, .func (PySem.W.fnOf "law" "law" (defArgs s_law) (defBody s_law) (defScope s_law) .none kV35 dc35 pm35 an35 cd35 ct35), sl35⟩) (c35 : PySem.W.codeIn K cd35 "law" = true) (k35 : PySem.W.keepIn K (.ref f35) = true)
    (z_range : PySem.W.nsIn K mainGlobals "range" = some none)
    (z_len : PySem.W.nsIn K mainGlobals "len" = some none)
    (z_isinstance : PySem.W.nsIn K mainGlobals "isinstance" = some none)
    (z_bool : PySem.W.nsIn K mainGlobals "bool" = some none)
    (z_tuple : PySem.W.nsIn K mainGlobals "tuple" = some none)
    (z_list : PySem.W.nsIn K mainGlobals "list" = some none)
    (z_min : PySem.W.nsIn K mainGlobals "min" = some none)
    (z_max : PySem.W.nsIn K mainGlobals "max" = some none)
    (z_reversed : PySem.W.nsIn K mainGlobals "reversed" = some none)
    (z_str : PySem.W.nsIn K mainGlobals "str" = some none)
    (z_ValueError : PySem.W.nsIn K mainGlobals "ValueError" = some none)
    : ∃ fd : FuncData, (∀ (s : Shared) (v : Value), BindsTo s fd ⟨[v], []⟩ [("_law_script", v)]) ∧ ∀ base : Heap, K.In base → base.Ns mainGlobals mg → FnOk l.prog w K mg base CX0 12 fa fd ["_law_script"] (spT K ok_law) := by
  have e := hfa.symm.trans (PySem.W.mg_of X GN a35)
  cases e
  have Z : Blt mg := ⟨PySem.W.mg_none_of X GN z_range, PySem.W.mg_none_of X GN z_len, PySem.W.mg_none_of X GN z_isinstance, PySem.W.mg_none_of X GN z_bool, PySem.W.mg_none_of X GN z_tuple, PySem.W.mg_none_of X GN z_list, PySem.W.mg_none_of X GN z_min, PySem.W.mg_none_of X GN z_max, PySem.W.mg_none_of X GN z_reversed, PySem.W.mg_none_of X GN z_str, PySem.W.mg_none_of X GN z_ValueError⟩
  have K_Left : CF K mg "Left" A_Left := ⟨⟨pg_Left, hd_Left, po_Left, sa_Left⟩, aC_Left, PySem.W.mg_of X GN aC_Left, mk_Left, kc_Left⟩
  have N_Left : CalN0 K mg "Left" := ⟨A_Left, K_Left, in_Left⟩
  have K_Level : CF K mg "Level" A_Level := ⟨⟨pg_Level, hd_Level, po_Level, sa_Level⟩, aC_Level, PySem.W.mg_of X GN aC_Level, mk_Level, kc_Level⟩
  have K_Right : CF K mg "Right" A_Right := ⟨⟨pg_Right, hd_Right, po_Right, sa_Right⟩, aC_Right, PySem.W.mg_of X GN aC_Right, mk_Right, kc_Right⟩
  have N_Right : CalN0 K mg "Right" := ⟨A_Right, K_Right, in_Right⟩
  have K_Upright : CF K mg "Upright" A_Upright := ⟨⟨pg_Upright, hd_Upright, po_Upright, sa_Upright⟩, aC_Upright, PySem.W.mg_of X GN aC_Upright, mk_Upright, kc_Upright⟩
  have n_Level_step : NoAttr K A_Level "step" := na_Level_step
  have n_Upright_ends : NoAttr K A_Upright "ends" := na_Upright_ends
  have XC_LabelError : XC K mg "LabelError" A_LabelError := ⟨xa_LabelError, PySem.W.mg_of X GN xa_LabelError, xe_LabelError, xt_LabelError, xh_LabelError, xp_LabelError⟩
  have XC_NoCell : XC K mg "NoCell" A_NoCell := ⟨xa_NoCell, PySem.W.mg_of X GN xa_NoCell, xe_NoCell, xt_NoCell, xh_NoCell, xp_NoCell⟩
  have XC_NoDeed : XC K mg "NoDeed" A_NoDeed := ⟨xa_NoDeed, PySem.W.mg_of X GN xa_NoDeed, xe_NoDeed, xt_NoDeed, xh_NoDeed, xp_NoDeed⟩
  have XC_NoDrawing : XC K mg "NoDrawing" A_NoDrawing := ⟨xa_NoDrawing, PySem.W.mg_of X GN xa_NoDrawing, xe_NoDrawing, xt_NoDrawing, xh_NoDrawing, xp_NoDrawing⟩
  have XC_NoName : XC K mg "NoName" A_NoName := ⟨xa_NoName, PySem.W.mg_of X GN xa_NoName, xe_NoName, xt_NoName, xh_NoName, xp_NoName⟩
  have XC_NoPlan : XC K mg "NoPlan" A_NoPlan := ⟨xa_NoPlan, PySem.W.mg_of X GN xa_NoPlan, xe_NoPlan, xt_NoPlan, xh_NoPlan, xp_NoPlan⟩
  have XC_NotTwo : XC K mg "NotTwo" A_NotTwo := ⟨xa_NotTwo, PySem.W.mg_of X GN xa_NotTwo, xe_NotTwo, xt_NotTwo, xh_NotTwo, xp_NotTwo⟩
  have XC_TooMany : XC K mg "TooMany" A_TooMany := ⟨xa_TooMany, PySem.W.mg_of X GN xa_TooMany, xe_TooMany, xt_TooMany, xh_TooMany, xp_TooMany⟩
  have XC_Twice : XC K mg "Twice" A_Twice := ⟨xa_Twice, PySem.W.mg_of X GN xa_Twice, xe_Twice, xt_Twice, xh_Twice, xp_Twice⟩
  have XI_NotTwo : XI K A_NotTwo := ⟨xg_NotTwo, xq_NotTwo, xc_NotTwo, is_1, is_2, xm_NotTwo⟩
  have nf_NotTwo_name := xn_NotTwo_name
  have em_NotTwo_LabelError := PySem.W.exm_ref xe_LabelError xh_LabelError xt_LabelError xb_NotTwo_LabelError
  have em_NotTwo_NotTwo := PySem.W.exm_ref xe_NotTwo xh_NotTwo xt_NotTwo xb_NotTwo_NotTwo
  have xk_NotTwo_NoCell := kx_own ne_NotTwo_NoCell xi_NoCell xt_NoCell xr_NotTwo_NoCell
  have xk_NotTwo_NoDeed := kx_own ne_NotTwo_NoDeed xi_NoDeed xt_NoDeed xr_NotTwo_NoDeed
  have xk_NotTwo_NoDrawing := kx_own ne_NotTwo_NoDrawing xi_NoDrawing xt_NoDrawing xr_NotTwo_NoDrawing
  have xk_NotTwo_NoName := kx_own ne_NotTwo_NoName xi_NoName xt_NoName xr_NotTwo_NoName
  have xk_NotTwo_NoPlan := kx_own ne_NotTwo_NoPlan xi_NoPlan xt_NoPlan xr_NotTwo_NoPlan
  have xk_NotTwo_NotTwo := kx_self (K := K) (C := A_NotTwo)
  have xk_NotTwo_TooMany := kx_own ne_NotTwo_TooMany xi_TooMany xt_TooMany xr_NotTwo_TooMany
  have xk_NotTwo_Twice := kx_own ne_NotTwo_Twice xi_Twice xt_Twice xr_NotTwo_Twice
  have xk_NotTwo_ValueError := kx_blt (T := "ValueError") (by decide +kernel) xv_NotTwo
  have F0 := fun_mk (st := s_Right_box) l0 c0 k0
  have b0 := F0.binds (ps := ["self", "x", "y", "size"]) fun _ _ _ _ _ _ us hl => match us, hl with | [_, _, _, _], _ => rfl
  have F1 := fun_mk (st := s_Left_box) l1 c1 k1
  have b1 := F1.binds (ps := ["self", "x", "y", "size"]) fun _ _ _ _ _ _ us hl => match us, hl with | [_, _, _, _], _ => rfl
  have F2 := fun_mk (st := s_Level___init__) l2 c2 k2
  have b2 := F2.binds (ps := ["self", "step"]) fun _ _ _ _ _ _ us hl => match us, hl with | [_, _], _ => rfl
  have F3 := fun_mk (st := s_Level_box) l3 c3 k3
  have b3 := F3.binds (ps := ["self", "x", "y", "size"]) fun _ _ _ _ _ _ us hl => match us, hl with | [_, _, _, _], _ => rfl
  have F4 := fun_mk (st := s_Upright___init__) l4 c4 k4
  have b4 := F4.binds (ps := ["self", "ends"]) fun _ _ _ _ _ _ us hl => match us, hl with | [_, _], _ => rfl
  have F5 := fun_mk (st := s_Upright_box) l5 c5 k5
  have b5 := F5.binds (ps := ["self", "x", "y", "size"]) fun _ _ _ _ _ _ us hl => match us, hl with | [_, _, _, _], _ => rfl
  have F6 := fun_mk (st := s_way_of) l6 c6 k6
  have b6 := F6.binds (ps := ["word"]) fun _ _ _ _ _ _ us hl => match us, hl with | [_], _ => rfl
  have F7 := fun_mk (st := s_box_at) l7 c7 k7
  have b7 := F7.binds (ps := ["way", "x", "y", "size"]) fun _ _ _ _ _ _ us hl => match us, hl with | [_, _, _, _], _ => rfl
  have F8 := fun_mk (st := s_cells_of) l8 c8 k8
  have b8 := F8.binds (ps := ["box"]) fun _ _ _ _ _ _ us hl => match us, hl with | [_], _ => rfl
  have F9 := fun_mk (st := s_bits) l9 c9 k9
  have b9 := F9.binds (ps := ["box", "wide"]) fun _ _ _ _ _ _ us hl => match us, hl with | [_, _], _ => rfl
  have F10 := fun_mk (st := s_lies_in) l10 c10 k10
  have b10 := F10.binds (ps := ["box", "wide", "high"]) fun _ _ _ _ _ _ us hl => match us, hl with | [_, _, _], _ => rfl
  have F11 := fun_mk (st := s_meet) l11 c11 k11
  have b11 := F11.binds (ps := ["one", "other"]) fun _ _ _ _ _ _ us hl => match us, hl with | [_, _], _ => rfl
  have F12 := fun_mk (st := s_point_of) l12 c12 k12
  have b12 := F12.binds (ps := ["plan", "name"]) fun _ _ _ _ _ _ us hl => match us, hl with | [_, _], _ => rfl
  have F13 := fun_mk (st := s_placed) l13 c13 k13
  have b13 := F13.binds (ps := ["point", "place"]) fun _ _ _ _ _ _ us hl => match us, hl with | [_, _], _ => rfl
  have F14 := fun_mk (st := s_box_of) l14 c14 k14
  have b14 := F14.binds (ps := ["plan", "name", "place"]) fun _ _ _ _ _ _ us hl => match us, hl with | [_, _, _], _ => rfl
  have F15 := fun_mk (st := s_shut_bits) l15 c15 k15
  have b15 := F15.binds (ps := ["plan"]) fun _ _ _ _ _ _ us hl => match us, hl with | [_], _ => rfl
  have F16 := fun_mk (st := s_open_bits) l16 c16 k16
  have b16 := F16.binds (ps := ["plan", "point", "shut"]) fun _ _ _ _ _ _ us hl => match us, hl with | [_, _, _], _ => rfl
  have F17 := fun_mk (st := s_open_places) l17 c17 k17
  have b17 := F17.binds (ps := ["plan", "name"]) fun _ _ _ _ _ _ us hl => match us, hl with | [_, _], _ => rfl
  have F18 := fun_mk (st := s_NotTwo___init__) l18 c18 k18
  have b18 := F18.binds (ps := ["self", "name"]) fun _ _ _ _ _ _ us hl => match us, hl with | [_, _], _ => rfl
  have F19 := fun_mk (st := s_need_two) l19 c19 k19
  have b19 := F19.binds (ps := ["plan"]) fun _ _ _ _ _ _ us hl => match us, hl with | [_], _ => rfl
  have F20 := fun_mk (st := s_open_boxes) l20 c20 k20
  have b20 := F20.binds (ps := ["plan"]) fun _ _ _ _ _ _ us hl => match us, hl with | [_], _ => rfl
  have F21 := fun_mk (st := s_followed) l21 c21 k21
  have b21 := F21.binds (ps := ["boxes", "room"]) fun _ _ _ _ _ _ us hl => match us, hl with | [_, _], _ => rfl
  have F22 := fun_mk (st := s_follow) l22 c22 k22
  have b22 := F22.binds (ps := ["plan", "name", "place"]) fun _ _ _ _ _ _ us hl => match us, hl with | [_, _, _], _ => rfl
  have F23 := fun_mk (st := s_table_of) l23 c23 k23
  have b23 := F23.binds (ps := ["plan"]) fun _ _ _ _ _ _ us hl => match us, hl with | [_], _ => rfl
  have F24 := fun_mk (st := s_come_to) l24 c24 k24
  have b24 := F24.binds (ps := ["table", "begin"]) fun _ _ _ _ _ _ us hl => match us, hl with | [_, _], _ => rfl
  have F25 := fun_mk (st := s_traced) l25 c25 k25
  have b25 := F25.binds (ps := ["came", "room"]) fun _ _ _ _ _ _ us hl => match us, hl with | [_, _], _ => rfl
  have F26 := fun_mk (st := s_chain_of) l26 c26 k26
  have b26 := F26.binds (ps := ["table", "name"]) fun _ _ _ _ _ _ us hl => match us, hl with | [_, _], _ => rfl
  have F27 := fun_mk (st := s_all_set) l27 c27 k27
  have b27 := F27.binds (ps := ["plan"]) fun _ _ _ _ _ _ us hl => match us, hl with | [_], _ => rfl
  have F28 := fun_mk (st := s_l_number) l28 c28 k28
  have b28 := F28.binds (ps := ["_law_script", "_law_k"]) fun _ _ _ _ _ _ us hl => match us, hl with | [_, _], _ => rfl
  have F29 := fun_mk (st := s_l_names) l29 c29 k29
  have b29 := F29.binds (ps := ["_law_number_here", "_law_many"]) fun _ _ _ _ _ _ us hl => match us, hl with | [_, _], _ => rfl
  have F30 := fun_mk (st := s_l_places) l30 c30 k30
  have b30 := F30.binds (ps := ["_law_number_here", "_law_many"]) fun _ _ _ _ _ _ us hl => match us, hl with | [_, _], _ => rfl
  have F31 := fun_mk (st := s_l_kept) l31 c31 k31
  have b31 := F31.binds (ps := ["_law_number_here", "_law_wide", "_law_high"]) fun _ _ _ _ _ _ us hl => match us, hl with | [_, _, _], _ => rfl
  have F32 := fun_mk (st := s_l_plan) l32 c32 k32
  have b32 := F32.binds (ps := ["_law_script", "_law_first", "_law_most"]) fun _ _ _ _ _ _ us hl => match us, hl with | [_, _, _], _ => rfl
  have F33 := fun_mk (st := s_l_other) l33 c33 k33
  have b33 := F33.binds (ps := ["_law_points", "_law_number_here"]) fun _ _ _ _ _ _ us hl => match us, hl with | [_, _], _ => rfl
  have F34 := fun_mk (st := s_l_refused) l34 c34 k34
  have b34 := F34.binds (ps := ["_law_plan_here", "_law_name", "_law_ask_all"]) fun _ _ _ _ _ _ us hl => match us, hl with | [_, _, _], _ => rfl
  have F35 := fun_mk (st := s_law) l35 c35 k35
  refine ⟨PySem.W.fnOf "law" "law" (defArgs s_law) (defBody s_law) (defScope s_law) .none kV35 dc35 pm35 an35 cd35 ct35, fun s v => .of_eq rfl, fun base _ _ => ?_⟩
  have M_Right_box : Calm l.prog w K mg base 1 A_Right "box" ok_Right_box := ⟨f0, _, _, fn_Right_box Z F0 , ⟨a0, i0, k0⟩, b0⟩
  have M_Left_box : Calm l.prog w K mg base 1 A_Left "box" ok_Left_box := ⟨f1, _, _, fn_Left_box Z F1 , ⟨a1, i1, k1⟩, b1⟩
  have N_Level : CalN1 l.prog w K mg base 1 "Level" "step" := ⟨A_Level, f2, _, _, K_Level, a2, i2, fn_init1 F2 sc_Level___init__ K_Level.cls n_Level_step rfl (by decide) (by decide) (by decide) (by decide) (by intro _; rfl), b2⟩
  have M_Level_box : Calm l.prog w K mg base 1 A_Level "box" ok_Level_box := ⟨f3, _, _, fn_Level_box Z F3 K_Level n_Level_step, ⟨a3, i3, k3⟩, b3⟩
  have N_Upright : CalN1 l.prog w K mg base 1 "Upright" "ends" := ⟨A_Upright, f4, _, _, K_Upright, a4, i4, fn_init1 F4 sc_Upright___init__ K_Upright.cls n_Upright_ends rfl (by decide) (by decide) (by decide) (by decide) (by intro _; rfl), b4⟩
  have M_Upright_box : Calm l.prog w K mg base 1 A_Upright "box" ok_Upright_box := ⟨f5, _, _, fn_Upright_box Z F5 K_Upright n_Upright_ends, ⟨a5, i5, k5⟩, b5⟩
  have C_way_of : Cal l.prog w K mg base 3 "way_of" ok_way_of := ⟨f6, _, _, fn_way_of Z F6 N_Left N_Level N_Right N_Upright, PySem.W.mg_of X GN a6, k6, b6⟩
  have C_box_at : Cal l.prog w K mg base 4 "box_at" ok_box_at := ⟨f7, _, _, fn_box_at Z F7 K_Left K_Level K_Right K_Upright M_Left_box M_Level_box M_Right_box M_Upright_box C_way_of, PySem.W.mg_of X GN a7, k7, b7⟩
  have C_cells_of : Cal l.prog w K mg base 1 "cells_of" ok_cells_of := ⟨f8, _, _, fn_cells_of Z F8 , PySem.W.mg_of X GN a8, k8, b8⟩
  have C_bits : Cal l.prog w K mg base 2 "bits" ok_bits := ⟨f9, _, _, fn_bits Z F9 C_cells_of, PySem.W.mg_of X GN a9, k9, b9⟩
  have C_lies_in : Cal l.prog w K mg base 1 "lies_in" ok_lies_in := ⟨f10, _, _, fn_lies_in Z F10 , PySem.W.mg_of X GN a10, k10, b10⟩
  have C_meet : Cal l.prog w K mg base 1 "meet" ok_meet := ⟨f11, _, _, fn_meet Z F11 , PySem.W.mg_of X GN a11, k11, b11⟩
  have C_point_of : Cal l.prog w K mg base 1 "point_of" ok_point_of := ⟨f12, _, _, fn_point_of Z F12 , PySem.W.mg_of X GN a12, k12, b12⟩
  have C_placed : Cal l.prog w K mg base 5 "placed" ok_placed := ⟨f13, _, _, fn_placed Z F13 C_box_at, PySem.W.mg_of X GN a13, k13, b13⟩
  have C_box_of : Cal l.prog w K mg base 6 "box_of" ok_box_of := ⟨f14, _, _, fn_box_of Z F14 C_point_of C_placed, PySem.W.mg_of X GN a14, k14, b14⟩
  have C_shut_bits : Cal l.prog w K mg base 3 "shut_bits" ok_shut_bits := ⟨f15, _, _, fn_shut_bits Z F15 C_bits, PySem.W.mg_of X GN a15, k15, b15⟩
  have C_open_bits : Cal l.prog w K mg base 6 "open_bits" ok_open_bits := ⟨f16, _, _, fn_open_bits Z F16 C_lies_in C_bits C_placed, PySem.W.mg_of X GN a16, k16, b16⟩
  have C_open_places : Cal l.prog w K mg base 7 "open_places" ok_open_places := ⟨f17, _, _, fn_open_places Z F17 C_point_of C_shut_bits C_open_bits, PySem.W.mg_of X GN a17, k17, b17⟩
  have O_NotTwo : OexC K A_NotTwo := ⟨⟨_, _, _, _, _, _, _, _, _, _, _, _, _, _, _, xL_NotTwo, rfl⟩, xs_NotTwo, xe_NotTwo, xt_NotTwo, xp_NotTwo⟩
  have X1_NotTwo : X1 l.prog w K mg base A_NotTwo "name" := ⟨f18, _, _, O_NotTwo, nf_NotTwo_name, a18, t18, fn_initX F18 sc_NotTwo___init__ rfl (by decide) (by decide) (by decide) (by decide) (by intro _; rfl), b18⟩
  have C_need_two : CalG l.prog w K mg base 3 "need_two" ok_need_two := ⟨f19, _, _, fn_need_two Z F19 XC_NotTwo X1_NotTwo, PySem.W.mg_of X GN a19, k19, b19⟩
  have C_open_boxes : Cal l.prog w K mg base 8 "open_boxes" ok_open_boxes := ⟨f20, _, _, fn_open_boxes Z F20 C_box_of C_open_places, PySem.W.mg_of X GN a20, k20, b20⟩
  have C_followed : Cal l.prog w K mg base 2 "followed" ok_followed := ⟨f21, _, _, fn_followed Z F21 C_meet, PySem.W.mg_of X GN a21, k21, b21⟩
  have C_follow : CalG l.prog w K mg base 9 "follow" ok_follow := ⟨f22, _, _, fn_follow Z F22 C_need_two C_open_boxes C_followed, PySem.W.mg_of X GN a22, k22, b22⟩
  have C_table_of : Cal l.prog w K mg base 9 "table_of" ok_table_of := ⟨f23, _, _, fn_table_of Z F23 C_open_boxes C_followed, PySem.W.mg_of X GN a23, k23, b23⟩
  have C_come_to : Cal l.prog w K mg base 1 "come_to" ok_come_to := ⟨f24, _, _, fn_come_to Z F24 , PySem.W.mg_of X GN a24, k24, b24⟩
  have C_traced : Cal l.prog w K mg base 1 "traced" ok_traced := ⟨f25, _, _, fn_traced Z F25 , PySem.W.mg_of X GN a25, k25, b25⟩
  have C_chain_of : Cal l.prog w K mg base 2 "chain_of" ok_chain_of := ⟨f26, _, _, fn_chain_of Z F26 C_come_to C_traced, PySem.W.mg_of X GN a26, k26, b26⟩
  have C_all_set : CalG l.prog w K mg base 10 "all_set" ok_all_set := ⟨f27, _, _, fn_all_set Z F27 C_need_two C_table_of C_come_to C_chain_of, PySem.W.mg_of X GN a27, k27, b27⟩
  have C_l_number : Cal l.prog w K mg base 1 "_law_number" ok_l_number := ⟨f28, _, _, fn_l_number Z F28 , PySem.W.mg_of X GN a28, k28, b28⟩
  have C_l_names : Cal l.prog w K mg base 1 "_law_names" ok_l_names := ⟨f29, _, _, fn_l_names Z F29 , PySem.W.mg_of X GN a29, k29, b29⟩
  have C_l_places : Cal l.prog w K mg base 1 "_law_places" ok_l_places := ⟨f30, _, _, fn_l_places Z F30 , PySem.W.mg_of X GN a30, k30, b30⟩
  have C_l_kept : Cal l.prog w K mg base 1 "_law_kept" ok_l_kept := ⟨f31, _, _, fn_l_kept Z F31 , PySem.W.mg_of X GN a31, k31, b31⟩
  have C_l_plan : Cal l.prog w K mg base 2 "_law_plan" ok_l_plan := ⟨f32, _, _, fn_l_plan Z F32 C_l_number C_l_names C_l_places C_l_kept, PySem.W.mg_of X GN a32, k32, b32⟩
  have C_l_other : Cal l.prog w K mg base 2 "_law_other" ok_l_other := ⟨f33, _, _, fn_l_other Z F33 C_l_places, PySem.W.mg_of X GN a33, k33, b33⟩
  have C_l_refused : Cal l.prog w K mg base 11 "_law_refused" ok_l_refused := ⟨f34, _, _, fn_l_refused Z F34 XC_LabelError XC_NoCell XC_NoDeed XC_NoDrawing XC_NoName XC_NoPlan XC_NotTwo XC_TooMany XC_Twice XI_NotTwo nf_NotTwo_name em_NotTwo_LabelError em_NotTwo_NotTwo xk_NotTwo_NoCell xk_NotTwo_NoDeed xk_NotTwo_NoDrawing xk_NotTwo_NoName xk_NotTwo_NoPlan xk_NotTwo_NotTwo xk_NotTwo_TooMany xk_NotTwo_Twice xk_NotTwo_ValueError C_follow C_all_set, PySem.W.mg_of X GN a34, k34, b34⟩
  exact fn_law (P := l.prog) (w := w) (base := base) Z F35 C_all_set C_l_number C_l_plan C_l_other C_l_refused
theorem law_sp {K : PySem.W.Frag} {H : Hp} {a : Addr} {ns : List Int} (hS : SqL K H a (ns.map V.int)) (hl : ns.length ≤ 63) : spT K ok_law [.ref a] H (fun v _ => v = .bl true) fun _ _ _ => False :=
  ⟨H, [.sh (Scr.mk ns)], .sh true, Same.refl H, .cons ⟨a, rfl, hS⟩ .nil, ⟨⟨ns⟩, rfl, rfl, hl⟩, fun _ _ _ _ h => h⟩
end My
open PySem PySem.W PyProof.Rows
set_option maxRecDepth 100000 in
set_option maxHeartbeats 0 in
theorem PySem.Challenge.cw_labelplace_k33_not_two_holds : PySem.Challenge.rw_labelplace_k33_not_two.Holds := by
  w_on; o_law; k_head; (case hw => w_witness2)
  k_fill
  refine L2.walk_ofK (l := PySem.Challenge.rw_labelplace_k33_not_two) (n := 63) (k := 12) (x := "_law_script") (CX := L2.CX0) (sp := fun K => Ly.spT K My.ok_law) rfl (by decide) rfl ⟨rfl, by decide, by decide⟩ (fun w h Y => PySem.W.kIn_of Y) ?F (fun _ H a ns hl _ hS => My.law_sp hS hl) (fun _ _ _ _ h => h)
  case F =>
    intro w mg fa h KX G hmg
    refine' My.all_mk KX G hmg ?aC_Left ?pg_Left ?hd_Left ?po_Left ?sa_Left ?mk_Left ?kc_Left ?in_Left ?aC_Level ?pg_Level ?hd_Level ?po_Level ?sa_Level ?mk_Level ?kc_Level ?aC_Right ?pg_Right ?hd_Right ?po_Right ?sa_Right ?mk_Right ?kc_Right ?in_Right ?aC_Upright ?pg_Upright ?hd_Upright ?po_Upright ?sa_Upright ?mk_Upright ?kc_Upright ?xa_LabelError ?xe_LabelError ?xt_LabelError ?xh_LabelError ?xp_LabelError ?xa_NoCell ?xe_NoCell ?xt_NoCell ?xh_NoCell ?xp_NoCell ?xa_NoDeed ?xe_NoDeed ?xt_NoDeed ?xh_NoDeed ?xp_NoDeed ?xa_NoDrawing ?xe_NoDrawing ?xt_NoDrawing ?xh_NoDrawing ?xp_NoDrawing ?xa_NoName ?xe_NoName ?xt_NoName ?xh_NoName ?xp_NoName ?xa_NoPlan ?xe_NoPlan ?xt_NoPlan ?xh_NoPlan ?xp_NoPlan ?xa_NotTwo ?xe_NotTwo ?xt_NotTwo ?xh_NotTwo ?xp_NotTwo ?xa_TooMany ?xe_TooMany ?xt_TooMany ?xh_TooMany ?xp_TooMany ?xa_Twice ?xe_Twice ?xt_Twice ?xh_Twice ?xp_Twice ?is_1 ?is_2 ?xg_NotTwo ?xq_NotTwo ?xc_NotTwo ?xm_NotTwo ?xn_NotTwo_name ?xL_NotTwo ?xs_NotTwo ?xb_NotTwo_LabelError ?xb_NotTwo_NotTwo ?ne_NotTwo_NoCell ?xr_NotTwo_NoCell ?ne_NotTwo_NoDeed ?xr_NotTwo_NoDeed ?ne_NotTwo_NoDrawing ?xr_NotTwo_NoDrawing ?ne_NotTwo_NoName ?xr_NotTwo_NoName ?ne_NotTwo_NoPlan ?xr_NotTwo_NoPlan ?ne_NotTwo_TooMany ?xr_NotTwo_TooMany ?ne_NotTwo_Twice ?xr_NotTwo_Twice ?xv_NotTwo ?xi_NoCell ?xi_NoDeed ?xi_NoDrawing ?xi_NoName ?xi_NoPlan ?xi_TooMany ?xi_Twice ?na_Level_step ?na_Upright_ends ?a0 ?i0 ?l0 ?c0 ?k0 ?a1 ?i1 ?l1 ?c1 ?k1 ?a2 ?i2 ?l2 ?c2 ?k2 ?a3 ?i3 ?l3 ?c3 ?k3 ?a4 ?i4 ?l4 ?c4 ?k4 ?a5 ?i5 ?l5 ?c5 ?k5 ?a6 ?l6 ?c6 ?k6 ?a7 ?l7 ?c7 ?k7 ?a8 ?l8 ?c8 ?k8 ?a9 ?l9 ?c9 ?k9 ?a10 ?l10 ?c10 ?k10 ?a11 ?l11 ?c11 ?k11 ?a12 ?l12 ?c12 ?k12 ?a13 ?l13 ?c13 ?k13 ?a14 ?l14 ?c14 ?k14 ?a15 ?l15 ?c15 ?k15 ?a16 ?l16 ?c16 ?k16 ?a17 ?l17 ?c17 ?k17 ?a18 ?i18 ?t18 ?l18 ?c18 ?k18 ?a19 ?l19 ?c19 ?k19 ?a20 ?l20 ?c20 ?k20 ?a21 ?l21 ?c21 ?k21 ?a22 ?l22 ?c22 ?k22 ?a23 ?l23 ?c23 ?k23 ?a24 ?l24 ?c24 ?k24 ?a25 ?l25 ?c25 ?k25 ?a26 ?l26 ?c26 ?k26 ?a27 ?l27 ?c27 ?k27 ?a28 ?l28 ?c28 ?k28 ?a29 ?l29 ?c29 ?k29 ?a30 ?l30 ?c30 ?k30 ?a31 ?l31 ?c31 ?k31 ?a32 ?l32 ?c32 ?k32 ?a33 ?l33 ?c33 ?k33 ?a34 ?l34 ?c34 ?k34 ?a35 ?l35 ?c35 ?k35 ?z_range ?z_len ?z_isinstance ?z_bool ?z_tuple ?z_list ?z_min ?z_max ?z_reversed ?z_str ?z_ValueError
    (case aC_Left => k_is)
    (case pg_Left => k_is)
    (case hd_Left => k_is)
    (case po_Left => k_is)
    (case sa_Left => k_is)
    (case mk_Left => k_is)
    (case kc_Left => k_is)
    (case in_Left => k_is)
    (case aC_Level => k_is)
    (case pg_Level => k_is)
    (case hd_Level => k_is)
    (case po_Level => k_is)
    (case sa_Level => k_is)
    (case mk_Level => k_is)
    (case kc_Level => k_is)
    (case aC_Right => k_is)
    (case pg_Right => k_is)
    (case hd_Right => k_is)
    (case po_Right => k_is)
    (case sa_Right => k_is)
    (case mk_Right => k_is)
    (case kc_Right => k_is)
    (case in_Right => k_is)
    (case aC_Upright => k_is)
    (case pg_Upright => k_is)
    (case hd_Upright => k_is)
    (case po_Upright => k_is)
    (case sa_Upright => k_is)
    (case mk_Upright => k_is)
    (case kc_Upright => k_is)
    (case xa_LabelError => k_is)
    (case xe_LabelError => k_is)
    (case xt_LabelError => k_is)
    (case xh_LabelError => k_is)
    (case xp_LabelError => k_is)
    (case xa_NoCell => k_is)
    (case xe_NoCell => k_is)
    (case xt_NoCell => k_is)
    (case xh_NoCell => k_is)
    (case xp_NoCell => k_is)
    (case xa_NoDeed => k_is)
    (case xe_NoDeed => k_is)
    (case xt_NoDeed => k_is)
    (case xh_NoDeed => k_is)
    (case xp_NoDeed => k_is)
    (case xa_NoDrawing => k_is)
    (case xe_NoDrawing => k_is)
    (case xt_NoDrawing => k_is)
    (case xh_NoDrawing => k_is)
    (case xp_NoDrawing => k_is)
    (case xa_NoName => k_is)
    (case xe_NoName => k_is)
    (case xt_NoName => k_is)
    (case xh_NoName => k_is)
    (case xp_NoName => k_is)
    (case xa_NoPlan => k_is)
    (case xe_NoPlan => k_is)
    (case xt_NoPlan => k_is)
    (case xh_NoPlan => k_is)
    (case xp_NoPlan => k_is)
    (case xa_NotTwo => k_is)
    (case xe_NotTwo => k_is)
    (case xt_NotTwo => k_is)
    (case xh_NotTwo => k_is)
    (case xp_NotTwo => k_is)
    (case xa_TooMany => k_is)
    (case xe_TooMany => k_is)
    (case xt_TooMany => k_is)
    (case xh_TooMany => k_is)
    (case xp_TooMany => k_is)
    (case xa_Twice => k_is)
    (case xe_Twice => k_is)
    (case xt_Twice => k_is)
    (case xh_Twice => k_is)
    (case xp_Twice => k_is)
    (case is_1 => k_is)
    (case is_2 => k_is)
    (case xg_NotTwo => k_is)
    (case xq_NotTwo => k_is)
    (case xc_NotTwo => k_is)
    (case xm_NotTwo => k_is)
    (case xn_NotTwo_name => k_is)
    (case xL_NotTwo => k_is)
    (case xs_NotTwo => k_is)
    (case xb_NotTwo_LabelError => (first | rfl | k_is))
    (case xb_NotTwo_NotTwo => (first | rfl | k_is))
    (case ne_NotTwo_NoCell => decide)
    (case xr_NotTwo_NoCell => k_is)
    (case ne_NotTwo_NoDeed => decide)
    (case xr_NotTwo_NoDeed => k_is)
    (case ne_NotTwo_NoDrawing => decide)
    (case xr_NotTwo_NoDrawing => k_is)
    (case ne_NotTwo_NoName => decide)
    (case xr_NotTwo_NoName => k_is)
    (case ne_NotTwo_NoPlan => decide)
    (case xr_NotTwo_NoPlan => k_is)
    (case ne_NotTwo_TooMany => decide)
    (case xr_NotTwo_TooMany => k_is)
    (case ne_NotTwo_Twice => decide)
    (case xr_NotTwo_Twice => k_is)
    (case xv_NotTwo => k_is)
    (case xi_NoCell => k_is)
    (case xi_NoDeed => k_is)
    (case xi_NoDrawing => k_is)
    (case xi_NoName => k_is)
    (case xi_NoPlan => k_is)
    (case xi_TooMany => k_is)
    (case xi_Twice => k_is)
    (case na_Level_step => k_is)
    (case na_Upright_ends => k_is)
    (case a0 => k_is)
    (case i0 => k_is)
    (case l0 => k_is)
    (case c0 => k_is)
    (case k0 => k_is)
    (case a1 => k_is)
    (case i1 => k_is)
    (case l1 => k_is)
    (case c1 => k_is)
    (case k1 => k_is)
    (case a2 => k_is)
    (case i2 => k_is)
    (case l2 => k_is)
    (case c2 => k_is)
    (case k2 => k_is)
    (case a3 => k_is)
    (case i3 => k_is)
    (case l3 => k_is)
    (case c3 => k_is)
    (case k3 => k_is)
    (case a4 => k_is)
    (case i4 => k_is)
    (case l4 => k_is)
    (case c4 => k_is)
    (case k4 => k_is)
    (case a5 => k_is)
    (case i5 => k_is)
    (case l5 => k_is)
    (case c5 => k_is)
    (case k5 => k_is)
    (case a6 => k_is)
    (case l6 => k_is)
    (case c6 => k_is)
    (case k6 => k_is)
    (case a7 => k_is)
    (case l7 => k_is)
    (case c7 => k_is)
    (case k7 => k_is)
    (case a8 => k_is)
    (case l8 => k_is)
    (case c8 => k_is)
    (case k8 => k_is)
    (case a9 => k_is)
    (case l9 => k_is)
    (case c9 => k_is)
    (case k9 => k_is)
    (case a10 => k_is)
    (case l10 => k_is)
    (case c10 => k_is)
    (case k10 => k_is)
    (case a11 => k_is)
    (case l11 => k_is)
    (case c11 => k_is)
    (case k11 => k_is)
    (case a12 => k_is)
    (case l12 => k_is)
    (case c12 => k_is)
    (case k12 => k_is)
    (case a13 => k_is)
    (case l13 => k_is)
    (case c13 => k_is)
    (case k13 => k_is)
    (case a14 => k_is)
    (case l14 => k_is)
    (case c14 => k_is)
    (case k14 => k_is)
    (case a15 => k_is)
    (case l15 => k_is)
    (case c15 => k_is)
    (case k15 => k_is)
    (case a16 => k_is)
    (case l16 => k_is)
    (case c16 => k_is)
    (case k16 => k_is)
    (case a17 => k_is)
    (case l17 => k_is)
    (case c17 => k_is)
    (case k17 => k_is)
    (case a18 => k_is)
    (case i18 => k_is)
    (case t18 => k_is)
    (case l18 => k_is)
    (case c18 => k_is)
    (case k18 => k_is)
    (case a19 => k_is)
    (case l19 => k_is)
    (case c19 => k_is)
    (case k19 => k_is)
    (case a20 => k_is)
    (case l20 => k_is)
    (case c20 => k_is)
    (case k20 => k_is)
    (case a21 => k_is)
    (case l21 => k_is)
    (case c21 => k_is)
    (case k21 => k_is)
    (case a22 => k_is)
    (case l22 => k_is)
    (case c22 => k_is)
    (case k22 => k_is)
    (case a23 => k_is)
    (case l23 => k_is)
    (case c23 => k_is)
    (case k23 => k_is)
    (case a24 => k_is)
    (case l24 => k_is)
    (case c24 => k_is)
    (case k24 => k_is)
    (case a25 => k_is)
    (case l25 => k_is)
    (case c25 => k_is)
    (case k25 => k_is)
    (case a26 => k_is)
    (case l26 => k_is)
    (case c26 => k_is)
    (case k26 => k_is)
    (case a27 => k_is)
    (case l27 => k_is)
    (case c27 => k_is)
    (case k27 => k_is)
    (case a28 => k_is)
    (case l28 => k_is)
    (case c28 => k_is)
    (case k28 => k_is)
    (case a29 => k_is)
    (case l29 => k_is)
    (case c29 => k_is)
    (case k29 => k_is)
    (case a30 => k_is)
    (case l30 => k_is)
    (case c30 => k_is)
    (case k30 => k_is)
    (case a31 => k_is)
    (case l31 => k_is)
    (case c31 => k_is)
    (case k31 => k_is)
    (case a32 => k_is)
    (case l32 => k_is)
    (case c32 => k_is)
    (case k32 => k_is)
    (case a33 => k_is)
    (case l33 => k_is)
    (case c33 => k_is)
    (case k33 => k_is)
    (case a34 => k_is)
    (case l34 => k_is)
    (case c34 => k_is)
    (case k34 => k_is)
    (case a35 => k_is)
    (case l35 => k_is)
    (case c35 => k_is)
    (case k35 => k_is)
    (case z_range => k_is)
    (case z_len => k_is)
    (case z_isinstance => k_is)
    (case z_bool => k_is)
    (case z_tuple => k_is)
    (case z_list => k_is)
    (case z_min => k_is)
    (case z_max => k_is)
    (case z_reversed => k_is)
    (case z_str => k_is)
    (case z_ValueError => k_is)
