import PyProof.Rows.All
import Wide.All
import OpenK.AllK
import Wide.FinOn
import HandS.ForMost
import HandS.IsInst
import HandS.Wide
import HandS.Deep
import PySem.Challenge.RW_labelplace_k06_ways
set_option Elab.async false
set_option linter.all false
set_option maxRecDepth 100000
set_option maxHeartbeats 4000000
namespace Ly
open PySem PySem.Spec PyProof.Rows L2

/-! ### heaps up to a lock on a dict -/
def nrm : HO → HO
  | .frz _ (.dK kvs) => .dK kvs
  | .frz _ (.dT kvs) => .dT kvs
  | o => o
/-- all that stands, up to locks, stands -/
def Le (B B' : Hp) : Prop := ∀ a o, B a = some o → ∃ o', B' a = some o' ∧ nrm o' = nrm o
theorem Le.refl (B : Hp) : Le B B := fun _ o h => ⟨o, h, rfl⟩
theorem Le.trans {A B C : Hp} (h : Le A B) (k : Le B C) : Le A C := fun a o e => by
  obtain ⟨o1, e1, n1⟩ := h a o e
  obtain ⟨o2, e2, n2⟩ := k a o1 e1
  exact ⟨o2, e2, n2.trans n1⟩
theorem Le.of {B B' : Hp} (h : Same B B') : Le B B' := fun a o e => ⟨o, h a o e, rfl⟩
theorem nrm_tup {o : HO} {xs : List V} (h : nrm o = .tup xs) : o = .tup xs := by
  cases o with
  | frz ob u => cases u <;> simp [nrm] at h
  | _ => simpa [nrm] using h
theorem nrm_lst {o : HO} {xs : List V} (h : nrm o = .lst xs) : o = .lst xs := by
  cases o with
  | frz ob u => cases u <;> simp [nrm] at h
  | _ => simpa [nrm] using h
theorem nrm_ins {o : HO} {C dx : Addr} {fs : List (Str × V)} (h : nrm o = .ins C dx fs) : o = .ins C dx fs := by
  cases o with
  | frz ob u => cases u <;> simp [nrm] at h
  | _ => simpa [nrm] using h
theorem Le.tup {B B' : Hp} (h : Le B B') {a : Addr} {xs : List V} (e : B a = some (.tup xs)) : B' a = some (.tup xs) := by
  obtain ⟨o, e1, n⟩ := h a _ e
  rw [e1, nrm_tup (show nrm o = .tup xs from n)]
theorem Le.lst {B B' : Hp} (h : Le B B') {a : Addr} {xs : List V} (e : B a = some (.lst xs)) : B' a = some (.lst xs) := by
  obtain ⟨o, e1, n⟩ := h a _ e
  rw [e1, nrm_lst (show nrm o = .lst xs from n)]
theorem Le.ins {B B' : Hp} (h : Le B B') {a C dx : Addr} {fs : List (Str × V)} (e : B a = some (.ins C dx fs)) : B' a = some (.ins C dx fs) := by
  obtain ⟨o, e1, n⟩ := h a _ e
  rw [e1, nrm_ins (show nrm o = .ins C dx fs from n)]
/-- the frozen script (a locked list) -/
theorem Le.rl {B B' : Hp} (h : Le B B') {a : Addr} {xs : List V} (e : Rd B a (.lst xs)) : Rd B' a (.lst xs) := by
  rcases e with e | ⟨ob, e⟩
  · exact .inl (h.lst e)
  · obtain ⟨o', e1, n1⟩ := h a _ e
    have n1 : nrm o' = .frz ob (.lst xs) := n1
    cases o' with
    | frz o2 u => cases u <;> simp [nrm] at n1; exact .inr ⟨o2, by rw [e1, n1.2]⟩
    | _ => simp [nrm] at n1
/-- what stands at a, up to a lock -/
def Rn (B : Hp) (a : Addr) (o : HO) : Prop := ∃ o', B a = some o' ∧ nrm o' = nrm o
theorem Rn.of {B : Hp} {a : Addr} {o : HO} (h : B a = some o) : Rn B a o := ⟨o, h, rfl⟩
theorem Rn.le {B B' : Hp} {a : Addr} {o : HO} (l : Le B B') (h : Rn B a o) : Rn B' a o := by
  obtain ⟨o1, e, n⟩ := h
  obtain ⟨o2, e2, n2⟩ := l a o1 e
  exact ⟨o2, e2, n2.trans n⟩
theorem Rn.lst {B : Hp} {a : Addr} {xs : List V} (h : Rn B a (.lst xs)) : B a = some (.lst xs) := by
  obtain ⟨o, e, n⟩ := h
  rw [e, nrm_lst (show nrm o = .lst xs from n)]
theorem Rn.dK {B : Hp} {a : Addr} {kvs : List (Key × V)} (h : Rn B a (.dK kvs)) : Rd B a (.dK kvs) := by
  obtain ⟨o, e, n⟩ := h
  have n : nrm o = .dK kvs := n
  cases o with
  | dK l => exact .inl (by rw [e]; simpa [nrm] using n)
  | frz ob u => cases u <;> simp [nrm] at n; exact .inr ⟨ob, by rw [e, n]⟩
  | _ => simp [nrm] at n
theorem Rn.dT {B : Hp} {a : Addr} {kvs : List (List Key × V)} (h : Rn B a (.dT kvs)) : Rd B a (.dT kvs) := by
  obtain ⟨o, e, n⟩ := h
  have n : nrm o = .dT kvs := n
  cases o with
  | dT l => exact .inl (by rw [e]; simpa [nrm] using n)
  | frz ob u => cases u <;> simp [nrm] at n; exact .inr ⟨ob, by rw [e, n]⟩
  | _ => simp [nrm] at n
/-- the tuples alone -/
def TLe (B B' : Hp) : Prop := ∀ a xs, B a = some (.tup xs) → B' a = some (.tup xs)
theorem Le.tle {B B' : Hp} (h : Le B B') : TLe B B' := fun _ _ e => h.tup e

/-! ### lists of pairs that agree -/
universe u v
inductive All2 {α : Type u} {β : Type v} (R : α → β → Prop) : List α → List β → Prop
  | nil : All2 R [] []
  | cons {a : α} {b : β} {as : List α} {bs : List β} : R a b → All2 R as bs → All2 R (a :: as) (b :: bs)
namespace All2
variable {α : Type u} {β : Type v} {R S : α → β → Prop}
theorem length : ∀ {as : List α} {bs : List β}, All2 R as bs → as.length = bs.length
  | _, _, .nil => rfl
  | _, _, .cons _ t => by rw [List.length_cons, List.length_cons, length t]
theorem imp (h : ∀ a b, R a b → S a b) : ∀ {as : List α} {bs : List β}, All2 R as bs → All2 S as bs
  | _, _, .nil => .nil
  | _, _, .cons r t => .cons (h _ _ r) (imp h t)
theorem append : ∀ {as cs : List α} {bs ds : List β}, All2 R as bs → All2 R cs ds → All2 R (as ++ cs) (bs ++ ds)
  | _, _, _, _, .nil, k => k
  | _, _, _, _, .cons r t, k => .cons r (append t k)
theorem get : ∀ {as : List α} {bs : List β} {i : Nat} {b : β}, All2 R as bs → bs[i]? = some b → ∃ a, as[i]? = some a ∧ R a b
  | _, _, _, _, .nil, h => by simp at h
  | _, _, 0, _, .cons r t, h => by simp at h; subst h; exact ⟨_, rfl, r⟩
  | _, _, i + 1, _, .cons r t, h => by
    obtain ⟨a, e, q⟩ := get (i := i) t (by simpa using h)
    exact ⟨a, by simpa using e, q⟩
theorem get' : ∀ {as : List α} {bs : List β} {i : Nat} {a : α}, All2 R as bs → as[i]? = some a → ∃ b, bs[i]? = some b ∧ R a b
  | _, _, _, _, .nil, h => by simp at h
  | _, _, 0, _, .cons r t, h => by simp at h; subst h; exact ⟨_, rfl, r⟩
  | _, _, i + 1, _, .cons r t, h => by
    obtain ⟨a, e, q⟩ := get' (i := i) t (by simpa using h)
    exact ⟨a, by simpa using e, q⟩
theorem drop : ∀ {as : List α} {bs : List β} (n : Nat), All2 R as bs → All2 R (as.drop n) (bs.drop n)
  | _, _, 0, r => r
  | _, _, _ + 1, .nil => .nil
  | _, _, n + 1, .cons _ t => drop n t
theorem take : ∀ {as : List α} {bs : List β} (n : Nat), All2 R as bs → All2 R (as.take n) (bs.take n)
  | _, _, 0, _ => .nil
  | _, _, _ + 1, .nil => .nil
  | _, _, n + 1, .cons r t => .cons r (take n t)
theorem set {a : α} {b : β} (r : R a b) : ∀ {as : List α} {bs : List β} (i : Nat), All2 R as bs → All2 R (as.set i a) (bs.set i b)
  | _, _, _, .nil => .nil
  | _, _, 0, .cons _ t => .cons r t
  | _, _, i + 1, .cons q t => .cons q (set r i t)
theorem reverse : ∀ {as : List α} {bs : List β}, All2 R as bs → All2 R as.reverse bs.reverse
  | _, _, .nil => .nil
  | _, _, .cons r t => by rw [List.reverse_cons, List.reverse_cons]; exact (reverse t).append (.cons r .nil)
theorem eraseIdx : ∀ {as : List α} {bs : List β} (i : Nat), All2 R as bs → All2 R (as.eraseIdx i) (bs.eraseIdx i)
  | _, _, _, .nil => .nil
  | _, _, 0, .cons _ t => t
  | _, _, i + 1, .cons q t => .cons q (eraseIdx i t)
theorem map_eq {f : β → α} (h : ∀ a b, R a b → a = f b) : ∀ {as : List α} {bs : List β}, All2 R as bs → as = bs.map f
  | _, _, .nil => rfl
  | _, _, .cons r t => by rw [List.map_cons, h _ _ r, map_eq h t]
theorem of_map {f : β → α} (h : ∀ b, R (f b) b) : ∀ bs : List β, All2 R (bs.map f) bs
  | [] => .nil
  | b :: r => .cons (h b) (of_map h r)
end All2

/-! ### what a Python value stands for -/
class Py (α : Type) where
  rep : PySem.W.Frag → Hp → V → α → Prop
  mono : ∀ {K : PySem.W.Frag} {B B' : Hp} {v : V} {a : α}, Le B B' → rep K B v a → rep K B' v a
open Py
/-- its objects are tuples alone -/
class Imm (α : Type) [Py α] : Prop where
  keep : ∀ {K : PySem.W.Frag} {B B' : Hp} {v : V} {a : α}, TLe B B' → rep K B v a → rep K B' v a

instance : Py Int := ⟨fun _ _ v a => v = .int a, fun _ h => h⟩
instance : Py Bool := ⟨fun _ _ v a => v = .bl a, fun _ h => h⟩
/-- texts of signs that are signs, not too long -/
def SG (z : Str) : Prop := PySem.PyData.strOk z = true ∧ z.length ≤ sizeLine
instance (z : Str) : Decidable (SG z) := by unfold SG; infer_instance
instance : Py Str := ⟨fun _ _ v a => v = .str a ∧ SG a, fun _ h => h⟩
instance : Py Unit := ⟨fun _ _ v _ => v = .non, fun _ h => h⟩
instance : Imm Int := ⟨fun _ h => h⟩
instance : Imm Bool := ⟨fun _ h => h⟩
instance : Imm Str := ⟨fun _ h => h⟩
instance : Imm Unit := ⟨fun _ h => h⟩
/-- None, or one -/
def optRep {α : Type} [Py α] (K : PySem.W.Frag) (B : Hp) (v : V) : Option α → Prop
  | none => v = .non
  | some a => rep K B v a
instance {α : Type} [Py α] : Py (Option α) := ⟨optRep, fun {K B B' v a} l h => by
  cases a with
  | none => exact h
  | some a => exact Py.mono l (show rep K B v a from h)⟩
theorem optImm {α : Type} [Py α] [Imm α] {K : PySem.W.Frag} {B B' : Hp} {v : V} (l : TLe B B') : ∀ a : Option α, optRep K B v a → optRep K B' v a
  | none, h => h
  | some a, h => Imm.keep (α := α) l h
instance {α : Type} [Py α] [Imm α] : Imm (Option α) := ⟨fun {K B B' v a} l h => optImm l a h⟩
/-- what may be changed in its place: a list, a dict -/
class Ob (β : Type) where
  obj : PySem.W.Frag → Hp → HO → β → Prop
  omono : ∀ {K : PySem.W.Frag} {B B' : Hp} {o : HO} {b : β}, Le B B' → obj K B o b → obj K B' o b
class ImmO (β : Type) [Ob β] : Prop where
  okeep : ∀ {K : PySem.W.Frag} {B B' : Hp} {o : HO} {b : β}, TLe B B' → Ob.obj K B o b → Ob.obj K B' o b
/-- .. read -/
instance {β : Type} [Ob β] : Py β := ⟨fun K B v b => ∃ p o, v = .ref p ∧ Rn B p o ∧ Ob.obj K B o b, fun l ⟨p, o, e, h, r⟩ => ⟨p, o, e, h.le l, Ob.omono l r⟩⟩
instance {α : Type} [Py α] : Ob (List α) := ⟨fun K B o xs => ∃ vs, o = .lst vs ∧ All2 (rep K B) vs xs, fun l ⟨vs, e, r⟩ => ⟨vs, e, r.imp fun _ _ q => Py.mono l q⟩⟩
instance {α : Type} [Py α] [Imm α] : ImmO (List α) := ⟨fun l ⟨vs, e, r⟩ => ⟨vs, e, r.imp fun _ _ q => Imm.keep l q⟩⟩
/-- a tuple of any length, of one kind -/
structure Tup (α : Type) where
  l : List α
  deriving DecidableEq, Inhabited
instance {α : Type} [Py α] : Py (Tup α) := ⟨fun K B v xs => ∃ p vs, v = .ref p ∧ B p = some (.tup vs) ∧ All2 (rep K B) vs xs.l, fun l ⟨p, vs, e, h, r⟩ => ⟨p, vs, e, l.tup h, r.imp fun _ _ q => Py.mono l q⟩⟩
instance {α : Type} [Py α] [Imm α] : Imm (Tup α) := ⟨fun l ⟨p, vs, e, h, r⟩ => ⟨p, vs, e, l _ _ h, r.imp fun _ _ q => Imm.keep l q⟩⟩
/-- written tuples of one to five -/
structure T1 (α : Type) where
  a : α
  deriving DecidableEq, Inhabited
structure T3 (α β γ : Type) where
  a : α
  b : β
  c : γ
  deriving DecidableEq, Inhabited
structure T4 (α β γ δ : Type) where
  a : α
  b : β
  c : γ
  d : δ
  deriving DecidableEq, Inhabited
structure T5 (α β γ δ ε : Type) where
  a : α
  b : β
  c : γ
  d : δ
  e : ε
  deriving DecidableEq, Inhabited
section
variable {α β γ δ ε : Type} [Py α] [Py β] [Py γ] [Py δ] [Py ε]
instance : Py (T1 α) := ⟨fun K B v t => ∃ p x, v = .ref p ∧ B p = some (.tup [x]) ∧ rep K B x t.a, fun l ⟨p, x, e, h, r⟩ => ⟨p, x, e, l.tup h, Py.mono l r⟩⟩
instance : Py (α × β) := ⟨fun K B v t => ∃ p x y, v = .ref p ∧ B p = some (.tup [x, y]) ∧ rep K B x t.1 ∧ rep K B y t.2, fun l ⟨p, x, y, e, h, r, q⟩ => ⟨p, x, y, e, l.tup h, Py.mono l r, Py.mono l q⟩⟩
instance : Py (T3 α β γ) := ⟨fun K B v t => ∃ p x y z, v = .ref p ∧ B p = some (.tup [x, y, z]) ∧ rep K B x t.a ∧ rep K B y t.b ∧ rep K B z t.c,
  fun l ⟨p, x, y, z, e, h, r, q, s⟩ => ⟨p, x, y, z, e, l.tup h, Py.mono l r, Py.mono l q, Py.mono l s⟩⟩
instance : Py (T4 α β γ δ) := ⟨fun K B v t => ∃ p x y z u, v = .ref p ∧ B p = some (.tup [x, y, z, u]) ∧ rep K B x t.a ∧ rep K B y t.b ∧ rep K B z t.c ∧ rep K B u t.d,
  fun l ⟨p, x, y, z, u, e, h, r, q, s, w⟩ => ⟨p, x, y, z, u, e, l.tup h, Py.mono l r, Py.mono l q, Py.mono l s, Py.mono l w⟩⟩
instance : Py (T5 α β γ δ ε) := ⟨fun K B v t => ∃ p x y z u w, v = .ref p ∧ B p = some (.tup [x, y, z, u, w]) ∧ rep K B x t.a ∧ rep K B y t.b ∧ rep K B z t.c ∧ rep K B u t.d ∧ rep K B w t.e,
  fun l ⟨p, x, y, z, u, w, e, h, r, q, s, t, o⟩ => ⟨p, x, y, z, u, w, e, l.tup h, Py.mono l r, Py.mono l q, Py.mono l s, Py.mono l t, Py.mono l o⟩⟩
instance [Imm α] : Imm (T1 α) := ⟨fun l ⟨p, x, e, h, r⟩ => ⟨p, x, e, l _ _ h, Imm.keep l r⟩⟩
instance [Imm α] [Imm β] : Imm (α × β) := ⟨fun l ⟨p, x, y, e, h, r, q⟩ => ⟨p, x, y, e, l _ _ h, Imm.keep l r, Imm.keep l q⟩⟩
instance [Imm α] [Imm β] [Imm γ] : Imm (T3 α β γ) := ⟨fun l ⟨p, x, y, z, e, h, r, q, s⟩ => ⟨p, x, y, z, e, l _ _ h, Imm.keep l r, Imm.keep l q, Imm.keep l s⟩⟩
instance [Imm α] [Imm β] [Imm γ] [Imm δ] : Imm (T4 α β γ δ) := ⟨fun l ⟨p, x, y, z, u, e, h, r, q, s, w⟩ => ⟨p, x, y, z, u, e, l _ _ h, Imm.keep l r, Imm.keep l q, Imm.keep l s, Imm.keep l w⟩⟩
instance [Imm α] [Imm β] [Imm γ] [Imm δ] [Imm ε] : Imm (T5 α β γ δ ε) := ⟨fun l ⟨p, x, y, z, u, w, e, h, r, q, s, t, o⟩ => ⟨p, x, y, z, u, w, e, l _ _ h, Imm.keep l r, Imm.keep l q, Imm.keep l s, Imm.keep l t, Imm.keep l o⟩⟩
end
/-- the script: a list of ints that nobody changes -/
structure Scr where
  l : List Int
instance : Py Scr := ⟨fun K B v s => ∃ p, v = .ref p ∧ SqL K B p (s.l.map V.int), fun l ⟨p, e, h⟩ => ⟨p, e, h.elim (fun q => .inl (l.rl q)) fun q => .inr q⟩⟩

/-! ### symbolic slots -/
inductive Sl : Type 1
  | un
  | sh {α : Type} [Py α] (a : α)
  | ow {β : Type} [Ob β] (b : β)
/-- the value v has it, over the readable heap B and the heap H; what is owned is new beside H0 -/
def Vok (K : PySem.W.Frag) (B H H0 : Hp) (v : V) : Sl → Prop
  | .un => True
  | @Sl.sh _ i a => i.rep K B v a
  | @Sl.ow _ i b => ∃ p o, v = .ref p ∧ H0 p = none ∧ B p = none ∧ H p = some o ∧ i.obj K B o b
def Sl.own : Sl → Prop
  | .un => False
  | @Sl.sh _ _ _ => False
  | @Sl.ow _ _ _ => True
def Shr (K : PySem.W.Frag) (B : Hp) (v : V) : Sl → Prop
  | .un => False
  | @Sl.sh _ i a => i.rep K B v a
  | @Sl.ow _ _ _ => False
def Sl.imm : Sl → Prop
  | .un => True
  | @Sl.sh α i _ => @Imm α i
  | @Sl.ow β i _ => @ImmO β i

/-- from the heaps (B, H) to (B', H'): B is the readable part of H -/
structure Ext (B H B' H' : Hp) : Prop where
  bh : Same B' H'
  hh : Same H H'
  bb : Same B B'
  nw : ∀ a, B a = none → H a ≠ none → B' a = none
theorem Ext.refl {B H : Hp} (h : Same B H) : Ext B H B H := ⟨h, Same.refl _, Same.refl _, fun _ e _ => e⟩
theorem Ext.trans {B H B1 H1 B2 H2 : Hp} (a : Ext B H B1 H1) (b : Ext B1 H1 B2 H2) : Ext B H B2 H2 :=
  ⟨b.bh, a.hh.trans b.hh, a.bb.trans b.bb, fun x e n => b.nw x (a.nw x e n) (fun z => n (a.hh.free z))⟩
/-- a new object, readable at once -/
theorem Ext.laid {B H : Hp} (h : Same B H) {p : Addr} {o : HO} (n : H p = none) : Ext B H (upd B p o) (upd H p o) := by
  refine ⟨fun a u e => ?_, fun a u e => ?_, fun a u e => ?_, fun a e k => ?_⟩
  · by_cases q : a = p
    · subst q; rw [upd_same] at e ⊢; exact e
    · rw [upd_ne q] at e ⊢; exact h a u e
  · rw [upd_ne (ne_of_none e n)]; exact e
  · rw [upd_ne (ne_of_none (h a u e) n)]; exact e
  · rw [upd_ne (fun z => k (by rw [z]; exact n))]; exact e
/-- a new object, not readable yet -/
theorem Ext.made {B H : Hp} (h : Same B H) {p : Addr} {o : HO} (n : H p = none) : Ext B H B (upd H p o) := by
  refine ⟨fun a u e => ?_, fun a u e => ?_, Same.refl _, fun a e k => e⟩
  · rw [upd_ne (ne_of_none (h a u e) n)]; exact h a u e
  · rw [upd_ne (ne_of_none e n)]; exact e
/-- what was made is readable from now on -/
theorem Ext.pub {B H B' H' : Hp} (x : Ext B H B' H') {p : Addr} {o : HO} (n : H p = none) (nb : B' p = none) (e : H' p = some o) : Ext B H (upd B' p o) H' := by
  refine ⟨fun a u q => ?_, x.hh, fun a u q => ?_, fun a q k => ?_⟩
  · by_cases z : a = p
    · subst z; rw [upd_same] at q; rw [e]; exact q
    · rw [upd_ne z] at q; exact x.bh a u q
  · rw [upd_ne (fun z => by rw [z] at q; rw [x.bb _ _ q] at nb; cases nb)]; exact x.bb a u q
  · rw [upd_ne (fun z => k (by rw [z]; exact n))]; exact x.nw a q k
theorem same_upd {B : Hp} {p : Addr} {o : HO} (n : B p = none) : Same B (upd B p o) := fun b x e => by
  rw [upd_ne (ne_of_none e n)]; exact e

structure Ok (K : PySem.W.Frag) (B0 H0 B H : Hp) (σ : L2.St) (τ : List Sl) : Prop where
  ext : Ext B0 H0 B H
  len : σ.length = τ.length
  at_ : ∀ (i : Nat) (s : Sl), τ[i]? = some s → s = .un ∨ ∃ v, σ[i]? = some (some v) ∧ Vok K B H H0 v s
  dis : ∀ (i j : Nat) (s u : Sl) (q : Addr), τ[i]? = some s → τ[j]? = some u → s.own → u.own → σ[i]? = some (some (.ref q)) → σ[j]? = some (some (.ref q)) → i = j

theorem Vok.ext {K : PySem.W.Frag} {B H B' H' H0 : Hp} {v : V} {s : Sl} (x : Ext B H B' H') (h : Vok K B H H0 v s) : Vok K B' H' H0 v s := by
  cases s with
  | un => trivial
  | sh a => exact Py.mono (.of x.bb) (show rep K B v a from h)
  | ow b =>
    obtain ⟨p, o, e, n, nb, hp, r⟩ := h
    exact ⟨p, o, e, n, x.nw p nb (by rw [hp]; simp), x.hh _ _ hp, Ob.omono (.of x.bb) r⟩
theorem Vok.base {K : PySem.W.Frag} {B H H0 H1 : Hp} {v : V} {s : Sl} (x : Same H0 H1) (h : Vok K B H H1 v s) : Vok K B H H0 v s := by
  cases s with
  | un => trivial
  | sh a => exact h
  | ow b =>
    obtain ⟨p, vs, e, n, nb, hp, r⟩ := h
    exact ⟨p, vs, e, x.free n, nb, hp, r⟩
theorem Ok.bh {K : PySem.W.Frag} {B0 H0 B H : Hp} {σ : L2.St} {τ : List Sl} (h : Ok K B0 H0 B H σ τ) : Same B H := h.ext.bh
theorem Ok.go {K : PySem.W.Frag} {B0 H0 B H B' H' : Hp} {σ : L2.St} {τ : List Sl} (h : Ok K B0 H0 B H σ τ) (x : Ext B H B' H') : Ok K B0 H0 B' H' σ τ :=
  ⟨h.ext.trans x, h.len, fun i s e => (h.at_ i s e).imp id fun ⟨v, e1, q⟩ => ⟨v, e1, q.ext x⟩, h.dis⟩
theorem lt_of_get {α : Type u} {l : List α} {i : Nat} {a : α} (h : l[i]? = some a) : i < l.length := (List.getElem?_eq_some_iff.mp h).1
/-- a slot is stored -/
theorem Ok.put {K : PySem.W.Frag} {B0 H0 B H : Hp} {σ : L2.St} {τ : List Sl} (h : Ok K B0 H0 B H σ τ) {i : Nat} {v : V} {s : Sl} (q : Vok K B H H0 v s)
    (nw : s.own → ∀ (j : Nat) (u : Sl) (a : Addr), j ≠ i → τ[j]? = some u → u.own → σ[j]? = some (some (.ref a)) → v ≠ .ref a) : Ok K B0 H0 B H (σ.set i (some v)) (τ.set i s) := by
  refine ⟨h.ext, by rw [List.length_set, List.length_set, h.len], fun j u e => ?_, fun j k u w a e1 e2 o1 o2 f1 f2 => ?_⟩
  · by_cases z : i = j
    · subst z
      have hl : i < τ.length := by have := lt_of_get e; rwa [List.length_set] at this
      rw [List.getElem?_set_self hl] at e
      cases e
      exact .inr ⟨v, by rw [List.getElem?_set_self (by rw [h.len]; exact hl)], q⟩
    · rw [List.getElem?_set_ne z] at e ⊢
      exact h.at_ j u e
  · have hs : ∀ {m : Nat} {t : Sl} , (τ.set i s)[m]? = some t → m = i → t = s ∧ (σ.set i (some v))[m]? = some (some v) := fun {m t} e z => by
      subst z
      have hl : m < τ.length := by have := lt_of_get e; rwa [List.length_set] at this
      rw [List.getElem?_set_self hl] at e
      cases e
      exact ⟨rfl, List.getElem?_set_self (by rw [h.len]; exact hl)⟩
    by_cases z1 : j = i
    · by_cases z2 : k = i
      · rw [z1, z2]
      · obtain ⟨rfl, g⟩ := hs e1 z1
        rw [g] at f1
        rw [List.getElem?_set_ne (Ne.symm z2)] at e2 f2
        exact absurd (Option.some.inj (Option.some.inj f1)) (nw o1 k w a z2 e2 o2 f2)
    · by_cases z2 : k = i
      · obtain ⟨rfl, g⟩ := hs e2 z2
        rw [g] at f2
        rw [List.getElem?_set_ne (Ne.symm z1)] at e1 f1
        exact absurd (Option.some.inj (Option.some.inj f2)) (nw o2 j u a z1 e1 o1 f1)
      · rw [List.getElem?_set_ne (Ne.symm z1)] at e1 f1
        rw [List.getElem?_set_ne (Ne.symm z2)] at e2 f2
        exact h.dis j k u w a e1 e2 o1 o2 f1 f2
/-- .. with what is no slot's own -/
theorem Ok.putN {K : PySem.W.Frag} {B0 H0 B H B' H' : Hp} {σ : L2.St} {τ : List Sl} (h : Ok K B0 H0 B H σ τ) (x : Ext B H B' H') {i : Nat} {v : V} {s : Sl} (q : Vok K B' H' H v s) : Ok K B0 H0 B' H' (σ.set i (some v)) (τ.set i s) := by
  refine (h.go x).put (q.base h.ext.hh) fun o j u a _ e1 o1 f1 z => ?_
  cases s with
  | ow b =>
    obtain ⟨p, vs, e, n, _⟩ := q
    rw [e] at z
    cases z
    rcases h.at_ j u e1 with r | ⟨w, e2, r⟩
    · rw [r] at o1; exact o1
    · rw [e2] at f1
      cases f1
      cases u with
      | ow ys =>
        obtain ⟨p', vs', e3, _, _, hp, _⟩ := r
        cases e3
        rw [n] at hp
        cases hp
      | un => exact o1
      | sh _ => exact o1
  | un => exact o
  | sh _ => exact o
/-- a slot is forgotten -/
theorem Ok.wipe {K : PySem.W.Frag} {B0 H0 B H : Hp} {σ : L2.St} {τ : List Sl} (h : Ok K B0 H0 B H σ τ) (i : Nat) : Ok K B0 H0 B H (σ.set i none) (τ.set i .un) := by
  refine ⟨h.ext, by rw [List.length_set, List.length_set, h.len], fun j u e => ?_, fun j k u w a e1 e2 o1 o2 f1 f2 => ?_⟩
  · by_cases z : i = j
    · subst z
      have hl : i < τ.length := by have := lt_of_get e; rwa [List.length_set] at this
      rw [List.getElem?_set_self hl] at e
      cases e
      exact .inl rfl
    · rw [List.getElem?_set_ne z] at e ⊢
      exact h.at_ j u e
  · have hs : ∀ {m : Nat} {t : Sl}, (τ.set i .un)[m]? = some t → t.own → m ≠ i := fun {m t} e o z => by
      subst z
      have hl : m < τ.length := by have := lt_of_get e; rwa [List.length_set] at this
      rw [List.getElem?_set_self hl] at e
      cases e
      exact o
    have z1 := hs e1 o1
    have z2 := hs e2 o2
    rw [List.getElem?_set_ne (Ne.symm z1)] at e1 f1
    rw [List.getElem?_set_ne (Ne.symm z2)] at e2 f2
    exact h.dis j k u w a e1 e2 o1 o2 f1 f2
/-- forgetting what is known of slots -/
def Sl.le : Sl → Sl → Prop := fun s u => u = .un ∨ s = u
theorem Ok.weak {K : PySem.W.Frag} {B0 H0 B H : Hp} {σ : L2.St} {τ τ' : List Sl} (h : Ok K B0 H0 B H σ τ) (hl : τ'.length = τ.length) (w : ∀ (i : Nat) (s : Sl), τ'[i]? = some s → s = .un ∨ τ[i]? = some s) : Ok K B0 H0 B H σ τ' := by
  refine ⟨h.ext, by rw [hl]; exact h.len, fun i s e => ?_, fun i j s u q e1 e2 o1 o2 f1 f2 => ?_⟩
  · rcases w i s e with r | r
    · exact .inl r
    · exact h.at_ i s r
  · rcases w i s e1 with r | r
    · rw [r] at o1; exact o1.elim
    · rcases w j u e2 with r' | r'
      · rw [r'] at o2; exact o2.elim
      · exact h.dis i j s u q r r' o1 o2 f1 f2
end Ly

namespace Ly
open PySem PySem.Spec PyProof.Rows L2
open Py

/-! ### where one stands, told by what the rules ask of it -/
structure Par where
  P : Program
  w : World
  K : PySem.W.Frag
  mg : Str → Option Value
  base : Heap
  N : List Str
  sc : Scope
  fn : Str → Bool
  k : Nat
abbrev Par.of (X : Cx) (k : Nat) : Par := ⟨X.prog, X.w, X.K, X.mg, X.base, X.N, X.env.scope, X.fn, k⟩
def Par.In (p : Par) (X : Cx) : Prop := ∃ k, Par.of X k = p ∧ X.calm = true ∧ Room k X.A ∧ PassesOwn (model X.prog X.w) X.A X.env X.xe

/-! ### the greatest readings -/
def EE (p : Par) (e : Expr) : TE := fun σ H Q => ∃ t : TE, (∀ X, p.In X → PE X e t) ∧ t σ H Q
def ET (p : Par) (e : Expr) : TT := fun σ H Q => ∃ t : TT, (∀ X, p.In X → PT X e t) ∧ t σ H Q
def EW (p : Par) (e : Expr) : TT := fun σ H Q => ∃ t : TT, (∀ X, p.In X → PW X e t) ∧ t σ H Q
def EA (p : Par) (es : List Expr) : TA := fun σ H Q => ∃ t : TA, (∀ X, p.In X → PA X es t) ∧ t σ H Q
def EI (p : Par) (tg e : Expr) : TI := fun σ H Q => ∃ t : TI, (∀ X, p.In X → PI X tg e t) ∧ t σ H Q
def ES (p : Par) (st : Stmt) : TS := fun D σ H => ∃ t : TS, (∀ X, p.In X → PS X st t) ∧ t D σ H
def EB (p : Par) (sts : List Stmt) : TS := fun D σ H => ∃ t : TS, (∀ X, p.In X → PSs X sts t) ∧ t D σ H
def EG (p : Par) (tg : Expr) : TG := fun v σ H Q => ∃ t : TG, (∀ X, p.In X → PG X tg t) ∧ t v σ H Q
def EGs (p : Par) (tgs : List Expr) : TGs := fun v σ H Q => ∃ t : TGs, (∀ X, p.In X → PGs X tgs t) ∧ t v σ H Q
section
variable {p : Par} {X : Cx} {e tg : Expr} {es tgs : List Expr} {st : Stmt} {sts : List Stmt}
theorem ee (h : p.In X) : PE X e (EE p e) := ⟨fun pins s σ H Q I ⟨_, ht, hq⟩ => (ht X h).run pins s σ H Q I hq⟩
theorem et (h : p.In X) : PT X e (ET p e) := ⟨fun pins s σ H Q I ⟨_, ht, hq⟩ => (ht X h).run pins s σ H Q I hq⟩
theorem ew (h : p.In X) : PW X e (EW p e) := ⟨fun wh pins s σ H Q I ⟨_, ht, hq⟩ => (ht X h).run wh pins s σ H Q I hq⟩
theorem ea (h : p.In X) : PA X es (EA p es) := ⟨fun pos pins s σ H Q I ⟨_, ht, hq⟩ => (ht X h).run pos pins s σ H Q I hq⟩
theorem ei (h : p.In X) : PI X tg e (EI p tg e) := ⟨fun pins s σ H R I ⟨_, ht, hq⟩ => (ht X h).run pins s σ H R I hq⟩
theorem es_ (h : p.In X) : PS X st (ES p st) := ⟨fun pins s σ H D I ⟨_, ht, hq⟩ => (ht X h).run pins s σ H D I hq⟩
theorem eb (h : p.In X) : PSs X sts (EB p sts) := ⟨fun pins s σ H D I ⟨_, ht, hq⟩ => (ht X h).run pins s σ H D I hq⟩
theorem eg (h : p.In X) : PG X tg (EG p tg) := ⟨fun pins s σ H v u Q I r ⟨_, ht, hq⟩ => (ht X h).run pins s σ H v u Q I r hq⟩
theorem egs (h : p.In X) : PGs X tgs (EGs p tgs) := ⟨fun pins s σ H vs us Q I r ⟨_, ht, hq⟩ => (ht X h).run pins s σ H vs us Q I r hq⟩
end

/-! ### the judgements -/
/-- from the slots τ the expression gives s -/
def PX (p : Par) (e : Expr) (τ : List Sl) (s : Sl) : Prop := ∀ B0 H0 B H σ, Ok p.K B0 H0 B H σ τ → ∀ Q : VK, (∀ B' H' v, Ext B H B' H' → Vok p.K B' H' H v s → Q v H') → EE p e σ H Q
/-- a test -/
def PTx (p : Par) (e : Expr) (τ : List Sl) (b : Bool) : Prop := ∀ B0 H0 B H σ, Ok p.K B0 H0 B H σ τ → ∀ Q : Bool → Hp → Prop, (∀ B' H', Ext B H B' H' → Q b H') → ET p e σ H Q
def PWx (p : Par) (e : Expr) (τ : List Sl) (b : Bool) : Prop := ∀ B0 H0 B H σ, Ok p.K B0 H0 B H σ τ → ∀ Q : Bool → Hp → Prop, (∀ B' H', Ext B H B' H' → Q b H') → EW p e σ H Q
/-- arguments: all readable -/
def PAx (p : Par) (es : List Expr) (τ : List Sl) (ss : List Sl) : Prop := ∀ B0 H0 B H σ, Ok p.K B0 H0 B H σ τ → ∀ Q : List V → Hp → Prop, (∀ B' H' vs, Ext B H B' H' → All2 (Shr p.K B') vs ss → Q vs H') → EA p es σ H Q
/-- what is wanted behind a block -/
structure Post : Type 1 where
  nx : List Sl → Prop
  rt : Sl → Prop
structure Emb (K : PySem.W.Frag) (B0 H0 : Hp) (D : Ends) (R : Post) : Prop where
  nx : ∀ B H σ τ, Ok K B0 H0 B H σ τ → R.nx τ → D.nx σ H
  rt : ∀ B H v s, Ext B0 H0 B H → Vok K B H H0 v s → R.rt s → D.rt v H
def S1 (p : Par) (st : Stmt) (τ : List Sl) (R : Post) : Prop := ∀ B0 H0 B H σ, Ok p.K B0 H0 B H σ τ → ∀ D : Ends, Emb p.K B0 H0 D R → ES p st D σ H
def SX (p : Par) (sts : List Stmt) (τ : List Sl) (R : Post) : Prop := ∀ B0 H0 B H σ, Ok p.K B0 H0 B H σ τ → ∀ D : Ends, Emb p.K B0 H0 D R → EB p sts D σ H
/-- a target takes s -/
def Upto (w : List Nat) (σ σ' : L2.St) : Prop := σ'.length = σ.length ∧ ∀ i, i ∉ w → σ'[i]? = σ[i]?
def GX (p : Par) (tg : Expr) (w : List Nat) (s : Sl) (τ τ' : List Sl) : Prop := ∀ (B0 H0 B H : Hp) (σ : L2.St) (v : V), Ok p.K B0 H0 B H σ τ → Shr p.K B v s → ∀ Q : L2.St → Hp → Prop, (∀ σ', Ok p.K B0 H0 B H σ' τ' → Upto w σ σ' → Q σ' H) → EG p tg v σ H Q
def GXs (p : Par) (tgs : List Expr) (w : List Nat) (ss : List Sl) (τ τ' : List Sl) : Prop := ∀ (B0 H0 B H : Hp) (σ : L2.St) (vs : List V), Ok p.K B0 H0 B H σ τ → All2 (Shr p.K B) vs ss → ∀ Q : L2.St → Hp → Prop, (∀ σ', Ok p.K B0 H0 B H σ' τ' → Upto w σ σ' → Q σ' H) → EGs p tgs vs σ H Q
/-- what a walk yields, turn by turn -/
def Turns (K : PySem.W.Frag) (B1 : Hp) (J : It) (items : List Sl) : Prop := ∀ B H, Same B1 B → Same B H →
  (∀ i s, items[i]? = some s → J.go i H ∧ ∀ x H', J.yld i H x H' → ∃ B', Ext B H B' H' ∧ Shr K B' x s) ∧ J.stop items.length H
def IX (p : Par) (tg e : Expr) (τ : List Sl) (items : List Sl) : Prop := ∀ B0 H0 B H σ, Ok p.K B0 H0 B H σ τ → ∀ R : It → Hp → Prop, (∀ B' H' J, Ext B H B' H' → Turns p.K B' J items → R J H') → EI p tg e σ H R

/-- a def's promise -/
def spT (K : PySem.W.Frag) (ok : List Sl → Sl → Prop) : Sp := fun vs H Q _ => ∃ B as s, Same B H ∧ All2 (Shr K B) vs as ∧ ok as s ∧ ∀ B' H' v, Ext B H B' H' → Vok K B' H' H v s → Q v H'

section
variable {p : Par} {τ : List Sl} {e a b : Expr} {pos : Pos}

theorem PX.imp {s u : Sl} (h : PX p e τ s) (k : ∀ B H H0 v, Same B H → Vok p.K B H H0 v s → Vok p.K B H H0 v u) : PX p e τ u := fun B0 H0 B H σ ok Q q =>
  h B0 H0 B H σ ok Q fun B' H' v x r => q B' H' v x (k _ _ _ _ x.bh r)
theorem PX.to {s u : Sl} (h : PX p e τ s) (q : s = u) : PX p e τ u := q ▸ h
theorem PTx.to {c d : Bool} (h : PTx p e τ c) (q : c = d) : PTx p e τ d := q ▸ h

/-! ### names, constants -/
theorem px_var (i : Nat) {s : Sl} {x : Str} (hN : p.N[i]? = some x) (hv : Vis p.sc x) (hτ : τ[i]? = some s) (hs : match s with | @Sl.sh _ _ _ => True | _ => False)
    (hd : (x == ("__debug__" : Str)) = false) (hc : (x == ("__classdict__" : Str)) = false) : PX p (.Name x pos) τ s := fun B0 H0 B H σ ok Q q => by
  refine ⟨tVar i, fun X hX => ?_, ?_⟩
  · obtain ⟨k, rfl, _⟩ := hX
    exact pe_var hN hv hd hc
  · rcases ok.at_ i s hτ with z | ⟨v, e1, r⟩
    · subst z; exact hs.elim
    · cases s with
      | sh a => exact ⟨v, e1, q B H v (.refl ok.bh) r⟩
      | un => exact hs.elim
      | ow b => exact hs.elim
theorem px_c {v : V} {s : Sl} (h : ∀ X : Cx, PE X e (tC v)) (r : ∀ B H H0 : Hp, Vok p.K B H H0 v s) : PX p e τ s := fun B0 H0 B H σ ok Q q =>
  ⟨tC v, fun X _ => h X, q B H v (.refl ok.bh) (r _ _ _)⟩
theorem px_int {i : Int} {j : Nat} : PX p (.Constant (.int i) j pos) τ (.sh i) := px_c (fun _ => pe_int) fun _ _ _ => rfl
theorem px_bl {c : Bool} {j : Nat} : PX p (.Constant (.bool c) j pos) τ (.sh c) := px_c (fun _ => pe_bl) fun _ _ _ => rfl
theorem px_str {x : Str} {j : Nat} (h : SG x) : PX p (.Constant (.str x) j pos) τ (.sh x) := px_c (fun _ => pe_str) fun _ _ _ => ⟨rfl, h⟩
theorem px_non {j : Nat} : PX p (.Constant .none j pos) τ (.sh ()) := px_c (fun _ => pe_non) fun _ _ _ => rfl

/-! ### operators -/
theorem px_op2 {α β : Type} [Py α] [Py β] {x : α} {y : β} {s : Sl} {op : Operator} {r : R2} (ho : ∀ X, p.In X → OpR X (binaryOp op) r) (ha : PX p a τ (.sh x)) (hb : PX p b τ (.sh y))
    (h : ∀ B H v u Q, Same B H → rep p.K B v x → rep p.K B u y → (∀ B' H' z, Ext B H B' H' → Vok p.K B' H' H z s → Q z H') → r v u H Q) : PX p (.BinOp a op b pos) τ s := fun B0 H0 B H σ ok Q q => by
  refine ⟨tOp r (EE p a) (EE p b), fun X hX => pe_op (ho X hX) (ee hX) (ee hX), ?_⟩
  refine ha B0 H0 B H σ ok _ fun B1 H1 v1 x1 r1 => ?_
  refine hb B0 H0 B1 H1 σ (ok.go x1) _ fun B2 H2 v2 x2 r2 => ?_
  refine h B2 H2 v1 v2 Q x2.bh (Py.mono (.of x2.bb) r1) r2 fun B' H' z x3 r3 => q B' H' z ((x1.trans x2).trans x3) ?_
  exact r3.base (x1.hh.trans x2.hh)
/-- two ints -/
theorem px_ii {i j : Int} {op : Operator} {C : Int → Int → Prop} {g : Int → Int → Int} (ho : ∀ X, p.In X → OpR X (binaryOp op) (rI C fun i j => .int (g i j))) (ha : PX p a τ (.sh i)) (hb : PX p b τ (.sh j)) (hc : C i j) :
    PX p (.BinOp a op b pos) τ (.sh (g i j)) := px_op2 ho ha hb fun B H v u Q hbh r1 r2 q => ⟨i, j, r1, r2, hc, q B H _ (.refl hbh) rfl⟩
theorem px_ii0 {i j : Int} {op : Operator} {g : Int → Int → Int} (ho : ∀ X, p.In X → OpR X (binaryOp op) (rI0 fun i j => .int (g i j))) (ha : PX p a τ (.sh i)) (hb : PX p b τ (.sh j)) :
    PX p (.BinOp a op b pos) τ (.sh (g i j)) := px_op2 ho ha hb fun B H v u Q hbh r1 r2 q => ⟨i, j, r1, r2, q B H _ (.refl hbh) rfl⟩
theorem px_add {i j : Int} (ha : PX p a τ (.sh i)) (hb : PX p b τ (.sh j)) : PX p (.BinOp a .Add b pos) τ (.sh (i + j)) := px_ii0 (fun _ _ => op_add) ha hb
theorem px_sub {i j : Int} (ha : PX p a τ (.sh i)) (hb : PX p b τ (.sh j)) : PX p (.BinOp a .Sub b pos) τ (.sh (i - j)) := px_ii0 (fun _ _ => op_sub) ha hb
theorem px_mul {i j : Int} (ha : PX p a τ (.sh i)) (hb : PX p b τ (.sh j)) (hc : CMul i j) : PX p (.BinOp a .Mult b pos) τ (.sh (i * j)) := px_ii (fun _ _ => op_mul) ha hb hc
theorem px_mod {i j : Int} (ha : PX p a τ (.sh i)) (hb : PX p b τ (.sh j)) (hc : 0 < j) : PX p (.BinOp a .Mod b pos) τ (.sh (i % j)) := px_ii (fun _ _ => op_mod) ha hb hc
theorem px_fdiv {i j : Int} (ha : PX p a τ (.sh i)) (hb : PX p b τ (.sh j)) (hc : CDiv i j) : PX p (.BinOp a .FloorDiv b pos) τ (.sh (i / j)) := px_ii (fun _ _ => op_fdiv) ha hb hc
theorem px_pow {i j : Int} (ha : PX p a τ (.sh i)) (hb : PX p b τ (.sh j)) (hc : CPow i j) : PX p (.BinOp a .Pow b pos) τ (.sh (i ^ j.toNat)) := px_ii (g := fun i j => i ^ j.toNat) (fun _ _ => op_pow) ha hb hc
theorem px_shl {i j : Int} (ha : PX p a τ (.sh i)) (hb : PX p b τ (.sh j)) (hc : CPow i j) : PX p (.BinOp a .LShift b pos) τ (.sh (i * 2 ^ j.toNat)) := px_ii (g := fun i j => i * 2 ^ j.toNat) (fun _ _ => op_shl) ha hb hc
theorem px_band {i j : Int} (ha : PX p a τ (.sh i)) (hb : PX p b τ (.sh j)) : PX p (.BinOp a .BitAnd b pos) τ (.sh (Builtin.bitAnd i j)) := px_ii0 (fun _ _ => op_and) ha hb
theorem px_bor {i j : Int} (ha : PX p a τ (.sh i)) (hb : PX p b τ (.sh j)) : PX p (.BinOp a .BitOr b pos) τ (.sh (Builtin.bitOr i j)) := px_ii0 (fun _ _ => op_or) ha hb
theorem px_neg {i : Int} (ha : PX p a τ (.sh i)) : PX p (.UnaryOp .USub a pos) τ (.sh (-i)) := fun B0 H0 B H σ ok Q q => by
  refine ⟨tUn (rU fun i => .int (-i)) (EE p a), fun X hX => pe_un un_neg (ee hX), ?_⟩
  exact ha B0 H0 B H σ ok _ fun B1 H1 v1 x1 r1 => ⟨i, r1, q B1 H1 _ x1 rfl⟩

/-! ### comparisons: as values, as tests -/
/-- an operation of two values that gives a bool -/
theorem px_cmp2 {α β : Type} [Py α] [Py β] {x : α} {y : β} {c : Bool} {op : CmpOp} {r : R2} (ho : ∀ X, p.In X → OpR X (compareOp op) r) (hm : behindInMarks op b = false) (ha : PX p a τ (.sh x)) (hb : PX p b τ (.sh y))
    (h : ∀ B H v u Q, Same B H → rep p.K B v x → rep p.K B u y → Q (.bl c) H → r v u H Q) : PX p (.Compare a [op] [b] pos) τ (.sh c) := fun B0 H0 B H σ ok Q q => by
  refine ⟨tOp r (EE p a) (EE p b), fun X hX => pe_cmpR (ho X hX) (ee hX) (ee hX) hm, ?_⟩
  refine ha B0 H0 B H σ ok _ fun B1 H1 v1 x1 r1 => ?_
  refine hb B0 H0 B1 H1 σ (ok.go x1) _ fun B2 H2 v2 x2 r2 => ?_
  exact h B2 H2 v1 v2 Q x2.bh (Py.mono (.of x2.bb) r1) r2 (q B2 H2 _ (x1.trans x2) rfl)
theorem pt_cmp2 {α β : Type} [Py α] [Py β] {x : α} {y : β} {c : Bool} {op : CmpOp} {r : R2} (ho : ∀ X, p.In X → OpR X (compareOp op) r) (hm : behindInMarks op b = false) (ha : PX p a τ (.sh x)) (hb : PX p b τ (.sh y))
    (h : ∀ B H v u Q, Same B H → rep p.K B v x → rep p.K B u y → Q (.bl c) H → r v u H Q) : PTx p (.Compare a [op] [b] pos) τ c := fun B0 H0 B H σ ok Q q => by
  refine ⟨tTest (tOp r (EE p a) (EE p b)), fun X hX => pt_cmpR (ho X hX) (ee hX) (ee hX) hm, ?_⟩
  refine ha B0 H0 B H σ ok _ fun B1 H1 v1 x1 r1 => ?_
  refine hb B0 H0 B1 H1 σ (ok.go x1) _ fun B2 H2 v2 x2 r2 => ?_
  exact h B2 H2 v1 v2 _ x2.bh (Py.mono (.of x2.bb) r1) r2 ⟨c, rfl, q B2 H2 (x1.trans x2)⟩
/-- what a comparison of two things of Lean gives -/
structure Cmp2 (p : Par) (op : CmpOp) {α β : Type} [Py α] [Py β] (x : α) (y : β) (c : Bool) : Prop where
  mk :: h : ∃ r : R2, (∀ X, p.In X → OpR X (compareOp op) r) ∧ ∀ B H v u Q, Same B H → rep p.K B v x → rep p.K B u y → Q (.bl c) H → r v u H Q
section
variable {α β : Type} [Py α] [Py β] {x : α} {y : β} {c : Bool} {op : CmpOp}
theorem px_cmp (h : Cmp2 p op x y c) (ha : PX p a τ (.sh x)) (hb : PX p b τ (.sh y)) (hm : behindInMarks op b = false) : PX p (.Compare a [op] [b] pos) τ (.sh c) := by
  obtain ⟨r, h1, h2⟩ := h.h
  exact px_cmp2 h1 hm ha hb h2
theorem pt_cmp (h : Cmp2 p op x y c) (ha : PX p a τ (.sh x)) (hb : PX p b τ (.sh y)) (hm : behindInMarks op b = false) : PTx p (.Compare a [op] [b] pos) τ c := by
  obtain ⟨r, h1, h2⟩ := h.h
  exact pt_cmp2 h1 hm ha hb h2
end
theorem c_lt {i j : Int} : Cmp2 p .Lt i j (decide (i < j)) := ⟨_, fun _ _ => op_lt, fun _ _ _ _ _ _ r1 r2 q => ⟨i, j, r1, r2, q⟩⟩
theorem c_le {i j : Int} : Cmp2 p .LtE i j (decide (i ≤ j)) := ⟨_, fun _ _ => op_le, fun _ _ _ _ _ _ r1 r2 q => ⟨i, j, r1, r2, q⟩⟩
theorem c_gt {i j : Int} : Cmp2 p .Gt i j (decide (j < i)) := ⟨_, fun _ _ => op_gt, fun _ _ _ _ _ _ r1 r2 q => ⟨i, j, r1, r2, q⟩⟩
theorem c_ge {i j : Int} : Cmp2 p .GtE i j (decide (j ≤ i)) := ⟨_, fun _ _ => op_ge, fun _ _ _ _ _ _ r1 r2 q => ⟨i, j, r1, r2, q⟩⟩
theorem c_eqI {i j : Int} : Cmp2 p .Eq i j (decide (i = j)) := ⟨_, fun _ _ => op_eq, fun _ _ v u Q _ r1 r2 q => by
  have r1 : v = .int i := r1
  have r2 : u = .int j := r2
  subst r1 r2
  exact ⟨rfl, by rw [show decide (V.int i = V.int j) = decide (i = j) by simp]; exact q⟩⟩
theorem c_neI {i j : Int} : Cmp2 p .NotEq i j (!decide (i = j)) := ⟨_, fun _ _ => op_ne, fun _ _ v u Q _ r1 r2 q => by
  have r1 : v = .int i := r1
  have r2 : u = .int j := r2
  subst r1 r2
  exact ⟨rfl, by rw [show decide (V.int i = V.int j) = decide (i = j) by simp]; exact q⟩⟩
theorem c_eqS {i j : Str} : Cmp2 p .Eq i j (decide (i = j)) := ⟨_, fun _ _ => op_eq, fun _ _ v u Q _ r1 r2 q => by
  have r1 : v = .str i := r1.1
  have r2 : u = .str j := r2.1
  subst r1 r2
  exact ⟨rfl, by rw [show decide (V.str i = V.str j) = decide (i = j) by simp]; exact q⟩⟩
theorem c_neS {i j : Str} : Cmp2 p .NotEq i j (!decide (i = j)) := ⟨_, fun _ _ => op_ne, fun _ _ v u Q _ r1 r2 q => by
  have r1 : v = .str i := r1.1
  have r2 : u = .str j := r2.1
  subst r1 r2
  exact ⟨rfl, by rw [show decide (V.str i = V.str j) = decide (i = j) by simp]; exact q⟩⟩
theorem c_eqB {i j : Bool} : Cmp2 p .Eq i j (decide (i = j)) := ⟨_, fun _ _ => op_eq, fun _ _ v u Q _ r1 r2 q => by
  have r1 : v = .bl i := r1
  have r2 : u = .bl j := r2
  subst r1 r2
  exact ⟨rfl, by rw [show decide (V.bl i = V.bl j) = decide (i = j) by simp]; exact q⟩⟩
theorem c_neB {i j : Bool} : Cmp2 p .NotEq i j (!decide (i = j)) := ⟨_, fun _ _ => op_ne, fun _ _ v u Q _ r1 r2 q => by
  have r1 : v = .bl i := r1
  have r2 : u = .bl j := r2
  subst r1 r2
  exact ⟨rfl, by rw [show decide (V.bl i = V.bl j) = decide (i = j) by simp]; exact q⟩⟩
/-- x is None, x an option of things that are never None -/
class NoN (α : Type) [Py α] : Prop where
  no : ∀ {K : PySem.W.Frag} {B : Hp} {v : V} {a : α}, rep K B v a → v ≠ .non
instance : NoN Int := ⟨fun h z => by rw [z] at h; cases h⟩
instance : NoN Str := ⟨fun h z => by have h := h.1; rw [z] at h; cases h⟩
instance : NoN Bool := ⟨fun h z => by rw [z] at h; cases h⟩
instance {β : Type} [Ob β] : NoN β := ⟨fun ⟨_, _, e, _⟩ z => by rw [z] at e; cases e⟩
instance {α : Type} [Py α] : NoN (Tup α) := ⟨fun ⟨_, _, e, _⟩ z => by rw [z] at e; cases e⟩
instance {α β : Type} [Py α] [Py β] : NoN (α × β) := ⟨fun ⟨_, _, _, e, _⟩ z => by rw [z] at e; cases e⟩
instance {α β γ : Type} [Py α] [Py β] [Py γ] : NoN (T3 α β γ) := ⟨fun ⟨_, _, _, _, e, _⟩ z => by rw [z] at e; cases e⟩
instance {α β γ δ : Type} [Py α] [Py β] [Py γ] [Py δ] : NoN (T4 α β γ δ) := ⟨fun ⟨_, _, _, _, _, e, _⟩ z => by rw [z] at e; cases e⟩
instance {α β γ δ ε : Type} [Py α] [Py β] [Py γ] [Py δ] [Py ε] : NoN (T5 α β γ δ ε) := ⟨fun ⟨_, _, _, _, _, _, e, _⟩ z => by rw [z] at e; cases e⟩
theorem opt_non {α : Type} [Py α] [NoN α] {K : PySem.W.Frag} {B : Hp} {v : V} {o : Option α} (r : rep K B v o) : decide (v = .non) = o.isNone := by
  cases o with
  | none => have r : v = .non := r; rw [r]; rfl
  | some a => rw [decide_eq_false (NoN.no (show rep K B v a from r))]; rfl
theorem c_isN {α : Type} [Py α] [NoN α] {o : Option α} : Cmp2 p .Is o () o.isNone := ⟨_, fun _ _ => op_isN, fun _ _ v u Q _ r1 r2 q => ⟨r2, by rw [opt_non r1]; exact q⟩⟩
theorem c_notN {α : Type} [Py α] [NoN α] {o : Option α} : Cmp2 p .IsNot o () (!o.isNone) := ⟨_, fun _ _ => op_notN, fun _ _ v u Q _ r1 r2 q => ⟨r2, by rw [opt_non r1]; exact q⟩⟩
/-- a chain a op b op' c -/
theorem px_chain {c : Expr} {α β γ : Type} [Py α] [Py β] [Py γ] {x : α} {y : β} {z : γ} {k k' : Bool} {op op' : CmpOp} (h : Cmp2 p op x y k) (h' : Cmp2 p op' y z k') (ha : PX p a τ (.sh x)) (hb : PX p b τ (.sh y)) (hc : PX p c τ (.sh z))
    (hm : lastMarks [op, op'] [b, c] = false) : PX p (.Compare a [op, op'] [b, c] pos) τ (.sh (k && k')) := fun B0 H0 B H σ ok Q q => by
  obtain ⟨r, h1, h2⟩ := h.h
  obtain ⟨r', h1', h2'⟩ := h'.h
  refine ⟨tChain r r' (EE p a) (EE p b) (EE p c), fun X hX => pe_chain (h1 X hX) (h1' X hX) (ee hX) (ee hX) (ee hX) hm, ?_⟩
  refine ha B0 H0 B H σ ok _ fun B1 H1 v1 x1 r1 => ?_
  refine hb B0 H0 B1 H1 σ (ok.go x1) _ fun B2 H2 v2 x2 r2 => ?_
  have ok2 := (ok.go x1).go x2
  refine h2 B2 H2 v1 v2 _ x2.bh (Py.mono (.of x2.bb) r1) r2 ⟨k, rfl, ?_⟩
  cases k with
  | false => exact iteF (q B2 H2 _ (x1.trans x2) rfl)
  | true =>
    refine iteT (hc B0 H0 B2 H2 σ ok2 _ fun B3 H3 v3 x3 r3 => ?_)
    exact h2' B3 H3 v2 v3 Q x3.bh (Py.mono (.of x3.bb) r2) r3 (q B3 H3 _ ((x1.trans x2).trans x3) (by simp [Vok, Py.rep]))
theorem pt_chain {c : Expr} {α β γ : Type} [Py α] [Py β] [Py γ] {x : α} {y : β} {z : γ} {k k' : Bool} {op op' : CmpOp} (h : Cmp2 p op x y k) (h' : Cmp2 p op' y z k') (ha : PX p a τ (.sh x)) (hb : PX p b τ (.sh y)) (hc : PX p c τ (.sh z))
    (hm : lastMarks [op, op'] [b, c] = false) : PTx p (.Compare a [op, op'] [b, c] pos) τ (k && k') := fun B0 H0 B H σ ok Q q => by
  obtain ⟨r, h1, h2⟩ := h.h
  obtain ⟨r', h1', h2'⟩ := h'.h
  refine ⟨tTest (tChain r r' (EE p a) (EE p b) (EE p c)), fun X hX => L2.pt_chain (h1 X hX) (h1' X hX) (ee hX) (ee hX) (ee hX) hm, ?_⟩
  refine ha B0 H0 B H σ ok _ fun B1 H1 v1 x1 r1 => ?_
  refine hb B0 H0 B1 H1 σ (ok.go x1) _ fun B2 H2 v2 x2 r2 => ?_
  have ok2 := (ok.go x1).go x2
  refine h2 B2 H2 v1 v2 _ x2.bh (Py.mono (.of x2.bb) r1) r2 ⟨k, rfl, ?_⟩
  cases k with
  | false => exact iteF ⟨false, rfl, q B2 H2 (x1.trans x2)⟩
  | true =>
    refine iteT (hc B0 H0 B2 H2 σ ok2 _ fun B3 H3 v3 x3 r3 => ?_)
    exact h2' B3 H3 v2 v3 _ x3.bh (Py.mono (.of x3.bb) r2) r3 ⟨k', rfl, q B3 H3 ((x1.trans x2).trans x3)⟩

/-! ### truth -/
theorem pt_val {c : Bool} (h : PX p e τ (.sh c)) (he : ∀ env whole, isTrue e env whole = (do let v ← whole; standAt e.pos; holding [v] (truthy v))) : PTx p e τ c := fun B0 H0 B H σ ok Q q =>
  ⟨tB (EE p e), fun X hX => L2.pt_val (ee hX) (he _), h B0 H0 B H σ ok _ fun B1 H1 v1 x1 r1 => ⟨c, r1, q B1 H1 x1⟩⟩
theorem pt_not {c : Bool} (h : PTx p a τ c) : PTx p (.UnaryOp .Not a pos) τ (!c) := fun B0 H0 B H σ ok Q q =>
  ⟨tNot (ET p a), fun X hX => L2.pt_not (et hX), h B0 H0 B H σ ok _ fun B1 H1 x1 => q B1 H1 x1⟩
theorem px_not {c : Bool} (h : PX p a τ (.sh c)) : PX p (.UnaryOp .Not a pos) τ (.sh (!c)) := fun B0 H0 B H σ ok Q q =>
  ⟨tNotV (EE p a), fun X hX => pe_not (ee hX), h B0 H0 B H σ ok _ fun B1 H1 v1 x1 r1 => ⟨c, r1, q B1 H1 _ x1 rfl⟩⟩
variable {rest : List Expr}
theorem pw_and1 {c : Bool} (h : PTx p a τ c) : PWx p (.BoolOp .And [a] pos) τ c := fun B0 H0 B H σ ok Q q => ⟨ET p a, fun X hX => L2.pw_and1 (et hX), h B0 H0 B H σ ok _ q⟩
theorem pw_or1 {c : Bool} (h : PTx p a τ c) : PWx p (.BoolOp .Or [a] pos) τ c := fun B0 H0 B H σ ok Q q => ⟨ET p a, fun X hX => L2.pw_or1 (et hX), h B0 H0 B H σ ok _ q⟩
theorem pw_and {c d : Bool} (h : PTx p a τ c) (k : c = true → PWx p (.BoolOp .And (b :: rest) pos) τ d) : PWx p (.BoolOp .And (a :: b :: rest) pos) τ (c && d) := fun B0 H0 B H σ ok Q q => by
  refine ⟨tAnd (ET p a) (EW p (.BoolOp .And (b :: rest) pos)), fun X hX => L2.pw_and (et hX) (ew hX), h B0 H0 B H σ ok _ fun B1 H1 x1 => ?_⟩
  cases c with
  | true => exact iteT (k rfl B0 H0 B1 H1 σ (ok.go x1) _ fun B2 H2 x2 => by simpa using q B2 H2 (x1.trans x2))
  | false => exact iteF (q B1 H1 x1)
theorem pw_or {c d : Bool} (h : PTx p a τ c) (k : c = false → PWx p (.BoolOp .Or (b :: rest) pos) τ d) : PWx p (.BoolOp .Or (a :: b :: rest) pos) τ (c || d) := fun B0 H0 B H σ ok Q q => by
  refine ⟨tOr (ET p a) (EW p (.BoolOp .Or (b :: rest) pos)), fun X hX => L2.pw_or (et hX) (ew hX), h B0 H0 B H σ ok _ fun B1 H1 x1 => ?_⟩
  cases c with
  | true => exact iteT (q B1 H1 x1)
  | false => exact iteF (k rfl B0 H0 B1 H1 σ (ok.go x1) _ fun B2 H2 x2 => by simpa using q B2 H2 (x1.trans x2))
theorem pt_w {c : Bool} (h : PWx p e τ c) : PTx p e τ c := fun B0 H0 B H σ ok Q q => ⟨EW p e, fun X hX => PW.pt (ew hX), h B0 H0 B H σ ok _ q⟩
theorem px_one {s : Sl} {op : BoolOp} (h : PX p a τ s) : PX p (.BoolOp op [a] pos) τ s := fun B0 H0 B H σ ok Q q => ⟨EE p a, fun X hX => pe_one (ee hX), h B0 H0 B H σ ok _ q⟩
theorem px_and {c d : Bool} (h : PX p a τ (.sh c)) (k : c = true → PX p (.BoolOp .And (b :: rest) pos) τ (.sh d)) : PX p (.BoolOp .And (a :: b :: rest) pos) τ (.sh (c && d)) := fun B0 H0 B H σ ok Q q => by
  refine ⟨tAndV (EE p a) (EE p (.BoolOp .And (b :: rest) pos)), fun X hX => pe_and (ee hX) (ee hX), h B0 H0 B H σ ok _ fun B1 H1 v1 x1 r1 => ⟨c, r1, ?_⟩⟩
  cases c with
  | true => exact iteT (k rfl B0 H0 B1 H1 σ (ok.go x1) _ fun B2 H2 v2 x2 r2 => q B2 H2 v2 (x1.trans x2) (by simpa [Vok] using r2))
  | false => exact iteF (q B1 H1 _ x1 rfl)
theorem px_or {c d : Bool} (h : PX p a τ (.sh c)) (k : c = false → PX p (.BoolOp .Or (b :: rest) pos) τ (.sh d)) : PX p (.BoolOp .Or (a :: b :: rest) pos) τ (.sh (c || d)) := fun B0 H0 B H σ ok Q q => by
  refine ⟨tOrV (EE p a) (EE p (.BoolOp .Or (b :: rest) pos)), fun X hX => pe_or (ee hX) (ee hX), h B0 H0 B H σ ok _ fun B1 H1 v1 x1 r1 => ⟨c, r1, ?_⟩⟩
  cases c with
  | true => exact iteT (q B1 H1 _ x1 rfl)
  | false => exact iteF (k rfl B0 H0 B1 H1 σ (ok.go x1) _ fun B2 H2 v2 x2 r2 => q B2 H2 v2 (x1.trans x2) (by simpa [Vok] using r2))

/-! ### argument lists, displays -/
variable {es : List Expr}
theorem pax_nil : PAx p [] τ [] := fun B0 H0 B H σ ok Q q => ⟨tNil, fun _ _ => pa_nil, q B H [] (.refl ok.bh) .nil⟩
theorem pax_cons {α : Type} [Py α] {x : α} {ss : List Sl} (h : PX p e τ (.sh x)) (k : PAx p es τ ss) (hs : ∀ env, starEach (e :: es) env = (false, eval e env) :: starEach es env := by intro _; rfl) : PAx p (e :: es) τ (.sh x :: ss) := fun B0 H0 B H σ ok Q q => by
  refine ⟨tCons (EE p e) (EA p es), fun X hX => pa_cons (ee hX) (ea hX) (hs _), h B0 H0 B H σ ok _ fun B1 H1 v1 x1 r1 => ?_⟩
  refine k B0 H0 B1 H1 σ (ok.go x1) _ fun B2 H2 vs x2 r2 => q B2 H2 (v1 :: vs) (x1.trans x2) (.cons ?_ r2)
  exact Py.mono (.of x2.bb) (show rep p.K B1 v1 x from r1)
theorem px_tup {ss : List Sl} {α : Type} [Py α] {x : α} {j : Nat} (h : PAx p es τ ss) (hl : ss.length ≤ sizeLine) (r : ∀ B vs q, All2 (Shr p.K B) vs ss → B q = some (.tup vs) → rep p.K B (.ref q) x) : PX p (.Tuple es j pos) τ (.sh x) := fun B0 H0 B H σ ok Q q => by
  refine ⟨tTup (EA p es), fun X hX => pe_tup (ea hX), h B0 H0 B H σ ok _ fun B1 H1 vs x1 r1 => ⟨by rw [r1.length]; exact hl, fun a na => ?_⟩⟩
  have x2 := Ext.laid (o := .tup vs) x1.bh na
  refine q _ _ _ (x1.trans x2) (r _ vs a (r1.imp fun v s g => ?_) upd_same)
  cases s with
  | sh y => exact Py.mono (.of x2.bb) g
  | un => exact g
  | ow y => exact g
section
variable {α β γ δ ε : Type} [Py α] [Py β] [Py γ] [Py δ] [Py ε] {x : α} {y : β} {z : γ} {u : δ} {w : ε} {j : Nat}
theorem px_tup1 (h : PAx p es τ [.sh x]) : PX p (.Tuple es j pos) τ (.sh (T1.mk x)) := px_tup h (by show 1 ≤ sizeLine; decide) fun B vs q r e => by
  cases r with
  | cons r1 r => cases r; exact ⟨q, _, rfl, e, r1⟩
theorem px_tup2 (h : PAx p es τ [.sh x, .sh y]) : PX p (.Tuple es j pos) τ (.sh (x, y)) := px_tup h (by show 2 ≤ sizeLine; decide) fun B vs q r e => by
  cases r with
  | cons r1 r => cases r with
    | cons r2 r => cases r; exact ⟨q, _, _, rfl, e, r1, r2⟩
theorem px_tup3 (h : PAx p es τ [.sh x, .sh y, .sh z]) : PX p (.Tuple es j pos) τ (.sh (T3.mk x y z)) := px_tup h (by show 3 ≤ sizeLine; decide) fun B vs q r e => by
  cases r with
  | cons r1 r => cases r with
    | cons r2 r => cases r with
      | cons r3 r => cases r; exact ⟨q, _, _, _, rfl, e, r1, r2, r3⟩
theorem px_tup4 (h : PAx p es τ [.sh x, .sh y, .sh z, .sh u]) : PX p (.Tuple es j pos) τ (.sh (T4.mk x y z u)) := px_tup h (by show 4 ≤ sizeLine; decide) fun B vs q r e => by
  cases r with
  | cons r1 r => cases r with
    | cons r2 r => cases r with
      | cons r3 r => cases r with
        | cons r4 r => cases r; exact ⟨q, _, _, _, _, rfl, e, r1, r2, r3, r4⟩
theorem px_tup5 (h : PAx p es τ [.sh x, .sh y, .sh z, .sh u, .sh w]) : PX p (.Tuple es j pos) τ (.sh (T5.mk x y z u w)) := px_tup h (by show 5 ≤ sizeLine; decide) fun B vs q r e => by
  cases r with
  | cons r1 r => cases r with
    | cons r2 r => cases r with
      | cons r3 r => cases r with
        | cons r4 r => cases r with
          | cons r5 r => cases r; exact ⟨q, _, _, _, _, _, rfl, e, r1, r2, r3, r4, r5⟩
end
/-- a new list of readable things of one kind -/
theorem px_lst {α : Type} [Py α] {xs : List α} {ss : List Sl} (h : PAx p es τ ss) (e : ss = xs.map fun x => .sh x) (hl : xs.length ≤ sizeLine) : PX p (.List es pos) τ (.ow xs) := fun B0 H0 B H σ ok Q q => by
  subst e
  refine ⟨tLst (EA p es), fun X hX => pe_lst (ea hX), h B0 H0 B H σ ok _ fun B1 H1 vs x1 r1 => ⟨by rw [r1.length, List.length_map]; exact hl, fun a na => ?_⟩⟩
  refine q _ _ _ (x1.trans (Ext.made x1.bh na)) ⟨a, .lst vs, rfl, x1.hh.free na, ?_, upd_same, vs, rfl, ?_⟩
  · cases g : B1 a with
    | none => rfl
    | some o => rw [x1.bh a o g] at na; cases na
  · clear q h x1 ok
    induction xs generalizing vs with
    | nil => cases r1; exact .nil
    | cons x r ih => cases r1 with
      | cons r2 r3 => exact .cons r2 (ih (by rw [List.length_cons] at hl; omega) _ r3)
/-- what is new may be read from now on -/
theorem px_pub {β : Type} [Ob β] {x : β} (h : PX p e τ (.ow x)) : PX p e τ (.sh x) := fun B0 H0 B H σ ok Q q => by
  refine h B0 H0 B H σ ok Q fun B1 H1 v x1 ⟨a, o, e1, n, nb, hp, r⟩ => ?_
  subst e1
  have x2 := x1.pub n nb hp
  exact q _ _ _ x2 ⟨a, o, rfl, .of upd_same, Ob.omono (.of (same_upd nb)) r⟩
end
end Ly

namespace Ly
open PySem PySem.Spec PyProof.Rows L2
open Py
section
variable {p : Par} {τ τ1 : List Sl} {R : Post} {st : Stmt} {sts rest : List Stmt} {e a b : Expr} {pos : Pos}

theorem Ok.rebase {K : PySem.W.Frag} {B0 H0 B1 H1 B H : Hp} {σ : L2.St} {τ : List Sl} (x : Ext B0 H0 B1 H1) (h : Ok K B1 H0 B H σ τ) : Ok K B0 H0 B H σ τ :=
  ⟨⟨h.ext.bh, h.ext.hh, x.bb.trans h.ext.bb, fun a e n => h.ext.nw a (x.nw a e n) n⟩, h.len, h.at_, h.dis⟩
theorem Ok.tobase {K : PySem.W.Frag} {B0 H0 B1 H1 : Hp} {σ : L2.St} {τ : List Sl} (h : Ok K B0 H0 B1 H1 σ τ) : Ok K B1 H0 B1 H1 σ τ :=
  ⟨⟨h.ext.bh, h.ext.hh, Same.refl _, fun _ e _ => e⟩, h.len, h.at_, h.dis⟩
theorem Ext.rebase {B0 H0 B1 H1 B H : Hp} (x : Ext B0 H0 B1 H1) (h : Ext B1 H0 B H) : Ext B0 H0 B H :=
  ⟨h.bh, h.hh, x.bb.trans h.bb, fun a e n => h.nw a (x.nw a e n) n⟩
theorem Emb.rebase {K : PySem.W.Frag} {B0 H0 B1 H1 : Hp} {D : Ends} {R : Post} (x : Ext B0 H0 B1 H1) (h : Emb K B0 H0 D R) : Emb K B1 H0 D R :=
  ⟨fun B H σ τ ok q => h.nx B H σ τ (ok.rebase x) q, fun B H v s y r q => h.rt B H v s (x.rebase y) r q⟩

/-! ### blocks -/
/-- a statement that goes on, from τ to τ1 -/
def D1 (p : Par) (st : Stmt) (τ τ1 : List Sl) : Prop := ∀ R : Post, R.nx τ1 → S1 p st τ R
theorem sx_nil (h : R.nx τ) : SX p [] τ R := fun B0 H0 B H σ ok D em => ⟨tNext, fun _ _ => pss_nil, em.nx B H σ τ ok h⟩
theorem sx_one (h : S1 p st τ R) : SX p [st] τ R := fun B0 H0 B H σ ok D em => ⟨ES p st, fun X hX => pss_one (es_ hX), h B0 H0 B H σ ok D em⟩
theorem sx_cons (I : List Sl → Prop) (h : S1 p st τ ⟨I, R.rt⟩) (k : ∀ τ', I τ' → SX p rest τ' R) : SX p (st :: rest) τ R := fun B0 H0 B H σ ok D em =>
  ⟨tSeq (ES p st) (EB p rest), fun X hX => pss_cons (es_ hX) (eb hX), h B0 H0 B H σ ok { D with nx := EB p rest D } ⟨fun B' H' σ' τ' ok' q => k τ' q B0 H0 B' H' σ' ok' D em, em.rt⟩⟩
theorem sx_step (h : D1 p st τ τ1) (k : SX p rest τ1 R) : SX p (st :: rest) τ R := sx_cons (fun τ' => τ' = τ1) (h _ rfl) fun _ z => z ▸ k
theorem S1.imp {R' : Post} (h : S1 p st τ R') (n : ∀ τ, R'.nx τ → R.nx τ) (r : ∀ s, R'.rt s → R.rt s) : S1 p st τ R := fun B0 H0 B H σ ok D em =>
  h B0 H0 B H σ ok D ⟨fun B H σ τ ok q => em.nx B H σ τ ok (n τ q), fun B H v s x vo q => em.rt B H v s x vo (r s q)⟩
theorem SX.imp {R' : Post} (h : SX p sts τ R') (n : ∀ τ, R'.nx τ → R.nx τ) (r : ∀ s, R'.rt s → R.rt s) : SX p sts τ R := fun B0 H0 B H σ ok D em =>
  h B0 H0 B H σ ok D ⟨fun B H σ τ ok q => em.nx B H σ τ ok (n τ q), fun B H v s x vo q => em.rt B H v s x vo (r s q)⟩
/-- forgetting slots -/
theorem sx_weak {τ' : List Sl} (hl : τ'.length = τ.length) (w : ∀ (i : Nat) (s : Sl), τ'[i]? = some s → s = .un ∨ τ[i]? = some s) (h : SX p sts τ' R) : SX p sts τ R := fun B0 H0 B H σ ok D em =>
  h B0 H0 B H σ (ok.weak hl w) D em

/-! ### simple statements -/
theorem s_set (i : Nat) {s : Sl} {x : Str} {pos' : Pos} (nd : p.N.Nodup) (hN : p.N[i]? = some x) (hx : Loc p.sc x) (hf : p.fn x = true ∨ p.sc.names.lookup x = some .local) (h : PX p e τ s)
    (hs : ∀ env, swapsWith e (some (.Name x pos')) pos.line env = pure false) : D1 p (.Assign [.Name x pos'] e pos) τ (τ.set i s) := fun R hR B0 H0 B H σ ok D em => by
  refine ⟨tAsg (EE p e) (gName i), fun X hX => ?_, h B0 H0 B H σ ok _ fun B1 H1 v x1 r1 => em.nx B1 H1 _ _ (ok.putN x1 r1) hR⟩
  have hX' := hX
  obtain ⟨k, rfl, _⟩ := hX'
  exact ps_set nd hN hx (ee hX) (hs _) hf
theorem s_expr {s : Sl} (h : PX p e τ s) (hs : ∀ env, swapsWith e none pos.line env = pure false) : D1 p (.Expr e pos) τ τ := fun R hR B0 H0 B H σ ok D em =>
  ⟨tDrop (EE p e), fun X hX => ps_expr (ee hX) (hs _), h B0 H0 B H σ ok _ fun B1 H1 v x1 r1 => em.nx B1 H1 _ _ (ok.go x1) hR⟩
theorem s_pass : D1 p (.Pass pos) τ τ := fun R hR B0 H0 B H σ ok D em => ⟨tNext, fun _ _ => ps_pass, em.nx B H σ τ ok hR⟩
theorem s_ret {s : Sl} (h : PX p e τ s) (hR : R.rt s) : S1 p (.Return (some e) pos) τ R := fun B0 H0 B H σ ok D em =>
  ⟨tRet (EE p e), fun X hX => ps_ret (ee hX), h B0 H0 B H σ ok _ fun B1 H1 v x1 r1 => em.rt B1 H1 v s (ok.ext.trans x1) (r1.base ok.ext.hh) hR⟩
/-- a name is handed back, whatever it holds -/
theorem s_retV (i : Nat) {s : Sl} {x : Str} {pos' : Pos} (hN : p.N[i]? = some x) (hv : Vis p.sc x) (hτ : τ[i]? = some s) (hs : s ≠ .un) (hd : (x == ("__debug__" : Str)) = false) (hc : (x == ("__classdict__" : Str)) = false) (hR : R.rt s) :
    S1 p (.Return (some (.Name x pos')) pos) τ R := fun B0 H0 B H σ ok D em => by
  refine ⟨tRet (tVar i), fun X hX => ?_, ?_⟩
  · obtain ⟨k, rfl, _⟩ := hX
    exact ps_ret (pe_var hN hv hd hc)
  · rcases ok.at_ i s hτ with z | ⟨v, e1, r⟩
    · exact absurd z hs
    · exact ⟨v, e1, em.rt B H v s ok.ext r hR⟩
theorem s_retN (hR : R.rt (.sh ())) : S1 p (.Return none pos) τ R := fun B0 H0 B H σ ok D em => ⟨tRetN, fun _ _ => ps_retN, em.rt B H .non (.sh ()) ok.ext rfl hR⟩
theorem s_if {c : Expr} {k : Bool} {bt bf : List Stmt} (hc : PTx p c τ k) (ht : k = true → SX p bt τ R) (hf : k = false → SX p bf τ R) : S1 p (.If c bt bf pos) τ R := fun B0 H0 B H σ ok D em => by
  refine ⟨tIfS (ET p c) (EB p bt) (EB p bf), fun X hX => ps_if (et hX) (eb hX) (eb hX), hc B0 H0 B H σ ok _ fun B1 H1 x1 => ?_⟩
  cases k with
  | true => exact iteT (ht rfl B0 H0 B1 H1 σ (ok.go x1) D em)
  | false => exact iteF (hf rfl B0 H0 B1 H1 σ (ok.go x1) D em)
theorem s_never (h : False) : S1 p st τ R := h.elim

/-! ### targets -/
theorem upto_set (σ : L2.St) (i : Nat) (v : Option V) : Upto [i] σ (σ.set i v) := ⟨List.length_set, fun j h => by rw [List.getElem?_set_ne (fun z => h (by simp [z]))]⟩
theorem gx_name (i : Nat) {s : Sl} {x : Str} (nd : p.N.Nodup) (hN : p.N[i]? = some x) (hx : Loc p.sc x) (hf : p.fn x = true ∨ p.sc.names.lookup x = some .local) (hs : match s with | @Sl.sh _ _ _ => True | _ => False) :
    GX p (.Name x pos) [i] s τ (τ.set i s) := fun B0 H0 B H σ v ok r Q q => by
  refine ⟨gName i, fun X hX => ?_, q _ ?_ (upto_set σ i _)⟩
  · obtain ⟨k, rfl, _⟩ := hX
    exact pg_name nd hN hx hf
  · cases s with
    | sh y => exact ok.putN (.refl ok.bh) (show rep p.K B v y from r)
    | un => exact hs.elim
    | ow y => exact hs.elim
theorem gxs_nil : GXs p [] [] [] τ τ := fun B0 H0 B H σ vs ok r Q q => ⟨gNil, fun _ _ => pgs_nil, by cases r; exact ⟨rfl, q σ ok ⟨rfl, fun _ _ => rfl⟩⟩⟩
theorem gxs_cons {tg : Expr} {tgs : List Expr} {w ws : List Nat} {s : Sl} {ss : List Sl} {τ2 : List Sl} (h : GX p tg w s τ τ1) (k : GXs p tgs ws ss τ1 τ2) (hs : ∀ env, (assignEach (tg :: tgs) env).map (·.2) = assign tg env :: (assignEach tgs env).map (·.2)) :
    GXs p (tg :: tgs) (w ++ ws) (s :: ss) τ τ2 := fun B0 H0 B H σ vs ok r Q q => by
  refine ⟨gCons (EG p tg) (EGs p tgs), fun X hX => pgs_cons (eg hX) (egs hX) (hs _), ?_⟩
  cases r with
  | cons r1 r2 =>
    refine ⟨_, _, rfl, h B0 H0 B H σ _ ok r1 _ fun σ1 ok1 u1 => k B0 H0 B H σ1 _ ok1 r2 _ fun σ2 ok2 u2 => q σ2 ok2 ⟨u2.1.trans u1.1, fun i hi => ?_⟩⟩
    rw [u2.2 i fun z => hi (List.mem_append_right _ z), u1.2 i fun z => hi (List.mem_append_left _ z)]
/-- what a tuple is made of -/
class Flds (α : Type) [Py α] where
  fl : α → List Sl
  ofr : ∀ {K : PySem.W.Frag} {B : Hp} {v : V} {x : α}, rep K B v x → ∃ q vs, v = .ref q ∧ B q = some (.tup vs) ∧ All2 (Shr K B) vs (fl x)
section
variable {α β γ δ ε : Type} [Py α] [Py β] [Py γ] [Py δ] [Py ε]
instance : Flds (T1 α) := ⟨fun t => [.sh t.a], fun ⟨q, x, e, h, r⟩ => ⟨q, _, e, h, .cons r .nil⟩⟩
instance : Flds (α × β) := ⟨fun t => [.sh t.1, .sh t.2], fun ⟨q, x, y, e, h, r, r2⟩ => ⟨q, _, e, h, .cons r (.cons r2 .nil)⟩⟩
instance : Flds (T3 α β γ) := ⟨fun t => [.sh t.a, .sh t.b, .sh t.c], fun ⟨q, x, y, z, e, h, r, r2, r3⟩ => ⟨q, _, e, h, .cons r (.cons r2 (.cons r3 .nil))⟩⟩
instance : Flds (T4 α β γ δ) := ⟨fun t => [.sh t.a, .sh t.b, .sh t.c, .sh t.d], fun ⟨q, x, y, z, u, e, h, r, r2, r3, r4⟩ => ⟨q, _, e, h, .cons r (.cons r2 (.cons r3 (.cons r4 .nil)))⟩⟩
instance : Flds (T5 α β γ δ ε) := ⟨fun t => [.sh t.a, .sh t.b, .sh t.c, .sh t.d, .sh t.e], fun ⟨q, x, y, z, u, w, e, h, r, r2, r3, r4, r5⟩ => ⟨q, _, e, h, .cons r (.cons r2 (.cons r3 (.cons r4 (.cons r5 .nil))))⟩⟩
theorem all2_sh {K : PySem.W.Frag} {B : Hp} : ∀ {vs : List V} {xs : List α}, All2 (rep K B) vs xs → All2 (Shr K B) vs (xs.map fun x => .sh x)
  | _, _, .nil => .nil
  | _, _, .cons r t => .cons r (all2_sh t)
theorem all2_unsh {K : PySem.W.Frag} {B : Hp} : ∀ {xs : List α} {vs : List V}, All2 (Shr K B) vs (xs.map fun x => Sl.sh x) → All2 (rep K B) vs xs
  | [], _, h => by cases h; exact .nil
  | _ :: _, _, h => by cases h with | cons r t => exact .cons r (all2_unsh t)
instance : Flds (Tup α) := ⟨fun t => t.l.map fun x => .sh x, fun ⟨q, vs, e, h, r⟩ => ⟨q, vs, e, h, all2_sh r⟩⟩
end
theorem gx_tup {α : Type} [Py α] [Flds α] {x : α} {es : List Expr} {w : List Nat} {j : Nat} (h : GXs p es w (Flds.fl x) τ τ1) (hn : ∀ env, (assignEach es env).length = (Flds.fl x).length) (hst : ∀ env, (assignEach es env).findIdx? (·.1) = none) :
    GX p (.Tuple es j pos) w (.sh x) τ τ1 := fun B0 H0 B H σ v ok r Q q => by
  obtain ⟨a, vs, e, ha, r2⟩ := Flds.ofr (show rep p.K B v x from r)
  refine ⟨gTup p.K (Flds.fl x).length (EGs p es), fun X hX => ?_, a, vs, e, .of (ok.bh _ _ ha), r2.length, h B0 H0 B H σ vs ok r2 Q q⟩
  have hX' := hX
  obtain ⟨k, rfl, calm, _⟩ := hX'
  exact pg_tup calm (egs hX) (hn _) (hst _)
/-- a, b = e -/
theorem s_asg {tg : Expr} {w : List Nat} {α : Type} [Py α] {x : α} (he : PX p e τ (.sh x)) (hg : GX p tg w (.sh x) τ τ1) (hs : ∀ env, swapsWithSole [tg] e pos.line env = pure false) (hw : ∀ env, swappedStores [tg] e env = pure none)
    (h1 : ∀ env, (assignEach [tg] env).map (·.2) = [assign tg env]) : D1 p (.Assign [tg] e pos) τ τ1 := fun R hR B0 H0 B H σ ok D em =>
  ⟨tAsg (EE p e) (EG p tg), fun X hX => ps_asg (ee hX) (eg hX) (hs _) (hw _) (h1 _), he B0 H0 B H σ ok _ fun B1 H1 v x1 r1 => hg B0 H0 B1 H1 σ v (ok.go x1) r1 _ fun σ' ok' _ => em.nx B1 H1 σ' τ1 ok' hR⟩

/-! ### for -/
theorem s_for {tg iter : Expr} {body : List Stmt} {w : List Nat} {items : List Sl} (I : Nat → List Sl → Prop) (hi : IX p tg iter τ items) (h0 : I 0 τ)
    (hs : ∀ i s τi, items[i]? = some s → I i τi → ∃ τ', GX p tg w s τi τ' ∧ SX p body τ' ⟨I (i + 1), R.rt⟩) (hd : ∀ τn, I items.length τn → R.nx τn)
    (hf : ∀ env x, foldedSetIterable iter env x = pure x) : S1 p (.For tg iter body [] pos) τ R := fun B0 H0 B H σ ok D em => by
  refine ⟨tFor (EI p tg iter) (EG p tg) (EB p body), fun X hX => ?_, hi B0 H0 B H σ ok _ fun B1 H1 J x1 tj => ?_⟩
  · have hX' := hX
    obtain ⟨k, rfl, calm, _, po⟩ := hX'
    exact ps_for po calm (ei hX) (eg hX) (eb hX) (hf _)
  · have ok1 := ok.go x1
    have em1 := em.rebase ok1.ext
    refine ⟨fun i m σ H => m = items.length - i ∧ i ≤ items.length ∧ ∃ B τ, Ok p.K B1 H0 B H σ τ ∧ I i τ, ⟨_, rfl, Nat.zero_le _, B1, τ, ok1.tobase, h0⟩, ?_⟩
    rintro i m σ2 H2 ⟨rfl, hin, B2, τ2, ok2, inv⟩
    obtain ⟨tg1, tstop⟩ := tj B2 H2 ok2.ext.bb ok2.bh
    by_cases hlt : i < items.length
    · obtain ⟨s, hsi⟩ : ∃ s, items[i]? = some s := ⟨items[i], List.getElem?_eq_getElem hlt⟩
      obtain ⟨go, yl⟩ := tg1 i s hsi
      obtain ⟨τ', gx, sx⟩ := hs i s τ2 hsi inv
      refine .inr ⟨go, fun σ' H' => ∃ B τ, Ok p.K B1 H0 B H' σ' τ ∧ I (i + 1) τ, fun σ' H' n => ⟨_, by omega, rfl, hlt, n⟩, fun x H' y => ?_⟩
      obtain ⟨B3, x3, r3⟩ := yl x H' y
      refine gx B1 H0 B3 H' σ2 x (ok2.go x3) r3 _ fun σ4 ok4 _ => ?_
      exact sx B1 H0 B3 H' σ4 ok4 _ ⟨fun B H σ τ ok q => ⟨B, τ, ok, q⟩, em1.rt⟩
    · have e : i = items.length := by omega
      subst e
      exact .inl ⟨tstop, em1.nx B2 H2 σ2 τ2 ok2 (hd τ2 inv)⟩

/-! ### while: I by a measure -/
theorem s_while {c : Expr} {body : List Stmt} (I : Nat → List Sl → Prop) (h0 : ∃ m, I m τ)
    (hs : ∀ m τi, I m τi → ∃ k, PTx p c τi k ∧ (k = true → SX p body τi ⟨fun τ' => ∃ m', m' < m ∧ I m' τ', R.rt⟩) ∧ (k = false → R.nx τi)) : S1 p (.While c body [] pos) τ R := fun B0 H0 B H σ ok D em => by
  refine ⟨tWhile (ET p c) (EB p body), fun X hX => ?_, ?_⟩
  · have hX' := hX
    obtain ⟨k, rfl, calm, _, po⟩ := hX'
    exact ps_while po (et hX) (eb hX)
  · obtain ⟨m0, h0⟩ := h0
    refine ⟨fun m σ H => ∃ B τ, Ok p.K B0 H0 B H σ τ ∧ I m τ, ⟨m0, B, τ, ok, h0⟩, ?_⟩
    rintro m σ2 H2 ⟨B2, τ2, ok2, inv⟩
    obtain ⟨k, ht, hb, hd⟩ := hs m τ2 inv
    refine ht B0 H0 B2 H2 σ2 ok2 _ fun B3 H3 x3 => ?_
    cases k with
    | true =>
      refine iteT ⟨fun σ' H' => ∃ m', m' < m ∧ ∃ B τ, Ok p.K B0 H0 B H' σ' τ ∧ I m' τ, fun σ' H' n => n, ?_⟩
      exact hb rfl B0 H0 B3 H3 σ2 (ok2.go x3) _ ⟨fun B H σ τ ok ⟨m', hm, q⟩ => ⟨m', hm, B, τ, ok, q⟩, em.rt⟩
    | false => exact iteF (em.nx B3 H3 σ2 τ2 (ok2.go x3) (hd rfl))

/-! ### a def, its call -/
/-- the def that stands at the module's name x keeps the promise ok, at level k -/
def Cal (P : Program) (w : World) (K : PySem.W.Frag) (mg : Str → Option Value) (base : Heap) (k : Nat) (x : Str) (ok : List Sl → Sl → Prop) : Prop :=
  ∃ (f : Addr) (fd : FuncData) (ps : List Str), FnOk P w K mg base CX0 k f fd ps (spT K ok) ∧ mg x = some (.ref f) ∧ PySem.W.keepIn K (.ref f) = true ∧ Binds K fd ps []
theorem px_call {x : Str} {pp : Pos} {es : List Expr} {as : List Sl} {s : Sl} {k : Nat} {okf : List Sl → Sl → Prop} (G : Cal p.P p.w p.K p.mg p.base k x okf) (hk : k ≤ p.k) (hg : p.sc.names.lookup x = some .globalImplicit)
    (ha : PAx p (e :: es) τ as) (h : okf as s) (hdb : (x == ("__debug__" : Str)) = false)
    (he : ∀ env, starEach (e :: es) env = (false, eval e env) :: starEach es env) (hpl : ∀ env, (backTo pos (starEach es env)).any (·.1) = false) : PX p (.Call (.Name x pp) (e :: es) [] pos) τ s := fun B0 H0 B H σ ok Q q => by
  obtain ⟨f, fd, ps, F, hm, kp, bd⟩ := G
  refine ⟨tCall (spT p.K okf) [] E0 (EA p (e :: es)), fun X hX => ?_, ha B0 H0 B H σ ok _ fun B1 H1 vs x1 r1 => ?_⟩
  · have hX' := hX
    obtain ⟨j, rfl, calm, room, _⟩ := hX'
    exact pe_call F (room.mono hk) hg hm kp bd .nil pass0 (ea hX) hdb (he _) (hpl _)
  · refine ⟨B1, as, s, x1.bh, by rw [List.append_nil]; exact r1, h, fun B' H' v x2 r2 => q B' H' v (x1.trans x2) (r2.base x1.hh)⟩
theorem all2_at {K : PySem.W.Frag} {B H : Hp} {vs : List V} {as : List Sl} (r : All2 (Shr K B) vs as) (n : Nat) (hb : Same B H) : Ok K B H B H (vs.map some ++ List.replicate n none) (as ++ List.replicate n .un) := by
  have sh : ∀ {i : Nat} {s : Sl}, (as ++ List.replicate n .un)[i]? = some s → s = .un ∨ ∃ v, vs[i]? = some v ∧ Shr K B v s := fun {i s} e => by
    by_cases hi : i < as.length
    · rw [List.getElem?_append_left hi] at e
      exact .inr (r.get e)
    · rw [List.getElem?_append_right (by omega), List.getElem?_replicate] at e
      split at e
      · exact .inl (Option.some.inj e).symm
      · cases e
  refine ⟨.refl hb, by simp [r.length], fun i s e => ?_, fun i j s u q e1 e2 o1 o2 f1 f2 => ?_⟩
  · rcases sh e with z | ⟨v, e1, r1⟩
    · exact .inl z
    · refine .inr ⟨v, ?_, ?_⟩
      · rw [List.getElem?_append_left (by rw [List.length_map]; exact lt_of_get e1), List.getElem?_map, e1]; rfl
      · cases s with
        | sh y => exact r1
        | un => exact r1.elim
        | ow y => exact r1.elim
  · rcases sh e1 with z | ⟨v, _, r1⟩
    · rw [z] at o1; exact o1.elim
    · cases s with
      | sh y => exact o1.elim
      | un => exact o1.elim
      | ow y => exact r1.elim
/-- THE RULE for a def -/
theorem fn_T {P : Program} {w : World} {K : PySem.W.Frag} {mg : Str → Option Value} {base : Heap} {x qual : Str} {f : Addr} {fd : FuncData} {N ps : List Str} {k : Nat} {okf : List Sl → Sl → Prop} (F : Fun K x qual st f fd)
    (S : FnScope N ps (defScope st)) (len : ∀ as s, okf as s → as.length = ps.length)
    (body : ∀ as s, okf as s → SX ⟨P, w, K, mg, base, N, defScope st, fun _ => true, k⟩ (defBody st) (as ++ List.replicate (N.length - as.length) .un) ⟨fun _ => s = .sh (), fun u => u = s⟩) : FnOk P w K mg base CX0 (k + 1) f fd ps (spT K okf) := by
  refine F.ok S (fun vs H Q E h => ?_) (fun cdv A outer s H vs Q E hr h => ?_)
  · obtain ⟨B, as, s, _, r, o, _⟩ := h
    rw [r.length]
    exact len as s o
  · obtain ⟨B, as, u, hb, r, o, q⟩ := h
    obtain ⟨t, ht, hq⟩ := body as u o B H B H (L2.start N vs) (by unfold L2.start; rw [r.length]; exact all2_at r _ hb) { nx := fun _ H' => Q .non H', rt := Q }
      ⟨fun B' H' σ τ ok e => q B' H' .non ok.ext (by rw [e]; rfl), fun B' H' v s x vo e => q B' H' v x (by rw [e] at vo; exact vo)⟩
    exact ⟨t, ht _ ⟨k, rfl, rfl, hr, PassesOwn.never⟩, hq⟩
end
end Ly

namespace Ly
open PySem PySem.Spec PyProof.Rows L2
open Py
section
variable {p : Par} {τ τ1 : List Sl} {R : Post} {st : Stmt} {sts rest : List Stmt} {e a b o : Expr} {es : List Expr} {pos : Pos}

/-! ### subscripts -/
/-- t[i], a tuple's field at a known place -/
theorem px_fld (k : Nat) {α : Type} [Py α] [Flds α] {x : α} {i : Int} {s : Sl} (ha : PX p a τ (.sh x)) (hb : PX p b τ (.sh i)) (hi : i = k) (hk : (Flds.fl x)[k]? = some s) (hp : PlainIx b) : PX p (.Subscript a b pos) τ s := fun B0 H0 B H σ ok Q q => by
  refine ⟨tOp (rIxT p.K) (EE p a) (EE p b), fun X hX => ?_, ?_⟩
  · have hX' := hX
    obtain ⟨k, rfl, _⟩ := hX'
    exact pe_ix ix_tup (ee hX) (ee hX) hp
  · refine ha B0 H0 B H σ ok _ fun B1 H1 v1 x1 r1 => ?_
    refine hb B0 H0 B1 H1 σ (ok.go x1) _ fun B2 H2 v2 x2 r2 => ?_
    obtain ⟨c, vs, e1, hc, r⟩ := Flds.ofr (show rep p.K B1 v1 x from r1)
    obtain ⟨v, hv, r3⟩ := r.get hk
    refine ⟨c, vs, i, v, e1, r2, .of (x2.hh _ _ (x1.bh _ _ hc)), by rw [hi]; exact atI_nat hv, q B2 H2 v (x1.trans x2) ?_⟩
    cases s with
    | sh y => exact Py.mono (.of x2.bb) r3
    | un => exact r3.elim
    | ow y => exact r3.elim
theorem fl_tup {α : Type} [Py α] {t : Tup α} {k : Nat} {x : α} (h : t.l[k]? = some x) : (Flds.fl t)[k]? = some (.sh x) := by
  show (t.l.map fun x => Sl.sh x)[k]? = _
  rw [List.getElem?_map, h]; rfl
/-- xs[i], a list -/
theorem px_ixL {α : Type} [Py α] {xs : List α} {i : Int} {y : α} (ha : PX p a τ (.sh xs)) (hb : PX p b τ (.sh i)) (hk : atI xs i = some y) (hp : PlainIx b) : PX p (.Subscript a b pos) τ (.sh y) := fun B0 H0 B H σ ok Q q => by
  refine ⟨tOp (rIxL p.K) (EE p a) (EE p b), fun X hX => ?_, ?_⟩
  · have hX' := hX
    obtain ⟨k, rfl, _⟩ := hX'
    exact pe_ix ix_list (ee hX) (ee hX) hp
  · refine ha B0 H0 B H σ ok _ fun B1 H1 v1 x1 r1 => ?_
    refine hb B0 H0 B1 H1 σ (ok.go x1) _ fun B2 H2 v2 x2 r2 => ?_
    obtain ⟨c, ob, e1, hc, vs, e2, r⟩ := r1
    subst e2
    have hc := hc.lst
    unfold atI at hk
    obtain ⟨j, hj, hk⟩ := Option.bind_eq_some_iff.mp hk
    obtain ⟨v, hv, r3⟩ := r.get hk
    refine ⟨c, vs, i, v, e1, r2, .of (x2.hh _ _ (x1.bh _ _ hc)), ?_, q B2 H2 v (x1.trans x2) (Py.mono (.of x2.bb) r3)⟩
    unfold atI
    rw [r.length, hj]
    exact hv
theorem px_ixTup {α : Type} [Py α] {xs : Tup α} {i : Int} {y : α} (ha : PX p a τ (.sh xs)) (hb : PX p b τ (.sh i)) (hk : atI xs.l i = some y) (hp : PlainIx b) : PX p (.Subscript a b pos) τ (.sh y) := fun B0 H0 B H σ ok Q q => by
  refine ⟨tOp (rIxT p.K) (EE p a) (EE p b), fun X hX => ?_, ?_⟩
  · have hX' := hX
    obtain ⟨k, rfl, _⟩ := hX'
    exact pe_ix ix_tup (ee hX) (ee hX) hp
  · refine ha B0 H0 B H σ ok _ fun B1 H1 v1 x1 r1 => ?_
    refine hb B0 H0 B1 H1 σ (ok.go x1) _ fun B2 H2 v2 x2 r2 => ?_
    obtain ⟨c, vs, e1, hc, r⟩ := r1
    unfold atI at hk
    obtain ⟨j, hj, hk⟩ := Option.bind_eq_some_iff.mp hk
    obtain ⟨v, hv, r3⟩ := r.get hk
    refine ⟨c, vs, i, v, e1, r2, .of (x2.hh _ _ (x1.bh _ _ hc)), ?_, q B2 H2 v (x1.trans x2) (Py.mono (.of x2.bb) r3)⟩
    unfold atI
    rw [r.length, hj]
    exact hv
/-- script[i] -/
theorem px_ixScr {xs : Scr} {i : Int} {y : Int} (ha : PX p a τ (.sh xs)) (hb : PX p b τ (.sh i)) (hk : atI xs.l i = some y) (hp : PlainIx b) : PX p (.Subscript a b pos) τ (.sh y) := fun B0 H0 B H σ ok Q q => by
  refine ⟨tOp (rIxL p.K) (EE p a) (EE p b), fun X hX => ?_, ?_⟩
  · have hX' := hX
    obtain ⟨k, rfl, _⟩ := hX'
    exact pe_ix ix_list (ee hX) (ee hX) hp
  · refine ha B0 H0 B H σ ok _ fun B1 H1 v1 x1 r1 => ?_
    refine hb B0 H0 B1 H1 σ (ok.go x1) _ fun B2 H2 v2 x2 r2 => ?_
    obtain ⟨c, e1, hc⟩ := r1
    refine ⟨c, _, i, .int y, e1, r2, (x1.bh.trans x2.hh).seq hc, ?_, q B2 H2 _ (x1.trans x2) rfl⟩
    unfold atI at hk ⊢
    obtain ⟨j, hj, hk⟩ := Option.bind_eq_some_iff.mp hk
    rw [List.length_map, hj]
    show (xs.l.map V.int)[j]? = _
    rw [List.getElem?_map, hk]; rfl
/-- one sign of a text -/
def sgn (c : Nat) : Str := ⟨#[c]⟩
theorem strOk_all {z : Str} : PySem.PyData.strOk z = true ↔ ∀ c ∈ z.cps.toList, c < 0x110000 := by
  unfold PySem.PyData.strOk
  rw [Array.all_eq_true_iff_forall_mem]
  constructor
  · intro h c hc
    have := h c (by simpa using hc)
    simpa using this
  · intro h c hc
    simpa using h c (by simpa using hc)
theorem atI_mem {α : Type} {xs : List α} {i : Int} {v : α} (h : atI xs i = some v) : v ∈ xs := by
  unfold atI at h
  obtain ⟨j, _, h⟩ := Option.bind_eq_some_iff.mp h
  exact List.mem_of_getElem? h
theorem sg_sgn {z : Str} {c : Nat} (h : SG z) (hc : c ∈ z.cps.toList) : SG (sgn c) := by
  refine ⟨strOk_all.mpr fun d hd => ?_, by show 1 ≤ sizeLine; decide⟩
  have e : d = c := by simpa [sgn] using hd
  rw [e]; exact strOk_all.mp h.1 c hc
theorem px_ixS {z : Str} {i : Int} {c : Nat} (ha : PX p a τ (.sh z)) (hb : PX p b τ (.sh i)) (hk : atI z.cps.toList i = some c) (hp : PlainIx b) : PX p (.Subscript a b pos) τ (.sh (sgn c)) := fun B0 H0 B H σ ok Q q => by
  refine ⟨tOp rIxS (EE p a) (EE p b), fun X hX => pe_ix ix_str (ee hX) (ee hX) hp, ?_⟩
  refine ha B0 H0 B H σ ok _ fun B1 H1 v1 x1 r1 => ?_
  refine hb B0 H0 B1 H1 σ (ok.go x1) _ fun B2 H2 v2 x2 r2 => ?_
  exact ⟨z, i, c, r1.1, r2, r1.2.2, hk, q B2 H2 _ (x1.trans x2) ⟨rfl, sg_sgn r1.2 (atI_mem hk)⟩⟩

/-! ### built-in functions of one value, of two -/
theorem px_b1 {α : Type} [Py α] {x : α} {s : Sl} {f : Str} {id : String} {pp : Pos} {r : List V → Hp → VK → Prop} (hc : ∀ X, p.In X → CallR X (.builtin id) r) (hg : p.sc.names.lookup f = some .globalImplicit) (hm : p.mg f = none) (hv : bootBuiltins f = some (.builtin id))
    (ha : PX p e τ (.sh x)) (h : ∀ B H v Q, Same B H → rep p.K B v x → (∀ B' H' z, Ext B H B' H' → Vok p.K B' H' H z s → Q z H') → r [v] H Q) (hn : f ≠ "__name__") (hdb : (f == ("__debug__" : Str)) = false)
    (he : ∀ env, starEach [e] env = [(false, eval e env)] := by intro _; rfl) : PX p (.Call (.Name f pp) [e] [] pos) τ s := fun B0 H0 B H σ ok Q q => by
  refine ⟨tCB r (tCons (EE p e) tNil), fun X hX => ?_, ha B0 H0 B H σ ok _ fun B1 H1 v x1 r1 => h B1 H1 v Q x1.bh r1 fun B' H' z x2 r2 => q B' H' z (x1.trans x2) (r2.base x1.hh)⟩
  have hX' := hX
  obtain ⟨k, rfl, _⟩ := hX'
  exact pe_callB (hc X hX) hg hm hv (pa_cons (ee hX) pa_nil (he _)) hn hdb (he _) rfl
theorem px_t1 {α : Type} [Py α] {x : α} {s : Sl} {f : Str} {id : String} {pp : Pos} {r : List V → Hp → VK → Prop} (hc : ∀ X, p.In X → CallR X (.type id) r) (hg : p.sc.names.lookup f = some .globalImplicit) (hm : p.mg f = none) (hv : bootBuiltins f = some (.type id))
    (ha : PX p e τ (.sh x)) (h : ∀ B H v Q, Same B H → rep p.K B v x → (∀ B' H' z, Ext B H B' H' → Vok p.K B' H' H z s → Q z H') → r [v] H Q) (hn : f ≠ "__name__") (hdb : (f == ("__debug__" : Str)) = false)
    (he : ∀ env, starEach [e] env = [(false, eval e env)] := by intro _; rfl) : PX p (.Call (.Name f pp) [e] [] pos) τ s := fun B0 H0 B H σ ok Q q => by
  refine ⟨tCB r (tCons (EE p e) tNil), fun X hX => ?_, ha B0 H0 B H σ ok _ fun B1 H1 v x1 r1 => h B1 H1 v Q x1.bh r1 fun B' H' z x2 r2 => q B' H' z (x1.trans x2) (r2.base x1.hh)⟩
  have hX' := hX
  obtain ⟨k, rfl, _⟩ := hX'
  exact pe_callTy (hc X hX) hg hm hv (pa_cons (ee hX) pa_nil (he _)) hn hdb (he _) rfl
theorem px_b2 {α β : Type} [Py α] [Py β] {x : α} {y : β} {s : Sl} {f : Str} {id : String} {pp : Pos} {r : List V → Hp → VK → Prop} (hc : ∀ X, p.In X → CallR X (.builtin id) r) (hg : p.sc.names.lookup f = some .globalImplicit) (hm : p.mg f = none) (hv : bootBuiltins f = some (.builtin id))
    (ha : PX p a τ (.sh x)) (hb : PX p b τ (.sh y)) (h : ∀ B H v u Q, Same B H → rep p.K B v x → rep p.K B u y → (∀ B' H' z, Ext B H B' H' → Vok p.K B' H' H z s → Q z H') → r [v, u] H Q) (hn : f ≠ "__name__") (hdb : (f == ("__debug__" : Str)) = false)
    (he : ∀ env, starEach [a, b] env = [(false, eval a env), (false, eval b env)] := by intro _; rfl) (he2 : ∀ env, starEach [b] env = [(false, eval b env)] := by intro _; rfl) : PX p (.Call (.Name f pp) [a, b] [] pos) τ s := fun B0 H0 B H σ ok Q q => by
  refine ⟨tCB r (tCons (EE p a) (tCons (EE p b) tNil)), fun X hX => ?_, ha B0 H0 B H σ ok _ fun B1 H1 v x1 r1 => hb B0 H0 B1 H1 σ (ok.go x1) _ fun B2 H2 u x2 r2 =>
    h B2 H2 v u Q x2.bh (Py.mono (.of x2.bb) r1) r2 fun B' H' z x3 r3 => q B' H' z ((x1.trans x2).trans x3) (r3.base (x1.trans x2).hh)⟩
  have hX' := hX
  obtain ⟨k, rfl, _⟩ := hX'
  exact pe_callB (hc X hX) hg hm hv (pa_cons (ee hX) (pa_cons (ee hX) pa_nil (he2 _)) (by rw [he, he2])) hn hdb (by rw [he, he2]) (by rw [he2]; rfl)
/-- things that have a length -/
class Len (α : Type) [Py α] where
  len : α → Nat
  isl : ∀ {K : PySem.W.Frag} {B H : Hp} {v : V} {x : α}, Same B H → rep K B v x → (∃ q ys, v = .ref q ∧ (SqL K H q ys ∨ SqT K H q ys) ∧ ys.length = len x) ∨ (∃ z, v = .str z ∧ z.length ≤ sizeLine ∧ z.length = len x)
instance {α : Type} [Py α] : Len (List α) := ⟨List.length, fun {K B H v x} s r => by
  obtain ⟨q, o, e, h, vs, e2, r⟩ := r
  subst e2
  exact .inl ⟨q, vs, e, .inl (.of (s _ _ h.lst)), r.length⟩⟩
instance {α : Type} [Py α] : Len (Tup α) := ⟨fun t => t.l.length, fun {K B H v x} s r => by
  obtain ⟨q, vs, e, h, r⟩ := r
  exact .inl ⟨q, vs, e, .inr (.of (s _ _ h)), r.length⟩⟩
instance : Len Str := ⟨Str.length, fun {K B H v x} s r => .inr ⟨x, r.1, r.2.2, rfl⟩⟩
instance : Len Scr := ⟨fun t => t.l.length, fun {K B H v x} s r => by
  obtain ⟨q, e, h⟩ := r
  exact .inl ⟨q, _, e, .inl (s.seq h), by rw [List.length_map]⟩⟩
instance {α β : Type} [Py α] [Py β] : Len (α × β) := ⟨fun _ => 2, fun {K B H v x} s r => by
  obtain ⟨q, x, y, e, h, _⟩ := r
  exact .inl ⟨q, _, e, .inr (.of (s _ _ h)), rfl⟩⟩
instance {α β γ δ : Type} [Py α] [Py β] [Py γ] [Py δ] : Len (T4 α β γ δ) := ⟨fun _ => 4, fun {K B H v x} s r => by
  obtain ⟨q, x, y, z, u, e, h, _⟩ := r
  exact .inl ⟨q, _, e, .inr (.of (s _ _ h)), rfl⟩⟩
theorem px_len {α : Type} [Py α] [Len α] {x : α} {pp : Pos} (hg : p.sc.names.lookup ("len" : Str) = some .globalImplicit) (hm : p.mg "len" = none) (ha : PX p e τ (.sh x)) (he : ∀ env, starEach [e] env = [(false, eval e env)] := by intro _; rfl) :
    PX p (.Call (.Name "len" pp) [e] [] pos) τ (.sh ((Len.len x : Nat) : Int)) :=
  px_b1 (r := fun xs H Q => (∃ q ys, xs = [.ref q] ∧ (SqL p.K H q ys ∨ SqT p.K H q ys) ∧ Q (.int ys.length) H) ∨ ∃ z, xs = [.str z] ∧ z.length ≤ sizeLine ∧ Q (.int z.length) H) (fun X hX => by obtain ⟨k, rfl, _⟩ := hX; exact call_len_seq.or call_len_str) hg hm PySem.boot_len ha (fun B H v Q s r q => by
    rcases Len.isl s r with ⟨c, ys, e, h, l⟩ | ⟨z, e, hz, l⟩
    · exact .inl ⟨c, ys, by rw [e], h, q B H _ (.refl s) (by rw [l]; rfl)⟩
    · exact .inr ⟨z, by rw [e], hz, q B H _ (.refl s) (by rw [l]; rfl)⟩) (by decide) (by decide) he
theorem px_min {i j : Int} {pp : Pos} (hg : p.sc.names.lookup ("min" : Str) = some .globalImplicit) (hm : p.mg "min" = none) (hv : bootBuiltins "min" = some (.builtin "min")) (ha : PX p a τ (.sh i)) (hb : PX p b τ (.sh j))
    (he : ∀ env, starEach [a, b] env = [(false, eval a env), (false, eval b env)] := by intro _; rfl) (he2 : ∀ env, starEach [b] env = [(false, eval b env)] := by intro _; rfl) : PX p (.Call (.Name "min" pp) [a, b] [] pos) τ (.sh (if j < i then j else i)) :=
  px_b2 (fun X hX => call_min2 (by obtain ⟨k, rfl, c, _⟩ := hX; exact c)) hg hm hv ha hb (fun B H v u Q s r1 r2 q => ⟨i, j, by rw [show v = .int i from r1, show u = .int j from r2], q B H _ (.refl s) rfl⟩) (by decide) (by decide) he he2
theorem px_max {i j : Int} {pp : Pos} (hg : p.sc.names.lookup ("max" : Str) = some .globalImplicit) (hm : p.mg "max" = none) (hv : bootBuiltins "max" = some (.builtin "max")) (ha : PX p a τ (.sh i)) (hb : PX p b τ (.sh j))
    (he : ∀ env, starEach [a, b] env = [(false, eval a env), (false, eval b env)] := by intro _; rfl) (he2 : ∀ env, starEach [b] env = [(false, eval b env)] := by intro _; rfl) : PX p (.Call (.Name "max" pp) [a, b] [] pos) τ (.sh (if j > i then j else i)) :=
  px_b2 (fun X hX => call_max2 (by obtain ⟨k, rfl, c, _⟩ := hX; exact c)) hg hm hv ha hb (fun B H v u Q s r1 r2 q => ⟨i, j, by rw [show v = .int i from r1, show u = .int j from r2], q B H _ (.refl s) rfl⟩) (by decide) (by decide) he he2
theorem px_intB {c : Bool} {pp : Pos} (hg : p.sc.names.lookup ("int" : Str) = some .globalImplicit) (hm : p.mg "int" = none) (hv : bootBuiltins "int" = some (.type "int")) (ha : PX p e τ (.sh c)) (he : ∀ env, starEach [e] env = [(false, eval e env)] := by intro _; rfl) :
    PX p (.Call (.Name "int" pp) [e] [] pos) τ (.sh (if c then (1 : Int) else 0)) :=
  px_t1 (fun _ _ => call_int1) hg hm hv ha (fun B H v Q s r q => .inr ⟨c, by rw [show v = .bl c from r], q B H _ (.refl s) rfl⟩) (by decide) (by decide) he
/-- list(xs), tuple(xs) -/
class Seqn (α : Type) (β : outParam Type) [Py α] [Py β] where
  sq : α → List β
  iss : ∀ {K : PySem.W.Frag} {B H : Hp} {v : V} {x : α}, Same B H → rep K B v x → ∃ q ys, v = .ref q ∧ (SqL K H q ys ∨ SqT K H q ys) ∧ All2 (rep K B) ys (sq x)
instance {α : Type} [Py α] : Seqn (List α) α := ⟨id, fun {K B H v x} s r => by
  obtain ⟨q, o, e, h, vs, e2, r⟩ := r
  subst e2
  exact ⟨q, vs, e, .inl (.of (s _ _ h.lst)), r⟩⟩
instance {α : Type} [Py α] : Seqn (Tup α) α := ⟨Tup.l, fun {K B H v x} s r => by
  obtain ⟨q, vs, e, h, r⟩ := r
  exact ⟨q, vs, e, .inr (.of (s _ _ h)), r⟩⟩
theorem px_list {α β : Type} [Py α] [Py β] [Seqn α β] {x : α} {pp : Pos} (hg : p.sc.names.lookup ("list" : Str) = some .globalImplicit) (hm : p.mg "list" = none) (hv : bootBuiltins "list" = some (.type "list")) (ha : PX p e τ (.sh x)) (he : ∀ env, starEach [e] env = [(false, eval e env)] := by intro _; rfl) :
    PX p (.Call (.Name "list" pp) [e] [] pos) τ (.ow (Seqn.sq x)) :=
  px_t1 (r := fun xs H Q => ∃ c ys, xs = [.ref c] ∧ (SqL p.K H c ys ∨ SqT p.K H c ys) ∧ ∀ l, H l = none → Q (.ref l) (upd H l (.lst ys))) (fun X hX => by obtain ⟨k, rfl, _⟩ := hX; exact call_list_of) hg hm hv ha (fun B H v Q s r q => by
    obtain ⟨c, ys, e, h, r2⟩ := Seqn.iss s r
    refine ⟨c, ys, by rw [e], h, fun l hl => q B _ _ (Ext.made s hl) ⟨l, .lst ys, rfl, hl, ?_, upd_same, ys, rfl, r2⟩⟩
    exact s.free hl) (by decide) (by decide) he
theorem px_tuple {α : Type} [Py α] {x : List α} {pp : Pos} (hg : p.sc.names.lookup ("tuple" : Str) = some .globalImplicit) (hm : p.mg "tuple" = none) (hv : bootBuiltins "tuple" = some (.type "tuple")) (ha : PX p e τ (.sh x)) (he : ∀ env, starEach [e] env = [(false, eval e env)] := by intro _; rfl) :
    PX p (.Call (.Name "tuple" pp) [e] [] pos) τ (.sh (Tup.mk x)) :=
  px_t1 (r := fun xs H Q => ∃ c ys, xs = [.ref c] ∧ ((SqL p.K H c ys ∧ ∀ l, H l = none → Q (.ref l) (upd H l (.tup ys))) ∨ (SqT p.K H c ys ∧ Q (.ref c) H))) (fun X hX => by obtain ⟨k, rfl, _⟩ := hX; exact call_tuple_of) hg hm hv ha (fun B H v Q s r q => by
    obtain ⟨c, o, e, h, ys, e2, r2⟩ := r
    subst e2
    refine ⟨c, ys, by rw [e], .inl ⟨.of (s _ _ h.lst), fun l hl => ?_⟩⟩
    have x2 := Ext.laid (o := .tup ys) s hl
    exact q _ _ _ x2 ⟨l, ys, rfl, upd_same, r2.imp fun _ _ q => Py.mono (.of x2.bb) q⟩) (by decide) (by decide) he

/-! ### isinstance -/
class Ty (α : Type) [Py α] where
  tn : α → String
  tyx : ∀ {K : PySem.W.Frag} {B H : Hp} {v : V} {x : α}, Same B H → rep K B v x → TyX K H v (.type (tn x))
instance : Ty Int := ⟨fun _ => "int", fun {K B H v x} _ r => by rw [show v = .int x from r]; exact .base (.int _)⟩
instance : Ty Bool := ⟨fun _ => "bool", fun {K B H v x} _ r => by rw [show v = .bl x from r]; exact .base (.bl _)⟩
instance : Ty Str := ⟨fun _ => "str", fun {K B H v x} _ r => by rw [show v = .str x from r.1]; exact .base (.str _)⟩
instance : Ty Unit := ⟨fun _ => "NoneType", fun {K B H v x} _ r => by rw [show v = .non from r]; exact .base .non⟩
instance {α : Type} [Py α] [Ty α] : Ty (Option α) := ⟨fun o => match o with | none => "NoneType" | some a => Ty.tn a, fun {K B H v x} s r => by
  cases x with
  | none => rw [show v = .non from r]; exact .base .non
  | some a => exact Ty.tyx s (show rep K B v a from r)⟩
instance {α : Type} [Py α] : Ty (List α) := ⟨fun _ => "list", fun {K B H v x} s r => by
  obtain ⟨q, o, e, h, vs, e2, r⟩ := r
  subst e e2
  exact .base (.lst (s _ _ h.lst))⟩
instance {α : Type} [Py α] : Ty (Tup α) := ⟨fun _ => "tuple", fun s ⟨q, vs, e, h, r⟩ => e ▸ .base (.tup (s _ _ h))⟩
instance {α β : Type} [Py α] [Py β] : Ty (α × β) := ⟨fun _ => "tuple", fun s ⟨q, x, y, e, h, _⟩ => e ▸ .base (.tup (s _ _ h))⟩
instance {α : Type} [Py α] : Ty (T1 α) := ⟨fun _ => "tuple", fun s ⟨q, x, e, h, _⟩ => e ▸ .base (.tup (s _ _ h))⟩
instance {α β γ : Type} [Py α] [Py β] [Py γ] : Ty (T3 α β γ) := ⟨fun _ => "tuple", fun s ⟨q, x, y, z, e, h, _⟩ => e ▸ .base (.tup (s _ _ h))⟩
instance {α β γ δ : Type} [Py α] [Py β] [Py γ] [Py δ] : Ty (T4 α β γ δ) := ⟨fun _ => "tuple", fun s ⟨q, x, y, z, u, e, h, _⟩ => e ▸ .base (.tup (s _ _ h))⟩
instance {α β γ δ ε : Type} [Py α] [Py β] [Py γ] [Py δ] [Py ε] : Ty (T5 α β γ δ ε) := ⟨fun _ => "tuple", fun s ⟨q, x, y, z, u, w, e, h, _⟩ => e ▸ .base (.tup (s _ _ h))⟩
/-- isinstance(e, T), T a built-in type by its name -/
theorem px_isi {α : Type} [Py α] [Ty α] {x : α} {pp pT : Pos} {f : Str} {T : String} {c : Bool} (hg : p.sc.names.lookup ("isinstance" : Str) = some .globalImplicit) (hm : p.mg "isinstance" = none) (hv : bootBuiltins "isinstance" = some (.builtin "isinstance"))
    (hgT : p.sc.names.lookup f = some .globalImplicit) (hmT : p.mg f = none) (hvT : bootBuiltins f = some (.type T)) (ha : PX p e τ (.sh x)) (hk : kitB (Ty.tn x) T = some c) (hn : f ≠ "__name__") (hdb : (f == ("__debug__" : Str)) = false)
    (he : ∀ env, starEach [e, .Name f pT] env = [(false, eval e env), (false, eval (.Name f pT) env)] := by intro _; rfl) : PX p (.Call (.Name "isinstance" pp) [e, .Name f pT] [] pos) τ (.sh c) := fun B0 H0 B H σ ok Q q => by
  refine ⟨tCB (rIsi p.K) (tCons (EE p e) (tCons (tC (.ty T)) tNil)), fun X hX => ?_, ha B0 H0 B H σ ok _ fun B1 H1 v x1 r1 => ⟨v, .ty T, _, .type T, c, rfl, .ty T, Ty.tyx x1.bh r1, kit_ty hk, q B1 H1 _ x1 rfl⟩⟩
  have hX' := hX
  obtain ⟨k, rfl, _⟩ := hX'
  exact pe_callB call_isi hg hm hv (pa_cons (ee hX) (pa_cons (pe_bltn hgT hmT hvT rfl hn hdb) pa_nil rfl) (he _)) (by decide) (by decide) (he _) rfl

/-! ### == and != of data -/
class PyEq (α : Type) [Py α] where
  dat : α → PyData
  dp : ∀ {K : PySem.W.Frag} {B H : Hp} {v : V} {x : α}, Same B H → rep K B v x → Dp K H v (dat x)
  can : ∀ {K : PySem.W.Frag} {B : Hp} {v : V} {x : α}, rep K B v x → (dat x).canLay0 = true
  d : Nat
  dep : ∀ x : α, (dat x).depth ≤ d
  eqv : ∀ x y : α, PyData.eqv (dat x) (dat y) = true ↔ x = y
theorem dec_eqv {α : Type} [Py α] [PyEq α] [DecidableEq α] (x y : α) : PyData.eqv (PyEq.dat x) (PyEq.dat y) = decide (x = y) := by
  rw [Bool.eq_iff_iff, PyEq.eqv, decide_eq_true_iff]
instance : PyEq Int := ⟨.int, fun {K B H v x} _ r => by rw [show v = .int x from r]; exact .int _, fun _ => rfl, 0, fun _ => Nat.le_refl _, fun x y => by simp [PyData.eqv]⟩
instance : PyEq Bool := ⟨.bool, fun {K B H v x} _ r => by rw [show v = .bl x from r]; exact .bl _, fun _ => rfl, 0, fun _ => Nat.le_refl _, fun x y => by simp [PyData.eqv]⟩
instance : PyEq Str := ⟨.str, fun {K B H v x} _ r => by rw [show v = .str x from r.1]; exact .str _, fun r => r.2.1, 0, fun _ => Nat.le_refl _, fun x y => by simp [PyData.eqv]⟩
instance : PyEq Unit := ⟨fun _ => .none, fun {K B H v x} _ r => by rw [show v = .non from r]; exact .non, fun _ => rfl, 0, fun _ => Nat.le_refl _, fun x y => by simp [PyData.eqv]⟩
/-- never None as data -/
class NoD (α : Type) [Py α] [PyEq α] : Prop where
  no : ∀ x : α, PyEq.dat x ≠ .none
instance : NoD Int := ⟨fun _ z => by cases z⟩
instance : NoD Str := ⟨fun _ z => by cases z⟩
instance : NoD Bool := ⟨fun _ z => by cases z⟩
theorem eqv_none {d : PyData} (h : d ≠ .none) : PyData.eqv .none d = false ∧ PyData.eqv d .none = false := by
  cases d <;> simp [PyData.eqv] <;> exact absurd rfl h
instance {α : Type} [Py α] [PyEq α] [NoD α] : PyEq (Option α) := ⟨fun o => match o with | none => .none | some a => PyEq.dat a, fun {K B H v x} s r => by
    cases x with
    | none => rw [show v = .non from r]; exact .non
    | some a => exact PyEq.dp s (show rep K B v a from r), fun {K B v x} r => by
    cases x with
    | none => rfl
    | some a => exact PyEq.can (show rep K B v a from r), PyEq.d α, fun x => by
    cases x with
    | none => exact Nat.zero_le _
    | some a => exact PyEq.dep a, fun x y => by
    cases x with
    | none => cases y with
      | none => simp [PyData.eqv]
      | some b => simp [(eqv_none (NoD.no b)).1]
    | some a => cases y with
      | none => simp [(eqv_none (NoD.no a)).2]
      | some b => simp [PyEq.eqv]⟩
theorem dpAll {α : Type} [Py α] [PyEq α] {K : PySem.W.Frag} {B H : Hp} (s : Same B H) : ∀ {vs : List V} {xs : List α}, All2 (rep K B) vs xs → DpAll K H vs (xs.map PyEq.dat)
  | _, _, .nil => .nil
  | _, _, .cons r t => .cons (PyEq.dp s r) (dpAll s t)
theorem canAll {α : Type} [Py α] [PyEq α] {K : PySem.W.Frag} {B : Hp} : ∀ {vs : List V} {xs : List α}, All2 (rep K B) vs xs → PyData.canLayAll0 (xs.map PyEq.dat) = true
  | _, _, .nil => rfl
  | _, _, .cons r t => by rw [List.map_cons, PyData.canLayAll0, PyEq.can r, canAll t]; rfl
theorem depAll {α : Type} [Py α] [PyEq α] : ∀ xs : List α, PyData.depthAll (xs.map PyEq.dat) ≤ PyEq.d α
  | [] => Nat.zero_le _
  | x :: r => by rw [List.map_cons, PyData.depthAll]; exact Nat.max_le.mpr ⟨PyEq.dep x, depAll r⟩
theorem eqvAll_iff {α : Type} [Py α] [PyEq α] : ∀ xs ys : List α, PyData.eqvAll (xs.map PyEq.dat) (ys.map PyEq.dat) = true ↔ xs = ys
  | [], [] => by simp [PyData.eqvAll]
  | [], _ :: _ => by simp [PyData.eqvAll]
  | _ :: _, [] => by simp [PyData.eqvAll]
  | x :: xs, y :: ys => by rw [List.map_cons, List.map_cons, PyData.eqvAll, Bool.and_eq_true, PyEq.eqv, eqvAll_iff xs ys, List.cons.injEq]
section
variable {α β γ δ ε : Type} [Py α] [Py β] [Py γ] [Py δ] [Py ε] [PyEq α] [PyEq β] [PyEq γ] [PyEq δ] [PyEq ε]
instance : PyEq (List α) := ⟨fun xs => .list (xs.map PyEq.dat), fun {K B H v x} s r => by
    obtain ⟨q, o, e, h, vs, e2, r⟩ := r
    subst e e2
    exact .lst (.of (s _ _ h.lst)) (dpAll s r), fun {K B v x} r => by
    obtain ⟨q, o, e, h, vs, e2, r⟩ := r
    show PyData.canLayAll0 _ = true
    exact canAll r, PyEq.d α + 1, fun x => Nat.succ_le_succ (depAll x), fun x y => by show PyData.eqvAll _ _ = true ↔ _; exact eqvAll_iff x y⟩
instance : PyEq (Tup α) := ⟨fun xs => .tuple (xs.l.map PyEq.dat), fun {K B H v x} s ⟨q, vs, e, h, r⟩ => e ▸ .tup (.of (s _ _ h)) (dpAll s r), fun {K B v x} ⟨q, vs, e, h, r⟩ => canAll r,
  PyEq.d α + 1, fun x => Nat.succ_le_succ (depAll x.l), fun x y => by show PyData.eqvAll _ _ = true ↔ _; rw [eqvAll_iff]; cases x; cases y; simp⟩
instance : PyEq (T1 α) := ⟨fun t => .tuple [PyEq.dat t.a], fun s ⟨q, x, e, h, r⟩ => e ▸ .tup (.of (s _ _ h)) (.cons (PyEq.dp s r) .nil),
  fun ⟨q, x, e, h, r⟩ => by simp [PyData.canLay0, PyData.canLayAll0, PyEq.can r], PyEq.d α + 1, fun x => by
    show PyData.depthAll [_] + 1 ≤ _
    have := PyEq.dep x.a
    simp only [PyData.depthAll]; omega, fun x y => by cases x; cases y; simp [PyData.eqv, PyData.eqvAll, PyEq.eqv]⟩
instance : PyEq (α × β) := ⟨fun t => .tuple [PyEq.dat t.1, PyEq.dat t.2], fun s ⟨q, x, y, e, h, r, r2⟩ => e ▸ .tup (.of (s _ _ h)) (.cons (PyEq.dp s r) (.cons (PyEq.dp s r2) .nil)),
  fun ⟨q, x, y, e, h, r, r2⟩ => by simp [PyData.canLay0, PyData.canLayAll0, PyEq.can r, PyEq.can r2], max (PyEq.d α) (PyEq.d β) + 1, fun x => by
    show PyData.depthAll [_, _] + 1 ≤ _
    have h1 := PyEq.dep x.1
    have h2 := PyEq.dep x.2
    simp only [PyData.depthAll]; omega, fun x y => by cases x; cases y; simp [PyData.eqv, PyData.eqvAll, PyEq.eqv]⟩
instance : PyEq (T3 α β γ) := ⟨fun t => .tuple [PyEq.dat t.a, PyEq.dat t.b, PyEq.dat t.c], fun s ⟨q, x, y, z, e, h, r, r2, r3⟩ => e ▸ .tup (.of (s _ _ h)) (.cons (PyEq.dp s r) (.cons (PyEq.dp s r2) (.cons (PyEq.dp s r3) .nil))),
  fun ⟨q, x, y, z, e, h, r, r2, r3⟩ => by simp [PyData.canLay0, PyData.canLayAll0, PyEq.can r, PyEq.can r2, PyEq.can r3], max (PyEq.d α) (max (PyEq.d β) (PyEq.d γ)) + 1, fun x => by
    show PyData.depthAll [_, _, _] + 1 ≤ _
    have h1 := PyEq.dep x.a
    have h2 := PyEq.dep x.b
    have h3 := PyEq.dep x.c
    simp only [PyData.depthAll]; omega, fun x y => by cases x; cases y; simp [PyData.eqv, PyData.eqvAll, PyEq.eqv]⟩
instance : PyEq (T4 α β γ δ) := ⟨fun t => .tuple [PyEq.dat t.a, PyEq.dat t.b, PyEq.dat t.c, PyEq.dat t.d], fun s ⟨q, x, y, z, u, e, h, r, r2, r3, r4⟩ => e ▸ .tup (.of (s _ _ h)) (.cons (PyEq.dp s r) (.cons (PyEq.dp s r2) (.cons (PyEq.dp s r3) (.cons (PyEq.dp s r4) .nil)))),
  fun ⟨q, x, y, z, u, e, h, r, r2, r3, r4⟩ => by simp [PyData.canLay0, PyData.canLayAll0, PyEq.can r, PyEq.can r2, PyEq.can r3, PyEq.can r4], max (PyEq.d α) (max (PyEq.d β) (max (PyEq.d γ) (PyEq.d δ))) + 1, fun x => by
    show PyData.depthAll [_, _, _, _] + 1 ≤ _
    have h1 := PyEq.dep x.a
    have h2 := PyEq.dep x.b
    have h3 := PyEq.dep x.c
    have h4 := PyEq.dep x.d
    simp only [PyData.depthAll]; omega, fun x y => by cases x; cases y; simp [PyData.eqv, PyData.eqvAll, PyEq.eqv]⟩
instance : PyEq (T5 α β γ δ ε) := ⟨fun t => .tuple [PyEq.dat t.a, PyEq.dat t.b, PyEq.dat t.c, PyEq.dat t.d, PyEq.dat t.e], fun s ⟨q, x, y, z, u, w, e, h, r, r2, r3, r4, r5⟩ => e ▸ .tup (.of (s _ _ h)) (.cons (PyEq.dp s r) (.cons (PyEq.dp s r2) (.cons (PyEq.dp s r3) (.cons (PyEq.dp s r4) (.cons (PyEq.dp s r5) .nil))))),
  fun ⟨q, x, y, z, u, w, e, h, r, r2, r3, r4, r5⟩ => by simp [PyData.canLay0, PyData.canLayAll0, PyEq.can r, PyEq.can r2, PyEq.can r3, PyEq.can r4, PyEq.can r5], max (PyEq.d α) (max (PyEq.d β) (max (PyEq.d γ) (max (PyEq.d δ) (PyEq.d ε)))) + 1, fun x => by
    show PyData.depthAll [_, _, _, _, _] + 1 ≤ _
    have h1 := PyEq.dep x.a
    have h2 := PyEq.dep x.b
    have h3 := PyEq.dep x.c
    have h4 := PyEq.dep x.d
    have h5 := PyEq.dep x.e
    simp only [PyData.depthAll]; omega, fun x y => by cases x; cases y; simp [PyData.eqv, PyData.eqvAll, PyEq.eqv]⟩
instance : NoD (List α) := ⟨fun _ z => by cases z⟩
instance : NoD (Tup α) := ⟨fun _ z => by cases z⟩
instance : NoD (T1 α) := ⟨fun _ z => by cases z⟩
instance : NoD (α × β) := ⟨fun _ z => by cases z⟩
instance : NoD (T3 α β γ) := ⟨fun _ z => by cases z⟩
instance : NoD (T4 α β γ δ) := ⟨fun _ z => by cases z⟩
instance : NoD (T5 α β γ δ ε) := ⟨fun _ z => by cases z⟩
theorem shaped_of {K : PySem.W.Frag} {B : Hp} {v : V} {x : α} (r : rep K B v x) (h : PyEq.d α ≤ 64) : SeqAt.shaped (PyEq.dat x) = true := by
  unfold SeqAt.shaped
  rw [PyEq.can r, decide_eq_true (Nat.le_trans (PyEq.dep x) h)]
  rfl
theorem c_eqD [DecidableEq α] {x y : α} (h : PyEq.d α ≤ 64) : Cmp2 p .Eq x y (decide (x = y)) := ⟨rEqD p.K, fun X hX => by obtain ⟨k, rfl, _, room, _⟩ := hX; exact op_eqD room.units,
  fun B H v u Q s r1 r2 q => ⟨_, _, PyEq.dp s r1, PyEq.dp s r2, shaped_of r1 h, shaped_of r2 h, by rw [dec_eqv]; exact q⟩⟩
theorem c_neD [DecidableEq α] {x y : α} (h : PyEq.d α ≤ 64) : Cmp2 p .NotEq x y (!decide (x = y)) := ⟨rNeD p.K, fun X hX => by obtain ⟨k, rfl, _, room, _⟩ := hX; exact op_neD room.units,
  fun B H v u Q s r1 r2 q => ⟨_, _, PyEq.dp s r1, PyEq.dp s r2, shaped_of r1 h, shaped_of r2 h, by rw [dec_eqv]; exact q⟩⟩
end

/-! ### walks -/
theorem items_at {α : Type} [Py α] {xs : List α} {i : Nat} {s : Sl} (h : (xs.map fun x => Sl.sh x)[i]? = some s) : ∃ x, xs[i]? = some x ∧ s = .sh x := by
  rw [List.getElem?_map] at h
  obtain ⟨x, e, h⟩ := Option.map_eq_some_iff.mp h
  exact ⟨x, e, h.symm⟩
theorem ix_list {α : Type} [Py α] {xs : List α} {tg : Expr} (h : PX p e τ (.sh xs)) : IX p tg e τ (xs.map fun x => .sh x) := fun B0 H0 B H σ ok R q => by
  refine ⟨iList p.K (EE p e), fun X hX => ?_, h B0 H0 B H σ ok _ fun B1 H1 v x1 r1 => ?_⟩
  · have hX' := hX
    obtain ⟨k, rfl, _⟩ := hX'
    exact pi_list (ee hX)
  · obtain ⟨c, ob, e1, hc, vs, e2, r⟩ := r1
    subst e2
    have hc := hc.lst
    refine ⟨c, e1, ⟨vs, .of (x1.bh _ _ hc)⟩, q B1 H1 _ x1 fun B2 H2 s1 s2 => ⟨fun i s hi => ?_, vs, .of (s2 _ _ (s1 _ _ hc)), by rw [List.length_map, r.length]; exact Nat.le_refl _⟩⟩
    obtain ⟨x, hx, rfl⟩ := items_at hi
    obtain ⟨v, hv, rv⟩ := r.get hx
    refine ⟨⟨vs, v, .of (s2 _ _ (s1 _ _ hc)), hv⟩, fun y H' hy => ⟨B2, ?_, ?_⟩⟩
    · rw [hy.1]; exact .refl s2
    · rw [show y = v from Option.some.inj ((hy.2 vs (.of (s2 _ _ (s1 _ _ hc)))).symm.trans hv)]
      exact Py.mono (.of s1) rv
theorem ix_tup {α : Type} [Py α] {xs : Tup α} {tg : Expr} (h : PX p e τ (.sh xs)) : IX p tg e τ (xs.l.map fun x => .sh x) := fun B0 H0 B H σ ok R q => by
  refine ⟨iTup p.K (EE p e), fun X hX => ?_, h B0 H0 B H σ ok _ fun B1 H1 v x1 r1 => ?_⟩
  · have hX' := hX
    obtain ⟨k, rfl, _⟩ := hX'
    exact pi_tup (ee hX)
  · obtain ⟨c, vs, e1, hc, r⟩ := r1
    refine ⟨c, e1, ⟨vs, .of (x1.bh _ _ hc)⟩, q B1 H1 _ x1 fun B2 H2 s1 s2 => ⟨fun i s hi => ?_, vs, .of (s2 _ _ (s1 _ _ hc)), by rw [List.length_map, r.length]; exact Nat.le_refl _⟩⟩
    obtain ⟨x, hx, rfl⟩ := items_at hi
    obtain ⟨v, hv, rv⟩ := r.get hx
    refine ⟨⟨vs, v, .of (s2 _ _ (s1 _ _ hc)), hv⟩, fun y H' hy => ⟨B2, ?_, ?_⟩⟩
    · rw [hy.1]; exact .refl s2
    · rw [show y = v from Option.some.inj ((hy.2 vs (.of (s2 _ _ (s1 _ _ hc)))).symm.trans hv)]
      exact Py.mono (.of s1) rv
theorem ix_scr {xs : Scr} {tg : Expr} (h : PX p e τ (.sh xs)) : IX p tg e τ (xs.l.map fun x => .sh x) := fun B0 H0 B H σ ok R q => by
  refine ⟨iList p.K (EE p e), fun X hX => ?_, h B0 H0 B H σ ok _ fun B1 H1 v x1 r1 => ?_⟩
  · have hX' := hX
    obtain ⟨k, rfl, _⟩ := hX'
    exact pi_list (ee hX)
  · obtain ⟨c, e1, hc⟩ := r1
    refine ⟨c, e1, ⟨_, x1.bh.seq hc⟩, q B1 H1 _ x1 fun B2 H2 s1 s2 => ⟨fun i s hi => ?_, _, (s1.trans s2).seq hc, by rw [List.length_map, List.length_map]; exact Nat.le_refl _⟩⟩
    obtain ⟨x, hx, rfl⟩ := items_at hi
    have hv : (xs.l.map V.int)[i]? = some (.int x) := by rw [List.getElem?_map, hx]; rfl
    refine ⟨⟨_, _, (s1.trans s2).seq hc, hv⟩, fun y H' hy => ⟨B2, ?_, ?_⟩⟩
    · rw [hy.1]; exact .refl s2
    · exact Option.some.inj ((hy.2 _ ((s1.trans s2).seq hc)).symm.trans hv)
/-- lo, lo + 1, .. -/
def rng (lo : Int) (n : Nat) : List Int := (List.range n).map fun k => lo + (k : Nat)
theorem rng_get {lo : Int} {n i : Nat} {x : Int} (h : (rng lo n)[i]? = some x) : i < n ∧ x = lo + (i : Nat) := by
  unfold rng at h
  rw [List.getElem?_map] at h
  obtain ⟨k, e, h⟩ := Option.map_eq_some_iff.mp h
  rw [List.getElem?_eq_some_iff] at e
  obtain ⟨h1, h2⟩ := e
  rw [List.length_range] at h1
  rw [List.getElem_range] at h2
  subst h2
  exact ⟨h1, h.symm⟩
theorem turns_rng {K : PySem.W.Frag} {B1 : Hp} {lo : Int} {n : Nat} : Turns K B1 (Itr lo n) ((rng lo n).map fun x => .sh x) := fun B H s1 s2 => by
  refine ⟨fun i s hi => ?_, by show n ≤ _; rw [List.length_map]; unfold rng; rw [List.length_map, List.length_range]; exact Nat.le_refl _⟩
  obtain ⟨x, hx, rfl⟩ := items_at hi
  obtain ⟨h1, rfl⟩ := rng_get hx
  exact ⟨h1, fun y H' hy => ⟨B, by rw [hy.1]; exact .refl s2, hy.2⟩⟩
theorem ix_range1 {n : Int} {tg : Expr} {pp : Pos} (hg : p.sc.names.lookup ("range" : Str) = some .globalImplicit) (hm : p.mg "range" = none) (h : PX p e τ (.sh n)) (h1 : -(2 ^ 62) ≤ n ∧ n < 2 ^ 62) (hs : ∀ env, starEach [e] env = [(false, eval e env)] := by intro _; rfl) :
    IX p tg (.Call (.Name "range" pp) [e] [] pos) τ ((rng 0 n.toNat).map fun x => .sh x) := fun B0 H0 B H σ ok R q => by
  refine ⟨iRng1 (tCons (EE p e) tNil), fun X hX => ?_, h B0 H0 B H σ ok _ fun B1 H1 v x1 r1 => ⟨n, by rw [show v = .int n from r1], h1.1, h1.2, q B1 H1 _ x1 turns_rng⟩⟩
  have hX' := hX
  obtain ⟨k, rfl, _⟩ := hX'
  exact pi_range1 hg hm (pa_cons (ee hX) pa_nil (hs _)) (hs _)
theorem ix_range2 {m n : Int} {tg : Expr} {pp : Pos} (hg : p.sc.names.lookup ("range" : Str) = some .globalImplicit) (hm : p.mg "range" = none) (ha : PX p a τ (.sh m)) (hb : PX p b τ (.sh n)) (h1 : -(2 ^ 62) ≤ m ∧ m < 2 ^ 62 ∧ -(2 ^ 62) ≤ n ∧ n < 2 ^ 62)
    (hs : ∀ env, starEach [a, b] env = [(false, eval a env), (false, eval b env)] := by intro _; rfl) (hs2 : ∀ env, starEach [b] env = [(false, eval b env)] := by intro _; rfl) :
    IX p tg (.Call (.Name "range" pp) [a, b] [] pos) τ ((rng m (n - m).toNat).map fun x => .sh x) := fun B0 H0 B H σ ok R q => by
  refine ⟨iRng2 (tCons (EE p a) (tCons (EE p b) tNil)), fun X hX => ?_, ha B0 H0 B H σ ok _ fun B1 H1 v x1 r1 => hb B0 H0 B1 H1 σ (ok.go x1) _ fun B2 H2 u x2 r2 =>
    ⟨m, n, by rw [show v = .int m from r1, show u = .int n from r2], h1, q B2 H2 _ (x1.trans x2) turns_rng⟩⟩
  have hX' := hX
  obtain ⟨k, rfl, _⟩ := hX'
  exact pi_range2 hg hm (pa_cons (ee hX) (pa_cons (ee hX) pa_nil (hs2 _)) (by rw [hs, hs2])) (hs _) (hs2 _)
end
end Ly

namespace Ly
open PySem PySem.Spec PyProof.Rows L2
open Py
section
variable {p : Par} {τ τ1 : List Sl} {R : Post} {st : Stmt} {sts rest : List Stmt} {e a b o : Expr} {es : List Expr} {pos : Pos}

/-! ### what is owned: lent for one expression, changed in its place -/
theorem Ok.own {K : PySem.W.Frag} {B0 H0 B H : Hp} {σ : L2.St} {τ : List Sl} (h : Ok K B0 H0 B H σ τ) {i : Nat} {β : Type} [Ob β] {x : β} (hi : τ[i]? = some (.ow x)) :
    ∃ q ob, σ[i]? = some (some (.ref q)) ∧ H0 q = none ∧ B q = none ∧ H q = some ob ∧ Ob.obj K B ob x := by
  rcases h.at_ i _ hi with z | ⟨v, e, q, ob, e1, r⟩
  · cases z
  · subst e1
    exact ⟨q, ob, e, r⟩
theorem Ok.other {K : PySem.W.Frag} {B0 H0 B H : Hp} {σ : L2.St} {τ : List Sl} (h : Ok K B0 H0 B H σ τ) {i j : Nat} {β γ : Type} [Ob β] [Ob γ] {x : β} {y : γ} (hi : τ[i]? = some (.ow x)) (hj : τ[j]? = some (.ow y)) (ne : i ≠ j) {q c : Addr}
    (hq : σ[i]? = some (some (.ref q))) (hc : σ[j]? = some (some (.ref c))) : c ≠ q := fun z => ne (h.dis i j _ _ q hi hj trivial trivial hq (by rw [hc, z]))
/-- the slot's thing is readable for a while: the readable heap with it -/
theorem Ok.lend {K : PySem.W.Frag} {B0 H0 B H : Hp} {σ : L2.St} {τ : List Sl} (h : Ok K B0 H0 B H σ τ) {i : Nat} {β : Type} [Ob β] {x : β} (hi : τ[i]? = some (.ow x)) :
    ∃ q ob, H0 q = none ∧ B q = none ∧ H q = some ob ∧ σ[i]? = some (some (.ref q)) ∧ Ok K B0 H0 (upd B q ob) H σ (τ.set i (.sh x)) := by
  obtain ⟨q, ob, e, n0, nb, hq, r⟩ := h.own hi
  have hl := lt_of_get hi
  have sb : Same B (upd B q ob) := same_upd nb
  refine ⟨q, ob, n0, nb, hq, e, ⟨fun c u g => ?_, h.ext.hh, h.ext.bb.trans sb, fun c g n => ?_⟩, by rw [List.length_set]; exact h.len, fun j s g => ?_, fun j k s u c g1 g2 o1 o2 f1 f2 => ?_⟩
  · by_cases z : c = q
    · subst z; rw [upd_same] at g; rw [hq]; exact g
    · rw [upd_ne z] at g; exact h.ext.bh c u g
  · rw [upd_ne (fun z => n (by rw [z]; exact n0))]; exact h.ext.nw c g n
  · by_cases z : i = j
    · subst z
      rw [List.getElem?_set_self hl] at g
      cases g
      exact .inr ⟨_, e, q, ob, rfl, .of upd_same, Ob.omono (.of sb) r⟩
    · rw [List.getElem?_set_ne z] at g
      rcases h.at_ j s g with w | ⟨v, e1, r1⟩
      · exact .inl w
      · refine .inr ⟨v, e1, ?_⟩
        cases s with
        | un => trivial
        | sh y => exact Py.mono (.of sb) (show rep K B v y from r1)
        | ow y =>
          obtain ⟨c, ob', e2, m0, mb, hc, r2⟩ := r1
          subst e2
          exact ⟨c, ob', rfl, m0, by rw [upd_ne (h.other hi g z e e1)]; exact mb, hc, Ob.omono (.of sb) r2⟩
  · have go : ∀ {m : Nat} {t : Sl}, (τ.set i (.sh x))[m]? = some t → t.own → τ[m]? = some t := fun {m t} g o => by
      by_cases z : i = m
      · subst z
        rw [List.getElem?_set_self hl] at g
        cases g
        exact o.elim
      · rwa [List.getElem?_set_ne z] at g
    exact h.dis j k s u c (go g1 o1) (go g2 o2) o1 o2 f1 f2
def unl (B : Hp) (q : Addr) : Hp := fun a => if a = q then none else B a
theorem unl_same {B : Hp} {q : Addr} : unl B q q = none := by unfold unl; rw [if_pos rfl]
theorem unl_ne {B : Hp} {q a : Addr} (h : a ≠ q) : unl B q a = B a := by unfold unl; rw [if_neg h]
theorem Ext.unlend {B H B' H' : Hp} {q : Addr} {ob : HO} (nb : B q = none) (x : Ext (upd B q ob) H B' H') : Ext B H (unl B' q) H' := by
  refine ⟨fun c u g => ?_, x.hh, fun c u g => ?_, fun c g n => ?_⟩
  · by_cases z : c = q
    · rw [z, unl_same] at g; cases g
    · rw [unl_ne z] at g; exact x.bh c u g
  · have z : c ≠ q := fun z => by rw [z, nb] at g; cases g
    rw [unl_ne z]; exact x.bb c u (by rw [upd_ne z]; exact g)
  · by_cases z : c = q
    · rw [z]; exact unl_same
    · rw [unl_ne z]; exact x.nw c (by rw [upd_ne z]; exact g) n
theorem tle_unl {B : Hp} {q : Addr} (h : ∀ xs, B q ≠ some (.tup xs)) : TLe B (unl B q) := fun a xs e => by
  rw [unl_ne (fun z => h xs (by rw [← z]; exact e))]; exact e
/-- what is no tuple -/
class NoT (β : Type) [Ob β] : Prop where
  no : ∀ {K : PySem.W.Frag} {B : Hp} {o : HO} {x : β} {xs : List V}, Ob.obj K B o x → o ≠ .tup xs
instance {α : Type} [Py α] : NoT (List α) := ⟨fun ⟨_, e, _⟩ z => by rw [e] at z; cases z⟩
theorem Vok.unlend {K : PySem.W.Frag} {B H H0 : Hp} {q : Addr} {v : V} {s : Sl} (h : Vok K B H H0 v s) (hi : s.imm) (t : ∀ xs, B q ≠ some (.tup xs)) : Vok K (unl B q) H H0 v s := by
  cases s with
  | un => trivial
  | @sh α inst y => exact @Imm.keep α inst hi _ _ _ _ _ (tle_unl t) h
  | @ow β inst y =>
    obtain ⟨c, ob, e, n0, nb, hc, r⟩ := h
    refine ⟨c, ob, e, n0, ?_, hc, @ImmO.okeep β inst hi _ _ _ _ _ (tle_unl t) r⟩
    by_cases z : c = q
    · rw [z]; exact unl_same
    · rw [unl_ne z]; exact nb
/-- within one expression an owned thing is readable, if what comes of it holds no such thing -/
theorem px_lend (i : Nat) {β : Type} [Ob β] [NoT β] {x : β} {s : Sl} (hi : τ[i]? = some (.ow x)) (hs : s.imm) (h : PX p e (τ.set i (.sh x)) s) : PX p e τ s := fun B0 H0 B H σ ok Q q => by
  obtain ⟨q0, ob, e1, n0, nb, hq, r⟩ := ok.own hi
  obtain ⟨c, ob', n0', nb', hc, e2, ok2⟩ := ok.lend hi
  rw [e1] at e2
  cases e2
  rw [hq] at hc
  cases hc
  refine h B0 H0 _ H σ ok2 Q fun B' H' v x1 r1 => q (unl B' q0) H' v (x1.unlend nb) (r1.unlend hs fun xs z => ?_)
  have := x1.bb q0 ob upd_same
  rw [this] at z
  exact NoT.no r (Option.some.inj z)
theorem pt_lend (i : Nat) {β : Type} [Ob β] {x : β} {c : Bool} (hi : τ[i]? = some (.ow x)) (h : PTx p e (τ.set i (.sh x)) c) : PTx p e τ c := fun B0 H0 B H σ ok Q q => by
  obtain ⟨q0, ob, n0, nb, hq, e1, ok2⟩ := ok.lend hi
  exact h B0 H0 _ H σ ok2 Q fun B' H' x1 => q (unl B' q0) H' (x1.unlend nb)
/-- from now on it is readable, and no more changed -/
theorem sx_pub (i : Nat) {β : Type} [Ob β] {x : β} (hi : τ[i]? = some (.ow x)) (h : SX p sts (τ.set i (.sh x)) R) : SX p sts τ R := fun B0 H0 B H σ ok D em => by
  obtain ⟨q0, ob, n0, nb, hq, e1, ok2⟩ := ok.lend hi
  exact h B0 H0 _ H σ ok2 D em
/-- it is changed in its place -/
theorem Ok.mut {K : PySem.W.Frag} {B0 H0 B H : Hp} {σ : L2.St} {τ : List Sl} (h : Ok K B0 H0 B H σ τ) {i : Nat} {β : Type} [Ob β] {x : β} (hi : τ[i]? = some (.ow x)) {q : Addr} (e : σ[i]? = some (some (.ref q))) (n0 : H0 q = none) (nb : B q = none)
    {γ : Type} [Ob γ] {y : γ} {ob : HO} (r : Ob.obj K B ob y) : Ok K B0 H0 B (upd H q ob) σ (τ.set i (.ow y)) := by
  have hl := lt_of_get hi
  refine ⟨⟨fun c u g => ?_, fun c u g => ?_, h.ext.bb, fun c g n => h.ext.nw c g n⟩, by rw [List.length_set]; exact h.len, fun j s g => ?_, fun j k s u c g1 g2 o1 o2 f1 f2 => ?_⟩
  · rw [upd_ne (fun z => by rw [z, nb] at g; cases g)]; exact h.ext.bh c u g
  · rw [upd_ne (fun z => by rw [z, n0] at g; cases g)]; exact h.ext.hh c u g
  · by_cases z : i = j
    · subst z
      rw [List.getElem?_set_self hl] at g
      cases g
      exact .inr ⟨_, e, q, ob, rfl, n0, nb, upd_same, r⟩
    · rw [List.getElem?_set_ne z] at g
      rcases h.at_ j s g with w | ⟨v, e1, r1⟩
      · exact .inl w
      · refine .inr ⟨v, e1, ?_⟩
        cases s with
        | un => trivial
        | sh y => exact r1
        | ow y =>
          obtain ⟨c, ob', e2, m0, mb, hc, r2⟩ := r1
          subst e2
          exact ⟨c, ob', rfl, m0, mb, by rw [upd_ne (h.other hi g z e e1)]; exact hc, r2⟩
  · have go : ∀ {m : Nat} {t : Sl}, (τ.set i (.ow y))[m]? = some t → t.own → ∃ t', τ[m]? = some t' ∧ t'.own := fun {m t} g o => by
      by_cases z : i = m
      · subst z; exact ⟨_, hi, trivial⟩
      · rw [List.getElem?_set_ne z] at g; exact ⟨t, g, o⟩
    obtain ⟨s', h1, o1'⟩ := go g1 o1
    obtain ⟨u', h2, o2'⟩ := go g2 o2
    exact h.dis j k s' u' c h1 h2 o1' o2' f1 f2

/-! ### methods of lists, as statements: x.m(e), x.m() -/
theorem s_lm1 (i : Nat) {α β : Type} [Py α] [Py β] {xs : List α} {y : Sl} {zs : List β} {x m : Str} {id : String} {r : V → List V → Hp → VK → Prop} {px apos cpos : Pos} (pa : PlainAttrs "list") (slot : Slot "list" m id) (hty : typeOf (.builtin id) = pure (.type "method_descriptor"))
    (hm : ∀ X, p.In X → MtR X id r) (hN : p.N[i]? = some x) (hv : Vis p.sc x) (hτ : τ[i]? = some (.ow xs)) (he : PX p e τ y)
    (h : ∀ B H H1 q vs v Q, Same B H → B q = none → H q = some (.lst vs) → All2 (rep p.K B) vs xs → Vok p.K B H H1 v y → (H1 q ≠ none) → (∀ z H2 ws, H2 = upd H q (.lst ws) → All2 (rep p.K B) ws zs → Q z H2) → r (.ref q) [v] H Q)
    (hd : (x == ("__debug__" : Str)) = false) (hc : (x == ("__classdict__" : Str)) = false) (hbase : ∀ env, attributeBase (.Name x px) m env (eval (.Name x px) env) = eval (.Name x px) env)
    (hline : (apos.endLine == cpos.line) = true) (hs : ∀ env, starEach [e] env = [(false, eval e env)]) (hsw : ∀ env, swapsWith (.Call (.Attribute (.Name x px) m apos) [e] [] cpos) none pos.line env = pure false) :
    D1 p (.Expr (.Call (.Attribute (.Name x px) m apos) [e] [] cpos) pos) τ (τ.set i (.ow zs)) := fun R hR B0 H0 B H σ ok D em => by
  refine ⟨tDrop (tBM p.K "list" r (tVar i) (tCons (EE p e) tNil)), fun X hX => ?_, ?_⟩
  · have hX' := hX
    obtain ⟨k, rfl, _⟩ := hX'
    exact ps_expr (pe_bm pa slot hty (hm X hX) (pe_var hN hv hd hc) (pa_cons (ee hX) pa_nil (hs _)) (hbase _) (by rw [hs]; rfl) hline (hs _) rfl) (hsw _)
  · obtain ⟨q, ob, e1, n0, nb, hq, vs, e2, r1⟩ := ok.own hτ
    subst e2
    refine ⟨_, e1, .inl ⟨rfl, vs, .of hq⟩, he B0 H0 B H σ ok _ fun B1 H1 v x1 r2 => ?_⟩
    have ok1 := ok.go x1
    have nb1 := x1.nw q nb (by rw [hq]; simp)
    refine h B1 H1 H q vs v _ x1.bh nb1 (x1.hh _ _ hq) (r1.imp fun _ _ g => Py.mono (.of x1.bb) g) r2 (by rw [hq]; simp) fun z H2 ws e3 r3 => ?_
    subst e3
    exact em.nx _ _ _ _ (ok1.mut (y := zs) hτ e1 n0 nb1 ⟨ws, rfl, r3⟩) hR
theorem s_lm0 (i : Nat) {α β : Type} [Py α] [Py β] {xs : List α} {zs : List β} {x m : Str} {id : String} {r : V → List V → Hp → VK → Prop} {px apos cpos : Pos} (pa : PlainAttrs "list") (slot : Slot "list" m id) (hty : typeOf (.builtin id) = pure (.type "method_descriptor"))
    (hm : ∀ X, p.In X → MtR X id r) (hN : p.N[i]? = some x) (hv : Vis p.sc x) (hτ : τ[i]? = some (.ow xs))
    (h : ∀ B H q vs Q, H q = some (.lst vs) → All2 (rep p.K B) vs xs → (∀ z H2 ws, H2 = upd H q (.lst ws) → All2 (rep p.K B) ws zs → Q z H2) → r (.ref q) [] H Q)
    (hd : (x == ("__debug__" : Str)) = false) (hc : (x == ("__classdict__" : Str)) = false) (hbase : ∀ env, attributeBase (.Name x px) m env (eval (.Name x px) env) = eval (.Name x px) env)
    (hline : (apos.endLine == cpos.line) = true) (hsw : ∀ env, swapsWith (.Call (.Attribute (.Name x px) m apos) [] [] cpos) none pos.line env = pure false) :
    D1 p (.Expr (.Call (.Attribute (.Name x px) m apos) [] [] cpos) pos) τ (τ.set i (.ow zs)) := fun R hR B0 H0 B H σ ok D em => by
  refine ⟨tDrop (tBM0 p.K "list" r (tVar i)), fun X hX => ?_, ?_⟩
  · have hX' := hX
    obtain ⟨k, rfl, _⟩ := hX'
    exact ps_expr (pe_bm0 pa slot hty (hm X hX) (pe_var hN hv hd hc) (hbase _) hline) (hsw _)
  · obtain ⟨q, ob, e1, n0, nb, hq, vs, e2, r1⟩ := ok.own hτ
    subst e2
    refine ⟨_, e1, .inl ⟨rfl, vs, .of hq⟩, h B H q vs _ hq r1 fun z H2 ws e3 r3 => ?_⟩
    subst e3
    exact em.nx _ _ _ _ (ok.mut (y := zs) hτ e1 n0 nb ⟨ws, rfl, r3⟩) hR
section
variable {α : Type} [Py α] {xs : List α} {x : Str} {px apos cpos : Pos}
theorem s_append (i : Nat) {y : α} (hN : p.N[i]? = some x) (hv : Vis p.sc x) (hτ : τ[i]? = some (.ow xs)) (he : PX p e τ (.sh y)) (hl : xs.length < sizeLine)
    (hd : (x == ("__debug__" : Str)) = false) (hc : (x == ("__classdict__" : Str)) = false) (hbase : ∀ env, attributeBase (.Name x px) "append" env (eval (.Name x px) env) = eval (.Name x px) env)
    (hline : (apos.endLine == cpos.line) = true) (hs : ∀ env, starEach [e] env = [(false, eval e env)]) (hsw : ∀ env, swapsWith (.Call (.Attribute (.Name x px) "append" apos) [e] [] cpos) none pos.line env = pure false) :
    D1 p (.Expr (.Call (.Attribute (.Name x px) "append" apos) [e] [] cpos) pos) τ (τ.set i (.ow (xs ++ [y]))) :=
  s_lm1 i PySem.F.plainAttrs_list PySem.F.slot_list_append PySem.F.type_list_append (fun _ _ => mt_append) hN hv hτ he (fun B H H1 q vs v Q s nb hq r rv nq k => ⟨q, vs, v, rfl, rfl, hq, by rw [r.length]; exact hl, k _ _ _ rfl (r.append (.cons rv .nil))⟩) hd hc hbase hline hs hsw
theorem s_extend (i : Nat) {ys : List α} (hN : p.N[i]? = some x) (hv : Vis p.sc x) (hτ : τ[i]? = some (.ow xs)) (he : PX p e τ (.ow ys)) (hl : xs.length + ys.length ≤ sizeLine)
    (hd : (x == ("__debug__" : Str)) = false) (hc : (x == ("__classdict__" : Str)) = false) (hbase : ∀ env, attributeBase (.Name x px) "extend" env (eval (.Name x px) env) = eval (.Name x px) env)
    (hline : (apos.endLine == cpos.line) = true) (hs : ∀ env, starEach [e] env = [(false, eval e env)]) (hsw : ∀ env, swapsWith (.Call (.Attribute (.Name x px) "extend" apos) [e] [] cpos) none pos.line env = pure false) :
    D1 p (.Expr (.Call (.Attribute (.Name x px) "extend" apos) [e] [] cpos) pos) τ (τ.set i (.ow (xs ++ ys))) :=
  s_lm1 i PySem.F.plainAttrs_list PySem.F.slot_list_extend PySem.F.type_list_extend (fun _ _ => mt_extend) hN hv hτ he (fun B H H1 q vs v Q s nb hq r rv nq k => by
    obtain ⟨c, ob, e1, n1, mb, hc, us, e2, r2⟩ := rv
    subst e1 e2
    exact ⟨q, c, vs, us, rfl, rfl, hq, hc, by rw [r.length, r2.length]; exact hl, k _ _ _ rfl (r.append r2)⟩) hd hc hbase hline hs hsw
theorem s_clear (i : Nat) (hN : p.N[i]? = some x) (hv : Vis p.sc x) (hτ : τ[i]? = some (.ow xs))
    (hd : (x == ("__debug__" : Str)) = false) (hc : (x == ("__classdict__" : Str)) = false) (hbase : ∀ env, attributeBase (.Name x px) "clear" env (eval (.Name x px) env) = eval (.Name x px) env)
    (hline : (apos.endLine == cpos.line) = true) (hsw : ∀ env, swapsWith (.Call (.Attribute (.Name x px) "clear" apos) [] [] cpos) none pos.line env = pure false) :
    D1 p (.Expr (.Call (.Attribute (.Name x px) "clear" apos) [] [] cpos) pos) τ (τ.set i (.ow ([] : List α))) :=
  s_lm0 i PySem.F.plainAttrs_list PySem.F.slot_list_clear PySem.F.type_list_clear (fun _ _ => mt_clear) hN hv hτ (fun B H q vs Q hq r k => ⟨q, vs, rfl, rfl, hq, k _ _ _ rfl .nil⟩) hd hc hbase hline hsw
theorem s_reverse (i : Nat) (hN : p.N[i]? = some x) (hv : Vis p.sc x) (hτ : τ[i]? = some (.ow xs))
    (hd : (x == ("__debug__" : Str)) = false) (hc : (x == ("__classdict__" : Str)) = false) (hbase : ∀ env, attributeBase (.Name x px) "reverse" env (eval (.Name x px) env) = eval (.Name x px) env)
    (hline : (apos.endLine == cpos.line) = true) (hsw : ∀ env, swapsWith (.Call (.Attribute (.Name x px) "reverse" apos) [] [] cpos) none pos.line env = pure false) :
    D1 p (.Expr (.Call (.Attribute (.Name x px) "reverse" apos) [] [] cpos) pos) τ (τ.set i (.ow xs.reverse)) :=
  s_lm0 i PySem.F.plainAttrs_list PySem.F.slot_list_reverse PySem.F.type_list_reverse (fun _ _ => mt_reverse) hN hv hτ (fun B H q vs Q hq r k => ⟨q, vs, rfl, rfl, hq, k _ _ _ rfl r.reverse⟩) hd hc hbase hline hsw
end

/-! ### slices -/
def cut {α : Type} (xs : List α) (lo hi : Option Int) : List α := (xs.drop (HT.sIx xs.length 0 lo)).take (HT.sIx xs.length xs.length hi - HT.sIx xs.length 0 lo)
theorem All2.cut {α β : Type} {S : α → β → Prop} {as : List α} {bs : List β} (r : All2 S as bs) (lo hi : Option Int) : All2 S (cut as lo hi) (cut bs lo hi) := by
  unfold Ly.cut
  rw [r.length]
  exact (r.drop _).take _
def POx (p : Par) (eo : Option Expr) (τ : List Sl) (i : Option Int) : Prop := match eo, i with
  | none, none => True
  | some e, some i => PX p e τ (.sh i)
  | _, _ => False
def EO (p : Par) (eo : Option Expr) : TO := match eo with
  | none => tNoPart
  | some e => tPart (EE p e)
theorem eo_ {p : Par} {X : Cx} {eo : Option Expr} (h : p.In X) : PO X eo (EO p eo) := by
  cases eo with
  | none => exact po_none
  | some e => exact po_some (ee h)
theorem eo_run {eo : Option Expr} {i : Option Int} (h : POx p eo τ i) {B0 H0 B H : Hp} {σ : L2.St} (ok : Ok p.K B0 H0 B H σ τ) {Q : Option Int → Hp → Prop} (q : ∀ B' H', Ext B H B' H' → Q i H') : EO p eo σ H Q := by
  cases eo with
  | none => cases i with
    | none => exact q B H (.refl ok.bh)
    | some i => exact h.elim
  | some e => cases i with
    | none => exact h.elim
    | some i => exact (show PX p e τ (.sh i) from h) B0 H0 B H σ ok _ fun B1 H1 v x1 r => ⟨i, r, q B1 H1 x1⟩
theorem px_slL {α β : Type} [Py α] [Py β] [Seqn α β] {x : α} {lo hi : Option Expr} {l u : Option Int} {p2 : Pos} (ha : PX p a τ (.sh x)) (hl : POx p lo τ l) (hu : POx p hi τ u) (isl : ∀ {B H : Hp} {v : V}, Same B H → rep p.K B v x → ∃ q vs, v = .ref q ∧ SqL p.K H q vs ∧ All2 (rep p.K B) vs (Seqn.sq x)) :
    PX p (.Subscript a (.Slice lo hi none p2) pos) τ (.ow (cut (Seqn.sq x) l u)) := fun B0 H0 B H σ ok Q q => by
  refine ⟨tSl (rSlL p.K) (EE p a) (EO p lo) (EO p hi), fun X hX => ?_, ha B0 H0 B H σ ok _ fun B1 H1 v x1 r1 => ?_⟩
  · have hX' := hX
    obtain ⟨k, rfl, _⟩ := hX'
    exact pe_slice sl_list (ee hX) (eo_ hX) (eo_ hX)
  · refine eo_run hl (ok.go x1) fun B2 H2 x2 => eo_run hu ((ok.go x1).go x2) fun B3 H3 x3 => ?_
    have x13 := x2.trans x3
    obtain ⟨c, vs, e1, hs, r⟩ := isl x13.bh (Py.mono (.of x13.bb) (show rep p.K B1 v x from r1))
    refine ⟨c, vs, e1, hs, fun d hd => ?_⟩
    have xx := (x1.trans x13)
    refine q B3 _ _ (xx.trans (Ext.made x13.bh hd)) ⟨d, _, rfl, xx.hh.free hd, x13.bh.free hd, upd_same, _, rfl, r.cut l u⟩
theorem px_sl {α : Type} [Py α] {x : List α} {lo hi : Option Expr} {l u : Option Int} {p2 : Pos} (ha : PX p a τ (.sh x)) (hl : POx p lo τ l) (hu : POx p hi τ u) : PX p (.Subscript a (.Slice lo hi none p2) pos) τ (.ow (cut x l u)) :=
  px_slL ha hl hu fun s r => by
    obtain ⟨c, ob, e1, hc, vs, e2, r⟩ := r
    subst e2
    exact ⟨c, vs, e1, .of (s _ _ hc.lst), r⟩
instance : Seqn Scr Int := ⟨Scr.l, fun {K B H v x} s ⟨q, e, h⟩ => ⟨q, _, e, .inl (s.seq h), .of_map (f := V.int) (fun _ => rfl) _⟩⟩
theorem px_slScr {x : Scr} {lo hi : Option Expr} {l u : Option Int} {p2 : Pos} (ha : PX p a τ (.sh x)) (hl : POx p lo τ l) (hu : POx p hi τ u) : PX p (.Subscript a (.Slice lo hi none p2) pos) τ (.ow (cut x.l l u)) :=
  by
  have h := px_slL (α := Scr) (β := Int) (x := x) (pos := pos) (p2 := p2) ha hl hu (fun {B H v} s ⟨q, e, h⟩ => ⟨q, _, e, s.seq h, .of_map (f := V.int) (fun _ => rfl) _⟩)
  exact h
/-- a part of a tuple, not the whole of it -/
theorem px_slT {α β : Type} [Py α] [Flds α] [Py β] {x : α} {y : β} {lo hi : Option Expr} {l u : Option Int} {p2 : Pos} (ha : PX p a τ (.sh x)) (hl : POx p lo τ l) (hu : POx p hi τ u) {n : Nat} (hn : (Flds.fl x).length = n) (nw : ¬ (HT.sIx n 0 l = 0 ∧ HT.sIx n n u = n))
    (r : ∀ B vs q, All2 (Shr p.K B) vs ((Flds.fl x).drop (HT.sIx n 0 l) |>.take (HT.sIx n n u - HT.sIx n 0 l)) → B q = some (.tup vs) → rep p.K B (.ref q) y) : PX p (.Subscript a (.Slice lo hi none p2) pos) τ (.sh y) := fun B0 H0 B H σ ok Q q => by
  refine ⟨tSl (rSlT p.K) (EE p a) (EO p lo) (EO p hi), fun X hX => ?_, ha B0 H0 B H σ ok _ fun B1 H1 v x1 r1 => ?_⟩
  · have hX' := hX
    obtain ⟨k, rfl, _⟩ := hX'
    exact pe_slice sl_tup (ee hX) (eo_ hX) (eo_ hX)
  · refine eo_run hl (ok.go x1) fun B2 H2 x2 => eo_run hu ((ok.go x1).go x2) fun B3 H3 x3 => ?_
    have x13 := x2.trans x3
    obtain ⟨c, vs, e1, hs, r2⟩ := Flds.ofr (Py.mono (.of x13.bb) (show rep p.K B1 v x from r1))
    have hv : vs.length = n := r2.length.trans hn
    refine ⟨c, vs, e1, .of (x13.bh _ _ hs), by rw [hv]; exact nw, fun d hd => ?_⟩
    have x4 := Ext.laid (o := .tup (cutV vs l u)) x13.bh hd
    refine q _ _ _ ((x1.trans x13).trans x4) (r _ _ d ?_ upd_same)
    have r3 := (r2.drop (HT.sIx n 0 l)).take (HT.sIx n n u - HT.sIx n 0 l)
    have r4 : All2 (Shr p.K B3) (cutV vs l u) (List.take (HT.sIx n n u - HT.sIx n 0 l) (List.drop (HT.sIx n 0 l) (Flds.fl x))) := by
      unfold cutV
      rw [hv]
      exact r3
    exact r4.imp fun v s g => by
      cases s with
      | sh y => exact Py.mono (.of x4.bb) g
      | un => exact g
      | ow y => exact g

/-! ### comprehensions with one for -/
def Par.blk (p : Par) (scope : Scope) : Par := { p with sc := relS scope p.sc, fn := fun x => scope.names.lookup x == some .cell }
theorem blk_in {p : Par} {X : Cx} (h : p.In X) (scope : Scope) (s : Shared) (H : Hp) (C : Addr) (cl : List (Str × Addr)) (fp : List Addr) : (p.blk scope).In (X.blk s H scope (compEnvC scope cl C X.env) fp) := by
  obtain ⟨k, rfl, calm, room, po⟩ := h
  exact ⟨k, rfl, calm, room, PassesOwn.never⟩
def wipeT (τ : List Sl) : List Nat → List Sl
  | [] => τ
  | v :: vs => (wipeT τ vs).set v .un
theorem Ok.wipes {K : PySem.W.Frag} {B0 H0 B H : Hp} {σ : L2.St} {τ : List Sl} (h : Ok K B0 H0 B H σ τ) : ∀ vs : List Nat, Ok K B0 H0 B H (L2.wipe σ vs) (wipeT τ vs)
  | [] => h
  | v :: vs => (Ok.wipes h vs).wipe v
theorem wipe_at (σ : L2.St) : ∀ (vs : List Nat) (j : Nat), j ∈ vs → j < σ.length → (L2.wipe σ vs)[j]? = some none
  | [], _, h, _ => by cases h
  | v :: vs, j, h, hl => by
    unfold L2.wipe
    by_cases z : v = j
    · subst z; rw [List.getElem?_set_self (by rw [wipe_length]; exact hl)]
    · rw [List.getElem?_set_ne z]
      exact wipe_at σ vs j ((List.mem_cons.mp h).resolve_left fun e => z e.symm) hl
theorem wipe_upto {σ σ' : L2.St} {vs w : List Nat} (u : Upto w (L2.wipe σ vs) σ') (hw : ∀ j ∈ w, j ∈ vs) : L2.wipe σ' vs = L2.wipe σ vs := by
  have hl : σ'.length = σ.length := by rw [u.1, wipe_length]
  refine List.ext_getElem? fun j => ?_
  by_cases hj : j ∈ vs
  · by_cases h : j < σ.length
    · rw [wipe_at σ' vs j hj (by rw [hl]; exact h), wipe_at σ vs j hj h]
    · rw [List.getElem?_eq_none (by rw [wipe_length, hl]; omega), List.getElem?_eq_none (by rw [wipe_length]; omega)]
  · rw [wipe_out hj, u.2 j fun z => hj (hw j z)]
def ETs (p : Par) (ifs : List Expr) : TT := fun σ H Q => ∃ t : TT, (∀ X, p.In X → PTs X ifs t) ∧ t σ H Q
theorem ets {p : Par} {X : Cx} {ifs : List Expr} (h : p.In X) : PTs X ifs (ETs p ifs) := ⟨fun pins s σ H Q I ⟨_, ht, hq⟩ => (ht X h).run pins s σ H Q I hq⟩
def PTsx (p : Par) (ifs : List Expr) (τ : List Sl) (b : Bool) : Prop := ∀ B0 H0 B H σ, Ok p.K B0 H0 B H σ τ → ∀ Q : Bool → Hp → Prop, (∀ B' H', Ext B H B' H' → Q b H') → ETs p ifs σ H Q
theorem pts_nil : PTsx p [] τ true := fun B0 H0 B H σ ok Q q => ⟨tYes, fun _ _ => L2.pts_nil, q B H (.refl ok.bh)⟩
theorem pts_one {c : Expr} {k : Bool} (h : PTx p c τ k) : PTsx p [c] τ k := fun B0 H0 B H σ ok Q q => ⟨ET p c, fun X hX => L2.pts_one (et hX), h B0 H0 B H σ ok Q q⟩
theorem filterMap_take {α β : Type} {g : α → Option β} {xs : List α} {i : Nat} {x : α} (h : xs[i]? = some x) : (xs.take (i + 1)).filterMap g = (xs.take i).filterMap g ++ (g x).toList := by
  rw [List.take_add_one, h, List.filterMap_append]
  show _ ++ List.filterMap g [x] = _
  rw [List.filterMap_cons]
  cases g x <;> rfl
section
variable {α β : Type} [Py α] [Py β] {xs : List α} {g : α → Option β} {elt tg iter : Expr} {ifs : List Expr} {scope : Scope} {own : List (Str × Nat)} {w : List Nat}
theorem lc_read (hi : IX p tg iter τ (xs.map fun x => .sh x)) (hn : xs.length ≤ sizeLine) (hw : ∀ j ∈ w, j ∈ own.map (·.2))
    (turn : ∀ x, x ∈ xs → ∃ τ', GX (p.blk scope) tg w (.sh x) (wipeT τ (own.map (·.2))) τ' ∧ PTsx (p.blk scope) ifs τ' (g x).isSome ∧ ∀ y, g x = some y → PX (p.blk scope) elt τ' (.sh y))
    {B0 H0 B H : Hp} {σ : L2.St} (ok : Ok p.K B0 H0 B H σ τ) {Q : VK} (q : ∀ B' H' v, Ext B H B' H' → Vok p.K B' H' H v (.ow (xs.filterMap g)) → Q v H') :
    tLc (EI p tg iter) (EG (p.blk scope) tg) (ETs (p.blk scope) ifs) (EE (p.blk scope) elt) (own.map (·.2)) σ H Q := by
  refine hi B0 H0 B H σ ok _ fun B1 H1 J x1 tj D hD => ?_
  have ok1 := ok.go x1
  have nB1 : B1 D = none := x1.bh.free hD
  refine ⟨fun i m H' => m = xs.length - i ∧ i ≤ xs.length ∧ ∃ B' acc, Ext B1 H1 B' H' ∧ H' D = some (.lst acc) ∧ B' D = none ∧ All2 (rep p.K B') acc ((xs.take i).filterMap g), ⟨_, rfl, Nat.zero_le _, B1, [], Ext.made x1.bh hD, upd_same, nB1, .nil⟩, ?_⟩
  rintro i m H2 ⟨rfl, hin, B2, acc, x2, hD2, nB2, r2⟩
  obtain ⟨tg1, tstop⟩ := tj B2 H2 x2.bb x2.bh
  rw [List.length_map] at tstop
  by_cases hlt : i < xs.length
  · obtain ⟨x, hx⟩ : ∃ x, xs[i]? = some x := ⟨xs[i], List.getElem?_eq_getElem hlt⟩
    obtain ⟨go, yl⟩ := tg1 i (.sh x) (by rw [List.getElem?_map, hx]; rfl)
    obtain ⟨τ', gx, tx, ex⟩ := turn x (List.mem_of_getElem? hx)
    refine .inr ⟨go, fun H' => ∃ B' acc, Ext B1 H1 B' H' ∧ H' D = some (.lst acc) ∧ B' D = none ∧ All2 (rep p.K B') acc ((xs.take (i + 1)).filterMap g), fun H' n => ⟨_, by omega, rfl, hlt, n⟩, fun y H' hy => ?_⟩
    obtain ⟨B3, x3, r3⟩ := yl y H' hy
    have ok3 : Ok p.K B0 H0 B3 H' (L2.wipe σ (own.map (·.2))) (wipeT τ (own.map (·.2))) := (((ok1.go x2).go x3)).wipes _
    refine gx B0 H0 B3 H' _ y ok3 r3 _ fun σ4 ok4 u4 => ⟨wipe_upto u4 hw, ?_⟩
    refine tx B0 H0 B3 H' σ4 ok4 _ fun B5 H5 x5 => ?_
    have lift : ∀ {Bn Hn : Hp}, Ext B2 H2 Bn Hn → Hn D = some (.lst acc) ∧ Bn D = none ∧ All2 (rep p.K Bn) acc ((xs.take i).filterMap g) := fun xx => ⟨xx.hh _ _ hD2, xx.nw D nB2 (by rw [hD2]; simp), r2.imp fun _ _ h => Py.mono (.of xx.bb) h⟩
    cases hg : g x with
    | none =>
      have xx := x3.trans x5
      obtain ⟨l1, l2, l3⟩ := lift xx
      exact iteF ⟨B5, acc, x2.trans xx, l1, l2, by rw [filterMap_take hx, hg]; simpa using l3⟩
    | some y2 =>
      refine iteT (ex y2 hg B0 H0 B5 H5 σ4 (ok4.go x5) _ fun B6 H6 v x6 r6 => ?_)
      have xx := (x3.trans x5).trans x6
      obtain ⟨l1, l2, l3⟩ := lift xx
      have hlen : acc.length ≤ i := by
        rw [r2.length]
        exact Nat.le_trans (List.length_filterMap_le _ _) (by rw [List.length_take]; exact Nat.min_le_left _ _)
      refine ⟨acc, l1, by omega, B6, acc ++ [v], ?_, upd_same, l2, ?_⟩
      · have x12 := x2.trans xx
        refine ⟨fun c u h => ?_, fun c u h => ?_, x12.bb, fun c h n => x12.nw c h n⟩
        · rw [upd_ne (fun z => by rw [z, l2] at h; cases h)]; exact x12.bh c u h
        · rw [upd_ne (fun z => by rw [z, hD] at h; cases h)]; exact x12.hh c u h
      · rw [filterMap_take hx, hg]
        exact l3.append (.cons r6 .nil)
  · have e : i = xs.length := by omega
    subst e
    rw [List.take_length] at r2
    exact .inl ⟨tstop, q B2 H2 _ (x1.trans x2) ⟨D, _, rfl, x1.hh.free hD, nB2, hD2, acc, rfl, r2⟩⟩
variable (nd : p.N.Nodup) (bk : BlkOk p.N p.sc scope own)
include nd bk
theorem px_lcG (hi : IX p tg iter τ (xs.map fun x => .sh x)) (hn : xs.length ≤ sizeLine) (hw : ∀ j ∈ w, j ∈ own.map (·.2))
    (turn : ∀ x, x ∈ xs → ∃ τ', GX (p.blk scope) tg w (.sh x) (wipeT τ (own.map (·.2))) τ' ∧ PTsx (p.blk scope) ifs τ' (g x).isSome ∧ ∀ y, g x = some y → PX (p.blk scope) elt τ' (.sh y))
    (hf : ∀ env x, foldedSetIterable iter env x = pure x) : PX p (.ListComp elt [⟨tg, iter, ifs, 0⟩] scope pos) τ (.ow (xs.filterMap g)) := fun B0 H0 B H σ ok Q q => by
  refine ⟨_, fun X hX => ?_, lc_read hi hn hw turn ok q⟩
  have hX' := hX
  obtain ⟨k, rfl, calm, _⟩ := hX'
  exact pe_lc calm nd (ei hX) bk (fun s H C cl fp => eg (blk_in hX scope s H C cl fp)) (fun s H C cl fp => ets (blk_in hX scope s H C cl fp)) (fun s H C cl fp => ee (blk_in hX scope s H C cl fp)) (hf _)
/-- x = [..], x a local name -/
theorem s_lcG (i : Nat) {y : Str} {py : Pos} {spos : Pos} (hN : p.N[i]? = some y) (hy : p.sc.names.lookup y = some .local) (hk : p.sc.kind = .function) (hl : (py.line == pos.line) = true) (ha : (scope.names.any fun (n, k) => n == y && (k == .local || k == .cell)) = false)
    (hi : IX p tg iter τ (xs.map fun x => .sh x)) (hn : xs.length ≤ sizeLine) (hw : ∀ j ∈ w, j ∈ own.map (·.2))
    (turn : ∀ x, x ∈ xs → ∃ τ', GX (p.blk scope) tg w (.sh x) (wipeT τ (own.map (·.2))) τ' ∧ PTsx (p.blk scope) ifs τ' (g x).isSome ∧ ∀ y, g x = some y → PX (p.blk scope) elt τ' (.sh y))
    (hf : ∀ env x, foldedSetIterable iter env x = pure x) : D1 p (.Assign [.Name y py] (.ListComp elt [⟨tg, iter, ifs, 0⟩] scope pos) spos) τ (τ.set i (.ow (xs.filterMap g))) := fun R hR B0 H0 B H σ ok D em => by
  have lr := lc_read (own := own) hi hn hw turn ok (Q := fun v H1 => gName i v σ H1 D.nx) fun B1 H1 v x1 r1 => em.nx B1 H1 _ _ (ok.putN x1 r1) hR
  refine ⟨tAsg (tLc (EI p tg iter) (EG (p.blk scope) tg) (ETs (p.blk scope) ifs) (EE (p.blk scope) elt) (own.map fun (x : Str × Nat) => x.2)) (gName i), fun X hX => ?_, lr⟩
  have hX' := hX
  obtain ⟨k, rfl, calm, _⟩ := hX'
  exact ps_setLc calm nd hN hy (sw_true hk hy hl ha) (ei hX) bk (fun s H C cl fp => eg (blk_in hX scope s H C cl fp)) (fun s H C cl fp => ets (blk_in hX scope s H C cl fp)) (fun s H C cl fp => ee (blk_in hX scope s H C cl fp)) (hf _)
end
end
end Ly

namespace Ly
open PySem PySem.Spec PyProof.Rows L2
open Py
/-! ### the rules as the printed proofs use them: the first m names are the def's own, told once -/
structure Gd (p : Par) (m : Nat) : Prop where
  nd : p.N.Nodup
  loc : ∀ x ∈ p.N.take m, Loc p.sc x
  fn : ∀ x, p.fn x = true
  ok : ∀ x ∈ p.N, (x == ("__debug__" : Str)) = false ∧ (x == ("__classdict__" : Str)) = false
theorem Gd.lc {p : Par} {m : Nat} (G : Gd p m) {i : Nat} {x : Str} (hN : p.N[i]? = some x) (hi : i < m) : Loc p.sc x :=
  G.loc x (List.mem_of_getElem? (i := i) (by rw [List.getElem?_take_of_lt hi]; exact hN))
theorem Gd.vs {p : Par} {m : Nat} (G : Gd p m) {i : Nat} {x : Str} (hN : p.N[i]? = some x) (hi : i < m) : Vis p.sc x := (G.lc hN hi).elim .inl fun h => .inr (.inl h)
def isSh : Sl → Prop
  | .un => False
  | @Sl.sh _ _ _ => True
  | @Sl.ow _ _ _ => False
section
variable {p : Par} {m : Nat} {τ τ1 : List Sl} {R : Post} {st : Stmt} {sts rest : List Stmt} {e a b o : Expr} {es : List Expr} {pos : Pos}
theorem px_v (G : Gd p m) (i : Nat) {s : Sl} {x : Str} (hN : p.N[i]? = some x) (hi : i < m) (hτ : τ[i]? = some s) (hs : isSh s) : PX p (.Name x pos) τ s :=
  px_var i hN (G.vs hN hi) hτ (by cases s with
    | un => exact hs
    | sh _ => trivial
    | ow _ => exact hs) (G.ok x (List.mem_of_getElem? hN)).1 (G.ok x (List.mem_of_getElem? hN)).2
/-- in a comprehension's block -/
theorem px_w (G : Gd p m) {q : Par} (hq : q.N = p.N) (i : Nat) {s : Sl} {x : Str} (hN : q.N[i]? = some x) (hv : Vis q.sc x) (hτ : τ[i]? = some s) (hs : isSh s) : PX q (.Name x pos) τ s :=
  px_var i hN hv hτ (by cases s with
    | un => exact hs
    | sh _ => trivial
    | ow _ => exact hs) (G.ok x (by rw [← hq]; exact List.mem_of_getElem? hN)).1 (G.ok x (by rw [← hq]; exact List.mem_of_getElem? hN)).2
theorem gx_n (G : Gd p m) (i : Nat) {s : Sl} {x : Str} (hN : p.N[i]? = some x) (hi : i < m) (hs : isSh s) : GX p (.Name x pos) [i] s τ (τ.set i s) :=
  gx_name i G.nd hN (G.lc hN hi) (.inl (G.fn x)) (by cases s with
    | un => exact hs
    | sh _ => trivial
    | ow _ => exact hs)
/-- in a comprehension's block: its own name -/
theorem gx_w (G : Gd p m) {q : Par} (hq : q.N = p.N) (i : Nat) {s : Sl} {x : Str} (hN : q.N[i]? = some x) (hl : Loc q.sc x) (hf : q.fn x = true ∨ q.sc.names.lookup x = some .local) (hs : isSh s) : GX q (.Name x pos) [i] s τ (τ.set i s) :=
  gx_name i (by rw [hq]; exact G.nd) hN hl hf (by cases s with
    | un => exact hs
    | sh _ => trivial
    | ow _ => exact hs)
theorem sx_set (G : Gd p m) (i : Nat) {α : Type} [Py α] {v : α} {x : Str} {pos' : Pos} (hN : p.N[i]? = some x) (hi : i < m) (h : PX p e τ (.sh v)) (hs : ∀ env, swapsWith e (some (.Name x pos')) pos.line env = pure false)
    (k : ∀ y, y = v → SX p rest (τ.set i (.sh y)) R) : SX p (.Assign [.Name x pos'] e pos :: rest) τ R :=
  sx_step (s_set i G.nd hN (G.lc hN hi) (.inl (G.fn x)) h hs) (k v rfl)
theorem sx_setO (G : Gd p m) (i : Nat) {β : Type} [Ob β] {v : β} {x : Str} {pos' : Pos} (hN : p.N[i]? = some x) (hi : i < m) (h : PX p e τ (.ow v)) (hs : ∀ env, swapsWith e (some (.Name x pos')) pos.line env = pure false)
    (k : ∀ y, y = v → SX p rest (τ.set i (.ow y)) R) : SX p (.Assign [.Name x pos'] e pos :: rest) τ R :=
  sx_step (s_set i G.nd hN (G.lc hN hi) (.inl (G.fn x)) h hs) (k v rfl)
theorem sx_if {c : Expr} {k : Bool} {bt bf : List Stmt} (hc : PTx p c τ k) (ht : k = true → SX p bt τ ⟨fun τ' => SX p rest τ' R, R.rt⟩) (hf : k = false → SX p bf τ ⟨fun τ' => SX p rest τ' R, R.rt⟩) : SX p (.If c bt bf pos :: rest) τ R :=
  sx_cons (fun τ' => SX p rest τ' R) (s_if hc ht hf) fun _ h => h
/-- .. the ways meet in I -/
theorem sx_ifJ (I : List Sl → Prop) {c : Expr} {k : Bool} {bt bf : List Stmt} (hc : PTx p c τ k) (ht : k = true → SX p bt τ ⟨I, R.rt⟩) (hf : k = false → SX p bf τ ⟨I, R.rt⟩) (j : ∀ τ', I τ' → SX p rest τ' R) : SX p (.If c bt bf pos :: rest) τ R :=
  sx_cons I (s_if hc ht hf) j
theorem sx_ret {s : Sl} (h : PX p e τ s) (hR : R.rt s) : SX p (.Return (some e) pos :: rest) τ R := sx_cons (fun _ => False) (s_ret h hR) fun _ z => z.elim
theorem sx_retV (G : Gd p m) (i : Nat) {s : Sl} {x : Str} {pos' : Pos} (hN : p.N[i]? = some x) (hi : i < m) (hτ : τ[i]? = some s) (hs : s ≠ .un) (hR : R.rt s) : SX p (.Return (some (.Name x pos')) pos :: rest) τ R :=
  sx_cons (fun _ => False) (s_retV i hN (G.vs hN hi) hτ hs (G.ok x (List.mem_of_getElem? hN)).1 (G.ok x (List.mem_of_getElem? hN)).2 hR) fun _ z => z.elim
theorem sx_retN (hR : R.rt (.sh ())) : SX p (.Return none pos :: rest) τ R := sx_cons (fun _ => False) (s_retN hR) fun _ z => z.elim
theorem sx_asg {tg : Expr} {w : List Nat} {α : Type} [Py α] {x : α} (he : PX p e τ (.sh x)) (hg : GX p tg w (.sh x) τ τ1) (hs : ∀ env, swapsWithSole [tg] e pos.line env = pure false) (hw : ∀ env, swappedStores [tg] e env = pure none)
    (h1 : ∀ env, (assignEach [tg] env).map (·.2) = [assign tg env]) (k : SX p rest τ1 R) : SX p (.Assign [tg] e pos :: rest) τ R := sx_step (s_asg he hg hs hw h1) k
theorem sx_expr {s : Sl} (h : PX p e τ s) (hs : ∀ env, swapsWith e none pos.line env = pure false) (k : SX p rest τ R) : SX p (.Expr e pos :: rest) τ R := sx_step (s_expr h hs) k
theorem sx_for {tg iter : Expr} {body : List Stmt} {w : List Nat} {items : List Sl} (I : Nat → List Sl → Prop) (hi : IX p tg iter τ items) (h0 : I 0 τ)
    (hs : ∀ i s τi, items[i]? = some s → I i τi → ∃ τ', GX p tg w s τi τ' ∧ SX p body τ' ⟨I (i + 1), R.rt⟩)
    (hf : ∀ env x, foldedSetIterable iter env x = pure x) (hd : ∀ τn, I items.length τn → SX p rest τn R) : SX p (.For tg iter body [] pos :: rest) τ R :=
  sx_cons (fun τ' => I items.length τ') (s_for I hi h0 hs (fun _ h => h) hf) hd
/-- over things of Lean -/
theorem sx_forL {tg iter : Expr} {body : List Stmt} {w : List Nat} {α : Type} [Py α] {xs : List α} (I : Nat → List Sl → Prop) (hi : IX p tg iter τ (xs.map fun x => .sh x)) (h0 : I 0 τ)
    (hs : ∀ i x τi, xs[i]? = some x → I i τi → ∃ τ', GX p tg w (.sh x) τi τ' ∧ SX p body τ' ⟨I (i + 1), R.rt⟩)
    (hf : ∀ env x, foldedSetIterable iter env x = pure x) (hd : ∀ τn, I xs.length τn → SX p rest τn R) : SX p (.For tg iter body [] pos :: rest) τ R :=
  sx_for I hi h0 (fun i s τi h inv => by obtain ⟨x, e, rfl⟩ := items_at h; exact hs i x τi e inv) hf (by rw [List.length_map]; exact hd)
theorem sx_while {c : Expr} {body : List Stmt} (I : Nat → List Sl → Prop) (h0 : ∃ m, I m τ)
    (hs : ∀ m τi, I m τi → ∃ k, PTx p c τi k ∧ (k = true → SX p body τi ⟨fun τ' => ∃ m', m' < m ∧ I m' τ', R.rt⟩) ∧ (k = false → SX p rest τi R)) : SX p (.While c body [] pos :: rest) τ R :=
  sx_cons (fun τ' => SX p rest τ' R) (s_while I h0 hs) fun _ h => h
/-- a method of an owned list -/
theorem sx_append (G : Gd p m) (i : Nat) {α : Type} [Py α] {xs : List α} {y : α} {x : Str} {px apos cpos : Pos} (hN : p.N[i]? = some x) (hi : i < m) (hτ : τ[i]? = some (.ow xs)) (he : PX p e τ (.sh y)) (hl : xs.length < sizeLine)
    (hbase : ∀ env, attributeBase (.Name x px) "append" env (eval (.Name x px) env) = eval (.Name x px) env) (hline : (apos.endLine == cpos.line) = true) (hs : ∀ env, starEach [e] env = [(false, eval e env)])
    (hsw : ∀ env, swapsWith (.Call (.Attribute (.Name x px) "append" apos) [e] [] cpos) none pos.line env = pure false) (k : SX p rest (τ.set i (.ow (xs ++ [y]))) R) : SX p (.Expr (.Call (.Attribute (.Name x px) "append" apos) [e] [] cpos) pos :: rest) τ R :=
  sx_step (s_append i hN (G.vs hN hi) hτ he hl (G.ok x (List.mem_of_getElem? hN)).1 (G.ok x (List.mem_of_getElem? hN)).2 hbase hline hs hsw) k
theorem sx_extend (G : Gd p m) (i : Nat) {α : Type} [Py α] {xs ys : List α} {x : Str} {px apos cpos : Pos} (hN : p.N[i]? = some x) (hi : i < m) (hτ : τ[i]? = some (.ow xs)) (he : PX p e τ (.ow ys)) (hl : xs.length + ys.length ≤ sizeLine)
    (hbase : ∀ env, attributeBase (.Name x px) "extend" env (eval (.Name x px) env) = eval (.Name x px) env) (hline : (apos.endLine == cpos.line) = true) (hs : ∀ env, starEach [e] env = [(false, eval e env)])
    (hsw : ∀ env, swapsWith (.Call (.Attribute (.Name x px) "extend" apos) [e] [] cpos) none pos.line env = pure false) (k : SX p rest (τ.set i (.ow (xs ++ ys))) R) : SX p (.Expr (.Call (.Attribute (.Name x px) "extend" apos) [e] [] cpos) pos :: rest) τ R :=
  sx_step (s_extend i hN (G.vs hN hi) hτ he hl (G.ok x (List.mem_of_getElem? hN)).1 (G.ok x (List.mem_of_getElem? hN)).2 hbase hline hs hsw) k
theorem sx_clear (G : Gd p m) (i : Nat) {α : Type} [Py α] {xs : List α} {x : Str} {px apos cpos : Pos} (hN : p.N[i]? = some x) (hi : i < m) (hτ : τ[i]? = some (.ow xs))
    (hbase : ∀ env, attributeBase (.Name x px) "clear" env (eval (.Name x px) env) = eval (.Name x px) env) (hline : (apos.endLine == cpos.line) = true)
    (hsw : ∀ env, swapsWith (.Call (.Attribute (.Name x px) "clear" apos) [] [] cpos) none pos.line env = pure false) (k : SX p rest (τ.set i (.ow ([] : List α))) R) : SX p (.Expr (.Call (.Attribute (.Name x px) "clear" apos) [] [] cpos) pos :: rest) τ R :=
  sx_step (s_clear i hN (G.vs hN hi) hτ (G.ok x (List.mem_of_getElem? hN)).1 (G.ok x (List.mem_of_getElem? hN)).2 hbase hline hsw) k
end
/-- what a def's names are, by one decision -/
def gdB (N : List Str) (m : Nat) (sc : Scope) : Bool :=
  (N.take m).all (fun x => match sc.names.lookup x with | some .local => true | some .cell => true | _ => false) && N.all (fun x => !(x == ("__debug__" : Str)) && !(x == ("__classdict__" : Str)))
theorem gd_of {P : Program} {w : World} {K : PySem.W.Frag} {mg : Str → Option Value} {base : Heap} {N : List Str} {sc : Scope} {k m : Nat} (nd : N.Nodup) (h : gdB N m sc = true) : Gd ⟨P, w, K, mg, base, N, sc, fun _ => true, k⟩ m := by
  unfold gdB at h
  rw [Bool.and_eq_true, List.all_eq_true, List.all_eq_true] at h
  refine ⟨nd, fun x hx => ?_, fun _ => rfl, fun x hx => ?_⟩
  · have q := h.1 x hx
    unfold L2.Loc
    revert q
    show (match sc.names.lookup x with | some .local => true | some .cell => true | _ => false) = true → _
    cases sc.names.lookup x with
    | none => intro q; cases q
    | some k => cases k <;> intro q <;> first | exact .inl rfl | exact .inr rfl | cases q
  · have q := h.2 x hx
    simpa using q
end Ly
namespace Ly
open PySem PySem.Spec PyProof.Rows L2
open Py
section
variable {p : Par} {m : Nat} {τ τ1 : List Sl} {R : Post} {sts rest : List Stmt} {pos : Pos}
variable {α β : Type} [Py α] [Py β] {xs : List α} {elt tg iter : Expr} {ifs : List Expr} {scope : Scope} {own : List (Str × Nat)} {w : List Nat}
/-- [f x for x in xs] -/
theorem px_lcM {f : α → β} (nd : p.N.Nodup) (bk : BlkOk p.N p.sc scope own) (hi : IX p tg iter τ (xs.map fun x => .sh x)) (hn : xs.length ≤ sizeLine) (hw : ∀ j ∈ w, j ∈ own.map (·.2))
    (turn : ∀ x, x ∈ xs → ∃ τ', GX (p.blk scope) tg w (.sh x) (wipeT τ (own.map (·.2))) τ' ∧ PX (p.blk scope) elt τ' (.sh (f x)))
    (hf : ∀ env x, foldedSetIterable iter env x = pure x) : PX p (.ListComp elt [⟨tg, iter, [], 0⟩] scope pos) τ (.ow (xs.map f)) :=
  (px_lcG (g := fun x => some (f x)) nd bk hi hn hw (fun x hx => by obtain ⟨τ', h1, h2⟩ := turn x hx; exact ⟨τ', h1, pts_nil, fun y hy => Option.some.inj hy ▸ h2⟩) hf).to (congrArg Sl.ow (by rw [← List.filterMap_eq_map]; rfl))
theorem sx_lcM (G : Gd p m) (i : Nat) {f : α → β} {y : Str} {py spos : Pos} (hN : p.N[i]? = some y) (hy : p.sc.names.lookup y = some .local) (hk : p.sc.kind = .function) (hl : (py.line == pos.line) = true) (ha : (scope.names.any fun (n, k) => n == y && (k == .local || k == .cell)) = false)
    (bk : BlkOk p.N p.sc scope own) (hi : IX p tg iter τ (xs.map fun x => .sh x)) (hn : xs.length ≤ sizeLine) (hw : ∀ j ∈ w, j ∈ own.map (·.2))
    (turn : ∀ x, x ∈ xs → ∃ τ', GX (p.blk scope) tg w (.sh x) (wipeT τ (own.map (·.2))) τ' ∧ PX (p.blk scope) elt τ' (.sh (f x)))
    (hf : ∀ env x, foldedSetIterable iter env x = pure x) (k : ∀ zs, zs = xs.map f → SX p rest (τ.set i (.ow zs)) R) : SX p (.Assign [.Name y py] (.ListComp elt [⟨tg, iter, [], 0⟩] scope pos) spos :: rest) τ R := by
  refine sx_step (s_lcG (g := fun x => some (f x)) G.nd bk i hN hy hk hl ha hi hn hw (fun x hx => by obtain ⟨τ', h1, h2⟩ := turn x hx; exact ⟨τ', h1, pts_nil, fun y hy => Option.some.inj hy ▸ h2⟩) hf) ?_
  exact k _ (by rw [← List.filterMap_eq_map]; rfl)
theorem fm_eq {α β : Type} (c : α → Bool) (f : α → β) : ∀ xs : List α, xs.filterMap (fun x => if c x then some (f x) else none) = (xs.filter c).map f
  | [] => rfl
  | x :: r => by
    rw [List.filterMap_cons, List.filter_cons, fm_eq c f r]
    cases c x <;> rfl
/-- [f x for x in xs if c x] -/
theorem px_lcF {c : α → Bool} {f : α → β} {tst : Expr} (nd : p.N.Nodup) (bk : BlkOk p.N p.sc scope own) (hi : IX p tg iter τ (xs.map fun x => .sh x)) (hn : xs.length ≤ sizeLine) (hw : ∀ j ∈ w, j ∈ own.map (·.2))
    (turn : ∀ x, x ∈ xs → ∃ τ', GX (p.blk scope) tg w (.sh x) (wipeT τ (own.map (·.2))) τ' ∧ PTx (p.blk scope) tst τ' (c x) ∧ (c x = true → PX (p.blk scope) elt τ' (.sh (f x))))
    (hf : ∀ env x, foldedSetIterable iter env x = pure x) : PX p (.ListComp elt [⟨tg, iter, [tst], 0⟩] scope pos) τ (.ow ((xs.filter c).map f)) :=
  (px_lcG (g := fun x => if c x then some (f x) else none) nd bk hi hn hw (fun x hx => by
    obtain ⟨τ', h1, h2, h3⟩ := turn x hx
    refine ⟨τ', h1, pts_one (h2.to (by cases c x <;> rfl)), fun y hy => ?_⟩
    cases hc : c x with
    | true => rw [hc] at hy; exact Option.some.inj hy ▸ h3 hc
    | false => rw [hc] at hy; cases hy) hf).to (congrArg Sl.ow (fm_eq c f xs))
theorem sx_lcF (G : Gd p m) (i : Nat) {c : α → Bool} {f : α → β} {tst : Expr} {y : Str} {py spos : Pos} (hN : p.N[i]? = some y) (hy : p.sc.names.lookup y = some .local) (hk : p.sc.kind = .function) (hl : (py.line == pos.line) = true) (ha : (scope.names.any fun (n, k) => n == y && (k == .local || k == .cell)) = false)
    (bk : BlkOk p.N p.sc scope own) (hi : IX p tg iter τ (xs.map fun x => .sh x)) (hn : xs.length ≤ sizeLine) (hw : ∀ j ∈ w, j ∈ own.map (·.2))
    (turn : ∀ x, x ∈ xs → ∃ τ', GX (p.blk scope) tg w (.sh x) (wipeT τ (own.map (·.2))) τ' ∧ PTx (p.blk scope) tst τ' (c x) ∧ (c x = true → PX (p.blk scope) elt τ' (.sh (f x))))
    (hf : ∀ env x, foldedSetIterable iter env x = pure x) (k : ∀ zs, zs = (xs.filter c).map f → SX p rest (τ.set i (.ow zs)) R) : SX p (.Assign [.Name y py] (.ListComp elt [⟨tg, iter, [tst], 0⟩] scope pos) spos :: rest) τ R := by
  refine sx_step (s_lcG (g := fun x => if c x then some (f x) else none) G.nd bk i hN hy hk hl ha hi hn hw (fun x hx => ?_) hf) (k _ (fm_eq c f xs))
  obtain ⟨τ', h1, h2, h3⟩ := turn x hx
  refine ⟨τ', h1, pts_one (h2.to (by cases c x <;> rfl)), fun y hy => ?_⟩
  cases hc : c x with
  | true => rw [hc] at hy; exact Option.some.inj hy ▸ h3 hc
  | false => rw [hc] at hy; cases hy
end
end Ly
namespace Ly
open PySem PySem.Spec PyProof.Rows L2
open Py
instance (sc : Scope) (x : Str) : Decidable (Vis sc x) := by unfold Vis; infer_instance
instance (sc : Scope) (x : Str) : Decidable (L2.Loc sc x) := by unfold L2.Loc; infer_instance
/-- slots forgotten -/
def Wk : List Sl → List Sl → Prop
  | [], [] => True
  | a :: as, b :: bs => (a = .un ∨ a = b) ∧ Wk as bs
  | _, _ => False
theorem Wk.len : ∀ {as bs : List Sl}, Wk as bs → as.length = bs.length
  | [], [], _ => rfl
  | _ :: _, _ :: _, h => by rw [List.length_cons, List.length_cons, Wk.len h.2]
  | [], _ :: _, h => h.elim
  | _ :: _, [], h => h.elim
theorem Wk.at : ∀ {as bs : List Sl}, Wk as bs → ∀ (i : Nat) (s : Sl), as[i]? = some s → s = .un ∨ bs[i]? = some s
  | [], [], _, i, s, e => by simp at e
  | a :: as, b :: bs, h, 0, s, e => by
    have e : a = s := Option.some.inj e
    subst e
    rcases h.1 with z | z
    · exact .inl z
    · exact .inr (by rw [z]; rfl)
  | a :: as, b :: bs, h, i + 1, s, e => Wk.at h.2 i s e
  | [], _ :: _, h, _, _, _ => h.elim
  | _ :: _, [], h, _, _, _ => h.elim
theorem sx_wk {p : Par} {τ τ' : List Sl} {R : Post} {sts : List Stmt} (w : Wk τ' τ) (h : SX p sts τ' R) : SX p sts τ R := sx_weak w.len w.at h
end Ly

namespace Ly
open PySem PySem.Spec PyProof.Rows L2
open Py
section
variable {p : Par} {m : Nat} {τ τ1 : List Sl} {R : Post} {st : Stmt} {sts rest : List Stmt} {e a b c o : Expr} {es : List Expr} {pos : Pos}
/-! ### in, not in -/
theorem any_dat {α : Type} [Py α] [PyEq α] [DecidableEq α] (x : α) : ∀ xs : List α, ((xs.map PyEq.dat).any fun z => PyData.eqv z (PyEq.dat x)) = decide (x ∈ xs)
  | [] => rfl
  | y :: r => by
    rw [List.map_cons, List.any_cons, any_dat x r, dec_eqv]
    rw [Bool.eq_iff_iff]
    simp only [Bool.or_eq_true, decide_eq_true_eq, List.mem_cons]
    exact ⟨fun h => h.imp Eq.symm id, fun h => h.imp Eq.symm id⟩
theorem shaped_list {α : Type} [Py α] [PyEq α] {K : PySem.W.Frag} {B : Hp} {v : V} {xs : List α} (r : rep K B v xs) (h : PyEq.d α ≤ 60) : SeqAt.shaped (.list (xs.map PyEq.dat)) = true :=
  shaped_of (α := List α) r (by show PyEq.d α + 1 ≤ 64; omega)
theorem c_inD {α : Type} [Py α] [PyEq α] [DecidableEq α] {x : α} {xs : List α} (h : PyEq.d α ≤ 60) : Cmp2 p .In x xs (decide (x ∈ xs)) := ⟨rInD p.K, fun X hX => by obtain ⟨k, rfl, _, room, _⟩ := hX; exact op_inD (by have := room.un; show X.A.units + 65 < _; omega),
  fun B H v u Q s r1 r2 q => ⟨_, _, PyEq.dp s r1, PyEq.dp (α := List α) s r2, shaped_of r1 (by omega), shaped_list r2 h, by rw [any_dat]; exact q⟩⟩
theorem c_notInD {α : Type} [Py α] [PyEq α] [DecidableEq α] {x : α} {xs : List α} (h : PyEq.d α ≤ 60) : Cmp2 p .NotIn x xs (!decide (x ∈ xs)) := ⟨rNotInD p.K, fun X hX => by obtain ⟨k, rfl, _, room, _⟩ := hX; exact op_notInD (by have := room.un; show X.A.units + 65 < _; omega),
  fun B H v u Q s r1 r2 q => ⟨_, _, PyEq.dp s r1, PyEq.dp (α := List α) s r2, shaped_of r1 (by omega), shaped_list r2 h, by rw [any_dat]; exact q⟩⟩
/-! ### None or one -/
theorem px_none {α : Type} [Py α] (h : PX p e τ (.sh ())) : PX p e τ (.sh (none : Option α)) := h.imp fun _ _ _ _ _ r => r
theorem px_some {α : Type} [Py α] {x : α} (h : PX p e τ (.sh x)) : PX p e τ (.sh (some x)) := h.imp fun _ _ _ _ _ r => r
theorem px_get {α : Type} [Py α] [Inhabited α] {x : Option α} (h : PX p e τ (.sh x)) (hx : (!x.isNone) = true) : PX p e τ (.sh (x.getD default)) := by
  cases x with
  | none => cases hx
  | some a => exact h.imp fun _ _ _ _ _ r => r
theorem sx_asgV {tg : Expr} {w : List Nat} {α : Type} [Py α] {x : α} {τ1 : α → List Sl} (he : PX p e τ (.sh x)) (hg : ∀ z, GX p tg w (.sh z) τ (τ1 z)) (hs : ∀ env, swapsWithSole [tg] e pos.line env = pure false) (hw : ∀ env, swappedStores [tg] e env = pure none)
    (h1 : ∀ env, (assignEach [tg] env).map (·.2) = [assign tg env]) (k : ∀ z, z = x → SX p rest (τ1 z) R) : SX p (.Assign [tg] e pos :: rest) τ R := sx_step (s_asg he (hg x) hs hw h1) (k x rfl)
/-! ### len, by kind -/
section
variable {pp : Pos} (hg : p.sc.names.lookup ("len" : Str) = some .globalImplicit) (hm : p.mg "len" = none)
include hg hm
theorem px_lenL {α : Type} [Py α] {x : List α} (ha : PX p e τ (.sh x)) (he : ∀ env, starEach [e] env = [(false, eval e env)] := by intro _; rfl) : PX p (.Call (.Name "len" pp) [e] [] pos) τ (.sh ((x.length : Nat) : Int)) := px_len hg hm ha he
theorem px_lenU {α : Type} [Py α] {x : Tup α} (ha : PX p e τ (.sh x)) (he : ∀ env, starEach [e] env = [(false, eval e env)] := by intro _; rfl) : PX p (.Call (.Name "len" pp) [e] [] pos) τ (.sh ((x.l.length : Nat) : Int)) := px_len hg hm ha he
theorem px_lenC {x : Scr} (ha : PX p e τ (.sh x)) (he : ∀ env, starEach [e] env = [(false, eval e env)] := by intro _; rfl) : PX p (.Call (.Name "len" pp) [e] [] pos) τ (.sh ((x.l.length : Nat) : Int)) := px_len hg hm ha he
theorem px_lenS {x : Str} (ha : PX p e τ (.sh x)) (he : ∀ env, starEach [e] env = [(false, eval e env)] := by intro _; rfl) : PX p (.Call (.Name "len" pp) [e] [] pos) τ (.sh ((x.length : Nat) : Int)) := px_len hg hm ha he
theorem px_len2 {α β : Type} [Py α] [Py β] {x : α × β} (ha : PX p e τ (.sh x)) (he : ∀ env, starEach [e] env = [(false, eval e env)] := by intro _; rfl) : PX p (.Call (.Name "len" pp) [e] [] pos) τ (.sh (2 : Int)) := px_len hg hm ha he
theorem px_len4 {α β γ δ : Type} [Py α] [Py β] [Py γ] [Py δ] {x : T4 α β γ δ} (ha : PX p e τ (.sh x)) (he : ∀ env, starEach [e] env = [(false, eval e env)] := by intro _; rfl) : PX p (.Call (.Name "len" pp) [e] [] pos) τ (.sh (4 : Int)) := px_len hg hm ha he
end
/-! ### numbers of any size -/
theorem px_fdivW {i j : Int} (ha : PX p a τ (.sh i)) (hb : PX p b τ (.sh j)) (hc : CDivW i j) : PX p (.BinOp a .FloorDiv b pos) τ (.sh (i / j)) := px_ii (fun _ _ => op_fdivW) ha hb hc
theorem px_mulW {i j : Int} (ha : PX p a τ (.sh i)) (hb : PX p b τ (.sh j)) (hc : CMulW i j) : PX p (.BinOp a .Mult b pos) τ (.sh (i * j)) := px_ii (fun _ _ => op_mulW) ha hb hc
/-! ### lists joined -/
theorem px_catL {α : Type} [Py α] {x y : List α} (ha : PX p a τ (.sh x)) (hb : PX p b τ (.sh y)) (hl : x.length + y.length ≤ sizeLine) : PX p (.BinOp a .Add b pos) τ (.ow (x ++ y)) :=
  px_op2 (fun _ _ => op_cat) ha hb fun B H v u Q s ⟨c, o1, e1, h1, vs, f1, r1⟩ ⟨d, o2, e2, h2, us, f2, r2⟩ q => by
    subst f1 f2
    refine ⟨c, d, vs, us, e1, e2, s _ _ h1.lst, s _ _ h2.lst, by rw [r1.length, r2.length]; exact hl, fun l hl => q B _ _ (Ext.made s hl) ⟨l, _, rfl, hl, s.free hl, upd_same, _, rfl, r1.append r2⟩⟩
theorem cut_le {α : Type} (xs : List α) (lo hi : Option Int) : (cut xs lo hi).length ≤ xs.length := by
  unfold cut
  rw [List.length_take, List.length_drop]
  omega
/-- the items of a written tuple of ints -/
theorem ix_flds {α : Type} [Py α] [Flds α] {x : α} {tg : Expr} (h : PX p e τ (.sh x)) : IX p tg e τ (Flds.fl x) := fun B0 H0 B H σ ok R q => by
  refine ⟨iTup p.K (EE p e), fun X hX => ?_, h B0 H0 B H σ ok _ fun B1 H1 v x1 r1 => ?_⟩
  · have hX' := hX
    obtain ⟨k, rfl, _⟩ := hX'
    exact pi_tup (ee hX)
  · obtain ⟨c, vs, e1, hc, r⟩ := Flds.ofr (show rep p.K B1 v x from r1)
    refine ⟨c, e1, ⟨vs, .of (x1.bh _ _ hc)⟩, q B1 H1 _ x1 fun B2 H2 s1 s2 => ⟨fun i s hi => ?_, vs, .of (s2 _ _ (s1 _ _ hc)), by rw [r.length]; exact Nat.le_refl _⟩⟩
    obtain ⟨v, hv, rv⟩ := r.get hi
    refine ⟨⟨vs, v, .of (s2 _ _ (s1 _ _ hc)), hv⟩, fun y H' hy => ⟨B2, ?_, ?_⟩⟩
    · rw [hy.1]; exact .refl s2
    · rw [show y = v from Option.some.inj ((hy.2 vs (.of (s2 _ _ (s1 _ _ hc)))).symm.trans hv)]
      cases s with
      | un => exact rv
      | sh z => exact Py.mono (.of s1) rv
      | ow z => exact rv
theorem ix_T4 {x : T4 Int Int Int Int} {tg : Expr} (h : PX p e τ (.sh x)) : IX p tg e τ ([x.a, x.b, x.c, x.d].map fun z => .sh z) := ix_flds h
/-! ### parts of written tuples -/
section
variable {α β γ δ ε : Type} [Py α] [Py β] [Py γ] [Py δ] [Py ε] {lo hi : Option Expr} {p2 : Pos}
theorem px_slT4_0_2 {x : T4 α β γ δ} (ha : PX p a τ (.sh x)) (hl : POx p lo τ none) (hu : POx p hi τ (some 2)) : PX p (.Subscript a (.Slice lo hi none p2) pos) τ (.sh (x.a, x.b)) :=
  px_slT (n := 4) ha hl hu rfl (by decide) fun B vs q r e => by
    have r : All2 (Shr p.K B) vs [.sh x.a, .sh x.b] := r
    cases r with
    | cons r1 r => cases r with
      | cons r2 r => cases r; exact ⟨q, _, _, rfl, e, r1, r2⟩
theorem px_slT5_1_3 {x : T5 α β γ δ ε} (ha : PX p a τ (.sh x)) (hl : POx p lo τ (some 1)) (hu : POx p hi τ (some 3)) : PX p (.Subscript a (.Slice lo hi none p2) pos) τ (.sh (x.b, x.c)) :=
  px_slT (n := 5) ha hl hu rfl (by decide) fun B vs q r e => by
    have r : All2 (Shr p.K B) vs [.sh x.b, .sh x.c] := r
    cases r with
    | cons r1 r => cases r with
      | cons r2 r => cases r; exact ⟨q, _, _, rfl, e, r1, r2⟩
end
/-! ### range with a step -/
def rngC (lo c : Int) (n : Nat) : List Int := (List.range n).map fun k => lo + (k : Nat) * c
theorem rngC_get {lo c : Int} {n i : Nat} {x : Int} (h : (rngC lo c n)[i]? = some x) : i < n ∧ x = lo + (i : Nat) * c := by
  unfold rngC at h
  rw [List.getElem?_map] at h
  obtain ⟨k, e, h⟩ := Option.map_eq_some_iff.mp h
  rw [List.getElem?_eq_some_iff] at e
  obtain ⟨h1, h2⟩ := e
  rw [List.length_range] at h1
  rw [List.getElem_range] at h2
  subst h2
  exact ⟨h1, h.symm⟩
theorem turns_rngC {K : PySem.W.Frag} {B1 : Hp} {lo c : Int} {n : Nat} : Turns K B1 (Itc lo c n) ((rngC lo c n).map fun x => .sh x) := fun B H s1 s2 => by
  refine ⟨fun i s hi => ?_, by show n ≤ _; rw [List.length_map]; unfold rngC; rw [List.length_map, List.length_range]; exact Nat.le_refl _⟩
  obtain ⟨x, hx, rfl⟩ := items_at hi
  obtain ⟨h1, rfl⟩ := rngC_get hx
  exact ⟨h1, fun y H' hy => ⟨B, by rw [hy.1]; exact .refl s2, hy.2⟩⟩
theorem ix_range3 {i j k : Int} (n : Nat) {tg : Expr} {pp : Pos} (hg : p.sc.names.lookup ("range" : Str) = some .globalImplicit) (hm : p.mg "range" = none) (ha : PX p a τ (.sh i)) (hb : PX p b τ (.sh j)) (hc : PX p c τ (.sh k)) (h : RgC i j k n)
    (hs : ∀ env, starEach [a, b, c] env = [(false, eval a env), (false, eval b env), (false, eval c env)] := by intro _; rfl) (hs2 : ∀ env, starEach [b, c] env = [(false, eval b env), (false, eval c env)] := by intro _; rfl) (hs3 : ∀ env, starEach [c] env = [(false, eval c env)] := by intro _; rfl) :
    IX p tg (.Call (.Name "range" pp) [a, b, c] [] pos) τ ((rngC i k n).map fun x => .sh x) := fun B0 H0 B H σ ok R q => by
  refine ⟨iRng3 (tCons (EE p a) (tCons (EE p b) (tCons (EE p c) tNil))), fun X hX => ?_, ha B0 H0 B H σ ok _ fun B1 H1 v x1 r1 => hb B0 H0 B1 H1 σ (ok.go x1) _ fun B2 H2 u x2 r2 => hc B0 H0 B2 H2 σ ((ok.go x1).go x2) _ fun B3 H3 w x3 r3 =>
    ⟨i, j, k, n, by rw [show v = .int i from r1, show u = .int j from r2, show w = .int k from r3], h, q B3 H3 _ ((x1.trans x2).trans x3) turns_rngC⟩⟩
  have hX' := hX
  obtain ⟨k, rfl, _⟩ := hX'
  exact pi_range3 hg hm (pa_cons (ee hX) (pa_cons (ee hX) (pa_cons (ee hX) pa_nil (hs3 _)) (by rw [hs2, hs3])) (by rw [hs, hs2])) (by rw [hs, hs2]) (by rw [hs2]; rfl)
end
end Ly

namespace Ly
open PySem PySem.Spec PyProof.Rows L2
open Py
/-! ### instances that are never changed behind their making -/
def objRep (K : PySem.W.Frag) (B : Hp) (v : V) (cn : Str) (fl : List (Str × Sl)) : Prop :=
  ∃ q C dx fs, v = .ref q ∧ PySem.W.nsIn K mainGlobals cn = some (some (.ref C)) ∧ B q = some (.ins C dx fs) ∧ All2 (fun f g => f.1 = g.1 ∧ Shr K B f.2 g.2) fs fl
theorem Shr.le {K : PySem.W.Frag} {B B' : Hp} {v : V} {s : Sl} (l : Le B B') (h : Shr K B v s) : Shr K B' v s := by
  cases s with
  | un => exact h
  | sh a => exact Py.mono l h
  | ow b => exact h
theorem objRep.mono {K : PySem.W.Frag} {B B' : Hp} {v : V} {cn : Str} {fl : List (Str × Sl)} (l : Le B B') (h : objRep K B v cn fl) : objRep K B' v cn fl := by
  obtain ⟨q, C, dx, fs, e, n, b, r⟩ := h
  exact ⟨q, C, dx, fs, e, n, l.ins b, r.imp fun _ _ h => ⟨h.1, h.2.le l⟩⟩
class Ins (α : Type) where
  cn : α → Str
  fl : α → List (Str × Sl)
instance {α : Type} [Ins α] : Py α := ⟨fun K B v a => objRep K B v (Ins.cn a) (Ins.fl a), fun l h => h.mono l⟩
/-- what a class must be, by its name -/
structure CF (K : PySem.W.Frag) (mg : Str → Option Value) (cn : Str) (C : Addr) : Prop where
  cls : Cls K C
  ns : PySem.W.nsIn K mainGlobals cn = some (some (.ref C))
  mg : mg cn = some (.ref C)
  mks : PySem.W.makesIn K C = true
  kp : PySem.W.keepIn K (.ref C) = true
theorem lookup_all {K : PySem.W.Frag} {B : Hp} {f : Str} : ∀ {fs : List (Str × V)} {fl : List (Str × Sl)}, All2 (fun f g => f.1 = g.1 ∧ Shr K B f.2 g.2) fs fl → (∀ s, fl.lookup f = some s → ∃ v, fs.lookup f = some v ∧ Shr K B v s) ∧ (fl.lookup f = none → fs.lookup f = none)
  | _, _, .nil => ⟨fun _ h => (by cases h), fun _ => rfl⟩
  | (a, v) :: fs, (b, s) :: fl, .cons ⟨e, r⟩ t => by
    have e : a = b := e
    subst e
    obtain ⟨h1, h2⟩ := lookup_all (f := f) t
    by_cases z : f = a
    · subst z
      simp only [List.lookup_cons_self]
      exact ⟨fun s' h => (by cases h; exact ⟨v, rfl, r⟩), fun h => (by cases h)⟩
    · have hb : (f == a) = false := beq_eq_false_iff_ne.mpr z
      simp only [List.lookup_cons, hb]
      exact ⟨h1, h2⟩
section
variable {p : Par} {τ τ1 : List Sl} {R : Post} {st : Stmt} {sts rest : List Stmt} {e a b o : Expr} {es : List Expr} {pos : Pos}
/-- o.f -/
theorem px_attr {α : Type} [Ins α] {x : α} {f : Str} {s : Sl} {C : Addr} (h : PX p o τ (.sh x)) (cf : CF p.K p.mg (Ins.cn x) C) (n : NoAttr p.K C f) (hl : (Ins.fl x).lookup f = some s) (hb : ∀ env, attributeBase o f env (eval o env) = eval o env) : PX p (.Attribute o f pos) τ s := fun B0 H0 B H σ ok Q q => by
  refine ⟨tFld p.K (EE p o) f, fun X hX => ?_, h B0 H0 B H σ ok _ fun B1 H1 v x1 r1 => ?_⟩
  · have hX' := hX
    obtain ⟨k, rfl, _⟩ := hX'
    exact pe_fld (ee hX) (hb _)
  · obtain ⟨c, C', dx, fs, e1, n1, b1, r⟩ := r1
    rw [cf.ns] at n1
    cases n1
    obtain ⟨v', hv, r2⟩ := (lookup_all (f := f) r).1 s hl
    refine ⟨c, C, dx, fs, v', e1, x1.bh _ _ b1, cf.cls, n, hv, q B1 H1 v' x1 ?_⟩
    cases s with
    | un => exact r2.elim
    | sh y => exact r2
    | ow y => exact r2.elim
/-- the def m of the class at C keeps its promise -/
def Calm (P : Program) (w : World) (K : PySem.W.Frag) (mg : Str → Option Value) (base : Heap) (k : Nat) (C : Addr) (m : Str) (ok : List Sl → Sl → Prop) : Prop :=
  ∃ (f : Addr) (fd : FuncData) (ps : List Str), FnOk P w K mg base CX0 k f fd ps (spT K ok) ∧ Meth K C m f ∧ Binds K fd ps []
/-- o.m(e, ..) -/
theorem px_meth {α : Type} [Ins α] {x : α} {m : Str} {apos : Pos} {as : List Sl} {s : Sl} {k : Nat} {C : Addr} {okf : List Sl → Sl → Prop} (h : PX p o τ (.sh x)) (cf : CF p.K p.mg (Ins.cn x) C) (hl : (Ins.fl x).lookup m = none)
    (G : Calm p.P p.w p.K p.mg p.base k C m okf) (hk : k ≤ p.k) (ha : PAx p (e :: es) τ as) (ho : okf (.sh x :: as) s) {pl : Sem Bool} (he : ∀ env, starEach (e :: es) env = (false, eval e env) :: starEach es env) (hpl : ∀ env, (backTo pos (starEach es env)).any (·.1) = false)
    (ht : ∀ env, eval (.Call (.Attribute o m apos) (e :: es) [] pos) env = (do
      let ov ← eval o env
      standAt apos.atName
      let (f, first) ← holding [ov] (getMethod ov m pl)
      callWith pos f first (backTo pos (starEach (e :: es) env)) (backToKw pos (keywordEach [] env)))) : PX p (.Call (.Attribute o m apos) (e :: es) [] pos) τ s := fun B0 H0 B H σ ok Q q => by
  obtain ⟨f, fd, ps, F, hm, bd⟩ := G
  refine ⟨tMeth C m (spT p.K okf) [] E0 (EE p o) (EA p (e :: es)), fun X hX => ?_, h B0 H0 B H σ ok _ fun B1 H1 v x1 r1 => ?_⟩
  · have hX' := hX
    obtain ⟨j, rfl, calm, room, _⟩ := hX'
    exact pe_meth (ee hX) cf.cls hm F (room.mono hk) bd .nil pass0 (ea hX) (he _) (hpl _) (ht _)
  · obtain ⟨c, C', dx, fs, e1, n1, b1, r⟩ := id r1
    rw [cf.ns] at n1
    cases n1
    refine ⟨c, dx, fs, e1, x1.bh _ _ b1, (lookup_all (f := m) r).2 hl, ha B0 H0 B1 H1 σ (ok.go x1) _ fun B2 H2 vs x2 r2 => ?_⟩
    refine ⟨B2, .sh x :: as, s, x2.bh, ?_, ho, fun B' H' v' x3 r3 => q B' H' v' ((x1.trans x2).trans x3) (r3.base (x1.trans x2).hh)⟩
    rw [List.append_nil]
    exact .cons (Py.mono (.of x2.bb) (show rep p.K B1 v x from r1)) r2
/-- o.m() -/
theorem px_meth0 {α : Type} [Ins α] {x : α} {m : Str} {apos : Pos} {s : Sl} {k : Nat} {C : Addr} {okf : List Sl → Sl → Prop} (h : PX p o τ (.sh x)) (cf : CF p.K p.mg (Ins.cn x) C) (hl : (Ins.fl x).lookup m = none)
    (G : Calm p.P p.w p.K p.mg p.base k C m okf) (hk : k ≤ p.k) (ho : okf [.sh x] s) {pl : Sem Bool}
    (ht : ∀ env, eval (.Call (.Attribute o m apos) [] [] pos) env = (do
      let ov ← eval o env
      standAt apos.atName
      let (f, first) ← holding [ov] (getMethod ov m pl)
      callWith pos f first (backTo pos (starEach [] env)) (backToKw pos (keywordEach [] env)))) : PX p (.Call (.Attribute o m apos) [] [] pos) τ s := fun B0 H0 B H σ ok Q q => by
  obtain ⟨f, fd, ps, F, hm, bd⟩ := G
  refine ⟨tMeth C m (spT p.K okf) [] E0 (EE p o) tNil, fun X hX => ?_, h B0 H0 B H σ ok _ fun B1 H1 v x1 r1 => ?_⟩
  · have hX' := hX
    obtain ⟨j, rfl, calm, room, _⟩ := hX'
    exact pe_meth0 (ee hX) cf.cls hm F (room.mono hk) bd .nil pass0 (ht _)
  · obtain ⟨c, C', dx, fs, e1, n1, b1, r⟩ := id r1
    rw [cf.ns] at n1
    cases n1
    refine ⟨c, dx, fs, e1, x1.bh _ _ b1, (lookup_all (f := m) r).2 hl, B1, [.sh x], s, x1.bh, ?_, ho, fun B' H' v' x3 r3 => q B' H' v' (x1.trans x3) (r3.base x1.hh)⟩
    exact .cons r1 .nil
/-! ### making them -/
theorem run_make00 {X : Cx} {pins : List (Addr × Obj)} {σ : L2.St} {H : Hp} {s : Shared} {C : Addr} {Q : VK} (hm : PySem.W.makesIn X.K C = true) (hi : PySem.W.findIn X.K (.ref C) "__init__" = some (some (.builtin "object.__init__"))) (I : Inv X pins σ H s)
    (h : ∀ x dx, H x = none → H dx = none → dx ≠ x → Q (.ref x) (upd (upd H dx (.own x)) x (.ins C dx []))) : wpAny (model X.prog X.w) X.A (call (.ref C) []) (EP X pins σ Q) X.xe s := by
  have hq := h (s.heap.objs.size + 1) s.heap.objs.size (I.hok.fresh (Nat.le_succ _)) (I.hok.fresh (Nat.le_refl _)) (Nat.ne_of_lt (Nat.lt_succ_self _))
  have I2 := Inv.made (C := C) I
  have Y := PySem.W.makes_of (M := model X.prog X.w) I.kIn hm
  have g2 : ((s.heap.push PySem.W.emptyDict).push (PySem.W.instObj C s.heap.objs.size)).get? (s.heap.objs.size + 1) = some (PySem.W.instObj C s.heap.objs.size) := by
    have := Heap.get?_push_size (s.heap.push PySem.W.emptyDict) (o := PySem.W.instObj C s.heap.objs.size) rfl
    rwa [Heap.size_push] at this
  refine wpAny_call (make_map0 I.kIn hm hi (fun self => PySem.W.Looks.of_pure (PySem.W.oi_bind self)) ?_)
  have t1 : PySem.W.Looks (model X.prog X.w) ((s.heap.push PySem.W.emptyDict).push (PySem.W.instObj C s.heap.objs.size)) (typeOf (.ref (s.heap.objs.size + 1))) (.ref C) := (PySem.W.Looks.ld g2).andThen .now
  have t2 : PySem.W.Looks (model X.prog X.w) ((s.heap.push PySem.W.emptyDict).push (PySem.W.instObj C s.heap.objs.size)) (isInstance (.ref (s.heap.objs.size + 1)) (.type "object")) true := t1.andThen (Y.top.keeps fun b o e => Heap.get?_push_of_some _ (Heap.get?_push_of_some _ e))
  refine codeAny_call_builtin PySem.W.oi_plain PySem.W.entry_oi (@PySem.W.check_slot (model X.prog X.w) _ _ _ "object.__init__" "object" "__init__" (.ref (s.heap.objs.size + 1)) [] [] _ PySem.W.oi_kind PySem.W.oi_split t2 (PySem.W.oi_args (.ref (s.heap.objs.size + 1))) ?_)
  rw [PySem.W.oi_run]
  exact wpAny_pure (And.intro rfl ⟨V.ref (s.heap.objs.size + 1), _, I2, rfl, hq⟩)
def tMake00 (C : Addr) : TE := fun _ H Q => ∀ x dx, H x = none → H dx = none → dx ≠ x → Q (.ref x) (upd (upd H dx (.own x)) x (.ins C dx []))
theorem pe_make00 {X : Cx} {C : Addr} {x : Str} {pp : Pos} (hm : PySem.W.makesIn X.K C = true) (hi : PySem.W.findIn X.K (.ref C) "__init__" = some (some (.builtin "object.__init__"))) (kp : PySem.W.keepIn X.K (.ref C) = true) (hg : Gl X x) (hmg : X.mg x = some (.ref C))
    (hdb : (x == ("__debug__" : Str)) = false) : PE X (.Call (.Name x pp) [] [] pos) (tMake00 C) := by
  refine ⟨fun pins s σ H Q I h => ?_⟩
  refine wpAny_Call_Name_kw (ld_glob I hg hmg ?_ hdb)
  exact PySem.W.callWith_K0 I.kIn kp (run_make00 hm hi I h)
/-- a new instance with its attributes, readable at once -/
theorem ext_ins {B H : Hp} (s : Same B H) {x dx C : Addr} {fs : List (Str × V)} (nx : H x = none) (nd : H dx = none) (ne : dx ≠ x) : Ext B H (upd (upd B dx (.own x)) x (.ins C dx fs)) (upd (upd H dx (.own x)) x (.ins C dx fs)) := by
  have e1 := Ext.laid (o := .own x) s nd
  have nx' : (upd H dx (.own x)) x = none := by rw [upd_ne (Ne.symm ne)]; exact nx
  exact e1.trans (Ext.laid (o := .ins C dx fs) e1.bh nx')
/-- C(), no __init__ -/
def CalN0 (K : PySem.W.Frag) (mg : Str → Option Value) (cn : Str) : Prop := ∃ C, CF K mg cn C ∧ PySem.W.findIn K (.ref C) "__init__" = some (some (.builtin "object.__init__"))
theorem px_new0 {α : Type} [Ins α] {x : α} {cn : Str} {pp : Pos} (G : CalN0 p.K p.mg cn) (hcn : Ins.cn x = cn) (hfl : Ins.fl x = []) (hg : p.sc.names.lookup cn = some .globalImplicit) (hdb : (cn == ("__debug__" : Str)) = false) : PX p (.Call (.Name cn pp) [] [] pos) τ (.sh x) := fun B0 H0 B H σ ok Q q => by
  obtain ⟨C, cf, hi⟩ := G
  refine ⟨tMake00 C, fun X hX => ?_, fun y dx nx nd ne => ?_⟩
  · have hX' := hX
    obtain ⟨k, rfl, _⟩ := hX'
    exact pe_make00 cf.mks hi cf.kp hg cf.mg hdb
  · refine q _ _ _ (ext_ins ok.bh nx nd ne) ⟨y, C, dx, [], rfl, by rw [hcn]; exact cf.ns, upd_same, by rw [hfl]; exact .nil⟩
/-- __init__ of one attribute: self.f = v -/
def spI1 (C : Addr) (f : Str) : Sp := fun vs H Q _ => ∃ q dx v, vs = [.ref q, v] ∧ H q = some (.ins C dx []) ∧ Q .non (upd H q (.ins C dx [(f, v)]))
def CalN1 (P : Program) (w : World) (K : PySem.W.Frag) (mg : Str → Option Value) (base : Heap) (k : Nat) (cn f : Str) : Prop :=
  ∃ (C g : Addr) (fd : FuncData) (ps : List Str), CF K mg cn C ∧ PySem.W.findIn K (.ref C) "__init__" = some (some (.ref g)) ∧ PySem.W.isFn K (.ref g) = true ∧ FnOk P w K mg base CX0 k g fd ps (spI1 C f) ∧ Binds K fd ps []
theorem px_new1 {α β : Type} [Ins α] [Py β] {x : α} {y : β} {cn f : Str} {pp : Pos} {k : Nat} (G : CalN1 p.P p.w p.K p.mg p.base k cn f) (hk : k + 1 ≤ p.k) (hcn : Ins.cn x = cn) (hfl : Ins.fl x = [(f, .sh y)]) (hg : p.sc.names.lookup cn = some .globalImplicit) (ha : PX p e τ (.sh y)) (hdb : (cn == ("__debug__" : Str)) = false)
    (he : ∀ env, starEach [e] env = [(false, eval e env)]) : PX p (.Call (.Name cn pp) [e] [] pos) τ (.sh x) := fun B0 H0 B H σ ok Q q => by
  obtain ⟨C, g, fd, ps, cf, hi, hf, F, bd⟩ := G
  refine ⟨tMake C (spI1 C f) [] E0 (tCons (EE p e) tNil), fun X hX => ?_, ha B0 H0 B H σ ok _ fun B1 H1 v x1 r1 z dx nz nd ne => ?_⟩
  · have hX' := hX
    obtain ⟨j, rfl, calm, room, _⟩ := hX'
    exact pe_make ⟨cf.mks, hi, hf, cf.kp⟩ F (room.mono hk) hg cf.mg bd .nil pass0 (pa_cons (ee hX) pa_nil (he _)) hdb (he _) rfl
  · refine ⟨z, dx, v, rfl, upd_same, rfl, ?_⟩
    rw [upd_upd]
    have x2 := ext_ins (C := C) (fs := [(f, v)]) x1.bh nz nd ne
    exact q _ _ _ (x1.trans x2) ⟨z, C, dx, _, rfl, by rw [hcn]; exact cf.ns, upd_same, by rw [hfl]; exact .cons ⟨rfl, Py.mono (.of x2.bb) (show rep p.K B1 v y from r1)⟩ .nil⟩
/-- the body of such an __init__ -/
theorem fn_init1 {P : Program} {w : World} {K : PySem.W.Frag} {mg : Str → Option Value} {base : Heap} {qual : Str} {f C : Addr} {fd : FuncData} {sf x fld : Str} {p1 p2 p3 p4 : Pos} (F : Fun K "__init__" qual st f fd) (S : FnScope [sf, x] [sf, x] (defScope st)) (cl : Cls K C) (na : NoAttr K C fld)
    (hb : defBody st = [.Assign [.Attribute (.Name sf p1) fld p2] (.Name x p3) p4]) (h1 : (sf == ("__debug__" : Str)) = false) (h2 : (sf == ("__classdict__" : Str)) = false) (h3 : (x == ("__debug__" : Str)) = false) (h4 : (x == ("__classdict__" : Str)) = false)
    (hs : ∀ env, swapsWith (.Name x p3) (some (.Attribute (.Name sf p1) fld p2)) p4.line env = pure false) : FnOk P w K mg base CX0 1 f fd [sf, x] (spI1 C fld) := by
  refine F.ok S (fun vs H Q E h => ?_) (fun cdv A outer s H vs Q E hr h => ?_)
  · obtain ⟨q, dx, v, rfl, _⟩ := h
    rfl
  · obtain ⟨q, dx, v, rfl, hq, k⟩ := h
    have v1 : Vis (defScope st) sf := (S.par sf (by simp)).elim .inl fun h => .inr (.inl h)
    have v2 : Vis (defScope st) x := (S.par x (by simp)).elim .inl fun h => .inr (.inl h)
    rw [hb]
    refine ⟨_, pss_one (ps_fld (pe_var (i := 0) rfl v1 h1 h2) (pe_var (i := 1) rfl v2 h3 h4) (hs _)), ?_⟩
    refine ⟨v, rfl, .ref q, rfl, q, C, dx, [], rfl, hq, cl, na, (by show 0 < 1000; decide), ?_⟩
    exact k
end
end Ly

namespace My
open PySem PySem.Spec PyProof.Rows L2 Ly
open Ly.Py

local macro_rules | `(tactic| walk_at "sc_mul") => `(tactic| first | exact Or.inr ⟨by decide, by decide⟩ | exact Or.inl ⟨by decide, by decide⟩ | exact Or.inr ⟨by omega, by omega⟩ | exact Or.inl ⟨by omega, by omega⟩)
local macro_rules | `(tactic| walk_at "sc_mod") => `(tactic| first | decide | omega)
local macro_rules | `(tactic| walk_at "sc_div") => `(tactic| first | exact ⟨by decide, by decide⟩ | exact ⟨by omega, by omega⟩)
local macro_rules | `(tactic| walk_at "sc_pow") => `(tactic| exact ⟨by decide, by decide, by decide⟩)
local macro_rules | `(tactic| walk_at "sc_shl") => `(tactic| first | exact ⟨by decide, by decide, by decide⟩ | exact ⟨by omega, by omega, by decide⟩)
local macro_rules | `(tactic| walk_at "sc_divW") => `(tactic| exact wide_div (by decide) (b := 300) (by decide) (by decide) (by decide))
local macro_rules | `(tactic| walk_at "sc_isi") => `(tactic| first | rfl | decide +kernel)
local macro_rules | `(tactic| walk_at "sc_rng") => `(tactic| omega)
local macro_rules | `(tactic| walk_at "sc_pre") => `(tactic| first | assumption | trivial | decide)
local macro_rules | `(tactic| walk_at "imm") => `(tactic| (first | (show Imm _; infer_instance) | (show ImmO _; infer_instance)))

def top (i : Nat) : Stmt := PySem.Challenge.pw_labelplace_k06_ways.main.body.getD i (.Pass ⟨0, 0, 0, 0⟩)
structure Blt (mg : Str → Option Value) : Prop where
  range_ : mg "range" = none
  len_ : mg "len" = none
  isinstance_ : mg "isinstance" = none
  int_ : mg "int" = none
  bool_ : mg "bool" = none
  tuple_ : mg "tuple" = none

abbrev Box := T4 Int Int Int Int
def BoxS (b : Box) : Prop := -1000 ≤ b.a ∧ b.a ≤ 1000 ∧ -1000 ≤ b.b ∧ b.b ≤ 1000 ∧ 0 ≤ b.c ∧ b.c ≤ 1000 ∧ 0 ≤ b.d ∧ b.d ≤ 1000
def rowOf (b : Box) (r : Int) : List (Int × Int) := (rng b.a (b.a + b.c - b.a).toNat).map fun c => (c, r)
def cellsTo (b : Box) (i : Nat) : List (Int × Int) := ((rng b.b (b.b + b.d - b.b).toNat).take i).flatMap (rowOf b)
def cellsOf (b : Box) : List (Int × Int) := (rng b.b (b.b + b.d - b.b).toNat).flatMap (rowOf b)
theorem rng_len (lo : Int) (n : Nat) : (rng lo n).length = n := by unfold rng; rw [List.length_map, List.length_range]
theorem cellsTo_all (b : Box) : cellsTo b (rng b.b (b.b + b.d - b.b).toNat).length = cellsOf b := by
  unfold cellsTo cellsOf
  rw [List.take_length]
theorem cellsTo_succ {b : Box} {i : Nat} {x : Int} (h : (rng b.b (b.b + b.d - b.b).toNat)[i]? = some x) : cellsTo b (i + 1) = cellsTo b i ++ rowOf b x := by
  unfold cellsTo
  rw [List.take_add_one, h, List.flatMap_append]
  simp
theorem row_len {b : Box} (h : BoxS b) : (rng b.a (b.a + b.c - b.a).toNat).length ≤ sizeLine := by
  rw [rng_len, sizeLine_eq]
  unfold BoxS at h
  omega
theorem cellsTo_len (b : Box) (i : Nat) (h : i ≤ (b.b + b.d - b.b).toNat) : (cellsTo b i).length = i * b.c.toNat := by
  unfold cellsTo
  rw [List.length_flatMap]
  have e : ∀ l : List Int, (l.map fun r => (rowOf b r).length).sum = l.length * b.c.toNat := by
    intro l
    induction l with
    | nil => simp
    | cons x r ih =>
      rw [List.map_cons, List.sum_cons, ih, List.length_cons]
      unfold rowOf
      rw [List.length_map, rng_len, Nat.add_mul, Nat.one_mul, Nat.add_comm]
      have : (b.a + b.c - b.a).toNat = b.c.toNat := by omega
      rw [this]
  rw [e, List.length_take, rng_len, Nat.min_eq_left h]
theorem cells_app {b : Box} (h : BoxS b) {i : Nat} {x : Int} {acc : List (Int × Int)} (hx : (rng b.b (b.b + b.d - b.b).toNat)[i]? = some x) (ha : acc = cellsTo b i) {f : Int → Int × Int} : acc.length + ((rng b.a (b.a + b.c - b.a).toNat).map f).length ≤ sizeLine := by
  have hi := (rng_get hx).1
  rw [ha, cellsTo_len b i (Nat.le_of_lt hi), List.length_map, rng_len, sizeLine_eq]
  unfold BoxS at h
  have h1 : i ≤ 1000 := by omega
  have h2 : b.c.toNat ≤ 1000 := by omega
  have h3 : i * b.c.toNat ≤ 1000 * 1000 := Nat.mul_le_mul h1 h2
  omega

inductive WayO where
  | right | left | level (k : Int) | upright (k : Bool)
instance : Ins WayO := ⟨fun w => match w with | .right => "Right" | .left => "Left" | .level _ => "Level" | .upright _ => "Upright", fun w => match w with | .right => [] | .left => [] | .level k => [("step", .sh k)] | .upright k => [("ends", .sh k)]⟩
def wbox (w : WayO) (x y n : Int) : Box := match w with
  | .right => ⟨x + 1, y, n, 1⟩
  | .left => ⟨x - n, y, n, 1⟩
  | .level k => ⟨x - (n - 1) / 2, y + k, n, 1⟩
  | .upright k => if k = true then ⟨x, y - n, 1, n⟩ else ⟨x, y + 1, 1, n⟩
def wayOf (w : Str) : WayO := if w = ("right" : Str) then .right else if w = ("left" : Str) then .left else if w = ("above" : Str) then .level (0 - 1) else if w = ("below" : Str) then .level 1 else .upright (decide (w = ("up" : Str)))
def boxAt (w : Str) (x y n : Int) : Box := wbox (wayOf w) x y n

theorem mem_cellsOf (b : Box) (z : Int × Int) : z ∈ cellsOf b ↔ (b.a ≤ z.1 ∧ z.1 < b.a + b.c) ∧ b.b ≤ z.2 ∧ z.2 < b.b + b.d := by
  unfold cellsOf rowOf rng
  rw [List.mem_flatMap]
  constructor
  · rintro ⟨r, hr, hz⟩
    obtain ⟨n, hn, rfl⟩ := List.mem_map.mp hr
    obtain ⟨c, hc, rfl⟩ := List.mem_map.mp hz
    obtain ⟨k, hk, rfl⟩ := List.mem_map.mp hc
    rw [List.mem_range] at hn hk
    simp only
    omega
  · rintro ⟨⟨e1, e2⟩, e3, e4⟩
    refine ⟨z.2, List.mem_map.mpr ⟨(z.2 - b.b).toNat, List.mem_range.mpr (by omega), by omega⟩, List.mem_map.mpr ⟨z.1, List.mem_map.mpr ⟨(z.1 - b.a).toNat, List.mem_range.mpr (by omega), by omega⟩, rfl⟩⟩
def six : List Str := ["right", "left", "above", "below", "up", "down"]
def goodEnd (w : Str) (b : Box) (x y n : Int) : Bool :=
  if w = ("right" : Str) then decide (((b.a, b.b) : Int × Int) = (x + 1, y)) && decide (((b.a + b.c - 1, b.b + b.d - 1) : Int × Int) = (x + n, y))
  else if w = ("left" : Str) then decide (((b.a, b.b) : Int × Int) = (x - n, y)) && decide (((b.a + b.c - 1, b.b + b.d - 1) : Int × Int) = (x - 1, y))
  else if w = ("up" : Str) then decide (((b.a, b.b) : Int × Int) = (x, y - n)) && decide (((b.a + b.c - 1, b.b + b.d - 1) : Int × Int) = (x, y - 1))
  else if w = ("down" : Str) then decide (((b.a, b.b) : Int × Int) = (x, y + 1)) && decide (((b.a + b.c - 1, b.b + b.d - 1) : Int × Int) = (x, y + n))
  else decide (b.b = y + 1 - 2 * (if decide (w = ("above" : Str)) then 1 else 0)) && (decide (b.d = 1) && (decide (x - b.a = (n - 1) / 2) && decide (((b.a + b.c - 1, b.b + b.d - 1) : Int × Int) = (b.a + n - 1, y + 1 - 2 * (if decide (w = ("above" : Str)) then 1 else 0)))))
theorem six_cases {w : Str} (h : w ∈ six) : w = ("right" : Str) ∨ w = ("left" : Str) ∨ w = ("above" : Str) ∨ w = ("below" : Str) ∨ w = ("up" : Str) ∨ w = ("down" : Str) := by
  simpa [six] using h
theorem good_end {w : Str} (h : w ∈ six) (x y n : Int) : goodEnd w (boxAt w x y n) x y n = true := by
  have d : ∀ a b : Str, decide (a = b) = false → ¬ a = b := fun a b h => of_decide_eq_false h
  rcases six_cases h with rfl | rfl | rfl | rfl | rfl | rfl
  · unfold goodEnd boxAt wayOf
    rw [if_pos rfl, if_pos rfl]
    simp [wbox] <;> omega
  · unfold goodEnd boxAt wayOf
    rw [if_neg (by decide +kernel), if_pos rfl, if_neg (by decide +kernel), if_pos rfl]
    simp [wbox] <;> omega
  · unfold goodEnd boxAt wayOf
    rw [if_neg (by decide +kernel), if_neg (by decide +kernel), if_neg (by decide +kernel), if_neg (by decide +kernel), if_neg (by decide +kernel), if_neg (by decide +kernel), if_pos rfl]
    simp [wbox] <;> omega
  · unfold goodEnd boxAt wayOf
    rw [if_neg (by decide +kernel), if_neg (by decide +kernel), if_neg (by decide +kernel), if_neg (by decide +kernel), if_neg (by decide +kernel), if_neg (by decide +kernel), if_neg (by decide +kernel), if_pos rfl]
    have nb : ¬ (("below" : Str) = ("above" : Str)) := by decide +kernel
    simp [wbox, nb]
    exact decide_eq_true (by omega)
  · unfold goodEnd boxAt wayOf
    rw [if_neg (by decide +kernel), if_neg (by decide +kernel), if_pos rfl, if_neg (by decide +kernel), if_neg (by decide +kernel), if_neg (by decide +kernel), if_neg (by decide +kernel)]
    simp [wbox] <;> omega
  · unfold goodEnd boxAt wayOf
    rw [if_neg (by decide +kernel), if_neg (by decide +kernel), if_neg (by decide +kernel), if_pos rfl, if_neg (by decide +kernel), if_neg (by decide +kernel), if_neg (by decide +kernel), if_neg (by decide +kernel)]
    rw [show decide (("down" : Str) = ("up" : Str)) = false by decide +kernel]
    simp [wbox] <;> omega
theorem box_wh {w : Str} (x y n : Int) : (boxAt w x y n).c * (boxAt w x y n).d = n ∧ ((boxAt w x y n).c = n ∧ (boxAt w x y n).d = 1 ∨ (boxAt w x y n).c = 1 ∧ (boxAt w x y n).d = n) := by
  unfold boxAt
  cases wayOf w with
  | right => simp [wbox]
  | left => simp [wbox]
  | level k => simp [wbox]
  | upright k => cases k <;> simp [wbox]
theorem box_small {w : Str} {x y n : Int} (hx : 0 ≤ x ∧ x ≤ 20) (hy : 0 ≤ y ∧ y ≤ 20) (hn : 1 ≤ n ∧ n ≤ 8) (h : w ∈ six) : BoxS (boxAt w x y n) := by
  unfold BoxS
  rcases six_cases h with rfl | rfl | rfl | rfl | rfl | rfl
  · unfold boxAt wayOf
    rw [if_pos rfl]
    simp [wbox] <;> omega
  · unfold boxAt wayOf
    rw [if_neg (by decide +kernel), if_pos rfl]
    simp [wbox] <;> omega
  · unfold boxAt wayOf
    rw [if_neg (by decide +kernel), if_neg (by decide +kernel), if_pos rfl]
    simp [wbox] <;> omega
  · unfold boxAt wayOf
    rw [if_neg (by decide +kernel), if_neg (by decide +kernel), if_neg (by decide +kernel), if_pos rfl]
    simp [wbox] <;> omega
  · unfold boxAt wayOf
    rw [if_neg (by decide +kernel), if_neg (by decide +kernel), if_neg (by decide +kernel), if_neg (by decide +kernel)]
    simp [wbox] <;> omega
  · unfold boxAt wayOf
    rw [if_neg (by decide +kernel), if_neg (by decide +kernel), if_neg (by decide +kernel), if_neg (by decide +kernel)]
    rw [show decide (("down" : Str) = ("up" : Str)) = false by decide +kernel]
    simp [wbox] <;> omega
theorem cell_out {w : Str} {x y n : Int} (hn : 1 ≤ n) (h : w ∈ six) : ¬ (x, y) ∈ cellsOf (boxAt w x y n) := by
  intro hm
  have hm := (mem_cellsOf _ _).mp hm
  revert hm
  rcases six_cases h with rfl | rfl | rfl | rfl | rfl | rfl
  · unfold boxAt wayOf
    rw [if_pos rfl]
    simp [wbox] <;> omega
  · unfold boxAt wayOf
    rw [if_neg (by decide +kernel), if_pos rfl]
    simp [wbox] <;> omega
  · unfold boxAt wayOf
    rw [if_neg (by decide +kernel), if_neg (by decide +kernel), if_pos rfl]
    simp [wbox] <;> omega
  · unfold boxAt wayOf
    rw [if_neg (by decide +kernel), if_neg (by decide +kernel), if_neg (by decide +kernel), if_pos rfl]
    simp [wbox] <;> omega
  · unfold boxAt wayOf
    rw [if_neg (by decide +kernel), if_neg (by decide +kernel), if_neg (by decide +kernel), if_neg (by decide +kernel)]
    simp [wbox] <;> omega
  · unfold boxAt wayOf
    rw [if_neg (by decide +kernel), if_neg (by decide +kernel), if_neg (by decide +kernel), if_neg (by decide +kernel)]
    rw [show decide (("down" : Str) = ("up" : Str)) = false by decide +kernel]
    simp [wbox] <;> omega
theorem cells_count {b : Box} (h : BoxS b) : ((cellsOf b).length : Int) = b.c * b.d := by
  rw [← cellsTo_all, cellsTo_len b _ (by rw [rng_len]; exact Nat.le_refl _), rng_len]
  unfold BoxS at h
  have e1 : ((b.c.toNat : Nat) : Int) = b.c := by omega
  have e2 : (((b.b + b.d - b.b).toNat : Nat) : Int) = b.d := by omega
  rw [Int.natCast_mul, e1, e2, Int.mul_comm]
theorem six_at (k : Int) (h0 : 0 ≤ k) (h : k < 6) : atI six k = some (six.getD k.toNat default) ∧ six.getD k.toNat default ∈ six := by
  have e : k = (k.toNat : Int) := by omega
  have hl : k.toNat < six.length := by show k.toNat < 6; omega
  constructor
  · rw [e]
    exact atI_nat (by rw [Int.toNat_natCast, List.getD_eq_getElem?_getD, List.getElem?_eq_getElem hl]; rfl)
  · rw [List.getD_eq_getElem?_getD, List.getElem?_eq_getElem hl]
    exact List.getElem_mem hl

section
variable {P : Program} {w : World} {K : PySem.W.Frag} {mg : Str → Option Value} {base : Heap}
/-! #### Right.box -/
abbrev s_Right_box : Stmt := inClass (top 2) 0
theorem sc_Right_box : FnScope ["self", "x", "y", "size"] ["self", "x", "y", "size"] (defScope s_Right_box) := ⟨rfl, rfl, rfl, by decide +kernel, rfl, by decide +kernel, by decide +kernel⟩
theorem gd_Right_box : gdB ["self", "x", "y", "size"] 4 (defScope s_Right_box) = true := by decide +kernel
def ok_Right_box : List Sl → Sl → Prop := fun as_ u_ => ∃ x : Int, ∃ y : Int, ∃ n : Int, as_ = [.sh WayO.right, .sh x, .sh y, .sh n] ∧ u_ = .sh (wbox WayO.right x y n)
theorem fn_Right_box {f : Addr} {fd : FuncData} (Z : Blt mg) (F : Fun K "box" "Right.box" s_Right_box f fd) : FnOk P w K mg base CX0 1 f fd ["self", "x", "y", "size"] (spT K ok_Right_box) := by
  refine fn_T F sc_Right_box (fun as s h => ?_) (fun as s h => ?_)
  · obtain ⟨x, y, n, rfl, _⟩ := h; rfl
  obtain ⟨x, y, n, rfl, rfl⟩ := h
  have G : Gd ⟨P, w, K, mg, base, ["self", "x", "y", "size"], defScope s_Right_box, fun _ => true, 0⟩ 4 := gd_of sc_Right_box.nd gd_Right_box
  show SX _ _ [.sh WayO.right, .sh x, .sh y, .sh n] _
  refine sx_ret (px_tup4 (pax_cons (px_add (px_v G 1 rfl (by decide) rfl (by trivial)) (px_int (i := 1))) (pax_cons (px_v G 2 rfl (by decide) rfl (by trivial)) (pax_cons (px_v G 3 rfl (by decide) rfl (by trivial)) (pax_cons (px_int (i := 1)) pax_nil (by intro _; rfl)) (by intro _; rfl)) (by intro _; rfl)) (by intro _; rfl))) ?_
  show Sl.sh _ = _
  subst_vars; rfl
/-! #### Left.box -/
abbrev s_Left_box : Stmt := inClass (top 3) 0
theorem sc_Left_box : FnScope ["self", "x", "y", "size"] ["self", "x", "y", "size"] (defScope s_Left_box) := ⟨rfl, rfl, rfl, by decide +kernel, rfl, by decide +kernel, by decide +kernel⟩
theorem gd_Left_box : gdB ["self", "x", "y", "size"] 4 (defScope s_Left_box) = true := by decide +kernel
def ok_Left_box : List Sl → Sl → Prop := fun as_ u_ => ∃ x : Int, ∃ y : Int, ∃ n : Int, as_ = [.sh WayO.left, .sh x, .sh y, .sh n] ∧ u_ = .sh (wbox WayO.left x y n)
theorem fn_Left_box {f : Addr} {fd : FuncData} (Z : Blt mg) (F : Fun K "box" "Left.box" s_Left_box f fd) : FnOk P w K mg base CX0 1 f fd ["self", "x", "y", "size"] (spT K ok_Left_box) := by
  refine fn_T F sc_Left_box (fun as s h => ?_) (fun as s h => ?_)
  · obtain ⟨x, y, n, rfl, _⟩ := h; rfl
  obtain ⟨x, y, n, rfl, rfl⟩ := h
  have G : Gd ⟨P, w, K, mg, base, ["self", "x", "y", "size"], defScope s_Left_box, fun _ => true, 0⟩ 4 := gd_of sc_Left_box.nd gd_Left_box
  show SX _ _ [.sh WayO.left, .sh x, .sh y, .sh n] _
  refine sx_ret (px_tup4 (pax_cons (px_sub (px_v G 1 rfl (by decide) rfl (by trivial)) (px_v G 3 rfl (by decide) rfl (by trivial))) (pax_cons (px_v G 2 rfl (by decide) rfl (by trivial)) (pax_cons (px_v G 3 rfl (by decide) rfl (by trivial)) (pax_cons (px_int (i := 1)) pax_nil (by intro _; rfl)) (by intro _; rfl)) (by intro _; rfl)) (by intro _; rfl))) ?_
  show Sl.sh _ = _
  subst_vars; rfl
abbrev s_Level___init__ : Stmt := inClass (top 4) 0
theorem sc_Level___init__ : FnScope ["self", "step"] ["self", "step"] (defScope s_Level___init__) := ⟨rfl, rfl, rfl, by decide +kernel, rfl, by decide +kernel, by decide +kernel⟩
/-! #### Level.box -/
abbrev s_Level_box : Stmt := inClass (top 4) 1
theorem sc_Level_box : FnScope ["self", "x", "y", "size"] ["self", "x", "y", "size"] (defScope s_Level_box) := ⟨rfl, rfl, rfl, by decide +kernel, rfl, by decide +kernel, by decide +kernel⟩
theorem gd_Level_box : gdB ["self", "x", "y", "size"] 4 (defScope s_Level_box) = true := by decide +kernel
def ok_Level_box : List Sl → Sl → Prop := fun as_ u_ => ∃ k : Int, ∃ x : Int, ∃ y : Int, ∃ n : Int, as_ = [.sh (WayO.level k), .sh x, .sh y, .sh n] ∧ u_ = .sh (wbox (WayO.level k) x y n)
theorem fn_Level_box {f : Addr} {fd : FuncData} (Z : Blt mg) (F : Fun K "box" "Level.box" s_Level_box f fd) {A_Level : Addr} (K_Level : CF K mg "Level" A_Level) (n_Level_step : NoAttr K A_Level "step") : FnOk P w K mg base CX0 1 f fd ["self", "x", "y", "size"] (spT K ok_Level_box) := by
  refine fn_T F sc_Level_box (fun as s h => ?_) (fun as s h => ?_)
  · obtain ⟨k, x, y, n, rfl, _⟩ := h; rfl
  obtain ⟨k, x, y, n, rfl, rfl⟩ := h
  have G : Gd ⟨P, w, K, mg, base, ["self", "x", "y", "size"], defScope s_Level_box, fun _ => true, 0⟩ 4 := gd_of sc_Level_box.nd gd_Level_box
  show SX _ _ [.sh (WayO.level k), .sh x, .sh y, .sh n] _
  refine sx_ret (px_tup4 (pax_cons (px_sub (px_v G 1 rfl (by decide) rfl (by trivial)) (px_fdiv (px_sub (px_v G 3 rfl (by decide) rfl (by trivial)) (px_int (i := 1))) (px_int (i := 2)) (by walk_at "sc_div"))) (pax_cons (px_add (px_v G 2 rfl (by decide) rfl (by trivial)) (px_attr (C := A_Level) (px_v G 0 rfl (by decide) rfl (by trivial)) K_Level n_Level_step rfl (by intro _; rfl))) (pax_cons (px_v G 3 rfl (by decide) rfl (by trivial)) (pax_cons (px_int (i := 1)) pax_nil (by intro _; rfl)) (by intro _; rfl)) (by intro _; rfl)) (by intro _; rfl))) ?_
  show Sl.sh _ = _
  subst_vars; rfl
abbrev s_Upright___init__ : Stmt := inClass (top 5) 0
theorem sc_Upright___init__ : FnScope ["self", "ends"] ["self", "ends"] (defScope s_Upright___init__) := ⟨rfl, rfl, rfl, by decide +kernel, rfl, by decide +kernel, by decide +kernel⟩
/-! #### Upright.box -/
abbrev s_Upright_box : Stmt := inClass (top 5) 1
theorem sc_Upright_box : FnScope ["self", "x", "y", "size"] ["self", "x", "y", "size"] (defScope s_Upright_box) := ⟨rfl, rfl, rfl, by decide +kernel, rfl, by decide +kernel, by decide +kernel⟩
theorem gd_Upright_box : gdB ["self", "x", "y", "size"] 4 (defScope s_Upright_box) = true := by decide +kernel
def ok_Upright_box : List Sl → Sl → Prop := fun as_ u_ => ∃ k : Bool, ∃ x : Int, ∃ y : Int, ∃ n : Int, as_ = [.sh (WayO.upright k), .sh x, .sh y, .sh n] ∧ u_ = .sh (wbox (WayO.upright k) x y n)
theorem fn_Upright_box {f : Addr} {fd : FuncData} (Z : Blt mg) (F : Fun K "box" "Upright.box" s_Upright_box f fd) {A_Upright : Addr} (K_Upright : CF K mg "Upright" A_Upright) (n_Upright_ends : NoAttr K A_Upright "ends") : FnOk P w K mg base CX0 1 f fd ["self", "x", "y", "size"] (spT K ok_Upright_box) := by
  refine fn_T F sc_Upright_box (fun as s h => ?_) (fun as s h => ?_)
  · obtain ⟨k, x, y, n, rfl, _⟩ := h; rfl
  obtain ⟨k, x, y, n, rfl, rfl⟩ := h
  have G : Gd ⟨P, w, K, mg, base, ["self", "x", "y", "size"], defScope s_Upright_box, fun _ => true, 0⟩ 4 := gd_of sc_Upright_box.nd gd_Upright_box
  show SX _ _ [.sh (WayO.upright k), .sh x, .sh y, .sh n] _
  refine sx_if (Ly.pt_val (px_attr (C := A_Upright) (px_v G 0 rfl (by decide) rfl (by trivial)) K_Upright n_Upright_ends rfl (by intro _; rfl)) (by intro _ _; rfl)) (fun c0 => ?_) (fun c0 => ?_)
  · skip
    refine sx_ret (px_tup4 (pax_cons (px_v G 1 rfl (by decide) rfl (by trivial)) (pax_cons (px_sub (px_v G 2 rfl (by decide) rfl (by trivial)) (px_v G 3 rfl (by decide) rfl (by trivial))) (pax_cons (px_int (i := 1)) (pax_cons (px_v G 3 rfl (by decide) rfl (by trivial)) pax_nil (by intro _; rfl)) (by intro _; rfl)) (by intro _; rfl)) (by intro _; rfl))) ?_
    show Sl.sh _ = _
    rw [c0]; rfl
  · skip
    refine sx_nil ?_
    show SX _ _ [.sh (WayO.upright k), .sh x, .sh y, .sh n] _
    refine sx_ret (px_tup4 (pax_cons (px_v G 1 rfl (by decide) rfl (by trivial)) (pax_cons (px_add (px_v G 2 rfl (by decide) rfl (by trivial)) (px_int (i := 1))) (pax_cons (px_int (i := 1)) (pax_cons (px_v G 3 rfl (by decide) rfl (by trivial)) pax_nil (by intro _; rfl)) (by intro _; rfl)) (by intro _; rfl)) (by intro _; rfl))) ?_
    show Sl.sh _ = _
    rw [c0]; rfl
/-! #### way_of -/
abbrev s_way_of : Stmt := top 6
theorem sc_way_of : FnScope ["word"] ["word"] (defScope s_way_of) := ⟨rfl, rfl, rfl, by decide +kernel, rfl, by decide +kernel, by decide +kernel⟩
theorem gd_way_of : gdB ["word"] 1 (defScope s_way_of) = true := by decide +kernel
def ok_way_of : List Sl → Sl → Prop := fun as_ u_ => ∃ wd : Str, as_ = [.sh wd] ∧ u_ = .sh (wayOf wd)
theorem fn_way_of {f : Addr} {fd : FuncData} (Z : Blt mg) (F : Fun K "way_of" "way_of" s_way_of f fd) (N_Left : CalN0 K mg "Left") (N_Level : CalN1 P w K mg base 1 "Level" "step") (N_Right : CalN0 K mg "Right") (N_Upright : CalN1 P w K mg base 1 "Upright" "ends") : FnOk P w K mg base CX0 3 f fd ["word"] (spT K ok_way_of) := by
  have g_Left : (defScope s_way_of).names.lookup ("Left" : Str) = some .globalImplicit := by decide +kernel
  have g_Level : (defScope s_way_of).names.lookup ("Level" : Str) = some .globalImplicit := by decide +kernel
  have g_Right : (defScope s_way_of).names.lookup ("Right" : Str) = some .globalImplicit := by decide +kernel
  have g_Upright : (defScope s_way_of).names.lookup ("Upright" : Str) = some .globalImplicit := by decide +kernel
  refine fn_T F sc_way_of (fun as s h => ?_) (fun as s h => ?_)
  · obtain ⟨wd, rfl, _⟩ := h; rfl
  obtain ⟨wd, rfl, rfl⟩ := h
  have G : Gd ⟨P, w, K, mg, base, ["word"], defScope s_way_of, fun _ => true, 2⟩ 1 := gd_of sc_way_of.nd gd_way_of
  show SX _ _ [.sh wd] _
  refine sx_if (Ly.pt_cmp c_eqS (px_v G 0 rfl (by decide) rfl (by trivial)) (px_str (by decide +kernel)) (nomark _)) (fun c0 => ?_) (fun c0 => ?_)
  · skip
    refine sx_ret (px_new0 (x := WayO.right) N_Right rfl rfl g_Right (by decide)) ?_
    show Sl.sh _ = _
    unfold wayOf; rw [if_pos (of_decide_eq_true c0)]
  · skip
    refine sx_nil ?_
    show SX _ _ [.sh wd] _
    refine sx_if (Ly.pt_cmp c_eqS (px_v G 0 rfl (by decide) rfl (by trivial)) (px_str (by decide +kernel)) (nomark _)) (fun c1 => ?_) (fun c1 => ?_)
    · skip
      refine sx_ret (px_new0 (x := WayO.left) N_Left rfl rfl g_Left (by decide)) ?_
      show Sl.sh _ = _
      unfold wayOf; rw [if_neg (of_decide_eq_false c0), if_pos (of_decide_eq_true c1)]
    · skip
      refine sx_nil ?_
      show SX _ _ [.sh wd] _
      refine sx_if (Ly.pt_cmp c_eqS (px_v G 0 rfl (by decide) rfl (by trivial)) (px_str (by decide +kernel)) (nomark _)) (fun c2 => ?_) (fun c2 => ?_)
      · skip
        refine sx_ret (px_new1 (x := (WayO.level _)) N_Level (Nat.le_of_ble_eq_true rfl) rfl rfl g_Level (px_sub (px_int (i := 0)) (px_int (i := 1))) (by decide) (by intro _; rfl)) ?_
        show Sl.sh _ = _
        unfold wayOf; rw [if_neg (of_decide_eq_false c0), if_neg (of_decide_eq_false c1), if_pos (of_decide_eq_true c2)]
      · skip
        refine sx_nil ?_
        show SX _ _ [.sh wd] _
        refine sx_if (Ly.pt_cmp c_eqS (px_v G 0 rfl (by decide) rfl (by trivial)) (px_str (by decide +kernel)) (nomark _)) (fun c3 => ?_) (fun c3 => ?_)
        · skip
          refine sx_ret (px_new1 (x := (WayO.level _)) N_Level (Nat.le_of_ble_eq_true rfl) rfl rfl g_Level (px_int (i := 1)) (by decide) (by intro _; rfl)) ?_
          show Sl.sh _ = _
          unfold wayOf; rw [if_neg (of_decide_eq_false c0), if_neg (of_decide_eq_false c1), if_neg (of_decide_eq_false c2), if_pos (of_decide_eq_true c3)]
        · skip
          refine sx_nil ?_
          show SX _ _ [.sh wd] _
          refine sx_ret (px_new1 (x := (WayO.upright _)) N_Upright (Nat.le_of_ble_eq_true rfl) rfl rfl g_Upright (Ly.px_cmp c_eqS (px_v G 0 rfl (by decide) rfl (by trivial)) (px_str (by decide +kernel)) (nomark _)) (by decide) (by intro _; rfl)) ?_
          show Sl.sh _ = _
          unfold wayOf; rw [if_neg (of_decide_eq_false c0), if_neg (of_decide_eq_false c1), if_neg (of_decide_eq_false c2), if_neg (of_decide_eq_false c3)]
/-! #### box_at -/
abbrev s_box_at : Stmt := top 7
theorem sc_box_at : FnScope ["way", "x", "y", "size"] ["way", "x", "y", "size"] (defScope s_box_at) := ⟨rfl, rfl, rfl, by decide +kernel, rfl, by decide +kernel, by decide +kernel⟩
theorem gd_box_at : gdB ["way", "x", "y", "size"] 4 (defScope s_box_at) = true := by decide +kernel
def ok_box_at : List Sl → Sl → Prop := fun as_ u_ => ∃ wd : Str, ∃ x : Int, ∃ y : Int, ∃ n : Int, as_ = [.sh wd, .sh x, .sh y, .sh n] ∧ u_ = .sh (boxAt wd x y n)
theorem fn_box_at {f : Addr} {fd : FuncData} (Z : Blt mg) (F : Fun K "box_at" "box_at" s_box_at f fd) {A_Left A_Level A_Right A_Upright : Addr} (K_Left : CF K mg "Left" A_Left) (K_Level : CF K mg "Level" A_Level) (K_Right : CF K mg "Right" A_Right) (K_Upright : CF K mg "Upright" A_Upright) (M_Left_box : Calm P w K mg base 1 A_Left "box" ok_Left_box) (M_Level_box : Calm P w K mg base 1 A_Level "box" ok_Level_box) (M_Right_box : Calm P w K mg base 1 A_Right "box" ok_Right_box) (M_Upright_box : Calm P w K mg base 1 A_Upright "box" ok_Upright_box) (C_way_of : Cal P w K mg base 3 "way_of" ok_way_of) : FnOk P w K mg base CX0 4 f fd ["way", "x", "y", "size"] (spT K ok_box_at) := by
  have g_way_of : (defScope s_box_at).names.lookup ("way_of" : Str) = some .globalImplicit := by decide +kernel
  refine fn_T F sc_box_at (fun as s h => ?_) (fun as s h => ?_)
  · obtain ⟨wd, x, y, n, rfl, _⟩ := h; rfl
  obtain ⟨wd, x, y, n, rfl, rfl⟩ := h
  have G : Gd ⟨P, w, K, mg, base, ["way", "x", "y", "size"], defScope s_box_at, fun _ => true, 3⟩ 4 := gd_of sc_box_at.nd gd_box_at
  show SX _ _ [.sh wd, .sh x, .sh y, .sh n] _
  cases hw : wayOf wd with
  | right =>
    refine sx_ret (px_meth (C := A_Right) ((px_call C_way_of (Nat.le_of_ble_eq_true rfl) g_way_of (pax_cons (px_v G 0 rfl (by decide) rfl (by trivial)) pax_nil (by intro _; rfl)) ⟨_, rfl, rfl⟩ (by decide) (by intro _; rfl) (by intro _; rfl)).to (congrArg Sl.sh hw)) K_Right rfl M_Right_box (Nat.le_of_ble_eq_true rfl) (pax_cons (px_v G 1 rfl (by decide) rfl (by trivial)) (pax_cons (px_v G 2 rfl (by decide) rfl (by trivial)) (pax_cons (px_v G 3 rfl (by decide) rfl (by trivial)) pax_nil (by intro _; rfl)) (by intro _; rfl)) (by intro _; rfl)) ⟨_, _, _, rfl, rfl⟩ (by intro _; rfl) (by intro _; rfl) (by intro _; rfl)) ?_
    show Sl.sh _ = Sl.sh (boxAt wd x y n)
    unfold boxAt; rw [hw]
  | left =>
    refine sx_ret (px_meth (C := A_Left) ((px_call C_way_of (Nat.le_of_ble_eq_true rfl) g_way_of (pax_cons (px_v G 0 rfl (by decide) rfl (by trivial)) pax_nil (by intro _; rfl)) ⟨_, rfl, rfl⟩ (by decide) (by intro _; rfl) (by intro _; rfl)).to (congrArg Sl.sh hw)) K_Left rfl M_Left_box (Nat.le_of_ble_eq_true rfl) (pax_cons (px_v G 1 rfl (by decide) rfl (by trivial)) (pax_cons (px_v G 2 rfl (by decide) rfl (by trivial)) (pax_cons (px_v G 3 rfl (by decide) rfl (by trivial)) pax_nil (by intro _; rfl)) (by intro _; rfl)) (by intro _; rfl)) ⟨_, _, _, rfl, rfl⟩ (by intro _; rfl) (by intro _; rfl) (by intro _; rfl)) ?_
    show Sl.sh _ = Sl.sh (boxAt wd x y n)
    unfold boxAt; rw [hw]
  | level k =>
    refine sx_ret (px_meth (C := A_Level) ((px_call C_way_of (Nat.le_of_ble_eq_true rfl) g_way_of (pax_cons (px_v G 0 rfl (by decide) rfl (by trivial)) pax_nil (by intro _; rfl)) ⟨_, rfl, rfl⟩ (by decide) (by intro _; rfl) (by intro _; rfl)).to (congrArg Sl.sh hw)) K_Level rfl M_Level_box (Nat.le_of_ble_eq_true rfl) (pax_cons (px_v G 1 rfl (by decide) rfl (by trivial)) (pax_cons (px_v G 2 rfl (by decide) rfl (by trivial)) (pax_cons (px_v G 3 rfl (by decide) rfl (by trivial)) pax_nil (by intro _; rfl)) (by intro _; rfl)) (by intro _; rfl)) ⟨_, _, _, _, rfl, rfl⟩ (by intro _; rfl) (by intro _; rfl) (by intro _; rfl)) ?_
    show Sl.sh _ = Sl.sh (boxAt wd x y n)
    unfold boxAt; rw [hw]
  | upright k =>
    refine sx_ret (px_meth (C := A_Upright) ((px_call C_way_of (Nat.le_of_ble_eq_true rfl) g_way_of (pax_cons (px_v G 0 rfl (by decide) rfl (by trivial)) pax_nil (by intro _; rfl)) ⟨_, rfl, rfl⟩ (by decide) (by intro _; rfl) (by intro _; rfl)).to (congrArg Sl.sh hw)) K_Upright rfl M_Upright_box (Nat.le_of_ble_eq_true rfl) (pax_cons (px_v G 1 rfl (by decide) rfl (by trivial)) (pax_cons (px_v G 2 rfl (by decide) rfl (by trivial)) (pax_cons (px_v G 3 rfl (by decide) rfl (by trivial)) pax_nil (by intro _; rfl)) (by intro _; rfl)) (by intro _; rfl)) ⟨_, _, _, _, rfl, rfl⟩ (by intro _; rfl) (by intro _; rfl) (by intro _; rfl)) ?_
    show Sl.sh _ = Sl.sh (boxAt wd x y n)
    unfold boxAt; rw [hw]
/-! #### cells_of -/
abbrev s_cells_of : Stmt := top 9
theorem sc_cells_of : FnScope ["box", "cells", "row", "x", "y", "wide", "high", "column"] ["box"] (defScope s_cells_of) := ⟨rfl, rfl, rfl, by decide +kernel, rfl, by decide +kernel, by decide +kernel⟩
theorem gd_cells_of : gdB ["box", "cells", "row", "x", "y", "wide", "high", "column"] 7 (defScope s_cells_of) = true := by decide +kernel
def ok_cells_of : List Sl → Sl → Prop := fun as_ u_ => ∃ b : Box, as_ = [.sh b] ∧ u_ = .ow (cellsOf b) ∧ (BoxS b)
theorem fn_cells_of {f : Addr} {fd : FuncData} (Z : Blt mg) (F : Fun K "cells_of" "cells_of" s_cells_of f fd) : FnOk P w K mg base CX0 1 f fd ["box"] (spT K ok_cells_of) := by
  have g_range : (defScope s_cells_of).names.lookup ("range" : Str) = some .globalImplicit := by decide +kernel
  refine fn_T F sc_cells_of (fun as s h => ?_) (fun as s h => ?_)
  · obtain ⟨b, rfl, _⟩ := h; rfl
  obtain ⟨b, rfl, rfl, hpre⟩ := h
  have G : Gd ⟨P, w, K, mg, base, ["box", "cells", "row", "x", "y", "wide", "high", "column"], defScope s_cells_of, fun _ => true, 0⟩ 7 := gd_of sc_cells_of.nd gd_cells_of
  show SX _ _ [.sh b, .un, .un, .un, .un, .un, .un, .un] _
  refine sx_asg (px_v G 0 rfl (by decide) rfl (by trivial)) (gx_tup (gxs_cons (gx_n G 3 rfl (by decide) (by trivial)) (gxs_cons (gx_n G 4 rfl (by decide) (by trivial)) (gxs_cons (gx_n G 5 rfl (by decide) (by trivial)) (gxs_cons (gx_n G 6 rfl (by decide) (by trivial)) gxs_nil (by intro _; rfl)) (by intro _; rfl)) (by intro _; rfl)) (by intro _; rfl)) (by intro _; rfl) (by intro _; rfl)) (by intro _; rfl) (by intro _; rfl) (by intro _; rfl) ?_
  show SX _ _ [.sh b, .un, .un, .sh b.a, .sh b.b, .sh b.c, .sh b.d, .un] _
  refine sx_setO G 1 rfl (by decide) (px_lst (α := (Int × Int)) (xs := []) pax_nil rfl (by show 0 ≤ sizeLine; decide)) (by intro _; rfl) fun cells_1 hcells_1 => ?_
  show SX _ _ [.sh b, .ow cells_1, .un, .sh b.a, .sh b.b, .sh b.c, .sh b.d, .un] _
  refine sx_forL (w := [2]) (fun i τ => ∃ acc : List (Int × Int), τ = [.sh b, .ow acc, .un, .sh b.a, .sh b.b, .sh b.c, .sh b.d, .un] ∧ acc = cellsTo b i) (ix_range2 g_range Z.range_ (px_v G 4 rfl (by decide) rfl (by trivial)) (px_add (px_v G 4 rfl (by decide) rfl (by trivial)) (px_v G 6 rfl (by decide) rfl (by trivial))) (by unfold BoxS at hpre; omega)) ⟨_, rfl, by (subst_vars; rfl)⟩ ?_ (by intro _ _; rfl) ?_
  · rintro i x _ hx ⟨acc, rfl, hacc⟩
    refine ⟨_, (gx_n G 2 rfl (by decide) (by trivial)), ?_⟩
    show SX _ _ [.sh b, .ow acc, .sh x, .sh b.a, .sh b.b, .sh b.c, .sh b.d, .un] _
    refine sx_extend G 1 rfl (by decide) rfl (px_lcM (own := [("column", 7)]) (w := [7]) G.nd (blkOk_by (by show blkC ["box", "cells", "row", "x", "y", "wide", "high", "column"] (defScope s_cells_of) _ _ = true; decide +kernel)) (ix_range2 g_range Z.range_ (px_v G 3 rfl (by decide) rfl (by trivial)) (px_add (px_v G 3 rfl (by decide) rfl (by trivial)) (px_v G 5 rfl (by decide) rfl (by trivial))) (by unfold BoxS at hpre; omega)) (by exact row_len hpre) (by decide) (fun x hx => ⟨_, (gx_w G (by rfl) 7 (by rfl) (by show L2.Loc (relS _ (defScope s_cells_of)) _; decide +kernel) (by first | exact .inr (by show (relS _ (defScope s_cells_of)).names.lookup _ = _; decide +kernel) | exact .inl (by show (List.lookup _ _ == _) = true; decide +kernel)) (by trivial)), (px_tup2 (pax_cons (px_w G (by rfl) 7 (by rfl) (by show Vis (relS _ (defScope s_cells_of)) _; decide +kernel) (by rfl) (by trivial)) (pax_cons (px_w G (by rfl) 2 (by rfl) (by show Vis (relS _ (defScope s_cells_of)) _; decide +kernel) (by rfl) (by trivial)) pax_nil (by intro _; rfl)) (by intro _; rfl)))⟩) (by intro _ _; rfl)) (by exact cells_app hpre hx hacc) (by intro _; rfl) rfl (by intro _; rfl) (by intro _; rfl) ?_
    show SX _ _ [.sh b, .ow (acc ++ _), .sh x, .sh b.a, .sh b.b, .sh b.c, .sh b.d, .un] _
    refine sx_wk (τ' := [.sh b, .ow (acc ++ _), .un, .sh b.a, .sh b.b, .sh b.c, .sh b.d, .un]) ⟨.inr rfl, .inr rfl, .inl rfl, .inr rfl, .inr rfl, .inr rfl, .inr rfl, .inl rfl, trivial⟩ (sx_nil ?_)
    exact ⟨_, rfl, by (rw [hacc]; exact (cellsTo_succ hx).symm)⟩
  · rintro _ ⟨acc, rfl, hacc⟩
    show SX _ _ [.sh b, .ow acc, .un, .sh b.a, .sh b.b, .sh b.c, .sh b.d, .un] _
    refine sx_retV G 1 rfl (by decide) rfl (fun z => by cases z) ?_
    show Sl.ow _ = _
    rw [hacc]; exact congrArg Sl.ow (cellsTo_all b)
/-! #### ends -/
abbrev s_l_ends : Stmt := top 11
theorem sc_l_ends : FnScope ["_law_way", "_law_box", "_law_x", "_law_y", "_law_size", "_law_last", "_law_line"] ["_law_way", "_law_box", "_law_x", "_law_y", "_law_size"] (defScope s_l_ends) := ⟨rfl, rfl, rfl, by decide +kernel, rfl, by decide +kernel, by decide +kernel⟩
theorem gd_l_ends : gdB ["_law_way", "_law_box", "_law_x", "_law_y", "_law_size", "_law_last", "_law_line"] 7 (defScope s_l_ends) = true := by decide +kernel
def ok_l_ends : List Sl → Sl → Prop := fun as_ u_ => ∃ wd : Str, ∃ b : Box, ∃ x : Int, ∃ y : Int, ∃ n : Int, as_ = [.sh wd, .sh b, .sh x, .sh y, .sh n] ∧ u_ = .sh (goodEnd wd b x y n)
theorem fn_l_ends {f : Addr} {fd : FuncData} (Z : Blt mg) (F : Fun K "_law_ends" "_law_ends" s_l_ends f fd) : FnOk P w K mg base CX0 1 f fd ["_law_way", "_law_box", "_law_x", "_law_y", "_law_size"] (spT K ok_l_ends) := by
  have g_int : (defScope s_l_ends).names.lookup ("int" : Str) = some .globalImplicit := by decide +kernel
  refine fn_T F sc_l_ends (fun as s h => ?_) (fun as s h => ?_)
  · obtain ⟨wd, b, x, y, n, rfl, _⟩ := h; rfl
  obtain ⟨wd, b, x, y, n, rfl, rfl⟩ := h
  have G : Gd ⟨P, w, K, mg, base, ["_law_way", "_law_box", "_law_x", "_law_y", "_law_size", "_law_last", "_law_line"], defScope s_l_ends, fun _ => true, 0⟩ 7 := gd_of sc_l_ends.nd gd_l_ends
  show SX _ _ [.sh wd, .sh b, .sh x, .sh y, .sh n, .un, .un] _
  refine sx_set G 5 rfl (by decide) (px_tup2 (pax_cons (px_sub (px_add (px_fld 0 (px_v G 1 rfl (by decide) rfl (by trivial)) (px_int (i := 0)) rfl rfl (fun _ _ => rfl)) (px_fld 2 (px_v G 1 rfl (by decide) rfl (by trivial)) (px_int (i := 2)) rfl rfl (fun _ _ => rfl))) (px_int (i := 1))) (pax_cons (px_sub (px_add (px_fld 1 (px_v G 1 rfl (by decide) rfl (by trivial)) (px_int (i := 1)) rfl rfl (fun _ _ => rfl)) (px_fld 3 (px_v G 1 rfl (by decide) rfl (by trivial)) (px_int (i := 3)) rfl rfl (fun _ _ => rfl))) (px_int (i := 1))) pax_nil (by intro _; rfl)) (by intro _; rfl))) (by intro _; rfl) fun last_1 hlast_1 => ?_
  show SX _ _ [.sh wd, .sh b, .sh x, .sh y, .sh n, .sh last_1, .un] _
  refine sx_if (Ly.pt_cmp c_eqS (px_v G 0 rfl (by decide) rfl (by trivial)) (px_str (by decide +kernel)) (nomark _)) (fun c0 => ?_) (fun c0 => ?_)
  · skip
    refine sx_ret (Ly.px_and (Ly.px_cmp (c_eqD (α := (Int × Int)) (by decide)) (px_slT4_0_2 (px_v G 1 rfl (by decide) rfl (by trivial)) (show POx _ none _ none from trivial) (show POx _ (some _) _ (some _) from (px_int (i := 2)))) (px_tup2 (pax_cons (px_add (px_v G 2 rfl (by decide) rfl (by trivial)) (px_int (i := 1))) (pax_cons (px_v G 3 rfl (by decide) rfl (by trivial)) pax_nil (by intro _; rfl)) (by intro _; rfl))) (nomark _)) fun hs1 => (px_one (Ly.px_cmp (c_eqD (α := (Int × Int)) (by decide)) (px_v G 5 rfl (by decide) rfl (by trivial)) (px_tup2 (pax_cons (px_add (px_v G 2 rfl (by decide) rfl (by trivial)) (px_v G 4 rfl (by decide) rfl (by trivial))) (pax_cons (px_v G 3 rfl (by decide) rfl (by trivial)) pax_nil (by intro _; rfl)) (by intro _; rfl))) (nomark _)))) ?_
    show Sl.sh _ = _
    subst_vars; unfold goodEnd; rw [if_pos (of_decide_eq_true c0)]
  · skip
    refine sx_nil ?_
    show SX _ _ [.sh wd, .sh b, .sh x, .sh y, .sh n, .sh last_1, .un] _
    refine sx_if (Ly.pt_cmp c_eqS (px_v G 0 rfl (by decide) rfl (by trivial)) (px_str (by decide +kernel)) (nomark _)) (fun c1 => ?_) (fun c1 => ?_)
    · skip
      refine sx_ret (Ly.px_and (Ly.px_cmp (c_eqD (α := (Int × Int)) (by decide)) (px_slT4_0_2 (px_v G 1 rfl (by decide) rfl (by trivial)) (show POx _ none _ none from trivial) (show POx _ (some _) _ (some _) from (px_int (i := 2)))) (px_tup2 (pax_cons (px_sub (px_v G 2 rfl (by decide) rfl (by trivial)) (px_v G 4 rfl (by decide) rfl (by trivial))) (pax_cons (px_v G 3 rfl (by decide) rfl (by trivial)) pax_nil (by intro _; rfl)) (by intro _; rfl))) (nomark _)) fun hs2 => (px_one (Ly.px_cmp (c_eqD (α := (Int × Int)) (by decide)) (px_v G 5 rfl (by decide) rfl (by trivial)) (px_tup2 (pax_cons (px_sub (px_v G 2 rfl (by decide) rfl (by trivial)) (px_int (i := 1))) (pax_cons (px_v G 3 rfl (by decide) rfl (by trivial)) pax_nil (by intro _; rfl)) (by intro _; rfl))) (nomark _)))) ?_
      show Sl.sh _ = _
      subst_vars; unfold goodEnd; rw [if_neg (of_decide_eq_false c0), if_pos (of_decide_eq_true c1)]
    · skip
      refine sx_nil ?_
      show SX _ _ [.sh wd, .sh b, .sh x, .sh y, .sh n, .sh last_1, .un] _
      refine sx_if (Ly.pt_cmp c_eqS (px_v G 0 rfl (by decide) rfl (by trivial)) (px_str (by decide +kernel)) (nomark _)) (fun c2 => ?_) (fun c2 => ?_)
      · skip
        refine sx_ret (Ly.px_and (Ly.px_cmp (c_eqD (α := (Int × Int)) (by decide)) (px_slT4_0_2 (px_v G 1 rfl (by decide) rfl (by trivial)) (show POx _ none _ none from trivial) (show POx _ (some _) _ (some _) from (px_int (i := 2)))) (px_tup2 (pax_cons (px_v G 2 rfl (by decide) rfl (by trivial)) (pax_cons (px_sub (px_v G 3 rfl (by decide) rfl (by trivial)) (px_v G 4 rfl (by decide) rfl (by trivial))) pax_nil (by intro _; rfl)) (by intro _; rfl))) (nomark _)) fun hs3 => (px_one (Ly.px_cmp (c_eqD (α := (Int × Int)) (by decide)) (px_v G 5 rfl (by decide) rfl (by trivial)) (px_tup2 (pax_cons (px_v G 2 rfl (by decide) rfl (by trivial)) (pax_cons (px_sub (px_v G 3 rfl (by decide) rfl (by trivial)) (px_int (i := 1))) pax_nil (by intro _; rfl)) (by intro _; rfl))) (nomark _)))) ?_
        show Sl.sh _ = _
        subst_vars; unfold goodEnd; rw [if_neg (of_decide_eq_false c0), if_neg (of_decide_eq_false c1), if_pos (of_decide_eq_true c2)]
      · skip
        refine sx_nil ?_
        show SX _ _ [.sh wd, .sh b, .sh x, .sh y, .sh n, .sh last_1, .un] _
        refine sx_if (Ly.pt_cmp c_eqS (px_v G 0 rfl (by decide) rfl (by trivial)) (px_str (by decide +kernel)) (nomark _)) (fun c3 => ?_) (fun c3 => ?_)
        · skip
          refine sx_ret (Ly.px_and (Ly.px_cmp (c_eqD (α := (Int × Int)) (by decide)) (px_slT4_0_2 (px_v G 1 rfl (by decide) rfl (by trivial)) (show POx _ none _ none from trivial) (show POx _ (some _) _ (some _) from (px_int (i := 2)))) (px_tup2 (pax_cons (px_v G 2 rfl (by decide) rfl (by trivial)) (pax_cons (px_add (px_v G 3 rfl (by decide) rfl (by trivial)) (px_int (i := 1))) pax_nil (by intro _; rfl)) (by intro _; rfl))) (nomark _)) fun hs4 => (px_one (Ly.px_cmp (c_eqD (α := (Int × Int)) (by decide)) (px_v G 5 rfl (by decide) rfl (by trivial)) (px_tup2 (pax_cons (px_v G 2 rfl (by decide) rfl (by trivial)) (pax_cons (px_add (px_v G 3 rfl (by decide) rfl (by trivial)) (px_v G 4 rfl (by decide) rfl (by trivial))) pax_nil (by intro _; rfl)) (by intro _; rfl))) (nomark _)))) ?_
          show Sl.sh _ = _
          subst_vars; unfold goodEnd; rw [if_neg (of_decide_eq_false c0), if_neg (of_decide_eq_false c1), if_neg (of_decide_eq_false c2), if_pos (of_decide_eq_true c3)]
        · skip
          refine sx_nil ?_
          show SX _ _ [.sh wd, .sh b, .sh x, .sh y, .sh n, .sh last_1, .un] _
          refine sx_set G 6 rfl (by decide) (px_sub (px_add (px_v G 3 rfl (by decide) rfl (by trivial)) (px_int (i := 1))) (px_mul (px_int (i := 2)) (px_intB g_int Z.int_ (by decide +kernel) (Ly.px_cmp c_eqS (px_v G 0 rfl (by decide) rfl (by trivial)) (px_str (by decide +kernel)) (nomark _))) (by walk_at "sc_mul"))) (by intro _; rfl) fun line_1 hline_1 => ?_
          show SX _ _ [.sh wd, .sh b, .sh x, .sh y, .sh n, .sh last_1, .sh line_1] _
          refine sx_ret (Ly.px_and (Ly.px_cmp c_eqI (px_fld 1 (px_v G 1 rfl (by decide) rfl (by trivial)) (px_int (i := 1)) rfl rfl (fun _ _ => rfl)) (px_v G 6 rfl (by decide) rfl (by trivial)) (nomark _)) fun hs5 => (Ly.px_and (Ly.px_cmp c_eqI (px_fld 3 (px_v G 1 rfl (by decide) rfl (by trivial)) (px_int (i := 3)) rfl rfl (fun _ _ => rfl)) (px_int (i := 1)) (nomark _)) fun hs6 => (Ly.px_and (Ly.px_cmp c_eqI (px_sub (px_v G 2 rfl (by decide) rfl (by trivial)) (px_fld 0 (px_v G 1 rfl (by decide) rfl (by trivial)) (px_int (i := 0)) rfl rfl (fun _ _ => rfl))) (px_fdiv (px_sub (px_v G 4 rfl (by decide) rfl (by trivial)) (px_int (i := 1))) (px_int (i := 2)) (by walk_at "sc_div")) (nomark _)) fun hs7 => (px_one (Ly.px_cmp (c_eqD (α := (Int × Int)) (by decide)) (px_v G 5 rfl (by decide) rfl (by trivial)) (px_tup2 (pax_cons (px_sub (px_add (px_fld 0 (px_v G 1 rfl (by decide) rfl (by trivial)) (px_int (i := 0)) rfl rfl (fun _ _ => rfl)) (px_v G 4 rfl (by decide) rfl (by trivial))) (px_int (i := 1))) (pax_cons (px_v G 6 rfl (by decide) rfl (by trivial)) pax_nil (by intro _; rfl)) (by intro _; rfl))) (nomark _)))))) ?_
          show Sl.sh _ = _
          subst_vars; unfold goodEnd; rw [if_neg (of_decide_eq_false c0), if_neg (of_decide_eq_false c1), if_neg (of_decide_eq_false c2), if_neg (of_decide_eq_false c3)]
/-! #### law -/
abbrev s_law : Stmt := top 12
theorem sc_law : FnScope ["_law_script", "_law_cell", "_law_number", "_law_way", "_law_x", "_law_y", "_law_size", "_law_box", "_law_each", "_law_cells"] ["_law_script"] (defScope s_law) := ⟨rfl, rfl, rfl, by decide +kernel, rfl, by decide +kernel, by decide +kernel⟩
theorem gd_law : gdB ["_law_script", "_law_cell", "_law_number", "_law_way", "_law_x", "_law_y", "_law_size", "_law_box", "_law_each", "_law_cells"] 10 (defScope s_law) = true := by decide +kernel
def ok_law : List Sl → Sl → Prop := fun as_ u_ => ∃ s : Scr, as_ = [.sh s] ∧ u_ = .sh (true) ∧ (s.l.length ≤ 63)
theorem fn_law {f : Addr} {fd : FuncData} (Z : Blt mg) (F : Fun K "law" "law" s_law f fd) (C_box_at : Cal P w K mg base 4 "box_at" ok_box_at) (C_cells_of : Cal P w K mg base 1 "cells_of" ok_cells_of) (C_l_ends : Cal P w K mg base 1 "_law_ends" ok_l_ends) : FnOk P w K mg base CX0 5 f fd ["_law_script"] (spT K ok_law) := by
  have g_law_ends : (defScope s_law).names.lookup ("_law_ends" : Str) = some .globalImplicit := by decide +kernel
  have g_bool : (defScope s_law).names.lookup ("bool" : Str) = some .globalImplicit := by decide +kernel
  have g_box_at : (defScope s_law).names.lookup ("box_at" : Str) = some .globalImplicit := by decide +kernel
  have g_cells_of : (defScope s_law).names.lookup ("cells_of" : Str) = some .globalImplicit := by decide +kernel
  have g_int : (defScope s_law).names.lookup ("int" : Str) = some .globalImplicit := by decide +kernel
  have g_isinstance : (defScope s_law).names.lookup ("isinstance" : Str) = some .globalImplicit := by decide +kernel
  have g_len : (defScope s_law).names.lookup ("len" : Str) = some .globalImplicit := by decide +kernel
  have g_tuple : (defScope s_law).names.lookup ("tuple" : Str) = some .globalImplicit := by decide +kernel
  refine fn_T F sc_law (fun as s h => ?_) (fun as s h => ?_)
  · obtain ⟨s, rfl, _⟩ := h; rfl
  obtain ⟨s, rfl, rfl, hpre⟩ := h
  have G : Gd ⟨P, w, K, mg, base, ["_law_script", "_law_cell", "_law_number", "_law_way", "_law_x", "_law_y", "_law_size", "_law_box", "_law_each", "_law_cells"], defScope s_law, fun _ => true, 4⟩ 10 := gd_of sc_law.nd gd_law
  show SX _ _ [.sh s, .un, .un, .un, .un, .un, .un, .un, .un, .un] _
  refine sx_forL (w := [1]) (fun i τ => τ = [.sh s, .un, .un, .un, .un, .un, .un, .un, .un, .un]) (Ly.ix_list (px_pub (px_catL (px_pub (px_slScr (px_v G 0 rfl (by decide) rfl (by trivial)) (show POx _ none _ none from trivial) (show POx _ (some _) _ (some _) from (px_int (i := 40))))) (px_pub (px_lst (α := Int) (xs := [_]) (pax_cons (px_int (i := 7)) pax_nil (by intro _; rfl)) rfl (by show 1 ≤ sizeLine; decide))) (by rw [sizeLine_eq]; have := cut_le s.l none (some 40); simp only [List.length_cons, List.length_nil]; omega)))) rfl ?_ (by intro _ _; rfl) ?_
  · rintro i x _ hx rfl
    refine ⟨_, (gx_n G 1 rfl (by decide) (by trivial)), ?_⟩
    show SX _ _ [.sh s, .sh x, .un, .un, .un, .un, .un, .un, .un, .un] _
    refine sx_set G 2 rfl (by decide) (px_mod (px_mul (px_v G 1 rfl (by decide) rfl (by trivial)) (px_int (i := 48271)) (by walk_at "sc_mul")) (px_int (i := 2147483647)) (by walk_at "sc_mod")) (by intro _; rfl) fun number_1 hnumber_1 => ?_
    show SX _ _ [.sh s, .sh x, .sh number_1, .un, .un, .un, .un, .un, .un, .un] _
    refine sx_set G 3 rfl (by decide) (px_ixL (px_pub (px_lst (α := Str) (xs := [_, _, _, _, _, _]) (pax_cons (px_str (by decide +kernel)) (pax_cons (px_str (by decide +kernel)) (pax_cons (px_str (by decide +kernel)) (pax_cons (px_str (by decide +kernel)) (pax_cons (px_str (by decide +kernel)) (pax_cons (px_str (by decide +kernel)) pax_nil (by intro _; rfl)) (by intro _; rfl)) (by intro _; rfl)) (by intro _; rfl)) (by intro _; rfl)) (by intro _; rfl)) rfl (by show 6 ≤ sizeLine; decide))) (px_mod (px_v G 2 rfl (by decide) rfl (by trivial)) (px_int (i := 6)) (by walk_at "sc_mod")) (by exact (six_at _ (by omega) (by omega)).1) (fun _ _ => rfl)) (by intro _; rfl) fun way_1 hway_1 => ?_
    show SX _ _ [.sh s, .sh x, .sh number_1, .sh way_1, .un, .un, .un, .un, .un, .un] _
    have hsix : way_1 ∈ six := by rw [hway_1]; exact (six_at _ (by omega) (by omega)).2
    refine sx_set G 4 rfl (by decide) (px_mod (px_fdiv (px_v G 2 rfl (by decide) rfl (by trivial)) (px_int (i := 6)) (by walk_at "sc_div")) (px_int (i := 20)) (by walk_at "sc_mod")) (by intro _; rfl) fun x_1 hx_1 => ?_
    show SX _ _ [.sh s, .sh x, .sh number_1, .sh way_1, .sh x_1, .un, .un, .un, .un, .un] _
    refine sx_set G 5 rfl (by decide) (px_mod (px_fdiv (px_v G 2 rfl (by decide) rfl (by trivial)) (px_int (i := 120)) (by walk_at "sc_div")) (px_int (i := 20)) (by walk_at "sc_mod")) (by intro _; rfl) fun y_1 hy_1 => ?_
    show SX _ _ [.sh s, .sh x, .sh number_1, .sh way_1, .sh x_1, .sh y_1, .un, .un, .un, .un] _
    refine sx_set G 6 rfl (by decide) (px_add (px_int (i := 1)) (px_mod (px_fdiv (px_v G 2 rfl (by decide) rfl (by trivial)) (px_int (i := 2400)) (by walk_at "sc_div")) (px_int (i := 8)) (by walk_at "sc_mod"))) (by intro _; rfl) fun size_1 hsize_1 => ?_
    show SX _ _ [.sh s, .sh x, .sh number_1, .sh way_1, .sh x_1, .sh y_1, .sh size_1, .un, .un, .un] _
    refine sx_set G 7 rfl (by decide) (px_call C_box_at (Nat.le_of_ble_eq_true rfl) g_box_at (pax_cons (px_v G 3 rfl (by decide) rfl (by trivial)) (pax_cons (px_v G 4 rfl (by decide) rfl (by trivial)) (pax_cons (px_v G 5 rfl (by decide) rfl (by trivial)) (pax_cons (px_v G 6 rfl (by decide) rfl (by trivial)) pax_nil (by intro _; rfl)) (by intro _; rfl)) (by intro _; rfl)) (by intro _; rfl)) ⟨_, _, _, _, rfl, rfl⟩ (by decide) (by intro _; rfl) (by intro _; rfl)) (by intro _; rfl) fun box_1 hbox_1 => ?_
    show SX _ _ [.sh s, .sh x, .sh number_1, .sh way_1, .sh x_1, .sh y_1, .sh size_1, .sh box_1, .un, .un] _
    refine sx_if (pt_w (Ly.pw_or (Ly.pt_not (Ly.pt_val (px_isi (T := "tuple") (c := true) g_isinstance Z.isinstance_ (by decide +kernel) g_tuple Z.tuple_ (by decide +kernel) (px_v G 7 rfl (by decide) rfl (by trivial)) (by show kitB "tuple" "tuple" = _; decide +kernel) (by decide) (by decide)) (by intro _ _; rfl))) fun hs1 => (Ly.pw_or1 (Ly.pt_cmp c_neI (px_len4 g_len Z.len_ (px_v G 7 rfl (by decide) rfl (by trivial))) (px_int (i := 4)) (nomark _))))) (fun c0 => ?_) (fun c0 => ?_)
    · skip
      refine sx_ret (px_bl (c := false)) ?_
      show Sl.sh _ = _
      exact absurd c0 (by decide)
    · skip
      refine sx_nil ?_
      show SX _ _ [.sh s, .sh x, .sh number_1, .sh way_1, .sh x_1, .sh y_1, .sh size_1, .sh box_1, .un, .un] _
      refine sx_forL (w := [8]) (fun j τ => τ = [.sh s, .sh x, .sh number_1, .sh way_1, .sh x_1, .sh y_1, .sh size_1, .sh box_1, .un, .un]) (ix_T4 (px_v G 7 rfl (by decide) rfl (by trivial))) rfl ?_ (by intro _ _; rfl) ?_
      · rintro j z _ hj rfl
        refine ⟨_, (gx_n G 8 rfl (by decide) (by trivial)), ?_⟩
        show SX _ _ [.sh s, .sh x, .sh number_1, .sh way_1, .sh x_1, .sh y_1, .sh size_1, .sh box_1, .sh z, .un] _
        refine sx_if (pt_w (Ly.pw_or (Ly.pt_not (Ly.pt_val (px_isi (T := "int") (c := true) g_isinstance Z.isinstance_ (by decide +kernel) g_int Z.int_ (by decide +kernel) (px_v G 8 rfl (by decide) rfl (by trivial)) (by show kitB "int" "int" = _; decide +kernel) (by decide) (by decide)) (by intro _ _; rfl))) fun hs2 => (Ly.pw_or1 (Ly.pt_val (px_isi (T := "bool") (c := false) g_isinstance Z.isinstance_ (by decide +kernel) g_bool Z.bool_ (by decide +kernel) (px_v G 8 rfl (by decide) rfl (by trivial)) (by show kitB "int" "bool" = _; decide +kernel) (by decide) (by decide)) (by intro _ _; rfl))))) (fun c1 => ?_) (fun c1 => ?_)
        · skip
          refine sx_ret (px_bl (c := false)) ?_
          show Sl.sh _ = _
          exact absurd c1 (by decide)
        · skip
          refine sx_nil ?_
          show SX _ _ [.sh s, .sh x, .sh number_1, .sh way_1, .sh x_1, .sh y_1, .sh size_1, .sh box_1, .sh z, .un] _
          refine sx_wk (τ' := [.sh s, .sh x, .sh number_1, .sh way_1, .sh x_1, .sh y_1, .sh size_1, .sh box_1, .un, .un]) ⟨.inr rfl, .inr rfl, .inr rfl, .inr rfl, .inr rfl, .inr rfl, .inr rfl, .inr rfl, .inl rfl, .inl rfl, trivial⟩ (sx_nil ?_)
          exact rfl
      · rintro _ rfl
        show SX _ _ [.sh s, .sh x, .sh number_1, .sh way_1, .sh x_1, .sh y_1, .sh size_1, .sh box_1, .un, .un] _
        refine sx_if (pt_w (Ly.pw_or (Ly.pt_cmp c_neI (px_mul (px_fld 2 (px_v G 7 rfl (by decide) rfl (by trivial)) (px_int (i := 2)) rfl rfl (fun _ _ => rfl)) (px_fld 3 (px_v G 7 rfl (by decide) rfl (by trivial)) (px_int (i := 3)) rfl rfl (fun _ _ => rfl)) (by rw [hbox_1]; have := box_wh (w := way_1) x_1 y_1 size_1; rcases this.2 with q | q <;> (rw [q.1, q.2]; exact .inl ⟨by omega, by omega⟩))) (px_v G 6 rfl (by decide) rfl (by trivial)) (nomark _)) fun hs3 => (Ly.pw_or1 (Ly.pt_not (Ly.pt_val (px_call C_l_ends (Nat.le_of_ble_eq_true rfl) g_law_ends (pax_cons (px_v G 3 rfl (by decide) rfl (by trivial)) (pax_cons (px_v G 7 rfl (by decide) rfl (by trivial)) (pax_cons (px_v G 4 rfl (by decide) rfl (by trivial)) (pax_cons (px_v G 5 rfl (by decide) rfl (by trivial)) (pax_cons (px_v G 6 rfl (by decide) rfl (by trivial)) pax_nil (by intro _; rfl)) (by intro _; rfl)) (by intro _; rfl)) (by intro _; rfl)) (by intro _; rfl)) ⟨_, _, _, _, _, rfl, rfl⟩ (by decide) (by intro _; rfl) (by intro _; rfl)) (by intro _ _; rfl)))))) (fun c2 => ?_) (fun c2 => ?_)
        · skip
          refine sx_ret (px_bl (c := false)) ?_
          show Sl.sh _ = _
          exact absurd c2 (by rw [hbox_1, good_end hsix]; have := (box_wh (w := way_1) x_1 y_1 size_1).1; simp [this])
        · skip
          refine sx_nil ?_
          show SX _ _ [.sh s, .sh x, .sh number_1, .sh way_1, .sh x_1, .sh y_1, .sh size_1, .sh box_1, .un, .un] _
          refine sx_setO G 9 rfl (by decide) (px_call C_cells_of (Nat.le_of_ble_eq_true rfl) g_cells_of (pax_cons (px_v G 7 rfl (by decide) rfl (by trivial)) pax_nil (by intro _; rfl)) ⟨_, rfl, rfl, by rw [hbox_1]; exact box_small (by omega) (by omega) (by omega) hsix⟩ (by decide) (by intro _; rfl) (by intro _; rfl)) (by intro _; rfl) fun cells_1 hcells_1 => ?_
          show SX _ _ [.sh s, .sh x, .sh number_1, .sh way_1, .sh x_1, .sh y_1, .sh size_1, .sh box_1, .un, .ow cells_1] _
          refine sx_if (pt_lend 9 rfl (pt_w (Ly.pw_or (Ly.pt_cmp c_neI (px_lenL g_len Z.len_ (px_v G 9 rfl (by decide) rfl (by trivial))) (px_v G 6 rfl (by decide) rfl (by trivial)) (nomark _)) fun hs4 => (Ly.pw_or1 (Ly.pt_cmp (c_inD (α := (Int × Int)) (by decide)) (px_tup2 (pax_cons (px_v G 4 rfl (by decide) rfl (by trivial)) (pax_cons (px_v G 5 rfl (by decide) rfl (by trivial)) pax_nil (by intro _; rfl)) (by intro _; rfl))) (px_v G 9 rfl (by decide) rfl (by trivial)) (by rfl)))))) (fun c3 => ?_) (fun c3 => ?_)
          · skip
            refine sx_ret (px_bl (c := false)) ?_
            show Sl.sh _ = _
            exact absurd c3 (by have h1 := cells_count (show BoxS box_1 by rw [hbox_1]; exact box_small (by omega) (by omega) (by omega) hsix); have h2 := (box_wh (w := way_1) x_1 y_1 size_1).1; have h3 := cell_out (x := x_1) (y := y_1) (n := size_1) (by omega) hsix; rw [hcells_1, h1, hbox_1, h2]; simp [h3])
          · skip
            refine sx_nil ?_
            show SX _ _ [.sh s, .sh x, .sh number_1, .sh way_1, .sh x_1, .sh y_1, .sh size_1, .sh box_1, .un, .ow cells_1] _
            refine sx_wk (τ' := [.sh s, .un, .un, .un, .un, .un, .un, .un, .un, .un]) ⟨.inr rfl, .inl rfl, .inl rfl, .inl rfl, .inl rfl, .inl rfl, .inl rfl, .inl rfl, .inl rfl, .inl rfl, trivial⟩ (sx_nil ?_)
            exact rfl
  · rintro _ rfl
    show SX _ _ [.sh s, .un, .un, .un, .un, .un, .un, .un, .un, .un] _
    refine sx_ret (px_bl (c := true)) ?_
    show Sl.sh _ = _
    rfl
end
theorem all_mk {l : PySem.W.OpenLaw} {w : World} {K : PySem.W.Frag} {h : Heap} {mg : Str → Option Value} {fa f0 f1 f2 f3 f4 f5 f6 f7 f8 f9 f10 A_Left A_Level A_Right A_Upright : Addr} (X : K.In h) (GN : h.Ns mainGlobals mg) (hfa : mg "law" = some (.ref fa))
    {od0 an0 od1 an1 od2 an2 od3 an3 od4 an4 od5 an5 od6 an6 od7 an7 od8 an8 od9 an9 od10 an10 : Option Addr} {sl0 sl1 sl2 sl3 sl4 sl5 sl6 sl7 sl8 sl9 sl10 : Array (Option Value)}
    {oc0 kV0 dc0 pm0 cd0 ct0 oc1 kV1 dc1 pm1 cd1 ct1 oc2 kV2 dc2 pm2 cd2 ct2 oc3 kV3 dc3 pm3 cd3 ct3 oc4 kV4 dc4 pm4 cd4 ct4 oc5 kV5 dc5 pm5 cd5 ct5 oc6 kV6 dc6 pm6 cd6 ct6 oc7 kV7 dc7 pm7 cd7 ct7 oc8 kV8 dc8 pm8 cd8 ct8 oc9 kV9 dc9 pm9 cd9 ct9 oc10 kV10 dc10 pm10 cd10 ct10 : Value}
    (aC_Left : PySem.W.nsIn K mainGlobals "Left" = some (some (.ref A_Left)))
    (pg_Left : PySem.W.plainGet K A_Left Str.empty = true)
    (hd_Left : PySem.W.hasDictIn K A_Left = true)
    (po_Left : PySem.W.plainOver K A_Left = true)
    (sa_Left : PySem.W.findIn K (.ref A_Left) "__setattr__" = some (some (.builtin "object.__setattr__")))
    (mk_Left : PySem.W.makesIn K A_Left = true)
    (kc_Left : PySem.W.keepIn K (.ref A_Left) = true)
    (in_Left : PySem.W.findIn K (.ref A_Left) "__init__" = some (some (.builtin "object.__init__")))
    (aC_Level : PySem.W.nsIn K mainGlobals "Level" = some (some (.ref A_Level)))
    (pg_Level : PySem.W.plainGet K A_Level Str.empty = true)
    (hd_Level : PySem.W.hasDictIn K A_Level = true)
    (po_Level : PySem.W.plainOver K A_Level = true)
    (sa_Level : PySem.W.findIn K (.ref A_Level) "__setattr__" = some (some (.builtin "object.__setattr__")))
    (mk_Level : PySem.W.makesIn K A_Level = true)
    (kc_Level : PySem.W.keepIn K (.ref A_Level) = true)
    (aC_Right : PySem.W.nsIn K mainGlobals "Right" = some (some (.ref A_Right)))
    (pg_Right : PySem.W.plainGet K A_Right Str.empty = true)
    (hd_Right : PySem.W.hasDictIn K A_Right = true)
    (po_Right : PySem.W.plainOver K A_Right = true)
    (sa_Right : PySem.W.findIn K (.ref A_Right) "__setattr__" = some (some (.builtin "object.__setattr__")))
    (mk_Right : PySem.W.makesIn K A_Right = true)
    (kc_Right : PySem.W.keepIn K (.ref A_Right) = true)
    (in_Right : PySem.W.findIn K (.ref A_Right) "__init__" = some (some (.builtin "object.__init__")))
    (aC_Upright : PySem.W.nsIn K mainGlobals "Upright" = some (some (.ref A_Upright)))
    (pg_Upright : PySem.W.plainGet K A_Upright Str.empty = true)
    (hd_Upright : PySem.W.hasDictIn K A_Upright = true)
    (po_Upright : PySem.W.plainOver K A_Upright = true)
    (sa_Upright : PySem.W.findIn K (.ref A_Upright) "__setattr__" = some (some (.builtin "object.__setattr__")))
    (mk_Upright : PySem.W.makesIn K A_Upright = true)
    (kc_Upright : PySem.W.keepIn K (.ref A_Upright) = true)
    (na_Level_step : PySem.W.findIn K (.ref A_Level) "step" = some none)
    (na_Upright_ends : PySem.W.findIn K (.ref A_Upright) "ends" = some none)
    (a0 : PySem.W.findIn K (.ref A_Right) "box" = some (some (.ref f0))) (i0 : PySem.W.isFn K (.ref f0) = true)
    (l0 : K.lookup f0 = some ⟨oc0, od0, .func (PySem.W.fnOf "box" "Right.box" (defArgs s_Right_box) (defBody s_Right_box) (defScope s_Right_box) .none kV0 dc0 pm0 an0 cd0 ct0), sl0⟩) (c0 : PySem.W.codeIn K cd0 "Right.box" = true) (k0 : PySem.W.keepIn K (.ref f0) = true)
    (a1 : PySem.W.findIn K (.ref A_Left) "box" = some (some (.ref f1))) (i1 : PySem.W.isFn K (.ref f1) = true)
    (l1 : K.lookup f1 = some ⟨oc1, od1, .func (PySem.W.fnOf "box" "Left.box" (defArgs s_Left_box) (defBody s_Left_box) (defScope s_Left_box) .none kV1 dc1 pm1 an1 cd1 ct1), sl1⟩) (c1 : PySem.W.codeIn K cd1 "Left.box" = true) (k1 : PySem.W.keepIn K (.ref f1) = true)
    (a2 : PySem.W.findIn K (.ref A_Level) "__init__" = some (some (.ref f2))) (i2 : PySem.W.isFn K (.ref f2) = true)
    (l2 : K.lookup f2 = some ⟨oc2, od2, .func (PySem.W.fnOf "__init__" "Level.__init__" (defArgs s_Level___init__) (defBody s_Level___init__) (defScope s_Level___init__) .none kV2 dc2 pm2 an2 cd2 ct2), sl2⟩) (c2 : PySem.W.codeIn K cd2 "Level.__init__" = true) (k2 : PySem.W.keepIn K (.ref f2) = true)
    (a3 : PySem.W.findIn K (.ref A_Level) "box" = some (some (.ref f3))) (i3 : PySem.W.isFn K (.ref f3) = true)
    (l3 : K.lookup f3 = some ⟨oc3, od3, .func (PySem.W.fnOf "box" "Level.box" (defArgs s_Level_box) (defBody s_Level_box) (defScope s_Level_box) .none kV3 dc3 pm3 an3 cd3 ct3), sl3⟩) (c3 : PySem.W.codeIn K cd3 "Level.box" = true) (k3 : PySem.W.keepIn K (.ref f3) = true)
    (a4 : PySem.W.findIn K (.ref A_Upright) "__init__" = some (some (.ref f4))) (i4 : PySem.W.isFn K (.ref f4) = true)
    (l4 : K.lookup f4 = some ⟨oc4, od4, .func (PySem.W.fnOf "__init__" "Upright.__init__" (defArgs s_Upright___init__) (defBody s_Upright___init__) (defScope s_Upright___init__) .none kV4 dc4 pm4 an4 cd4 ct4), sl4⟩) (c4 : PySem.W.codeIn K cd4 "Upright.__init__" = true) (k4 : PySem.W.keepIn K (.ref f4) = true)
    (a5 : PySem.W.findIn K (.ref A_Upright) "box" = some (some (.ref f5))) (i5 : PySem.W.isFn K (.ref f5) = true)
    (l5 : K.lookup f5 = some ⟨oc5, od5, .func (PySem.W.fnOf "box" "Upright.box" (defArgs s_Upright_box) (defBody s_Upright_box) (defScope s_Upright_box) .none kV5 dc5 pm5 an5 cd5 ct5), sl5⟩) (c5 : PySem.W.codeIn K cd5 "Upright.box" = true) (k5 : PySem.W.keepIn K (.ref f5) = true)
    (a6 : PySem.W.nsIn K mainGlobals "way_of" = some (some (.ref f6)))
    (l6 : K.lookup f6 = some ⟨oc6, od6, .func (PySem.W.fnOf "way_of" "way_of" (defArgs s_way_of) (defBody s_way_of) (defScope s_way_of) .none kV6 dc6 pm6 an6 cd6 ct6), sl6⟩) (c6 : PySem.W.codeIn K cd6 "way_of" = true) (k6 : PySem.W.keepIn K (.ref f6) = true)
    (a7 : PySem.W.nsIn K mainGlobals "box_at" = some (some (.ref f7)))
    (l7 : K.lookup f7 = some ⟨oc7, od7, .func (PySem.W.fnOf "box_at" "box_at" (defArgs s_box_at) (defBody s_box_at) (defScope s_box_at) .none kV7 dc7 pm7 an7 cd7 ct7), sl7⟩) (c7 : PySem.W.codeIn K cd7 "box_at" = true) (k7 : PySem.W.keepIn K (.ref f7) = true)
    (a8 : PySem.W.nsIn K mainGlobals "cells_of" = some (some (.ref f8)))
    (l8 : K.lookup f8 = some ⟨oc8, od8, .func (PySem.W.fnOf "cells_of" "cells_of" (defArgs s_cells_of) (defBody s_cells_of) (defScope s_cells_of) .none kV8 dc8 pm8 an8 cd8 ct8), sl8⟩) (c8 : PySem.W.codeIn K cd8 "cells_of" = true) (k8 : PySem.W.keepIn K (.ref f8) = true)
    (a9 : PySem.W.nsIn K mainGlobals "_law_ends" = some (some (.ref f9)))
    (l9 : K.lookup f9 = some ⟨oc9, od9, .func (PySem.W.fnOf "_law_ends" "_law_ends" (defArgs s_l_ends) (defBody s_l_ends) (defScope s_l_ends) .none kV9 dc9 pm9 an9 cd9 ct9), sl9⟩) (c9 : PySem.W.codeIn K cd9 "_law_ends" = true) (k9 : PySem.W.keepIn K (.ref f9) = true)
    (a10 : PySem.W.nsIn K mainGlobals "law" = some (some (.ref f10)))
    (l10 : K.lookup f10 = some ⟨oc10, od10, .func (PySem.W.fnOf "law" "law" (defArgs s_law) (defBody s_law) (defScope s_law) .none kV10 dc10 pm10 an10 cd10 ct10), sl10⟩) (c10 : PySem.W.codeIn K cd10 "law" = true) (k10 : PySem.W.keepIn K (.ref f10) = true)
    (z_range : PySem.W.nsIn K mainGlobals "range" = some none)
    (z_len : PySem.W.nsIn K mainGlobals "len" = some none)
    (z_isinstance : PySem.W.nsIn K mainGlobals "isinstance" = some none)
    (z_int : PySem.W.nsIn K mainGlobals "int" = some none)
    (z_bool : PySem.W.nsIn K mainGlobals "bool" = some none)
    (z_tuple : PySem.W.nsIn K mainGlobals "tuple" = some none)
    : ∃ fd : FuncData, (∀ (s : Shared) (v : Value), BindsTo s fd ⟨[v], []⟩ [("_law_script", v)]) ∧ ∀ base : Heap, K.In base → base.Ns mainGlobals mg → FnOk l.prog w K mg base CX0 5 fa fd ["_law_script"] (spT K ok_law) := by
  have e := hfa.symm.trans (PySem.W.mg_of X GN a10)
  cases e
  have Z : Blt mg := ⟨PySem.W.mg_none_of X GN z_range, PySem.W.mg_none_of X GN z_len, PySem.W.mg_none_of X GN z_isinstance, PySem.W.mg_none_of X GN z_int, PySem.W.mg_none_of X GN z_bool, PySem.W.mg_none_of X GN z_tuple⟩
  have K_Left : CF K mg "Left" A_Left := ⟨⟨pg_Left, hd_Left, po_Left, sa_Left⟩, aC_Left, PySem.W.mg_of X GN aC_Left, mk_Left, kc_Left⟩
  have N_Left : CalN0 K mg "Left" := ⟨A_Left, K_Left, in_Left⟩
  have K_Level : CF K mg "Level" A_Level := ⟨⟨pg_Level, hd_Level, po_Level, sa_Level⟩, aC_Level, PySem.W.mg_of X GN aC_Level, mk_Level, kc_Level⟩
  have K_Right : CF K mg "Right" A_Right := ⟨⟨pg_Right, hd_Right, po_Right, sa_Right⟩, aC_Right, PySem.W.mg_of X GN aC_Right, mk_Right, kc_Right⟩
  have N_Right : CalN0 K mg "Right" := ⟨A_Right, K_Right, in_Right⟩
  have K_Upright : CF K mg "Upright" A_Upright := ⟨⟨pg_Upright, hd_Upright, po_Upright, sa_Upright⟩, aC_Upright, PySem.W.mg_of X GN aC_Upright, mk_Upright, kc_Upright⟩
  have n_Level_step : NoAttr K A_Level "step" := na_Level_step
  have n_Upright_ends : NoAttr K A_Upright "ends" := na_Upright_ends
  have F0 := fun_mk (st := s_Right_box) l0 c0 k0
  have b0 := F0.binds (ps := ["self", "x", "y", "size"]) fun _ _ _ _ _ _ us hl => match us, hl with | [_, _, _, _], _ => rfl
  have F1 := fun_mk (st := s_Left_box) l1 c1 k1
  have b1 := F1.binds (ps := ["self", "x", "y", "size"]) fun _ _ _ _ _ _ us hl => match us, hl with | [_, _, _, _], _ => rfl
  have F2 := fun_mk (st := s_Level___init__) l2 c2 k2
  have b2 := F2.binds (ps := ["self", "step"]) fun _ _ _ _ _ _ us hl => match us, hl with | [_, _], _ => rfl
  have F3 := fun_mk (st := s_Level_box) l3 c3 k3
  have b3 := F3.binds (ps := ["self", "x", "y", "size"]) fun _ _ _ _ _ _ us hl => match us, hl with | [_, _, _, _], _ => rfl
  have F4 := fun_mk (st := s_Upright___init__) l4 c4 k4
  have b4 := F4.binds (ps := ["self", "ends"]) fun _ _ _ _ _ _ us hl => match us, hl with | [_, _], _ => rfl
  have F5 := fun_mk (st := s_Upright_box) l5 c5 k5
  have b5 := F5.binds (ps := ["self", "x", "y", "size"]) fun _ _ _ _ _ _ us hl => match us, hl with | [_, _, _, _], _ => rfl
  have F6 := fun_mk (st := s_way_of) l6 c6 k6
  have b6 := F6.binds (ps := ["word"]) fun _ _ _ _ _ _ us hl => match us, hl with | [_], _ => rfl
  have F7 := fun_mk (st := s_box_at) l7 c7 k7
  have b7 := F7.binds (ps := ["way", "x", "y", "size"]) fun _ _ _ _ _ _ us hl => match us, hl with | [_, _, _, _], _ => rfl
  have F8 := fun_mk (st := s_cells_of) l8 c8 k8
  have b8 := F8.binds (ps := ["box"]) fun _ _ _ _ _ _ us hl => match us, hl with | [_], _ => rfl
  have F9 := fun_mk (st := s_l_ends) l9 c9 k9
  have b9 := F9.binds (ps := ["_law_way", "_law_box", "_law_x", "_law_y", "_law_size"]) fun _ _ _ _ _ _ us hl => match us, hl with | [_, _, _, _, _], _ => rfl
  have F10 := fun_mk (st := s_law) l10 c10 k10
  refine ⟨PySem.W.fnOf "law" "law" (defArgs s_law) (defBody s_law) (defScope s_law) .none kV10 dc10 pm10 an10 cd10 ct10, fun s v => .of_eq rfl, fun base _ _ => ?_⟩
  have M_Right_box : Calm l.prog w K mg base 1 A_Right "box" ok_Right_box := ⟨f0, _, _, fn_Right_box Z F0 , ⟨a0, i0, k0⟩, b0⟩
  have M_Left_box : Calm l.prog w K mg base 1 A_Left "box" ok_Left_box := ⟨f1, _, _, fn_Left_box Z F1 , ⟨a1, i1, k1⟩, b1⟩
  have N_Level : CalN1 l.prog w K mg base 1 "Level" "step" := ⟨A_Level, f2, _, _, K_Level, a2, i2, fn_init1 F2 sc_Level___init__ K_Level.cls n_Level_step rfl (by decide) (by decide) (by decide) (by decide) (by intro _; rfl), b2⟩
  have M_Level_box : Calm l.prog w K mg base 1 A_Level "box" ok_Level_box := ⟨f3, _, _, fn_Level_box Z F3 K_Level n_Level_step, ⟨a3, i3, k3⟩, b3⟩
  have N_Upright : CalN1 l.prog w K mg base 1 "Upright" "ends" := ⟨A_Upright, f4, _, _, K_Upright, a4, i4, fn_init1 F4 sc_Upright___init__ K_Upright.cls n_Upright_ends rfl (by decide) (by decide) (by decide) (by decide) (by intro _; rfl), b4⟩
  have M_Upright_box : Calm l.prog w K mg base 1 A_Upright "box" ok_Upright_box := ⟨f5, _, _, fn_Upright_box Z F5 K_Upright n_Upright_ends, ⟨a5, i5, k5⟩, b5⟩
  have C_way_of : Cal l.prog w K mg base 3 "way_of" ok_way_of := ⟨f6, _, _, fn_way_of Z F6 N_Left N_Level N_Right N_Upright, PySem.W.mg_of X GN a6, k6, b6⟩
  have C_box_at : Cal l.prog w K mg base 4 "box_at" ok_box_at := ⟨f7, _, _, fn_box_at Z F7 K_Left K_Level K_Right K_Upright M_Left_box M_Level_box M_Right_box M_Upright_box C_way_of, PySem.W.mg_of X GN a7, k7, b7⟩
  have C_cells_of : Cal l.prog w K mg base 1 "cells_of" ok_cells_of := ⟨f8, _, _, fn_cells_of Z F8 , PySem.W.mg_of X GN a8, k8, b8⟩
  have C_l_ends : Cal l.prog w K mg base 1 "_law_ends" ok_l_ends := ⟨f9, _, _, fn_l_ends Z F9 , PySem.W.mg_of X GN a9, k9, b9⟩
  exact fn_law (P := l.prog) (w := w) (base := base) Z F10 C_box_at C_cells_of C_l_ends
theorem law_sp {K : PySem.W.Frag} {H : Hp} {a : Addr} {ns : List Int} (hS : SqL K H a (ns.map V.int)) (hl : ns.length ≤ 63) : spT K ok_law [.ref a] H (fun v _ => v = .bl true) fun _ _ _ => False :=
  ⟨H, [.sh (Scr.mk ns)], .sh true, Same.refl H, .cons ⟨a, rfl, hS⟩ .nil, ⟨⟨ns⟩, rfl, rfl, hl⟩, fun _ _ _ _ h => h⟩
end My
open PySem PySem.W PyProof.Rows
set_option maxRecDepth 100000 in
set_option maxHeartbeats 0 in
theorem PySem.Challenge.cw_labelplace_k06_ways_holds : PySem.Challenge.rw_labelplace_k06_ways.Holds := by
  w_on; o_law; k_head; (case hw => w_witness2)
  k_fill
  refine L2.walk_ofK (l := PySem.Challenge.rw_labelplace_k06_ways) (n := 63) (k := 5) (x := "_law_script") (CX := L2.CX0) (sp := fun K => Ly.spT K My.ok_law) rfl (by decide) rfl ⟨rfl, by decide, by decide⟩ (fun w h Y => PySem.W.kIn_of Y) ?F (fun _ H a ns hl _ hS => My.law_sp hS hl) (fun _ _ _ _ h => h)
  case F =>
    intro w mg fa h KX G hmg
    refine' My.all_mk KX G hmg ?aC_Left ?pg_Left ?hd_Left ?po_Left ?sa_Left ?mk_Left ?kc_Left ?in_Left ?aC_Level ?pg_Level ?hd_Level ?po_Level ?sa_Level ?mk_Level ?kc_Level ?aC_Right ?pg_Right ?hd_Right ?po_Right ?sa_Right ?mk_Right ?kc_Right ?in_Right ?aC_Upright ?pg_Upright ?hd_Upright ?po_Upright ?sa_Upright ?mk_Upright ?kc_Upright ?na_Level_step ?na_Upright_ends ?a0 ?i0 ?l0 ?c0 ?k0 ?a1 ?i1 ?l1 ?c1 ?k1 ?a2 ?i2 ?l2 ?c2 ?k2 ?a3 ?i3 ?l3 ?c3 ?k3 ?a4 ?i4 ?l4 ?c4 ?k4 ?a5 ?i5 ?l5 ?c5 ?k5 ?a6 ?l6 ?c6 ?k6 ?a7 ?l7 ?c7 ?k7 ?a8 ?l8 ?c8 ?k8 ?a9 ?l9 ?c9 ?k9 ?a10 ?l10 ?c10 ?k10 ?z_range ?z_len ?z_isinstance ?z_int ?z_bool ?z_tuple
    (case aC_Left => k_is)
    (case pg_Left => k_is)
    (case hd_Left => k_is)
    (case po_Left => k_is)
    (case sa_Left => k_is)
    (case mk_Left => k_is)
    (case kc_Left => k_is)
    (case in_Left => k_is)
    (case aC_Level => k_is)
    (case pg_Level => k_is)
    (case hd_Level => k_is)
    (case po_Level => k_is)
    (case sa_Level => k_is)
    (case mk_Level => k_is)
    (case kc_Level => k_is)
    (case aC_Right => k_is)
    (case pg_Right => k_is)
    (case hd_Right => k_is)
    (case po_Right => k_is)
    (case sa_Right => k_is)
    (case mk_Right => k_is)
    (case kc_Right => k_is)
    (case in_Right => k_is)
    (case aC_Upright => k_is)
    (case pg_Upright => k_is)
    (case hd_Upright => k_is)
    (case po_Upright => k_is)
    (case sa_Upright => k_is)
    (case mk_Upright => k_is)
    (case kc_Upright => k_is)
    (case na_Level_step => k_is)
    (case na_Upright_ends => k_is)
    (case a0 => k_is)
    (case i0 => k_is)
    (case l0 => k_is)
    (case c0 => k_is)
    (case k0 => k_is)
    (case a1 => k_is)
    (case i1 => k_is)
    (case l1 => k_is)
    (case c1 => k_is)
    (case k1 => k_is)
    (case a2 => k_is)
    (case i2 => k_is)
    (case l2 => k_is)
    (case c2 => k_is)
    (case k2 => k_is)
    (case a3 => k_is)
    (case i3 => k_is)
    (case l3 => k_is)
    (case c3 => k_is)
    (case k3 => k_is)
    (case a4 => k_is)
    (case i4 => k_is)
    (case l4 => k_is)
    (case c4 => k_is)
    (case k4 => k_is)
    (case a5 => k_is)
    (case i5 => k_is)
    (case l5 => k_is)
    (case c5 => k_is)
    (case k5 => k_is)
    (case a6 => k_is)
    (case l6 => k_is)
    (case c6 => k_is)
    (case k6 => k_is)
    (case a7 => k_is)
    (case l7 => k_is)
    (case c7 => k_is)
    (case k7 => k_is)
    (case a8 => k_is)
    (case l8 => k_is)
    (case c8 => k_is)
    (case k8 => k_is)
    (case a9 => k_is)
    (case l9 => k_is)
    (case c9 => k_is)
    (case k9 => k_is)
    (case a10 => k_is)
    (case l10 => k_is)
    (case c10 => k_is)
    (case k10 => k_is)
    (case z_range => k_is)
    (case z_len => k_is)
    (case z_isinstance => k_is)
    (case z_int => k_is)
    (case z_bool => k_is)
    (case z_tuple => k_is)
