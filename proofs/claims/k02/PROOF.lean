import PyProof.Rows.All
import Wide.All
import OpenK.AllK
import Wide.FinOn
import HandS.ForMost
import HandS.ForExc
import HandS.CallSlots
import HandS.Wide
import HandS.IsInst
import HandS.Deep
import HandS.Style
import HandS.More
import HandS.TupAny
import HandS.TupLe
import HandS.SortInts
import HandS.EndBits
import PySem.Challenge.RW_cornerworld_k02_conflict_certificates_ex
set_option Elab.async false
set_option linter.all false
set_option maxRecDepth 100000
/-! T1: data as trees over the hand layer's abstract heap -/
namespace TL
open PySem PySem.Spec PyProof.Rows L2

inductive D where
  | non | bl (b : Bool) | int (i : Int) | str (x : Str)
  | tup (xs : List D) | lst (o : Bool) (xs : List D) | dct (o t : Bool) (kvs : List (D × D))
  | ins (o : Bool) (C : Addr) (fs : List (Str × D))
  | kl (xs : List D)
  | kt (xs : List D)

inductive R (α : Type) where
  | ok (a : α) | exc (C : Addr) (fs : List (Str × D)) | stuck
def R.bind {α β : Type} : R α → (α → R β) → R β
  | .ok a, f => f a
  | .exc C fs, _ => .exc C fs
  | .stuck, _ => .stuck
@[simp] theorem R.bind_ok {α β : Type} (a : α) (f : α → R β) : (R.ok a).bind f = f a := rfl
@[simp] theorem R.bind_exc {α β : Type} (C : Addr) (fs) (f : α → R β) : (R.exc C fs : R α).bind f = .exc C fs := rfl
@[simp] theorem R.bind_stuck {α β : Type} (f : α → R β) : (R.stuck : R α).bind f = .stuck := rfl
abbrev En := List (Option D)

mutual
def D.frz : D → D
  | .non => .non
  | .bl b => .bl b
  | .int i => .int i
  | .str x => .str x
  | .tup xs => .tup (frzL xs)
  | .lst _ xs => .lst false (frzL xs)
  | .dct _ t kvs => .dct false t (frzK kvs)
  | .ins _ C fs => .ins false C (frzF fs)
  | .kl xs => .kl (frzL xs)
  | .kt xs => .kt (frzL xs)
def frzL : List D → List D
  | [] => []
  | d :: r => d.frz :: frzL r
def frzK : List (D × D) → List (D × D)
  | [] => []
  | (k, d) :: r => (k, d.frz) :: frzK r
def frzF : List (Str × D) → List (Str × D)
  | [] => []
  | (k, d) :: r => (k, d.frz) :: frzF r
end
mutual
/-- no frozen mutable part -/
def D.clean : D → Bool
  | .tup xs => cleanL xs
  | .lst o xs => o && cleanL xs
  | .dct o _ kvs => o && cleanK kvs
  | .ins o _ fs => o && cleanF fs
  | .kl _ => false
  | .kt xs => cleanL xs
  | _ => true
def cleanL : List D → Bool
  | [] => true
  | d :: r => d.clean && cleanL r
def cleanK : List (D × D) → Bool
  | [] => true
  | (_, d) :: r => d.clean && cleanK r
def cleanF : List (Str × D) → Bool
  | [] => true
  | (_, d) :: r => d.clean && cleanF r
end

def kD : Key → D
  | .inl i => .int i
  | .inr x => .str x
def ktD (ks : List Key) : D := .tup (ks.map kD)

def KLs (K : PySem.W.Frag) (a : Addr) (xs : List V) : Prop :=
  ∃ (o : Obj) (its : Array Value) (n : Nat), K.lookup a = some o ∧ o.cls = .type "list" ∧ o.dict = none ∧ o.data = .seq its n ∧ its.size ≤ sizeLine ∧ Vals xs its.toList
def KTp (K : PySem.W.Frag) (a : Addr) (xs : List V) : Prop :=
  ∃ (o : Obj) (its : Array Value) (n : Nat), K.lookup a = some o ∧ o.cls = .type "tuple" ∧ o.data = .seq its n ∧ its.size ≤ sizeLine ∧ Vals xs its.toList

mutual
inductive RepD (K : PySem.W.Frag) (O : Addr → Prop) (H : Hp) : D → V → List Addr → Prop
  | non : RepD K O H .non .non []
  | bl (b : Bool) : RepD K O H (.bl b) (.bl b) []
  | int (i : Int) : RepD K O H (.int i) (.int i) []
  | str (x : Str) : RepD K O H (.str x) (.str x) []
  | tup {a : Addr} {vs : List V} {xs : List D} {os : List Addr} (h : H a = some (.tup vs)) (r : RepL K O H xs vs os) : RepD K O H (.tup xs) (.ref a) os
  | kt {a : Addr} {vs : List V} {xs : List D} (h : KTp K a vs) (r : RepL K O H xs vs []) : RepD K O H (.kt xs) (.ref a) []
  | lstF {a : Addr} {vs : List V} {xs : List D} (h : Rd H a (.lst vs)) (n : ¬ O a) (r : RepL K O H xs vs []) : RepD K O H (.lst false xs) (.ref a) []
  | kl {a : Addr} {vs : List V} {xs : List D} (h : (Rd H a (.lst vs) ∧ ¬ O a) ∨ KLs K a vs) (r : RepL K O H xs vs []) : RepD K O H (.kl xs) (.ref a) []
  | lstO {a : Addr} {vs : List V} {xs : List D} {os : List Addr} (h : H a = some (.lst vs)) (r : RepL K O H xs vs os) : RepD K O H (.lst true xs) (.ref a) (a :: os)
  | dkF {a : Addr} {kvs : List (Key × V)} {xs : List (D × D)} (h : H a = some (.dK kvs)) (n : ¬ O a) (r : RepK K O H xs kvs []) : RepD K O H (.dct false false xs) (.ref a) []
  | dkO {a : Addr} {kvs : List (Key × V)} {xs : List (D × D)} {os : List Addr} (h : H a = some (.dK kvs)) (r : RepK K O H xs kvs os) : RepD K O H (.dct true false xs) (.ref a) (a :: os)
  | dtF {a : Addr} {kvs : List (List Key × V)} {xs : List (D × D)} (h : H a = some (.dT kvs)) (n : ¬ O a) (r : RepT K O H xs kvs []) : RepD K O H (.dct false true xs) (.ref a) []
  | dtO {a : Addr} {kvs : List (List Key × V)} {xs : List (D × D)} {os : List Addr} (h : H a = some (.dT kvs)) (r : RepT K O H xs kvs os) : RepD K O H (.dct true true xs) (.ref a) (a :: os)
  | insF {a C dx : Addr} {vs : List (Str × V)} {fs : List (Str × D)} (h : H a = some (.ins C dx vs)) (n : ¬ O a) (r : RepF K O H fs vs []) : RepD K O H (.ins false C fs) (.ref a) []
  | insO {a C dx : Addr} {vs : List (Str × V)} {fs : List (Str × D)} {os : List Addr} (h : H a = some (.ins C dx vs)) (r : RepF K O H fs vs os) : RepD K O H (.ins true C fs) (.ref a) (a :: os)
inductive RepL (K : PySem.W.Frag) (O : Addr → Prop) (H : Hp) : List D → List V → List Addr → Prop
  | nil : RepL K O H [] [] []
  | cons {d : D} {v : V} {ds : List D} {vs : List V} {o1 o2 : List Addr} (h : RepD K O H d v o1) (r : RepL K O H ds vs o2) : RepL K O H (d :: ds) (v :: vs) (o1 ++ o2)
inductive RepK (K : PySem.W.Frag) (O : Addr → Prop) (H : Hp) : List (D × D) → List (Key × V) → List Addr → Prop
  | nil : RepK K O H [] [] []
  | cons {k : Key} {d : D} {v : V} {ds : List (D × D)} {vs : List (Key × V)} {o1 o2 : List Addr} (h : RepD K O H d v o1) (r : RepK K O H ds vs o2) : RepK K O H ((kD k, d) :: ds) ((k, v) :: vs) (o1 ++ o2)
inductive RepT (K : PySem.W.Frag) (O : Addr → Prop) (H : Hp) : List (D × D) → List (List Key × V) → List Addr → Prop
  | nil : RepT K O H [] [] []
  | cons {k : List Key} {d : D} {v : V} {ds : List (D × D)} {vs : List (List Key × V)} {o1 o2 : List Addr} (h : RepD K O H d v o1) (r : RepT K O H ds vs o2) : RepT K O H ((ktD k, d) :: ds) ((k, v) :: vs) (o1 ++ o2)
inductive RepF (K : PySem.W.Frag) (O : Addr → Prop) (H : Hp) : List (Str × D) → List (Str × V) → List Addr → Prop
  | nil : RepF K O H [] [] []
  | cons {k : Str} {d : D} {v : V} {ds : List (Str × D)} {vs : List (Str × V)} {o1 o2 : List Addr} (h : RepD K O H d v o1) (r : RepF K O H ds vs o2) : RepF K O H ((k, d) :: ds) ((k, v) :: vs) (o1 ++ o2)
end

section
variable {K : PySem.W.Frag} {O O' : Addr → Prop} {H H' : Hp}
/-- what a tree leans on: its own parts, frozen parts, tuples -/
def Kept (O : Addr → Prop) (H H' : Hp) (os : List Addr) : Prop := ∀ a o, H a = some o → (a ∈ os ∨ ¬ O a ∨ ∃ xs, o = .tup xs) → H' a = some o
theorem Kept.left {o1 o2 : List Addr} (k : Kept O H H' (o1 ++ o2)) : Kept O H H' o1 := fun a o e h => k a o e (h.elim (fun z => .inl (List.mem_append_left _ z)) .inr)
theorem Kept.right {o1 o2 : List Addr} (k : Kept O H H' (o1 ++ o2)) : Kept O H H' o2 := fun a o e h => k a o e (h.elim (fun z => .inl (List.mem_append_right _ z)) .inr)
theorem Kept.tail {a : Addr} {o2 : List Addr} (k : Kept O H H' (a :: o2)) : Kept O H H' o2 := fun b o e h => k b o e (h.elim (fun z => .inl (List.mem_cons_of_mem _ z)) .inr)
theorem Kept.rd {a : Addr} {u : HO} (k : Kept O H H' []) (n : ¬ O a) (h : Rd H a u) : Rd H' a u := by
  rcases h with h | ⟨o, h⟩
  · exact .inl (k a _ h (.inr (.inl n)))
  · exact .inr ⟨o, k a _ h (.inr (.inl n))⟩
theorem Kept.of_same (e : Same H H') (os : List Addr) : Kept O H H' os := fun a o h _ => e a o h
theorem rd_there {H : Hp} {a : Addr} {u : HO} (h : Rd H a u) : ∃ o, H a = some o := by
  rcases h with h | ⟨o, h⟩
  · exact ⟨_, h⟩
  · exact ⟨_, h⟩
mutual
theorem RepD.keep (hO : ∀ a o, H a = some o → O' a → O a) : ∀ {d : D} {v : V} {os : List Addr}, RepD K O H d v os → Kept O H H' os → RepD K O' H' d v os
  | _, _, _, .non, _ => .non
  | _, _, _, .bl b, _ => .bl b
  | _, _, _, .int b, _ => .int b
  | _, _, _, .str b, _ => .str b
  | _, _, _, .tup h r, k => .tup (k _ _ h (.inr (.inr ⟨_, rfl⟩))) (RepL.keep hO r k)
  | _, _, _, .kt h r, k => .kt h (RepL.keep hO r k)
  | _, _, _, .lstF h n r, k => .lstF (k.rd n h) (fun z => by
      obtain ⟨o, q⟩ := rd_there h
      exact n (hO _ _ q z)) (RepL.keep hO r k)
  | _, _, _, .kl h r, k => .kl (h.imp (fun e => ⟨k.rd e.2 e.1, fun z => by
      obtain ⟨o, q⟩ := rd_there e.1
      exact e.2 (hO _ _ q z)⟩) id) (RepL.keep hO r k)
  | _, _, _, .lstO h r, k => .lstO (k _ _ h (.inl List.mem_cons_self)) (RepL.keep hO r k.tail)
  | _, _, _, .dkF h n r, k => .dkF (k _ _ h (.inr (.inl n))) (fun z => n (hO _ _ h z)) (RepK.keep hO r k)
  | _, _, _, .dkO h r, k => .dkO (k _ _ h (.inl List.mem_cons_self)) (RepK.keep hO r k.tail)
  | _, _, _, .dtF h n r, k => .dtF (k _ _ h (.inr (.inl n))) (fun z => n (hO _ _ h z)) (RepT.keep hO r k)
  | _, _, _, .dtO h r, k => .dtO (k _ _ h (.inl List.mem_cons_self)) (RepT.keep hO r k.tail)
  | _, _, _, .insF h n r, k => .insF (k _ _ h (.inr (.inl n))) (fun z => n (hO _ _ h z)) (RepF.keep hO r k)
  | _, _, _, .insO h r, k => .insO (k _ _ h (.inl List.mem_cons_self)) (RepF.keep hO r k.tail)
theorem RepL.keep (hO : ∀ a o, H a = some o → O' a → O a) : ∀ {d : List D} {v : List V} {os : List Addr}, RepL K O H d v os → Kept O H H' os → RepL K O' H' d v os
  | _, _, _, .nil, _ => .nil
  | _, _, _, .cons h r, k => .cons (RepD.keep hO h k.left) (RepL.keep hO r k.right)
theorem RepK.keep (hO : ∀ a o, H a = some o → O' a → O a) : ∀ {d : List (D × D)} {v : List (Key × V)} {os : List Addr}, RepK K O H d v os → Kept O H H' os → RepK K O' H' d v os
  | _, _, _, .nil, _ => .nil
  | _, _, _, .cons h r, k => .cons (RepD.keep hO h k.left) (RepK.keep hO r k.right)
theorem RepT.keep (hO : ∀ a o, H a = some o → O' a → O a) : ∀ {d : List (D × D)} {v : List (List Key × V)} {os : List Addr}, RepT K O H d v os → Kept O H H' os → RepT K O' H' d v os
  | _, _, _, .nil, _ => .nil
  | _, _, _, .cons h r, k => .cons (RepD.keep hO h k.left) (RepT.keep hO r k.right)
theorem RepF.keep (hO : ∀ a o, H a = some o → O' a → O a) : ∀ {d : List (Str × D)} {v : List (Str × V)} {os : List Addr}, RepF K O H d v os → Kept O H H' os → RepF K O' H' d v os
  | _, _, _, .nil, _ => .nil
  | _, _, _, .cons h r, k => .cons (RepD.keep hO h k.left) (RepF.keep hO r k.right)
end
mutual
/-- its own parts stand -/
theorem RepD.there : ∀ {d : D} {v : V} {os : List Addr}, RepD K O H d v os → ∀ a ∈ os, H a ≠ none
  | _, _, _, .non, _, h => nomatch h
  | _, _, _, .bl _, _, h => nomatch h
  | _, _, _, .int _, _, h => nomatch h
  | _, _, _, .str _, _, h => nomatch h
  | _, _, _, .tup _ r, a, h => RepL.there r a h
  | _, _, _, .lstF _ _ _, _, h => nomatch h
  | _, _, _, .kl _ _, _, h => nomatch h
  | _, _, _, .kt _ _, _, h => nomatch h
  | _, _, _, .lstO h r, a, m => (List.mem_cons.mp m).elim (fun e => by rw [e, h]; exact fun z => nomatch z) (RepL.there r a)
  | _, _, _, .dkF _ _ _, _, h => nomatch h
  | _, _, _, .dkO h r, a, m => (List.mem_cons.mp m).elim (fun e => by rw [e, h]; exact fun z => nomatch z) (RepK.there r a)
  | _, _, _, .dtF _ _ _, _, h => nomatch h
  | _, _, _, .dtO h r, a, m => (List.mem_cons.mp m).elim (fun e => by rw [e, h]; exact fun z => nomatch z) (RepT.there r a)
  | _, _, _, .insF _ _ _, _, h => nomatch h
  | _, _, _, .insO h r, a, m => (List.mem_cons.mp m).elim (fun e => by rw [e, h]; exact fun z => nomatch z) (RepF.there r a)
theorem RepL.there : ∀ {d : List D} {v : List V} {os : List Addr}, RepL K O H d v os → ∀ a ∈ os, H a ≠ none
  | _, _, _, .nil, _, h => nomatch h
  | _, _, _, .cons h r, a, m => (List.mem_append.mp m).elim (RepD.there h a) (RepL.there r a)
theorem RepK.there : ∀ {d : List (D × D)} {v : List (Key × V)} {os : List Addr}, RepK K O H d v os → ∀ a ∈ os, H a ≠ none
  | _, _, _, .nil, _, h => nomatch h
  | _, _, _, .cons h r, a, m => (List.mem_append.mp m).elim (RepD.there h a) (RepK.there r a)
theorem RepT.there : ∀ {d : List (D × D)} {v : List (List Key × V)} {os : List Addr}, RepT K O H d v os → ∀ a ∈ os, H a ≠ none
  | _, _, _, .nil, _, h => nomatch h
  | _, _, _, .cons h r, a, m => (List.mem_append.mp m).elim (RepD.there h a) (RepT.there r a)
theorem RepF.there : ∀ {d : List (Str × D)} {v : List (Str × V)} {os : List Addr}, RepF K O H d v os → ∀ a ∈ os, H a ≠ none
  | _, _, _, .nil, _, h => nomatch h
  | _, _, _, .cons h r, a, m => (List.mem_append.mp m).elim (RepD.there h a) (RepF.there r a)
end
mutual
/-- frozen: O' leaves out what was frozen and the own parts -/
theorem RepD.frz : ∀ {d : D} {v : V} {os : List Addr}, RepD K O H d v os → (∀ a o, H a = some o → O' a → O a ∧ a ∉ os) → RepD K O' H d.frz v []
  | _, _, _, .non, _ => .non
  | _, _, _, .bl b, _ => .bl b
  | _, _, _, .int b, _ => .int b
  | _, _, _, .str b, _ => .str b
  | _, _, _, .tup h r, k => .tup h (RepL.frz r k)
  | _, _, _, .kt h r, k => .kt h (RepL.frz r k)
  | _, _, _, .lstF h n r, k => .lstF h (fun z => by
      obtain ⟨o, q⟩ := rd_there h
      exact n (k _ _ q z).1) (RepL.frz r k)
  | _, _, _, .kl h r, k => .kl (h.imp (fun e => ⟨e.1, fun z => by
      obtain ⟨o, q⟩ := rd_there e.1
      exact e.2 (k _ _ q z).1⟩) id) (RepL.frz r k)
  | _, _, _, .lstO h r, k => .lstF (.inl h) (fun z => (k _ _ h z).2 List.mem_cons_self) (RepL.frz r fun a o e z => ⟨(k a o e z).1, fun m => (k a o e z).2 (List.mem_cons_of_mem _ m)⟩)
  | _, _, _, .dkF h n r, k => .dkF h (fun z => by
      have q := h
      exact n (k _ _ q z).1) (RepK.frz r k)
  | _, _, _, .dkO h r, k => .dkF h (fun z => (k _ _ h z).2 List.mem_cons_self) (RepK.frz r fun a o e z => ⟨(k a o e z).1, fun m => (k a o e z).2 (List.mem_cons_of_mem _ m)⟩)
  | _, _, _, .dtF h n r, k => .dtF h (fun z => by
      have q := h
      exact n (k _ _ q z).1) (RepT.frz r k)
  | _, _, _, .dtO h r, k => .dtF h (fun z => (k _ _ h z).2 List.mem_cons_self) (RepT.frz r fun a o e z => ⟨(k a o e z).1, fun m => (k a o e z).2 (List.mem_cons_of_mem _ m)⟩)
  | _, _, _, .insF h n r, k => .insF h (fun z => n (k _ _ h z).1) (RepF.frz r k)
  | _, _, _, .insO h r, k => .insF h (fun z => (k _ _ h z).2 List.mem_cons_self) (RepF.frz r fun a o e z => ⟨(k a o e z).1, fun m => (k a o e z).2 (List.mem_cons_of_mem _ m)⟩)
theorem RepL.frz : ∀ {d : List D} {v : List V} {os : List Addr}, RepL K O H d v os → (∀ a o, H a = some o → O' a → O a ∧ a ∉ os) → RepL K O' H (frzL d) v []
  | _, _, _, .nil, _ => .nil
  | _, _, _, .cons h r, k => .cons (o1 := []) (RepD.frz h fun a o e z => ⟨(k a o e z).1, fun m => (k a o e z).2 (List.mem_append_left _ m)⟩) (RepL.frz r fun a o e z => ⟨(k a o e z).1, fun m => (k a o e z).2 (List.mem_append_right _ m)⟩)
theorem RepK.frz : ∀ {d : List (D × D)} {v : List (Key × V)} {os : List Addr}, RepK K O H d v os → (∀ a o, H a = some o → O' a → O a ∧ a ∉ os) → RepK K O' H (frzK d) v []
  | _, _, _, .nil, _ => .nil
  | _, _, _, .cons h r, k => .cons (o1 := []) (RepD.frz h fun a o e z => ⟨(k a o e z).1, fun m => (k a o e z).2 (List.mem_append_left _ m)⟩) (RepK.frz r fun a o e z => ⟨(k a o e z).1, fun m => (k a o e z).2 (List.mem_append_right _ m)⟩)
theorem RepT.frz : ∀ {d : List (D × D)} {v : List (List Key × V)} {os : List Addr}, RepT K O H d v os → (∀ a o, H a = some o → O' a → O a ∧ a ∉ os) → RepT K O' H (frzK d) v []
  | _, _, _, .nil, _ => .nil
  | _, _, _, .cons h r, k => .cons (o1 := []) (RepD.frz h fun a o e z => ⟨(k a o e z).1, fun m => (k a o e z).2 (List.mem_append_left _ m)⟩) (RepT.frz r fun a o e z => ⟨(k a o e z).1, fun m => (k a o e z).2 (List.mem_append_right _ m)⟩)
theorem RepF.frz : ∀ {d : List (Str × D)} {v : List (Str × V)} {os : List Addr}, RepF K O H d v os → (∀ a o, H a = some o → O' a → O a ∧ a ∉ os) → RepF K O' H (frzF d) v []
  | _, _, _, .nil, _ => .nil
  | _, _, _, .cons h r, k => .cons (o1 := []) (RepD.frz h fun a o e z => ⟨(k a o e z).1, fun m => (k a o e z).2 (List.mem_append_left _ m)⟩) (RepF.frz r fun a o e z => ⟨(k a o e z).1, fun m => (k a o e z).2 (List.mem_append_right _ m)⟩)
end
end
end TL
/-! T2: states, readings over trees -/
namespace TL
open PySem PySem.Spec PyProof.Rows L2

abbrev Ow := Nat → List Addr
def Oo (ow : Ow) (B : Addr → Prop) : Addr → Prop := fun a => (∃ i, a ∈ ow i) ∨ B a
def OutS (S : List Nat) (ow : Ow) (B : Addr → Prop) (os : List Addr) : Addr → Prop := fun a => (∃ i, a ∈ ow i ∧ i ∉ S) ∨ B a ∨ a ∈ os
structure Stt (K : PySem.W.Frag) (B : Addr → Prop) (ρ : En) (σ : L2.St) (H : Hp) (ow : Ow) : Prop where
  len : ρ.length = σ.length
  rep : ∀ i d, ρ[i]? = some (some d) → ∃ v, σ[i]? = some (some v) ∧ RepD K (Oo ow B) H d v (ow i)
  dead : ∀ i, (∀ d, ρ[i]? ≠ some (some d)) → ow i = []
  nd : ∀ i, (ow i).Nodup
  dj : ∀ i j a, a ∈ ow i → a ∈ ow j → i = j
  bt : ∀ a, B a → H a ≠ none
  bo : ∀ i a, a ∈ ow i → ¬ B a
section
variable {K : PySem.W.Frag} {B B' : Addr → Prop} {ρ : En} {σ : L2.St} {H H' : Hp} {ow : Ow}
theorem Stt.there (s : Stt K B ρ σ H ow) {i : Nat} {a : Addr} (h : a ∈ ow i) : H a ≠ none := by
  by_cases q : ∃ d, ρ[i]? = some (some d)
  · obtain ⟨d, q⟩ := q
    obtain ⟨v, _, r⟩ := s.rep i d q
    exact r.there a h
  · rw [s.dead i fun d z => q ⟨d, z⟩] at h
    exact nomatch h
/-- the heap grows, the frame grows by new parts -/
theorem Stt.grow (s : Stt K B ρ σ H ow) (e : Same H H') (hB : ∀ a o, H a = some o → B' a → B a) (hb : ∀ a, B' a → H' a ≠ none) : Stt K B' ρ σ H' ow := by
  refine ⟨s.len, fun i d h => ?_, s.dead, s.nd, s.dj, hb, fun i a h z => ?_⟩
  · obtain ⟨v, h1, r⟩ := s.rep i d h
    exact ⟨v, h1, r.keep (fun a o q z => z.imp id (hB a o q)) (Kept.of_same e _)⟩
  · cases q : H a with
    | none => exact s.there h q
    | some o => exact s.bo i a h (hB a o q z)
theorem Stt.same (s : Stt K B ρ σ H ow) (e : Same H H') : Stt K B ρ σ H' ow :=
  s.grow e (fun _ _ _ z => z) fun a h z => s.bt a h (e.free z)
/-- what a slot shows, frozen -/
theorem Stt.look (s : Stt K B ρ σ H ow) {i : Nat} {d : D} (h : ρ[i]? = some (some d)) : ∃ v, σ[i]? = some (some v) ∧ RepD K (OutS [i] ow B []) H d.frz v [] := by
  obtain ⟨v, h1, r⟩ := s.rep i d h
  refine ⟨v, h1, r.frz fun a o q z => ?_⟩
  rcases z with ⟨j, hj, n⟩ | z | z
  · exact ⟨.inl ⟨j, hj⟩, fun m => n (by rw [s.dj j i a hj m]; exact List.mem_singleton.mpr rfl)⟩
  · exact ⟨.inr z, fun m => s.bo i a m z⟩
  · exact nomatch z
end

/-- an exception of the class at C with these fields -/
def RepX (K : PySem.W.Frag) (H : Hp) (C : Addr) (fs : List (Str × D)) (cls : Value) (dd : Option Addr) : Prop :=
  cls = .ref C ∧ ((fs = [] ∧ dd = none) ∨ ∃ d vs, dd = some d ∧ H d = some (.xd vs) ∧ RepF K (fun _ => True) H fs vs [])

/-! ### expressions -/
section
variable (K : PySem.W.Frag) (W : WX)
def rdOk (S : List Nat) (B : Addr → Prop) (ow : Ow) (H : Hp) (d : D) (Q : VK) : Prop :=
  ∀ v H' os, Same H H' → RepD K (OutS S ow B os) H' d v os → os.Nodup → (∀ a ∈ os, H a = none) → Q v H'
def rdEx (σ : L2.St) (H : Hp) (C : Addr) (fs : List (Str × D)) : Prop := ∀ cls dd H', Same H H' → RepX K H' C fs cls dd → W cls dd σ H'
def rd (S : List Nat) (f : En → R D) : TE := fun σ H Q => ∃ ρ ow B, Stt K B ρ σ H ow ∧ match f ρ with
  | .ok d => rdOk K S B ow H d Q
  | .exc C fs => rdEx K W σ H C fs
  | .stuck => False
def rdAOk (S : List Nat) (B : Addr → Prop) (ow : Ow) (H : Hp) (ds : List D) (Q : List V → Hp → Prop) : Prop :=
  ∀ vs H' os, Same H H' → RepL K (OutS S ow B os) H' ds vs os → os.Nodup → (∀ a ∈ os, H a = none) → Q vs H'
def rdA (S : List Nat) (f : En → R (List D)) : TA := fun σ H Q => ∃ ρ ow B, Stt K B ρ σ H ow ∧ match f ρ with
  | .ok ds => rdAOk K S B ow H ds Q
  | .exc C fs => rdEx K W σ H C fs
  | .stuck => False
def rdT (f : En → R Bool) : TT := fun σ H Q => ∃ ρ ow B, Stt K B ρ σ H ow ∧ match f ρ with
  | .ok b => ∀ H', Same H H' → Q b H'
  | .exc C fs => rdEx K W σ H C fs
  | .stuck => False
end
structure DE (X : Cx) (W : WX) (S : List Nat) (e : Expr) (f : En → R D) : Prop where
  pe : PE X e (rd X.K W S f)
structure DA (X : Cx) (W : WX) (S : List Nat) (es : List Expr) (f : En → R (List D)) : Prop where
  pa : PA X es (rdA X.K W S f)
structure DT (X : Cx) (W : WX) (e : Expr) (f : En → R Bool) : Prop where
  pt : PT X e (rdT X.K W f)
structure DW (X : Cx) (W : WX) (e : Expr) (f : En → R Bool) : Prop where
  pw : PW X e (rdT X.K W f)
theorem _root_.L2.PE.imp {X : Cx} {e : Expr} {t t' : TE} (h : PE X e t) (m : ∀ σ H Q, t' σ H Q → t σ H Q) : PE X e t' := ⟨fun pins s σ H Q I q => h.run pins s σ H Q I (m σ H Q q)⟩
theorem _root_.L2.PT.imp {X : Cx} {e : Expr} {t t' : TT} (h : PT X e t) (m : ∀ σ H Q, t' σ H Q → t σ H Q) : PT X e t' := ⟨fun pins s σ H Q I q => h.run pins s σ H Q I (m σ H Q q)⟩
theorem _root_.L2.PW.imp {X : Cx} {e : Expr} {t t' : TT} (h : PW X e t) (m : ∀ σ H Q, t' σ H Q → t σ H Q) : PW X e t' := ⟨fun w pins s σ H Q I q => h.run w pins s σ H Q I (m σ H Q q)⟩
theorem _root_.L2.PA.imp {X : Cx} {e : List Expr} {t t' : TA} (h : PA X e t) (m : ∀ σ H Q, t' σ H Q → t σ H Q) : PA X e t' := ⟨fun p pins s σ H Q I q => h.run p pins s σ H Q I (m σ H Q q)⟩
theorem _root_.L2.PS.imp {X : Cx} {e : Stmt} {t t' : TS} (h : PS X e t) (m : ∀ D σ H, t' D σ H → t D σ H) : PS X e t' := ⟨fun pins s σ H D I q => h.run pins s σ H D I (m D σ H q)⟩
theorem _root_.L2.PSs.imp {X : Cx} {e : List Stmt} {t t' : TS} (h : PSs X e t) (m : ∀ D σ H, t' D σ H → t D σ H) : PSs X e t' := ⟨fun pins s σ H D I q => h.run pins s σ H D I (m D σ H q)⟩

/-! ### names, constants -/
def eVar (i : Nat) : En → R D := fun ρ => match ρ[i]? with
  | some (some d) => .ok d.frz
  | _ => .stuck
def eC (d : D) : En → R D := fun _ => .ok d
section
variable {X : Cx} {W : WX} {S Sa Sb : List Nat} {pos : Pos}
theorem de_name (i : Nat) {x : Str} (hN : X.N[i]? = some x := by rfl) (hv : Vis X.env.scope x := by first | exact Or.inl rfl | exact Or.inr (Or.inl rfl) | exact Or.inr (Or.inr rfl)) (hd : (x == ("__debug__" : Str)) = false := by decide)
    (hcd : (x == ("__classdict__" : Str)) = false := by decide) : DE X W [i] (.Name x pos) (eVar i) := ⟨(pe_var hN hv hd hcd).imp fun σ H Q h => by
  obtain ⟨ρ, ow, B, st, h⟩ := h
  unfold eVar at h
  split at h
  · rename_i e
    split at e
    · rename_i d' q
      cases e
      obtain ⟨v, h1, r⟩ := st.look q
      exact ⟨v, h1, h v H [] (Same.refl H) r List.nodup_nil (fun _ z => nomatch z)⟩
    · cases e
  · rename_i e
    split at e <;> cases e
  · exact h.elim⟩
theorem rd_const {K : PySem.W.Frag} {d : D} {v : V} {σ : L2.St} {H : Hp} {Q : VK} (hr : ∀ O, RepD K O H d v []) (h : rd K W S (eC d) σ H Q) : tC v σ H Q := by
  obtain ⟨ρ, ow, B, st, h⟩ := h
  exact h v H [] (Same.refl H) (hr _) List.nodup_nil (fun _ z => nomatch z)
theorem de_int {i j} : DE X W [] (.Constant (.int i) j pos) (eC (.int i)) := ⟨pe_int.imp fun _ _ _ h => rd_const (fun _ => .int _) h⟩
theorem de_bl {i j} : DE X W [] (.Constant (.bool i) j pos) (eC (.bl i)) := ⟨pe_bl.imp fun _ _ _ h => rd_const (fun _ => .bl _) h⟩
theorem de_non {j} : DE X W [] (.Constant .none j pos) (eC .non) := ⟨pe_non.imp fun _ _ _ h => rd_const (fun _ => .non) h⟩
theorem de_str {i j} : DE X W [] (.Constant (.str i) j pos) (eC (.str i)) := ⟨pe_str.imp fun _ _ _ h => rd_const (fun _ => .str _) h⟩
/-- a module's constant -/
theorem de_glob {x : Str} {v : V} {d : D} {u : Value} (hg : Gl X x) (hm : X.mg x = some u) (r : RelV v u) (hr : ∀ O H, RepD X.K O H d v []) (hd : (x == ("__debug__" : Str)) = false := by decide) : DE X W [] (.Name x pos) (eC d) :=
  ⟨(pe_glob hg hm r hd).imp fun _ _ _ h => rd_const (fun _ => hr _ _) h⟩
end

/-! ### composing -/
def ofO {α : Type} : Option α → R α
  | some d => .ok d
  | none => .stuck
@[simp] theorem ofO_some {α : Type} (a : α) : ofO (some a) = .ok a := rfl
@[simp] theorem ofO_none {α : Type} : (ofO none : R α) = .stuck := rfl
def e1 (g : D → Option D) (fa : En → R D) : En → R D := fun ρ => (fa ρ).bind fun x => ofO (g x)
def e2 (g : D → D → Option D) (fa fb : En → R D) : En → R D := fun ρ => (fa ρ).bind fun x => (fb ρ).bind fun y => ofO (g x y)
def e3 (g : D → D → D → Option D) (fa fb fc : En → R D) : En → R D := fun ρ => (fa ρ).bind fun x => (fb ρ).bind fun y => (fc ρ).bind fun z => ofO (g x y z)
def eN (g : List D → Option D) (fa : En → R (List D)) : En → R D := fun ρ => (fa ρ).bind fun x => ofO (g x)
def eNil : En → R (List D) := fun _ => .ok []
def eCons (fa : En → R D) (fb : En → R (List D)) : En → R (List D) := fun ρ => (fa ρ).bind fun x => (fb ρ).bind fun y => .ok (x :: y)

/-- the answer's parts come out of the given ones or are new -/
def Done (K : PySem.W.Frag) (O : Addr → Prop) (H : Hp) (o : List Addr) (d : D) (Q : VK) : Prop :=
  ∀ v H' os, Same H H' → RepD K (fun a => O a ∨ a ∈ os) H' d v os → os.Nodup → (∀ a ∈ os, a ∈ o ∨ H a = none) → Q v H'
def Fits1 (K : PySem.W.Frag) (g : D → Option D) (r : V → Hp → VK → Prop) : Prop :=
  ∀ (O : Addr → Prop) H x v o d Q, RepD K O H x v o → o.Nodup → (∀ a ∈ o, O a) → g x = some d → Done K O H o d Q → r v H Q
def Fits2 (K : PySem.W.Frag) (g : D → D → Option D) (r : R2) : Prop :=
  ∀ (O : Addr → Prop) H x y v1 v2 o1 o2 d Q, RepD K O H x v1 o1 → RepD K O H y v2 o2 → (o1 ++ o2).Nodup → (∀ a ∈ o1 ++ o2, O a) → g x y = some d → Done K O H (o1 ++ o2) d Q → r v1 v2 H Q
def FitsN (K : PySem.W.Frag) (g : List D → Option D) (r : List V → Hp → VK → Prop) : Prop :=
  ∀ (O : Addr → Prop) H xs vs o d Q, RepL K O H xs vs o → o.Nodup → (∀ a ∈ o, O a) → g xs = some d → Done K O H o d Q → r vs H Q
section
variable {K : PySem.W.Frag} {W : WX} {S Sa Sb Sc : List Nat} {σ : L2.St} {H : Hp}
theorem outS_keep {ow : Ow} {B : Addr → Prop} {o1 o2 : List Addr} {H1 : Hp} (n : ∀ a ∈ o2, H1 a = none) : ∀ a o, H1 a = some o → OutS (Sa ++ Sb) ow B (o1 ++ o2) a → OutS Sa ow B o1 a := fun a o e z => by
  rcases z with ⟨i, h1, h2⟩ | z | z
  · exact .inl ⟨i, h1, fun q => h2 (List.mem_append_left _ q)⟩
  · exact .inr (.inl z)
  · rcases List.mem_append.mp z with z | z
    · exact .inr (.inr z)
    · rw [n a z] at e; cases e
theorem outS_keep2 {ow : Ow} {B : Addr → Prop} {o1 o2 : List Addr} : ∀ a, OutS (Sa ++ Sb) ow B (o1 ++ o2) a → OutS Sb ow (fun a => B a ∨ a ∈ o1) o2 a := fun a z => by
  rcases z with ⟨i, h1, h2⟩ | z | z
  · exact .inl ⟨i, h1, fun q => h2 (List.mem_append_right _ q)⟩
  · exact .inr (.inl (.inl z))
  · rcases List.mem_append.mp z with z | z
    · exact .inr (.inl (.inr z))
    · exact .inr (.inr z)
theorem nodup_two {o1 o2 : List Addr} {H1 : Hp} (n1 : o1.Nodup) (n2 : o2.Nodup) (t : ∀ a ∈ o1, H1 a ≠ none) (n : ∀ a ∈ o2, H1 a = none) : (o1 ++ o2).Nodup :=
  List.nodup_append.mpr ⟨n1, n2, fun a ha b hb e => t a ha (by rw [e]; exact n b hb)⟩
/-- one, then another -/
theorem rd_then {fa fb : En → R D} {F : D → D → R D} {Q : VK} {Z : V → V → Hp → Prop}
    (h : rd K W (Sa ++ Sb) (fun ρ => (fa ρ).bind fun x => (fb ρ).bind fun y => F x y) σ H Q)
    (hF : ∀ ρ ow B H0 H1 H2 x y v1 v2 o1 o2, Stt K B ρ σ H0 ow → Same H0 H1 → Same H1 H2 → RepD K (OutS (Sa ++ Sb) ow B (o1 ++ o2)) H2 x v1 o1 → RepD K (OutS (Sa ++ Sb) ow B (o1 ++ o2)) H2 y v2 o2 → (o1 ++ o2).Nodup → (∀ a ∈ o1 ++ o2, H0 a = none) →
      (match F x y with
        | .ok d => rdOk K (Sa ++ Sb) B ow H0 d Q
        | .exc C fs => rdEx K W σ H0 C fs
        | .stuck => False) → Z v1 v2 H2) :
    rd K W Sa fa σ H fun v1 H1 => rd K W Sb fb σ H1 fun v2 H2 => Z v1 v2 H2 := by
  obtain ⟨ρ, ow, B, st, h⟩ := h
  refine ⟨ρ, ow, B, st, ?_⟩
  dsimp only at h
  cases ea : fa ρ with
  | stuck => rw [ea] at h; exact h
  | exc C fs => rw [ea] at h; exact h
  | ok x =>
    rw [ea] at h
    intro v1 H1 o1 s1 r1 d1 n1
    refine ⟨ρ, ow, fun a => B a ∨ a ∈ o1, st.grow s1 (fun a o e z => z.elim id fun z => by rw [n1 a z] at e; cases e) (fun a z => z.elim (fun z q => st.bt a z (s1.free q)) (r1.there a)), ?_⟩
    simp only [R.bind_ok] at h
    cases eb : fb ρ with
    | stuck => rw [eb] at h; exact h
    | exc C fs =>
      rw [eb] at h
      exact fun cls dd H' s x => h cls dd H' (s1.trans s) x
    | ok y =>
      rw [eb] at h
      simp only [R.bind_ok] at h
      intro v2 H2 o2 s2 r2 d2 n2
      refine hF ρ ow B H H1 H2 x y v1 v2 o1 o2 st s1 s2 (r1.keep (outS_keep n2) (Kept.of_same s2 _)) (r2.keep (fun a o e z => outS_keep2 a z) (Kept.of_same (Same.refl _) _)) (nodup_two d1 d2 r1.there n2) (fun a m => ?_) h
      rcases List.mem_append.mp m with m | m
      · exact n1 a m
      · exact s1.free (n2 a m)
theorem rd_done {ow : Ow} {B : Addr → Prop} {o : List Addr} {H0 H2 : Hp} {d : D} {Q : VK} (e : Same H0 H2) (n : ∀ a ∈ o, H0 a = none) (h : rdOk K S B ow H0 d Q) : Done K (OutS S ow B o) H2 o d Q := fun v H' os s r nd z => by
  refine h v H' os (e.trans s) (r.keep (fun a o _ z => ?_) (Kept.of_same (Same.refl _) _)) nd fun a m => (z a m).elim (n a) e.free
  rcases z with z | z | z
  · exact .inl (.inl z)
  · exact .inl (.inr (.inl z))
  · exact .inr z
theorem outS_mem {ow : Ow} {B : Addr → Prop} {o : List Addr} : ∀ a ∈ o, OutS S ow B o a := fun _ m => .inr (.inr m)
theorem rd1 {g : D → Option D} {r : V → Hp → VK → Prop} {fa : En → R D} {Q : VK} (hg : Fits1 K g r) (h : rd K W S (e1 g fa) σ H Q) : rd K W S fa σ H fun v H1 => r v H1 Q := by
  obtain ⟨ρ, ow, B, st, h⟩ := h
  refine ⟨ρ, ow, B, st, ?_⟩
  unfold e1 at h
  cases ea : fa ρ with
  | stuck => rw [ea] at h; exact h
  | exc C fs => rw [ea] at h; exact h
  | ok x =>
    rw [ea] at h
    simp only [R.bind_ok] at h
    intro v1 H1 o1 s1 r1 d1 n1
    cases eg : g x with
    | none => rw [eg] at h; exact h.elim
    | some d =>
      rw [eg] at h
      exact hg _ H1 x v1 o1 d Q r1 d1 outS_mem eg (rd_done s1 n1 h)
theorem rd2 {g : D → D → Option D} {r : R2} {fa fb : En → R D} {Q : VK} (hg : Fits2 K g r) (h : rd K W (Sa ++ Sb) (e2 g fa fb) σ H Q) : rd K W Sa fa σ H fun v1 H1 => rd K W Sb fb σ H1 fun v2 H2 => r v1 v2 H2 Q :=
  rd_then (F := fun x y => ofO (g x y)) h fun ρ ow B H0 H1 H2 x y v1 v2 o1 o2 st s1 s2 r1 r2 nd n h => by
    cases eg : g x y with
    | none => rw [eg] at h; exact h.elim
    | some d =>
      rw [eg] at h
      exact hg _ H2 x y v1 v2 o1 o2 d Q r1 r2 nd outS_mem eg (rd_done (s1.trans s2) n h)
theorem rdN {g : List D → Option D} {r : List V → Hp → VK → Prop} {fa : En → R (List D)} {Q : VK} (hg : FitsN K g r) (h : rd K W S (eN g fa) σ H Q) : rdA K W S fa σ H fun vs H1 => r vs H1 Q := by
  obtain ⟨ρ, ow, B, st, h⟩ := h
  refine ⟨ρ, ow, B, st, ?_⟩
  unfold eN at h
  cases ea : fa ρ with
  | stuck => rw [ea] at h; exact h
  | exc C fs => rw [ea] at h; exact h
  | ok x =>
    rw [ea] at h
    simp only [R.bind_ok] at h
    intro v1 H1 o1 s1 r1 d1 n1
    cases eg : g x with
    | none => rw [eg] at h; exact h.elim
    | some d =>
      rw [eg] at h
      exact hg _ H1 x v1 o1 d Q r1 d1 outS_mem eg (rd_done s1 n1 h)
theorem rd_nil {Q : List V → Hp → Prop} (h : rdA K W [] eNil σ H Q) : tNil σ H Q := by
  obtain ⟨ρ, ow, B, st, h⟩ := h
  exact h [] H [] (Same.refl H) .nil List.nodup_nil fun _ z => nomatch z
theorem rd_cons {fa : En → R D} {fb : En → R (List D)} {Q : List V → Hp → Prop} (h : rdA K W (Sa ++ Sb) (eCons fa fb) σ H Q) : tCons (rd K W Sa fa) (rdA K W Sb fb) σ H Q := by
  obtain ⟨ρ, ow, B, st, h⟩ := h
  refine ⟨ρ, ow, B, st, ?_⟩
  unfold eCons at h
  cases ea : fa ρ with
  | stuck => rw [ea] at h; exact h
  | exc C fs => rw [ea] at h; exact h
  | ok x =>
    rw [ea] at h
    intro v1 H1 o1 s1 r1 d1 n1
    refine ⟨ρ, ow, fun a => B a ∨ a ∈ o1, st.grow s1 (fun a o e z => z.elim id fun z => by rw [n1 a z] at e; cases e) (fun a z => z.elim (fun z q => st.bt a z (s1.free q)) (r1.there a)), ?_⟩
    simp only [R.bind_ok] at h
    cases eb : fb ρ with
    | stuck => rw [eb] at h; exact h
    | exc C fs =>
      rw [eb] at h
      exact fun cls dd H' s x => h cls dd H' (s1.trans s) x
    | ok y =>
      rw [eb] at h
      simp only [R.bind_ok] at h
      intro v2 H2 o2 s2 r2 d2 n2
      refine h (v1 :: v2) H2 (o1 ++ o2) (s1.trans s2) (.cons (r1.keep (outS_keep n2) (Kept.of_same s2 _)) (r2.keep (fun a o e z => outS_keep2 a z) (Kept.of_same (Same.refl _) _))) (nodup_two d1 d2 r1.there n2) (fun a m => ?_)
      rcases List.mem_append.mp m with m | m
      · exact n1 a m
      · exact s1.free (n2 a m)
end
section
variable {X : Cx} {W : WX} {S Sa Sb : List Nat} {pos : Pos} {a b e : Expr} {es : List Expr} {fa fb : En → R D} {fs : En → R (List D)}
theorem de_bin {op : Operator} {g : D → D → Option D} {r : R2} (ho : OpR X (binaryOp op) r) (hg : Fits2 X.K g r) (ha : DE X W Sa a fa) (hb : DE X W Sb b fb) : DE X W (Sa ++ Sb) (.BinOp a op b pos) (e2 g fa fb) :=
  ⟨(pe_op ho ha.pe hb.pe).imp fun _ _ _ h => rd2 hg h⟩
theorem de_un {op : UnaryOp} {g : D → Option D} {r : V → Hp → VK → Prop} (ho : UnR X (unaryOp op) r) (hg : Fits1 X.K g r) (ha : DE X W Sa a fa) : DE X W Sa (.UnaryOp op a pos) (e1 g fa) :=
  ⟨(pe_un ho ha.pe).imp fun _ _ _ h => rd1 hg h⟩
theorem de_cmp {op : CmpOp} {g : D → D → Option D} {r : R2} (ho : OpR X (compareOp op) r) (hg : Fits2 X.K g r) (ha : DE X W Sa a fa) (hb : DE X W Sb b fb) (hm : behindInMarks op b = false) : DE X W (Sa ++ Sb) (.Compare a [op] [b] pos) (e2 g fa fb) :=
  ⟨(pe_cmpR ho ha.pe hb.pe hm).imp fun _ _ _ h => rd2 hg h⟩
theorem de_ix {g : D → D → Option D} {r : R2} (ho : IxR X r) (hg : Fits2 X.K g r) (ha : DE X W Sa a fa) (hb : DE X W Sb b fb) (hs : PlainIx b) : DE X W (Sa ++ Sb) (.Subscript a b pos) (e2 g fa fb) :=
  ⟨(pe_ix ho ha.pe hb.pe hs).imp fun _ _ _ h => rd2 hg h⟩
theorem da_nil : DA X W [] [] eNil := ⟨pa_nil.imp fun _ _ _ h => rd_nil h⟩
theorem da_cons (ha : DE X W Sa e fa) (hb : DA X W Sb es fs) (hs : starEach (e :: es) X.env = (false, eval e X.env) :: starEach es X.env := by rfl) : DA X W (Sa ++ Sb) (e :: es) (eCons fa fs) :=
  ⟨(pa_cons ha.pe hb.pa hs).imp fun _ _ _ h => rd_cons h⟩
end
end TL
/-! T3: tests, statements, loops, calls over trees -/
namespace TL
open PySem PySem.Spec PyProof.Rows L2

/-! ### tests -/
def asB : D → R Bool
  | .bl b => .ok b
  | _ => .stuck
def tV (f : En → R D) : En → R Bool := fun ρ => (f ρ).bind asB
def tNotC (f : En → R Bool) : En → R Bool := fun ρ => (f ρ).bind fun b => .ok (!b)
def tAndC (f g : En → R Bool) : En → R Bool := fun ρ => (f ρ).bind fun b => if b then g ρ else .ok false
def tOrC (f g : En → R Bool) : En → R Bool := fun ρ => (f ρ).bind fun b => if b then .ok true else g ρ
def eT (f : En → R Bool) : En → R D := fun ρ => (f ρ).bind fun b => .ok (.bl b)
def eIf (c : En → R Bool) (f g : En → R D) : En → R D := fun ρ => (c ρ).bind fun b => if b then f ρ else g ρ
section
variable {K : PySem.W.Frag} {W : WX} {S : List Nat} {σ : L2.St} {H : Hp}
theorem rd_bool {f : En → R D} {Q : Bool → Hp → Prop} (h : rdT K W (tV f) σ H Q) : rd K W S f σ H fun x H1 => ∃ c, x = .bl c ∧ Q c H1 := by
  obtain ⟨ρ, ow, B, st, h⟩ := h
  refine ⟨ρ, ow, B, st, ?_⟩
  unfold tV at h
  cases e : f ρ with
  | stuck => rw [e] at h; exact h
  | exc C fs => rw [e] at h; exact h
  | ok d =>
    rw [e] at h
    intro v H' os s r nd n
    cases d with
    | bl b => cases r; exact ⟨b, rfl, h H' s⟩
    | non => exact h.elim
    | int i => exact h.elim
    | str i => exact h.elim
    | tup i => exact h.elim
    | lst o i => exact h.elim
    | dct o t i => exact h.elim
    | kt i => exact h.elim
    | ins o i j => exact h.elim
    | kl i => exact h.elim
theorem rdT_bind {f : En → R Bool} {F : En → Bool → R Bool} {Q : Bool → Hp → Prop} {Z : Bool → Hp → Prop} (h : rdT K W (fun ρ => (f ρ).bind fun b => F ρ b) σ H Q)
    (hz : ∀ b H1, rdT K W (fun ρ => F ρ b) σ H1 Q → Z b H1) : rdT K W f σ H Z := by
  obtain ⟨ρ, ow, B, st, h⟩ := h
  refine ⟨ρ, ow, B, st, ?_⟩
  dsimp only at h
  cases e : f ρ with
  | stuck => rw [e] at h; exact h
  | exc C fs => rw [e] at h; exact h
  | ok b =>
    rw [e] at h
    intro H' s
    refine hz b H' ⟨ρ, ow, B, st.same s, ?_⟩
    dsimp only [R.bind_ok] at h ⊢
    cases e2 : F ρ b with
    | stuck => rw [e2] at h; exact h
    | exc C fs => rw [e2] at h; exact fun cls dd H2 s2 x => h cls dd H2 (s.trans s2) x
    | ok c => rw [e2] at h; exact fun H2 s2 => h H2 (s.trans s2)
theorem rdT_pure {b : Bool} {Q : Bool → Hp → Prop} (h : rdT K W (fun _ => .ok b) σ H Q) : Q b H := by
  obtain ⟨ρ, ow, B, st, h⟩ := h
  exact h H (Same.refl H)
/-- a test ahead of an expression -/
theorem rdT_then {f : En → R Bool} {F : Bool → En → R D} {Q : VK} {Z : Bool → Hp → Prop} (h : rd K W S (fun ρ => (f ρ).bind fun b => F b ρ) σ H Q) (hz : ∀ b H1, rd K W S (F b) σ H1 Q → Z b H1) : rdT K W f σ H Z := by
  obtain ⟨ρ, ow, B, st, h⟩ := h
  refine ⟨ρ, ow, B, st, ?_⟩
  dsimp only at h
  cases e : f ρ with
  | stuck => rw [e] at h; exact h
  | exc C fs => rw [e] at h; exact h
  | ok b =>
    rw [e] at h
    intro H' s
    refine hz b H' ⟨ρ, ow, B, st.same s, ?_⟩
    dsimp only [R.bind_ok] at h
    cases e2 : F b ρ with
    | stuck => rw [e2] at h; exact h
    | exc C fs => rw [e2] at h; exact fun cls dd H2 s2 x => h cls dd H2 (s.trans s2) x
    | ok c => rw [e2] at h; exact fun v H2 os s2 r nd n => h v H2 os (s.trans s2) r nd fun a m => s.free (n a m)
theorem rd_weak {S' : List Nat} {f : En → R D} {Q : VK} (hs : ∀ i ∈ S, i ∈ S') (h : rd K W S' f σ H Q) : rd K W S f σ H Q := by
  obtain ⟨ρ, ow, B, st, h⟩ := h
  refine ⟨ρ, ow, B, st, ?_⟩
  cases e : f ρ with
  | stuck => rw [e] at h; exact h
  | exc C fs => rw [e] at h; exact h
  | ok d =>
    rw [e] at h
    exact fun v H' os s r nd n => h v H' os s (r.keep (fun a o _ z => z.imp (fun ⟨i, h1, h2⟩ => ⟨i, h1, fun q => h2 (hs i q)⟩) id) (Kept.of_same (Same.refl _) _)) nd n
end
section
variable {X : Cx} {W : WX} {S Sa Sb : List Nat} {pos : Pos} {a b c e : Expr} {rest es : List Expr} {f g : En → R Bool} {fa fb : En → R D}
theorem dt_cmp {op : CmpOp} {g : D → D → Option D} {r : R2} (ho : OpR X (compareOp op) r) (hg : Fits2 X.K g r) (ha : DE X W Sa a fa) (hb : DE X W Sb b fb) (hm : behindInMarks op b = false) : DT X W (.Compare a [op] [b] pos) (tV (e2 g fa fb)) :=
  ⟨(pt_cmpR ho ha.pe hb.pe hm).imp fun _ _ _ h => rd2 hg (rd_bool h)⟩
/-- an expression of a bool as a test -/
theorem dt_val (h : DE X W S e fa) (he : ∀ whole, isTrue e X.env whole = (do let v ← whole; standAt e.pos; holding [v] (truthy v)) := by intro _; rfl) : DT X W e (tV fa) :=
  ⟨(pt_val h.pe he).imp fun _ _ _ h => rd_bool h⟩
theorem dw_and1 (h : DT X W a f) : DW X W (.BoolOp .And [a] pos) f := ⟨pw_and1 h.pt⟩
theorem dw_or1 (h : DT X W a f) : DW X W (.BoolOp .Or [a] pos) f := ⟨pw_or1 h.pt⟩
theorem dw_and (h : DT X W a f) (h2 : DW X W (.BoolOp .And (b :: rest) pos) g) : DW X W (.BoolOp .And (a :: b :: rest) pos) (tAndC f g) :=
  ⟨(pw_and h.pt h2.pw).imp fun _ _ _ h => rdT_bind (F := fun ρ b => if b then g ρ else .ok false) h fun b H1 q => by
    cases b with
    | true => rw [if_pos rfl]; exact q
    | false => rw [if_neg Bool.false_ne_true]; exact rdT_pure q⟩
theorem dw_or (h : DT X W a f) (h2 : DW X W (.BoolOp .Or (b :: rest) pos) g) : DW X W (.BoolOp .Or (a :: b :: rest) pos) (tOrC f g) :=
  ⟨(pw_or h.pt h2.pw).imp fun _ _ _ h => rdT_bind (F := fun ρ b => if b then .ok true else g ρ) h fun b H1 q => by
    cases b with
    | true => rw [if_pos rfl]; exact rdT_pure q
    | false => rw [if_neg Bool.false_ne_true]; exact q⟩
theorem dt_w (h : DW X W e f) : DT X W e f := ⟨h.pw.pt⟩
theorem dt_not (h : DT X W a f) : DT X W (.UnaryOp .Not a pos) (tNotC f) :=
  ⟨(pt_not h.pt).imp fun _ _ _ h => rdT_bind (F := fun _ b => .ok (!b)) h fun _ _ q => rdT_pure q⟩
/-- and, or, not as values (bools) -/
theorem de_one {op} (h : DE X W S a fa) : DE X W S (.BoolOp op [a] pos) fa := ⟨pe_one h.pe⟩
def eAnd (f g : En → R D) : En → R D := fun ρ => (f ρ).bind fun x => (asB x).bind fun b => if b then g ρ else .ok (.bl false)
def eOr (f g : En → R D) : En → R D := fun ρ => (f ρ).bind fun x => (asB x).bind fun b => if b then .ok (.bl true) else g ρ
def eNot (f : En → R D) : En → R D := fun ρ => (f ρ).bind fun x => (asB x).bind fun b => .ok (.bl (!b))
theorem rd_boolV {K : PySem.W.Frag} {σ : L2.St} {H : Hp} {F : En → Bool → R D} {Q : VK} {Z : Bool → Hp → Prop} (h : rd K W (Sa ++ Sb) (fun ρ => (fa ρ).bind fun x => (asB x).bind fun b => F ρ b) σ H Q) (hz : ∀ b H1, rd K W Sb (fun ρ => F ρ b) σ H1 Q → Z b H1) :
    rd K W Sa fa σ H fun x H1 => ∃ c, x = .bl c ∧ Z c H1 := by
  obtain ⟨ρ, ow, B, st, h⟩ := h
  refine ⟨ρ, ow, B, st, ?_⟩
  dsimp only at h
  cases e : fa ρ with
  | stuck => rw [e] at h; exact h
  | exc C fs => rw [e] at h; exact h
  | ok d =>
    rw [e] at h
    intro v H' os s r nd n
    cases d with
    | bl b =>
      cases r
      refine ⟨b, rfl, hz b H' (rd_weak (S' := Sa ++ Sb) (fun i m => List.mem_append_right _ m) ⟨ρ, ow, B, st.same s, ?_⟩)⟩
      dsimp only [R.bind_ok, asB] at h ⊢
      cases e2 : F ρ b with
      | stuck => rw [e2] at h; exact h
      | exc C fs => rw [e2] at h; exact fun cls dd H2 s2 x => h cls dd H2 (s.trans s2) x
      | ok c => rw [e2] at h; exact fun v H2 os s2 r nd n => h v H2 os (s.trans s2) r nd fun a m => s.free (n a m)
    | non => exact h.elim
    | int i => exact h.elim
    | str i => exact h.elim
    | tup i => exact h.elim
    | lst o i => exact h.elim
    | dct o t i => exact h.elim
    | kt i => exact h.elim
    | ins o i j => exact h.elim
    | kl i => exact h.elim
theorem rd_pure {K : PySem.W.Frag} {σ : L2.St} {H : Hp} {d : D} {v : V} {Q : VK} (hr : ∀ O, RepD K O H d v []) (h : rd K W S (fun _ => .ok d) σ H Q) : Q v H := by
  obtain ⟨ρ, ow, B, st, h⟩ := h
  exact h v H [] (Same.refl H) (hr _) List.nodup_nil (fun _ z => nomatch z)
theorem de_and (ha : DE X W Sa a fa) (hb : DE X W Sb (.BoolOp .And (b :: rest) pos) fb) : DE X W (Sa ++ Sb) (.BoolOp .And (a :: b :: rest) pos) (eAnd fa fb) :=
  ⟨(pe_and ha.pe hb.pe).imp fun _ _ _ h => rd_boolV (F := fun ρ b => if b then fb ρ else .ok (.bl false)) h fun b H1 q => by
    cases b with
    | true => rw [if_pos rfl]; exact q
    | false => rw [if_neg Bool.false_ne_true]; exact rd_pure (fun _ => .bl _) q⟩
theorem de_or (ha : DE X W Sa a fa) (hb : DE X W Sb (.BoolOp .Or (b :: rest) pos) fb) : DE X W (Sa ++ Sb) (.BoolOp .Or (a :: b :: rest) pos) (eOr fa fb) :=
  ⟨(pe_or ha.pe hb.pe).imp fun _ _ _ h => rd_boolV (F := fun ρ b => if b then .ok (.bl true) else fb ρ) h fun b H1 q => by
    cases b with
    | true => rw [if_pos rfl]; exact rd_pure (fun _ => .bl _) q
    | false => rw [if_neg Bool.false_ne_true]; exact q⟩
theorem de_not (ha : DE X W Sa a fa) : DE X W Sa (.UnaryOp .Not a pos) (eNot fa) :=
  ⟨(pe_not ha.pe).imp fun σ H Q h => rd_boolV (Sb := []) (F := fun ρ b => .ok (.bl (!b))) (by rw [List.append_nil]; exact h) fun b H1 q => rd_pure (fun _ => .bl _) q⟩
theorem de_if (hc : DT X W c f) (ha : DE X W Sa a fa) (hb : DE X W Sb b fb) : DE X W (Sa ++ Sb) (.IfExp c a b pos) (eIf f fa fb) :=
  ⟨(pe_ifExp hc.pt ha.pe hb.pe).imp fun _ _ _ h => rdT_then (F := fun b ρ => if b then fa ρ else fb ρ) h fun b H1 q => by
    cases b with
    | true => rw [if_pos rfl]; exact rd_weak (fun i m => List.mem_append_left _ m) q
    | false => rw [if_neg Bool.false_ne_true]; exact rd_weak (fun i m => List.mem_append_right _ m) q⟩
end

/-! ### what stands behind a statement -/
inductive Out where
  | nx (ρ : En) | ret (d : D) | bk (ρ : En) | ct (ρ : En) | exc (ρ : En) (C : Addr) (fs : List (Str × D)) | stuck
/-- only the own parts have changed, what is own now was or is new -/
structure Ch (ow : Ow) (H : Hp) (ow' : Ow) (H' : Hp) : Prop where
  keep : ∀ a o, H a = some o → ((∀ i, a ∉ ow i) ∨ ∃ xs, o = .tup xs) → H' a = some o
  from' : ∀ i a, a ∈ ow' i → (∃ j, a ∈ ow j) ∨ H a = none
theorem Ch.refl (ow : Ow) (H : Hp) : Ch ow H ow H := ⟨fun _ _ e _ => e, fun i a h => .inl ⟨i, h⟩⟩
theorem Ch.trans {ow ow1 ow2 : Ow} {H H1 H2 : Hp} (x : Ch ow H ow1 H1) (y : Ch ow1 H1 ow2 H2) : Ch ow H ow2 H2 := by
  refine ⟨fun a o e h => y.keep a o (x.keep a o e h) (h.imp (fun n i m => ?_) id), fun i a m => ?_⟩
  · rcases x.from' i a m with ⟨j, q⟩ | q
    · exact n j q
    · rw [q] at e; cases e
  · rcases y.from' i a m with ⟨j, q⟩ | q
    · exact x.from' j a q
    · cases e : H a with
      | none => exact .inr rfl
      | some o =>
        by_cases hn : ∀ i, a ∉ ow i
        · rw [x.keep a o e (.inl hn)] at q; cases q
        · exact .inl (Classical.byContradiction fun z => hn fun i m => z ⟨i, m⟩)
theorem Ch.same {ow : Ow} {H H' : Hp} (e : Same H H') : Ch ow H ow H' := ⟨fun a o h _ => e a o h, fun i a h => .inl ⟨i, h⟩⟩
section
variable (K : PySem.W.Frag) (W : WX) (B : Addr → Prop) (ow : Ow) (H : Hp)
def Aft (P : L2.St → Hp → Prop) (ρ' : En) : Prop := ∀ σ' H' ow', Stt K B ρ' σ' H' ow' → Ch ow H ow' H' → P σ' H'
def AftR (P : VK) (d : D) : Prop := ∀ v H' os, RepD K (fun a => B a ∨ a ∈ os) H' d v os → os.Nodup → (∀ a o, H a = some o → ((∀ i, a ∉ ow i) ∨ ∃ xs, o = .tup xs) → H' a = some o) → (∀ a ∈ os, (∃ j, a ∈ ow j) ∨ H a = none) → P v H'
def AftX (ρ' : En) (C : Addr) (fs : List (Str × D)) : Prop := ∀ σ' H' ow' cls dd, Stt K B ρ' σ' H' ow' → Ch ow H ow' H' → RepX K H' C fs cls dd → W cls dd σ' H'
def Post (D : Ends) : Out → Prop
  | .nx ρ => Aft K B ow H D.nx ρ
  | .ret d => AftR K B ow H D.rt d
  | .bk ρ => Aft K B ow H D.bk ρ
  | .ct ρ => Aft K B ow H D.ct ρ
  | .exc ρ C fs => AftX K W B ow H ρ C fs
  | .stuck => False
end
def rdS (K : PySem.W.Frag) (W : WX) (f : En → Out) : TS := fun D σ H => ∃ ρ ow B, Stt K B ρ σ H ow ∧ Post K W B ow H D (f ρ)
structure DS (X : Cx) (W : WX) (st : Stmt) (f : En → Out) : Prop where
  ps : PS X st (rdS X.K W f)
structure DSs (X : Cx) (W : WX) (st : List Stmt) (f : En → Out) : Prop where
  pss : PSs X st (rdS X.K W f)
section
variable {K : PySem.W.Frag} {W : WX} {B : Addr → Prop} {ow ow1 : Ow} {H H1 : Hp} {D : Ends}
/-- later on the way -/
theorem Post.later {o : Out} (c : Ch ow H ow1 H1) (h : Post K W B ow H D o) : Post K W B ow1 H1 D o := by
  cases o with
  | nx ρ => exact fun σ' H' ow' s x => h σ' H' ow' s (c.trans x)
  | bk ρ => exact fun σ' H' ow' s x => h σ' H' ow' s (c.trans x)
  | ct ρ => exact fun σ' H' ow' s x => h σ' H' ow' s (c.trans x)
  | exc ρ C fs => exact fun σ' H' ow' cls dd s x => h σ' H' ow' cls dd s (c.trans x)
  | stuck => exact h
  | ret d =>
    intro v H' os r nd k f
    have c2 : Ch ow H (fun _ => os) H' := c.trans ⟨k, fun i a m => f a m⟩
    exact h v H' os r nd c2.keep fun a m => c2.from' 0 a m
end

/-! ### small statements -/
def sSeq (f g : En → Out) : En → Out := fun ρ => match f ρ with
  | .nx ρ' => g ρ'
  | o => o
def sNx : En → Out := .nx
def sBk : En → Out := .bk
def sCt : En → Out := .ct
def lift {α : Type} (r : R α) (ρ : En) (k : α → Out) : Out := match r with
  | .ok a => k a
  | .exc C fs => .exc ρ C fs
  | .stuck => .stuck
@[simp] theorem lift_ok {α : Type} (a : α) (ρ : En) (k : α → Out) : lift (.ok a) ρ k = k a := rfl
@[simp] theorem lift_exc {α : Type} (C fs) (ρ : En) (k : α → Out) : lift (.exc C fs : R α) ρ k = .exc ρ C fs := rfl
@[simp] theorem lift_stuck {α : Type} (ρ : En) (k : α → Out) : lift (.stuck : R α) ρ k = .stuck := rfl
def sIf (c : En → R Bool) (f g : En → Out) : En → Out := fun ρ => lift (c ρ) ρ fun b => if b then f ρ else g ρ
def sRet (f : En → R D) : En → Out := fun ρ => lift (f ρ) ρ .ret
def sRetN : En → Out := fun _ => .ret .non
def frz1 (i : Nat) (ρ : En) : En := match ρ[i]? with
  | some (some d) => ρ.set i (some d.frz)
  | _ => ρ
def frzAt (S : List Nat) (ρ : En) : En := S.foldl (fun ρ i => frz1 i ρ) ρ
/-- x = e -/
def sSet (i : Nat) (S : List Nat) (f : En → R D) : En → Out := fun ρ => lift (f ρ) ρ fun d => .nx ((if d.clean then ρ else frzAt S ρ).set i (some d))
def sDrop (f : En → R D) : En → Out := fun ρ => lift (f ρ) ρ fun _ => .nx ρ

mutual
theorem RepD.cln {K : PySem.W.Frag} {O O' : Addr → Prop} {H : Hp} : ∀ {d : D} {v : V} {os : List Addr}, RepD K O H d v os → d.clean = true → RepD K O' H d v os
  | _, _, _, .non, _ => .non
  | _, _, _, .bl b, _ => .bl b
  | _, _, _, .int b, _ => .int b
  | _, _, _, .str b, _ => .str b
  | _, _, _, .tup h r, c => .tup h (RepL.cln r c)
  | _, _, _, .lstF h _ r, c => nomatch c
  | _, _, _, .kl h r, c => nomatch c
  | _, _, _, .kt h r, c => .kt h (RepL.cln r c)
  | _, _, _, .lstO h r, c => .lstO h (RepL.cln r c)
  | _, _, _, .dkF h n r, c => nomatch c
  | _, _, _, .dkO h r, c => .dkO h (RepK.cln r c)
  | _, _, _, .dtF h n r, c => nomatch c
  | _, _, _, .dtO h r, c => .dtO h (RepT.cln r c)
  | _, _, _, .insF h n r, c => nomatch c
  | _, _, _, .insO h r, c => .insO h (RepF.cln r c)
theorem RepL.cln {K : PySem.W.Frag} {O O' : Addr → Prop} {H : Hp} : ∀ {d : List D} {v : List V} {os : List Addr}, RepL K O H d v os → cleanL d = true → RepL K O' H d v os
  | _, _, _, .nil, _ => .nil
  | _, _, _, .cons h r, c => .cons (RepD.cln h (Bool.and_eq_true_iff.mp c).1) (RepL.cln r (Bool.and_eq_true_iff.mp c).2)
theorem RepK.cln {K : PySem.W.Frag} {O O' : Addr → Prop} {H : Hp} : ∀ {d : List (D × D)} {v : List (Key × V)} {os : List Addr}, RepK K O H d v os → cleanK d = true → RepK K O' H d v os
  | _, _, _, .nil, _ => .nil
  | _, _, _, .cons h r, c => .cons (RepD.cln h (Bool.and_eq_true_iff.mp c).1) (RepK.cln r (Bool.and_eq_true_iff.mp c).2)
theorem RepT.cln {K : PySem.W.Frag} {O O' : Addr → Prop} {H : Hp} : ∀ {d : List (D × D)} {v : List (List Key × V)} {os : List Addr}, RepT K O H d v os → cleanK d = true → RepT K O' H d v os
  | _, _, _, .nil, _ => .nil
  | _, _, _, .cons h r, c => .cons (RepD.cln h (Bool.and_eq_true_iff.mp c).1) (RepT.cln r (Bool.and_eq_true_iff.mp c).2)
theorem RepF.cln {K : PySem.W.Frag} {O O' : Addr → Prop} {H : Hp} : ∀ {d : List (Str × D)} {v : List (Str × V)} {os : List Addr}, RepF K O H d v os → cleanF d = true → RepF K O' H d v os
  | _, _, _, .nil, _ => .nil
  | _, _, _, .cons h r, c => .cons (RepD.cln h (Bool.and_eq_true_iff.mp c).1) (RepF.cln r (Bool.and_eq_true_iff.mp c).2)
end
def putO (ow : Ow) (i : Nat) (os : List Addr) : Ow := fun j => if j = i then os else ow j
def cutO (ow : Ow) (S : List Nat) : Ow := fun j => if j ∈ S then [] else ow j
section
variable {K : PySem.W.Frag} {B : Addr → Prop} {ow : Ow} {H H1 : Hp} {ρ : En} {σ : L2.St}
theorem getElem?_set_some {ρ : En} {i j : Nat} {d d' : Option D} (h : (ρ.set i d)[j]? = some d') : (j = i ∧ d' = d ∧ i < ρ.length) ∨ (j ≠ i ∧ ρ[j]? = some d') := by
  rw [List.getElem?_set] at h
  split at h
  · rename_i e
    split at h
    · rename_i hl
      exact .inl ⟨e.symm, (Option.some.inj h).symm, hl⟩
    · cases h
  · rename_i e
    exact .inr ⟨fun z => e z.symm, h⟩
theorem Stt.frz1 (s : Stt K B ρ σ H ow) (i : Nat) : Stt K B (frz1 i ρ) σ H (cutO ow [i]) := by
  have hO : ∀ a, Oo (cutO ow [i]) B a → Oo ow B a := fun a z => z.imp (fun ⟨j, q⟩ => by
    unfold cutO at q
    split at q
    · exact nomatch q
    · exact ⟨j, q⟩) id
  have hni : ∀ a, Oo (cutO ow [i]) B a → a ∉ ow i := fun a z m => by
    rcases z with ⟨j, q⟩ | q
    · unfold cutO at q
      split at q
      · exact nomatch q
      · rename_i hj
        exact hj (by rw [s.dj j i a q m]; exact List.mem_singleton.mpr rfl)
    · exact s.bo i a m q
  have cutne : ∀ j, j ≠ i → cutO ow [i] j = ow j := fun j h => if_neg fun q => h (List.mem_singleton.mp q)
  have cuti : cutO ow [i] i = [] := if_pos (List.mem_singleton.mpr rfl)
  refine ⟨?_, fun j d h => ?_, fun j h => ?_, fun j => ?_, fun j k a h1 h2 => ?_, s.bt, fun j a h z => ?_⟩
  · unfold TL.frz1
    split
    · rw [List.length_set]; exact s.len
    · exact s.len
  · unfold TL.frz1 at h
    split at h
    · rename_i d0 e0
      rcases getElem?_set_some h with ⟨rfl, e, _⟩ | ⟨hj, e⟩
      · cases e
        obtain ⟨v, h1, r⟩ := s.rep _ _ e0
        refine ⟨v, h1, ?_⟩
        rw [cuti]
        exact r.frz fun a o q z => ⟨hO a z, hni a z⟩
      · obtain ⟨v, h1, r⟩ := s.rep _ _ e
        refine ⟨v, h1, ?_⟩
        rw [cutne j hj]
        exact r.keep (fun a o q z => hO a z) (Kept.of_same (Same.refl _) _)
    · rename_i e0
      have hj : j ≠ i := fun z => e0 d (by rw [← z]; exact h)
      obtain ⟨v, h1, r⟩ := s.rep _ _ h
      refine ⟨v, h1, ?_⟩
      rw [cutne j hj]
      exact r.keep (fun a o q z => hO a z) (Kept.of_same (Same.refl _) _)
  · by_cases hj : j = i
    · rw [hj]; exact cuti
    · rw [cutne j hj]
      refine s.dead j fun d q => h d ?_
      unfold TL.frz1
      split
      · rw [List.getElem?_set_ne (Ne.symm hj)]; exact q
      · exact q
  · unfold cutO
    split
    · exact List.nodup_nil
    · exact s.nd j
  · unfold cutO at h1 h2
    split at h1
    · exact nomatch h1
    · split at h2
      · exact nomatch h2
      · exact s.dj j k a h1 h2
  · unfold cutO at h
    split at h
    · exact nomatch h
    · exact s.bo j a h z
theorem cutO_cons (ow : Ow) (i : Nat) (S : List Nat) : cutO (cutO ow [i]) S = cutO ow (i :: S) := by
  funext j
  unfold cutO
  by_cases h1 : j ∈ S
  · rw [if_pos h1, if_pos (List.mem_cons_of_mem _ h1)]
  · rw [if_neg h1]
    by_cases h2 : j = i
    · rw [if_pos (by rw [h2]; exact List.mem_singleton.mpr rfl), if_pos (by rw [h2]; exact List.mem_cons_self)]
    · rw [if_neg (fun q => h2 (List.mem_singleton.mp q)), if_neg (fun q => (List.mem_cons.mp q).elim h2 h1)]
theorem Stt.frzAt_ : ∀ (S : List Nat) {ρ : En} {ow : Ow}, Stt K B ρ σ H ow → Stt K B (frzAt S ρ) σ H (cutO ow S)
  | [], _, _, s => s
  | i :: S, _, _, s => by
    rw [← cutO_cons]
    exact Stt.frzAt_ S (s.frz1 i)
theorem Stt.frzAt (s : Stt K B ρ σ H ow) (S : List Nat) : Stt K B (frzAt S ρ) σ H (cutO ow S) := Stt.frzAt_ S s
theorem frzAt_length (S : List Nat) : ∀ ρ : En, (frzAt S ρ).length = ρ.length := by
  induction S with
  | nil => intro ρ; rfl
  | cons i S ih =>
    intro ρ
    show (frzAt S (TL.frz1 i ρ)).length = _
    rw [ih]
    unfold TL.frz1
    split
    · rw [List.length_set]
    · rfl
theorem Ch.cut (S : List Nat) : Ch ow H (cutO ow S) H := ⟨fun _ _ e _ => e, fun i a h => by
  unfold cutO at h
  split at h
  · exact nomatch h
  · exact .inl ⟨i, h⟩⟩
/-- a tree that stands in the frame comes to a slot -/
theorem Stt.put {d : D} {v : V} {os : List Addr} {i : Nat} (s : Stt K (fun a => B a ∨ a ∈ os) ρ σ H ow) (hi : i < ρ.length) (r : RepD K (OutS [] ow B os) H d v os) (nd : os.Nodup) (hb : ∀ a ∈ os, ¬ B a) :
    Stt K B (ρ.set i (some d)) (σ.set i (some v)) H (putO ow i os) := by
  have hO : ∀ a, Oo (putO ow i os) B a → OutS [] ow B os a := fun a z => by
    rcases z with ⟨j, q⟩ | q
    · unfold putO at q
      split at q
      · exact .inr (.inr q)
      · exact .inl ⟨j, q, fun z => nomatch z⟩
    · exact .inr (.inl q)
  have hO2 : ∀ a, Oo (putO ow i os) B a → Oo ow (fun a => B a ∨ a ∈ os) a := fun a z => by
    rcases hO a z with ⟨j, q, _⟩ | q | q
    · exact .inl ⟨j, q⟩
    · exact .inr (.inl q)
    · exact .inr (.inr q)
  refine ⟨by rw [List.length_set, List.length_set]; exact s.len, fun j d' h => ?_, fun j h => ?_, fun j => ?_, fun j k a h1 h2 => ?_, fun a z => s.bt a (.inl z), fun j a h z => ?_⟩
  · rcases getElem?_set_some h with ⟨rfl, e, hl⟩ | ⟨hj, e⟩
    · cases e
      refine ⟨v, by rw [List.getElem?_set_self (by rw [← s.len]; exact hl)], ?_⟩
      rw [show putO ow j os j = os from if_pos rfl]
      exact r.keep (fun a o q z => hO a z) (Kept.of_same (Same.refl _) _)
    · obtain ⟨v', h1, r'⟩ := s.rep _ _ e
      refine ⟨v', by rw [List.getElem?_set_ne (Ne.symm hj)]; exact h1, ?_⟩
      rw [show putO ow i os j = ow j from if_neg hj]
      exact r'.keep (fun a o q z => hO2 a z) (Kept.of_same (Same.refl _) _)
  · by_cases hj : j = i
    · exact absurd (by rw [hj, List.getElem?_set_self hi]) (h d)
    · rw [show putO ow i os j = ow j from if_neg hj]
      refine s.dead j fun d' q => h d' ?_
      rw [List.getElem?_set_ne (Ne.symm hj)]; exact q
  · unfold putO
    split
    · exact nd
    · exact s.nd j
  · unfold putO at h1 h2
    split at h1
    · rename_i e1
      split at h2
      · rename_i e2; rw [e1, e2]
      · exact absurd (.inr h1) (s.bo k a h2)
    · rename_i e1
      split at h2
      · exact absurd (.inr h2) (s.bo j a h1)
      · exact s.dj j k a h1 h2
  · unfold putO at h
    split at h
    · exact hb a h z
    · exact s.bo j a h (.inl z)
/-- new parts go to the frame -/
theorem Stt.withNew {os : List Addr} (s : Stt K B ρ σ H ow) (e : Same H H1) (n : ∀ a ∈ os, H a = none) (t : ∀ a ∈ os, H1 a ≠ none) : Stt K (fun a => B a ∨ a ∈ os) ρ σ H1 ow :=
  s.grow e (fun a o q z => z.elim id fun z => by rw [n a z] at q; cases q) fun a z => z.elim (fun z q => s.bt a z (e.free q)) (t a)
/-- the value of an expression, ready to be put: S frozen if it must be -/
theorem Stt.ready {S : List Nat} {d : D} {v : V} {os : List Addr} (s : Stt K B ρ σ H ow) (e : Same H H1) (r : RepD K (OutS S ow B os) H1 d v os) (n : ∀ a ∈ os, H a = none) :
    ∃ ow1, Stt K (fun a => B a ∨ a ∈ os) (if d.clean then ρ else TL.frzAt S ρ) σ H1 ow1 ∧ RepD K (OutS [] ow1 B os) H1 d v os ∧ Ch ow H ow1 H1 := by
  have s1 := s.withNew e n r.there
  by_cases c : d.clean = true
  · rw [if_pos c]
    exact ⟨ow, s1, r.cln c, Ch.same e⟩
  · rw [if_neg c]
    refine ⟨cutO ow S, s1.frzAt S, r.keep (fun a o q z => ?_) (Kept.of_same (Same.refl _) _), (Ch.same e).trans (Ch.cut S)⟩
    rcases z with ⟨j, q, _⟩ | z
    · unfold cutO at q
      split at q
      · exact nomatch q
      · rename_i hj
        exact .inl ⟨j, q, hj⟩
    · exact .inr z
theorem Ch.put {ow ow1 : Ow} {i : Nat} {os : List Addr} (c : Ch ow H ow1 H1) (n : ∀ a ∈ os, (∃ j, a ∈ ow j) ∨ H a = none) : Ch ow H (putO ow1 i os) H1 := ⟨c.keep, fun j a h => by
  unfold putO at h
  split at h
  · exact n a h
  · exact c.from' j a h⟩
/-- an expression ahead of something -/
theorem rdS_expr {W : WX} {S : List Nat} {f : En → R D} {k : En → D → Out} {Ds : Ends} {Z : VK} (h : rdS K W (fun ρ => lift (f ρ) ρ (k ρ)) Ds σ H)
    (hz : ∀ ρ ow B d v os H1, Stt K B ρ σ H ow → Same H H1 → RepD K (OutS S ow B os) H1 d v os → os.Nodup → (∀ a ∈ os, H a = none) → Post K W B ow H Ds (k ρ d) → Z v H1) : rd K W S f σ H Z := by
  obtain ⟨ρ, ow, B, st, h⟩ := h
  refine ⟨ρ, ow, B, st, ?_⟩
  dsimp only at h
  cases e : f ρ with
  | stuck => rw [e] at h; exact h
  | exc C fs => rw [e] at h; exact fun cls dd H' s x => h σ H' ow cls dd (st.same s) (Ch.same s) x
  | ok d =>
    rw [e] at h
    exact fun v H' os s r nd n => hz ρ ow B d v os H' st s r nd n h
end
section
variable {X : Cx} {W : WX} {S : List Nat} {pos pos' : Pos} {e c : Expr} {f g : En → Out} {fe : En → R D} {fc : En → R Bool} {st : Stmt} {rest a b : List Stmt}
theorem dss_nil : DSs X W [] sNx := ⟨pss_nil.imp fun D σ H ⟨ρ, ow, B, s, h⟩ => h σ H ow s (Ch.refl _ _)⟩
theorem dss_cons (h1 : DS X W st f) (h2 : DSs X W rest g) : DSs X W (st :: rest) (sSeq f g) :=
  ⟨(pss_cons h1.ps h2.pss).imp fun D σ H ⟨ρ, ow, B, s, h⟩ => by
    refine ⟨ρ, ow, B, s, ?_⟩
    unfold sSeq at h
    cases e : f ρ with
    | nx ρ' =>
      rw [e] at h
      exact fun σ' H' ow' s' c => ⟨ρ', ow', B, s', h.later c⟩
    | ret d => rw [e] at h; exact h
    | bk ρ' => rw [e] at h; exact h
    | ct ρ' => rw [e] at h; exact h
    | exc ρ' C fs => rw [e] at h; exact h
    | stuck => rw [e] at h; exact h⟩
theorem dss_one (h1 : DS X W st f) : DSs X W [st] f := ⟨pss_one h1.ps⟩
theorem ds_pass : DS X W (.Pass pos) sNx := ⟨ps_pass.imp fun D σ H ⟨ρ, ow, B, s, h⟩ => h σ H ow s (Ch.refl _ _)⟩
theorem ds_break : DS X W (.Break pos) sBk := ⟨ps_break.imp fun D σ H ⟨ρ, ow, B, s, h⟩ => h σ H ow s (Ch.refl _ _)⟩
theorem ds_cont : DS X W (.Continue pos) sCt := ⟨ps_continue.imp fun D σ H ⟨ρ, ow, B, s, h⟩ => h σ H ow s (Ch.refl _ _)⟩
theorem ds_if (hc : DT X W c fc) (ha : DSs X W a f) (hb : DSs X W b g) : DS X W (.If c a b pos) (sIf fc f g) :=
  ⟨(ps_if hc.pt ha.pss hb.pss).imp fun D σ H ⟨ρ, ow, B, s, h⟩ => by
    refine ⟨ρ, ow, B, s, ?_⟩
    unfold sIf at h
    cases e : fc ρ with
    | stuck => rw [e] at h; exact h
    | exc C fs => rw [e] at h; exact fun cls dd H' q x => h σ H' ow cls dd (s.same q) (Ch.same q) x
    | ok t =>
      rw [e] at h
      intro H' q
      cases t with
      | true =>
        rw [if_pos rfl]
        exact ⟨ρ, ow, B, s.same q, Post.later (Ch.same q) h⟩
      | false =>
        rw [if_neg Bool.false_ne_true]
        exact ⟨ρ, ow, B, s.same q, Post.later (Ch.same q) h⟩⟩
theorem ds_ret (he : DE X W S e fe) : DS X W (.Return (some e) pos) (sRet fe) :=
  ⟨(ps_ret he.pe).imp fun D σ H h => rdS_expr (k := fun _ d => .ret d) h fun ρ ow B d v os H1 s q r nd n p =>
    p v H1 os (r.keep (fun a o _ z => z.elim (fun z => .inr (.inl z)) fun z => .inr (.inr z)) (Kept.of_same (Same.refl _) _)) nd (fun a o h _ => q a o h) fun a m => .inr (n a m)⟩
theorem ds_retN : DS X W (.Return none pos) sRetN := ⟨ps_retN.imp fun D σ H ⟨ρ, ow, B, s, h⟩ => h .non H [] .non List.nodup_nil (fun a o e _ => e) fun _ z => nomatch z⟩
theorem ds_drop (he : DE X W S e fe) (hs : swapsWith e none pos.line X.env = pure false := by rfl) : DS X W (.Expr e pos) (sDrop fe) :=
  ⟨(ps_expr he.pe hs).imp fun D σ H h => rdS_expr (k := fun ρ d => .nx ρ) h fun ρ ow B d v os H1 s q r nd n p => p σ H1 ow (s.same q) (Ch.same q)⟩
theorem ds_set {i : Nat} {x : Str} (hN : X.N.Nodup) (hi : X.N[i]? = some x) (hx : Loc X.env.scope x) (he : DE X W S e fe) (hs : swapsWith e (some (.Name x pos')) pos.line X.env = pure false := by rfl)
    (hf : X.fn x = true ∨ X.env.scope.names.lookup x = some .local := by first | exact .inl rfl | exact .inr rfl | assumption) : DS X W (.Assign [.Name x pos'] e pos) (sSet i S fe) :=
  ⟨⟨fun pins s σ H D I h => (ps_set hN hi hx he.pe hs hf).run pins s σ H D I (rdS_expr (k := fun ρ d => .nx ((if d.clean then ρ else frzAt S ρ).set i (some d))) h fun ρ ow B d v os H1 s q r nd n p => by
    obtain ⟨ow1, s1, r1, c1⟩ := s.ready q r n
    refine p _ H1 (putO ow1 i os) (s1.put ?_ r1 nd fun a m z => ?_) (c1.put fun a m => .inr (n a m))
    · rw [s1.len, I.len]
      exact (List.getElem?_eq_some_iff.mp hi).1
    · exact s.bt a z (n a m))⟩⟩
end
end TL
/-! T4: targets, loops, comprehensions over trees -/
namespace TL
open PySem PySem.Spec PyProof.Rows L2

/-! ### targets -/
abbrev FromT (ow : Ow) (os : List Addr) (ow' : Ow) : Prop := ∀ i a, a ∈ ow' i → (∃ j, a ∈ ow j) ∨ a ∈ os
/-- slots but those of T stay -/
def Stay (T : List Nat) (σ σ' : L2.St) : Prop := σ'.length = σ.length ∧ ∀ j, j ∉ T → σ'[j]? = σ[j]?
theorem Stay.refl (T : List Nat) (σ : L2.St) : Stay T σ σ := ⟨rfl, fun _ _ => rfl⟩
theorem Stay.trans {T T' : List Nat} {σ σ1 σ2 : L2.St} (a : Stay T σ σ1) (b : Stay T' σ1 σ2) : Stay (T ++ T') σ σ2 :=
  ⟨b.1.trans a.1, fun j h => (b.2 j fun q => h (List.mem_append_right _ q)).trans (a.2 j fun q => h (List.mem_append_left _ q))⟩
def rdG (K : PySem.W.Frag) (T : List Nat) (g : D → En → Option En) : TG := fun v σ H Q => ∃ ρ ow B d os, Stt K (fun a => B a ∨ a ∈ os) ρ σ H ow ∧ RepD K (OutS [] ow B os) H d v os ∧ os.Nodup ∧ (∀ a ∈ os, ¬ B a) ∧
  match g d ρ with
  | some ρ' => ∀ σ' ow', Stt K B ρ' σ' H ow' → FromT ow os ow' → Stay T σ σ' → Q σ' H
  | none => False
def rdGs (K : PySem.W.Frag) (T : List Nat) (g : List D → En → Option En) : TGs := fun vs σ H Q => ∃ ρ ow B ds os, Stt K (fun a => B a ∨ a ∈ os) ρ σ H ow ∧ RepL K (OutS [] ow B os) H ds vs os ∧ os.Nodup ∧ (∀ a ∈ os, ¬ B a) ∧
  match g ds ρ with
  | some ρ' => ∀ σ' ow', Stt K B ρ' σ' H ow' → FromT ow os ow' → Stay T σ σ' → Q σ' H
  | none => False
structure DG (X : Cx) (T : List Nat) (tg : Expr) (g : D → En → Option En) : Prop where
  pg : PG X tg (rdG X.K T g)
structure DGs (X : Cx) (T : List Nat) (tg : List Expr) (g : List D → En → Option En) : Prop where
  pgs : PGs X tg (rdGs X.K T g)
theorem _root_.L2.PG.imp {X : Cx} {e : Expr} {t t' : TG} (h : PG X e t) (m : ∀ v σ H Q, t' v σ H Q → t v σ H Q) : PG X e t' := ⟨fun pins s σ H v u Q I r q => h.run pins s σ H v u Q I r (m v σ H Q q)⟩
theorem _root_.L2.PGs.imp {X : Cx} {e : List Expr} {t t' : TGs} (h : PGs X e t) (m : ∀ v σ H Q, t' v σ H Q → t v σ H Q) : PGs X e t' := ⟨fun pins s σ H v u Q I r q => h.run pins s σ H v u Q I r (m v σ H Q q)⟩
def gSet (i : Nat) : D → En → Option En := fun d ρ => if i < ρ.length then some (ρ.set i (some d)) else none
def gTupD (n : Nat) (g : List D → En → Option En) : D → En → Option En := fun d ρ => match d with
  | .tup xs => if xs.length = n then g xs ρ else none
  | .kt xs => if xs.length = n then g xs ρ else none
  | _ => none
def gLstD (n : Nat) (g : List D → En → Option En) : D → En → Option En := fun d ρ => match d with
  | .lst _ xs => if xs.length = n then g (frzL xs) ρ else none
  | _ => none
def gsNil : List D → En → Option En := fun ds ρ => match ds with
  | [] => some ρ
  | _ => none
def gsCons (g : D → En → Option En) (h : List D → En → Option En) : List D → En → Option En := fun ds ρ => match ds with
  | d :: r => (g d ρ).bind (h r)
  | [] => none
theorem Stt.swap {K : PySem.W.Frag} {B B' : Addr → Prop} {ρ : En} {σ : L2.St} {H : Hp} {ow : Ow} (s : Stt K B ρ σ H ow) (h : ∀ a, B' a → B a) : Stt K B' ρ σ H ow :=
  s.grow (Same.refl H) (fun a _ _ z => h a z) fun a z => s.bt a (h a z)
theorem RepL.length {K : PySem.W.Frag} {O : Addr → Prop} {H : Hp} : ∀ {xs : List D} {vs : List V} {os : List Addr}, RepL K O H xs vs os → xs.length = vs.length
  | _, _, _, .nil => rfl
  | _, _, _, .cons _ r => congrArg (· + 1) (RepL.length r)
section
variable {X : Cx} {T T' : List Nat} {pos : Pos} {e : Expr} {es : List Expr} {g : D → En → Option En} {gs : List D → En → Option En}
theorem dg_name {i : Nat} {x : Str} (hN : X.N.Nodup) (hi : X.N[i]? = some x) (hx : Loc X.env.scope x) (hf : X.fn x = true ∨ X.env.scope.names.lookup x = some .local := by first | exact .inl rfl | exact .inr rfl | assumption) : DG X [i] (.Name x pos) (gSet i) :=
  ⟨(pg_name hN hi hx hf).imp fun v σ H Q ⟨ρ, ow, B, d, os, s, r, nd, hb, h⟩ => by
    unfold gSet at h
    by_cases hl : i < ρ.length
    · rw [if_pos hl] at h
      refine h _ (putO ow i os) (s.put hl r nd hb) (fun j a m => ?_) ⟨List.length_set, fun j hj => List.getElem?_set_ne fun z => hj (List.mem_singleton.mpr z.symm)⟩
      unfold putO at m
      split at m
      · exact .inr m
      · exact .inl ⟨j, m⟩
    · rw [if_neg hl] at h; exact h.elim⟩
theorem dgs_nil : DGs X [] [] gsNil := ⟨pgs_nil.imp fun vs σ H Q ⟨ρ, ow, B, ds, os, s, r, nd, hb, h⟩ => by
  cases r with
  | nil => exact ⟨rfl, h σ ow (s.swap fun a z => .inl z) (fun i a m => .inl ⟨i, m⟩) (Stay.refl _ _)⟩
  | cons _ _ => exact h.elim⟩
theorem dgs_cons (h1 : DG X T e g) (h2 : DGs X T' es gs) (hs : (assignEach (e :: es) X.env).map (·.2) = assign e X.env :: (assignEach es X.env).map (·.2) := by rfl) : DGs X (T ++ T') (e :: es) (gsCons g gs) :=
  ⟨(pgs_cons h1.pg h2.pgs hs).imp fun vs σ H Q ⟨ρ, ow, B, ds, os, s, r, nd, hb, h⟩ => by
    cases r with
    | nil => exact h.elim
    | @cons d v ds vs o1 o2 r1 r2 =>
      unfold gsCons at h
      dsimp only at h
      obtain ⟨n1, n2, n12⟩ := List.nodup_append.mp nd
      refine ⟨v, vs, rfl, ρ, ow, fun a => B a ∨ a ∈ o2, d, o1, s.swap fun a z => ?_, r1.keep (fun a o _ z => ?_) (Kept.of_same (Same.refl _) _), n1, fun a m z => ?_, ?_⟩
      · rcases z with (z | z) | z
        · exact .inl z
        · exact .inr (List.mem_append_right _ z)
        · exact .inr (List.mem_append_left _ z)
      · rcases z with z | (z | z) | z
        · exact .inl z
        · exact .inr (.inl z)
        · exact .inr (.inr (List.mem_append_right _ z))
        · exact .inr (.inr (List.mem_append_left _ z))
      · rcases z with z | z
        · exact hb a (List.mem_append_left _ m) z
        · exact n12 a m a z rfl
      · cases eg : g d ρ with
        | none => rw [eg] at h; exact h
        | some ρ1 =>
          rw [eg] at h
          intro σ1 ow1 s1 c1 y1
          have hO : ∀ a o, H a = some o → OutS [] ow1 B o2 a → OutS [] ow B (o1 ++ o2) a := fun a o e z => by
            rcases z with ⟨i, z, _⟩ | z | z
            · rcases c1 i a z with ⟨j, q⟩ | q
              · exact .inl ⟨j, q, fun q => nomatch q⟩
              · exact .inr (.inr (List.mem_append_left _ q))
            · exact .inr (.inl z)
            · exact .inr (.inr (List.mem_append_right _ z))
          refine ⟨ρ1, ow1, B, ds, o2, s1, r2.keep hO (Kept.of_same (Same.refl _) _), n2, fun a m => hb a (List.mem_append_right _ m), ?_⟩
          dsimp only [Option.bind_some] at h
          cases eg2 : gs ds ρ1 with
          | none => rw [eg2] at h; exact h
          | some ρ2 =>
            rw [eg2] at h
            intro σ2 ow2 s2 c2 y2
            refine h σ2 ow2 s2 (fun i a m => ?_) (y1.trans y2)
            rcases c2 i a m with ⟨j, q⟩ | q
            · exact (c1 j a q).imp id (List.mem_append_left _)
            · exact .inr (List.mem_append_right _ q)⟩
theorem dg_tup {k n : Nat} (hc : X.calm = true) (h : DGs X T es gs) (hn : (assignEach es X.env).length = n := by rfl) (hst : (assignEach es X.env).findIdx? (·.1) = none := by rfl) : DG X T (.Tuple es k pos) (gTupD n gs) :=
  ⟨(pg_tup hc h.pgs hn hst).imp fun v σ H Q ⟨ρ, ow, B, d, os, s, r, nd, hb, h⟩ => by
    unfold gTupD at h
    cases r with
    | @tup a vs xs _ hh rl =>
      dsimp only at h
      by_cases hl : xs.length = n
      · rw [if_pos hl] at h
        exact ⟨a, vs, rfl, .inl (.inl hh), by rw [← rl.length, hl], ρ, ow, B, xs, os, s, rl, nd, hb, h⟩
      · rw [if_neg hl] at h; exact h.elim
    | @kt a vs xs hh rl =>
      dsimp only at h
      by_cases hl : xs.length = n
      · rw [if_pos hl] at h
        exact ⟨a, vs, rfl, .inr hh, by rw [← rl.length, hl], ρ, ow, B, xs, [], s, rl, nd, hb, h⟩
      · rw [if_neg hl] at h; exact h.elim
    | _ => exact h.elim⟩
/-- a list taken apart -/
theorem dg_lst {k n : Nat} (hc : X.calm = true) (h : DGs X T es gs) (hn : (assignEach es X.env).length = n := by rfl) (hst : (assignEach es X.env).findIdx? (·.1) = none := by rfl) : DG X T (.Tuple es k pos) (gLstD n gs) :=
  ⟨(pg_lst hc h.pgs hn hst).imp fun v σ H Q ⟨ρ, ow, B, d, os, s, r, nd, hb, h⟩ => by
    have hO : ∀ a o, H a = some o → OutS [] ow B [] a → OutS [] ow B os a ∧ a ∉ os := fun a o e z => by
      rcases z with ⟨i, z, q⟩ | z | z
      · exact ⟨.inl ⟨i, z, q⟩, fun m => s.bo i a z (.inr m)⟩
      · exact ⟨.inr (.inl z), fun m => hb a m z⟩
      · exact nomatch z
    have r' := r.frz hO
    unfold gLstD at h
    cases d with
    | lst o xs =>
      have r'' : RepD X.K (OutS [] ow B []) H (.lst false (frzL xs)) v [] := r'
      cases r'' with
      | @lstF a vs _ hh _ rl =>
        dsimp only at h
        by_cases hl : xs.length = n
        · rw [if_pos hl] at h
          have hlf : (frzL xs).length = xs.length := by
            clear h rl hh r r' hl
            induction xs with
            | nil => rfl
            | cons x xs ih => exact congrArg (· + 1) ih
          refine ⟨a, vs, rfl, .inl hh, by rw [← rl.length, hlf, hl], ρ, ow, B, frzL xs, [], s.swap (fun a z => z.elim .inl fun z => nomatch z), rl, List.nodup_nil, (fun _ z => nomatch z), ?_⟩
          cases eg : gs (frzL xs) ρ with
          | none => rw [eg] at h; exact h
          | some ρ1 => rw [eg] at h; exact fun σ1 ow1 s1 c1 y1 => h σ1 ow1 s1 (fun i a m => (c1 i a m).imp id fun z => nomatch z) y1
        · rw [if_neg hl] at h; exact h.elim
    | non => exact h.elim
    | bl b => exact h.elim
    | int i => exact h.elim
    | str i => exact h.elim
    | tup i => exact h.elim
    | dct o t i => exact h.elim
    | ins o i j => exact h.elim
    | kt i => exact h.elim
    | kl i => exact h.elim⟩
end
theorem RepL.get {K : PySem.W.Frag} {O : Addr → Prop} {H : Hp} : ∀ {xs : List D} {vs : List V} {i : Nat} {d : D}, RepL K O H xs vs [] → xs[i]? = some d → ∃ v, vs[i]? = some v ∧ RepD K O H d v [] := by
  intro xs
  induction xs with
  | nil => intro vs i d r h; simp at h
  | cons x xs ih =>
    intro vs i d r h
    generalize he : ([] : List Addr) = os at r
    cases r with
    | @cons _ v _ vs' o1 o2 r1 r2 =>
      obtain ⟨e1, e2⟩ := List.append_eq_nil_iff.mp he.symm
      subst e1 e2
      cases i with
      | zero => simp at h; subst h; exact ⟨v, rfl, r1⟩
      | succ i =>
        have q := ih r2 (i := i) (d := d) (by simpa using h)
        simpa using q

/-! ### target = value -/
def sAsg (S : List Nat) (g : D → En → Option En) (f : En → R D) : En → Out := fun ρ => lift (f ρ) ρ fun d => match g d (if d.clean then ρ else frzAt S ρ) with
  | some ρ' => .nx ρ'
  | none => .stuck
section
variable {X : Cx} {W : WX} {S T : List Nat} {pos : Pos} {e tg : Expr} {g : D → En → Option En} {fe : En → R D}
theorem ds_asg (he : DE X W S e fe) (hg : DG X T tg g) (hs : swapsWithSole [tg] e pos.line X.env = pure false := by rfl) (hw : swappedStores [tg] e X.env = pure none := by rfl)
    (h1 : (assignEach [tg] X.env).map (·.2) = [assign tg X.env] := by rfl) : DS X W (.Assign [tg] e pos) (sAsg S g fe) :=
  ⟨(ps_asg he.pe hg.pg hs hw h1).imp fun D σ H h => rdS_expr (k := fun ρ d => match g d (if d.clean then ρ else frzAt S ρ) with | some ρ' => .nx ρ' | none => .stuck) h fun ρ ow B d v os H1 s q r nd n p => by
    obtain ⟨ow1, s1, r1, c1⟩ := s.ready q r n
    refine ⟨_, ow1, B, d, os, s1, r1, nd, fun a m z => s.bt a z (n a m), ?_⟩
    cases eg : g d (if d.clean then ρ else frzAt S ρ) with
    | none => rw [eg] at p; exact p
    | some ρ' =>
      rw [eg] at p
      intro σ' ow' s' c' _
      refine p σ' H1 ow' s' ⟨c1.keep, fun i a m => ?_⟩
      rcases c' i a m with ⟨j, q⟩ | q
      · exact c1.from' j a q
      · exact .inr (n a q)⟩
end

/-! ### what is walked -/
def ItOk (K : PySem.W.Frag) (O : Addr → Prop) (J : It) (H : Hp) (ds : List D) : Prop := ∀ H2, Kept O H H2 [] → ∀ i,
  (∀ d, ds[i]? = some d → J.go i H2 ∧ ∀ x H3, J.yld i H2 x H3 → Same H2 H3 ∧ ∀ O' : Addr → Prop, (∀ a o, H a = some o → O' a → O a) → RepD K O' H3 d x []) ∧ (ds.length ≤ i → J.stop i H2)
def rdI (K : PySem.W.Frag) (W : WX) (S : List Nat) (f : En → R (List D)) : TI := fun σ H R => ∃ ρ ow B, Stt K B ρ σ H ow ∧ match f ρ with
  | .ok ds => ∀ J H', Same H H' → ItOk K (OutS S ow B []) J H' ds → ds.length ≤ sizeLine → R J H'
  | .exc C fs => rdEx K W σ H C fs
  | .stuck => False
structure DI (X : Cx) (W : WX) (S : List Nat) (tg iter : Expr) (f : En → R (List D)) : Prop where
  pi : PI X tg iter (rdI X.K W S f)
theorem _root_.L2.PI.imp {X : Cx} {tg e : Expr} {t t' : TI} (h : PI X tg e t) (m : ∀ σ H Q, t' σ H Q → t σ H Q) : PI X tg e t' := ⟨fun pins s σ H Q I q => h.run pins s σ H Q I (m σ H Q q)⟩
/-- a list or a tuple -/
def seqItems : D → R (List D)
  | .lst _ xs => .ok (frzL xs)
  | .tup xs => .ok (frzL xs)
  | .kl xs => .ok (frzL xs)
  | .kt xs => .ok (frzL xs)
  | _ => .stuck
def iSeq (f : En → R D) : En → R (List D) := fun ρ => (f ρ).bind seqItems
section
variable {X : Cx} {tg l : Expr} {tl : TE}
theorem pi_seq (hl : PE X l tl) : PI X tg l (fun σ H R => tl σ H fun x H1 => ∃ a, x = .ref a ∧ (((∃ xs, SqL X.K H1 a xs ∧ (xs.length ≤ sizeLine → R (Itl X.K a) H1))) ∨ ((∃ xs, SqT X.K H1 a xs ∧ (xs.length ≤ sizeLine → R (Itt X.K a) H1))))) :=
  ⟨fun pins s σ H R I h => thn (hl.run pins s σ H _ I h) fun v t ⟨x, H1, J, rx, a, ex, c⟩ => by
    subst ex
    cases rx
    rcases c with ⟨xs, q, k⟩ | ⟨xs, q, k⟩
    · obtain ⟨us, _, pl, z⟩ := J.list q
      exact wpAny_pyIter_list pl.isList (pi_one (tk := t.toks) J _ (turn_list a _) ⟨_, Heap.get?_push_size _ rfl, rfl, rfl⟩ (k z))
    · obtain ⟨us, _, pt, z⟩ := J.tuple q
      exact wpAny_pyIter_tuple (items := us.toArray) pt (pi_one (tk := t.toks) J _ (turn_tuple a _) ⟨_, Heap.get?_push_size _ rfl, rfl, rfl⟩ (k z))⟩
end
theorem Kept.tup' {O : Addr → Prop} {H H' : Hp} {os : List Addr} (k : Kept O H H' os) {a : Addr} {xs : List V} (h : H a = some (.tup xs)) : H' a = some (.tup xs) := k a _ h (.inr (.inr ⟨_, rfl⟩))
section
variable {X : Cx} {W : WX} {S : List Nat} {tg l : Expr} {fe : En → R D}
theorem it_list {K : PySem.W.Frag} {O : Addr → Prop} {H : Hp} {a : Addr} {vs : List V} {xs : List D} (h : (Rd H a (.lst vs) ∧ ¬ O a) ∨ KLs K a vs) (r : RepL K O H xs vs []) : ItOk K O (Itl K a) H xs := by
  intro H2 k i
  have hq : SqL K H2 a vs := h.imp (fun q => k.rd q.2 q.1) id
  refine ⟨fun d hd => ?_, fun hi => ⟨vs, hq, by rw [← r.length]; exact hi⟩⟩
  obtain ⟨v, hv, rv⟩ := r.get hd
  refine ⟨⟨vs, v, hq, hv⟩, fun x H3 y => ?_⟩
  obtain ⟨e, y⟩ := y
  subst e
  have ex : x = v := Option.some.inj ((y vs hq).symm.trans hv)
  subst ex
  exact ⟨Same.refl _, fun O' hO => rv.keep hO k⟩
theorem it_tup {K : PySem.W.Frag} {O : Addr → Prop} {H : Hp} {a : Addr} {vs : List V} {xs : List D} (h : H a = some (.tup vs) ∨ KTp K a vs) (r : RepL K O H xs vs []) : ItOk K O (Itt K a) H xs := by
  intro H2 k i
  have hq : SqT K H2 a vs := h.imp (fun q => .inl (k.tup' q)) id
  refine ⟨fun d hd => ?_, fun hi => ⟨vs, hq, by rw [← r.length]; exact hi⟩⟩
  obtain ⟨v, hv, rv⟩ := r.get hd
  refine ⟨⟨vs, v, hq, hv⟩, fun x H3 y => ?_⟩
  obtain ⟨e, y⟩ := y
  subst e
  have ex : x = v := Option.some.inj ((y vs hq).symm.trans hv)
  subst ex
  exact ⟨Same.refl _, fun O' hO => rv.keep hO k⟩
theorem di_seq (he : DE X W S l fe) : DI X W S tg l (iSeq fe) :=
  ⟨(pi_seq he.pe).imp fun σ H R ⟨ρ, ow, B, s, h⟩ => by
    refine ⟨ρ, ow, B, s, ?_⟩
    unfold iSeq at h
    cases e : fe ρ with
    | stuck => rw [e] at h; exact h
    | exc C fs => rw [e] at h; exact h
    | ok d =>
      rw [e] at h
      intro v H' os q r nd n
      have r' := r.frz (O' := OutS S ow B []) fun a o e z => ⟨z.imp id (fun z => z.imp id fun z => nomatch z), fun m => by
        rcases z with ⟨i, z, _⟩ | z | z
        · exact s.there z (n a m)
        · exact s.bt a z (n a m)
        · exact nomatch z⟩
      cases d with
      | lst o xs =>
        have r'' : RepD X.K (OutS S ow B []) H' (.lst false (frzL xs)) v [] := r'
        cases r'' with
        | lstF hh n0 rl => exact ⟨_, rfl, .inl ⟨_, .inl hh, fun hz => h _ H' q (it_list (.inl ⟨hh, n0⟩) rl) (by rw [rl.length]; exact hz)⟩⟩
      | kl xs =>
        have r'' : RepD X.K (OutS S ow B []) H' (.kl (frzL xs)) v [] := r'
        cases r'' with
        | kl hh rl => exact ⟨_, rfl, .inl ⟨_, hh.imp (fun q => q.1) id, fun hz => h _ H' q (it_list hh rl) (by rw [rl.length]; exact hz)⟩⟩
      | tup xs =>
        have r'' : RepD X.K (OutS S ow B []) H' (.tup (frzL xs)) v [] := r'
        cases r'' with
        | tup hh rl => exact ⟨_, rfl, .inr ⟨_, .inl (.inl hh), fun hz => h _ H' q (it_tup (.inl hh) rl) (by rw [rl.length]; exact hz)⟩⟩
      | kt xs =>
        have r'' : RepD X.K (OutS S ow B []) H' (.kt (frzL xs)) v [] := r'
        cases r'' with
        | kt hh rl => exact ⟨_, rfl, .inr ⟨_, .inr hh, fun hz => h _ H' q (it_tup (.inr hh) rl) (by rw [rl.length]; exact hz)⟩⟩
      | non => exact h.elim
      | bl b => exact h.elim
      | int i => exact h.elim
      | str i => exact h.elim
      | dct o t i => exact h.elim
      | ins o i j => exact h.elim⟩
end
/-- range -/
def upto (lo : Int) (n : Nat) : List D := (List.range n).map fun (k : Nat) => D.int (lo + k)
def iR1 (f : En → R (List D)) : En → R (List D) := fun ρ => (f ρ).bind fun ds => match ds with
  | [.int j] => if -(2 ^ 62) ≤ j ∧ j ≤ 2 ^ 24 then .ok (upto 0 j.toNat) else .stuck
  | _ => .stuck
def iR2 (f : En → R (List D)) : En → R (List D) := fun ρ => (f ρ).bind fun ds => match ds with
  | [.int i, .int j] => if -(2 ^ 23) ≤ i ∧ i ≤ 2 ^ 23 ∧ -(2 ^ 23) ≤ j ∧ j ≤ 2 ^ 23 then .ok (upto i (j - i).toNat) else .stuck
  | _ => .stuck
theorem it_range {K : PySem.W.Frag} {O : Addr → Prop} {H : Hp} (lo : Int) (n : Nat) : ItOk K O (Itr lo n) H (upto lo n) := by
  intro H2 k i
  refine ⟨fun d hd => ?_, fun hi => ?_⟩
  · unfold upto at hd
    rw [List.getElem?_map] at hd
    obtain ⟨j, hj, e⟩ := Option.map_eq_some_iff.mp hd
    obtain ⟨hl, e2⟩ := List.getElem?_eq_some_iff.mp hj
    rw [List.length_range] at hl
    rw [List.getElem_range] at e2
    subst e2 e
    refine ⟨hl, fun x H3 y => ?_⟩
    obtain ⟨rfl, rfl⟩ := y
    exact ⟨Same.refl _, fun O' _ => .int _⟩
  · unfold upto at hi
    rw [List.length_map, List.length_range] at hi
    exact hi
section
variable {X : Cx} {W : WX} {S : List Nat} {tg a b : Expr} {p pos : Pos} {fa : En → R (List D)}
theorem rdI_args {K : PySem.W.Frag} {σ : L2.St} {H : Hp} {F : List D → R (List D)} {R : It → Hp → Prop} {Z : List V → Hp → Prop} (h : rdI K W S (fun ρ => (fa ρ).bind F) σ H R)
    (hz : ∀ ρ ow B ds vs os H1, Stt K B ρ σ H ow → Same H H1 → RepL K (OutS S ow B os) H1 ds vs os → (∀ a ∈ os, H a = none) → (match F ds with
      | .ok ds => ∀ J H', Same H H' → ItOk K (OutS S ow B []) J H' ds → ds.length ≤ sizeLine → R J H'
      | .exc C fs => rdEx K W σ H C fs
      | .stuck => False) → Z vs H1) : rdA K W S fa σ H Z := by
  obtain ⟨ρ, ow, B, s, h⟩ := h
  refine ⟨ρ, ow, B, s, ?_⟩
  dsimp only at h
  cases e : fa ρ with
  | stuck => rw [e] at h; exact h
  | exc C fs => rw [e] at h; exact h
  | ok ds =>
    rw [e] at h
    exact fun vs H1 os q r nd n => hz ρ ow B ds vs os H1 s q r n h
theorem di_range1 (hg : Gl X "range") (hm : X.mg "range" = none) (ha : DA X W S [a] fa) (hs : starEach [a] X.env = [(false, eval a X.env)] := by rfl) : DI X W S tg (.Call (.Name "range" p) [a] [] pos) (iR1 fa) :=
  ⟨(pi_range1 hg hm ha.pa hs).imp fun σ H R h => rdI_args h fun ρ ow B ds vs os H1 s q r n h => by
    cases ds with
    | nil => exact h.elim
    | cons d ds =>
      cases ds with
      | cons _ _ => cases d <;> exact h.elim
      | nil =>
        cases d with
        | int j =>
          cases r with
          | cons r1 r2 =>
            cases r1
            cases r2
            dsimp only at h
            by_cases hb : -(2 ^ 62) ≤ j ∧ j ≤ 2 ^ 24
            · rw [if_pos hb] at h
              exact ⟨j, rfl, hb.1, by have := hb.2; omega, h _ H1 q (it_range 0 _) (by unfold upto; rw [List.length_map, List.length_range, sizeLine_eq]; have := hb.2; omega)⟩
            · rw [if_neg hb] at h; exact h.elim
        | _ => exact h.elim⟩
theorem di_range2 (hg : Gl X "range") (hm : X.mg "range" = none) (ha : DA X W S [a, b] fa) (hs : starEach [a, b] X.env = [(false, eval a X.env), (false, eval b X.env)] := by rfl) (hs2 : starEach [b] X.env = [(false, eval b X.env)] := by rfl) : DI X W S tg (.Call (.Name "range" p) [a, b] [] pos) (iR2 fa) :=
  ⟨(pi_range2 hg hm ha.pa hs hs2).imp fun σ H R h => rdI_args h fun ρ ow B ds vs os H1 s q r n h => by
    match ds, r, h with
    | [.int i, .int j], r, h =>
      cases r with
      | cons r1 r2 =>
        cases r2 with
        | cons r2 r3 =>
          cases r1
          cases r2
          cases r3
          dsimp only at h
          by_cases hb : -(2 ^ 23) ≤ i ∧ i ≤ 2 ^ 23 ∧ -(2 ^ 23) ≤ j ∧ j ≤ 2 ^ 23
          · rw [if_pos hb] at h
            exact ⟨i, j, rfl, ⟨by omega, by omega, by omega, by omega⟩, h _ H1 q (it_range i _) (by unfold upto; rw [List.length_map, List.length_range, sizeLine_eq]; omega)⟩
          · rw [if_neg hb] at h; exact h.elim⟩
end

/-! ### for -/
def loopD (g : D → En → Option En) (fb : En → Out) : List D → En → Out
  | [], ρ => .nx ρ
  | d :: r, ρ => match g d ρ with
    | none => .stuck
    | some ρ1 => match fb ρ1 with
      | .nx ρ2 => loopD g fb r ρ2
      | .ct ρ2 => loopD g fb r ρ2
      | .bk ρ2 => .nx ρ2
      | o => o
def sFor (S : List Nat) (fi : En → R (List D)) (g : D → En → Option En) (fb : En → Out) : En → Out := fun ρ => lift (fi ρ) ρ fun ds => loopD g fb ds (frzAt S ρ)
section
variable {X : Cx} {W : WX} {S T : List Nat} {tg iter c : Expr} {body : List Stmt} {pos : Pos} {fi : En → R (List D)} {g : D → En → Option En} {fb : En → Out} {fc : En → R Bool}
theorem ds_for (hp : PassesOwn (model X.prog X.w) X.A X.env X.xe) (hc : X.calm = true) (hi : DI X W S tg iter fi) (hg : DG X T tg g) (hb : DSs X W body fb) (hs : ∀ x, foldedSetIterable iter X.env x = pure x := by intro _; rfl) :
    DS X W (.For tg iter body [] pos) (sFor S fi g fb) :=
  ⟨(ps_for hp hc hi.pi hg.pg hb.pss hs).imp fun D σ H ⟨ρ, ow, B, s, h⟩ => by
    refine ⟨ρ, ow, B, s, ?_⟩
    unfold sFor at h
    cases e : fi ρ with
    | stuck => rw [e] at h; exact h
    | exc C fs => rw [e] at h; exact fun cls dd H' q x => h σ H' ow cls dd (s.same q) (Ch.same q) x
    | ok ds =>
      rw [e] at h
      intro J H1 q1 it _
      rw [lift_ok] at h
      have sh : Stt X.K B (frzAt S ρ) σ H1 (cutO ow S) := (s.same q1).frzAt S
      have c0 : Ch ow H (cutO ow S) H1 := (Ch.same q1).trans (Ch.cut S)
      refine ⟨fun i m σ1 H2 => ∃ ρ1 ow1, Stt X.K B ρ1 σ1 H2 ow1 ∧ Ch (cutO ow S) H1 ow1 H2 ∧ m = ds.length - i ∧ i ≤ ds.length ∧ Post X.K W B ow H D (loopD g fb (ds.drop i) ρ1),
        ⟨ds.length, frzAt S ρ, cutO ow S, sh, Ch.refl _ _, by omega, Nat.zero_le _, h⟩, ?_⟩
      rintro i m σ1 H2 ⟨ρ1, ow1, s1, c1, rfl, hi, h1⟩
      have cutmem : ∀ j a, a ∈ cutO ow S j → OutS S ow B [] a := fun j a m => by
        unfold cutO at m
        split at m
        · exact nomatch m
        · rename_i hj
          exact .inl ⟨j, m, hj⟩
      have k1 : Kept (OutS S ow B []) H1 H2 [] := fun a o e z => c1.keep a o e (by
        rcases z with z | z | z
        · exact nomatch z
        · exact .inl fun j m => z (cutmem j a m)
        · exact .inr z)
      obtain ⟨iy, is⟩ := it H2 k1 i
      by_cases hlt : i < ds.length
      · have ed : ds[i]? = some ds[i] := List.getElem?_eq_getElem hlt
        obtain ⟨go, yl⟩ := iy _ ed
        rw [List.drop_eq_getElem_cons hlt] at h1
        unfold loopD at h1
        refine .inr ⟨go, fun σ' H' => ∃ ρ1 ow1, Stt X.K B ρ1 σ' H' ow1 ∧ Ch (cutO ow S) H1 ow1 H' ∧ Post X.K W B ow H D (loopD g fb (ds.drop (i + 1)) ρ1), fun σ' H' ⟨ρ2, ow2, s2, c2, h2⟩ => ⟨ds.length - (i + 1), by omega, ρ2, ow2, s2, c2, rfl, hlt, h2⟩, fun x H3 y => ?_⟩
        obtain ⟨q3, rx⟩ := yl x H3 y
        have rx' : RepD X.K (OutS [] ow1 B []) H3 ds[i] x [] := rx _ fun a o e z => by
          rcases z with ⟨j, z, _⟩ | z | z
          · rcases c1.from' j a z with ⟨l, q⟩ | q
            · exact cutmem l a q
            · rw [q] at e; cases e
          · exact .inr (.inl z)
          · exact nomatch z
        refine ⟨ρ1, ow1, B, ds[i], [], (s1.same q3).swap (fun a z => z.elim id fun z => nomatch z), rx', List.nodup_nil, (fun _ z => nomatch z), ?_⟩
        cases eg : g ds[i] ρ1 with
        | none => rw [eg] at h1; exact h1
        | some ρ2 =>
          rw [eg] at h1
          intro σ4 ow4 s4 c4 _
          have c14 : Ch ow1 H2 ow4 H3 := (Ch.same q3).trans ⟨fun a o e z => e, fun j a m => (c4 j a m).imp id fun z => nomatch z⟩
          have c04 : Ch ow H ow4 H3 := (c0.trans c1).trans c14
          have cc4 : Ch (cutO ow S) H1 ow4 H3 := c1.trans c14
          refine ⟨ρ2, ow4, B, s4, ?_⟩
          dsimp only at h1
          cases eb : fb ρ2 with
          | nx ρ3 => rw [eb] at h1; exact fun σ5 H5 ow5 s5 c5 => ⟨ρ3, ow5, s5, cc4.trans c5, h1⟩
          | ct ρ3 => rw [eb] at h1; exact fun σ5 H5 ow5 s5 c5 => ⟨ρ3, ow5, s5, cc4.trans c5, h1⟩
          | bk ρ3 => rw [eb] at h1; exact fun σ5 H5 ow5 s5 c5 => h1 σ5 H5 ow5 s5 (c04.trans c5)
          | ret d => rw [eb] at h1; exact Post.later (D := D) (o := .ret d) c04 h1
          | exc ρ3 C fs => rw [eb] at h1; exact Post.later (D := D) (o := .exc ρ3 C fs) c04 h1
          | stuck => rw [eb] at h1; exact h1
      · have ei : i = ds.length := by omega
        subst ei
        rw [List.drop_length] at h1
        exact .inl ⟨is (Nat.le_refl _), h1 σ1 H2 ow1 s1 (c0.trans c1)⟩⟩

/-! ### while -/
def whD (fc : En → R Bool) (fb : En → Out) : Nat → En → Out
  | 0, _ => .stuck
  | n + 1, ρ => lift (fc ρ) ρ fun b => if b then (match fb ρ with
      | .nx ρ2 => whD fc fb n ρ2
      | .ct ρ2 => whD fc fb n ρ2
      | .bk ρ2 => .nx ρ2
      | o => o) else .nx ρ
def sWh (n : Nat) (fc : En → R Bool) (fb : En → Out) : En → Out := whD fc fb n
theorem ds_while (n : Nat) (hp : PassesOwn (model X.prog X.w) X.A X.env X.xe) (hc : DT X W c fc) (hb : DSs X W body fb) : DS X W (.While c body [] pos) (sWh n fc fb) :=
  ⟨(ps_while hp hc.pt hb.pss).imp fun D σ H ⟨ρ, ow, B, s, h⟩ => by
    refine ⟨fun m σ1 H1 => ∃ ρ1 ow1, Stt X.K B ρ1 σ1 H1 ow1 ∧ Ch ow H ow1 H1 ∧ Post X.K W B ow H D (whD fc fb m ρ1), ⟨n, ρ, ow, s, Ch.refl _ _, h⟩, ?_⟩
    rintro m σ1 H1 ⟨ρ1, ow1, s1, c1, h1⟩
    cases m with
    | zero => exact h1.elim
    | succ m =>
      unfold whD at h1
      refine ⟨ρ1, ow1, B, s1, ?_⟩
      cases e : fc ρ1 with
      | stuck => rw [e] at h1; exact h1
      | exc C fs => rw [e] at h1; exact fun cls dd H' q x => h1 σ1 H' ow1 cls dd (s1.same q) (c1.trans (Ch.same q)) x
      | ok b =>
        rw [e] at h1
        intro H2 q2
        rw [lift_ok] at h1
        have c2 : Ch ow H ow1 H2 := c1.trans (Ch.same q2)
        cases b with
        | false =>
          rw [if_neg Bool.false_ne_true] at h1 ⊢
          exact h1 σ1 H2 ow1 (s1.same q2) c2
        | true =>
          rw [if_pos rfl] at h1 ⊢
          refine ⟨fun σ' H' => ∃ ρ1 ow1, Stt X.K B ρ1 σ' H' ow1 ∧ Ch ow H ow1 H' ∧ Post X.K W B ow H D (whD fc fb m ρ1), fun σ' H' z => ⟨m, Nat.lt_succ_self m, z⟩, ρ1, ow1, B, s1.same q2, ?_⟩
          cases eb : fb ρ1 with
          | nx ρ3 => rw [eb] at h1; exact fun σ5 H5 ow5 s5 c5 => ⟨ρ3, ow5, s5, c2.trans c5, h1⟩
          | ct ρ3 => rw [eb] at h1; exact fun σ5 H5 ow5 s5 c5 => ⟨ρ3, ow5, s5, c2.trans c5, h1⟩
          | bk ρ3 => rw [eb] at h1; exact fun σ5 H5 ow5 s5 c5 => h1 σ5 H5 ow5 s5 (c2.trans c5)
          | ret d => rw [eb] at h1; exact Post.later (D := D) (o := .ret d) c2 h1
          | exc ρ3 C fs => rw [eb] at h1; exact Post.later (D := D) (o := .exc ρ3 C fs) c2 h1
          | stuck => rw [eb] at h1; exact h1⟩
end
end TL
/-! T5: comprehensions, calls, defs over trees -/
namespace TL
open PySem PySem.Spec PyProof.Rows L2

abbrev W0 : WX := fun _ _ _ _ => False
/-! ### a frame's part is written -/
theorem Kept.upd {O : Addr → Prop} {H : Hp} {os : List Addr} {p : Addr} {o o' : HO} (h : H p = some o) (ht : ∀ xs, o ≠ .tup xs) (hO : O p) (hp : p ∉ os) : Kept O H (L2.upd H p o') os := fun a u e z => by
  have ne : a ≠ p := fun q => by
    subst q
    rw [h] at e
    cases e
    rcases z with z | z | ⟨xs, z⟩
    · exact hp z
    · exact z hO
    · exact ht xs z
  rw [upd_ne ne]
  exact e
theorem Stt.upd {K : PySem.W.Frag} {B : Addr → Prop} {ρ : En} {σ : L2.St} {H : Hp} {ow : Ow} {p : Addr} {o o' : HO} (s : Stt K B ρ σ H ow) (h : H p = some o) (ht : ∀ xs, o ≠ .tup xs) (hB : B p) : Stt K B ρ σ (L2.upd H p o') ow := by
  refine ⟨s.len, fun i d e => ?_, s.dead, s.nd, s.dj, fun a z => ?_, s.bo⟩
  · obtain ⟨v, h1, r⟩ := s.rep i d e
    exact ⟨v, h1, r.keep (fun a u q z => z) (Kept.upd h ht (.inr hB) fun m => s.bo i p m hB)⟩
  · by_cases q : a = p
    · rw [q, upd_same]; exact fun z => nomatch z
    · rw [upd_ne q]; exact s.bt a z
theorem RepL.append {K : PySem.W.Frag} {O : Addr → Prop} {H : Hp} : ∀ {xs ys : List D} {vs ws : List V} {o1 o2 : List Addr}, RepL K O H xs vs o1 → RepL K O H ys ws o2 → RepL K O H (xs ++ ys) (vs ++ ws) (o1 ++ o2)
  | _, _, _, _, _, _, .nil, s => s
  | _, _, _, _, _, _, .cons r t, s => by
    rw [List.append_assoc]
    exact .cons r (RepL.append t s)

/-! ### list comprehensions -/
/-- what a block sees: the slots of S but its own, frozen -/
def visE (S vs : List Nat) : Nat → En → En
  | _, [] => []
  | k, d :: r => (if S.contains k && !vs.contains k then d.map D.frz else none) :: visE S vs (k + 1) r
def compD (g : D → En → Option En) (fc : En → R Bool) (fe : En → R D) (ρ : En) : List D → R (List D)
  | [] => .ok []
  | d :: r => match g d ρ with
    | none => .stuck
    | some ρ1 => match fc ρ1 with
      | .ok true => (match fe ρ1 with
        | .ok y => (compD g fc fe ρ r).bind fun ys => .ok (y :: ys)
        | _ => .stuck)
      | .ok false => compD g fc fe ρ r
      | _ => .stuck
def eLc (vs S : List Nat) (fi : En → R (List D)) (g : D → En → Option En) (fc : En → R Bool) (fe : En → R D) : En → R D := fun ρ =>
  (fi ρ).bind fun ds => match compD g fc fe (visE S vs 0 ρ) ds with
    | .ok ys => .ok (.lst true ys)
    | _ => .stuck
def cYes : En → R Bool := fun _ => .ok true
section
variable {K : PySem.W.Frag} {B : Addr → Prop} {ow : Ow} {H H1 : Hp} {ρ : En} {σ : L2.St}
theorem visE_length (S vs : List Nat) : ∀ (ρ : En) (k : Nat), (visE S vs k ρ).length = ρ.length
  | [], _ => rfl
  | _ :: r, k => congrArg (· + 1) (visE_length S vs r (k + 1))
theorem visE_get {S vs : List Nat} {d : D} : ∀ {ρ : En} {k i : Nat}, (visE S vs k ρ)[i]? = some (some d) → (k + i) ∈ S ∧ (k + i) ∉ vs ∧ ∃ d0, ρ[i]? = some (some d0) ∧ d = d0.frz
  | [], _, _, h => nomatch h
  | x :: r, k, 0, h => by
    unfold visE at h
    have h' : (if S.contains k && !vs.contains k then x.map D.frz else none) = some d := Option.some.inj h
    by_cases c : (S.contains k && !vs.contains k) = true
    · rw [if_pos c] at h'
      obtain ⟨c1, c2⟩ := Bool.and_eq_true_iff.mp c
      obtain ⟨d0, e1, e2⟩ := Option.map_eq_some_iff.mp h'
      refine ⟨List.contains_iff_mem.mp c1, fun m => ?_, d0, by rw [e1]; rfl, e2.symm⟩
      rw [Nat.add_zero] at m
      rw [List.contains_iff_mem.mpr m] at c2
      cases c2
    · rw [if_neg c] at h'; cases h'
  | x :: r, k, i + 1, h => by
    have := visE_get (ρ := r) (k := k + 1) (i := i) (S := S) (vs := vs) (d := d) h
    rw [Nat.add_assoc, Nat.add_comm 1 i] at this
    exact this
theorem wipe_at {σ : L2.St} {i : Nat} : ∀ {vs : List Nat}, i ∉ vs → (wipe σ vs)[i]? = σ[i]?
  | [], _ => rfl
  | v :: vs, n => by
    unfold wipe
    rw [List.getElem?_set_ne fun z => n (by rw [z]; exact List.mem_cons_self)]
    exact wipe_at fun z => n (List.mem_cons_of_mem _ z)
abbrev noOw : Ow := fun _ => []
/-- the state within a comprehension's block: all is frozen, what must be kept off stands in the frame -/
theorem Stt.vis (s : Stt K B ρ σ H ow) (S vs : List Nat) : Stt K (OutS S ow B []) (visE S vs 0 ρ) (wipe σ vs) H noOw := by
  refine ⟨by rw [visE_length, wipe_length]; exact s.len, fun i d h => ?_, fun _ _ => rfl, fun _ => List.nodup_nil, (fun _ _ _ z => nomatch z), fun a z => ?_, fun _ _ z => nomatch z⟩
  · obtain ⟨h1, h2, d0, e0, rfl⟩ := visE_get h
    rw [Nat.zero_add] at h1 h2
    obtain ⟨v, e, r⟩ := s.rep i d0 e0
    refine ⟨v, by rw [wipe_at h2]; exact e, r.frz fun a o q z => ?_⟩
    rcases z with ⟨_, z⟩ | ⟨j, z, n⟩ | z | z
    · exact nomatch z
    · exact ⟨.inl ⟨j, z⟩, fun m => n (by rw [s.dj j i a z m]; exact h1)⟩
    · exact ⟨.inr z, fun m => s.bo i a m z⟩
    · exact nomatch z
  · rcases z with ⟨j, z, _⟩ | z | z
    · exact s.there z
    · exact s.bt a z
    · exact nomatch z
theorem wipe_get (τ : L2.St) (j : Nat) (vs : List Nat) : (wipe τ vs)[j]? = if j ∈ vs then (if j < τ.length then some none else none) else τ[j]? := by
  induction vs with
  | nil => rw [if_neg (fun z => nomatch z)]; rfl
  | cons v r ih =>
    unfold wipe
    rw [List.getElem?_set, wipe_length]
    by_cases e : v = j
    · subst e
      rw [if_pos rfl, if_pos List.mem_cons_self]
    · rw [if_neg e, ih]
      by_cases m : j ∈ r
      · rw [if_pos m, if_pos (List.mem_cons_of_mem _ m)]
      · rw [if_neg m, if_neg (fun z => (List.mem_cons.mp z).elim (fun q => e q.symm) m)]
theorem stay_wipe {T vs : List Nat} {σ σ' : L2.St} (hT : ∀ i ∈ T, i ∈ vs) (h : Stay T (wipe σ vs) σ') : wipe σ' vs = wipe σ vs := by
  refine List.ext_getElem? fun j => ?_
  have hl : σ'.length = σ.length := h.1.trans (wipe_length _ _)
  rw [wipe_get, wipe_get, hl]
  by_cases m : j ∈ vs
  · rw [if_pos m, if_pos m]
  · rw [if_neg m, if_neg m, h.2 j fun z => m (hT j z), wipe_at m]
end
section
variable {K : PySem.W.Frag} {W : WX} {Si Se S T vs : List Nat} {σ : L2.St} {H : Hp} {fi : En → R (List D)} {g : D → En → Option En} {fc : En → R Bool} {fe : En → R D}
theorem rd_lc (hSi : ∀ i ∈ Si, i ∈ S) (hT : ∀ i ∈ T, i ∈ vs) {Q : VK} (h : rd K W S (eLc vs S fi g fc fe) σ H Q) : tLc (rdI K W Si fi) (rdG K T g) (rdT K W0 fc) (rd K W0 Se fe) vs σ H Q := by
  obtain ⟨ρ, ow, B, s, h⟩ := h
  refine ⟨ρ, ow, B, s, ?_⟩
  unfold eLc at h
  cases ei : fi ρ with
  | stuck => rw [ei] at h; exact h
  | exc C fs => rw [ei] at h; exact h
  | ok ds =>
    rw [ei] at h
    dsimp only [R.bind_ok] at h
    intro J H1 q1 it hlen L hL
    cases ec : compD g fc fe (visE S vs 0 ρ) ds with
    | stuck => rw [ec] at h; exact h.elim
    | exc C fs => rw [ec] at h; exact h.elim
    | ok all =>
      rw [ec] at h
      dsimp only at h
      have sb := (s.same q1).vis S vs
      have h0 : Same H1 (upd H1 L (.lst [])) := fun b o e => by rw [upd_ne (ne_of_none e hL)]; exact e
      refine ⟨fun i m H2 => ∃ ys ws os rest, H2 L = some (.lst ws) ∧ RepL K (OutS S ow B (L :: os)) H2 ys ws os ∧ (L :: os).Nodup ∧ (∀ a ∈ os, H1 a = none) ∧ Same H1 H2 ∧
        compD g fc fe (visE S vs 0 ρ) (ds.drop i) = .ok rest ∧ ys ++ rest = all ∧ m = ds.length - i ∧ i ≤ ds.length ∧ ys.length ≤ i,
        ⟨ds.length, [], [], [], all, upd_same, .nil, by simp, (fun _ z => nomatch z), h0, by rw [List.drop_zero]; exact ec, rfl, by omega, Nat.zero_le _, Nat.le_refl _⟩, ?_⟩
      rintro i m H2 ⟨ys, ws, os, rest, hw, rl, nd, nw, s2, ecd, eall, rfl, hi, hly⟩
      have k2 : Kept (OutS Si ow B []) H1 H2 [] := Kept.of_same s2 _
      obtain ⟨iy, ist⟩ := it H2 k2 i
      by_cases hlt : i < ds.length
      · have ed : ds[i]? = some ds[i] := List.getElem?_eq_getElem hlt
        obtain ⟨go, yl⟩ := iy _ ed
        rw [List.drop_eq_getElem_cons hlt] at ecd
        unfold compD at ecd
        refine .inr ⟨go, fun H' => ∃ ys ws os rest, H' L = some (.lst ws) ∧ RepL K (OutS S ow B (L :: os)) H' ys ws os ∧ (L :: os).Nodup ∧ (∀ a ∈ os, H1 a = none) ∧ Same H1 H' ∧
          compD g fc fe (visE S vs 0 ρ) (ds.drop (i + 1)) = .ok rest ∧ ys ++ rest = all ∧ ys.length ≤ i + 1, fun H' ⟨ys, ws, os, rest, a1, a2, a3, a4, a5, a6, a7, a8⟩ => ⟨ds.length - (i + 1), by omega, ys, ws, os, rest, a1, a2, a3, a4, a5, a6, a7, rfl, hlt, a8⟩, fun x H3 y => ?_⟩
        obtain ⟨q3, rx⟩ := yl x H3 y
        have s3 := s2.trans q3
        -- the frame holds the made part
        have hfr : ∀ a, (OutS S ow B [] a ∨ a ∈ L :: os) → H3 a ≠ none := fun a z => by
          rcases z with z | z
          · exact fun q => sb.bt a z (s3.free q)
          · rcases List.mem_cons.mp z with e | z
            · rw [e, q3 _ _ hw]; exact fun z => nomatch z
            · exact fun q => rl.there a z (q3.free q)
        have hnew : ∀ a o, H1 a = some o → a ∉ L :: os := fun a o e z => by
          rcases List.mem_cons.mp z with q | z
          · rw [q, hL] at e; cases e
          · rw [nw a z] at e; cases e
        have sb3 : Stt K (fun a => OutS S ow B [] a ∨ a ∈ L :: os) (visE S vs 0 ρ) (wipe σ vs) H3 noOw := sb.grow s3 (fun a o e z => z.elim id fun z => absurd z (hnew a o e)) hfr
        have hO1 : ∀ a o, H1 a = some o → OutS [] noOw (fun a => OutS S ow B [] a ∨ a ∈ L :: os) [] a → OutS Si ow B [] a := fun a o e z => by
          rcases z with ⟨_, z, _⟩ | (z | z) | z
          · exact nomatch z
          · exact z.imp (fun ⟨j, z, n⟩ => ⟨j, z, fun q => n (hSi j q)⟩) id
          · exact absurd z (hnew a o e)
          · exact nomatch z
        refine ⟨visE S vs 0 ρ, noOw, fun a => OutS S ow B [] a ∨ a ∈ L :: os, ds[i], [], sb3.swap (fun a z => z.elim id fun z => nomatch z), rx _ hO1, List.nodup_nil, (fun _ z => nomatch z), ?_⟩
        cases eg : g ds[i] (visE S vs 0 ρ) with
        | none => rw [eg] at ecd; cases ecd
        | some ρ1 =>
          rw [eg] at ecd
          dsimp only at ecd
          intro σ4 ow4 s4 c4 y4
          refine ⟨stay_wipe hT y4, ρ1, ow4, _, s4, ?_⟩
          have hL3 : H3 L = some (.lst ws) := q3 _ _ hw
          cases efc : fc ρ1 with
          | stuck => rw [efc] at ecd; cases ecd
          | exc C fs => rw [efc] at ecd; cases ecd
          | ok b =>
            rw [efc] at ecd
            intro H5 q5
            cases b with
            | false =>
              rw [if_neg Bool.false_ne_true]
              exact ⟨ys, ws, os, rest, q5 _ _ hL3, rl.keep (fun a o _ z => z) (Kept.of_same (q3.trans q5) _), nd, nw, s3.trans q5, ecd, eall, Nat.le_succ_of_le hly⟩
            | true =>
              rw [if_pos rfl]
              dsimp only at ecd
              refine ⟨ρ1, ow4, _, s4.same q5, ?_⟩
              cases efe : fe ρ1 with
              | stuck => rw [efe] at ecd; cases ecd
              | exc C fs => rw [efe] at ecd; cases ecd
              | ok y =>
                rw [efe] at ecd
                dsimp only at ecd
                intro vy H6 oy q6 ry ny wy
                have hL6 : H6 L = some (.lst ws) := q6 _ _ (q5 _ _ hL3)
                refine ⟨ws, hL6, ?_, ?_⟩
                · rw [← rl.length]
                  exact Nat.lt_of_lt_of_le (Nat.lt_of_le_of_lt hly hlt) hlen
                · cases er : compD g fc fe (visE S vs 0 ρ) (ds.drop (i + 1)) with
                  | stuck => rw [er] at ecd; cases ecd
                  | exc C fs => rw [er] at ecd; cases ecd
                  | ok rest2 =>
                    rw [er] at ecd
                    cases ecd
                    have s6 : Same H1 H6 := (s3.trans q5).trans q6
                    have fresh : ∀ a ∈ oy, H1 a = none := fun a m => s3.free (q5.free (wy a m))
                    have hLo : L ∉ os ++ oy := fun m => by
                      rcases List.mem_append.mp m with m | m
                      · exact (List.nodup_cons.mp nd).1 m
                      · have := wy L m
                        rw [q5 _ _ hL3] at this
                        cases this
                    have ndo : (os ++ oy).Nodup := nodup_two (List.nodup_cons.mp nd).2 ny (rl.keep (fun a o _ z => z) (Kept.of_same (q3.trans q5) _)).there wy
                    have hO : ∀ a o, H6 a = some o → OutS S ow B (L :: (os ++ oy)) a → (H5 a ≠ none → OutS S ow B (L :: os) a) := fun a o e z t => by
                      rcases z with z | z | z
                      · exact .inl z
                      · exact .inr (.inl z)
                      · rcases List.mem_cons.mp z with q | z
                        · exact .inr (.inr (by rw [q]; exact List.mem_cons_self))
                        · rcases List.mem_append.mp z with z | z
                          · exact .inr (.inr (List.mem_cons_of_mem _ z))
                          · exact absurd (wy a z) t
                    have rl5 : RepL K (OutS S ow B (L :: os)) H5 ys ws os := rl.keep (fun a o _ z => z) (Kept.of_same (q3.trans q5) _)
                    have rl6 : RepL K (OutS S ow B (L :: (os ++ oy))) H6 ys ws os := rl5.keep (fun a o e z => hO a o (q6 _ _ e) z (by rw [e]; exact fun z => nomatch z)) (Kept.of_same q6 _)
                    have ry6 : RepD K (OutS S ow B (L :: (os ++ oy))) H6 y vy oy := ry.keep (fun a o e z => by
                      rcases z with z | z | z
                      · exact .inr (.inl (.inl (.inl z)))
                      · exact .inr (.inl (.inl (.inr (.inl z))))
                      · rcases List.mem_cons.mp z with q | z
                        · exact .inr (.inl (.inr (by rw [q]; exact List.mem_cons_self)))
                        · rcases List.mem_append.mp z with z | z
                          · exact .inr (.inl (.inr (List.mem_cons_of_mem _ z)))
                          · exact .inr (.inr z)) (Kept.of_same (Same.refl _) _)
                    have kup : ∀ o2, L ∉ o2 → Kept (OutS S ow B (L :: (os ++ oy))) H6 (L2.upd H6 L (.lst (ws ++ [vy]))) o2 := fun o2 n => Kept.upd hL6 (fun _ z => nomatch z) (.inr (.inr List.mem_cons_self)) n
                    refine ⟨ys ++ [y], ws ++ [vy], os ++ oy, rest2, upd_same, ?_, List.nodup_cons.mpr ⟨hLo, ndo⟩, fun a m => ?_, fun a o e => ?_, rfl, by rw [List.append_assoc]; exact eall, by rw [List.length_append]; exact Nat.succ_le_succ hly⟩
                    · have e1 : oy ++ [] = oy := List.append_nil _
                      refine RepL.append (rl6.keep (fun a o _ z => z) (kup os fun m => hLo (List.mem_append_left _ m))) ?_
                      have := RepL.cons (ry6.keep (fun a o _ z => z) (kup oy fun m => hLo (List.mem_append_right _ m))) (RepL.nil (K := K) (O := OutS S ow B (L :: (os ++ oy))) (H := L2.upd H6 L (.lst (ws ++ [vy]))))
                      rw [e1] at this
                      exact this
                    · exact (List.mem_append.mp m).elim (nw a) (fresh a)
                    · rw [upd_ne (ne_of_none e hL)]
                      exact s6 a o e
      · have e : i = ds.length := by omega
        subst e
        rw [List.drop_length] at ecd
        unfold compD at ecd
        cases ecd
        rw [List.append_nil] at eall
        subst eall
        refine .inl ⟨ist (Nat.le_refl _), h (.ref L) H2 (L :: os) (q1.trans s2) (.lstO hw (rl.keep (fun a o _ z => z) (Kept.of_same (Same.refl _) _))) nd fun a m => ?_⟩
        rcases List.mem_cons.mp m with e | m
        · rw [e]; exact q1.free hL
        · exact q1.free (nw a m)
end
end TL
/-! T6: comprehensions as values, calls, defs -/
namespace TL
open PySem PySem.Spec PyProof.Rows L2

structure DTs (X : Cx) (W : WX) (ifs : List Expr) (f : En → R Bool) : Prop where
  pts : PTs X ifs (rdT X.K W f)
section
variable {X : Cx} {W : WX} {S Si Se T vs : List Nat} {c elt tg iter : Expr} {ifs : List Expr} {scope : Scope} {own : List (Str × Nat)} {pos spos py : Pos} {fi : En → R (List D)} {g : D → En → Option En} {fc : En → R Bool} {fe : En → R D}
theorem dts_nil : DTs X W [] cYes := ⟨⟨fun pins s σ H Q I ⟨ρ, ow, B, st, h⟩ => pts_nil.run pins s σ H Q I (h H (Same.refl H))⟩⟩
theorem dts_one (h : DT X W c fc) : DTs X W [c] fc := ⟨pts_one h.pt⟩
theorem de_lc (hc : X.calm = true) (hN : X.N.Nodup) (hi : DI X W Si tg iter fi) (ok : BlkOk X.N X.env.scope scope own) (hv : own.map (·.2) = vs)
    (hg : ∀ (s : Shared) (H : Hp) (C : Addr) (cl : List (Str × Addr)) (fp : List Addr), DG (X.blk s H scope (compEnvC scope cl C X.env) fp) T tg g)
    (ht : ∀ (s : Shared) (H : Hp) (C : Addr) (cl : List (Str × Addr)) (fp : List Addr), DTs (X.blk s H scope (compEnvC scope cl C X.env) fp) W0 ifs fc)
    (he : ∀ (s : Shared) (H : Hp) (C : Addr) (cl : List (Str × Addr)) (fp : List Addr), DE (X.blk s H scope (compEnvC scope cl C X.env) fp) W0 Se elt fe)
    (hSi : ∀ i ∈ Si, i ∈ S := by decide) (hT : ∀ i ∈ T, i ∈ vs := by decide) (hs : ∀ x, foldedSetIterable iter X.env x = pure x := by intro _; rfl) :
    DE X W S (.ListComp elt [⟨tg, iter, ifs, 0⟩] scope pos) (eLc vs S fi g fc fe) := by
  subst hv
  exact ⟨(pe_lc hc hN hi.pi ok (fun s H C cl fp => (hg s H C cl fp).pg) (fun s H C cl fp => (ht s H C cl fp).pts) (fun s H C cl fp => (he s H C cl fp).pe) hs).imp fun σ H Q h => rd_lc hSi hT h⟩
/-- name = [..] on one line -/
theorem ds_setLc {i : Nat} {y : Str} (hc : X.calm = true) (hN : X.N.Nodup) (hy : X.N[i]? = some y) (hyl : X.env.scope.names.lookup y = some .local) (hsw : swapsWith (.ListComp elt [⟨tg, iter, ifs, 0⟩] scope pos) (some (.Name y py)) spos.line X.env = pure true)
    (hi : DI X W Si tg iter fi) (ok : BlkOk X.N X.env.scope scope own) (hv : own.map (·.2) = vs)
    (hg : ∀ (s : Shared) (H : Hp) (C : Addr) (cl : List (Str × Addr)) (fp : List Addr), DG (X.blk s H scope (compEnvC scope cl C X.env) fp) T tg g)
    (ht : ∀ (s : Shared) (H : Hp) (C : Addr) (cl : List (Str × Addr)) (fp : List Addr), DTs (X.blk s H scope (compEnvC scope cl C X.env) fp) W0 ifs fc)
    (he : ∀ (s : Shared) (H : Hp) (C : Addr) (cl : List (Str × Addr)) (fp : List Addr), DE (X.blk s H scope (compEnvC scope cl C X.env) fp) W0 Se elt fe)
    (hSi : ∀ i ∈ Si, i ∈ S := by decide) (hT : ∀ i ∈ T, i ∈ vs := by decide) (hs : ∀ x, foldedSetIterable iter X.env x = pure x := by intro _; rfl) :
    DS X W (.Assign [.Name y py] (.ListComp elt [⟨tg, iter, ifs, 0⟩] scope pos) spos) (sSet i S (eLc vs S fi g fc fe)) := by
  subst hv
  refine ⟨⟨fun pins s σ H D I h => (ps_setLc hc hN hy hyl hsw hi.pi ok (fun s H C cl fp => (hg s H C cl fp).pg) (fun s H C cl fp => (ht s H C cl fp).pts) (fun s H C cl fp => (he s H C cl fp).pe) hs).run pins s σ H D I (rd_lc hSi hT ?_)⟩⟩
  refine rdS_expr (k := fun ρ d => .nx ((if d.clean then ρ else frzAt S ρ).set i (some d))) h fun ρ ow B d v os H1 s q r nd n p => ?_
  obtain ⟨ow1, s1, r1, c1⟩ := s.ready q r n
  refine p _ H1 (putO ow1 i os) (s1.put ?_ r1 nd fun a m z => ?_) (c1.put fun a m => .inr (n a m))
  · rw [s1.len, I.len]
    exact (List.getElem?_eq_some_iff.mp hy).1
  · exact s.bt a z (n a m)
end

/-! ### displays -/
def mkTup (xs : List D) : Option D := if xs.length ≤ 16777216 then some (.tup xs) else none
def mkLst (xs : List D) : Option D := if xs.length ≤ 16777216 then some (.lst true xs) else none
section
variable {X : Cx} {W : WX} {S : List Nat} {es : List Expr} {pos : Pos} {k : Nat} {fs : En → R (List D)}
theorem de_tup (h : DA X W S es fs) : DE X W S (.Tuple es k pos) (eN mkTup fs) :=
  ⟨(pe_tup h.pa).imp fun σ H Q hq => rdN (r := fun xs H1 Q => xs.length ≤ sizeLine ∧ ∀ p, H1 p = none → Q (.ref p) (upd H1 p (.tup xs))) (fun O H xs vs o d Q r nd m e dn => by
    unfold mkTup at e
    split at e
    · rename_i hl
      cases e
      refine ⟨by rw [← r.length, sizeLine_eq]; exact hl, fun p hp => ?_⟩
      have sm : Same H (upd H p (.tup vs)) := fun b u e => by rw [upd_ne (ne_of_none e hp)]; exact e
      exact dn _ _ o sm (.tup upd_same (r.keep (fun a u e z => z.elim id (m a)) (Kept.of_same sm _))) nd fun a h => .inl h
    · cases e) hq⟩
theorem de_lst (h : DA X W S es fs) : DE X W S (.List es pos) (eN mkLst fs) :=
  ⟨(pe_lst h.pa).imp fun σ H Q hq => rdN (r := fun xs H1 Q => xs.length ≤ sizeLine ∧ ∀ p, H1 p = none → Q (.ref p) (upd H1 p (.lst xs))) (fun O H xs vs o d Q r nd m e dn => by
    unfold mkLst at e
    split at e
    · rename_i hl
      cases e
      refine ⟨by rw [← r.length, sizeLine_eq]; exact hl, fun p hp => ?_⟩
      have sm : Same H (upd H p (.lst vs)) := fun b u e => by rw [upd_ne (ne_of_none e hp)]; exact e
      refine dn _ _ (p :: o) sm (.lstO upd_same (r.keep (fun a u e z => ?_) (Kept.of_same sm _))) (List.nodup_cons.mpr ⟨fun z => r.there p z hp, nd⟩) fun a h => ?_
      · rcases z with z | z
        · exact z
        · rcases List.mem_cons.mp z with q | z
          · rw [q, hp] at e; cases e
          · exact m a z
      · rcases List.mem_cons.mp h with q | h
        · exact .inr (by rw [q]; exact hp)
        · exact .inl h
    · cases e) hq⟩
end

/-! ### defs -/
/-- a def's promise over trees: n arguments, its value as a function of them -/
def spD (K : PySem.W.Frag) (n : Nat) (F : List D → R D) : Sp := fun vs H Q E => vs.length = n ∧ ∃ ds B, RepL K B H ds vs [] ∧ (∀ a, B a → H a ≠ none) ∧ match F ds with
  | .ok d => ∀ v H' os, Same H H' → RepD K (fun a => B a ∨ a ∈ os) H' d v os → os.Nodup → (∀ a ∈ os, H a = none) → Q v H'
  | .exc C fs => ∀ cls dd H', Same H H' → RepX K H' C fs cls dd → E cls dd H'
  | .stuck => False
/-- from a body of n slots -/
def fn (n : Nat) (b : En → Out) : List D → R D := fun ds => match b (ds.map some ++ List.replicate (n - ds.length) none) with
  | .ret d => .ok d
  | .nx _ => .ok .non
  | .exc _ C fs => .exc C fs
  | _ => .stuck
theorem start_rep {K : PySem.W.Frag} {B : Addr → Prop} {H : Hp} {ds : List D} {vs : List V} {N : List Str} (r : RepL K B H ds vs []) (hb : ∀ a, B a → H a ≠ none) (hn : vs.length ≤ N.length) :
    Stt K B (ds.map some ++ List.replicate (N.length - ds.length) none) (L2.start N vs) H noOw := by
  have hl := r.length
  refine ⟨by unfold L2.start; simp [hl], fun i d h => ?_, fun _ _ => rfl, fun _ => List.nodup_nil, (fun _ _ _ z => nomatch z), hb, fun _ _ z => nomatch z⟩
  by_cases hi : i < ds.length
  · rw [List.getElem?_append_left (by rw [List.length_map]; exact hi), List.getElem?_map] at h
    obtain ⟨d0, e0, e1⟩ := Option.map_eq_some_iff.mp h
    cases e1
    obtain ⟨v, hv, rv⟩ := r.get e0
    refine ⟨v, ?_, rv.keep (fun a o _ z => z.elim (fun ⟨_, z⟩ => nomatch z) id) (Kept.of_same (Same.refl _) _)⟩
    unfold L2.start
    rw [List.getElem?_append_left (by rw [List.length_map, ← hl]; exact hi), List.getElem?_map, hv]
    rfl
  · rw [List.getElem?_append_right (by rw [List.length_map]; omega), List.getElem?_replicate] at h
    split at h <;> cases h
section
variable {P : Program} {w : World} {K : PySem.W.Frag} {mg : Str → Option Value} {base : Heap}
theorem fn_ok {x qual : Str} {st : Stmt} {f : Addr} {fd : FuncData} {N ps : List Str} {k : Nat} {b : En → Out} (F : Fun K x qual st f fd) (S : FnScope N ps (defScope st)) (hn : ps.length ≤ N.length)
    (hbody : ∀ (cdv : Value) (A : Around) (outer : List Env) (s : Shared) (H : Hp) (E : XK), Room k (A.deeper (envOfC qual (defScope st) s.heap.objs.size f cdv)) →
      DSs (cxOf (L2.CX P w) P w K mg base N qual (defScope st) f cdv A outer s H E) (fun cls d _ H => E cls d H) (defBody st) b) : FnOk P w K mg base (L2.CX P w) (k + 1) f fd ps (spD K ps.length (fn N.length b)) := by
  refine F.okX S (fun vs H Q E h => h.1) fun cdv A outer s H vs Q E hr h => ?_
  refine ⟨_, (hbody cdv A outer s H E hr).pss, ?_⟩
  obtain ⟨hl, ds, B, r, hb, h⟩ := h
  refine ⟨_, noOw, B, start_rep r hb (by rw [hl]; exact hn), ?_⟩
  unfold fn at h
  have fin : ∀ d, (∀ v H' os, Same H H' → RepD K (fun a => B a ∨ a ∈ os) H' d v os → os.Nodup → (∀ a ∈ os, H a = none) → Q v H') → AftR K B noOw H Q d := fun d h v H' os r nd k n =>
    h v H' os (fun a o e => k a o e (.inl fun _ z => nomatch z)) r nd fun a m => (n a m).elim (fun ⟨_, z⟩ => nomatch z) id
  cases e : b (ds.map some ++ List.replicate (N.length - ds.length) none) with
  | ret d => rw [e] at h; exact fin d h
  | nx ρ =>
    rw [e] at h
    exact fun σ' H' ow' s' c => h .non H' [] (fun a o e => c.keep a o e (.inl fun _ z => nomatch z)) .non List.nodup_nil fun _ z => nomatch z
  | exc ρ C fs => rw [e] at h; exact fun σ' H' ow' cls dd s' c x => h cls dd H' (fun a o e => c.keep a o e (.inl fun _ z => nomatch z)) x
  | bk ρ => rw [e] at h; exact h.elim
  | ct ρ => rw [e] at h; exact h.elim
  | stuck => rw [e] at h; exact h.elim
end
/-- f(..) -/
def eCall (F : List D → R D) (fa : En → R (List D)) : En → R D := fun ρ => (fa ρ).bind fun ds => F (frzL ds)
theorem rd_call {K : PySem.W.Frag} {W : WX} {S : List Nat} {σ : L2.St} {H : Hp} {n : Nat} {F : List D → R D} {fa : En → R (List D)} {Q : VK} (hn : ∀ ρ ds, fa ρ = .ok ds → ds.length = n) (h : rd K W S (eCall F fa) σ H Q) :
    rdA K W S fa σ H fun vs H1 => spD K n F vs H1 Q (fun cls dd H' => W cls dd σ H') := by
  obtain ⟨ρ, ow, B, s, h⟩ := h
  refine ⟨ρ, ow, B, s, ?_⟩
  unfold eCall at h
  cases ea : fa ρ with
  | stuck => rw [ea] at h; exact h
  | exc C fs => rw [ea] at h; exact h
  | ok ds =>
    rw [ea] at h
    dsimp only [R.bind_ok] at h
    intro vs H1 os q r nd nw
    have r' : RepL K (OutS S ow B []) H1 (frzL ds) vs [] := r.frz fun a o e z => by
      rcases z with ⟨i, z, n⟩ | z | z
      · exact ⟨.inl ⟨i, z, n⟩, fun m => s.there z (nw a m)⟩
      · exact ⟨.inr (.inl z), fun m => s.bt a z (nw a m)⟩
      · exact nomatch z
    refine ⟨by rw [← r.length]; exact hn ρ ds ea, frzL ds, _, r', fun a z => ?_, ?_⟩
    · rcases z with ⟨i, z, _⟩ | z | z
      · exact fun e => s.there z (q.free e)
      · exact fun e => s.bt a z (q.free e)
      · exact nomatch z
    · cases ef : F (frzL ds) with
      | stuck => rw [ef] at h; exact h
      | exc C fs => rw [ef] at h; exact fun cls dd H' q2 x => h cls dd H' (q.trans q2) x
      | ok d =>
        rw [ef] at h
        exact fun v H' os q2 r nd n => h v H' os (q.trans q2) (r.keep (fun a o _ z => by
          rcases z with z | z | z
          · exact .inl (.inl z)
          · exact .inl (.inr (.inl z))
          · exact .inr z) (Kept.of_same (Same.refl _) _)) nd fun a m => q.free (n a m)
theorem eNil_len {ρ : En} {ds : List D} (h : eNil ρ = .ok ds) : ds.length = 0 := by cases h; rfl
theorem eCons_len {n : Nat} {fa : En → R D} {fb : En → R (List D)} (hb : ∀ ρ ds, fb ρ = .ok ds → ds.length = n) : ∀ ρ ds, eCons fa fb ρ = .ok ds → ds.length = n + 1 := fun ρ ds h => by
  unfold eCons at h
  cases ea : fa ρ with
  | stuck => rw [ea] at h; cases h
  | exc C fs => rw [ea] at h; cases h
  | ok d =>
    rw [ea] at h
    dsimp only [R.bind_ok] at h
    cases eb : fb ρ with
    | stuck => rw [eb] at h; cases h
    | exc C fs => rw [eb] at h; cases h
    | ok es => rw [eb] at h; cases h; exact congrArg (· + 1) (hb ρ es eb)
section
variable {X : Cx} {W : WX} {S : List Nat} {k n : Nat} {f : Addr} {fd : FuncData} {ps : List Str} {F : List D → R D} {x : Str} {p pos : Pos} {e : Expr} {es : List Expr} {fa : En → R (List D)}
theorem de_call (tk : Takes X W) (G : FnOk X.prog X.w X.K X.mg X.base (L2.CX X.prog X.w) k f fd ps (spD X.K n F)) (hr : Room k X.A) (hm : X.mg x = some (.ref f)) (hk : PySem.W.keepIn X.K (.ref f) = true) (hb : Binds X.K fd ps []) (ha : DA X W S (e :: es) fa)
    (hn : ∀ ρ ds, fa ρ = .ok ds → ds.length = n) (hg : Gl X x := by rfl) (hdb : (x == ("__debug__" : Str)) = false := by decide) (he : starEach (e :: es) X.env = (false, eval e X.env) :: starEach es X.env := by rfl) (hpl : (backTo pos (starEach es X.env)).any (·.1) = false := by rfl) :
    DE X W S (.Call (.Name x p) (e :: es) [] pos) (eCall F fa) :=
  ⟨(pe_callSD (dvs := []) (E := fun σ cls dd H' => W cls dd σ H') G hr hg hm hk hb .nil (fun σ => passAt tk σ) ha.pa hdb he hpl).imp fun σ H Q h => by
    have := rd_call hn h
    unfold tCallSD
    simpa only [List.append_nil] using this⟩
end
end TL
/-! T7: operators over trees -/
namespace TL
open PySem PySem.Spec PyProof.Rows L2

section
variable {X : Cx}
theorem _root_.L2.UnR.orr {f : Value → Sem Value} {r r' : V → Hp → VK → Prop} (h : UnR X f r) (h' : UnR X f r') : UnR X f (fun x H Q => r x H Q ∨ r' x H Q) := fun pins s σ H x v Q I rx q => q.elim (h pins s σ H x v Q I rx) (h' pins s σ H x v Q I rx)
end
/-! ### helpers -/
theorem Done.flat {K : PySem.W.Frag} {O : Addr → Prop} {H : Hp} {o : List Addr} {d : D} {Q : VK} {v : V} (h : Done K O H o d Q) (r : ∀ O', RepD K O' H d v []) : Q v H := h v H [] (Same.refl H) (r _) List.nodup_nil fun _ z => nomatch z
theorem same_new {H : Hp} {p : Addr} {u : HO} (hp : H p = none) : Same H (upd H p u) := fun b o e => by rw [upd_ne (ne_of_none e hp)]; exact e
/-- a new list of given items -/
theorem Done.lst {K : PySem.W.Frag} {O : Addr → Prop} {H : Hp} {o os : List Addr} {xs : List D} {vs : List V} {Q : VK} (h : Done K O H o (.lst true xs) Q) (r : RepL K O H xs vs os) (nd : os.Nodup) (ho : ∀ a ∈ os, a ∈ o) (hO : ∀ a ∈ os, O a) {p : Addr} (hp : H p = none) : Q (.ref p) (upd H p (.lst vs)) := by
  refine h _ _ (p :: os) (same_new hp) (.lstO upd_same (r.keep (fun a u e z => ?_) (Kept.of_same (same_new hp) _))) (List.nodup_cons.mpr ⟨fun z => r.there p z hp, nd⟩) fun a m => ?_
  · rcases z with z | z
    · exact z
    · rcases List.mem_cons.mp z with q | z
      · rw [q, hp] at e; cases e
      · exact hO a z
  · rcases List.mem_cons.mp m with q | m
    · exact .inr (by rw [q]; exact hp)
    · exact .inl (ho a m)
theorem Done.tup {K : PySem.W.Frag} {O : Addr → Prop} {H : Hp} {o os : List Addr} {xs : List D} {vs : List V} {Q : VK} (h : Done K O H o (.tup xs) Q) (r : RepL K O H xs vs os) (nd : os.Nodup) (ho : ∀ a ∈ os, a ∈ o) (hO : ∀ a ∈ os, O a) {p : Addr} (hp : H p = none) : Q (.ref p) (upd H p (.tup vs)) := by
  refine h _ _ os (same_new hp) (.tup upd_same (r.keep (fun a u e z => z.elim id (hO a)) (Kept.of_same (same_new hp) _))) nd fun a m => .inl (ho a m)
theorem RepL.getO {K : PySem.W.Frag} {O : Addr → Prop} {H : Hp} : ∀ {xs : List D} {vs : List V} {os : List Addr} {i : Nat} {d : D}, RepL K O H xs vs os → os.Nodup → xs[i]? = some d → ∃ v o', vs[i]? = some v ∧ RepD K O H d v o' ∧ o'.Nodup ∧ ∀ a ∈ o', a ∈ os
  | _, _, _, _, _, .nil, _, h => nomatch h
  | _, _, _, 0, _, .cons r1 _, nd, h => by
    cases h
    exact ⟨_, _, rfl, r1, (List.nodup_append.mp nd).1, fun a m => List.mem_append_left _ m⟩
  | _, _, _, i + 1, _, .cons _ r2, nd, h => by
    obtain ⟨v, o', h1, h2, h3, h4⟩ := RepL.getO (i := i) r2 (List.nodup_append.mp nd).2.1 h
    exact ⟨v, o', h1, h2, h3, fun a m => List.mem_append_right _ (h4 a m)⟩
/-! no part that can change -/
mutual
def D.val : D → Bool
  | .tup xs => valL xs
  | .lst _ _ => false
  | .dct _ _ _ => false
  | .ins _ _ _ => false
  | .kl _ => false
  | .kt _ => false
  | _ => true
def valL : List D → Bool
  | [] => true
  | d :: r => d.val && valL r
end
mutual
theorem RepD.val {K : PySem.W.Frag} {O O' : Addr → Prop} {H : Hp} : ∀ {d : D} {v : V} {os : List Addr}, RepD K O H d v os → d.val = true → os = [] ∧ RepD K O' H d v []
  | _, _, _, .non, _ => ⟨rfl, .non⟩
  | _, _, _, .bl b, _ => ⟨rfl, .bl b⟩
  | _, _, _, .int b, _ => ⟨rfl, .int b⟩
  | _, _, _, .str b, _ => ⟨rfl, .str b⟩
  | _, _, _, .tup h r, c => ⟨(RepL.val (O' := O') r c).1, .tup h (RepL.val r c).2⟩
  | _, _, _, .lstF _ _ _, c => nomatch c
  | _, _, _, .lstO _ _, c => nomatch c
  | _, _, _, .kl _ _, c => nomatch c
  | _, _, _, .kt _ _, c => nomatch c
  | _, _, _, .dkF _ _ _, c => nomatch c
  | _, _, _, .dkO _ _, c => nomatch c
  | _, _, _, .dtF _ _ _, c => nomatch c
  | _, _, _, .dtO _ _, c => nomatch c
  | _, _, _, .insF _ _ _, c => nomatch c
  | _, _, _, .insO _ _, c => nomatch c
theorem RepL.val {K : PySem.W.Frag} {O O' : Addr → Prop} {H : Hp} : ∀ {d : List D} {v : List V} {os : List Addr}, RepL K O H d v os → valL d = true → os = [] ∧ RepL K O' H d v []
  | _, _, _, .nil, _ => ⟨rfl, .nil⟩
  | _, _, _, .cons h r, c => ⟨List.append_eq_nil_iff.mpr ⟨(RepD.val (O' := O') h (Bool.and_eq_true_iff.mp c).1).1, (RepL.val (O' := O') r (Bool.and_eq_true_iff.mp c).2).1⟩,
    .cons (o1 := []) (o2 := []) (RepD.val h (Bool.and_eq_true_iff.mp c).1).2 (RepL.val r (Bool.and_eq_true_iff.mp c).2).2⟩
end

/-! ### ints -/
def gI (f : Int → Int → Option D) : D → D → Option D := fun x y => match x, y with
  | .int i, .int j => f i j
  | _, _ => none
theorem gI_inv {f : Int → Int → Option D} {x y d : D} (h : gI f x y = some d) : ∃ i j, x = .int i ∧ y = .int j ∧ f i j = some d := by
  unfold gI at h
  split at h
  · exact ⟨_, _, rfl, rfl, h⟩
  · cases h
def gSub : D → D → Option D := gI fun i j => some (.int (i - j))
def gMod : D → D → Option D := gI fun i j => if 0 < j then some (.int (i % j)) else none
def gDiv : D → D → Option D := gI fun i j => if 0 < j ∧ j < 2 ^ 62 then some (.int (i / j)) else none
def gPow : D → D → Option D := gI fun i j => if 0 ≤ j ∧ j ≤ 1000 ∧ -(2 ^ 63) < i ∧ i < 2 ^ 63 then some (.int (i ^ j.toNat)) else none
def gNeg : D → Option D
  | .int i => some (.int (-i))
  | _ => none
section
variable {K : PySem.W.Frag}
theorem fits_I {f : Int → Int → Option D} {C : Int → Int → Prop} {g : Int → Int → V} (h : ∀ i j d, f i j = some d → C i j ∧ ∀ O H, RepD K O H d (g i j) []) : Fits2 K (gI f) (rI C g) := by
  intro O H x y v1 v2 o1 o2 d Q r1 r2 nd m e dn
  obtain ⟨i, j, rfl, rfl, e⟩ := gI_inv e
  cases r1
  cases r2
  obtain ⟨c, r⟩ := h i j d e
  exact ⟨i, j, rfl, rfl, c, dn.flat fun O' => r O' H⟩
theorem fits_I0 {f : Int → Int → Option D} {g : Int → Int → V} (h : ∀ i j d, f i j = some d → ∀ O H, RepD K O H d (g i j) []) : Fits2 K (gI f) (rI0 g) := by
  intro O H x y v1 v2 o1 o2 d Q r1 r2 nd m e dn
  obtain ⟨i, j, rfl, rfl, e⟩ := gI_inv e
  cases r1
  cases r2
  exact ⟨i, j, rfl, rfl, dn.flat fun O' => h i j d e O' H⟩
theorem fits_sub : Fits2 K gSub (rI0 fun i j => .int (i - j)) := fits_I0 fun i j d e O H => by cases e; exact .int _
theorem fits_mod : Fits2 K gMod (rI (fun _ j => 0 < j) fun i j => .int (i % j)) := fits_I fun i j d e => by
  split at e
  · rename_i h; cases e; exact ⟨h, fun _ _ => .int _⟩
  · cases e
theorem fits_div : Fits2 K gDiv (rI CDivW fun i j => .int (i / j)) := fits_I fun i j d e => by
  split at e
  · rename_i h
    cases e
    exact ⟨wide_div (b := 62) h.1 (by omega) (by decide) (by decide), fun _ _ => .int _⟩
  · cases e
theorem fits_pow : Fits2 K gPow (rI CPow fun i j => .int (i ^ j.toNat)) := fits_I fun i j d e => by
  split at e
  · rename_i h
    cases e
    exact ⟨⟨h.1, by omega, by omega⟩, fun _ _ => .int _⟩
  · cases e
theorem fits_neg : Fits1 K gNeg (rU fun i => .int (-i)) := by
  intro O H x v o d Q r nd m e dn
  cases x with
  | int i => cases e; cases r; exact ⟨i, rfl, dn.flat fun _ => .int _⟩
  | _ => cases e
end

/-! ### + -/
theorem _root_.L2.Inv.lstR {X : Cx} {pins : List (Addr × Obj)} {σ : L2.St} {H : Hp} {s : Shared} {l : Addr} {xs : List V} (I : Inv X pins σ H s) (h : Rd H l (.lst xs)) :
    xs.length ≤ sizeLine ∧ ∃ (its : List Value) (n : Nat), Vals xs its ∧ xs.length = its.length ∧ s.heap.get? l = some { cls := .type "list", data := .seq its.toArray n } := by
  obtain ⟨z, its, n, r, e⟩ := h.ok I.hok
  exact ⟨z, its, n, r, r.length, e⟩
section
variable {X : Cx}
/-- two lists that may be read -/
def rCatR : R2 := fun x y H Q => ∃ l b xs zs, x = .ref l ∧ y = .ref b ∧ Rd H l (.lst xs) ∧ Rd H b (.lst zs) ∧ xs.length + zs.length ≤ sizeLine ∧ ∀ p, H p = none → Q (.ref p) (upd H p (.lst (xs ++ zs)))
theorem op_catR : OpR X (binaryOp .Add) rCatR := by
  intro pins s σ H x y v u Q I rx ry h
  obtain ⟨l, b, xs, zs, rfl, rfl, h1, h2, hz, q⟩ := h
  cases rx
  cases ry
  obtain ⟨_, us, n, r, gl, e⟩ := I.lstR h1
  obtain ⟨_, ws, m, t, gm, f⟩ := I.lstR h2
  refine PySem.P.add_list e f ?_ (by simp only [List.size_toArray]; omega)
  rw [List.append_toArray]
  exact ⟨.ref _, _, I.lnew (t' := s.toks) (r.append t) (by rw [List.length_append]; exact hz), rfl, q _ I.fresh⟩
end
def gAdd : D → D → Option D
  | .int i, .int j => some (.int (i + j))
  | .str i, .str j => if i.length + j.length ≤ 16777216 then some (.str (i ++ j)) else none
  | .lst _ xs, .lst _ ys => if xs.length + ys.length ≤ 16777216 then some (.lst true (xs ++ ys)) else none
  | .tup (x :: xs), .tup (y :: ys) => if xs.length + ys.length + 2 ≤ 16777216 then some (.tup (x :: xs ++ y :: ys)) else none
  | _, _ => none
def rAddG (K : PySem.W.Frag) : R2 := fun x y H Q => rI0 (fun i j => .int (i + j)) x y H Q ∨ (∃ i j, x = .str i ∧ y = .str j ∧ i.length + j.length ≤ sizeLine ∧ Q (.str (i ++ j)) H) ∨ rCatR x y H Q ∨ rCatT K x y H Q
theorem op_addG {X : Cx} : OpR X (binaryOp .Add) (rAddG X.K) := op_add.or (op_add_str.or (op_catR.or op_catT))
theorem lst_part {K : PySem.W.Frag} {O : Addr → Prop} {H : Hp} {o : Bool} {xs : List D} {v : V} {os : List Addr} (r : RepD K O H (.lst o xs) v os) (nd : os.Nodup) : ∃ a vs o', v = .ref a ∧ Rd H a (.lst vs) ∧ RepL K O H xs vs o' ∧ o'.Nodup ∧ (∀ b ∈ o', b ∈ os) := by
  cases r with
  | lstF h n r => exact ⟨_, _, [], rfl, h, r, nd, fun _ z => z⟩
  | lstO h r => exact ⟨_, _, _, rfl, .inl h, r, (List.nodup_cons.mp nd).2, fun b m => List.mem_cons_of_mem _ m⟩
theorem nodup_parts {o1 o2 p1 p2 : List Addr} (nd : (o1 ++ o2).Nodup) (n1 : p1.Nodup) (n2 : p2.Nodup) (h1 : ∀ a ∈ p1, a ∈ o1) (h2 : ∀ a ∈ p2, a ∈ o2) : (p1 ++ p2).Nodup :=
  List.nodup_append.mpr ⟨n1, n2, fun a ha b hb e => (List.nodup_append.mp nd).2.2 a (h1 a ha) b (h2 b hb) e⟩
theorem fits_add {K : PySem.W.Frag} : Fits2 K gAdd (rAddG K) := by
  intro O H x y v1 v2 o1 o2 d Q r1 r2 nd m e dn
  unfold gAdd at e
  split at e
  · cases e
    cases r1
    cases r2
    exact .inl ⟨_, _, rfl, rfl, dn.flat fun _ => .int _⟩
  · split at e
    · rename_i hl
      cases e
      cases r1
      cases r2
      exact .inr (.inl ⟨_, _, rfl, rfl, by rw [sizeLine_eq]; exact hl, dn.flat fun _ => .str _⟩)
    · cases e
  · split at e
    · rename_i hl
      cases e
      obtain ⟨a, vs, p1, rfl, h1, q1, n1, s1⟩ := lst_part r1 (List.nodup_append.mp nd).1
      obtain ⟨b, ws, p2, rfl, h2, q2, n2, s2⟩ := lst_part r2 (List.nodup_append.mp nd).2.1
      have sub : ∀ c ∈ p1 ++ p2, c ∈ o1 ++ o2 := fun c z => (List.mem_append.mp z).elim (fun z => List.mem_append_left _ (s1 c z)) fun z => List.mem_append_right _ (s2 c z)
      refine .inr (.inr (.inl ⟨a, b, vs, ws, rfl, rfl, h1, h2, by rw [← q1.length, ← q2.length, sizeLine_eq]; exact hl, fun p hp => ?_⟩))
      exact dn.lst (q1.append q2) (nodup_parts nd n1 n2 s1 s2) sub (fun c z => m c (sub c z)) hp
    · cases e
  · split at e
    · rename_i hl
      cases e
      cases r1 with
      | tup h1 q1 =>
        cases r2 with
        | tup h2 q2 =>
          refine .inr (.inr (.inr ⟨_, _, _, _, rfl, rfl, .inl (.inl h1), .inl (.inl h2), ?_, ?_, fun z => ?_, fun _ p hp => ?_⟩))
          · cases q1; exact fun z => nomatch z
          · rw [← q1.length, ← q2.length, sizeLine_eq]
            simp only [List.length_cons]
            omega
          · cases q2; cases z
          · exact dn.tup (q1.append q2) nd (fun _ z => z) m hp
    · cases e
  · cases e
end TL
/-! T8: comparisons, in, subscripts, slices, built-in functions over trees -/
namespace TL
open PySem PySem.Spec PyProof.Rows L2

/-! ### data -/
mutual
def pyD : D → PyData
  | .non => .none
  | .bl b => .bool b
  | .int i => .int i
  | .str x => .str x
  | .tup xs => .tuple (pyL xs)
  | .lst _ xs => .list (pyL xs)
  | .kl xs => .list (pyL xs)
  | .kt xs => .tuple (pyL xs)
  | .dct _ _ _ => .none
  | .ins _ _ _ => .none
def pyL : List D → List PyData
  | [] => []
  | d :: r => pyD d :: pyL r
end
mutual
/-- data of so many levels at most -/
def okN : Nat → D → Bool
  | _, .non => true
  | _, .bl _ => true
  | _, .int _ => true
  | _, .str x => PyData.strOk x
  | n, .tup xs => match n with | 0 => false | n + 1 => okNL n xs
  | n, .lst _ xs => match n with | 0 => false | n + 1 => okNL n xs
  | n, .kl xs => match n with | 0 => false | n + 1 => okNL n xs
  | n, .kt xs => match n with | 0 => false | n + 1 => okNL n xs
  | _, .dct _ _ _ => false
  | _, .ins _ _ _ => false
def okNL : Nat → List D → Bool
  | _, [] => true
  | n, d :: r => okN n d && okNL n r
end
mutual
theorem okN_lay : ∀ {d : D} {n : Nat}, okN n d = true → (pyD d).canLay0 = true ∧ (pyD d).depth ≤ n
  | .non, _, _ => ⟨by simp [pyD, PyData.canLay0], by simp [pyD, PyData.depth]⟩
  | .bl _, _, _ => ⟨by simp [pyD, PyData.canLay0], by simp [pyD, PyData.depth]⟩
  | .int _, _, _ => ⟨by simp [pyD, PyData.canLay0], by simp [pyD, PyData.depth]⟩
  | .str x, _, h => ⟨by simp only [pyD, PyData.canLay0]; simpa only [okN] using h, by simp [pyD, PyData.depth]⟩
  | .tup xs, 0, h => by simp [okN] at h
  | .lst _ xs, 0, h => by simp [okN] at h
  | .kl xs, 0, h => by simp [okN] at h
  | .kt xs, 0, h => by simp [okN] at h
  | .tup xs, n + 1, h => by
    have q := okNL_lay (n := n) (xs := xs) (by simpa only [okN] using h)
    exact ⟨by simp only [pyD, PyData.canLay0]; exact q.1, by simp only [pyD, PyData.depth]; omega⟩
  | .lst _ xs, n + 1, h => by
    have q := okNL_lay (n := n) (xs := xs) (by simpa only [okN] using h)
    exact ⟨by simp only [pyD, PyData.canLay0]; exact q.1, by simp only [pyD, PyData.depth]; omega⟩
  | .kl xs, n + 1, h => by
    have q := okNL_lay (n := n) (xs := xs) (by simpa only [okN] using h)
    exact ⟨by simp only [pyD, PyData.canLay0]; exact q.1, by simp only [pyD, PyData.depth]; omega⟩
  | .kt xs, n + 1, h => by
    have q := okNL_lay (n := n) (xs := xs) (by simpa only [okN] using h)
    exact ⟨by simp only [pyD, PyData.canLay0]; exact q.1, by simp only [pyD, PyData.depth]; omega⟩
  | .dct _ _ _, _, h => by simp [okN] at h
  | .ins _ _ _, _, h => by simp [okN] at h
theorem okNL_lay : ∀ {xs : List D} {n : Nat}, okNL n xs = true → PyData.canLayAll0 (pyL xs) = true ∧ PyData.depthAll (pyL xs) ≤ n
  | [], _, _ => ⟨by simp [pyL, PyData.canLayAll0], by simp [pyL, PyData.depthAll]⟩
  | d :: r, n, h => by
    have h' : (okN n d && okNL n r) = true := by simpa only [okNL] using h
    have q1 := okN_lay (Bool.and_eq_true_iff.mp h').1
    have q2 := okNL_lay (Bool.and_eq_true_iff.mp h').2
    exact ⟨by simp only [pyL, PyData.canLayAll0, q1.1, q2.1, Bool.and_self], by simp only [pyL, PyData.depthAll]; omega⟩
end
mutual
theorem RepD.data {K : PySem.W.Frag} {O : Addr → Prop} {H : Hp} : ∀ {d : D} {v : V} {os : List Addr} {n : Nat}, RepD K O H d v os → okN n d = true → Dp K H v (pyD d)
  | _, _, _, _, .non, _ => .non
  | _, _, _, _, .bl b, _ => .bl b
  | _, _, _, _, .int i, _ => .int i
  | _, _, _, _, .str x, _ => .str x
  | _, _, _, 0, .tup _ _, h => by simp [okN] at h
  | _, _, _, n + 1, .tup h r, k => .tup (.inl (.inl h)) (RepL.data (n := n) r (by simpa only [okN] using k))
  | _, _, _, 0, .kt _ _, h => by simp [okN] at h
  | _, _, _, n + 1, .kt h r, k => .tup (.inr h) (RepL.data (n := n) r (by simpa only [okN] using k))
  | _, _, _, 0, .lstF _ _ _, h => by simp [okN] at h
  | _, _, _, n + 1, .lstF h _ r, k => .lst (.inl h) (RepL.data (n := n) r (by simpa only [okN] using k))
  | _, _, _, 0, .lstO _ _, h => by simp [okN] at h
  | _, _, _, n + 1, .lstO h r, k => .lst (.inl (.inl h)) (RepL.data (n := n) r (by simpa only [okN] using k))
  | _, _, _, 0, .kl _ _, h => by simp [okN] at h
  | _, _, _, n + 1, .kl h r, k => .lst (h.imp (fun z => z.1) id) (RepL.data (n := n) r (by simpa only [okN] using k))
  | _, _, _, _, .dkF _ _ _, h => by simp [okN] at h
  | _, _, _, _, .dkO _ _, h => by simp [okN] at h
  | _, _, _, _, .dtF _ _ _, h => by simp [okN] at h
  | _, _, _, _, .dtO _ _, h => by simp [okN] at h
  | _, _, _, _, .insF _ _ _, h => by simp [okN] at h
  | _, _, _, _, .insO _ _, h => by simp [okN] at h
theorem RepL.data {K : PySem.W.Frag} {O : Addr → Prop} {H : Hp} : ∀ {d : List D} {v : List V} {os : List Addr} {n : Nat}, RepL K O H d v os → okNL n d = true → DpAll K H v (pyL d)
  | _, _, _, _, .nil, _ => .nil
  | _, _, _, n, .cons h r, k => by
    rename_i d v ds vs o1 o2
    have k' : (okN n d && okNL n ds) = true := by simpa only [okNL] using k
    exact .cons (RepD.data h (Bool.and_eq_true_iff.mp k').1) (RepL.data r (Bool.and_eq_true_iff.mp k').2)
end
def eqD (x y : D) : Bool := PyData.eqv (pyD x) (pyD y)
def gEq : D → D → Option D := fun x y => if okN 9 x && okN 9 y then some (.bl (eqD x y)) else none
def gNe : D → D → Option D := fun x y => if okN 9 x && okN 9 y then some (.bl (!eqD x y)) else none
theorem okN_shaped {d : D} {n : Nat} (h : okN n d = true) (hn : n ≤ 64) : SeqAt.shaped (pyD d) = true := by
  have q := okN_lay h
  unfold SeqAt.shaped
  rw [q.1, Bool.true_and]
  exact decide_eq_true (Nat.le_trans q.2 hn)
theorem fits_eq {K : PySem.W.Frag} : Fits2 K gEq (rEqD K) := by
  intro O H x y v1 v2 o1 o2 d Q r1 r2 nd m e dn
  unfold gEq at e
  split at e
  · rename_i h
    obtain ⟨h1, h2⟩ := Bool.and_eq_true_iff.mp h
    cases e
    exact ⟨_, _, r1.data h1, r2.data h2, okN_shaped h1 (by decide), okN_shaped h2 (by decide), dn.flat fun _ => .bl _⟩
  · cases e
theorem fits_ne {K : PySem.W.Frag} : Fits2 K gNe (rNeD K) := by
  intro O H x y v1 v2 o1 o2 d Q r1 r2 nd m e dn
  unfold gNe at e
  split at e
  · rename_i h
    obtain ⟨h1, h2⟩ := Bool.and_eq_true_iff.mp h
    cases e
    exact ⟨_, _, r1.data h1, r2.data h2, okN_shaped h1 (by decide), okN_shaped h2 (by decide), dn.flat fun _ => .bl _⟩
  · cases e

/-! ### order -/
def intsOf : List D → Option (List Int)
  | [] => some []
  | .int i :: r => (intsOf r).map (i :: ·)
  | _ :: _ => none
theorem intsOf_rep {K : PySem.W.Frag} {O : Addr → Prop} {H : Hp} : ∀ {xs : List D} {vs : List V} {os : List Addr} {ns : List Int}, RepL K O H xs vs os → intsOf xs = some ns → vs = ns.map V.int
  | _, _, _, _, .nil, h => by cases h; rfl
  | _, _, _, _, .cons (d := d) r1 r2, h => by
    cases d with
    | int i =>
      obtain ⟨ms, e1, e2⟩ := Option.map_eq_some_iff.mp (show (intsOf _).map (i :: ·) = some _ from h)
      cases r1
      rw [← e2, intsOf_rep r2 e1]
      rfl
    | _ => cases h
def lexLt (a b : List Int) : Bool := HT.lexLt a b
def gLt : D → D → Option D
  | .int i, .int j => some (.bl (decide (i < j)))
  | .tup xs, .tup ys => match intsOf xs, intsOf ys with
    | some a, some b => some (.bl (lexLt a b))
    | _, _ => none
  | _, _ => none
def gLe : D → D → Option D := gI fun i j => some (.bl (decide (i ≤ j)))
def gGt : D → D → Option D := gI fun i j => some (.bl (decide (j < i)))
def gGe : D → D → Option D := gI fun i j => some (.bl (decide (j ≤ i)))
def rLtG (K : PySem.W.Frag) : R2 := fun x y H Q => rI0 (fun i j => .bl (decide (i < j))) x y H Q ∨ rLtT K x y H Q
theorem op_ltG {X : Cx} (hu : X.A.units < cLine) : OpR X (compareOp .Lt) (rLtG X.K) := op_lt.or (op_ltT hu)
section
variable {K : PySem.W.Frag}
theorem fits_lt : Fits2 K gLt (rLtG K) := by
  intro O H x y v1 v2 o1 o2 d Q r1 r2 nd m e dn
  unfold gLt at e
  split at e
  · cases e
    cases r1
    cases r2
    exact .inl ⟨_, _, rfl, rfl, dn.flat fun _ => .bl _⟩
  · split at e
    · rename_i a b ha hb
      cases e
      cases r1 with
      | tup h1 q1 =>
        cases r2 with
        | tup h2 q2 =>
          have e1 := intsOf_rep q1 ha
          have e2 := intsOf_rep q2 hb
          subst e1 e2
          exact .inr ⟨_, _, a, b, rfl, rfl, .inl (.inl h1), .inl (.inl h2), dn.flat fun _ => .bl _⟩
    · cases e
  · cases e
theorem fits_le : Fits2 K gLe (rI0 fun i j => .bl (decide (i ≤ j))) := fits_I0 fun i j d e O H => by cases e; exact .bl _
theorem fits_gt : Fits2 K gGt (rI0 fun i j => .bl (decide (j < i))) := fits_I0 fun i j d e O H => by cases e; exact .bl _
theorem fits_ge : Fits2 K gGe (rI0 fun i j => .bl (decide (j ≤ i))) := fits_I0 fun i j d e O H => by cases e; exact .bl _
end

/-! ### in -/
def seqOf : D → Option (List D)
  | .lst _ xs => some xs
  | .tup xs => some xs
  | .kl xs => some xs
  | .kt xs => some xs
  | _ => none
def inD (x : D) (xs : List D) : Bool := xs.any fun z => eqD z x
def gInS (neg : Bool) : D → D → Option D := fun x y => match seqOf y with
  | some xs => if okN 9 x && okN 9 y then some (.bl (if neg then !inD x xs else inD x xs)) else none
  | none => none
theorem pyL_any {f : PyData → Bool} : ∀ xs : List D, (pyL xs).any f = xs.any fun d => f (pyD d)
  | [] => rfl
  | d :: r => by unfold pyL; rw [List.any_cons, List.any_cons, pyL_any r]
theorem pyL_map : ∀ xs : List D, pyL xs = xs.map pyD
  | [] => rfl
  | d :: r => congrArg (pyD d :: ·) (pyL_map r)
/-- in a list or tuple of data -/
def rInS (K : PySem.W.Frag) (neg : Bool) : R2 := fun x y H Q => ∃ d ds c, Dp K H x d ∧ Dp K H y c ∧ (c = .list ds ∨ c = .tuple ds) ∧ SeqAt.shaped d = true ∧ SeqAt.shaped c = true ∧ Q (.bl (if neg then !(ds.any fun z => PyData.eqv z d) else ds.any fun z => PyData.eqv z d)) H
theorem depth_room {A : Around} {d : PyData} {n : Nat} (s : SeqAt.shaped d = true) (hu : A.units + 65 < cLine) : A.units + 1 + min n d.depth < cLine := by
  have h := SeqAt.depth_of_shaped s
  have h2 := Nat.min_le_right n d.depth
  omega
theorem op_inS {X : Cx} (hu : X.A.units + 65 < cLine) : OpR X (compareOp .In) (rInS X.K false) := by
  intro pins s σ H x y v u Q I rx ry h
  obtain ⟨d, ds, c, hd, hc, ec, sd, sc, q⟩ := h
  obtain ⟨_, r1⟩ := Dp.reads I d x v hd rx
  obtain ⟨_, r2⟩ := Dp.reads I c y u hc ry
  rcases ec with ec | ec <;> subst ec
  · exact SeqAt.in_list_reads r2 r1 (SeqAt.canLay_of_shaped sc) (SeqAt.canLay_of_shaped sd) (depth_room sd hu) ⟨.bl _, H, I, rfl, q⟩
  · exact SeqAt.in_tuple_reads r2 r1 (SeqAt.canLay_of_shaped sc) (SeqAt.canLay_of_shaped sd) (depth_room sd hu) ⟨.bl _, H, I, rfl, q⟩
theorem op_niS {X : Cx} (hu : X.A.units + 65 < cLine) : OpR X (compareOp .NotIn) (rInS X.K true) := by
  intro pins s σ H x y v u Q I rx ry h
  obtain ⟨d, ds, c, hd, hc, ec, sd, sc, q⟩ := h
  obtain ⟨_, r1⟩ := Dp.reads I d x v hd rx
  obtain ⟨_, r2⟩ := Dp.reads I c y u hc ry
  rcases ec with ec | ec <;> subst ec
  · exact SeqAt.notIn_list_reads r2 r1 (SeqAt.canLay_of_shaped sc) (SeqAt.canLay_of_shaped sd) (depth_room sd hu) ⟨.bl _, H, I, rfl, q⟩
  · exact SeqAt.notIn_tuple_reads r2 r1 (SeqAt.canLay_of_shaped sc) (SeqAt.canLay_of_shaped sd) (depth_room sd hu) ⟨.bl _, H, I, rfl, q⟩
theorem fits_inS {K : PySem.W.Frag} {neg : Bool} : Fits2 K (gInS neg) (rInS K neg) := by
  intro O H x y v1 v2 o1 o2 d Q r1 r2 nd m e dn
  unfold gInS at e
  split at e
  · rename_i xs hs
    split at e
    · rename_i h
      obtain ⟨h1, h2⟩ := Bool.and_eq_true_iff.mp h
      cases e
      refine ⟨_, pyL xs, pyD y, r1.data h1, r2.data h2, ?_, okN_shaped h1 (by decide), okN_shaped h2 (by decide), ?_⟩
      · cases y with
        | lst o ys => cases hs; exact .inl rfl
        | tup ys => cases hs; exact .inr rfl
        | kl ys => cases hs; exact .inl rfl
        | kt ys => cases hs; exact .inr rfl
        | _ => cases hs
      · rw [pyL_any]
        exact dn.flat fun _ => .bl _
    · cases e
  · cases e

/-! ### is None -/
def gIsN : D → D → Option D := fun x y => match y with
  | .non => some (.bl (match x with | .non => true | _ => false))
  | _ => none
def gIsnN : D → D → Option D := fun x y => match y with
  | .non => some (.bl (match x with | .non => false | _ => true))
  | _ => none
theorem fits_isN {K : PySem.W.Frag} : Fits2 K gIsN (fun x y H Q => y = .non ∧ Q (.bl (decide (x = .non))) H) := by
  intro O H x y v1 v2 o1 o2 d Q r1 r2 nd m e dn
  cases y with
  | non =>
    cases e
    cases r2
    refine ⟨rfl, ?_⟩
    cases r1 <;> exact dn.flat fun _ => .bl _
  | _ => cases e
theorem fits_isnN {K : PySem.W.Frag} : Fits2 K gIsnN (fun x y H Q => y = .non ∧ Q (.bl (!decide (x = .non))) H) := by
  intro O H x y v1 v2 o1 o2 d Q r1 r2 nd m e dn
  cases y with
  | non =>
    cases e
    cases r2
    refine ⟨rfl, ?_⟩
    cases r1 <;> exact dn.flat fun _ => .bl _
  | _ => cases e

/-! ### subscripts -/
def gIx : D → D → Option D := fun x y => match y with
  | .int i => match x with
    | .lst _ xs => atI xs i
    | .tup xs => atI xs i
    | .kl xs => atI xs i
    | .kt xs => atI xs i
    | .str z => if z.length ≤ 16777216 then (atI z.cps.toList i).map fun c => .str ⟨#[c]⟩ else none
    | _ => none
  | _ => none
theorem atI_len {α β : Type} {xs : List α} {ys : List β} {i : Int} {a : α} (hl : xs.length = ys.length) (h : atI xs i = some a) : ∃ j : Nat, xs[j]? = some a ∧ ∀ b, ys[j]? = some b → atI ys i = some b := by
  unfold atI at h
  obtain ⟨j, e1, e2⟩ := Option.bind_eq_some_iff.mp h
  exact ⟨j, e2, fun b hb => by unfold atI; rw [← hl, e1]; exact hb⟩
theorem fits_ix {K : PySem.W.Frag} : Fits2 K gIx (rIx K) := by
  intro O H x y v1 v2 o1 o2 d Q r1 r2 nd m e dn
  have out : ∀ {xs : List D} {vs : List V} {os : List Addr} {i : Int}, RepL K O H xs vs os → os.Nodup → (∀ a ∈ os, a ∈ o1) → atI xs i = some d → ∃ v, atI vs i = some v ∧ Q v H := by
    intro xs vs os i r n sub h
    obtain ⟨j, hj, hv⟩ := atI_len r.length h
    obtain ⟨v, o', e1, rv, n', s'⟩ := r.getO n hj
    refine ⟨v, hv v e1, dn v H o' (Same.refl H) (rv.keep (fun a u _ z => z.elim id fun z => m a (List.mem_append_left _ (sub a (s' a z)))) (Kept.of_same (Same.refl _) _)) n' fun a z => .inl (List.mem_append_left _ (sub a (s' a z)))⟩
  have n1 := (List.nodup_append.mp nd).1
  cases y with
  | int i =>
    cases r2
    cases x with
    | lst o xs =>
      obtain ⟨a, vs, os, rfl, hr, r, n, sub⟩ := lst_part r1 n1
      obtain ⟨v, h1, h2⟩ := out r n sub e
      exact .inl ⟨a, vs, i, v, rfl, rfl, .inl hr, h1, h2⟩
    | tup xs =>
      cases r1 with
      | tup h r =>
        obtain ⟨v, h1, h2⟩ := out r n1 (fun _ z => z) e
        exact .inr (.inl ⟨_, _, i, v, rfl, rfl, .inl (.inl h), h1, h2⟩)
    | kt xs =>
      cases r1 with
      | kt h r =>
        obtain ⟨v, h1, h2⟩ := out r List.nodup_nil (fun _ z => nomatch z) e
        exact .inr (.inl ⟨_, _, i, v, rfl, rfl, .inr h, h1, h2⟩)
    | kl xs =>
      cases r1 with
      | kl h r =>
        obtain ⟨v, h1, h2⟩ := out r List.nodup_nil (fun _ z => nomatch z) e
        exact .inl ⟨_, _, i, v, rfl, rfl, h.imp (fun z => z.1) id, h1, h2⟩
    | str z =>
      cases r1
      have e' : (if z.length ≤ 16777216 then (atI z.cps.toList i).map fun c => D.str ⟨#[c]⟩ else none) = some d := e
      split at e'
      · rename_i hz
        obtain ⟨c, hc, ed⟩ := Option.map_eq_some_iff.mp e'
        subst ed
        exact .inr (.inr ⟨z, i, c, rfl, rfl, by rw [sizeLine_eq]; exact hz, hc, dn.flat fun _ => .str _⟩)
      · cases e'
    | _ => cases e
  | _ => cases e

/-! ### slices -/
def oNone : En → R (Option Int) := fun _ => .ok none
def oSome (f : En → R D) : En → R (Option Int) := fun ρ => (f ρ).bind fun d => match d with
  | .int i => .ok (some i)
  | _ => .stuck
def cutD (xs : List D) (lo hi : Option Int) : List D := (xs.drop (HT.sIx xs.length 0 lo)).take (HT.sIx xs.length xs.length hi - HT.sIx xs.length 0 lo)
def gSl : D → Option Int → Option Int → Option D := fun x lo hi => match x with
  | .lst _ xs => if valL xs then some (.lst true (cutD xs lo hi)) else none
  | .tup xs => if valL xs then some (.tup (cutD xs lo hi)) else none
  | _ => none
def eSl (f : En → R D) (lo hi : En → R (Option Int)) : En → R D := fun ρ => (f ρ).bind fun x => (lo ρ).bind fun l => (hi ρ).bind fun h => ofO (gSl x l h)
def rdO (K : PySem.W.Frag) (W : WX) (f : En → R (Option Int)) : TO := fun σ H Q => ∃ ρ ow B, Stt K B ρ σ H ow ∧ match f ρ with
  | .ok o => ∀ H', Same H H' → Q o H'
  | .exc C fs => rdEx K W σ H C fs
  | .stuck => False
structure DO (X : Cx) (W : WX) (e : Option Expr) (f : En → R (Option Int)) : Prop where
  po : PO X e (rdO X.K W f)
theorem RepL.cut {K : PySem.W.Frag} {O : Addr → Prop} {H : Hp} {xs : List D} {vs : List V} (r : RepL K O H xs vs []) (lo hi : Option Int) : RepL K O H (cutD xs lo hi) (cutV vs lo hi) [] := by
  have dropR : ∀ (n : Nat) {xs : List D} {vs : List V}, RepL K O H xs vs [] → RepL K O H (xs.drop n) (vs.drop n) [] := by
    intro n
    induction n with
    | zero => intro xs vs r; exact r
    | succ n ih =>
      intro xs vs r
      generalize he : ([] : List Addr) = os at r
      cases r with
      | nil => exact .nil
      | cons r1 r2 =>
        obtain ⟨e1, e2⟩ := List.append_eq_nil_iff.mp he.symm
        subst e1 e2
        exact ih r2
  have takeR : ∀ (n : Nat) {xs : List D} {vs : List V}, RepL K O H xs vs [] → RepL K O H (xs.take n) (vs.take n) [] := by
    intro n
    induction n with
    | zero => intro xs vs r; exact .nil
    | succ n ih =>
      intro xs vs r
      generalize he : ([] : List Addr) = os at r
      cases r with
      | nil => exact .nil
      | cons r1 r2 =>
        obtain ⟨e1, e2⟩ := List.append_eq_nil_iff.mp he.symm
        subst e1 e2
        exact .cons (o1 := []) (o2 := []) r1 (ih r2)
  unfold cutD cutV
  rw [r.length]
  exact takeR _ (dropR _ r)
section
variable {X : Cx} {W : WX} {S Sl Sh : List Nat} {e : Expr} {lo hi : Option Expr} {pos p2 : Pos} {fe fl : En → R D} {ol oh : En → R (Option Int)}
theorem _root_.L2.PO.imp {X : Cx} {e : Option Expr} {t t' : TO} (h : PO X e t) (m : ∀ σ H Q, t' σ H Q → t σ H Q) : PO X e t' := ⟨fun pins s σ H Q I q => h.run pins s σ H Q I (m σ H Q q)⟩
theorem do_none : DO X W none oNone := ⟨po_none.imp fun σ H Q ⟨ρ, ow, B, s, h⟩ => h H (Same.refl H)⟩
theorem do_some {e : Expr} (h : DE X W S e fl) : DO X W (some e) (oSome fl) := ⟨(po_some h.pe).imp fun σ H Q ⟨ρ, ow, B, s, h⟩ => by
  refine ⟨ρ, ow, B, s, ?_⟩
  unfold oSome at h
  cases ef : fl ρ with
  | stuck => rw [ef] at h; exact h
  | exc C fs => rw [ef] at h; exact h
  | ok d =>
    rw [ef] at h
    intro v H' os q r nd n
    cases d with
    | int i => cases r; exact ⟨i, rfl, h H' q⟩
    | _ => exact h.elim⟩
theorem de_slice (he : DE X W S e fe) (hl : DO X W lo ol) (hh : DO X W hi oh) : DE X W S (.Subscript e (.Slice lo hi none p2) pos) (eSl fe ol oh) :=
  ⟨(pe_slice (sl_list.or sl_tupA) he.pe hl.po hh.po).imp fun σ H Q ⟨ρ, ow, B, s, h⟩ => by
    refine ⟨ρ, ow, B, s, ?_⟩
    unfold eSl at h
    cases ef : fe ρ with
    | stuck => rw [ef] at h; exact h
    | exc C fs => rw [ef] at h; exact h
    | ok d =>
      rw [ef] at h
      dsimp only [R.bind_ok] at h
      intro v H1 os q r nd n
      refine ⟨ρ, ow, B, s.same q, ?_⟩
      cases el : ol ρ with
      | stuck => rw [el] at h; exact h
      | exc C fs => rw [el] at h; exact fun cls dd H2 q2 x => h cls dd H2 (q.trans q2) x
      | ok l =>
        rw [el] at h
        dsimp only [R.bind_ok] at h
        intro H2 q2
        refine ⟨ρ, ow, B, s.same (q.trans q2), ?_⟩
        cases eh : oh ρ with
        | stuck => rw [eh] at h; exact h
        | exc C fs => rw [eh] at h; exact fun cls dd H3 q3 x => h cls dd H3 ((q.trans q2).trans q3) x
        | ok hv =>
          rw [eh] at h
          dsimp only [R.bind_ok] at h
          intro H3 q3
          have q13 := (q.trans q2).trans q3
          cases eg : gSl d l hv with
          | none => rw [eg] at h; exact h.elim
          | some y =>
            rw [eg] at h
            have r3 := r.keep (O' := OutS S ow B os) (fun a o _ z => z) (Kept.of_same (q2.trans q3) _)
            cases d with
            | lst o xs =>
              have e' : (if valL xs then some (D.lst true (cutD xs l hv)) else none) = some y := eg
              split at e'
              · rename_i hv2
                cases e'
                obtain ⟨a, vs, o', rfl, hr, rl, n', sub⟩ := lst_part r3 nd
                have rv := (RepL.val (O' := OutS S ow B []) rl hv2).2
                refine .inl ⟨a, vs, rfl, .inl hr, fun p hp => ?_⟩
                have sm := same_new (u := .lst (cutV vs l hv)) hp
                exact h _ _ [p] (q13.trans sm) (.lstO upd_same ((rv.cut l hv).keep (fun a u e z => by
                  rcases z with z | z | z
                  · exact .inl z
                  · exact .inr (.inl z)
                  · rw [List.mem_singleton.mp z, hp] at e; cases e) (Kept.of_same sm _))) (by simp) fun a m => by rw [List.mem_singleton.mp m]; exact q13.free hp
              · cases e'
            | tup xs =>
              have e' : (if valL xs then some (D.tup (cutD xs l hv)) else none) = some y := eg
              split at e'
              · rename_i hv2
                cases e'
                cases r3 with
                | @tup a vs _ _ hr rl =>
                  have rv := (RepL.val (O' := OutS S ow B []) rl hv2).2
                  refine .inr ⟨_, _, rfl, .inl (.inl hr), fun w => ?_, fun w p hp => ?_⟩
                  · have ew : cutD xs l hv = xs := by
                      unfold cutD
                      rw [rl.length, w.1, w.2, List.drop_zero, Nat.sub_zero, ← rl.length, List.take_length]
                    rw [ew] at h
                    exact h _ _ [] q13 (.tup hr rv) List.nodup_nil fun _ z => nomatch z
                  · have sm := same_new (u := .tup (cutV vs l hv)) hp
                    exact h _ _ [] (q13.trans sm) (.tup upd_same ((rv.cut l hv).keep (fun a u e z => z) (Kept.of_same sm _))) List.nodup_nil fun _ z => nomatch z
              · cases e'
            | _ => cases eg⟩
end
end TL
/-! T9: built-in calls, what changes a local thing -/
namespace TL
open PySem PySem.Spec PyProof.Rows L2

/-! ### built-ins by name -/
section
variable {X : Cx} {W : WX} {S : List Nat} {x : Str} {p pos : Pos} {e : Expr} {es : List Expr} {fa : En → R (List D)} {g : List D → Option D} {r : List V → Hp → VK → Prop} {id T : String}
theorem de_callB (hc : CallR X (.builtin id) r) (hf : FitsN X.K g r) (hm : X.mg x = none) (hv : bootBuiltins x = some (.builtin id)) (ha : DA X W S (e :: es) fa) (hg : Gl X x := by rfl) (hn : x ≠ "__name__" := by decide) (hdb : (x == ("__debug__" : Str)) = false := by decide)
    (he : starEach (e :: es) X.env = (false, eval e X.env) :: starEach es X.env := by rfl) (hpl : (backTo pos (starEach es X.env)).any (·.1) = false := by rfl) : DE X W S (.Call (.Name x p) (e :: es) [] pos) (eN g fa) :=
  ⟨(pe_callB hc hg hm hv ha.pa hn hdb he hpl).imp fun σ H Q h => rdN hf h⟩
theorem de_callTy (hc : CallR X (.type T) r) (hf : FitsN X.K g r) (hm : X.mg x = none) (hv : bootBuiltins x = some (.type T)) (ha : DA X W S (e :: es) fa) (hg : Gl X x := by rfl) (hn : x ≠ "__name__" := by decide) (hdb : (x == ("__debug__" : Str)) = false := by decide)
    (he : starEach (e :: es) X.env = (false, eval e X.env) :: starEach es X.env := by rfl) (hpl : (backTo pos (starEach es X.env)).any (·.1) = false := by rfl) : DE X W S (.Call (.Name x p) (e :: es) [] pos) (eN g fa) :=
  ⟨(pe_callTy hc hg hm hv ha.pa hn hdb he hpl).imp fun σ H Q h => rdN hf h⟩
end
theorem _root_.L2.CallR.orr {X : Cx} {f : Value} {r r' : List V → Hp → VK → Prop} (h : CallR X f r) (h' : CallR X f r') : CallR X f (fun xs H Q => r xs H Q ∨ r' xs H Q) := h.or h'
theorem RepL.one {K : PySem.W.Frag} {O : Addr → Prop} {H : Hp} {d : D} {vs : List V} {os : List Addr} (r : RepL K O H [d] vs os) : ∃ v, vs = [v] ∧ RepD K O H d v os := by
  cases r with
  | cons r1 r2 => cases r2; exact ⟨_, rfl, by rw [List.append_nil]; exact r1⟩
theorem RepL.two {K : PySem.W.Frag} {O : Addr → Prop} {H : Hp} {d e : D} {vs : List V} {os : List Addr} (r : RepL K O H [d, e] vs os) : ∃ v w o1 o2, vs = [v, w] ∧ os = o1 ++ o2 ∧ RepD K O H d v o1 ∧ RepD K O H e w o2 := by
  cases r with
  | cons r1 r2 =>
    obtain ⟨w, rfl, q2⟩ := r2.one
    exact ⟨_, w, _, _, rfl, rfl, r1, q2⟩
section
variable {K : PySem.W.Frag}
def gLen : List D → Option D
  | [.lst _ xs] => some (.int xs.length)
  | [.tup xs] => some (.int xs.length)
  | [.kl xs] => some (.int xs.length)
  | [.str x] => if x.length ≤ 16777216 then some (.int x.length) else none
  | _ => none
def rLen (K : PySem.W.Frag) : List V → Hp → VK → Prop := fun xs H Q => ∃ x n, xs = [x] ∧ LenV K x H n ∧ Q (.int n) H
theorem fits_len : FitsN K gLen (rLen K) := by
  intro O H xs vs o d Q r nd m e dn
  unfold gLen at e
  split at e
  · cases e
    obtain ⟨v, rfl, q⟩ := r.one
    obtain ⟨a, ws, o', rfl, hr, rl, _, _⟩ := lst_part q nd
    exact ⟨_, _, rfl, .inl ⟨ws, .inl hr, rl.length⟩, dn.flat fun _ => .int _⟩
  · cases e
    obtain ⟨v, rfl, q⟩ := r.one
    cases q with
    | tup h rl => exact ⟨_, _, rfl, .inr ⟨_, .inl (.inl h), rl.length⟩, dn.flat fun _ => .int _⟩
  · cases e
    obtain ⟨v, rfl, q⟩ := r.one
    cases q with
    | kl h rl => exact ⟨_, _, rfl, .inl ⟨_, h.imp (fun z => z.1) id, rl.length⟩, dn.flat fun _ => .int _⟩
  · split at e
    · rename_i hz
      cases e
      obtain ⟨v, rfl, q⟩ := r.one
      cases q
      exact ⟨_, _, rfl, (show _ ∧ _ from ⟨by rw [sizeLine_eq]; exact hz, rfl⟩), dn.flat fun _ => .int _⟩
    · cases e
  · cases e
def gInt : List D → Option D
  | [.int i] => some (.int i)
  | [.bl b] => some (.int (if b then 1 else 0))
  | _ => none
theorem fits_int : FitsN K gInt (fun xs H Q => (∃ i, xs = [.int i] ∧ Q (.int i) H) ∨ ∃ k, xs = [.bl k] ∧ Q (.int (if k then 1 else 0)) H) := by
  intro O H xs vs o d Q r nd m e dn
  unfold gInt at e
  split at e
  · cases e
    obtain ⟨v, rfl, q⟩ := r.one
    cases q
    exact .inl ⟨_, rfl, dn.flat fun _ => .int _⟩
  · cases e
    obtain ⟨v, rfl, q⟩ := r.one
    cases q
    exact .inr ⟨_, rfl, dn.flat fun _ => .int _⟩
  · cases e
def gAbs : List D → Option D
  | [.int i] => some (.int (if i < 0 then -i else i))
  | _ => none
theorem fits_abs : FitsN K gAbs (fun xs H Q => ∃ i, xs = [.int i] ∧ Q (.int (if i < 0 then -i else i)) H) := by
  intro O H xs vs o d Q r nd m e dn
  unfold gAbs at e
  split at e
  · cases e
    obtain ⟨v, rfl, q⟩ := r.one
    cases q
    exact ⟨_, rfl, dn.flat fun _ => .int _⟩
  · cases e
def gMax2 : List D → Option D
  | [.int i, .int j] => some (.int (if j > i then j else i))
  | _ => none
def gMin2 : List D → Option D
  | [.int i, .int j] => some (.int (if j < i then j else i))
  | _ => none
theorem fits_max2 : FitsN K gMax2 (fun xs H Q => ∃ i j, xs = [.int i, .int j] ∧ Q (.int (if j > i then j else i)) H) := by
  intro O H xs vs o d Q r nd m e dn
  unfold gMax2 at e
  split at e
  · cases e
    obtain ⟨v, w, _, _, rfl, _, r1, r2⟩ := r.two
    cases r1
    cases r2
    exact ⟨_, _, rfl, dn.flat fun _ => .int _⟩
  · cases e
theorem fits_min2 : FitsN K gMin2 (fun xs H Q => ∃ i j, xs = [.int i, .int j] ∧ Q (.int (if j < i then j else i)) H) := by
  intro O H xs vs o d Q r nd m e dn
  unfold gMin2 at e
  split at e
  · cases e
    obtain ⟨v, w, _, _, rfl, _, r1, r2⟩ := r.two
    cases r1
    cases r2
    exact ⟨_, _, rfl, dn.flat fun _ => .int _⟩
  · cases e
def gListOf : List D → Option D
  | [.lst _ xs] => some (.lst true xs)
  | [.tup xs] => some (.lst true xs)
  | [.kl xs] => some (.lst true xs)
  | _ => none
theorem fits_listOf : FitsN K gListOf (fun xs H Q => ∃ p ys, xs = [.ref p] ∧ (SqL K H p ys ∨ SqT K H p ys) ∧ ∀ l, H l = none → Q (.ref l) (upd H l (.lst ys))) := by
  intro O H xs vs o d Q r nd m e dn
  unfold gListOf at e
  split at e
  · cases e
    obtain ⟨v, rfl, q⟩ := r.one
    obtain ⟨a, ws, o', rfl, hr, rl, n', sub⟩ := lst_part q nd
    exact ⟨a, ws, rfl, .inl (.inl hr), fun l hl => dn.lst rl n' sub (fun a z => m a (sub a z)) hl⟩
  · cases e
    obtain ⟨v, rfl, q⟩ := r.one
    cases q with
    | tup h rl => exact ⟨_, _, rfl, .inr (.inl (.inl h)), fun l hl => dn.lst rl nd (fun _ z => z) m hl⟩
  · cases e
    obtain ⟨v, rfl, q⟩ := r.one
    cases q with
    | kl h rl => exact ⟨_, _, rfl, .inl (h.imp (fun z => z.1) id), fun l hl => dn.lst rl List.nodup_nil (fun _ z => nomatch z) (fun _ z => nomatch z) hl⟩
  · cases e
def gTupOf : List D → Option D
  | [.lst _ xs] => some (.tup xs)
  | [.tup xs] => some (.tup xs)
  | _ => none
theorem fits_tupOf : FitsN K gTupOf (fun xs H Q => ∃ p ys, xs = [.ref p] ∧ ((SqL K H p ys ∧ ∀ l, H l = none → Q (.ref l) (upd H l (.tup ys))) ∨ (SqT K H p ys ∧ Q (.ref p) H))) := by
  intro O H xs vs o d Q r nd m e dn
  unfold gTupOf at e
  split at e
  · cases e
    obtain ⟨v, rfl, q⟩ := r.one
    obtain ⟨a, ws, o', rfl, hr, rl, n', sub⟩ := lst_part q nd
    exact ⟨a, ws, rfl, .inl ⟨.inl hr, fun l hl => dn.tup rl n' sub (fun a z => m a (sub a z)) hl⟩⟩
  · cases e
    obtain ⟨v, rfl, q⟩ := r.one
    cases q with
    | tup h rl => exact ⟨_, _, rfl, .inr ⟨.inl (.inl h), dn _ _ o (Same.refl _) (.tup h (rl.keep (fun a u _ z => z.elim id (m a)) (Kept.of_same (Same.refl _) _))) nd fun a z => .inl z⟩⟩
  · cases e
end

/-! ### isinstance with a built-in class -/
def tyName : D → String
  | .non => "NoneType"
  | .bl _ => "bool"
  | .int _ => "int"
  | .str _ => "str"
  | .tup _ => "tuple"
  | .lst _ _ => "list"
  | .kl _ => "list"
  | .dct _ _ _ => "dict"
  | .kt _ => "tuple"
  | .ins _ _ _ => "object"
def subTy (t c : String) : Bool := t == c || (t == "bool" && c == "int")
def gIsi (c : String) : D → Option D
  | .ins _ _ _ => none
  | .dct _ _ _ => none
  | d => some (.bl (subTy (tyName d) c))
theorem kit_all {K : PySem.W.Frag} : ∀ t ∈ ["NoneType", "bool", "int", "str", "tuple", "list", "dict"], ∀ c ∈ ["bool", "int", "str", "tuple", "list", "dict"], kitB t c = some (subTy t c) := by decide +kernel
theorem RepD.ty {K : PySem.W.Frag} {O : Addr → Prop} {H : Hp} {d : D} {v : V} {os : List Addr} (r : RepD K O H d v os) (h : ∀ o C fs, d ≠ .ins o C fs) (h2 : ∀ o t fs, d ≠ .dct o t fs) : TyX K H v (.type (tyName d)) ∧ tyName d ∈ ["NoneType", "bool", "int", "str", "tuple", "list", "dict"] := by
  have rdl : ∀ {a : Addr} {vs : List V}, Rd H a (.lst vs) → TyX K H (.ref a) (.type "list") := fun {a vs} z => z.elim (fun z => .base (.lst z)) fun ⟨_, z⟩ => .base (.frz z)
  cases r with
  | non => exact ⟨.base .non, by show "NoneType" ∈ _; decide⟩
  | bl b => exact ⟨.base (.bl b), by show "bool" ∈ _; decide⟩
  | int i => exact ⟨.base (.int i), by show "int" ∈ _; decide⟩
  | str x => exact ⟨.base (.str x), by show "str" ∈ _; decide⟩
  | tup q _ =>
    refine ⟨?_, by show "tuple" ∈ _; decide⟩
    exact .base (.tup q)
  | kt q _ =>
    obtain ⟨o, its, n, k, c, _⟩ := q
    exact ⟨.kTuple k c, by show "tuple" ∈ _; decide⟩
  | lstF q _ _ => exact ⟨rdl q, by show "list" ∈ _; decide⟩
  | lstO q _ => exact ⟨rdl (.inl q), by show "list" ∈ _; decide⟩
  | kl q _ =>
    refine ⟨?_, by show "list" ∈ _; decide⟩
    rcases q with q | ⟨o, its, n, k, c, _⟩
    · exact rdl q.1
    · exact .kList k c
  | dkF _ _ _ => exact absurd rfl (h2 _ _ _)
  | dkO _ _ => exact absurd rfl (h2 _ _ _)
  | dtF _ _ _ => exact absurd rfl (h2 _ _ _)
  | dtO _ _ => exact absurd rfl (h2 _ _ _)
  | insF _ _ _ => exact absurd rfl (h _ _ _)
  | insO _ _ => exact absurd rfl (h _ _ _)
section
variable {X : Cx} {W : WX} {S : List Nat} {f t : Str} {p p2 pos : Pos} {e : Expr} {fa : En → R D} {c : String}
theorem de_isi (hm : X.mg f = none) (hv : bootBuiltins f = some (.builtin "isinstance")) (hmt : X.mg t = none) (hvt : bootBuiltins t = some (.type c)) (hc : c ∈ ["bool", "int", "str", "tuple", "list", "dict"]) (ha : DE X W S e fa)
    (hg : Gl X f := by rfl) (hgt : Gl X t := by rfl) (hn : f ≠ "__name__" := by decide) (hnt : t ≠ "__name__" := by decide) (hdb : (f == ("__debug__" : Str)) = false := by decide) (hdt : (t == ("__debug__" : Str)) = false := by decide)
    (he : starEach [e, .Name t p2] X.env = (false, eval e X.env) :: starEach [.Name t p2] X.env := by rfl) (he2 : starEach [.Name t p2] X.env = (false, eval (.Name t p2) X.env) :: starEach [] X.env := by rfl) (hpl : (backTo pos (starEach [.Name t p2] X.env)).any (·.1) = false := by rfl) :
    DE X W S (.Call (.Name f p) [e, .Name t p2] [] pos) (e1 (gIsi c) fa) :=
  ⟨(pe_callB call_isi hg hm hv (pa_cons ha.pe (pa_cons (pe_bltn (v := .ty c) hgt hmt hvt rfl hnt hdt) pa_nil he2) he) hn hdb he hpl).imp fun σ H Q h =>
    rd1 (r := fun v H Q => rIsi X.K [v, .ty c] H Q) (fun O H x v o d Q r nd m e dn => by
      have hx : ∀ o C fs, x ≠ .ins o C fs := fun o C fs z => by rw [z] at e; cases e
      have hy : ∀ o t fs, x ≠ .dct o t fs := fun o t fs z => by rw [z] at e; cases e
      have ed : d = .bl (subTy (tyName x) c) := by
        cases x with
        | ins o C fs => exact absurd rfl (hx _ _ _)
        | dct o t fs => exact absurd rfl (hy _ _ _)
        | _ => exact (Option.some.inj e).symm
      subst ed
      obtain ⟨ty, tm⟩ := r.ty hx hy
      exact ⟨v, .ty c, _, _, _, rfl, .ty c, ty, kit_ty (kit_all (K := X.K) _ tm c hc), dn.flat fun _ => .bl _⟩) h⟩
end

/-! ### what changes a local thing -/
/-- the receiver d at v, arguments ds at vs: it becomes d', the call gives ret -/
def MutOk (K : PySem.W.Frag) (g : D → List D → Option (D × D)) (r : V → List V → Hp → VK → Prop) : Prop :=
  ∀ (O : Addr → Prop) H d ds v vs o os d' ret Q, RepD K O H d v o → RepL K O H ds vs os → (o ++ os).Nodup → (∀ a ∈ o ++ os, O a) → g d ds = some (d', ret) →
    (∀ H' w ov orr, (∀ a u, H a = some u → (a ∉ o ∨ ∃ xs, u = .tup xs) → H' a = some u) → RepD K (fun a => O a ∨ a ∈ ov ∨ a ∈ orr) H' d' v ov → RepD K (fun a => O a ∨ a ∈ ov ∨ a ∈ orr) H' ret w orr → (ov ++ orr).Nodup → (∀ a ∈ ov ++ orr, a ∈ o ++ os ∨ H a = none) → Q w H') → r v vs H Q
def tyD (T : String) : D → Bool
  | .lst true _ => T == "list"
  | .dct true _ _ => T == "dict"
  | _ => false
theorem tyD_ty {K : PySem.W.Frag} {O : Addr → Prop} {H : Hp} {d : D} {v : V} {os : List Addr} {T : String} (r : RepD K O H d v os) (h : tyD T d = true) : tyV K T v H := by
  cases r with
  | lstO q _ => exact .inl ⟨by simpa [tyD] using h, _, .inl (.inl q)⟩
  | dkO q _ => exact .inr (.inr (.inl ⟨by simpa [tyD] using h, .inl ⟨_, q⟩⟩))
  | dtO q _ => exact .inr (.inr (.inl ⟨by simpa [tyD] using h, .inr ⟨_, q⟩⟩))
  | _ => cases h
def sMutK (T : String) (i : Nat) (S : List Nat) (g : D → List D → Option (D × D)) (fa : En → R (List D)) (k : En → D → Out) : En → Out := fun ρ => match ρ[i]? with
  | some (some d0) => if tyD T d0 then lift (fa ρ) ρ fun ds => if cleanL ds || !S.contains i then (match g d0 ds with
    | some (d', ret) => k ((if cleanL ds then ρ else frzAt S ρ).set i (some d')) ret
    | none => .stuck) else .stuck else .stuck
  | _ => .stuck
def sMut (T : String) (i : Nat) (S : List Nat) (g : D → List D → Option (D × D)) (fa : En → R (List D)) : En → Out := sMutK T i S g fa fun ρ _ => .nx ρ
def sMutSet (T : String) (j i : Nat) (S : List Nat) (g : D → List D → Option (D × D)) (fa : En → R (List D)) : En → Out := sMutK T i S g fa fun ρ d => if j < ρ.length then .nx (ρ.set j (some d)) else .stuck
theorem frzAt_get {S : List Nat} {i : Nat} (h : i ∉ S) : ∀ {ρ : En}, (frzAt S ρ)[i]? = ρ[i]? := by
  induction S with
  | nil => intro ρ; rfl
  | cons j S ih =>
    intro ρ
    show (frzAt S (frz1 j ρ))[i]? = _
    rw [ih fun z => h (List.mem_cons_of_mem _ z)]
    unfold frz1
    split
    · rw [List.getElem?_set_ne fun z => h (by rw [z]; exact List.mem_cons_self)]
    · rfl
section
variable {K : PySem.W.Frag} {B : Addr → Prop} {ow : Ow} {H H1 H' : Hp} {ρ : En} {σ : L2.St}
/-- slot i's thing has become d', its own parts changed -/
theorem Stt.changed {i : Nat} {d0 d' : D} {v : V} {os ov orr : List Addr} (s : Stt K (fun a => B a ∨ a ∈ os) ρ σ H1 ow) (h0 : ρ[i]? = some (some d0)) (hv : σ[i]? = some (some v)) (hb : ∀ a ∈ os, ¬ B a)
    (k : ∀ a u, H1 a = some u → (a ∉ ow i ∨ ∃ xs, u = .tup xs) → H' a = some u) (r : RepD K (fun a => (Oo ow B a ∨ a ∈ os) ∨ a ∈ ov ∨ a ∈ orr) H' d' v ov) (nd : (ov ++ orr).Nodup) (n : ∀ a ∈ ov ++ orr, a ∈ ow i ++ os ∨ H1 a = none) (tr : ∀ a ∈ orr, H' a ≠ none) :
    Stt K (fun a => B a ∨ a ∈ orr) (ρ.set i (some d')) σ H' (putO ow i ov) := by
  obtain ⟨n1, n2, n12⟩ := List.nodup_append.mp nd
  have hi : i < ρ.length := (List.getElem?_eq_some_iff.mp h0).1
  have far : ∀ a ∈ ov ++ orr, ∀ j, j ≠ i → a ∉ ow j := fun a m j hj z => by
    rcases n a m with q | q
    · rcases List.mem_append.mp q with q | q
      · exact hj (s.dj j i a z q)
      · exact s.bo j a z (.inr q)
    · exact s.there z q
  have farB : ∀ a ∈ ov ++ orr, ¬ B a := fun a m z => by
    rcases n a m with q | q
    · rcases List.mem_append.mp q with q | q
      · exact s.bo i a q (.inl z)
      · exact hb a q z
    · exact s.bt a (.inl z) q
  have hO : ∀ a u, H1 a = some u → Oo (putO ow i ov) (fun a => B a ∨ a ∈ orr) a → Oo ow (fun a => B a ∨ a ∈ os) a := fun a u e z => by
    have nw : a ∈ ov ++ orr → Oo ow (fun a => B a ∨ a ∈ os) a := fun m => by
      rcases n a m with q | q
      · rcases List.mem_append.mp q with q | q
        · exact .inl ⟨i, q⟩
        · exact .inr (.inr q)
      · rw [q] at e; cases e
    rcases z with ⟨j, z⟩ | z | z
    · unfold putO at z
      split at z
      · exact nw (List.mem_append_left _ z)
      · exact .inl ⟨j, z⟩
    · exact .inr (.inl z)
    · exact nw (List.mem_append_right _ z)
  refine ⟨by rw [List.length_set]; exact s.len, fun j d h => ?_, fun j h => ?_, fun j => ?_, fun j l a h1 h2 => ?_, fun a z => ?_, fun j a h z => ?_⟩
  · rcases getElem?_set_some h with ⟨rfl, e, _⟩ | ⟨hj, e⟩
    · cases e
      refine ⟨v, hv, ?_⟩
      rw [show putO ow j ov j = ov from if_pos rfl]
      refine r.keep (fun a u _ z => ?_) (Kept.of_same (Same.refl _) _)
      rcases z with ⟨l, z⟩ | z | z
      · unfold putO at z
        split at z
        · exact .inr (.inl z)
        · exact .inl (.inl (.inl ⟨l, z⟩))
      · exact .inl (.inl (.inr z))
      · exact .inr (.inr z)
    · obtain ⟨v', h1, r'⟩ := s.rep _ _ e
      refine ⟨v', h1, ?_⟩
      rw [show putO ow i ov j = ow j from if_neg hj]
      exact r'.keep hO fun a u e z => k a u e (by
        rcases z with z | z | z
        · exact .inl fun q => hj (s.dj j i a z q)
        · exact .inl fun q => z (.inl ⟨i, q⟩)
        · exact .inr z)
  · by_cases hj : j = i
    · exact absurd (by rw [hj, List.getElem?_set_self hi]) (h d')
    · rw [show putO ow i ov j = ow j from if_neg hj]
      refine s.dead j fun d'' q => h d'' ?_
      rw [List.getElem?_set_ne (Ne.symm hj)]; exact q
  · unfold putO
    split
    · exact n1
    · exact s.nd j
  · unfold putO at h1 h2
    split at h1
    · rename_i e1
      split at h2
      · rename_i e2; rw [e1, e2]
      · rename_i e2; exact absurd h2 (far a (List.mem_append_left _ h1) l e2)
    · rename_i e1
      split at h2
      · exact absurd h1 (far a (List.mem_append_left _ h2) j e1)
      · exact s.dj j l a h1 h2
  · rcases z with z | z
    · intro q
      cases e : H1 a with
      | none => exact s.bt a (.inl z) e
      | some u => rw [k a u e (.inl fun m => s.bo i a m (.inl z))] at q; cases q
    · exact tr a z
  · unfold putO at h
    split at h
    · rcases z with z | z
      · exact farB a (List.mem_append_left _ h) z
      · exact n12 a h a z rfl
    · rename_i hj
      rcases z with z | z
      · exact s.bo j a h (.inl z)
      · exact far a (List.mem_append_right _ z) j hj h
end
section
variable {X : Cx} {W : WX} {S : List Nat} {i : Nat} {x nm : Str} {T id : String} {apos cpos p pos : Pos} {e : Expr} {es : List Expr} {fa : En → R (List D)} {g : D → List D → Option (D × D)} {r : V → List V → Hp → VK → Prop}
/-- the reading of a receiver's change, whatever stands behind -/
theorem mut_core {k : En → D → Out} (hg : MutOk X.K g r) {σ : L2.St} {H : Hp} {Ds : Ends} {Z : VK} (h : rdS X.K W (sMutK T i S g fa k) Ds σ H)
    (hz : ∀ ρ' ow' B ow H' d w orr, Stt X.K (fun a => B a ∨ a ∈ orr) ρ' σ H' ow' → RepD X.K (OutS [] ow' B orr) H' d w orr → orr.Nodup → (∀ a ∈ orr, ¬ B a) → Ch ow H ow' H' → (∀ a ∈ orr, (∃ j, a ∈ ow j) ∨ H a = none) → Post X.K W B ow H Ds (k ρ' d) → Z w H') :
    tVar i σ H fun v H1 => tyV X.K T v H1 ∧ rdA X.K W S fa σ H1 fun vs H2 => r v vs H2 Z := by
  obtain ⟨ρ, ow, B, s, h⟩ := h
  unfold sMutK at h
  split at h
  · rename_i d0 e0
    split at h
    · rename_i ty
      obtain ⟨v, hv, r0⟩ := s.rep i d0 e0
      refine ⟨v, hv, tyD_ty r0 ty, ρ, ow, B, s, ?_⟩
      cases ea : fa ρ with
      | stuck => rw [ea] at h; exact h
      | exc C fs => rw [ea] at h; exact fun cls dd H' q x => h σ H' ow cls dd (s.same q) (Ch.same q) x
      | ok ds =>
        rw [ea, lift_ok] at h
        intro vs H1 os q rl nd n
        split at h
        · rename_i hc
          split at h
          · rename_i d' ret eg
            -- the state with the arguments in the frame, S frozen if it must be
            have sf := s.withNew q n rl.there
            have hst : ∃ ow1, Stt X.K (fun a => B a ∨ a ∈ os) (if cleanL ds then ρ else frzAt S ρ) σ H1 ow1 ∧ RepL X.K (OutS [] ow1 B os) H1 ds vs os ∧ Ch ow H ow1 H1 ∧ ow1 i = ow i ∧ (if cleanL ds then ρ else frzAt S ρ)[i]? = some (some d0) := by
              by_cases c : cleanL ds = true
              · rw [if_pos c]
                exact ⟨ow, sf, rl.cln c, Ch.same q, rfl, e0⟩
              · rw [if_neg c]
                have hi : i ∉ S := fun m => by
                  rw [List.contains_iff_mem.mpr m] at hc
                  simp [c] at hc
                refine ⟨cutO ow S, sf.frzAt S, rl.keep (fun a o e z => ?_) (Kept.of_same (Same.refl _) _), (Ch.same q).trans (Ch.cut S), if_neg hi, by rw [frzAt_get hi]; exact e0⟩
                rcases z with ⟨j, z, _⟩ | z
                · unfold cutO at z
                  split at z
                  · exact nomatch z
                  · rename_i hj
                    exact .inl ⟨j, z, hj⟩
                · exact .inr z
            obtain ⟨ow1, s1, r1, c1, ei, e1⟩ := hst
            obtain ⟨v', hv', r0'⟩ := s1.rep i d0 e1
            have ev : v' = v := by rw [hv] at hv'; exact (Option.some.inj (Option.some.inj hv')).symm
            subst ev
            have hsub : ∀ a ∈ os, ∀ j, a ∉ ow1 j := fun a m j z => s1.bo j a z (.inr m)
            refine hg (fun a => Oo ow1 B a ∨ a ∈ os) H1 d0 ds v' vs (ow1 i) os d' ret Z (r0'.keep (fun a o _ z => ?_) (Kept.of_same (Same.refl _) _)) (r1.keep (fun a o _ z => ?_) (Kept.of_same (Same.refl _) _)) ?_ (fun a m => ?_) eg fun H' w ov orr k rd rr nd2 n2 => ?_
            · rcases z with (z | z) | z
              · exact .inl z
              · exact .inr (.inl z)
              · exact .inr (.inr z)
            · rcases z with (⟨j, z⟩ | z) | z
              · exact .inl ⟨j, z, fun q => nomatch q⟩
              · exact .inr (.inl z)
              · exact .inr (.inr z)
            · exact List.nodup_append.mpr ⟨s1.nd i, nd, fun a ha b hb e => hsub b hb i (by rw [← e]; exact ha)⟩
            · rcases List.mem_append.mp m with m | m
              · exact .inl (.inl ⟨i, m⟩)
              · exact .inr m
            · have s2 := s1.changed e1 hv' (fun a m z => s.bt a z (n a m)) k rd nd2 n2 rr.there
              have nw : ∀ a ∈ ov ++ orr, (∃ j, a ∈ ow j) ∨ H a = none := fun a m => by
                rcases n2 a m with z | z
                · rcases List.mem_append.mp z with z | z
                  · exact c1.from' i a z
                  · exact .inr (n a z)
                · exact .inr (q.free z)
              refine hz _ _ B ow H' ret w orr s2 (rr.keep (fun a o _ z => ?_) (Kept.of_same (Same.refl _) _)) (List.nodup_append.mp nd2).2.1 (fun a m z => ?_) ⟨fun a u e z => ?_, fun j a m => ?_⟩ (fun a m => nw a (List.mem_append_right _ m)) h
              · rcases z with ⟨j, z, _⟩ | z | z
                · unfold putO at z
                  split at z
                  · exact .inr (.inl z)
                  · exact .inl (.inl (.inl ⟨j, z⟩))
                · exact .inl (.inl (.inr z))
                · exact .inr (.inr z)
              · rcases n2 a (List.mem_append_right _ m) with y | y
                · rcases List.mem_append.mp y with y | y
                  · exact s1.bo i a y (.inl z)
                  · exact s.bt a z (n a y)
                · exact s1.bt a (.inl z) y
              · exact k a u (q a u e) (z.imp (fun z => by rw [ei]; exact z i) id)
              · unfold putO at m
                split at m
                · exact nw a (List.mem_append_left _ m)
                · exact c1.from' j a m
          · exact h.elim
        · exact h.elim
    · exact h.elim
  · exact h.elim
end
end TL
/-! T10: lists changed by methods, by place -/
namespace TL
open PySem PySem.Spec PyProof.Rows L2

section
variable {K : PySem.W.Frag} {O : Addr → Prop} {H : Hp}
theorem upd_far {a : Addr} {vs : List V} {o : List Addr} {x : HO} (h : H a = some (.lst vs)) (m : a ∈ o) : ∀ b u, H b = some u → (b ∉ o ∨ ∃ xs, u = .tup xs) → upd H a x b = some u := fun b u e z => by
  have ne : b ≠ a := fun q => by
    rw [q, h] at e
    cases e
    rcases z with z | ⟨xs, z⟩
    · exact z (by rw [q]; exact m)
    · cases z
  rw [upd_ne ne]
  exact e
theorem relist {a : Addr} {vs ws : List V} {zs : List D} {o2 orr : List Addr} (h : H a = some (.lst vs)) (r : RepL K O H zs ws o2) (ha : a ∉ o2) (hO : O a) (sub : ∀ b ∈ o2, O b) (sub2 : ∀ b ∈ orr, O b) :
    RepD K (fun b => O b ∨ b ∈ (a :: o2) ∨ b ∈ orr) (upd H a (.lst ws)) (.lst true zs) (.ref a) (a :: o2) :=
  .lstO upd_same (r.keep (fun b u e z => by
    rcases z with z | z | z
    · exact z
    · rcases List.mem_cons.mp z with q | z
      · rw [q]; exact hO
      · exact sub b z
    · exact sub2 b z) (Kept.upd h (fun _ z => nomatch z) hO ha))
theorem RepL.split : ∀ {xs ys : List D} {vs : List V} {os : List Addr}, RepL K O H (xs ++ ys) vs os → ∃ v1 v2 o1 o2, vs = v1 ++ v2 ∧ os = o1 ++ o2 ∧ xs.length = v1.length ∧ RepL K O H xs v1 o1 ∧ RepL K O H ys v2 o2
  | [], ys, vs, os, r => ⟨[], vs, [], os, rfl, rfl, rfl, .nil, r⟩
  | x :: xs, ys, _, _, .cons (v := v) (o1 := o1) r1 r2 => by
    obtain ⟨v1, v2, p1, p2, e1, e2, e3, q1, q2⟩ := RepL.split (xs := xs) r2
    exact ⟨v :: v1, v2, o1 ++ p1, p2, by rw [e1]; rfl, by rw [e2, List.append_assoc], congrArg (· + 1) e3, .cons r1 q1, q2⟩
theorem RepD.offO {d : D} {v : V} {os : List Addr} {O' : Addr → Prop} (r : RepD K O H d v os) (h : ∀ a, O' a → O a) : RepD K O' H d v os := r.keep (fun a _ _ z => h a z) (Kept.of_same (Same.refl _) _)
end
def gAppend : D → List D → Option (D × D)
  | .lst true xs, [y] => if xs.length < 16777216 then some (.lst true (xs ++ [y]), .non) else none
  | _, _ => none
def gInsert : D → List D → Option (D × D)
  | .lst true xs, [.int i, y] => if xs.length < 16777216 ∧ 0 ≤ i ∧ i < 2 ^ 62 then some (.lst true (xs.take i.toNat ++ ([y] ++ xs.drop i.toNat)), .non) else none
  | _, _ => none
def gExtend : D → List D → Option (D × D)
  | .lst true xs, [.lst _ ys] => if xs.length + ys.length ≤ 16777216 then some (.lst true (xs ++ ys), .non) else none
  | _, _ => none
def gPop : D → List D → Option (D × D)
  | .lst true xs, [] => (xs.getLast?).map fun y => (.lst true xs.dropLast, y)
  | _, _ => none
def gReverse : D → List D → Option (D × D)
  | .lst true xs, [] => if valL xs then some (.lst true xs.reverse, .non) else none
  | _, _ => none
def gClear : D → List D → Option (D × D)
  | .lst true _, [] => some (.lst true [], .non)
  | _, _ => none
section
variable {K : PySem.W.Frag}
theorem mut_append : MutOk K gAppend rAppend := by
  intro O H d ds v vs o os d' ret Q r rs nd m e k
  unfold gAppend at e
  split at e
  · split at e
    · rename_i hl
      cases e
      cases r with
      | @lstO a ws _ o1 h rl =>
        obtain ⟨y, rfl, ry⟩ := rs.one
        obtain ⟨n1, n2, n12⟩ := List.nodup_append.mp nd
        have ha : a ∉ o1 ++ os := fun z => (List.mem_append.mp z).elim (List.nodup_cons.mp n1).1 fun z => n12 a List.mem_cons_self a z rfl
        have sub : ∀ b ∈ o1 ++ os, O b := fun b z => m b (by rw [List.cons_append]; exact List.mem_cons_of_mem _ z)
        have rl2 : RepL K O H (_ ++ [_]) (ws ++ [y]) (o1 ++ (os ++ [])) := rl.append (.cons ry .nil)
        rw [List.append_nil] at rl2
        refine ⟨a, ws, y, rfl, rfl, h, by rw [← rl.length, sizeLine_eq]; exact hl, ?_⟩
        refine k _ _ (a :: (o1 ++ os)) [] (upd_far h List.mem_cons_self) (relist h rl2 ha (m a (by simp)) sub (fun _ z => nomatch z)) .non ?_ fun b z => ?_
        · rw [List.append_nil]
          exact List.nodup_cons.mpr ⟨ha, (List.nodup_cons.mp (by simpa using nd)).2⟩
        · rw [List.append_nil] at z
          exact .inl (by simpa using z)
    · cases e
  · cases e
theorem mut_insert : MutOk K gInsert (fun x vs H Q => ∃ (l : Addr) (xs : List V) (i : Int) (y : V), x = .ref l ∧ vs = [.int i, y] ∧ H l = some (.lst xs) ∧ xs.length < sizeLine ∧ 0 ≤ i ∧ i < 2 ^ 63 ∧
    Q .non (upd H l (.lst (xs.take i.toNat ++ [y] ++ xs.drop i.toNat)))) := by
  intro O H d ds v vs o os d' ret Q r rs nd m e k
  unfold gInsert at e
  split at e
  · rename_i xs i y
    split at e
    · rename_i hl
      cases e
      cases r with
      | @lstO a ws _ o1 h rl =>
        obtain ⟨vi, vy, p1, p2, rfl, rfl, ri, ry⟩ := rs.two
        cases ri
        have rl' := rl
        rw [← List.take_append_drop i.toNat xs] at rl'
        obtain ⟨w1, w2, q1, q2, ew, eo, el, r1, r2⟩ := rl'.split
        subst ew eo
        have hw : (w1 ++ w2).take i.toNat = w1 ∧ (w1 ++ w2).drop i.toNat = w2 := by
          have hlen : xs.length = (w1 ++ w2).length := rl.length
          have ht : w1.length = min i.toNat xs.length := by rw [← el, List.length_take]
          by_cases hc : i.toNat ≤ xs.length
          · have : i.toNat = w1.length := by omega
            rw [this]
            exact ⟨List.take_left, List.drop_left⟩
          · have : w2.length = 0 := by rw [List.length_append] at hlen; omega
            have e2 := List.eq_nil_of_length_eq_zero this
            subst e2
            rw [List.append_nil] at hlen ⊢
            exact ⟨List.take_of_length_le (by omega), List.drop_of_length_le (by omega)⟩
        have pm : (a :: (q1 ++ (p2 ++ q2))).Perm (a :: (q1 ++ q2) ++ ([] ++ p2)) := by
          rw [List.nil_append, List.cons_append, List.append_assoc]
          exact ((List.perm_append_comm).append_left q1).cons a
        have nd2 : (a :: (q1 ++ (p2 ++ q2))).Nodup := (pm.nodup_iff).mpr nd
        have sub : ∀ b ∈ q1 ++ (p2 ++ q2), O b := fun b z => m b (pm.mem_iff.mp (List.mem_cons_of_mem _ z))
        have rl2 := r1.append ((RepL.cons ry .nil).append r2)
        rw [List.append_nil] at rl2
        refine ⟨a, w1 ++ w2, i, vy, rfl, rfl, h, by rw [← rl.length, sizeLine_eq]; exact hl.1, hl.2.1, by have := hl.2.2; omega, ?_⟩
        rw [hw.1, hw.2, List.append_assoc]
        refine k _ _ (a :: (q1 ++ (p2 ++ q2))) [] (upd_far h List.mem_cons_self) (relist h rl2 (List.nodup_cons.mp nd2).1 (m a (by simp)) sub (fun _ z => nomatch z)) .non ?_ fun b z => ?_
        · rw [List.append_nil]; exact nd2
        · rw [List.append_nil] at z
          exact .inl (pm.mem_iff.mp z)
    · cases e
  · cases e
/-- l.extend(another list) -/
def rExtendR : V → List V → Hp → VK → Prop := fun x vs H Q => ∃ l b xs zs, x = .ref l ∧ vs = [.ref b] ∧ H l = some (.lst xs) ∧ Rd H b (.lst zs) ∧ xs.length + zs.length ≤ sizeLine ∧ Q .non (upd H l (.lst (xs ++ zs)))
theorem mt_extendR {X : Cx} : MtM X "list.extend" rExtendR := by
  intro pins s σ H x vs v us Q I rx rv ⟨l, b, xs, zs, ex, ev, hl, hb, hz, q⟩
  subst ex ev
  cases rx
  obtain ⟨u, rfl, ru⟩ := rv.one
  cases ru
  obtain ⟨_, ps, n, r, g1, e⟩ := I.lstM hl
  obtain ⟨_, qs, n2, r2, g2, e2⟩ := I.lstR hb
  have small : ps.toArray.size + qs.toArray.size ≤ sizeLine := by simp only [List.size_toArray]; omega
  have fit : ¬ (!ps.toArray.isEmpty && Builtin.List.listTooLong (ps.toArray.size + qs.toArray.size)) = true := by rw [notLongL small]; simp
  exact call_meets F.slot_list_extend ⟨_, e, rfl⟩ F.entry_list_extend (F.args_list_extend_2 _ _)
    (AutoSeq1.list_extend_list_list_0 l ps.toArray n b qs.toArray n2 fit (by simp only [List.size_toArray]; omega) (Nat.le_succ_of_le small))
    ⟨e, e2, .non, _, I.lset (its' := ps ++ qs) hl e (by simp) (r.append r2) (by rw [List.length_append]; exact hz), rfl, q⟩
theorem mut_extend : MutOk K gExtend rExtendR := by
  intro O H d ds v vs o os d' ret Q r rs nd m e k
  unfold gExtend at e
  split at e
  · split at e
    · rename_i hl
      cases e
      cases r with
      | @lstO a ws _ o1 h rl =>
        obtain ⟨y, rfl, ry⟩ := rs.one
        obtain ⟨n1, n2, n12⟩ := List.nodup_append.mp nd
        obtain ⟨b, zs, p, rfl, hb, rz, np, sp⟩ := lst_part ry n2
        have ha : a ∉ o1 ++ p := fun z => (List.mem_append.mp z).elim (List.nodup_cons.mp n1).1 fun z => n12 a List.mem_cons_self a (sp a z) rfl
        have inn : ∀ c ∈ a :: (o1 ++ p), c ∈ a :: o1 ++ os := fun c z => by
          rcases List.mem_cons.mp z with q | z
          · rw [q]; simp
          · rcases List.mem_append.mp z with z | z
            · simp [z]
            · simp [sp c z]
        refine ⟨a, b, ws, zs, rfl, rfl, h, hb, by rw [← rl.length, ← rz.length, sizeLine_eq]; exact hl, ?_⟩
        refine k _ _ (a :: (o1 ++ p)) [] (upd_far h List.mem_cons_self) (relist h (rl.append rz) ha (m a (by simp)) (fun c z => m c (inn c (List.mem_cons_of_mem _ z))) (fun _ z => nomatch z)) .non ?_ fun c z => ?_
        · rw [List.append_nil]
          exact List.nodup_cons.mpr ⟨ha, List.nodup_append.mpr ⟨(List.nodup_cons.mp n1).2, np, fun c hc c' hc' e => n12 c (List.mem_cons_of_mem _ hc) c' (sp c' hc') e⟩⟩
        · rw [List.append_nil] at z
          exact .inl (inn c z)
    · cases e
  · cases e
theorem mut_pop : MutOk K gPop rPop := by
  intro O H d ds v vs o os d' ret Q r rs nd m e k
  unfold gPop at e
  split at e
  · rename_i xs
    obtain ⟨y, hy, e2⟩ := Option.map_eq_some_iff.mp e
    obtain ⟨e3, e4⟩ := Prod.mk.inj e2
    subst e3 e4
    cases rs
    cases r with
    | @lstO a ws _ o1 h rl =>
      have ex : xs = xs.dropLast ++ [y] := by
        have hne : xs ≠ [] := fun z => by rw [z] at hy; cases hy
        rw [List.getLast?_eq_some_getLast hne] at hy
        cases hy
        exact (List.dropLast_concat_getLast hne).symm
      have rl' := rl
      rw [ex] at rl'
      obtain ⟨w1, w2, q1, q2, ew, eo, el, r1, r2⟩ := rl'.split
      obtain ⟨w, rfl, rw'⟩ := r2.one
      subst ew eo
      rw [List.append_nil] at nd m
      have n1 := List.nodup_cons.mp nd
      obtain ⟨nq1, nq2, nq⟩ := List.nodup_append.mp n1.2
      refine ⟨a, w1 ++ [w], w, rfl, rfl, h, by simp, ?_⟩
      rw [List.dropLast_concat]
      have sub1 : ∀ b ∈ q1, O b := fun b z => m b (by simp [z])
      have sub2 : ∀ b ∈ q2, O b := fun b z => m b (by simp [z])
      refine k _ _ (a :: q1) q2 (upd_far h List.mem_cons_self) (relist h r1 (fun z => n1.1 (List.mem_append_left _ z)) (m a (by simp)) sub1 sub2) ?_ ?_ fun b z => .inl ?_
      · exact rw'.keep (fun b u e (z : O b ∨ b ∈ a :: q1 ∨ b ∈ q2) => by
          rcases z with z | z | z
          · exact z
          · rcases List.mem_cons.mp z with q | z
            · rw [q]; exact m a (by simp)
            · exact sub1 b z
          · exact sub2 b z) (Kept.upd h (fun _ z => nomatch z) (m a (by simp)) fun z => n1.1 (List.mem_append_right _ z))
      · rw [List.cons_append]; exact nd
      · rw [List.append_nil, ← List.cons_append]; exact z
  · cases e
theorem mut_reverse : MutOk K gReverse rReverse := by
  intro O H d ds v vs o os d' ret Q r rs nd m e k
  unfold gReverse at e
  split at e
  · rename_i xs
    split at e
    · rename_i hv
      cases e
      cases rs
      cases r with
      | @lstO a ws _ o1 h rl =>
        obtain ⟨rfl, rv⟩ := RepL.val (O' := O) rl hv
        have rr : RepL K O H xs.reverse ws.reverse [] := by
          have gen : ∀ {xs : List D} {ws : List V}, RepL K O H xs ws [] → RepL K O H xs.reverse ws.reverse [] := by
            intro xs
            induction xs with
            | nil => intro ws r; cases r; exact .nil
            | cons x xs ih =>
              intro ws r
              generalize hn : ([] : List Addr) = os at r
              cases r with
              | cons r1 r2 =>
                obtain ⟨e1, e2⟩ := List.append_eq_nil_iff.mp hn.symm
                subst e1 e2
                rw [List.reverse_cons, List.reverse_cons]
                exact (ih r2).append (o2 := []) (.cons (o1 := []) (o2 := []) r1 .nil)
          exact gen rv
        refine ⟨a, ws, rfl, rfl, h, ?_⟩
        exact k _ _ [a] [] (upd_far h List.mem_cons_self) (relist h rr (fun z => nomatch z) (m a (by simp)) (fun _ z => nomatch z) (fun _ z => nomatch z)) .non (by simp) fun b z => .inl (by simpa using z)
    · cases e
  · cases e
theorem mut_clear : MutOk K gClear rClear := by
  intro O H d ds v vs o os d' ret Q r rs nd m e k
  unfold gClear at e
  split at e
  · cases e
    cases rs
    cases r with
    | @lstO a ws _ o1 h rl =>
      refine ⟨a, ws, rfl, rfl, h, ?_⟩
      refine k _ _ [a] [] (upd_far h List.mem_cons_self) (relist h .nil (fun z => nomatch z) (m a (by simp)) (fun _ z => nomatch z) (fun _ z => nomatch z)) .non (by simp) fun b z => .inl ?_
      rw [List.append_nil] at z ⊢
      rw [List.mem_singleton.mp z]
      exact List.mem_cons_self
  · cases e
end
/-! ### the statements -/
section
variable {X : Cx} {W : WX} {S : List Nat} {i j : Nat} {x y nm : Str} {T id : String} {apos cpos p py pos spos : Pos} {e : Expr} {es : List Expr} {fa : En → R (List D)} {g : D → List D → Option (D × D)} {r : V → List V → Hp → VK → Prop}
theorem rd_mut {σ : L2.St} {H : Hp} {Ds : Ends} {hN : True} (hg : MutOk X.K g r) (h : rdS X.K W (sMut T i S g fa) Ds σ H) : tVar i σ H fun v H1 => tyV X.K T v H1 ∧ rdA X.K W S fa σ H1 fun vs H2 => r v vs H2 fun _ H3 => Ds.nx σ H3 :=
  mut_core hg h fun ρ' ow' B ow H' d w orr s r nd hb c n p => p σ H' ow' (s.swap fun a z => .inl z) c
/-- x.m(e, ..) -/
theorem ds_mut (pa : PlainAttrs T) (slot : Slot T nm id) (hty : typeOf (.builtin id) = pure (.type "method_descriptor")) (hm : MtR X id r) (hg : MutOk X.K g r) (hN : X.N[i]? = some x) (hv : Vis X.env.scope x) (ha : DA X W S (e :: es) fa)
    (hd : (x == ("__debug__" : Str)) = false := by decide) (hcd : (x == ("__classdict__" : Str)) = false := by decide)
    (hbase : attributeBase (.Name x p) nm X.env (eval (.Name x p) X.env) = eval (.Name x p) X.env := by rfl)
    (hfew : ((backTo cpos (starEach (e :: es) X.env)).all (fun x => !x.1) && (backToKw cpos (keywordEach [] X.env)).all (fun x => x.1.isSome) && decide ((e :: es).length + ([] : List Keyword).length + (if ([] : List Keyword).isEmpty then 0 else 1) < 30)) = true := by rfl)
    (hline : (apos.endLine == cpos.line) = true := by rfl) (hs : starEach (e :: es) X.env = (false, eval e X.env) :: starEach es X.env := by rfl) (hplain : (backTo cpos (starEach es X.env)).any (·.1) = false := by rfl)
    (hsw : swapsWith (.Call (.Attribute (.Name x p) nm apos) (e :: es) [] cpos) none pos.line X.env = pure false := by rfl) :
    DS X W (.Expr (.Call (.Attribute (.Name x p) nm apos) (e :: es) [] cpos) pos) (sMut T i S g fa) :=
  ⟨(ps_expr (pe_bm pa slot hty hm (pe_var hN hv hd hcd) ha.pa hbase hfew hline hs hplain) hsw).imp fun D σ H h => rd_mut (hN := trivial) hg h⟩
/-- x.m() -/
theorem ds_mut0 (pa : PlainAttrs T) (slot : Slot T nm id) (hty : typeOf (.builtin id) = pure (.type "method_descriptor")) (hm : MtR X id r) (hg : MutOk X.K g r) (hN : X.N[i]? = some x) (hv : Vis X.env.scope x)
    (hd : (x == ("__debug__" : Str)) = false := by decide) (hcd : (x == ("__classdict__" : Str)) = false := by decide)
    (hbase : attributeBase (.Name x p) nm X.env (eval (.Name x p) X.env) = eval (.Name x p) X.env := by rfl) (hline : (apos.endLine == cpos.line) = true := by rfl)
    (hsw : swapsWith (.Call (.Attribute (.Name x p) nm apos) [] [] cpos) none pos.line X.env = pure false := by rfl) :
    DS X W (.Expr (.Call (.Attribute (.Name x p) nm apos) [] [] cpos) pos) (sMut T i [] g eNil) :=
  ⟨(ps_expr (pe_bm0 pa slot hty hm (pe_var hN hv hd hcd) hbase hline) hsw).imp fun D σ H h => by
    obtain ⟨v, h1, h2, ρ, ow, B, s, h3⟩ := rd_mut (hN := trivial) hg h
    exact ⟨v, h1, h2, h3 [] H [] (Same.refl H) .nil List.nodup_nil fun _ z => nomatch z⟩⟩
/-- y = x.m() -/
theorem ds_mutSet0 (pa : PlainAttrs T) (slot : Slot T nm id) (hty : typeOf (.builtin id) = pure (.type "method_descriptor")) (hm : MtR X id r) (hg : MutOk X.K g r) (hN : X.N[i]? = some x) (hv : Vis X.env.scope x)
    (hnd : X.N.Nodup) (hj : X.N[j]? = some y) (hx : Loc X.env.scope y)
    (hd : (x == ("__debug__" : Str)) = false := by decide) (hcd : (x == ("__classdict__" : Str)) = false := by decide)
    (hbase : attributeBase (.Name x p) nm X.env (eval (.Name x p) X.env) = eval (.Name x p) X.env := by rfl) (hline : (apos.endLine == cpos.line) = true := by rfl)
    (hsw : swapsWith (.Call (.Attribute (.Name x p) nm apos) [] [] cpos) (some (.Name y py)) pos.line X.env = pure false := by rfl) (hf : X.fn y = true ∨ X.env.scope.names.lookup y = some .local := by first | exact .inl rfl | exact .inr rfl | assumption) :
    DS X W (.Assign [.Name y py] (.Call (.Attribute (.Name x p) nm apos) [] [] cpos) pos) (sMutSet T j i [] g eNil) :=
  ⟨(ps_set hnd hj hx (pe_bm0 pa slot hty hm (pe_var hN hv hd hcd) hbase hline) hsw hf).imp fun D σ H h => by
    have := mut_core (Z := fun v H1 => gName j v σ H1 D.nx) hg h fun ρ' ow' B ow H' d w orr s r nd hb c n p => by
      by_cases hl : j < ρ'.length
      · rw [if_pos hl] at p
        exact p _ H' (putO ow' j orr) (s.put hl r nd hb) (c.put n)
      · rw [if_neg hl] at p; exact p.elim
    obtain ⟨v, h1, h2, ρ, ow, B, s, h3⟩ := this
    exact ⟨v, h1, h2, h3 [] H [] (Same.refl H) .nil List.nodup_nil fun _ z => nomatch z⟩⟩
end
end TL
/-! T11: products, stores, positions, turned lists, sorted numbers -/
namespace TL
open PySem PySem.Spec PyProof.Rows L2

/-! ### * -/
def repL (k : Nat) (xs : List D) : List D := (List.replicate k xs).flatten
def gMul : D → D → Option D
  | .int i, .int j => if (-(2 ^ 62) < i ∧ i < 2 ^ 62) ∨ (-(2 ^ 62) < j ∧ j < 2 ^ 62) then some (.int (i * j)) else none
  | .lst true xs, .int k => if valL xs then (if -(2 ^ 62) < k ∧ k < 2 ^ 62 ∧ xs.length * k.toNat ≤ 16777216 then some (.lst true (repL k.toNat xs)) else none) else none
  | _, _ => none
section
variable {X : Cx}
def rMulG : R2 := fun x y H Q => rI CMul (fun i j => .int (i * j)) x y H Q ∨ rRep x y H Q
theorem op_mulG : OpR X (binaryOp .Mult) rMulG := op_mul.or op_rep
end

theorem RepL.rep {K : PySem.W.Frag} {O : Addr → Prop} {H : Hp} {xs : List D} {vs : List V} (r : RepL K O H xs vs []) : ∀ k, RepL K O H (repL k xs) (List.replicate k vs).flatten []
  | 0 => .nil
  | k + 1 => by
    unfold repL
    rw [List.replicate_succ, List.replicate_succ, List.flatten_cons, List.flatten_cons]
    exact r.append (o1 := []) (o2 := []) (RepL.rep r k)
theorem fits_mul {K : PySem.W.Frag} : Fits2 K gMul rMulG := by
  intro O H x y v1 v2 o1 o2 d Q r1 r2 nd m e dn
  unfold gMul at e
  split at e
  · split at e
    · rename_i i j h
      cases e
      cases r1
      cases r2
      exact .inl ⟨_, _, rfl, rfl, h.imp (fun z => ⟨by omega, by omega⟩) (fun z => ⟨by omega, by omega⟩), dn.flat fun _ => .int _⟩
    · cases e
  · split at e
    · rename_i hv
      split at e
      · rename_i xs k h
        cases e
        cases r2
        cases r1 with
        | lstO h1 r =>
          obtain ⟨-, rv⟩ := RepL.val (O' := O) r hv
          refine .inr ⟨_, _, _, rfl, rfl, h1, by omega, by omega, by rw [← r.length, sizeLine_eq]; exact h.2.2, fun p hp => ?_⟩
          exact dn.lst (rv.rep k.toNat) List.nodup_nil (fun _ z => nomatch z) (fun _ z => nomatch z) hp
      · cases e
    · cases e
  · cases e

/-! ### x[k] = e -/
def sStore (T : String) (i : Nat) (S : List Nat) (g : D → List D → Option (D × D)) (fe fk : En → R D) : En → Out := sMut T i S g (eCons fe (eCons fk eNil))
def rSt (t : TSet) : V → List V → Hp → VK → Prop := fun x vs H Q => ∃ v k, vs = [v, k] ∧ t x k v H (Q .non)
section
variable {X : Cx} {W : WX} {Sa Sb : List Nat} {i : Nat} {x : Str} {T : String} {e k : Expr} {fe fk : En → R D} {g : D → List D → Option (D × D)} {t : TSet} {p pos spos : Pos}
theorem ds_store (hs : PSet X t) (hg : MutOk X.K g (rSt t)) (hN : X.N[i]? = some x) (hv : Vis X.env.scope x) (he : DE X W Sa e fe) (hk : DE X W Sb k fk)
    (hd : (x == ("__debug__" : Str)) = false := by decide) (hcd : (x == ("__classdict__" : Str)) = false := by decide)
    (hsw : swapsWithSole [.Subscript (.Name x p) k pos] e spos.line X.env = pure false := by rfl) (hw : swappedStores [.Subscript (.Name x p) k pos] e X.env = pure none := by rfl)
    (h1 : (assignEach [.Subscript (.Name x p) k pos] X.env).map (·.2) = [assign (.Subscript (.Name x p) k pos) X.env] := by rfl)
    (ha : ∀ v, assign (.Subscript (.Name x p) k pos) X.env v = (do
      let ov ← holding [v] (eval (.Name x p) X.env)
      let iv ← holding [v, ov] (eval k X.env)
      standAt pos
      holding [v, ov, iv] (setItem ov iv v)
      release [v, ov, iv] []) := by intro _; rfl) :
    DS X W (.Assign [.Subscript (.Name x p) k pos] e spos) (sStore T i (Sa ++ (Sb ++ [])) g fe fk) :=
  ⟨(ps_asg he.pe (pg_sub (pe_var hN hv hd hcd) hk.pe hs ha) hsw hw h1).imp fun D σ H h => by
    obtain ⟨v, hv1, -, h2⟩ := rd_mut (hN := trivial) hg h
    have h3 := rd_cons h2
    obtain ⟨ρ, ow, B, s, h3⟩ := h3
    refine ⟨ρ, ow, B, s, ?_⟩
    revert h3
    cases fe ρ with
    | stuck => exact id
    | exc C fs => exact id
    | ok d =>
      intro h3 v1 H1 os q r nd n
      have h4 := rd_cons (h3 v1 H1 os q r nd n)
      refine ⟨v, hv1, ?_⟩
      obtain ⟨ρ2, ow2, B2, s2, h4⟩ := h4
      refine ⟨ρ2, ow2, B2, s2, ?_⟩
      revert h4
      cases fk ρ2 with
      | stuck => exact id
      | exc C fs => exact id
      | ok d2 =>
        intro h4 v2 H2 os2 q2 r2 nd2 n2
        have h5 := rd_nil (h4 v2 H2 os2 q2 r2 nd2 n2)
        obtain ⟨a, b, e, h6⟩ := h5
        cases e
        exact h6⟩
end
def gStoreL : D → List D → Option (D × D)
  | .lst true xs, [v, .int k] => (ixN xs.length k).map fun j => (.lst true (xs.set j v), .non)
  | _, _ => none

theorem ixN_lt {n : Nat} {k : Int} {j : Nat} (h : ixN n k = some j) : j < n := by
  unfold ixN at h
  split at h
  · split at h
    · cases h; omega
    · cases h
  · split at h
    · cases h; omega
    · cases h
theorem mut_storeL {K : PySem.W.Frag} : MutOk K gStoreL (rSt rSetL) := by
  intro O H d ds v vs o os d' ret Q r rs nd m e k
  unfold gStoreL at e
  split at e
  · rename_i xs y i
    obtain ⟨j, hj, e2⟩ := Option.map_eq_some_iff.mp e
    obtain ⟨e3, e4⟩ := Prod.mk.inj e2
    subst e3 e4
    cases r with
    | @lstO a ws _ o1 h rl =>
      obtain ⟨vy, vi, p1, p2, rfl, rfl, ry, ri⟩ := rs.two
      cases ri
      have hlt := ixN_lt hj
      have hlen : xs.length = ws.length := rl.length
      have ex : xs = xs.take j ++ ([xs[j]] ++ xs.drop (j + 1)) := by
        rw [List.singleton_append, ← List.drop_eq_getElem_cons hlt, List.take_append_drop]
      have rl' := rl
      rw [ex] at rl'
      obtain ⟨w1, w2, q1, q2, ew, eo, el, r1, r2⟩ := rl'.split
      obtain ⟨w3, w4, q3, q4, ew2, eo2, el2, r3, r4⟩ := r2.split
      subst ew2 eo2 ew eo
      obtain ⟨w, rfl, -⟩ := r3.one
      have hl1 : w1.length = j := by rw [← el, List.length_take]; omega
      have es : (w1 ++ ([w] ++ w4)).set j vy = w1 ++ ([vy] ++ w4) := by
        rw [← hl1, List.set_append_right _ _ (Nat.le_refl _), Nat.sub_self]
        rfl
      have exs : xs.set j y = xs.take j ++ ([y] ++ xs.drop (j + 1)) := by
        rw [List.set_eq_take_append_cons_drop, if_pos hlt]
        rfl
      have rl2 := r1.append ((RepL.cons ry .nil).append r4)
      rw [List.append_nil] at rl2 nd m
      have n0 := List.nodup_cons.mp (show (a :: ((q1 ++ (q3 ++ q4)) ++ p1)).Nodup by simpa using nd)
      have inn : ∀ b ∈ q1 ++ (p1 ++ q4), b ∈ (q1 ++ (q3 ++ q4)) ++ p1 := fun b z => by
        simp only [List.mem_append] at z ⊢
        rcases z with z | z | z
        · exact .inl (.inl z)
        · exact .inr z
        · exact .inl (.inr (.inr z))
      have pm : ((q1 ++ (q3 ++ q4)) ++ p1).Perm (q3 ++ (q1 ++ (p1 ++ q4))) := by
        have a1 : ((q1 ++ (q3 ++ q4)) ++ p1).Perm (((q3 ++ q4) ++ q1) ++ p1) := (List.perm_append_comm).append_right p1
        refine a1.trans ?_
        rw [List.append_assoc, List.append_assoc]
        refine List.Perm.append_left q3 ?_
        refine (List.perm_append_comm).trans ?_
        rw [List.append_assoc]
      have ndq : (q1 ++ (p1 ++ q4)).Nodup := (List.nodup_append.mp ((pm.nodup_iff).mp n0.2)).2.1
      have ha : a ∉ q1 ++ (p1 ++ q4) := fun z => n0.1 (inn a z)
      have sub : ∀ b ∈ q1 ++ (p1 ++ q4), O b := fun b z => m b (by have := inn b z; simp at this ⊢; exact .inr this)
      refine ⟨vy, _, rfl, a, _, i, j, rfl, rfl, h, by rw [← hlen]; exact hj, ?_⟩
      rw [es]
      rw [exs] at k
      refine k _ _ (a :: (q1 ++ (p1 ++ q4))) [] (upd_far h List.mem_cons_self) (relist h rl2 ha (m a (by simp)) sub (fun _ z => nomatch z)) .non ?_ fun b z => .inl ?_
      · rw [List.append_nil]; exact List.nodup_cons.mpr ⟨ha, ndq⟩
      · rw [List.append_nil] at z ⊢
        rcases List.mem_cons.mp z with q | z
        · rw [q]; simp
        · have := inn b z; simp at this ⊢; exact .inr this
  · cases e

/-! ### x[::-1] -/
def gRevL : D → Option D
  | .lst _ xs => some (.lst true xs.reverse)
  | _ => none
theorem RepL.rev {K : PySem.W.Frag} {O : Addr → Prop} {H : Hp} : ∀ {xs : List D} {vs : List V} {os : List Addr}, RepL K O H xs vs os → ∃ os', RepL K O H xs.reverse vs.reverse os' ∧ os'.Perm os
  | _, _, _, .nil => ⟨[], .nil, .refl _⟩
  | _, _, _, .cons (o1 := o1) (o2 := o2) r1 r2 => by
    obtain ⟨o', r', p⟩ := RepL.rev r2
    rw [List.reverse_cons, List.reverse_cons]
    refine ⟨o' ++ (o1 ++ []), r'.append (.cons r1 .nil), ?_⟩
    rw [List.append_nil]
    exact (List.perm_append_comm).trans (p.append_left o1)
theorem de_revL {X : Cx} {W : WX} {S : List Nat} {e : Expr} {fe : En → R D} {k : Nat} {p1 p2 p3 pos : Pos} (he : DE X W S e fe) :
    DE X W S (.Subscript e (.Slice none none (some (.UnaryOp .USub (.Constant (.int 1) k p1) p2)) p3) pos) (e1 gRevL fe) :=
  ⟨(pe_revL he.pe).imp fun σ H Q h => rd1 (r := fun x H1 Q => ∃ a xs, x = .ref a ∧ SqL X.K H1 a xs ∧ ∀ p, H1 p = none → Q (.ref p) (upd H1 p (.lst xs.reverse))) (fun O H x v o d Q r nd m e dn => by
    cases x with
    | lst o xs =>
      cases e
      obtain ⟨a, vs, os, rfl, hr, rl, n, sub⟩ := lst_part r nd
      obtain ⟨os', r', pm⟩ := rl.rev
      refine ⟨a, vs, rfl, .inl hr, fun p hp => dn.lst r' (pm.nodup_iff.mpr n) (fun b z => sub b (pm.mem_iff.mp z)) (fun b z => m b (sub b (pm.mem_iff.mp z))) hp⟩
    | _ => cases e) h⟩

/-! ### sorted -/
def leI (i j : Int) : Bool := decide (i ≤ j)
def srtI (ns : List Int) : List Int := ns.mergeSort leI
def gSortedI : List D → Option D
  | [.lst _ xs] => (intsOf xs).map fun ns => .lst true ((srtI ns).map D.int)
  | _ => none
theorem RepL.ints {K : PySem.W.Frag} {O : Addr → Prop} {H : Hp} : ∀ ns : List Int, RepL K O H (ns.map D.int) (ns.map V.int) []
  | [] => .nil
  | i :: r => .cons (o1 := []) (o2 := []) (.int i) (RepL.ints r)
theorem srtI_eq {ns ns' : List Int} (p : ns'.Perm ns) (s : ns'.Pairwise (· ≤ ·)) : ns' = srtI ns := by
  refine List.Perm.eq_of_pairwise (le := (· ≤ ·)) (fun a b _ _ h1 h2 => Int.le_antisymm h1 h2) s ?_ (p.trans (List.mergeSort_perm ns leI).symm)
  have := List.pairwise_mergeSort (le := leI) (fun a b c h1 h2 => decide_eq_true (Int.le_trans (of_decide_eq_true h1) (of_decide_eq_true h2))) (fun a b => by
    unfold leI
    rcases Int.le_total a b with h | h
    · rw [decide_eq_true h]; rfl
    · rw [decide_eq_true h, Bool.or_true]) ns
  exact this.imp fun h => of_decide_eq_true h
theorem fits_sortedI {K : PySem.W.Frag} : FitsN K gSortedI (rSortedI K) := by
  intro O H xs vs o d Q r nd m e dn
  unfold gSortedI at e
  split at e
  · obtain ⟨ns, e1, e2⟩ := Option.map_eq_some_iff.mp e
    subst e2
    obtain ⟨v, rfl, q⟩ := r.one
    obtain ⟨a, ws, o', rfl, hr, rl, _, _⟩ := lst_part q nd
    have e3 := intsOf_rep rl e1
    subst e3
    refine ⟨a, ns, rfl, .inl hr, fun ns' p h1 h2 hp => ?_⟩
    rw [srtI_eq h1 h2]
    exact dn.lst (RepL.ints _) List.nodup_nil (fun _ z => nomatch z) (fun _ z => nomatch z) hp
  · cases e

/-! ### x.index(e) -/
def posD (x : D) : List D → Option Nat
  | [] => none
  | z :: r => if eqD z x then some 0 else (posD x r).map (· + 1)
def gIndex : D → List D → Option D
  | .lst _ xs, [y] => if okN 9 y && okN 9 (.lst true xs) then (posD y xs).map fun (j : Nat) => D.int (j : Int) else none
  | _, _ => none
theorem posD_get {x : D} : ∀ {xs : List D} {j : Nat}, posD x xs = some j → (∃ z, xs[j]? = some z ∧ eqD z x = true) ∧ ∀ m z, m < j → xs[m]? = some z → eqD z x = false
  | [], _, h => nomatch h
  | z :: r, j, h => by
    unfold posD at h
    split at h
    · rename_i q
      cases h
      exact ⟨⟨z, rfl, q⟩, fun m _ h => absurd h (Nat.not_lt_zero m)⟩
    · rename_i q
      obtain ⟨k, e1, e2⟩ := Option.map_eq_some_iff.mp h
      subst e2
      obtain ⟨h1, h2⟩ := posD_get e1
      refine ⟨h1, fun m z' hm hz => ?_⟩
      cases m with
      | zero => cases hz; exact Bool.not_eq_true _ ▸ q
      | succ m => exact h2 m z' (by omega) hz

def tyR (T : String) : D → Bool
  | .lst _ _ => T == "list"
  | .kl _ => T == "list"
  | .dct _ _ _ => T == "dict"
  | .str _ => T == "str"
  | _ => false
theorem tyR_ty {K : PySem.W.Frag} {O : Addr → Prop} {H : Hp} {d : D} {v : V} {os : List Addr} {T : String} (r : RepD K O H d v os) (h : tyR T d = true) : tyV K T v H := by
  cases r with
  | lstO q _ => exact .inl ⟨by simpa [tyR] using h, _, .inl (.inl q)⟩
  | lstF q _ _ => exact .inl ⟨by simpa [tyR] using h, _, .inl q⟩
  | kl q _ => exact .inl ⟨by simpa [tyR] using h, _, q.imp (fun z => z.1) id⟩
  | dkO q _ => exact .inr (.inr (.inl ⟨by simpa [tyR] using h, .inl ⟨_, q⟩⟩))
  | dtO q _ => exact .inr (.inr (.inl ⟨by simpa [tyR] using h, .inr ⟨_, q⟩⟩))
  | dkF q _ _ => exact .inr (.inr (.inl ⟨by simpa [tyR] using h, .inl ⟨_, q⟩⟩))
  | dtF q _ _ => exact .inr (.inr (.inl ⟨by simpa [tyR] using h, .inr ⟨_, q⟩⟩))
  | str x => exact (show T = "str" by simpa [tyR] using h)
  | _ => cases h
def FitsM (K : PySem.W.Frag) (g : D → List D → Option D) (r : V → List V → Hp → VK → Prop) : Prop :=
  ∀ (O : Addr → Prop) H x ys v vs o1 o2 d Q, RepD K O H x v o1 → RepL K O H ys vs o2 → (o1 ++ o2).Nodup → (∀ a ∈ o1 ++ o2, O a) → g x ys = some d → Done K O H (o1 ++ o2) d Q → r v vs H Q
def eBM (T : String) (g : D → List D → Option D) (fe : En → R D) (fa : En → R (List D)) : En → R D := fun ρ => (fe ρ).bind fun x => if tyR T x then (fa ρ).bind fun ys => ofO (g x ys) else .stuck
section
variable {K : PySem.W.Frag} {W : WX} {S Sa Sb : List Nat} {σ : L2.St} {H : Hp} {T : String} {g : D → List D → Option D} {r : V → List V → Hp → VK → Prop}
theorem rd_bm {fa : En → R D} {fb : En → R (List D)} {Q : VK} (hg : FitsM K g r) (h : rd K W (Sa ++ Sb) (eBM T g fa fb) σ H Q) : rd K W Sa fa σ H fun v H1 => tyV K T v H1 ∧ rdA K W Sb fb σ H1 fun vs H2 => r v vs H2 Q := by
  obtain ⟨ρ, ow, B, st, h⟩ := h
  refine ⟨ρ, ow, B, st, ?_⟩
  unfold eBM at h
  cases ea : fa ρ with
  | stuck => rw [ea] at h; exact h
  | exc C fs => rw [ea] at h; exact h
  | ok x =>
    rw [ea] at h
    intro v1 H1 o1 s1 r1 d1 n1
    simp only [R.bind_ok] at h
    cases ty : tyR T x with
    | false => rw [ty, if_neg Bool.false_ne_true] at h; exact h.elim
    | true =>
      rw [ty, if_pos rfl] at h
      refine ⟨tyR_ty r1 ty, ρ, ow, fun a => B a ∨ a ∈ o1, st.grow s1 (fun a o e z => z.elim id fun z => by rw [n1 a z] at e; cases e) (fun a z => z.elim (fun z q => st.bt a z (s1.free q)) (r1.there a)), ?_⟩
      cases eb : fb ρ with
      | stuck => rw [eb] at h; exact h
      | exc C fs =>
        rw [eb] at h
        exact fun cls dd H' s x => h cls dd H' (s1.trans s) x
      | ok y =>
        rw [eb] at h
        simp only [R.bind_ok] at h
        intro v2 H2 o2 s2 r2 d2 n2
        cases eg : g x y with
        | none => rw [eg] at h; exact h.elim
        | some d =>
          rw [eg] at h
          have n12 : ∀ a ∈ o1 ++ o2, H a = none := fun a m => by
            rcases List.mem_append.mp m with m | m
            · exact n1 a m
            · exact s1.free (n2 a m)
          exact hg _ H2 x y v1 v2 o1 o2 d Q (r1.keep (outS_keep n2) (Kept.of_same s2 _)) (r2.keep (fun a o e z => outS_keep2 a z) (Kept.of_same (Same.refl _) _)) (nodup_two d1 d2 r1.there n2) outS_mem eg (rd_done (s1.trans s2) n12 h)
end
section
variable {X : Cx} {W : WX} {S Sa Sb : List Nat} {T id : String} {nm : Str} {o e : Expr} {es : List Expr} {fe : En → R D} {fa : En → R (List D)} {g : D → List D → Option D} {r : V → List V → Hp → VK → Prop} {apos cpos : Pos}
/-- o.m(e, ..), what is told by it -/
theorem de_bm (pa : PlainAttrs T) (slot : Slot T nm id) (hty : typeOf (.builtin id) = pure (.type "method_descriptor")) (hm : MtR X id r) (hg : FitsM X.K g r) (ho : DE X W Sa o fe) (ha : DA X W Sb (e :: es) fa)
    (hbase : attributeBase o nm X.env (eval o X.env) = eval o X.env := by rfl)
    (hfew : ((backTo cpos (starEach (e :: es) X.env)).all (fun x => !x.1) && (backToKw cpos (keywordEach [] X.env)).all (fun x => x.1.isSome) && decide ((e :: es).length + ([] : List Keyword).length + (if ([] : List Keyword).isEmpty then 0 else 1) < 30)) = true := by rfl)
    (hline : (apos.endLine == cpos.line) = true := by rfl) (hs : starEach (e :: es) X.env = (false, eval e X.env) :: starEach es X.env := by rfl) (hplain : (backTo cpos (starEach es X.env)).any (·.1) = false := by rfl) :
    DE X W (Sa ++ Sb) (.Call (.Attribute o nm apos) (e :: es) [] cpos) (eBM T g fe fa) :=
  ⟨(pe_bm pa slot hty hm ho.pe ha.pa hbase hfew hline hs hplain).imp fun σ H Q h => rd_bm hg h⟩
end
theorem fits_index {K : PySem.W.Frag} : FitsM K gIndex (rIndexD K) := by
  intro O H x ys v vs o1 o2 d Q r1 r2 nd m e dn
  unfold gIndex at e
  split at e
  · rename_i o xs y
    split at e
    · rename_i h
      obtain ⟨h1, h2⟩ := Bool.and_eq_true_iff.mp h
      obtain ⟨j, e1, e2⟩ := Option.map_eq_some_iff.mp e
      subst e2
      obtain ⟨w, rfl, q⟩ := r2.one
      obtain ⟨a, ws, o', rfl, hr, rl, _, _⟩ := lst_part r1 (List.nodup_append.mp nd).1
      have h2' : okN 9 (.lst o xs) = true := by simpa only [okN] using h2
      obtain ⟨⟨z, hz, hzq⟩, hlt⟩ := posD_get e1
      refine ⟨a, w, pyD y, pyL xs, j, pyD z, rfl, rfl, r1.data h2', q.data h1, okN_shaped h2' (by decide), okN_shaped h1 (by decide), ?_, hzq, fun i z' hi hz' => ?_, dn.flat fun _ => .int _⟩
      · rw [pyL_map, List.getElem?_map, hz]; rfl
      · rw [pyL_map, List.getElem?_map] at hz'
        obtain ⟨z0, e3, e4⟩ := Option.map_eq_some_iff.mp hz'
        subst e4
        exact hlt i z0 hi e3
    · cases e
  · cases e

/-! ### a < b < c, b a number -/
def chK (g g' : D → D → Option D) (fc : En → R D) (ρ : En) (x : D) : D → R D
  | .int j => (ofO (g x (.int j))).bind fun b => (asB b).bind fun k => if k then (fc ρ).bind fun z => ofO (g' (.int j) z) else .ok (.bl false)
  | _ => .stuck
def eCh (g g' : D → D → Option D) (fa fb fc : En → R D) : En → R D := fun ρ => (fa ρ).bind fun x => (fb ρ).bind fun y => chK g g' fc ρ x y
section
variable {K : PySem.W.Frag} {W : WX} {Sa Sb Sc : List Nat} {σ : L2.St} {H : Hp} {g g' : D → D → Option D} {r r' : R2} {fa fb fc : En → R D}
theorem rd_chain {Q : VK} (hg : Fits2 K g r) (hg' : Fits2 K g' r') (h : rd K W (Sa ++ (Sb ++ Sc)) (eCh g g' fa fb fc) σ H Q) : tChain r r' (rd K W Sa fa) (rd K W Sb fb) (rd K W Sc fc) σ H Q := by
  obtain ⟨ρ, ow, B, st, h⟩ := h
  refine ⟨ρ, ow, B, st, ?_⟩
  unfold eCh at h
  cases ea : fa ρ with
  | stuck => rw [ea] at h; exact h
  | exc C fs => rw [ea] at h; exact h
  | ok x =>
    rw [ea] at h
    intro v1 H1 o1 s1 r1 d1 n1
    refine ⟨ρ, ow, fun a => B a ∨ a ∈ o1, st.grow s1 (fun a o e z => z.elim id fun z => by rw [n1 a z] at e; cases e) (fun a z => z.elim (fun z q => st.bt a z (s1.free q)) (r1.there a)), ?_⟩
    simp only [R.bind_ok] at h
    cases eb : fb ρ with
    | stuck => rw [eb] at h; exact h
    | exc C fs =>
      rw [eb] at h
      exact fun cls dd H' s x => h cls dd H' (s1.trans s) x
    | ok y =>
      rw [eb] at h
      simp only [R.bind_ok] at h
      intro v2 H2 o2 s2 r2 d2 n2
      cases y with
      | int j =>
        unfold chK at h
        dsimp only at h
        cases r2
        cases eg : g x (.int j) with
        | none => rw [eg] at h; exact h.elim
        | some b =>
          rw [eg] at h
          simp only [ofO_some, R.bind_ok] at h
          cases b with
          | bl k =>
            have h' : match (if k then (fc ρ).bind fun z => ofO (g' (.int j) z) else .ok (.bl false)) with | .ok d => rdOk K (Sa ++ (Sb ++ Sc)) B ow H d Q | .exc C fs => rdEx K W σ H C fs | .stuck => False := h
            refine hg (OutS Sa ow B o1) H2 x (.int j) v1 (.int j) o1 [] (.bl k) _ (r1.keep (fun a o e z => z) (Kept.of_same s2 _)) (.int j) (by rw [List.append_nil]; exact d1) (fun a m => outS_mem a (by rw [List.append_nil] at m; exact m)) eg fun v H' os q rb _ _ => ?_
            cases rb
            refine ⟨k, rfl, ?_⟩
            have sa : Same H H' := (s1.trans s2).trans q
            cases k with
            | false => exact h' (.bl false) H' [] sa (.bl _) List.nodup_nil fun _ z => nomatch z
            | true =>
              rw [if_pos rfl] at h' ⊢
              have h2 : rd K W (Sa ++ (Sb ++ Sc)) (e2 g' (eC (.int j)) fc) σ H' Q := by
                refine ⟨ρ, ow, B, st.same sa, ?_⟩
                unfold e2 eC
                rw [R.bind_ok]
                revert h'
                cases (fc ρ).bind fun z => ofO (g' (.int j) z) with
                | stuck => exact id
                | exc C fs => exact fun h cls dd H' s x => h cls dd H' (sa.trans s) x
                | ok d => exact fun h v H' os s r nd n => h v H' os (sa.trans s) r nd fun a m => sa.free (n a m)
              have h3 := rd2 (Sa := []) (Sb := Sc) hg' (rd_weak (S := [] ++ Sc) (fun i m => List.mem_append_right _ (List.mem_append_right _ m)) h2)
              exact rd_const (v := .int j) (fun _ => .int _) h3
          | _ => exact h.elim
      | _ => exact h.elim
end
section
variable {X : Cx} {W : WX} {Sa Sb Sc : List Nat} {a b c : Expr} {op op' : CmpOp} {g g' : D → D → Option D} {r r' : R2} {fa fb fc : En → R D} {pos : Pos}
theorem de_chain (ho : OpR X (compareOp op) r) (hg : Fits2 X.K g r) (ho' : OpR X (compareOp op') r') (hg' : Fits2 X.K g' r') (ha : DE X W Sa a fa) (hb : DE X W Sb b fb) (hc : DE X W Sc c fc)
    (hm : lastMarks [op, op'] [b, c] = false := by with_unfolding_all rfl) : DE X W (Sa ++ (Sb ++ Sc)) (.Compare a [op, op'] [b, c] pos) (eCh g g' fa fb fc) :=
  ⟨(pe_chain ho ho' ha.pe hb.pe hc.pe hm).imp fun σ H Q h => rd_chain hg hg' h⟩
theorem dt_chain (ho : OpR X (compareOp op) r) (hg : Fits2 X.K g r) (ho' : OpR X (compareOp op') r') (hg' : Fits2 X.K g' r') (ha : DE X W Sa a fa) (hb : DE X W Sb b fb) (hc : DE X W Sc c fc)
    (hm : lastMarks [op, op'] [b, c] = false := by with_unfolding_all rfl) : DT X W (.Compare a [op, op'] [b, c] pos) (tV (eCh g g' fa fb fc)) :=
  ⟨(pt_chain ho ho' ha.pe hb.pe hc.pe hm).imp fun σ H Q h => rd_chain hg hg' (rd_bool h)⟩
end
end TL
/-! T12: ends -/
namespace TL
open PySem PySem.Spec PyProof.Rows L2

theorem hu65 {k : Nat} {A : Around} (r : Room k A) : A.units + 65 < cLine := by have := r.un; omega
theorem tk0 {X : Cx} : Takes X W0 := fun _ _ ⟨_, _, _, _, _, _, _, _, _, _, _, _, _, _, _, _, w⟩ => w.elim
theorem end_cx {P : Program} {w : World} {H : Hp} {s : Shared} {e : Value} {s' : Shared} (h : CX P w [] H s (fun _ _ _ => False) e s') : False := by
  unfold CX at h
  simp at h
theorem end_sp {K : PySem.W.Frag} {F : List D → R D} (h : ∀ ns : List Int, ns.length ≤ 63 → (∀ z ∈ ns, Builtin.Int.intBits z ≤ 1048576) → F [.kl (ns.map D.int)] = .ok (.bl true)) {H : Hp} {a : Addr} {ns : List Int} (hl : ns.length ≤ 63)
    (hb : ∀ z ∈ ns, Builtin.Int.intBits z ≤ 1048576) (hS : SqL K H a (ns.map V.int)) : spD K 1 F [.ref a] H (fun v _ => v = .bl true) (fun _ _ _ => False) := by
  refine ⟨rfl, [.kl (ns.map D.int)], fun _ => False, .cons (o1 := []) (o2 := []) (.kl (hS.imp (fun z => ⟨z, id⟩) id) (RepL.ints ns)) .nil, fun _ z => z.elim, ?_⟩
  rw [h ns hl hb]
  exact fun v H' os q r nd n => by cases r; rfl
/-- return x: what the frame holds goes out -/
def sRetV (i : Nat) : En → Out := fun ρ => match ρ[i]? with
  | some (some d) => .ret d
  | _ => .stuck
section
variable {X : Cx} {W : WX} {pos pos' : Pos}
theorem ds_retV (i : Nat) {x : Str} (hN : X.N[i]? = some x := by rfl) (hv : Vis X.env.scope x := by first | exact Or.inl rfl | exact Or.inr (Or.inl rfl) | exact Or.inr (Or.inr rfl)) (hd : (x == ("__debug__" : Str)) = false := by decide)
    (hcd : (x == ("__classdict__" : Str)) = false := by decide) : DS X W (.Return (some (.Name x pos)) pos') (sRetV i) :=
  ⟨(ps_ret (pe_var hN hv hd hcd)).imp fun D σ H ⟨ρ, ow, B, s, h⟩ => by
    unfold sRetV at h
    split at h
    · rename_i d e
      obtain ⟨v, hv, r⟩ := s.rep i d e
      exact ⟨v, hv, h v H (ow i) (r.keep (fun a o _ z => z.elim .inr fun z => .inl ⟨i, z⟩) (Kept.of_same (Same.refl _) _)) (s.nd i) (fun a o e _ => e) fun a m => .inl ⟨i, m⟩⟩
    · exact h.elim⟩
end
end TL
/-! P0: computing with mirrors -/
namespace TL
open PySem PySem.Spec PyProof.Rows L2

/-! ### one step each -/
def Out.seq : Out → (En → Out) → Out
  | .nx ρ, g => g ρ
  | o, _ => o
@[simp] theorem Out.seq_nx (ρ : En) (g : En → Out) : (Out.nx ρ).seq g = g ρ := rfl
@[simp] theorem Out.seq_ret (d : D) (g : En → Out) : (Out.ret d).seq g = .ret d := rfl
@[simp] theorem Out.seq_bk (ρ : En) (g : En → Out) : (Out.bk ρ).seq g = .bk ρ := rfl
@[simp] theorem Out.seq_ct (ρ : En) (g : En → Out) : (Out.ct ρ).seq g = .ct ρ := rfl
@[simp] theorem Out.seq_exc (ρ : En) (C fs) (g : En → Out) : (Out.exc ρ C fs).seq g = .exc ρ C fs := rfl
@[simp] theorem Out.seq_stuck (g : En → Out) : Out.stuck.seq g = .stuck := rfl
theorem Out.seq_ite (c : Prop) [Decidable c] (a b : Out) (g : En → Out) : (if c then a else b).seq g = if c then a.seq g else b.seq g := by split <;> rfl
@[simp] theorem sSeq_app (f g : En → Out) (ρ : En) : sSeq f g ρ = (f ρ).seq g := by unfold sSeq Out.seq; cases f ρ <;> rfl
@[simp] theorem sNx_app (ρ : En) : sNx ρ = .nx ρ := rfl
@[simp] theorem sBk_app (ρ : En) : sBk ρ = .bk ρ := rfl
@[simp] theorem sCt_app (ρ : En) : sCt ρ = .ct ρ := rfl
@[simp] theorem sIf_app (c : En → R Bool) (f g : En → Out) (ρ : En) : sIf c f g ρ = lift (c ρ) ρ fun b => if b then f ρ else g ρ := rfl
@[simp] theorem sRet_app (f : En → R D) (ρ : En) : sRet f ρ = lift (f ρ) ρ .ret := rfl
@[simp] theorem sRetN_app (ρ : En) : sRetN ρ = .ret .non := rfl
@[simp] theorem sDrop_app (f : En → R D) (ρ : En) : sDrop f ρ = lift (f ρ) ρ fun _ => .nx ρ := rfl
@[simp] theorem sSet_app (i : Nat) (S : List Nat) (f : En → R D) (ρ : En) : sSet i S f ρ = lift (f ρ) ρ fun d => .nx ((if d.clean then ρ else frzAt S ρ).set i (some d)) := rfl
def retAt : Option (Option D) → Out
  | some (some d) => .ret d
  | _ => .stuck
@[simp] theorem sRetV_app (i : Nat) (ρ : En) : sRetV i ρ = retAt ρ[i]? := by unfold sRetV retAt; cases ρ[i]? with | none => rfl | some x => cases x <;> rfl
@[simp] theorem retAt_some (d : D) : retAt (some (some d)) = .ret d := rfl
def readAt : Option (Option D) → R D
  | some (some d) => .ok d.frz
  | _ => .stuck
@[simp] theorem eVar_app (i : Nat) (ρ : En) : eVar i ρ = readAt ρ[i]? := by unfold eVar readAt; cases ρ[i]? with | none => rfl | some x => cases x <;> rfl
@[simp] theorem readAt_some (d : D) : readAt (some (some d)) = .ok d.frz := rfl
@[simp] theorem eC_app (d : D) (ρ : En) : eC d ρ = .ok d := rfl
@[simp] theorem e1_app (g : D → Option D) (fa : En → R D) (ρ : En) : e1 g fa ρ = (fa ρ).bind fun x => ofO (g x) := rfl
@[simp] theorem e2_app (g : D → D → Option D) (fa fb : En → R D) (ρ : En) : e2 g fa fb ρ = (fa ρ).bind fun x => (fb ρ).bind fun y => ofO (g x y) := rfl
@[simp] theorem eN_app (g : List D → Option D) (fa : En → R (List D)) (ρ : En) : eN g fa ρ = (fa ρ).bind fun x => ofO (g x) := rfl
@[simp] theorem eNil_app (ρ : En) : eNil ρ = .ok [] := rfl
@[simp] theorem eCons_app (fa : En → R D) (fb : En → R (List D)) (ρ : En) : eCons fa fb ρ = (fa ρ).bind fun x => (fb ρ).bind fun y => .ok (x :: y) := rfl
@[simp] theorem eCall_app (F : List D → R D) (fa : En → R (List D)) (ρ : En) : eCall F fa ρ = (fa ρ).bind fun ds => F (frzL ds) := rfl
@[simp] theorem tV_app (f : En → R D) (ρ : En) : tV f ρ = (f ρ).bind asB := rfl
@[simp] theorem asB_bl (b : Bool) : asB (.bl b) = .ok b := rfl
@[simp] theorem tNotC_app (f : En → R Bool) (ρ : En) : tNotC f ρ = (f ρ).bind fun b => .ok (!b) := rfl
@[simp] theorem tAndC_app (f g : En → R Bool) (ρ : En) : tAndC f g ρ = (f ρ).bind fun b => if b then g ρ else .ok false := rfl
@[simp] theorem tOrC_app (f g : En → R Bool) (ρ : En) : tOrC f g ρ = (f ρ).bind fun b => if b then .ok true else g ρ := rfl
@[simp] theorem eAnd_app (f g : En → R D) (ρ : En) : eAnd f g ρ = (f ρ).bind fun x => (asB x).bind fun b => if b then g ρ else .ok (.bl false) := rfl
@[simp] theorem eOr_app (f g : En → R D) (ρ : En) : eOr f g ρ = (f ρ).bind fun x => (asB x).bind fun b => if b then .ok (.bl true) else g ρ := rfl
@[simp] theorem eNot_app (f : En → R D) (ρ : En) : eNot f ρ = (f ρ).bind fun x => (asB x).bind fun b => .ok (.bl (!b)) := rfl
@[simp] theorem eIf_app (c : En → R Bool) (f g : En → R D) (ρ : En) : eIf c f g ρ = (c ρ).bind fun b => if b then f ρ else g ρ := rfl
@[simp] theorem eCh_app (g g' : D → D → Option D) (fa fb fc : En → R D) (ρ : En) : eCh g g' fa fb fc ρ = (fa ρ).bind fun x => (fb ρ).bind fun y => chK g g' fc ρ x y := rfl
@[simp] theorem chK_int (g g' : D → D → Option D) (fc : En → R D) (ρ : En) (x : D) (j : Int) : chK g g' fc ρ x (.int j) = (ofO (g x (.int j))).bind fun b => (asB b).bind fun k => if k then (fc ρ).bind fun z => ofO (g' (.int j) z) else .ok (.bl false) := rfl
@[simp] theorem eBM_app (T : String) (g : D → List D → Option D) (fe : En → R D) (fa : En → R (List D)) (ρ : En) : eBM T g fe fa ρ = (fe ρ).bind fun x => if tyR T x then (fa ρ).bind fun ys => ofO (g x ys) else .stuck := rfl
@[simp] theorem eSl_app (f : En → R D) (lo hi : En → R (Option Int)) (ρ : En) : eSl f lo hi ρ = (f ρ).bind fun x => (lo ρ).bind fun l => (hi ρ).bind fun h => ofO (gSl x l h) := rfl
@[simp] theorem oNone_app (ρ : En) : oNone ρ = .ok none := rfl
def toInt : D → R (Option Int)
  | .int i => .ok (some i)
  | _ => .stuck
@[simp] theorem oSome_app (f : En → R D) (ρ : En) : oSome f ρ = (f ρ).bind toInt := rfl
@[simp] theorem toInt_int (i : Int) : toInt (.int i) = .ok (some i) := rfl
theorem R.bind_ite {α β : Type} (c : Prop) [Decidable c] (a b : R α) (f : α → R β) : (if c then a else b).bind f = if c then a.bind f else b.bind f := by split <;> rfl
theorem lift_ite {α : Type} (c : Prop) [Decidable c] (a b : R α) (ρ : En) (k : α → Out) : lift (if c then a else b) ρ k = if c then lift a ρ k else lift b ρ k := by split <;> rfl

/-! ### freezing and the like -/
@[simp] theorem frz_non : D.non.frz = .non := rfl
@[simp] theorem frz_bl (b : Bool) : (D.bl b).frz = .bl b := rfl
@[simp] theorem frz_int (i : Int) : (D.int i).frz = .int i := rfl
@[simp] theorem frz_str (x : Str) : (D.str x).frz = .str x := rfl
@[simp] theorem frz_tup (xs : List D) : (D.tup xs).frz = .tup (frzL xs) := rfl
@[simp] theorem frz_kt (xs : List D) : (D.kt xs).frz = .kt (frzL xs) := rfl
@[simp] theorem frz_kl (xs : List D) : (D.kl xs).frz = .kl (frzL xs) := rfl
@[simp] theorem frz_lst (o : Bool) (xs : List D) : (D.lst o xs).frz = .lst false (frzL xs) := rfl
@[simp] theorem frzL_nil : frzL [] = [] := rfl
@[simp] theorem frzL_cons (d : D) (xs : List D) : frzL (d :: xs) = d.frz :: frzL xs := rfl
theorem frzL_map : ∀ xs : List D, frzL xs = xs.map D.frz
  | [] => rfl
  | d :: r => congrArg (d.frz :: ·) (frzL_map r)
@[simp] theorem frzL_append (xs ys : List D) : frzL (xs ++ ys) = frzL xs ++ frzL ys := by rw [frzL_map, frzL_map, frzL_map, List.map_append]
@[simp] theorem clean_non : D.non.clean = true := rfl
@[simp] theorem clean_bl (b : Bool) : (D.bl b).clean = true := rfl
@[simp] theorem clean_int (i : Int) : (D.int i).clean = true := rfl
@[simp] theorem clean_str (x : Str) : (D.str x).clean = true := rfl
@[simp] theorem clean_tup (xs : List D) : (D.tup xs).clean = cleanL xs := rfl
@[simp] theorem clean_lst (o : Bool) (xs : List D) : (D.lst o xs).clean = (o && cleanL xs) := rfl
@[simp] theorem cleanL_nil : cleanL [] = true := rfl
@[simp] theorem cleanL_cons (d : D) (xs : List D) : cleanL (d :: xs) = (d.clean && cleanL xs) := rfl
theorem cleanL_all : ∀ xs : List D, cleanL xs = xs.all D.clean
  | [] => rfl
  | d :: r => congrArg (d.clean && ·) (cleanL_all r)
@[simp] theorem cleanL_append (xs ys : List D) : cleanL (xs ++ ys) = (cleanL xs && cleanL ys) := by rw [cleanL_all, cleanL_all, cleanL_all, List.all_append]
@[simp] theorem val_int (i : Int) : (D.int i).val = true := rfl
@[simp] theorem val_str (i : Str) : (D.str i).val = true := rfl
@[simp] theorem val_bl (i : Bool) : (D.bl i).val = true := rfl
@[simp] theorem val_non : D.non.val = true := rfl
@[simp] theorem val_tup (xs : List D) : (D.tup xs).val = valL xs := rfl
@[simp] theorem valL_nil : valL [] = true := rfl
@[simp] theorem valL_cons (d : D) (xs : List D) : valL (d :: xs) = (d.val && valL xs) := rfl
theorem valL_all : ∀ xs : List D, valL xs = xs.all D.val
  | [] => rfl
  | d :: r => congrArg (d.val && ·) (valL_all r)
@[simp] theorem valL_append (xs ys : List D) : valL (xs ++ ys) = (valL xs && valL ys) := by rw [valL_all, valL_all, valL_all, List.all_append]
theorem okNL_all (n : Nat) : ∀ xs : List D, okNL n xs = xs.all (okN n)
  | [] => by simp [okNL]
  | d :: r => by simp only [okNL, List.all_cons, okNL_all n r]
mutual
theorem val_frz : ∀ {d : D}, d.val = true → d.frz = d ∧ d.clean = true
  | .non, _ => ⟨rfl, rfl⟩
  | .bl _, _ => ⟨rfl, rfl⟩
  | .int _, _ => ⟨rfl, rfl⟩
  | .str _, _ => ⟨rfl, rfl⟩
  | .tup xs, h => by
    have q := valL_frz (xs := xs) h
    exact ⟨congrArg D.tup q.1, q.2⟩
  | .lst _ _, h => nomatch h
  | .kl _, h => nomatch h
  | .kt _, h => nomatch h
  | .dct _ _ _, h => nomatch h
  | .ins _ _ _, h => nomatch h
theorem valL_frz : ∀ {xs : List D}, valL xs = true → frzL xs = xs ∧ cleanL xs = true
  | [], _ => ⟨rfl, rfl⟩
  | d :: r, h => by
    have h' := Bool.and_eq_true_iff.mp h
    have a := val_frz h'.1
    have b := valL_frz h'.2
    exact ⟨by rw [frzL_cons, a.1, b.1], by rw [cleanL_cons, a.2, b.2]; rfl⟩
end

@[simp] theorem cleanL_reverse (xs : List D) : cleanL xs.reverse = cleanL xs := by rw [cleanL_all, cleanL_all, List.all_reverse]
@[simp] theorem valL_reverse (xs : List D) : valL xs.reverse = valL xs := by rw [valL_all, valL_all, List.all_reverse]
@[simp] theorem frzL_reverse (xs : List D) : frzL xs.reverse = (frzL xs).reverse := by rw [frzL_map, frzL_map, List.map_reverse]

/-! ### operators -/
@[simp] theorem gPow_10_18 : gPow (.int 10) (.int 18) = some (.int 1000000000000000000) := rfl
@[simp] theorem gPow_10_9 : gPow (.int 10) (.int 9) = some (.int 1000000000) := rfl
@[simp] theorem gAdd_int (i j : Int) : gAdd (.int i) (.int j) = some (.int (i + j)) := rfl
@[simp] theorem gSub_int (i j : Int) : gSub (.int i) (.int j) = some (.int (i - j)) := rfl
@[simp] theorem gNeg_int (i : Int) : gNeg (.int i) = some (.int (-i)) := rfl
@[simp] theorem gLt_int (i j : Int) : gLt (.int i) (.int j) = some (.bl (decide (i < j))) := rfl
@[simp] theorem gLe_int (i j : Int) : gLe (.int i) (.int j) = some (.bl (decide (i ≤ j))) := rfl
@[simp] theorem gGt_int (i j : Int) : gGt (.int i) (.int j) = some (.bl (decide (j < i))) := rfl
@[simp] theorem gGe_int (i j : Int) : gGe (.int i) (.int j) = some (.bl (decide (j ≤ i))) := rfl
theorem gMod_int {i j : Int} (h : 0 < j) : gMod (.int i) (.int j) = some (.int (i % j)) := if_pos h
theorem gDiv_int {i j : Int} (h : 0 < j ∧ j < 2 ^ 62) : gDiv (.int i) (.int j) = some (.int (i / j)) := if_pos h
theorem gMul_int {i j : Int} (h : (-(2 ^ 62) < i ∧ i < 2 ^ 62) ∨ (-(2 ^ 62) < j ∧ j < 2 ^ 62)) : gMul (.int i) (.int j) = some (.int (i * j)) := if_pos h
theorem gPow_int {i j : Int} (h : 0 ≤ j ∧ j ≤ 1000 ∧ -(2 ^ 63) < i ∧ i < 2 ^ 63) : gPow (.int i) (.int j) = some (.int (i ^ j.toNat)) := if_pos h
@[simp] theorem gInt_int (i : Int) : gInt [.int i] = some (.int i) := rfl
@[simp] theorem gAbs_int (i : Int) : gAbs [.int i] = some (.int (if i < 0 then -i else i)) := rfl
@[simp] theorem gMax2_int (i j : Int) : gMax2 [.int i, .int j] = some (.int (if j > i then j else i)) := rfl
@[simp] theorem gMin2_int (i j : Int) : gMin2 [.int i, .int j] = some (.int (if j < i then j else i)) := rfl
@[simp] theorem gLen_lst (o : Bool) (xs : List D) : gLen [.lst o xs] = some (.int xs.length) := rfl
@[simp] theorem gLen_tup (xs : List D) : gLen [.tup xs] = some (.int xs.length) := rfl
@[simp] theorem gLen_kl (xs : List D) : gLen [.kl xs] = some (.int xs.length) := rfl
@[simp] theorem gListOf_lst (o : Bool) (xs : List D) : gListOf [.lst o xs] = some (.lst true xs) := rfl
@[simp] theorem gListOf_tup (xs : List D) : gListOf [.tup xs] = some (.lst true xs) := rfl
@[simp] theorem gTupOf_lst (o : Bool) (xs : List D) : gTupOf [.lst o xs] = some (.tup xs) := rfl
@[simp] theorem gTupOf_tup (xs : List D) : gTupOf [.tup xs] = some (.tup xs) := rfl
@[simp] theorem gRevL_lst (o : Bool) (xs : List D) : gRevL (.lst o xs) = some (.lst true xs.reverse) := rfl
theorem mkTup_some {xs : List D} (h : xs.length ≤ 16777216) : mkTup xs = some (.tup xs) := if_pos h
theorem mkLst_some {xs : List D} (h : xs.length ≤ 16777216) : mkLst xs = some (.lst true xs) := if_pos h
@[simp] theorem mkTup_2 (a b : D) : mkTup [a, b] = some (.tup [a, b]) := mkTup_some (by simp)
@[simp] theorem mkTup_3 (a b c : D) : mkTup [a, b, c] = some (.tup [a, b, c]) := mkTup_some (by simp)
@[simp] theorem mkLst_0 : mkLst [] = some (.lst true []) := rfl
@[simp] theorem mkLst_1 (a : D) : mkLst [a] = some (.lst true [a]) := mkLst_some (by simp)
@[simp] theorem mkLst_2 (a b : D) : mkLst [a, b] = some (.lst true [a, b]) := mkLst_some (by simp)
@[simp] theorem mkLst_3 (a b c : D) : mkLst [a, b, c] = some (.lst true [a, b, c]) := mkLst_some (by simp)
@[simp] theorem mkLst_4 (a b c d : D) : mkLst [a, b, c, d] = some (.lst true [a, b, c, d]) := mkLst_some (by simp)
@[simp] theorem mkLst_5 (a b c d e : D) : mkLst [a, b, c, d, e] = some (.lst true [a, b, c, d, e]) := mkLst_some (by simp)
@[simp] theorem mkLst_6 (a b c d e f : D) : mkLst [a, b, c, d, e, f] = some (.lst true [a, b, c, d, e, f]) := mkLst_some (by simp)
@[simp] theorem mkLst_7 (a b c d e f g : D) : mkLst [a, b, c, d, e, f, g] = some (.lst true [a, b, c, d, e, f, g]) := mkLst_some (by simp)
@[simp] theorem mkLst_8 (a b c d e f g h : D) : mkLst [a, b, c, d, e, f, g, h] = some (.lst true [a, b, c, d, e, f, g, h]) := mkLst_some (by simp)
theorem gAdd_lst {o p : Bool} {xs ys : List D} (h : xs.length + ys.length ≤ 16777216) : gAdd (.lst o xs) (.lst p ys) = some (.lst true (xs ++ ys)) := if_pos h
theorem gMul_lst {xs : List D} {k : Int} (hv : valL xs = true) (h : -(2 ^ 62) < k ∧ k < 2 ^ 62 ∧ xs.length * k.toNat ≤ 16777216) : gMul (.lst true xs) (.int k) = some (.lst true (repL k.toNat xs)) := by
  exact (if_pos hv).trans (if_pos h)
theorem repL_length (k : Nat) (xs : List D) : (repL k xs).length = k * xs.length := by
  unfold repL
  induction k with
  | zero => simp
  | succ k ih => rw [List.replicate_succ, List.flatten_cons, List.length_append, ih, Nat.succ_mul, Nat.add_comm]
theorem repL_mem {k : Nat} {xs : List D} {d : D} (h : d ∈ repL k xs) : d ∈ xs := by
  unfold repL at h
  obtain ⟨l, h1, h2⟩ := List.mem_flatten.mp h
  rw [(List.mem_replicate.mp h1).2] at h2
  exact h2
theorem repL_one (k : Nat) (d : D) : repL k [d] = List.replicate k d := by
  unfold repL
  induction k with
  | zero => rfl
  | succ k ih => rw [List.replicate_succ, List.flatten_cons, ih, List.replicate_succ]; rfl

@[simp] theorem gEq_int (i j : Int) : gEq (.int i) (.int j) = some (.bl (decide (i = j))) := by
  have h : (i == j) = decide (i = j) := by rw [Bool.eq_iff_iff]; simp
  simp [gEq, okN, eqD, pyD, PyData.eqv, h]
@[simp] theorem gNe_int (i j : Int) : gNe (.int i) (.int j) = some (.bl (!decide (i = j))) := by
  have h : (i == j) = decide (i = j) := by rw [Bool.eq_iff_iff]; simp
  simp [gNe, okN, eqD, pyD, PyData.eqv, h]
theorem gEq_ok {x y : D} (h1 : okN 9 x = true) (h2 : okN 9 y = true) : gEq x y = some (.bl (eqD x y)) := by
  unfold gEq
  rw [h1, h2]
  rfl
theorem gEq_str {a b : Str} {r : Bool} (h1 : PyData.strOk a = true) (h2 : PyData.strOk b = true) (h : (a == b) = r) : gEq (.str a) (.str b) = some (.bl r) := by
  rw [gEq_ok (by simp only [okN]; exact h1) (by simp only [okN]; exact h2)]
  unfold eqD
  simp only [pyD, PyData.eqv, h]
theorem gNe_ok {x y : D} (h1 : okN 9 x = true) (h2 : okN 9 y = true) : gNe x y = some (.bl (!eqD x y)) := by
  unfold gNe
  rw [h1, h2]
  rfl

/-! ### subscripts -/
theorem atI_pos {α : Type} {xs : List α} {i : Int} (h0 : 0 ≤ i) (h1 : i < xs.length) : atI xs i = xs[i.toNat]? := by
  unfold atI ixN
  rw [if_pos h0, if_pos h1]
  rfl
theorem atI_neg {α : Type} {xs : List α} {i : Int} (h0 : i < 0) (h1 : -(xs.length : Int) ≤ i) : atI xs i = xs[(i + xs.length).toNat]? := by
  unfold atI ixN
  rw [if_neg (by omega), if_pos h1]
  rfl
@[simp] theorem gIx_lst (o : Bool) (xs : List D) (i : Int) : gIx (.lst o xs) (.int i) = atI xs i := rfl
@[simp] theorem gIx_tup (xs : List D) (i : Int) : gIx (.tup xs) (.int i) = atI xs i := rfl
@[simp] theorem gIx_kl (xs : List D) (i : Int) : gIx (.kl xs) (.int i) = atI xs i := rfl
@[simp] theorem atI_0 {α : Type} (a : α) (r : List α) : atI (a :: r) 0 = some a := by
  rw [atI_pos (by decide) (by rw [List.length_cons]; omega)]; rfl
@[simp] theorem atI_1 {α : Type} (a b : α) (r : List α) : atI (a :: b :: r) 1 = some b := by
  rw [atI_pos (by decide) (by rw [List.length_cons, List.length_cons]; omega)]; rfl
@[simp] theorem atI_2 {α : Type} (a b c : α) (r : List α) : atI (a :: b :: c :: r) 2 = some c := by
  rw [atI_pos (by decide) (by rw [List.length_cons, List.length_cons, List.length_cons]; omega)]; rfl
@[simp] theorem atI_3 {α : Type} (a b c d : α) (r : List α) : atI (a :: b :: c :: d :: r) 3 = some d := by
  rw [atI_pos (by decide) (by rw [List.length_cons, List.length_cons, List.length_cons, List.length_cons]; omega)]; rfl
theorem atI_last {α : Type} {xs : List α} {a : α} (h : xs.getLast? = some a) : atI xs (-1) = some a := by
  have hne : 0 < xs.length := by cases xs with | nil => cases h | cons _ _ => exact Nat.zero_lt_succ _
  rw [atI_neg (by decide) (by omega), ← h, List.getLast?_eq_getElem?]
  congr 1
  omega

/-! ### rows of numbers -/
def rowI (n : Nat) (f : Int → Int) : List D := (List.range n).map fun (k : Nat) => D.int (f k)
@[simp] theorem rowI_length (n : Nat) (f : Int → Int) : (rowI n f).length = n := by unfold rowI; rw [List.length_map, List.length_range]
theorem rowI_at {n : Nat} {f : Int → Int} {i : Int} (h : 0 ≤ i ∧ i < n) : atI (rowI n f) i = some (.int (f i)) := by
  rw [atI_pos h.1 (by rw [rowI_length]; exact h.2)]
  unfold rowI
  rw [List.getElem?_map, List.getElem?_range (by omega)]
  show some (D.int (f (i.toNat : Int))) = _
  rw [Int.toNat_of_nonneg h.1]
theorem rowI_val (n : Nat) (f : Int → Int) : valL (rowI n f) = true := by
  rw [valL_all, List.all_eq_true]
  intro d m
  obtain ⟨k, _, e⟩ := List.mem_map.mp m
  rw [← e]; rfl
@[simp] theorem rowI_frz (n : Nat) (f : Int → Int) : frzL (rowI n f) = rowI n f := (valL_frz (rowI_val n f)).1
@[simp] theorem rowI_clean (n : Nat) (f : Int → Int) : cleanL (rowI n f) = true := (valL_frz (rowI_val n f)).2
theorem ints_row (ns : List Int) : ns.map D.int = rowI ns.length fun i => ns.getD i.toNat 0 := by
  unfold rowI
  refine List.ext_getElem? fun k => ?_
  rw [List.getElem?_map, List.getElem?_map]
  by_cases h : k < ns.length
  · rw [List.getElem?_range h, List.getElem?_eq_getElem h]
    simp [List.getD_eq_getElem?_getD, List.getElem?_eq_getElem h]
  · rw [List.getElem?_eq_none (by omega), List.getElem?_eq_none (by rw [List.length_range]; omega)]
    rfl
theorem ints_val (ns : List Int) : valL (ns.map D.int) = true := by rw [ints_row]; exact rowI_val _ _
@[simp] theorem ints_frz (ns : List Int) : frzL (ns.map D.int) = ns.map D.int := (valL_frz (ints_val ns)).1
@[simp] theorem ints_clean (ns : List Int) : cleanL (ns.map D.int) = true := (valL_frz (ints_val ns)).2

@[simp] theorem rowI_1 (f : Int → Int) : rowI 1 f = [.int (f 0)] := by simp [rowI, List.range_succ]
@[simp] theorem rowI_2 (f : Int → Int) : rowI 2 f = [.int (f 0), .int (f 1)] := by simp [rowI, List.range_succ]
@[simp] theorem rowI_3 (f : Int → Int) : rowI 3 f = [.int (f 0), .int (f 1), .int (f 2)] := by simp [rowI, List.range_succ]
@[simp] theorem rowI_4 (f : Int → Int) : rowI 4 f = [.int (f 0), .int (f 1), .int (f 2), .int (f 3)] := by simp [rowI, List.range_succ]
@[simp] theorem rowI_5 (f : Int → Int) : rowI 5 f = [.int (f 0), .int (f 1), .int (f 2), .int (f 3), .int (f 4)] := by simp [rowI, List.range_succ]
@[simp] theorem rowI_6 (f : Int → Int) : rowI 6 f = [.int (f 0), .int (f 1), .int (f 2), .int (f 3), .int (f 4), .int (f 5)] := by simp [rowI, List.range_succ]
@[simp] theorem rowI_7 (f : Int → Int) : rowI 7 f = [.int (f 0), .int (f 1), .int (f 2), .int (f 3), .int (f 4), .int (f 5), .int (f 6)] := by simp [rowI, List.range_succ]
@[simp] theorem rowI_8 (f : Int → Int) : rowI 8 f = [.int (f 0), .int (f 1), .int (f 2), .int (f 3), .int (f 4), .int (f 5), .int (f 6), .int (f 7)] := by simp [rowI, List.range_succ]
@[simp] theorem rowI_9 (f : Int → Int) : rowI 9 f = [.int (f 0), .int (f 1), .int (f 2), .int (f 3), .int (f 4), .int (f 5), .int (f 6), .int (f 7), .int (f 8)] := by simp [rowI, List.range_succ]
@[simp] theorem atI_4 {α : Type} (a b c d e : α) (r : List α) : atI (a :: b :: c :: d :: e :: r) 4 = some e := by
  rw [atI_pos (by decide) (by simp only [List.length_cons]; omega)]; rfl
@[simp] theorem atI_5 {α : Type} (a b c d e f : α) (r : List α) : atI (a :: b :: c :: d :: e :: f :: r) 5 = some f := by
  rw [atI_pos (by decide) (by simp only [List.length_cons]; omega)]; rfl
@[simp] theorem atI_6 {α : Type} (a b c d e f g : α) (r : List α) : atI (a :: b :: c :: d :: e :: f :: g :: r) 6 = some g := by
  rw [atI_pos (by decide) (by simp only [List.length_cons]; omega)]; rfl
theorem rowI_add {n : Nat} {f : Int → Int} {i j : Int} (h : 0 ≤ i + j ∧ i + j < n) : atI (rowI n f) (i + j) = some (.int (f (i + j))) := rowI_at h

@[simp] theorem frzL_rep (n : Nat) (i : Int) : frzL (List.replicate n (D.int i)) = List.replicate n (D.int i) := by rw [frzL_map, List.map_replicate]; rfl
@[simp] theorem cleanL_rep (n : Nat) (i : Int) : cleanL (List.replicate n (D.int i)) = true := by rw [cleanL_all, List.all_replicate]; simp
theorem gMul_rep (i : Int) {k : Int} (h : 0 ≤ k ∧ k ≤ 16777216) : gMul (.lst true [.int i]) (.int k) = some (.lst true (List.replicate k.toNat (.int i))) := by
  rw [gMul_lst rfl ⟨by omega, by omega, by simp; omega⟩, repL_one]

/-! ### corners -/
def pr (p : Int × Int) : D := .tup [.int p.1, .int p.2]
theorem pr_mk (x y : Int) : D.tup [.int x, .int y] = pr (x, y) := rfl
theorem pr_def (p : Int × Int) : pr p = D.tup [.int p.1, .int p.2] := rfl
@[simp] theorem pr_frz (p : Int × Int) : (pr p).frz = pr p := rfl
@[simp] theorem pr_clean (p : Int × Int) : (pr p).clean = true := rfl
@[simp] theorem pr_val (p : Int × Int) : (pr p).val = true := rfl
@[simp] theorem gIx_pr0 (p : Int × Int) : gIx (pr p) (.int 0) = some (.int p.1) := by unfold pr; simp
@[simp] theorem gIx_pr1 (p : Int × Int) : gIx (pr p) (.int 1) = some (.int p.2) := by unfold pr; simp
@[simp] theorem okN_pr (n : Nat) (p : Int × Int) : okN (n + 1) (pr p) = true := by simp [pr, okN, okNL]
theorem prs_val (ps : List (Int × Int)) : valL (ps.map pr) = true := by
  rw [valL_all, List.all_eq_true]
  intro d m
  obtain ⟨k, _, e⟩ := List.mem_map.mp m
  rw [← e]; rfl
@[simp] theorem prs_frz (ps : List (Int × Int)) : frzL (ps.map pr) = ps.map pr := (valL_frz (prs_val ps)).1
@[simp] theorem prs_clean (ps : List (Int × Int)) : cleanL (ps.map pr) = true := (valL_frz (prs_val ps)).2
@[simp] theorem okNL_prs (n : Nat) (ps : List (Int × Int)) : okNL (n + 1) (ps.map pr) = true := by
  rw [okNL_all, List.all_eq_true]
  intro d m
  obtain ⟨k, _, e⟩ := List.mem_map.mp m
  rw [← e]; exact okN_pr n k
theorem eqD_pr (p q : Int × Int) : eqD (pr p) (pr q) = decide (p = q) := by
  unfold eqD pr
  simp only [pyD, pyL]
  obtain ⟨a, b⟩ := p
  obtain ⟨c, d⟩ := q
  rw [Bool.eq_iff_iff]
  simp [PyData.eqv, PyData.eqvAll]

@[simp] theorem gEq_pr (p q : Int × Int) : gEq (pr p) (pr q) = some (.bl (decide (p = q))) := by rw [gEq_ok (okN_pr 8 p) (okN_pr 8 q), eqD_pr]
@[simp] theorem gNe_pr (p q : Int × Int) : gNe (pr p) (pr q) = some (.bl (!decide (p = q))) := by rw [gNe_ok (okN_pr 8 p) (okN_pr 8 q), eqD_pr]
theorem inD_prs (p : Int × Int) : ∀ ps : List (Int × Int), inD (pr p) (ps.map pr) = decide (p ∈ ps)
  | [] => rfl
  | q :: r => by
    have ih := inD_prs p r
    unfold inD at ih ⊢
    rw [List.map_cons, List.any_cons, ih, eqD_pr, Bool.eq_iff_iff, Bool.or_eq_true, decide_eq_true_iff, decide_eq_true_iff, decide_eq_true_iff, List.mem_cons]
    exact or_congr ⟨Eq.symm, Eq.symm⟩ Iff.rfl
@[simp] theorem gInS_prs_lst (n o : Bool) (p : Int × Int) (ps : List (Int × Int)) : gInS n (pr p) (.lst o (ps.map pr)) = some (.bl (if n then !decide (p ∈ ps) else decide (p ∈ ps))) := by
  have h : okN 9 (.lst o (ps.map pr)) = true := by simp only [okN]; exact okNL_prs 7 ps
  simp only [gInS, seqOf, okN_pr, h, Bool.and_self, if_true, inD_prs]
@[simp] theorem gInS_prs_tup (n : Bool) (p : Int × Int) (ps : List (Int × Int)) : gInS n (pr p) (.tup (ps.map pr)) = some (.bl (if n then !decide (p ∈ ps) else decide (p ∈ ps))) := by
  have h : okN 9 (.tup (ps.map pr)) = true := by simp only [okN]; exact okNL_prs 7 ps
  simp only [gInS, seqOf, okN_pr, h, Bool.and_self, if_true, inD_prs]
theorem atI_prs {ps : List (Int × Int)} {i : Int} {p : Int × Int} (h : atI ps i = some p) : atI (ps.map pr) i = some (pr p) := by
  obtain ⟨j, e1, e2⟩ := atI_len (ys := ps.map pr) (by rw [List.length_map]) h
  exact e2 _ (by rw [List.getElem?_map, e1]; rfl)
def lexP (p q : Int × Int) : Bool := decide (p.1 < q.1 ∨ (p.1 = q.1 ∧ p.2 < q.2))
theorem gLt_pr (p q : Int × Int) : gLt (pr p) (pr q) = some (.bl (lexLt [p.1, p.2] [q.1, q.2])) := rfl
theorem atI_first {α : Type} {xs : List α} {a : α} (h : xs.head? = some a) : atI xs 0 = some a := by
  cases xs with
  | nil => cases h
  | cons x r => cases h; exact atI_0 _ _
theorem atI_some {α : Type} {xs : List α} {i : Int} (h : 0 ≤ i ∧ i < xs.length) : ∃ a, atI xs i = some a ∧ a ∈ xs := by
  rw [atI_pos h.1 h.2, List.getElem?_eq_getElem (by omega)]
  exact ⟨_, rfl, List.getElem_mem _⟩

/-! ### loops -/
@[simp] theorem sFor_app (S : List Nat) (fi : En → R (List D)) (g : D → En → Option En) (fb : En → Out) (ρ : En) : sFor S fi g fb ρ = lift (fi ρ) ρ fun ds => loopD g fb ds (frzAt S ρ) := rfl
@[simp] theorem upto_length (lo : Int) (n : Nat) : (upto lo n).length = n := by unfold upto; rw [List.length_map, List.length_range]
theorem upto_get {lo : Int} {n k : Nat} {d : D} (h : (upto lo n)[k]? = some d) : k < n ∧ d = .int (lo + k) := by
  unfold upto at h
  rw [List.getElem?_map] at h
  obtain ⟨j, h1, h2⟩ := Option.map_eq_some_iff.mp h
  have hk : k < n := by
    have := (List.getElem?_eq_some_iff.mp h1).1
    rw [List.length_range] at this
    exact this
  rw [List.getElem?_range hk] at h1
  cases h1
  exact ⟨hk, h2.symm⟩
def rangeTo : List D → R (List D)
  | [.int j] => if -(2 ^ 62) ≤ j ∧ j ≤ 2 ^ 24 then .ok (upto 0 j.toNat) else .stuck
  | _ => .stuck
@[simp] theorem iR1_app (f : En → R (List D)) (ρ : En) : iR1 f ρ = (f ρ).bind rangeTo := rfl
theorem rangeTo_int {j : Int} (h : -(2 ^ 62) ≤ j ∧ j ≤ 2 ^ 24) : rangeTo [.int j] = .ok (upto 0 j.toNat) := if_pos h
def rangeFT : List D → R (List D)
  | [.int i, .int j] => if -(2 ^ 23) ≤ i ∧ i ≤ 2 ^ 23 ∧ -(2 ^ 23) ≤ j ∧ j ≤ 2 ^ 23 then .ok (upto i (j - i).toNat) else .stuck
  | _ => .stuck
@[simp] theorem iR2_app (f : En → R (List D)) (ρ : En) : iR2 f ρ = (f ρ).bind rangeFT := rfl
theorem rangeFT_int {i j : Int} (h : -(2 ^ 23) ≤ i ∧ i ≤ 2 ^ 23 ∧ -(2 ^ 23) ≤ j ∧ j ≤ 2 ^ 23) : rangeFT [.int i, .int j] = .ok (upto i (j - i).toNat) := if_pos h
@[simp] theorem iSeq_app (f : En → R D) (ρ : En) : iSeq f ρ = (f ρ).bind seqItems := rfl
@[simp] theorem seqItems_lst (o : Bool) (xs : List D) : seqItems (.lst o xs) = .ok (frzL xs) := rfl
@[simp] theorem seqItems_tup (xs : List D) : seqItems (.tup xs) = .ok (frzL xs) := rfl
@[simp] theorem frzAt_nil (ρ : En) : frzAt [] ρ = ρ := rfl
@[simp] theorem frzAt_cons (i : Nat) (S : List Nat) (ρ : En) : frzAt (i :: S) ρ = frzAt S (frz1 i ρ) := rfl
def frzPut (i : Nat) (ρ : En) : Option (Option D) → En
  | some (some d) => ρ.set i (some d.frz)
  | _ => ρ
@[simp] theorem frz1_app (i : Nat) (ρ : En) : frz1 i ρ = frzPut i ρ ρ[i]? := by unfold frz1 frzPut; cases ρ[i]? with | none => rfl | some x => cases x <;> rfl
@[simp] theorem frzPut_some (i : Nat) (ρ : En) (d : D) : frzPut i ρ (some (some d)) = ρ.set i (some d.frz) := rfl
@[simp] theorem frzPut_none (i : Nat) (ρ : En) : frzPut i ρ (some none) = ρ := rfl

/-! ### changes -/
def mutRes (k : D → D → Out) : Option (D × D) → Out
  | some (d', r) => k d' r
  | none => .stuck
@[simp] theorem mutRes_some (k : D → D → Out) (d r : D) : mutRes k (some (d, r)) = k d r := rfl
def mutAt (T : String) (i : Nat) (S : List Nat) (g : D → List D → Option (D × D)) (fa : En → R (List D)) (k : En → D → Out) (ρ : En) : Option (Option D) → Out
  | some (some d0) => if tyD T d0 then lift (fa ρ) ρ fun ds => if cleanL ds || !S.contains i then mutRes (fun d' r => k ((if cleanL ds then ρ else frzAt S ρ).set i (some d')) r) (g d0 ds) else .stuck else .stuck
  | _ => .stuck
@[simp] theorem sMut_app (T : String) (i : Nat) (S : List Nat) (g : D → List D → Option (D × D)) (fa : En → R (List D)) (ρ : En) : sMut T i S g fa ρ = mutAt T i S g fa (fun ρ _ => .nx ρ) ρ ρ[i]? := by
  unfold sMut sMutK mutAt mutRes
  cases ρ[i]? with | none => rfl | some x => cases x <;> rfl
@[simp] theorem sStore_app (T : String) (i : Nat) (S : List Nat) (g : D → List D → Option (D × D)) (fe fk : En → R D) (ρ : En) : sStore T i S g fe fk ρ = sMut T i S g (eCons fe (eCons fk eNil)) ρ := rfl
@[simp] theorem mutAt_some (T : String) (i : Nat) (S : List Nat) (g : D → List D → Option (D × D)) (fa : En → R (List D)) (k : En → D → Out) (ρ : En) (d0 : D) :
    mutAt T i S g fa k ρ (some (some d0)) = if tyD T d0 then lift (fa ρ) ρ fun ds => if cleanL ds || !S.contains i then mutRes (fun d' r => k ((if cleanL ds then ρ else frzAt S ρ).set i (some d')) r) (g d0 ds) else .stuck else .stuck := rfl
@[simp] theorem tyD_lst (T : String) (xs : List D) : tyD T (.lst true xs) = (T == "list") := rfl
@[simp] theorem tyD_dct (T : String) (t : Bool) (xs : List (D × D)) : tyD T (.dct true t xs) = (T == "dict") := rfl
@[simp] theorem tyR_lst (T : String) (o : Bool) (xs : List D) : tyR T (.lst o xs) = (T == "list") := rfl
@[simp] theorem tyR_dct (T : String) (o t : Bool) (xs : List (D × D)) : tyR T (.dct o t xs) = (T == "dict") := rfl
@[simp] theorem tyR_str (T : String) (x : Str) : tyR T (.str x) = (T == "str") := rfl
theorem gAppend_lst {xs : List D} {y : D} (h : xs.length < 16777216) : gAppend (.lst true xs) [y] = some (.lst true (xs ++ [y]), .non) := if_pos h
@[simp] theorem gSet_app (i : Nat) (d : D) (ρ : En) : gSet i d ρ = if i < ρ.length then some (ρ.set i (some d)) else none := rfl
@[simp] theorem gsNil_app (ρ : En) : gsNil [] ρ = some ρ := rfl
@[simp] theorem gsCons_app (g : D → En → Option En) (h : List D → En → Option En) (d : D) (r : List D) (ρ : En) : gsCons g h (d :: r) ρ = (g d ρ).bind (h r) := rfl
@[simp] theorem gTupD_tup (n : Nat) (g : List D → En → Option En) (xs : List D) (ρ : En) : gTupD n g (.tup xs) ρ = if xs.length = n then g xs ρ else none := rfl
@[simp] theorem gTupD_pr (g : List D → En → Option En) (p : Int × Int) (ρ : En) : gTupD 2 g (pr p) ρ = g [.int p.1, .int p.2] ρ := rfl
@[simp] theorem gLstD_lst (n : Nat) (g : List D → En → Option En) (o : Bool) (xs : List D) (ρ : En) : gLstD n g (.lst o xs) ρ = if xs.length = n then g (frzL xs) ρ else none := rfl
def asgRes : Option En → Out
  | some ρ => .nx ρ
  | none => .stuck
@[simp] theorem asgRes_some (ρ : En) : asgRes (some ρ) = .nx ρ := rfl
@[simp] theorem sAsg_app (S : List Nat) (g : D → En → Option En) (f : En → R D) (ρ : En) : sAsg S g f ρ = lift (f ρ) ρ fun d => asgRes (g d (if d.clean then ρ else frzAt S ρ)) := by
  unfold sAsg asgRes
  rfl

/-! ### what an outcome meets -/
def OW (N B C : En → Prop) (Rt : D → Prop) (Ex : Addr → List (Str × D) → Prop) : Out → Prop
  | .nx ρ => N ρ
  | .bk ρ => B ρ
  | .ct ρ => C ρ
  | .ret d => Rt d
  | .exc _ c fs => Ex c fs
  | .stuck => False
section
variable {N B C : En → Prop} {Rt : D → Prop} {Ex : Addr → List (Str × D) → Prop}
@[simp] theorem OW_nx (ρ : En) : OW N B C Rt Ex (.nx ρ) = N ρ := rfl
@[simp] theorem OW_bk (ρ : En) : OW N B C Rt Ex (.bk ρ) = B ρ := rfl
@[simp] theorem OW_ct (ρ : En) : OW N B C Rt Ex (.ct ρ) = C ρ := rfl
@[simp] theorem OW_ret (d : D) : OW N B C Rt Ex (.ret d) = Rt d := rfl
@[simp] theorem OW_exc (ρ : En) (c : Addr) (fs : List (Str × D)) : OW N B C Rt Ex (.exc ρ c fs) = Ex c fs := rfl
theorem OW_seq {o : Out} {k : En → Out} (h : OW (fun ρ => OW N B C Rt Ex (k ρ)) B C Rt Ex o) : OW N B C Rt Ex (o.seq k) := by
  cases o <;> exact h
theorem OW_ite {c : Prop} [Decidable c] {a b : Out} (h1 : c → OW N B C Rt Ex a) (h2 : ¬ c → OW N B C Rt Ex b) : OW N B C Rt Ex (if c then a else b) := by
  split
  · exact h1 ‹_›
  · exact h2 ‹_›
theorem OW_loop0 {g : D → En → Option En} {fb : En → Out} (I : Nat → En → Prop) : ∀ {ds : List D} {ρ : En} {k0 : Nat}, I k0 ρ →
    (∀ k d ρ, ds[k]? = some d → I (k0 + k) ρ → ∃ ρ1, g d ρ = some ρ1 ∧ OW (I (k0 + k + 1)) N (I (k0 + k + 1)) Rt Ex (fb ρ1)) →
    (∀ ρ, I (k0 + ds.length) ρ → N ρ) → OW N B C Rt Ex (loopD g fb ds ρ)
  | [], ρ, k0, h0, _, hn => hn ρ h0
  | d :: r, ρ, k0, h0, h, hn => by
    obtain ⟨ρ1, e1, h2⟩ := h 0 d ρ rfl h0
    unfold loopD
    rw [e1]
    dsimp only
    have step : ∀ ρ2, I (k0 + 0 + 1) ρ2 → OW N B C Rt Ex (loopD g fb r ρ2) := fun ρ2 h2 => OW_loop0 I (ds := r) (ρ := ρ2) (k0 := k0 + 1) h2 (fun k d ρ hd hi => by
      have := h (k + 1) d ρ (by simpa using hd) (by rw [← Nat.add_assoc, Nat.add_right_comm]; exact hi)
      rw [← Nat.add_assoc, Nat.add_right_comm k0 k 1] at this
      exact this) (fun ρ hi => hn ρ (by rw [List.length_cons, ← Nat.add_assoc, Nat.add_right_comm]; exact hi))
    cases e : fb ρ1 with
    | nx ρ2 => rw [e] at h2; exact step ρ2 h2
    | ct ρ2 => rw [e] at h2; exact step ρ2 h2
    | bk ρ2 => rw [e] at h2; exact h2
    | ret d => rw [e] at h2; exact h2
    | exc ρ2 c fs => rw [e] at h2; exact h2
    | stuck => rw [e] at h2; exact h2.elim
theorem OW_loop {g : D → En → Option En} {fb : En → Out} (I : Nat → En → Prop) {ds : List D} {ρ : En} (h0 : I 0 ρ)
    (h : ∀ k d ρ, ds[k]? = some d → I k ρ → ∃ ρ1, g d ρ = some ρ1 ∧ OW (I (k + 1)) N (I (k + 1)) Rt Ex (fb ρ1)) (hn : ∀ ρ, I ds.length ρ → N ρ) : OW N B C Rt Ex (loopD g fb ds ρ) :=
  OW_loop0 I (k0 := 0) h0 (fun k d ρ hd hi => by rw [Nat.zero_add] at hi ⊢; exact h k d ρ hd hi) (fun ρ hi => hn ρ (by rw [Nat.zero_add] at hi; exact hi))
/-- a loop that is not broken off and out of which nothing comes -/
theorem OW_loopN {g : D → En → Option En} {fb : En → Out} (I : Nat → En → Prop) {ds : List D} {ρ : En} (h0 : I 0 ρ)
    (h : ∀ k d ρ, ds[k]? = some d → I k ρ → ∃ ρ1, g d ρ = some ρ1 ∧ OW (I (k + 1)) (fun _ => False) (I (k + 1)) (fun _ => False) (fun _ _ => False) (fb ρ1)) (hn : ∀ ρ, I ds.length ρ → N ρ) : OW N B C Rt Ex (loopD g fb ds ρ) :=
  OW_loop I h0 (fun k d ρ hd hi => by
    obtain ⟨ρ1, e, q⟩ := h k d ρ hd hi
    refine ⟨ρ1, e, ?_⟩
    revert q
    cases fb ρ1 with
    | nx ρ => exact id
    | ct ρ => exact id
    | bk ρ => exact False.elim
    | ret d => exact False.elim
    | exc ρ c fs => exact False.elim
    | stuck => exact False.elim) hn
/-- a loop that may give an answer -/
theorem OW_loopR {g : D → En → Option En} {fb : En → Out} (I : Nat → En → Prop) {ds : List D} {ρ : En} (h0 : I 0 ρ)
    (h : ∀ k d ρ, ds[k]? = some d → I k ρ → ∃ ρ1, g d ρ = some ρ1 ∧ OW (I (k + 1)) (fun _ => False) (I (k + 1)) Rt (fun _ _ => False) (fb ρ1)) (hn : ∀ ρ, I ds.length ρ → N ρ) : OW N B C Rt Ex (loopD g fb ds ρ) :=
  OW_loop I h0 (fun k d ρ hd hi => by
    obtain ⟨ρ1, e, q⟩ := h k d ρ hd hi
    refine ⟨ρ1, e, ?_⟩
    revert q
    cases fb ρ1 with
    | nx ρ => exact id
    | ct ρ => exact id
    | bk ρ => exact False.elim
    | ret d => exact id
    | exc ρ c fs => exact False.elim
    | stuck => exact False.elim) hn
end
def outR : Out → R D
  | .ret d => .ok d
  | .nx _ => .ok .non
  | .exc _ C fs => .exc C fs
  | _ => .stuck
@[simp] theorem outR_ret (d : D) : outR (.ret d) = .ok d := rfl
@[simp] theorem outR_nx (ρ : En) : outR (.nx ρ) = .ok .non := rfl
@[simp] theorem outR_exc (ρ : En) (C fs) : outR (.exc ρ C fs) = .exc C fs := rfl
theorem fn_app (n : Nat) (b : En → Out) (ds : List D) : fn n b ds = outR (b (ds.map some ++ List.replicate (n - ds.length) none)) := by unfold fn outR; cases b (ds.map some ++ List.replicate (n - ds.length) none) <;> rfl
theorem fn_ok' {n : Nat} {b : En → Out} {ds : List D} {Q : D → Prop} (h : OW (fun _ => Q .non) (fun _ => False) (fun _ => False) Q (fun _ _ => False) (b (ds.map some ++ List.replicate (n - ds.length) none))) : ∃ d, fn n b ds = .ok d ∧ Q d := by
  rw [fn_app]
  revert h
  cases b (ds.map some ++ List.replicate (n - ds.length) none) with
  | ret d => exact fun h => ⟨d, rfl, h⟩
  | nx ρ => exact fun h => ⟨.non, rfl, h⟩
  | bk ρ => exact False.elim
  | ct ρ => exact False.elim
  | exc ρ C fs => exact False.elim
  | stuck => exact False.elim

/-! ### comprehensions -/
theorem compD_map {α : Type} {g : D → En → Option En} {fc : En → R Bool} {fe : En → R D} {ρ : En} (enc : α → D) (p : α → Bool) (h : α → D) : ∀ (xs : List α), (∀ x ∈ xs, ∃ ρ1, g (enc x) ρ = some ρ1 ∧ fc ρ1 = .ok (p x) ∧ (p x = true → fe ρ1 = .ok (h x))) →
    compD g fc fe ρ (xs.map enc) = .ok ((xs.filter p).map h)
  | [], _ => rfl
  | x :: r, hh => by
    obtain ⟨ρ1, e1, e2, e3⟩ := hh x List.mem_cons_self
    have ih := compD_map enc p h r fun y m => hh y (List.mem_cons_of_mem _ m)
    rw [List.map_cons]
    unfold compD
    rw [e1]
    dsimp only
    rw [e2]
    cases ep : p x with
    | false => dsimp only; rw [ih, List.filter_cons_of_neg (by rw [ep]; exact Bool.false_ne_true)]
    | true =>
      dsimp only
      rw [e3 ep]
      dsimp only
      rw [ih, List.filter_cons_of_pos ep]
      rfl
def mkComp : R (List D) → R D
  | .ok ys => .ok (.lst true ys)
  | _ => .stuck
@[simp] theorem eLc_app (vs S : List Nat) (fi : En → R (List D)) (g : D → En → Option En) (fc : En → R Bool) (fe : En → R D) (ρ : En) : eLc vs S fi g fc fe ρ = (fi ρ).bind fun ds => mkComp (compD g fc fe (visE S vs 0 ρ) ds) := by
  unfold eLc mkComp
  rfl
@[simp] theorem mkComp_ok (ys : List D) : mkComp (.ok ys) = .ok (.lst true ys) := rfl

theorem compD_upto {lo : Int} {n : Nat} {g : D → En → Option En} {fc : En → R Bool} {fe : En → R D} {ρ : En} (p : Nat → Bool) (h : Nat → D) (hh : ∀ k < n, ∃ ρ1, g (.int (lo + k)) ρ = some ρ1 ∧ fc ρ1 = .ok (p k) ∧ (p k = true → fe ρ1 = .ok (h k))) :
    compD g fc fe ρ (upto lo n) = .ok (((List.range n).filter p).map h) := compD_map (fun k : Nat => D.int (lo + k)) p h _ fun k m => hh k (List.mem_range.mp m)
@[simp] theorem cYes_app (ρ : En) : cYes ρ = .ok true := rfl
theorem filter_true {α : Type} (xs : List α) : xs.filter (fun _ => true) = xs := by rw [List.filter_eq_self]; intro _ _; rfl
/-! rows of places -/
def nats (sh : List Nat) : List D := sh.map fun (k : Nat) => D.int (k : Int)
theorem nats_def (sh : List Nat) : sh.map (fun (k : Nat) => D.int (k : Int)) = nats sh := rfl
theorem nats_val (sh : List Nat) : valL (nats sh) = true := by
  rw [valL_all, List.all_eq_true]
  intro d m
  obtain ⟨k, _, e⟩ := List.mem_map.mp m
  rw [← e]; rfl
@[simp] theorem nats_frz (sh : List Nat) : frzL (nats sh) = nats sh := (valL_frz (nats_val sh)).1
@[simp] theorem nats_clean (sh : List Nat) : cleanL (nats sh) = true := (valL_frz (nats_val sh)).2
@[simp] theorem nats_length (sh : List Nat) : (nats sh).length = sh.length := List.length_map ..
theorem nats_at {sh : List Nat} {i : Nat} {k : Nat} (h : sh[i]? = some k) : atI (nats sh) (i : Int) = some (.int k) := by
  rw [atI_pos (by omega) (by rw [nats_length]; have := (List.getElem?_eq_some_iff.mp h).1; omega), Int.toNat_natCast]
  unfold nats
  rw [List.getElem?_map, h]
  rfl
/-! visE on literal frames -/
@[simp] theorem visE_nil (S vs : List Nat) (k : Nat) : visE S vs k [] = [] := rfl
@[simp] theorem visE_cons (S vs : List Nat) (k : Nat) (d : Option D) (r : En) : visE S vs k (d :: r) = (if S.contains k && !vs.contains k then d.map D.frz else none) :: visE S vs (k + 1) r := rfl
/-! slices -/
def cutL {α : Type} (xs : List α) (lo hi : Option Int) : List α := (xs.drop (HT.sIx xs.length 0 lo)).take (HT.sIx xs.length xs.length hi - HT.sIx xs.length 0 lo)
theorem cut_map {α : Type} (e : α → D) (xs : List α) (lo hi : Option Int) : cutD (xs.map e) lo hi = (cutL xs lo hi).map e := by
  unfold cutD cutL
  rw [List.length_map, List.map_take, List.map_drop]
theorem gSl_prs_lst (o : Bool) (ps : List (Int × Int)) (lo hi : Option Int) : gSl (.lst o (ps.map pr)) lo hi = some (.lst true ((cutL ps lo hi).map pr)) := by
  unfold gSl
  rw [← cut_map]
  exact if_pos (prs_val ps)
theorem gSl_prs_tup (ps : List (Int × Int)) (lo hi : Option Int) : gSl (.tup (ps.map pr)) lo hi = some (.tup ((cutL ps lo hi).map pr)) := by
  unfold gSl
  rw [← cut_map]
  exact if_pos (prs_val ps)
theorem sIx_pos {n d : Nat} {i : Int} (h : 0 ≤ i) : HT.sIx n d (some i) = min i.toNat n := by
  exact if_neg (by omega)
theorem cutL_len {α : Type} (xs : List α) {lo hi : Int} (h0 : 0 ≤ lo) (h1 : lo ≤ hi) (h2 : hi ≤ xs.length) : (cutL xs (some lo) (some hi)).length = (hi - lo).toNat := by
  unfold cutL
  rw [sIx_pos h0, sIx_pos (by omega), List.length_take, List.length_drop]
  omega
/-! stores -/
theorem store_pr {ps : List (Int × Int)} {k : Int} (h : 0 ≤ k ∧ k < ps.length) (v : Int × Int) : gStoreL (.lst true (ps.map pr)) [pr v, .int k] = some (.lst true ((ps.set k.toNat v).map pr), .non) := by
  show (ixN (ps.map pr).length k).map _ = _
  rw [List.length_map]
  unfold ixN
  rw [if_pos h.1, if_pos h.2, List.map_set]
  rfl
theorem atI_pr {ps : List (Int × Int)} {i : Int} (h : 0 ≤ i ∧ i < ps.length) : ∃ p, atI (ps.map pr) i = some (pr p) ∧ p ∈ ps := by
  obtain ⟨p, h1, h2⟩ := atI_some h
  exact ⟨p, atI_prs h1, h2⟩
/-! positions -/
theorem posD_pr (p : Int × Int) : ∀ ps : List (Int × Int), posD (pr p) (ps.map pr) = if p ∈ ps then some (ps.idxOf p) else none
  | [] => rfl
  | q :: r => by
    rw [List.map_cons]
    unfold posD
    rw [eqD_pr, posD_pr p r]
    by_cases h : q = p
    · subst h
      simp
    · have h' : ¬ p = q := fun z => h z.symm
      have hq : (q == p) = false := by simpa using h
      by_cases hm : p ∈ r
      · simp [h, h', hm, List.idxOf_cons, hq]
      · simp [h, h', hm]
theorem gIndex_pr {o : Bool} {p : Int × Int} {ps : List (Int × Int)} (h : p ∈ ps) : gIndex (.lst o (ps.map pr)) [pr p] = some (.int (ps.idxOf p)) := by
  have h2 : okN 9 (.lst true (ps.map pr)) = true := by simp only [okN]; exact okNL_prs 7 ps
  unfold gIndex
  dsimp only
  rw [okN_pr, h2, posD_pr, if_pos h]
  rfl
theorem srtI_two (a b : Int) : srtI [a, b] = if b < a then [b, a] else [a, b] := by
  refine (srtI_eq ?_ ?_).symm
  · split
    · exact List.Perm.swap a b []
    · exact List.Perm.refl _
  · split
    · simp; omega
    · simp; omega
@[simp] theorem gSortedI_two (o : Bool) (a b : Int) : gSortedI [.lst o [.int a, .int b]] = some (.lst true (if b < a then [.int b, .int a] else [.int a, .int b])) := by
  have e : gSortedI [.lst o [.int a, .int b]] = some (.lst true ((srtI [a, b]).map D.int)) := rfl
  rw [e, srtI_two]
  split <;> rfl

/-! comprehensions over short rows -/
def compB : R Bool → R D → R (List D) → R (List D)
  | .ok true, .ok y, rest => rest.bind fun ys => .ok (y :: ys)
  | .ok true, _, _ => .stuck
  | .ok false, _, rest => rest
  | _, _, _ => .stuck
def compG : Option En → (En → R Bool) → (En → R D) → R (List D) → R (List D)
  | none, _, _, _ => .stuck
  | some ρ1, fc, fe, rest => compB (fc ρ1) (fe ρ1) rest
theorem compD_nil (g : D → En → Option En) (fc : En → R Bool) (fe : En → R D) (ρ : En) : compD g fc fe ρ [] = .ok [] := rfl
theorem compD_cons (g : D → En → Option En) (fc : En → R Bool) (fe : En → R D) (ρ : En) (d : D) (r : List D) : compD g fc fe ρ (d :: r) = compG (g d ρ) fc fe (compD g fc fe ρ r) := by
  unfold compG
  conv => lhs; unfold compD
  cases g d ρ with
  | none => rfl
  | some ρ1 =>
    dsimp only
    unfold compB
    cases fc ρ1 with
    | ok b => cases b with | true => cases fe ρ1 <;> rfl | false => rfl
    | exc _ _ => rfl
    | stuck => rfl
@[simp] theorem compG_some (ρ1 : En) (fc : En → R Bool) (fe : En → R D) (rest : R (List D)) : compG (some ρ1) fc fe rest = compB (fc ρ1) (fe ρ1) rest := rfl
@[simp] theorem compB_yes (y : D) (rest : R (List D)) : compB (.ok true) (.ok y) rest = rest.bind fun ys => .ok (y :: ys) := rfl
@[simp] theorem compB_no (y : R D) (rest : R (List D)) : compB (.ok false) y rest = rest := rfl
@[simp] theorem atI_7 {α : Type} (a b c d e f g h : α) (r : List α) : atI (a :: b :: c :: d :: e :: f :: g :: h :: r) 7 = some h := by
  rw [atI_pos (by decide) (by simp only [List.length_cons]; omega)]; rfl
theorem OW_mid {N B C : En → Prop} {Rt : D → Prop} {Ex : Addr → List (Str × D) → Prop} {o : Out} {k : En → Out} (M : En → Prop) (h1 : OW M B C Rt Ex o) (h2 : ∀ ρ, M ρ → OW N B C Rt Ex (k ρ)) : OW N B C Rt Ex (o.seq k) := by
  refine OW_seq ?_
  cases o with
  | nx ρ => exact h2 ρ h1
  | ret d => exact h1
  | bk ρ => exact h1
  | ct ρ => exact h1
  | exc ρ c fs => exact h1
  | stuck => exact h1
end TL
namespace GL
open PySem PySem.Spec PyProof.Rows L2 TL
def b__law_draws : En → Out :=
    (sSeq (sSet 2 [] (eN mkLst eNil))
    (sSeq (sSet 3 ([0] ++ []) (eN gInt (eCons (eVar 0) eNil)))
    (sSeq (sSet 4 ([3] ++ ([] ++ [])) (e2 (gGe) (eVar 3) (e2 gPow (eC (.int 10)) (eC (.int 18)))))
    (sSeq (sFor (([1] ++ []) ++ []) (iR1 (eCons (eN gLen (eCons (eVar 1) eNil)) eNil)) (gSet 5)
    (sSeq (sSet 6 ([1] ++ [5]) (e2 gIx (eVar 1) (eVar 5)))
    (sIf (tAndC (tV (eVar 4)) (tV (e2 (gGt) (eVar 3) (eC (.int 0)))))
    (sSeq (sMut "list" 2 ((([3] ++ []) ++ [6]) ++ []) gAppend (eCons (e2 gMod (eN gInt (eCons (eVar 3) eNil)) (eVar 6)) eNil))
    (sSet 3 ([3] ++ [6]) (e2 gDiv (eVar 3) (eVar 6))))
    (sSeq (sSet 7 (((([0] ++ ([] ++ [5])) ++ []) ++ []) ++ []) (e2 gMod (eN gInt (eCons (e2 gAdd (e2 gAdd (eVar 0) (e2 gMul (eC (.int 7919)) (eVar 5))) (eC (.int 13))) eNil)) (eC (.int 2147483647))))
    (sSeq (sSet 7 ((([7] ++ ([7] ++ [])) ++ []) ++ []) (e2 gMod (eN gInt (eCons (e2 gMul (eVar 7) (e2 gAdd (eVar 7) (eC (.int 48271)))) eNil)) (eC (.int 2147483629))))
    (sSeq (sSet 7 (((([7] ++ ([7] ++ [])) ++ ([] ++ [5])) ++ []) ++ []) (e2 gMod (eN gInt (eCons (e2 gAdd (e2 gMul (eVar 7) (e2 gAdd (eVar 7) (eC (.int 69621)))) (e2 gMul (eC (.int 31)) (eVar 5))) eNil)) (eC (.int 2147483647))))
    (sMut "list" 2 (((([7] ++ []) ++ []) ++ [6]) ++ []) gAppend (eCons (e2 gMod (eN gInt (eCons (e2 gDiv (eVar 7) (eC (.int 9))) eNil)) (eVar 6)) eNil))))))))
    (sRetV 2)))))
def F__law_draws : List D → R D := fn 8 b__law_draws
def b__law_board : En → Out :=
    (sSeq (sSet 2 ([0] ++ (([] ++ ([1] ++ ([1] ++ (([1] ++ []) ++ (([1] ++ []) ++ []))))) ++ [])) (eCall F__law_draws (eCons (eVar 0) (eCons (eN mkLst (eCons (eC (.int 8)) (eCons (eVar 1) (eCons (eVar 1) (eCons (e2 gAdd (eVar 1) (eC (.int 1))) (eCons (e2 gAdd (eVar 1) (eC (.int 1))) eNil)))))) eNil))))
    (sSeq (sIf (tV (e2 (gEq) (e2 gIx (eVar 2) (eC (.int 0))) (eC (.int 0))))
    (sRet (eN mkTup (eCons (e2 gIx (eVar 2) (eC (.int 3))) (eCons (e2 gIx (eVar 2) (eC (.int 4))) eNil))))
    sNx)
    (sRet (eN mkTup (eCons (e2 gAdd (e2 gIx (eVar 2) (eC (.int 1))) (eC (.int 1))) (eCons (e2 gAdd (e2 gIx (eVar 2) (eC (.int 2))) (eC (.int 1))) eNil))))))
def F__law_board : List D → R D := fn 3 b__law_board
def b__law_moved : En → Out :=
    (sSeq (sIf (tV (e2 (gEq) (eVar 1) (eC (.str "E"))))
    (sRet (eN mkTup (eCons (e2 gAdd (e2 gIx (eVar 0) (eC (.int 0))) (eC (.int 1))) (eCons (e2 gIx (eVar 0) (eC (.int 1))) eNil))))
    sNx)
    (sSeq (sIf (tV (e2 (gEq) (eVar 1) (eC (.str "N"))))
    (sRet (eN mkTup (eCons (e2 gIx (eVar 0) (eC (.int 0))) (eCons (e2 gAdd (e2 gIx (eVar 0) (eC (.int 1))) (eC (.int 1))) eNil))))
    sNx)
    (sRet (eN mkTup (eCons (e2 gIx (eVar 0) (eC (.int 0))) (eCons (e2 gSub (e2 gIx (eVar 0) (eC (.int 1))) (eC (.int 1))) eNil))))))
def F__law_moved : List D → R D := fn 2 b__law_moved
def b__law_on_board : En → Out :=
    (sRet (eAnd (eCh (gLe) (gLe) (eC (.int 0)) (e2 gIx (eVar 1) (eC (.int 0))) (e2 gIx (eVar 0) (eC (.int 0)))) (eCh (gLe) (gLe) (eC (.int 0)) (e2 gIx (eVar 1) (eC (.int 1))) (e2 gIx (eVar 0) (eC (.int 1))))))
def F__law_on_board : List D → R D := fn 2 b__law_on_board
def b__law_path : En → Out :=
    (sSeq (sSet 2 ([1] ++ ((((([0] ++ []) ++ []) ++ ((([0] ++ []) ++ []) ++ ([] ++ ([] ++ [])))) ++ (([] ++ []) ++ [])) ++ [])) (eCall F__law_draws (eCons (eVar 1) (eCons (e2 gAdd (eN mkLst (eCons (e2 gAdd (e2 gIx (eVar 0) (eC (.int 0))) (eC (.int 1))) (eCons (e2 gAdd (e2 gIx (eVar 0) (eC (.int 1))) (eC (.int 1))) (eCons (eC (.int 2)) (eCons (eC (.int 17)) eNil))))) (e2 gMul (eN mkLst (eCons (eC (.int 2)) eNil)) (eC (.int 16)))) eNil))))
    (sSeq (sSet 3 ((([2] ++ []) ++ (([2] ++ []) ++ [])) ++ []) (eN mkLst (eCons (eN mkTup (eCons (e2 gIx (eVar 2) (eC (.int 0))) (eCons (e2 gIx (eVar 2) (eC (.int 1))) eNil))) eNil)))
    (sSeq (sFor (([2] ++ []) ++ []) (iR1 (eCons (e2 gIx (eVar 2) (eC (.int 3))) eNil)) (gSet 4)
    (sSeq (sSet 5 [] (eC (.str "E")))
    (sSeq (sIf (tV (e2 (gEq) (e2 gIx (eVar 2) (e2 gAdd (eC (.int 4)) (eVar 4))) (eC (.int 1))))
    (sSet 5 (([] ++ ([] ++ [])) ++ ([2] ++ [])) (e2 gIx (eN mkLst (eCons (eC (.str "N")) (eCons (eC (.str "S")) eNil))) (e2 gIx (eVar 2) (eC (.int 2)))))
    sNx)
    (sSeq (sSet 6 (([3] ++ []) ++ ([5] ++ [])) (eCall F__law_moved (eCons (e2 gIx (eVar 3) (e1 gNeg (eC (.int 1)))) (eCons (eVar 5) eNil))))
    (sIf (tV (eCall F__law_on_board (eCons (eVar 0) (eCons (eVar 6) eNil))))
    (sMut "list" 3 ([6] ++ []) gAppend (eCons (eVar 6) eNil))
    sNx)))))
    (sSeq (sIf (tV (e2 (gLt) (e2 gIx (eVar 3) (e1 gNeg (eC (.int 1)))) (e2 gIx (eVar 3) (eC (.int 0)))))
    (sSet 3 [3] (e1 gRevL (eVar 3)))
    sNx)
    (sRet (eN gTupOf (eCons (eVar 3) eNil)))))))
def F__law_path : List D → R D := fn 7 b__law_path
def b__law_through : En → Out :=
    (sSeq (sSet 3 ([2] ++ ((([] ++ ([] ++ ([] ++ ([] ++ [])))) ++ (([] ++ []) ++ [])) ++ [])) (eCall F__law_draws (eCons (eVar 2) (eCons (e2 gAdd (eN mkLst (eCons (eC (.int 17)) (eCons (eC (.int 9)) (eCons (eC (.int 9)) (eCons (eC (.int 3)) eNil))))) (e2 gMul (eN mkLst (eCons (eC (.int 2)) eNil)) (eC (.int 16)))) eNil))))
    (sSeq (sSet 4 [] (eC (.int 1)))
    (sSeq (sIf (tV (e2 (gLt) (e2 gIx (e2 gIx (eVar 1) (e1 gNeg (eC (.int 1)))) (eC (.int 1))) (e2 gIx (e2 gIx (eVar 1) (eC (.int 0))) (eC (.int 1)))))
    (sSet 4 [] (e1 gNeg (eC (.int 1))))
    sNx)
    (sSeq (sIf (tV (e2 (gEq) (e2 gIx (eVar 3) (eC (.int 3))) (eC (.int 0))))
    (sSet 4 [4] (e1 gNeg (eVar 4)))
    sNx)
    (sSeq (sSet 5 (([1] ++ ((([3] ++ []) ++ []) ++ ([1] ++ []))) ++ []) (eN mkLst (eCons (e2 gIx (eVar 1) (e2 gMod (eN gInt (eCons (e2 gIx (eVar 3) (eC (.int 0))) eNil)) (eN gLen (eCons (eVar 1) eNil)))) eNil)))
    (sSeq (sFor (([3] ++ []) ++ []) (iR1 (eCons (e2 gIx (eVar 3) (eC (.int 1))) eNil)) (gSet 6)
    (sSeq (sSet 7 ((((([5] ++ []) ++ []) ++ []) ++ ([3] ++ ([] ++ [6]))) ++ (((([5] ++ []) ++ []) ++ ([4] ++ ([3] ++ ([] ++ [6])))) ++ [])) (eN mkTup (eCons (e2 gAdd (e2 gSub (e2 gIx (e2 gIx (eVar 5) (eC (.int 0))) (eC (.int 0))) (eC (.int 1))) (e2 gIx (eVar 3) (e2 gAdd (eC (.int 4)) (eVar 6)))) (eCons (e2 gSub (e2 gIx (e2 gIx (eVar 5) (eC (.int 0))) (eC (.int 1))) (e2 gMul (eVar 4) (e2 gIx (eVar 3) (e2 gAdd (eC (.int 4)) (eVar 6))))) eNil))))
    (sIf (tV (eCall F__law_on_board (eCons (eVar 0) (eCons (eVar 7) eNil))))
    (sSet 5 (([7] ++ []) ++ [5]) (e2 gAdd (eN mkLst (eCons (eVar 7) eNil)) (eVar 5)))
    sNx)))
    (sSeq (sFor (([3] ++ []) ++ []) (iR1 (eCons (e2 gIx (eVar 3) (eC (.int 2))) eNil)) (gSet 6)
    (sSeq (sSet 7 ((((([5] ++ []) ++ []) ++ []) ++ ([3] ++ ([] ++ [6]))) ++ (((([5] ++ []) ++ []) ++ ([4] ++ ([3] ++ ([] ++ [6])))) ++ [])) (eN mkTup (eCons (e2 gSub (e2 gAdd (e2 gIx (e2 gIx (eVar 5) (e1 gNeg (eC (.int 1)))) (eC (.int 0))) (eC (.int 1))) (e2 gIx (eVar 3) (e2 gAdd (eC (.int 12)) (eVar 6)))) (eCons (e2 gAdd (e2 gIx (e2 gIx (eVar 5) (e1 gNeg (eC (.int 1)))) (eC (.int 1))) (e2 gMul (eVar 4) (e2 gIx (eVar 3) (e2 gAdd (eC (.int 12)) (eVar 6))))) eNil))))
    (sIf (tV (eCall F__law_on_board (eCons (eVar 0) (eCons (eVar 7) eNil))))
    (sMut "list" 5 ([7] ++ []) gAppend (eCons (eVar 7) eNil))
    sNx)))
    (sSeq (sIf (tV (e2 (gLt) (e2 gIx (eVar 5) (e1 gNeg (eC (.int 1)))) (e2 gIx (eVar 5) (eC (.int 0)))))
    (sSet 5 [5] (e1 gRevL (eVar 5)))
    sNx)
    (sRet (eN gTupOf (eCons (eVar 5) eNil)))))))))))
def F__law_through : List D → R D := fn 8 b__law_through
def b__law_turned : En → Out :=
    (sSeq (sIf (tV (e2 (gLt) (eN gLen (eCons (eVar 0) eNil)) (eC (.int 3))))
    (sRetV 0)
    sNx)
    (sSeq (sSet 2 ([] ++ (([1] ++ []) ++ (([0] ++ []) ++ []))) (e2 gAdd (eC (.int 1)) (e2 gMod (eN gInt (eCons (eVar 1) eNil)) (e2 gSub (eN gLen (eCons (eVar 0) eNil)) (eC (.int 2))))))
    (sSeq (sSet 3 ([0] ++ []) (eN gListOf (eCons (eVar 0) eNil)))
    (sSeq (sStore "list" 3 (((((([0] ++ ([2] ++ [])) ++ []) ++ (([0] ++ ([2] ++ [])) ++ [])) ++ (([0] ++ [2]) ++ [])) ++ ((((([0] ++ ([2] ++ [])) ++ []) ++ (([0] ++ ([2] ++ [])) ++ [])) ++ (([0] ++ [2]) ++ [])) ++ [])) ++ ([2] ++ [])) gStoreL (eN mkTup (eCons (e2 gSub (e2 gAdd (e2 gIx (e2 gIx (eVar 0) (e2 gSub (eVar 2) (eC (.int 1)))) (eC (.int 0))) (e2 gIx (e2 gIx (eVar 0) (e2 gAdd (eVar 2) (eC (.int 1)))) (eC (.int 0)))) (e2 gIx (e2 gIx (eVar 0) (eVar 2)) (eC (.int 0)))) (eCons (e2 gSub (e2 gAdd (e2 gIx (e2 gIx (eVar 0) (e2 gSub (eVar 2) (eC (.int 1)))) (eC (.int 1))) (e2 gIx (e2 gIx (eVar 0) (e2 gAdd (eVar 2) (eC (.int 1)))) (eC (.int 1)))) (e2 gIx (e2 gIx (eVar 0) (eVar 2)) (eC (.int 1)))) eNil))) (eVar 2))
    (sRet (eN gTupOf (eCons (eVar 3) eNil)))))))
def F__law_turned : List D → R D := fn 4 b__law_turned
def b__law_between : En → Out :=
    (sSeq (sSet 2 ([1] ++ ((([] ++ []) ++ []) ++ [])) (eCall F__law_draws (eCons (eVar 1) (eCons (e2 gMul (eN mkLst (eCons (eC (.int 2)) eNil)) (eC (.int 16))) eNil))))
    (sSeq (sSet 3 ([0] ++ []) (e2 gIx (eVar 0) (e1 gNeg (eC (.int 1)))))
    (sSeq (sSet 4 (([0] ++ []) ++ []) (eN mkLst (eCons (e2 gIx (eVar 0) (eC (.int 0))) eNil)))
    (sSeq (sFor ((([0] ++ []) ++ []) ++ []) (iR1 (eCons (e2 gSub (eN gLen (eCons (eVar 0) eNil)) (eC (.int 1))) eNil)) (gSet 5)
    (sSeq (sSet 6 ([4] ++ []) (e2 gIx (eVar 4) (e1 gNeg (eC (.int 1)))))
    (sIf (tAndC (tV (e2 (gLt) (e2 gIx (eVar 6) (eC (.int 0))) (e2 gIx (eVar 3) (eC (.int 0))))) (tOrC (tV (e2 (gEq) (e2 gIx (eVar 2) (eVar 5)) (eC (.int 0)))) (tV (e2 (gEq) (e2 gIx (eVar 6) (eC (.int 1))) (e2 gIx (eVar 3) (eC (.int 1)))))))
    (sMut "list" 4 (((([6] ++ []) ++ []) ++ (([6] ++ []) ++ [])) ++ []) gAppend (eCons (eN mkTup (eCons (e2 gAdd (e2 gIx (eVar 6) (eC (.int 0))) (eC (.int 1))) (eCons (e2 gIx (eVar 6) (eC (.int 1))) eNil))) eNil))
    (sIf (tV (e2 (gLt) (e2 gIx (eVar 6) (eC (.int 1))) (e2 gIx (eVar 3) (eC (.int 1)))))
    (sMut "list" 4 ((([6] ++ []) ++ ((([6] ++ []) ++ []) ++ [])) ++ []) gAppend (eCons (eN mkTup (eCons (e2 gIx (eVar 6) (eC (.int 0))) (eCons (e2 gAdd (e2 gIx (eVar 6) (eC (.int 1))) (eC (.int 1))) eNil))) eNil))
    (sMut "list" 4 ((([6] ++ []) ++ ((([6] ++ []) ++ []) ++ [])) ++ []) gAppend (eCons (eN mkTup (eCons (e2 gIx (eVar 6) (eC (.int 0))) (eCons (e2 gSub (e2 gIx (eVar 6) (eC (.int 1))) (eC (.int 1))) eNil))) eNil))))))
    (sRet (eN gTupOf (eCons (eVar 4) eNil)))))))
def F__law_between : List D → R D := fn 7 b__law_between
def b__law_part : En → Out :=
    (sSeq (sSet 3 ([0] ++ []) (eSl (eN gListOf (eCons (eVar 0) eNil)) (oSome (eN gMin2 (eCons (eVar 1) (eCons (eVar 2) eNil)))) (oSome (e2 gAdd (eN gMax2 (eCons (eVar 1) (eCons (eVar 2) eNil))) (eC (.int 1))))))
    (sSeq (sIf (tV (e2 (gLt) (e2 gIx (eVar 3) (e1 gNeg (eC (.int 1)))) (e2 gIx (eVar 3) (eC (.int 0)))))
    (sSet 3 [3] (e1 gRevL (eVar 3)))
    sNx)
    (sRet (eN gTupOf (eCons (eVar 3) eNil)))))
def F__law_part : List D → R D := fn 4 b__law_part
def b__law_other : En → Out :=
    (sSeq (sSet 4 ([2] ++ (([] ++ ([] ++ ([] ++ []))) ++ [])) (eCall F__law_draws (eCons (eVar 2) (eCons (eN mkLst (eCons (eC (.int 8)) (eCons (eC (.int 17)) (eCons (eC (.int 17)) eNil)))) eNil))))
    (sSeq (sIf (tV (e2 (gLe) (e2 gIx (eVar 4) (eC (.int 0))) (eC (.int 1))))
    (sRet (eCall F__law_path (eCons (eVar 0) (eCons (eVar 3) eNil))))
    sNx)
    (sSeq (sIf (tV (e2 (gEq) (e2 gIx (eVar 4) (eC (.int 0))) (eC (.int 2))))
    (sRet (eCall F__law_turned (eCons (eVar 1) (eCons (e2 gIx (eVar 4) (eC (.int 1))) eNil))))
    sNx)
    (sSeq (sIf (tV (e2 (gEq) (e2 gIx (eVar 4) (eC (.int 0))) (eC (.int 3))))
    (sRet (eCall F__law_turned (eCons (eCall F__law_turned (eCons (eVar 1) (eCons (e2 gIx (eVar 4) (eC (.int 1))) eNil))) (eCons (e2 gIx (eVar 4) (eC (.int 2))) eNil))))
    sNx)
    (sSeq (sIf (tV (e2 (gEq) (e2 gIx (eVar 4) (eC (.int 0))) (eC (.int 4))))
    (sRet (eCall F__law_between (eCons (eVar 1) (eCons (eVar 3) eNil))))
    sNx)
    (sSeq (sIf (tV (e2 (gEq) (e2 gIx (eVar 4) (eC (.int 0))) (eC (.int 5))))
    (sRet (eCall F__law_part (eCons (eVar 1) (eCons (e2 gMod (eN gInt (eCons (e2 gIx (eVar 4) (eC (.int 1))) eNil)) (eN gLen (eCons (eVar 1) eNil))) (eCons (e2 gMod (eN gInt (eCons (e2 gIx (eVar 4) (eC (.int 2))) eNil)) (eN gLen (eCons (eVar 1) eNil))) eNil)))))
    sNx)
    (sRet (eCall F__law_through (eCons (eVar 0) (eCons (eVar 1) (eCons (eVar 3) eNil)))))))))))
def F__law_other : List D → R D := fn 5 b__law_other
def b__law_first_clash : En → Out :=
    (sSeq (sSet 2 [0, 1, 3] (eLc [3] [0, 1, 3] (iR1 (eCons (eN gLen (eCons (eVar 0) eNil)) eNil)) (gSet 3) (tV (e2 (gInS false) (e2 gIx (eVar 0) (eVar 3)) (eVar 1))) (eVar 3)))
    (sSeq (sFor ([] ++ (([2] ++ []) ++ [])) (iR2 (eCons (eC (.int 1)) (eCons (eN gLen (eCons (eVar 2) eNil)) eNil))) (gSet 3)
    (sIf (tV (e2 (gNe) (e2 gIx (eVar 2) (eVar 3)) (e2 gAdd (e2 gIx (eVar 2) (e2 gSub (eVar 3) (eC (.int 1)))) (eC (.int 1)))))
    (sRet (eN mkTup (eCons (e2 gIx (eVar 0) (e2 gIx (eVar 2) (e2 gSub (eVar 3) (eC (.int 1))))) (eCons (e2 gIx (eVar 0) (e2 gAdd (e2 gIx (eVar 2) (e2 gSub (eVar 3) (eC (.int 1)))) (eC (.int 1)))) (eCons (e2 gIx (eVar 0) (e2 gIx (eVar 2) (eVar 3))) eNil)))))
    sNx))
    (sRet (eC .non))))
def F__law_first_clash : List D → R D := fn 4 b__law_first_clash
def b__law_first : En → Out :=
    (sSeq (sSet 3 ([0] ++ ([1] ++ [])) (eCall F__law_first_clash (eCons (eVar 0) (eCons (eVar 1) eNil))))
    (sSeq (sIf (tV (e2 (gIsN) (eVar 3) (eC .non)))
    (sRet (eN mkTup (eCons (e2 gIx (eVar 0) (eC (.int 0))) (eCons (e2 gIx (eVar 0) (e2 gMod (eN gInt (eCons (eVar 2) eNil)) (eN gLen (eCons (eVar 0) eNil)))) (eCons (e2 gIx (eVar 0) (e1 gNeg (eC (.int 1)))) eNil)))))
    sNx)
    (sRetV 3)))
def F__law_first : List D → R D := fn 4 b__law_first
def b__law_replaced : En → Out :=
    (sSeq (sSet 3 ([0] ++ []) (eN gListOf (eCons (eVar 0) eNil)))
    (sSeq (sStore "list" 3 ([2] ++ ([1] ++ [])) gStoreL (eVar 2) (eVar 1))
    (sRet (eN gTupOf (eCons (eVar 3) eNil)))))
def F__law_replaced : List D → R D := fn 4 b__law_replaced
def b__law_certificates : En → Out :=
    (sSeq (sSet 5 ([3] ++ (([] ++ ([] ++ ([] ++ ([] ++ ([] ++ ([] ++ ([] ++ []))))))) ++ [])) (eCall F__law_draws (eCons (eVar 3) (eCons (eN mkLst (eCons (eC (.int 17)) (eCons (eC (.int 17)) (eCons (eC (.int 17)) (eCons (eC (.int 3)) (eCons (eC (.int 3)) (eCons (eC (.int 8)) (eCons (eC (.int 10)) eNil)))))))) eNil))))
    (sSeq (sSet 6 (([] ++ ([] ++ ([] ++ ([] ++ ([] ++ ([] ++ ([] ++ ([] ++ ([] ++ ([] ++ [])))))))))) ++ ([5] ++ [])) (e2 gIx (eN mkLst (eCons (eC (.int 9)) (eCons (eC (.int 10)) (eCons (eC (.int 16)) (eCons (eC (.int 17)) (eCons (eC (.int 32)) (eCons (eC (.int 64)) (eCons (eC (.int 100)) (eCons (eC (.int 128)) (eCons (eC (.int 256)) (eCons (eC (.int 1000)) eNil))))))))))) (e2 gIx (eVar 5) (eC (.int 6)))))
    (sSeq (sSet 7 ([4] ++ ((((([0] ++ []) ++ []) ++ ((([0] ++ []) ++ []) ++ [])) ++ []) ++ [])) (eCall F__law_draws (eCons (eVar 4) (eCons (e2 gMul (eN mkLst (eCons (e2 gAdd (e2 gIx (eVar 0) (eC (.int 0))) (eC (.int 7))) (eCons (e2 gAdd (e2 gIx (eVar 0) (eC (.int 1))) (eC (.int 7))) eNil))) (eC (.int 4))) eNil))))
    (sSeq (sSet 8 [7, 15] (eLc [15] [7, 15] (iR1 (eCons (eC (.int 4)) eNil)) (gSet 15) cYes (eN mkTup (eCons (e2 gSub (e2 gIx (eVar 7) (e2 gMul (eC (.int 2)) (eVar 15))) (eC (.int 3))) (eCons (e2 gSub (e2 gIx (eVar 7) (e2 gAdd (e2 gMul (eC (.int 2)) (eVar 15)) (eC (.int 1)))) (eC (.int 3))) eNil)))))
    (sSeq (sIf (tV (e2 (gEq) (e2 gIx (eVar 5) (eC (.int 5))) (eC (.int 0))))
    (sStore "list" 8 ((((([8] ++ ([5] ++ [])) ++ []) ++ ((([] ++ []) ++ (([] ++ []) ++ [])) ++ ((([5] ++ []) ++ []) ++ []))) ++ ((([8] ++ ([5] ++ [])) ++ []) ++ [])) ++ (([5] ++ []) ++ [])) gStoreL (eN mkTup (eCons (e2 gAdd (e2 gIx (e2 gIx (eVar 8) (e2 gIx (eVar 5) (eC (.int 3)))) (eC (.int 0))) (e2 gIx (eN mkLst (eCons (e1 gNeg (e2 gPow (eC (.int 10)) (eC (.int 9)))) (eCons (e2 gPow (eC (.int 10)) (eC (.int 9))) eNil))) (e2 gMod (eN gInt (eCons (e2 gIx (eVar 5) (eC (.int 6))) eNil)) (eC (.int 2))))) (eCons (e2 gIx (e2 gIx (eVar 8) (e2 gIx (eVar 5) (eC (.int 3)))) (eC (.int 1))) eNil))) (e2 gIx (eVar 5) (eC (.int 3))))
    sNx)
    (sSeq (sIf (tV (e2 (gEq) (e2 gIx (eVar 5) (eC (.int 5))) (eC (.int 1))))
    (sStore "list" 8 (((([8] ++ ([5] ++ [])) ++ []) ++ (((([8] ++ ([5] ++ [])) ++ []) ++ ((([] ++ []) ++ (([] ++ []) ++ [])) ++ ((([5] ++ []) ++ []) ++ []))) ++ [])) ++ (([5] ++ []) ++ [])) gStoreL (eN mkTup (eCons (e2 gIx (e2 gIx (eVar 8) (e2 gIx (eVar 5) (eC (.int 3)))) (eC (.int 0))) (eCons (e2 gAdd (e2 gIx (e2 gIx (eVar 8) (e2 gIx (eVar 5) (eC (.int 3)))) (eC (.int 1))) (e2 gIx (eN mkLst (eCons (e1 gNeg (e2 gPow (eC (.int 10)) (eC (.int 9)))) (eCons (e2 gPow (eC (.int 10)) (eC (.int 9))) eNil))) (e2 gMod (eN gInt (eCons (e2 gIx (eVar 5) (eC (.int 6))) eNil)) (eC (.int 2))))) eNil))) (e2 gIx (eVar 5) (eC (.int 3))))
    sNx)
    (sSeq (sSet 9 ((([8] ++ []) ++ (([8] ++ []) ++ (([8] ++ []) ++ []))) ++ []) (eN mkLst (eCons (eN mkTup (eCons (e2 gIx (eVar 8) (eC (.int 0))) (eCons (e2 gIx (eVar 8) (eC (.int 1))) (eCons (e2 gIx (eVar 8) (eC (.int 2))) eNil)))) eNil)))
    (sSeq (sMut "list" 9 ((([1] ++ ((([5] ++ []) ++ []) ++ ([1] ++ []))) ++ (([1] ++ ((([5] ++ []) ++ []) ++ ([1] ++ []))) ++ (([1] ++ ((([5] ++ []) ++ []) ++ ([1] ++ []))) ++ []))) ++ []) gAppend (eCons (eN mkTup (eCons (e2 gIx (eVar 1) (e2 gMod (eN gInt (eCons (e2 gIx (eVar 5) (eC (.int 0))) eNil)) (eN gLen (eCons (eVar 1) eNil)))) (eCons (e2 gIx (eVar 1) (e2 gMod (eN gInt (eCons (e2 gIx (eVar 5) (eC (.int 1))) eNil)) (eN gLen (eCons (eVar 1) eNil)))) (eCons (e2 gIx (eVar 1) (e2 gMod (eN gInt (eCons (e2 gIx (eVar 5) (eC (.int 2))) eNil)) (eN gLen (eCons (eVar 1) eNil)))) eNil)))) eNil))
    (sSeq (sFor (([1] ++ ([2] ++ (([5] ++ []) ++ []))) ++ (([2] ++ ([1] ++ (([5] ++ []) ++ []))) ++ [])) (iSeq (eN mkLst (eCons (eCall F__law_first (eCons (eVar 1) (eCons (eVar 2) (eCons (e2 gIx (eVar 5) (eC (.int 0))) eNil)))) (eCons (eCall F__law_first (eCons (eVar 2) (eCons (eVar 1) (eCons (e2 gIx (eVar 5) (eC (.int 1))) eNil)))) eNil)))) (gSet 10)
    (sSeq (sMut "list" 9 ([10] ++ []) gAppend (eCons (eVar 10) eNil))
    (sSeq (sMut "list" 9 ((([10] ++ []) ++ (([10] ++ []) ++ (([10] ++ []) ++ []))) ++ []) gAppend (eCons (eN mkTup (eCons (e2 gIx (eVar 10) (eC (.int 2))) (eCons (e2 gIx (eVar 10) (eC (.int 1))) (eCons (e2 gIx (eVar 10) (eC (.int 0))) eNil)))) eNil))
    (sSeq (sMut "list" 9 ((([10] ++ []) ++ (([10] ++ []) ++ (([10] ++ []) ++ []))) ++ []) gAppend (eCons (eN mkTup (eCons (e2 gIx (eVar 10) (eC (.int 1))) (eCons (e2 gIx (eVar 10) (eC (.int 0))) (eCons (e2 gIx (eVar 10) (eC (.int 2))) eNil)))) eNil))
    (sSeq (sMut "list" 9 (([10] ++ (([5] ++ []) ++ (([8] ++ []) ++ []))) ++ []) gAppend (eCons (eCall F__law_replaced (eCons (eVar 10) (eCons (e2 gIx (eVar 5) (eC (.int 3))) (eCons (e2 gIx (eVar 8) (eC (.int 3))) eNil)))) eNil))
    (sSeq (sMut "list" 9 (([10] ++ (([5] ++ []) ++ (([1] ++ ((([5] ++ []) ++ []) ++ ([1] ++ []))) ++ []))) ++ []) gAppend (eCons (eCall F__law_replaced (eCons (eVar 10) (eCons (e2 gIx (eVar 5) (eC (.int 4))) (eCons (e2 gIx (eVar 1) (e2 gMod (eN gInt (eCons (e2 gIx (eVar 5) (eC (.int 2))) eNil)) (eN gLen (eCons (eVar 1) eNil)))) eNil)))) eNil))
    (sSeq (sSet 11 ([10] ++ ([5] ++ [])) (e2 gIx (eVar 10) (e2 gIx (eVar 5) (eC (.int 4)))))
    (sSeq (sMut "list" 9 (([10] ++ (([5] ++ []) ++ (((([11] ++ []) ++ []) ++ ((([11] ++ []) ++ [6]) ++ [])) ++ []))) ++ []) gAppend (eCons (eCall F__law_replaced (eCons (eVar 10) (eCons (e2 gIx (eVar 5) (eC (.int 4))) (eCons (eN mkTup (eCons (e2 gSub (e2 gIx (eVar 11) (eC (.int 0))) (eC (.int 1))) (eCons (e2 gAdd (e2 gIx (eVar 11) (eC (.int 1))) (eVar 6)) eNil))) eNil)))) eNil))
    (sMut "list" 9 (([10] ++ (([5] ++ []) ++ (((([11] ++ []) ++ []) ++ ((([11] ++ []) ++ [6]) ++ [])) ++ []))) ++ []) gAppend (eCons (eCall F__law_replaced (eCons (eVar 10) (eCons (e2 gIx (eVar 5) (eC (.int 4))) (eCons (eN mkTup (eCons (e2 gAdd (e2 gIx (eVar 11) (eC (.int 0))) (eC (.int 1))) (eCons (e2 gSub (e2 gIx (eVar 11) (eC (.int 1))) (eVar 6)) eNil))) eNil)))) eNil))))))))))
    (sSeq (sIf (tV (e2 (gLe) (eN gLen (eCons (eVar 1) eNil)) (eC (.int 5))))
    (sFor [1] (iSeq (eVar 1)) (gSet 12)
    (sFor [1] (iSeq (eVar 1)) (gSet 13)
    (sFor [1] (iSeq (eVar 1)) (gSet 14)
    (sMut "list" 9 (([12] ++ ([13] ++ ([14] ++ []))) ++ []) gAppend (eCons (eN mkTup (eCons (eVar 12) (eCons (eVar 13) (eCons (eVar 14) eNil)))) eNil)))))
    sNx)
    (sRetV 9)))))))))))
def F__law_certificates : List D → R D := fn 16 b__law_certificates
def b__law_crossing : En → Out :=
    (sSeq (sSet 1 ((([0] ++ []) ++ []) ++ ([0] ++ [])) (e2 gAdd (e2 gAdd (e2 gIx (eVar 0) (eC (.int 1))) (eC (.int 1))) (e2 gIx (eVar 0) (eC (.int 3)))))
    (sSeq (sSet 2 ((([0] ++ []) ++ []) ++ ([0] ++ [])) (e2 gAdd (e2 gAdd (e2 gIx (eVar 0) (eC (.int 2))) (eC (.int 1))) (e2 gIx (eVar 0) (eC (.int 4)))))
    (sSeq (sSet 3 ([0, 1, 5] ++ [0, 1, 2, 6]) (e2 gAdd (eLc [5] [0, 1, 5] (iR2 (eCons (e2 gIx (eVar 0) (eC (.int 1))) (eCons (e2 gAdd (eVar 1) (eC (.int 1))) eNil))) (gSet 5) cYes (eN mkTup (eCons (eVar 5) (eCons (e2 gIx (eVar 0) (eC (.int 2))) eNil)))) (eLc [6] [0, 1, 2, 6] (iR2 (eCons (e2 gAdd (e2 gIx (eVar 0) (eC (.int 2))) (eC (.int 1))) (eCons (e2 gAdd (eVar 2) (eC (.int 1))) eNil))) (gSet 6) cYes (eN mkTup (eCons (eVar 1) (eCons (eVar 6) eNil))))))
    (sSeq (sSet 4 ([0, 2, 6] ++ [0, 1, 2, 5]) (e2 gAdd (eLc [6] [0, 2, 6] (iR2 (eCons (e2 gIx (eVar 0) (eC (.int 2))) (eCons (e2 gAdd (eVar 2) (eC (.int 1))) eNil))) (gSet 6) cYes (eN mkTup (eCons (e2 gIx (eVar 0) (eC (.int 1))) (eCons (eVar 6) eNil)))) (eLc [5] [0, 1, 2, 5] (iR2 (eCons (e2 gAdd (e2 gIx (eVar 0) (eC (.int 1))) (eC (.int 1))) (eCons (e2 gAdd (eVar 1) (eC (.int 1))) eNil))) (gSet 5) cYes (eN mkTup (eCons (eVar 5) (eCons (eVar 2) eNil))))))
    (sSeq (sIf (tV (e2 (gEq) (e2 gIx (eVar 0) (eC (.int 0))) (eC (.int 1))))
    (sSeq (sSet 3 [0, 2, 3, 7] (eLc [7] [0, 2, 3, 7] (iSeq (eVar 3)) (gSet 7) cYes (eN mkTup (eCons (e2 gIx (eVar 7) (eC (.int 0))) (eCons (e2 gSub (e2 gAdd (e2 gIx (eVar 0) (eC (.int 2))) (eVar 2)) (e2 gIx (eVar 7) (eC (.int 1)))) eNil)))))
    (sSet 4 [0, 2, 4, 7] (eLc [7] [0, 2, 4, 7] (iSeq (eVar 4)) (gSet 7) cYes (eN mkTup (eCons (e2 gIx (eVar 7) (eC (.int 0))) (eCons (e2 gSub (e2 gAdd (e2 gIx (eVar 0) (eC (.int 2))) (eVar 2)) (e2 gIx (eVar 7) (eC (.int 1)))) eNil))))))
    sNx)
    (sRet (eN mkLst (eCons (eN gTupOf (eCons (eVar 3) eNil)) (eCons (eN gTupOf (eCons (eVar 4) eNil)) eNil)))))))))
def F__law_crossing : List D → R D := fn 8 b__law_crossing
def b__law_accepts : En → Out :=
    (sSeq (sSet 3 [] (eN mkLst eNil))
    (sSeq (sFor [2] (iSeq (eVar 2)) (gSet 4)
    (sSeq (sSet 5 [0, 4, 6] (eLc [6] [0, 4, 6] (iR1 (eCons (eN gLen (eCons (eVar 0) eNil)) eNil)) (gSet 6) (tV (e2 (gEq) (e2 gIx (eVar 0) (eVar 6)) (eVar 4))) (eVar 6)))
    (sSeq (sIf (tV (e2 (gEq) (eN gLen (eCons (eVar 5) eNil)) (eC (.int 0))))
    (sRet (eC (.bl false)))
    sNx)
    (sMut "list" 3 (([5] ++ []) ++ []) gAppend (eCons (e2 gIx (eVar 5) (eC (.int 0))) eNil)))))
    (sSeq (sIf (tOrC (tV (e2 (gInS true) (e2 gIx (eVar 2) (eC (.int 0))) (eVar 1))) (tOrC (tV (e2 (gInS true) (e2 gIx (eVar 2) (eC (.int 2))) (eVar 1))) (tV (e2 (gInS false) (e2 gIx (eVar 2) (eC (.int 1))) (eVar 1)))))
    (sRet (eC (.bl false)))
    sNx)
    (sRet (eCh (gLt) (gLt) (eN gMin2 (eCons (e2 gIx (eVar 3) (eC (.int 0))) (eCons (e2 gIx (eVar 3) (eC (.int 2))) eNil))) (e2 gIx (eVar 3) (eC (.int 1))) (eN gMax2 (eCons (e2 gIx (eVar 3) (eC (.int 0))) (eCons (e2 gIx (eVar 3) (eC (.int 2))) eNil))))))))
def F__law_accepts : List D → R D := fn 7 b__law_accepts
def b_is_conflict : En → Out :=
    (sSeq (sAsg [2] (gTupD 3 (gsCons (gSet 3) (gsCons (gSet 4) (gsCons (gSet 5) gsNil)))) (eVar 2))
    (sSeq (sSet 6 ([0] ++ []) (eN gListOf (eCons (eVar 0) eNil)))
    (sSeq (sIf (tOrC (tV (e2 (gInS true) (eVar 3) (eVar 6))) (tOrC (tV (e2 (gInS true) (eVar 5) (eVar 6))) (tV (e2 (gInS true) (eVar 4) (eVar 6)))))
    (sRet (eC (.bl false)))
    sNx)
    (sSeq (sIf (tOrC (tV (e2 (gInS true) (eVar 3) (eVar 1))) (tOrC (tV (e2 (gInS true) (eVar 5) (eVar 1))) (tV (e2 (gInS false) (eVar 4) (eVar 1)))))
    (sRet (eC (.bl false)))
    sNx)
    (sSeq (sAsg ((([6] ++ ([3] ++ [])) ++ (([6] ++ ([5] ++ [])) ++ [])) ++ []) (gLstD 2 (gsCons (gSet 7) (gsCons (gSet 8) gsNil))) (eN gSortedI (eCons (eN mkLst (eCons (eBM "list" gIndex (eVar 6) (eCons (eVar 3) eNil)) (eCons (eBM "list" gIndex (eVar 6) (eCons (eVar 5) eNil)) eNil))) eNil)))
    (sRet (eCh (gLt) (gLt) (eVar 7) (eBM "list" gIndex (eVar 6) (eCons (eVar 4) eNil)) (eVar 8))))))))
def F_is_conflict : List D → R D := fn 9 b_is_conflict
def b__law_judged : En → Out :=
    (sSeq (sFor [2] (iSeq (eVar 2)) (gSet 3)
    (sSeq (sSet 4 ([0] ++ ([1] ++ ([3] ++ []))) (eCall F__law_accepts (eCons (eVar 0) (eCons (eVar 1) (eCons (eVar 3) eNil)))))
    (sFor ([] ++ []) (iR1 (eCons (eC (.int 2)) eNil)) (gSet 5)
    (sSeq (sSet 6 ([0] ++ ([1] ++ ([3] ++ []))) (eCall F_is_conflict (eCons (eVar 0) (eCons (eVar 1) (eCons (eVar 3) eNil)))))
    (sIf (tOrC (tNotC (tV (e1 (gIsi "bool") (eVar 6)))) (tV (e2 (gNe) (eVar 6) (eVar 4))))
    (sRet (eC (.bl false)))
    sNx)))))
    (sRet (eC (.bl true))))
def F__law_judged : List D → R D := fn 7 b__law_judged
def b__law_crossing_judged : En → Out :=
    (sSeq (sSet 1 ([0] ++ (([] ++ ([] ++ ([] ++ ([] ++ ([] ++ ([] ++ ([] ++ []))))))) ++ [])) (eCall F__law_draws (eCons (eVar 0) (eCons (eN mkLst (eCons (eC (.int 2)) (eCons (eC (.int 5)) (eCons (eC (.int 5)) (eCons (eC (.int 4)) (eCons (eC (.int 4)) (eCons (eC (.int 7)) (eCons (eC (.int 7)) eNil)))))))) eNil))))
    (sSeq (sSet 2 ([1] ++ []) (eCall F__law_crossing (eCons (eVar 1) eNil)))
    (sSeq (sSet 3 [1, 2, 4] (eLc [4] [1, 2, 4] (iR1 (eCons (eC (.int 2)) eNil)) (gSet 4) cYes (e2 gIx (e2 gIx (eVar 2) (eVar 4)) (e2 gAdd (eC (.int 1)) (e2 gMod (eN gInt (eCons (e2 gIx (eVar 1) (e2 gAdd (eC (.int 5)) (eVar 4))) eNil)) (e2 gSub (eN gLen (eCons (e2 gIx (eVar 2) (eVar 4)) eNil)) (eC (.int 2))))))))
    (sSeq (sFor ([] ++ []) (iR1 (eCons (eC (.int 2)) eNil)) (gSet 4)
    (sSeq (sSet 5 ([2] ++ [4]) (e2 gIx (eVar 2) (eVar 4)))
    (sSeq (sSet 6 ([3, 5, 7] ++ ((([5] ++ []) ++ (([3] ++ [4]) ++ (([5] ++ []) ++ []))) ++ [])) (e2 gAdd (eLc [7] [3, 5, 7] (iSeq (eVar 3)) (gSet 7) cYes (eN mkTup (eCons (e2 gIx (eVar 5) (eC (.int 0))) (eCons (eVar 7) (eCons (e2 gIx (eVar 5) (e1 gNeg (eC (.int 1)))) eNil))))) (eN mkLst (eCons (eN mkTup (eCons (e2 gIx (eVar 5) (e1 gNeg (eC (.int 1)))) (eCons (e2 gIx (eVar 3) (eVar 4)) (eCons (e2 gIx (eVar 5) (eC (.int 0))) eNil)))) eNil))))
    (sIf (tNotC (tV (eCall F__law_judged (eCons (eVar 5) (eCons (e2 gIx (eVar 2) (e2 gSub (eC (.int 1)) (eVar 4))) (eCons (e2 gAdd (eVar 6) (eN mkLst (eCons (eN mkTup (eCons (e2 gIx (eVar 5) (eC (.int 0))) (eCons (e2 gIx (eVar 5) (e1 gNeg (eC (.int 1)))) (eCons (e2 gIx (eVar 3) (eVar 4)) eNil)))) eNil))) eNil))))))
    (sRet (eC (.bl false)))
    sNx))))
    (sRet (eC (.bl true)))))))
def F__law_crossing_judged : List D → R D := fn 8 b__law_crossing_judged
def b__law_cell : En → Out :=
    (sSeq (sIf (tV (e2 (gLt) (eVar 1) (eN gLen (eCons (eVar 0) eNil))))
    (sRet (eN gInt (eCons (e2 gIx (eVar 0) (eVar 1)) eNil)))
    sNx)
    (sRet (eC (.int 0))))
def F__law_cell : List D → R D := fn 2 b__law_cell
def b__law_across : En → Out :=
    (sSeq (sSet 2 ([1] ++ ((([] ++ []) ++ []) ++ [])) (eCall F__law_draws (eCons (eVar 1) (eCons (e2 gMul (eN mkLst (eCons (eC (.int 2)) eNil)) (eC (.int 17))) eNil))))
    (sSeq (sSet 3 (([] ++ ((([] ++ (([0] ++ []) ++ [])) ++ ([2] ++ [])) ++ [])) ++ []) (eN mkLst (eCons (eN mkTup (eCons (eC (.int 0)) (eCons (e2 gIx (eN mkLst (eCons (eC (.int 0)) (eCons (e2 gIx (eVar 0) (eC (.int 1))) eNil))) (e2 gIx (eVar 2) (eC (.int 0)))) eNil))) eNil)))
    (sSeq (sFor ([] ++ []) (iR1 (eCons (eC (.int 16)) eNil)) (gSet 4)
    (sSeq (sSet 5 (([3] ++ []) ++ ((([] ++ ((([] ++ ([] ++ [])) ++ ([2] ++ [])) ++ [])) ++ ([2] ++ ([] ++ [4]))) ++ [])) (eCall F__law_moved (eCons (e2 gIx (eVar 3) (e1 gNeg (eC (.int 1)))) (eCons (e2 gIx (eN mkLst (eCons (eC (.str "E")) (eCons (e2 gIx (eN mkLst (eCons (eC (.str "N")) (eCons (eC (.str "S")) eNil))) (e2 gIx (eVar 2) (eC (.int 0)))) eNil))) (e2 gIx (eVar 2) (e2 gAdd (eC (.int 1)) (eVar 4)))) eNil))))
    (sIf (tV (eCall F__law_on_board (eCons (eVar 0) (eCons (eVar 5) eNil))))
    (sMut "list" 3 ([5] ++ []) gAppend (eCons (eVar 5) eNil))
    sNx)))
    (sSeq (sIf (tV (e2 (gLt) (e2 gIx (eVar 3) (e1 gNeg (eC (.int 1)))) (e2 gIx (eVar 3) (eC (.int 0)))))
    (sSet 3 [3] (e1 gRevL (eVar 3)))
    sNx)
    (sRet (eN gTupOf (eCons (eVar 3) eNil)))))))
def F__law_across : List D → R D := fn 6 b__law_across
def b_law : En → Out :=
    (sSeq (sSet 1 (([0] ++ ([] ++ [])) ++ ([] ++ [])) (eCall F__law_board (eCons (eCall F__law_cell (eCons (eVar 0) (eCons (eC (.int 0)) eNil))) (eCons (eC (.int 8)) eNil))))
    (sSeq (sSet 2 ([1] ++ (([0] ++ ([] ++ [])) ++ [])) (eCall F__law_path (eCons (eVar 1) (eCons (eCall F__law_cell (eCons (eVar 0) (eCons (eC (.int 1)) eNil))) eNil))))
    (sSeq (sIf (tV (e2 (gEq) (e2 gIx (eCall F__law_draws (eCons (eCall F__law_cell (eCons (eVar 0) (eCons (eC (.int 6)) eNil))) (eCons (eN mkLst (eCons (eC (.int 2)) eNil)) eNil))) (eC (.int 0))) (eC (.int 0))))
    (sSet 2 ([1] ++ (([0] ++ ([] ++ [])) ++ [])) (eCall F__law_across (eCons (eVar 1) (eCons (eCall F__law_cell (eCons (eVar 0) (eCons (eC (.int 1)) eNil))) eNil))))
    sNx)
    (sSeq (sSet 3 ([1] ++ ([2] ++ (([0] ++ ([] ++ [])) ++ (([0] ++ ([] ++ [])) ++ [])))) (eCall F__law_other (eCons (eVar 1) (eCons (eVar 2) (eCons (eCall F__law_cell (eCons (eVar 0) (eCons (eC (.int 2)) eNil))) (eCons (eCall F__law_cell (eCons (eVar 0) (eCons (eC (.int 3)) eNil))) eNil))))))
    (sSeq (sSet 4 ([1] ++ ([2] ++ ([3] ++ (([0] ++ ([] ++ [])) ++ (([0] ++ ([] ++ [])) ++ []))))) (eCall F__law_certificates (eCons (eVar 1) (eCons (eVar 2) (eCons (eVar 3) (eCons (eCall F__law_cell (eCons (eVar 0) (eCons (eC (.int 4)) eNil))) (eCons (eCall F__law_cell (eCons (eVar 0) (eCons (eC (.int 5)) eNil))) eNil)))))))
    (sSeq (sIf (tOrC (tNotC (tV (eCall F__law_judged (eCons (eVar 2) (eCons (eVar 3) (eCons (eVar 4) eNil)))))) (tNotC (tV (eCall F__law_judged (eCons (eVar 3) (eCons (eVar 2) (eCons (eVar 4) eNil)))))))
    (sRet (eC (.bl false)))
    sNx)
    (sRet (eCall F__law_crossing_judged (eCons (eCall F__law_cell (eCons (eVar 0) (eCons (eC (.int 7)) eNil))) eNil)))))))))
def F_law : List D → R D := fn 5 b_law
/-! ### cell, draws, board -/
theorem cell_ok (ns : List Int) (k : Int) (hk : 0 ≤ k) : ∃ c, F__law_cell [.kl (ns.map D.int), .int k] = .ok (.int c) := by
  unfold F__law_cell
  rw [fn_app]
  unfold b__law_cell
  by_cases h : k < ns.length
  · have e : atI (ns.map D.int) k = some (.int (ns.getD k.toNat 0)) := by
      rw [ints_row, rowI_at ⟨hk, h⟩]
    simp [h, e]
  · simp [h]
def InB (sizes : List D) (acc : List Int) : Prop := ∀ (j : Nat) (s : Int), j < acc.length → sizes[j]? = some (.int s) → 0 ≤ acc.getD j 0 ∧ acc.getD j 0 < s
theorem InB.add {sizes : List D} {acc : List Int} {v s : Int} (h : InB sizes acc) (hs : sizes[acc.length]? = some (.int s)) (hv : 0 ≤ v ∧ v < s) : InB sizes (acc ++ [v]) := by
  intro j s' hj e
  rw [List.length_append] at hj
  by_cases hl : j < acc.length
  · rw [List.getD_eq_getElem?_getD, List.getElem?_append_left hl, ← List.getD_eq_getElem?_getD]
    exact h j s' hl e
  · have ej : j = acc.length := by simp at hj; omega
    subst ej
    rw [hs] at e
    cases e
    rw [List.getD_eq_getElem?_getD, List.getElem?_append_right (Nat.le_refl _), Nat.sub_self]
    exact hv
def I_draws (c : Int) (sizes : List D) (k : Nat) (ρ : En) : Prop := ∃ (acc : List Int) (rest : Int) (x5 x6 x7 : Option D), ρ = [some (.int c), some (.lst false sizes), some (.lst true (acc.map D.int)), some (.int rest), some (.bl (decide (1000000000000000000 ≤ c))), x5, x6, x7] ∧ acc.length = k ∧ InB sizes acc
def Q_draws (sizes : List D) (d : D) : Prop := ∃ acc : List Int, d = .lst true (acc.map D.int) ∧ acc.length = sizes.length ∧ InB sizes acc
theorem draws_ok (c : Int) (sizes : List D) (hs : ∀ d ∈ sizes, ∃ s, d = .int s ∧ 0 < s ∧ s < 2 ^ 62) (hl : sizes.length ≤ 1000000) :
    ∃ f : Int → Int, (∀ (k : Nat) (s : Int), sizes[k]? = some (.int s) → 0 ≤ f k ∧ f k < s) ∧ F__law_draws [.int c, .lst false sizes] = .ok (.lst true (rowI sizes.length f)) := by
  have hv : valL sizes = true := by
    rw [valL_all, List.all_eq_true]
    intro d m
    obtain ⟨s, e, _⟩ := hs d m
    rw [e]; rfl
  have hf := valL_frz hv
  have hr : rangeTo [.int (sizes.length : Int)] = .ok (upto 0 sizes.length) := by
    rw [rangeTo_int (by omega)]; rfl
  have key : ∃ d, F__law_draws [.int c, .lst false sizes] = .ok d ∧ Q_draws sizes d := by
    unfold F__law_draws
    refine fn_ok' ?_
    unfold b__law_draws
    simp [hr, hf]
    refine OW_seq (OW_loop (I_draws c sizes)
      ⟨[], c, none, none, none, rfl, rfl, fun j s hj => absurd hj (Nat.not_lt_zero j)⟩ ?_ ?_)
    · rintro k d ρ hd ⟨acc, rest, x5, x6, x7, rfl, hk, hb⟩
      obtain ⟨hkn, rfl⟩ := upto_get hd
      have hlt : k < sizes.length := hkn
      obtain ⟨s, es, h0, h1⟩ := hs _ (List.getElem_mem hlt)
      have eg : sizes[k]? = some (.int s) := by rw [List.getElem?_eq_getElem hlt, es]
      have ea : atI sizes (k : Int) = some (.int s) := by rw [atI_pos (by omega) (by omega)]; exact eg
      refine ⟨_, by simp; rfl, ?_⟩
      have ap : ∀ v : Int, gAppend (.lst true (acc.map D.int)) [.int v] = some (.lst true ((acc ++ [v]).map D.int), .non) := fun v => by
        rw [gAppend_lst (by rw [List.length_map]; omega), List.map_append]
        rfl
      have md : ∀ i, gMod (.int i) (.int s) = some (.int (i % s)) := fun i => gMod_int h0
      have dv : ∀ i, gDiv (.int i) (.int s) = some (.int (i / s)) := fun i => gDiv_int ⟨h0, h1⟩
      have bd : ∀ v : Int, InB sizes (acc ++ [v % s]) := fun v => hb.add (by rw [hk]; exact eg) ⟨Int.emod_nonneg _ (by omega), Int.emod_lt_of_pos _ h0⟩
      have e0 : k + 1 = (acc ++ [s]).length := by rw [List.length_append, hk]; rfl
      have mm : ∀ (i j : Int), gMul (.int (i % 2147483647)) (.int j) = some (.int (i % 2147483647 * j)) := fun i j => gMul_int (by omega)
      have mm2 : ∀ (i j : Int), gMul (.int (i % 2147483629)) (.int j) = some (.int (i % 2147483629 * j)) := fun i j => gMul_int (by omega)
      have d9 : ∀ i, gDiv (.int i) (.int 9) = some (.int (i / 9)) := fun i => gDiv_int (by omega)
      simp [ea, ap, md, dv, hf, gMod_int, gMul_int, mm, mm2, d9]
      have fin : ∀ (v r' : Int) (y5 y6 y7 : Option D), I_draws c sizes (k + 1) [some (.int c), some (.lst false sizes), some (.lst true (acc.map D.int ++ [D.int (v % s)])), some (.int r'), some (.bl (decide (1000000000000000000 ≤ c))), y5, y6, y7] := fun v r' y5 y6 y7 => ⟨acc ++ [v % s], r', y5, y6, y7, by rw [List.map_append]; rfl, by rw [List.length_append, hk]; rfl, bd v⟩
      by_cases hc : 1000000000000000000 ≤ c <;> by_cases hr0 : 0 < rest <;> simp only [hc, hr0, if_true, if_false, decide_true, decide_false, lift_ok, Bool.false_eq_true, OW_nx] <;> simpa only [hc, decide_true, decide_false] using fin _ _ _ _ _
    · rintro ρ ⟨acc, rest, x5, x6, x7, rfl, hk, hb⟩
      simp
      exact ⟨acc, rfl, by rw [hk]; simp, hb⟩
  obtain ⟨d, e, acc, rfl, hn, hb⟩ := key
  refine ⟨fun i => acc.getD i.toNat 0, fun k s hs' => ?_, ?_⟩
  · have hk : k < sizes.length := (List.getElem?_eq_some_iff.mp hs').1
    have := hb k s (by omega) hs'
    simpa using this
  · rw [e, ints_row, hn]
/-! ### board, steps -/
theorem board_ok (c most : Int) (h1 : 1 ≤ most) (h2 : most ≤ 1000) : ∃ b : Int × Int, (0 ≤ b.1 ∧ b.1 ≤ most ∧ 0 ≤ b.2 ∧ b.2 ≤ most) ∧ F__law_board [.int c, .int most] = .ok (pr b) := by
  obtain ⟨f, hb, hd⟩ := draws_ok c [.int 8, .int most, .int most, .int (most + 1), .int (most + 1)] (by
    intro d m
    simp only [List.mem_cons, List.not_mem_nil, or_false] at m
    rcases m with rfl | rfl | rfl | rfl | rfl <;> exact ⟨_, rfl, by omega, by omega⟩) (by simp)
  have b0 := hb 0 _ rfl
  have b1 := hb 1 _ rfl
  have b2 := hb 2 _ rfl
  have b3 := hb 3 _ rfl
  have b4 := hb 4 _ rfl
  simp at hd b0 b1 b2 b3 b4
  unfold F__law_board
  rw [fn_app]
  unfold b__law_board
  by_cases h : f 0 = 0
  · refine ⟨(f 3, f 4), ⟨by omega, by omega, by omega, by omega⟩, ?_⟩
    simp [hd, h, gEq, okN, eqD, pyD, PyData.eqv, pr]
  · refine ⟨(f 1 + 1, f 2 + 1), ⟨by show 0 ≤ f 1 + 1; omega, by show f 1 + 1 ≤ most; omega, by show 0 ≤ f 2 + 1; omega, by show f 2 + 1 ≤ most; omega⟩, ?_⟩
    simp [hd, h, gEq, okN, eqD, pyD, PyData.eqv, pr]
theorem moved_ok (p : Int × Int) (l : Str) (hl : l = "E" ∨ l = "N" ∨ l = "S") : ∃ q, F__law_moved [pr p, .str l] = .ok (pr q) := by
  unfold F__law_moved
  rw [fn_app]
  unfold b__law_moved
  have e1 : gEq (.str "E") (.str "E") = some (.bl true) := gEq_str (by decide +kernel) (by decide +kernel) (by decide +kernel)
  have e2 : gEq (.str "N") (.str "E") = some (.bl false) := gEq_str (by decide +kernel) (by decide +kernel) (by decide +kernel)
  have e3 : gEq (.str "N") (.str "N") = some (.bl true) := gEq_str (by decide +kernel) (by decide +kernel) (by decide +kernel)
  have e4 : gEq (.str "S") (.str "E") = some (.bl false) := gEq_str (by decide +kernel) (by decide +kernel) (by decide +kernel)
  have e5 : gEq (.str "S") (.str "N") = some (.bl false) := gEq_str (by decide +kernel) (by decide +kernel) (by decide +kernel)
  rcases hl with rfl | rfl | rfl
  · exact ⟨(p.1 + 1, p.2), by simp [e1]; rfl⟩
  · exact ⟨(p.1, p.2 + 1), by simp [e2, e3]; rfl⟩
  · exact ⟨(p.1, p.2 - 1), by simp [e4, e5]; rfl⟩
def onB (b p : Int × Int) : Bool := decide ((0 ≤ p.1 ∧ p.1 ≤ b.1) ∧ 0 ≤ p.2 ∧ p.2 ≤ b.2)
theorem on_board_ok (b p : Int × Int) : F__law_on_board [pr b, pr p] = .ok (.bl (onB b p)) := by
  unfold F__law_on_board
  rw [fn_app]
  unfold b__law_on_board onB
  by_cases h1 : 0 ≤ p.1 <;> by_cases h2 : p.1 ≤ b.1 <;> by_cases h3 : 0 ≤ p.2 <;> by_cases h4 : p.2 ≤ b.2 <;> simp [h1, h2, h3, h4]
/-! ### paths -/
def Small (b : Int × Int) : Prop := 0 ≤ b.1 ∧ b.1 ≤ 1000 ∧ 0 ≤ b.2 ∧ b.2 ≤ 1000
def IsPs (n : Nat) (d : D) : Prop := ∃ ps : List (Int × Int), d = .tup (ps.map pr) ∧ ps ≠ [] ∧ ps.length ≤ n
def I_path (b : Int × Int) (c : Int) (f : Int → Int) (k : Nat) (ρ : En) : Prop := ∃ (acc : List (Int × Int)) (x4 x5 x6 : Option D), ρ = [some (pr b), some (.int c), some (.lst false (rowI 20 f)), some (.lst true (acc.map pr)), x4, x5, x6] ∧ acc ≠ [] ∧ acc.length ≤ k + 1
theorem two_or {x : Int} (h0 : 0 ≤ x) (h1 : x < 2) : x = 0 ∨ x = 1 := by omega
theorem last_pr {acc : List (Int × Int)} (h : acc ≠ []) : ∃ p, atI (acc.map pr) (-1) = some (pr p) ∧ p ∈ acc := by
  refine ⟨acc.getLast h, atI_last ?_, List.getLast_mem h⟩
  rw [List.getLast?_map, List.getLast?_eq_some_getLast h]
  rfl
theorem first_pr {acc : List (Int × Int)} (h : acc ≠ []) : ∃ p, atI (acc.map pr) 0 = some (pr p) ∧ p ∈ acc := by
  cases acc with
  | nil => exact absurd rfl h
  | cons p r => exact ⟨p, by simp, List.mem_cons_self⟩
theorem app_pr {acc : List (Int × Int)} (h : acc.length < 16777216) (q : Int × Int) : gAppend (.lst true (acc.map pr)) [pr q] = some (.lst true ((acc ++ [q]).map pr), .non) := by
  rw [gAppend_lst (by rw [List.length_map]; exact h), List.map_append]
  rfl
theorem path_ok (b : Int × Int) (hb : Small b) (c : Int) : ∃ d, F__law_path [pr b, .int c] = .ok d ∧ IsPs 17 d := by
  obtain ⟨hb1, hb2, hb3, hb4⟩ := hb
  obtain ⟨f, hf, hd⟩ := draws_ok c ([.int (b.1 + 1), .int (b.2 + 1), .int 2, .int 17] ++ List.replicate 16 (.int 2)) (by
    intro d m
    rcases List.mem_append.mp m with m | m
    · simp only [List.mem_cons, List.not_mem_nil, or_false] at m
      rcases m with rfl | rfl | rfl | rfl <;> exact ⟨_, rfl, by omega, by omega⟩
    · rw [(List.mem_replicate.mp m).2]; exact ⟨_, rfl, by omega, by omega⟩) (by simp)
  have f2 := hf 2 _ rfl
  have f3 := hf 3 _ rfl
  have ft : ∀ k : Nat, k < 16 → f (4 + (k : Int)) = 0 ∨ f (4 + (k : Int)) = 1 := fun k hk => by
    have := hf (4 + k) 2 (by
      rw [List.getElem?_append_right (by simp), show 4 + k - [D.int (b.1 + 1), D.int (b.2 + 1), D.int 2, D.int 17].length = k by simp, List.getElem?_replicate, if_pos hk])
    rw [Int.natCast_add] at this
    exact two_or this.1 this.2
  simp at hd f2 f3
  have em : gMul (.lst true [.int 2]) (.int 16) = some (.lst true (List.replicate 16 (.int 2))) := gMul_rep 2 (by decide)
  have hr : rangeTo [.int (f 3)] = .ok (upto 0 (f 3).toNat) := rangeTo_int (by omega)
  unfold F__law_path
  refine fn_ok' ?_
  unfold b__law_path
  have ra : ∀ i : Int, 0 ≤ i → i < 20 → atI (rowI 20 f) i = some (.int (f i)) := fun i h0 h1 => rowI_at ⟨h0, h1⟩
  simp [em, gAdd_lst, hd, mkLst_some, ra, hr, pr_mk]
  refine OW_seq (OW_loopN (I_path b c f) ⟨[(f 0, f 1)], none, none, none, rfl, by simp, by simp⟩ ?_ ?_)
  · rintro k d ρ hk ⟨acc, x4, x5, x6, rfl, hne, hl⟩
    obtain ⟨hkn, rfl⟩ := upto_get hk
    refine ⟨_, by simp; rfl, ?_⟩
    have hk16 : k < 16 := by omega
    have r4 : atI (rowI 20 f) (4 + (k : Int)) = some (.int (f (4 + k))) := ra _ (by omega) (by omega)
    obtain ⟨p, hp, -⟩ := last_pr hne
    have hl2 : acc.length < 16777216 := by omega
    have fin : ∀ (q : Int × Int) (l : Str) (hm : F__law_moved [pr p, .str l] = .ok (pr q)), OW (I_path b c f (k + 1)) (fun _ => False) (I_path b c f (k + 1)) (fun _ => False) (fun _ _ => False) (if onB b q = true then
        .nx [some (pr b), some (.int c), some (.lst false (rowI 20 f)), some (.lst true (acc.map pr ++ [pr q])), some (.int k), some (.str l), some (pr q)] else
        .nx [some (pr b), some (.int c), some (.lst false (rowI 20 f)), some (.lst true (acc.map pr)), some (.int k), some (.str l), some (pr q)]) := fun q l hm => by
      refine OW_ite (fun _ => ?_) (fun _ => ?_)
      · exact ⟨acc ++ [q], _, _, _, by rw [List.map_append]; rfl, by simp, by rw [List.length_append]; simp; omega⟩
      · exact ⟨acc, _, _, _, rfl, hne, by omega⟩
    rcases ft k hk16 with h4 | h4
    · obtain ⟨q, hq⟩ := moved_ok p "E" (.inl rfl)
      simp [r4, h4, hp, hq, on_board_ok, app_pr hl2]
      exact fin q _ hq
    · rcases two_or f2.1 f2.2 with h2 | h2
      · obtain ⟨q, hq⟩ := moved_ok p "N" (.inr (.inl rfl))
        simp [r4, h4, hp, hq, on_board_ok, app_pr hl2, ra, h2]
        exact fin q _ hq
      · obtain ⟨q, hq⟩ := moved_ok p "S" (.inr (.inr rfl))
        simp [r4, h4, hp, hq, on_board_ok, app_pr hl2, ra, h2]
        exact fin q _ hq
  · rintro ρ ⟨acc, x4, x5, x6, rfl, hne, hl⟩
    obtain ⟨p, hp, -⟩ := last_pr hne
    obtain ⟨q, hq, -⟩ := first_pr hne
    rw [upto_length] at hl
    have hl17 : acc.length ≤ 17 := by omega
    simp [hp, hq, gLt_pr]
    refine OW_seq (OW_ite (fun _ => ?_) (fun _ => ?_))
    · simp
      exact ⟨acc.reverse, by simp, by simpa using hne, by rw [List.length_reverse]; exact hl17⟩
    · simp
      exact ⟨acc, rfl, hne, hl17⟩
def I_across (b : Int × Int) (c : Int) (f : Int → Int) (k : Nat) (ρ : En) : Prop := ∃ (acc : List (Int × Int)) (x4 x5 : Option D), ρ = [some (pr b), some (.int c), some (.lst true (rowI 17 f)), some (.lst true (acc.map pr)), x4, x5] ∧ acc ≠ [] ∧ acc.length ≤ k + 1
theorem across_ok (b : Int × Int) (c : Int) : ∃ d, F__law_across [pr b, .int c] = .ok d ∧ IsPs 17 d := by
  obtain ⟨f, hf, hd⟩ := draws_ok c (List.replicate 17 (.int 2)) (by
    intro d m
    rw [(List.mem_replicate.mp m).2]; exact ⟨_, rfl, by omega, by omega⟩) (by simp)
  have ft : ∀ i : Int, 0 ≤ i → i < 17 → f i = 0 ∨ f i = 1 := fun i h0 h1 => by
    have := hf i.toNat 2 (by rw [List.getElem?_replicate, if_pos (by omega)])
    rw [Int.toNat_of_nonneg h0] at this
    exact two_or this.1 this.2
  simp at hd
  have em : gMul (.lst true [.int 2]) (.int 17) = some (.lst true (List.replicate 17 (.int 2))) := gMul_rep 2 (by decide)
  have hr : rangeTo [.int 16] = .ok (upto 0 16) := rangeTo_int (by omega)
  have ra : ∀ i : Int, 0 ≤ i → i < 17 → atI (rowI 17 f) i = some (.int (f i)) := fun i h0 h1 => rowI_at ⟨h0, h1⟩
  unfold F__law_across
  refine fn_ok' ?_
  unfold b__law_across
  have start : ∃ y, (atI [D.int 0, D.int b.2] (f 0)) = some (.int y) := by
    rcases ft 0 (by omega) (by omega) with h | h <;> rw [h] <;> simp
  obtain ⟨y, hy⟩ := start
  simp [em, hd, mkLst_some, ra, hr, pr_mk, hy]
  refine OW_seq (OW_loopN (I_across b c f) ⟨[(0, y)], none, none, rfl, by simp, by simp⟩ ?_ ?_)
  · rintro k d ρ hk ⟨acc, x4, x5, rfl, hne, hl⟩
    obtain ⟨hkn, rfl⟩ := upto_get hk
    refine ⟨_, by simp; rfl, ?_⟩
    have r4 : atI (rowI 17 f) (1 + (k : Int)) = some (.int (f (1 + k))) := ra _ (by omega) (by omega)
    obtain ⟨p, hp, -⟩ := last_pr hne
    have hl2 : acc.length < 16777216 := by omega
    have hlet : ∃ l : Str, (l = "E" ∨ l = "N" ∨ l = "S") ∧ ∀ s0 : D, atI [D.str "N", D.str "S"] (f 0) = some s0 → atI [D.str "E", s0] (f (1 + k)) = some (.str l) := by
      rcases ft (1 + k) (by omega) (by omega) with h | h
      · exact ⟨"E", .inl rfl, fun s0 _ => by rw [h]; simp⟩
      · rcases ft 0 (by omega) (by omega) with h0 | h0
        · exact ⟨"N", .inr (.inl rfl), fun s0 e => by rw [h0] at e; simp at e; rw [h, ← e]; simp⟩
        · exact ⟨"S", .inr (.inr rfl), fun s0 e => by rw [h0] at e; simp at e; rw [h, ← e]; simp⟩
    obtain ⟨l, hl0, hl1⟩ := hlet
    have hs : ∃ s0 : D, atI [D.str "N", D.str "S"] (f 0) = some s0 ∧ s0.frz = s0 := by
      rcases ft 0 (by omega) (by omega) with h0 | h0 <;> rw [h0] <;> simp
    obtain ⟨s0, hs0, hs1⟩ := hs
    have hl3 := hl1 s0 hs0
    obtain ⟨q, hq⟩ := moved_ok p l hl0
    simp [r4, hp, hq, on_board_ok, app_pr hl2, ra, hs0, hl3]
    refine OW_ite (fun _ => ?_) (fun _ => ?_)
    · exact ⟨acc ++ [q], _, _, by rw [List.map_append]; rfl, by simp, by rw [List.length_append]; simp; omega⟩
    · exact ⟨acc, _, _, rfl, hne, by omega⟩
  · rintro ρ ⟨acc, x4, x5, rfl, hne, hl⟩
    obtain ⟨p, hp, -⟩ := last_pr hne
    obtain ⟨q, hq, -⟩ := first_pr hne
    rw [upto_length] at hl
    simp [hp, hq, gLt_pr]
    refine OW_seq (OW_ite (fun _ => ?_) (fun _ => ?_))
    · simp
      exact ⟨acc.reverse, by simp, by simpa using hne, by rw [List.length_reverse]; exact hl⟩
    · simp
      exact ⟨acc, rfl, hne, hl⟩
theorem part_ok (ps : List (Int × Int)) (hne : ps ≠ []) (hn : ps.length ≤ 1000000) (i j : Int) (hi : 0 ≤ i ∧ i < ps.length) (hj : 0 ≤ j ∧ j < ps.length) : ∃ d, F__law_part [.tup (ps.map pr), .int i, .int j] = .ok d ∧ IsPs ps.length d := by
  unfold F__law_part
  refine fn_ok' ?_
  unfold b__law_part
  simp [gSl_prs_lst]
  generalize hlo : (if j < i then j else i) = lo
  generalize hhi : (if i < j then j else i) = hi'
  have h0 : 0 ≤ lo ∧ lo ≤ hi' ∧ hi' < ps.length := by
    split at hlo <;> split at hhi <;> omega
  have hl := cutL_len ps (lo := lo) (hi := hi' + 1) h0.1 (by omega) (by omega)
  generalize cutL ps (some lo) (some (hi' + 1)) = acc at hl
  have hne : acc ≠ [] := fun z => by rw [z] at hl; simp at hl; omega
  obtain ⟨p, hp, -⟩ := last_pr hne
  obtain ⟨q, hq, -⟩ := first_pr hne
  simp [hp, hq, gLt_pr]
  refine OW_seq (OW_ite (fun _ => ?_) (fun _ => ?_))
  · simp
    exact ⟨acc.reverse, by simp, by simpa using hne, by rw [List.length_reverse]; omega⟩
  · simp
    exact ⟨acc, rfl, hne, by omega⟩
theorem turned_ok (ps : List (Int × Int)) (hne : ps ≠ []) (hn : ps.length ≤ 1000000) (q : Int) : ∃ d, F__law_turned [.tup (ps.map pr), .int q] = .ok d ∧ IsPs ps.length d := by
  unfold F__law_turned
  refine fn_ok' ?_
  unfold b__law_turned
  by_cases h3 : (ps.length : Int) < 3
  · simp [h3]
    exact ⟨ps, rfl, hne, Nat.le_refl _⟩
  · have hm : gMod (.int q) (.int ((ps.length : Int) - 2)) = some (.int (q % ((ps.length : Int) - 2))) := gMod_int (by omega)
    have b0 := Int.emod_nonneg q (b := (ps.length : Int) - 2) (by omega)
    have b1 := Int.emod_lt_of_pos q (b := (ps.length : Int) - 2) (by omega)
    simp [h3, hm]
    generalize q % ((ps.length : Int) - 2) = m at b0 b1
    obtain ⟨p1, h1, -⟩ := atI_pr (ps := ps) (i := 1 + m - 1) (by omega)
    obtain ⟨p2, h2, -⟩ := atI_pr (ps := ps) (i := 1 + m + 1) (by omega)
    obtain ⟨p3, h4, -⟩ := atI_pr (ps := ps) (i := 1 + m) (by omega)
    have st := fun v => store_pr (ps := ps) (k := 1 + m) (by omega) v
    simp [h1, h2, h4, pr_mk, st]
    refine ⟨ps.set (1 + m).toNat (p1.1 + p2.1 - p3.1, p1.2 + p2.2 - p3.2), ?_, by simpa using hne, by simp⟩
    rw [← List.map_set, prs_frz]
def I_between (ps : List (Int × Int)) (c : Int) (f : Int → Int) (e : Int × Int) (k : Nat) (ρ : En) : Prop := ∃ (acc : List (Int × Int)) (x5 x6 : Option D), ρ = [some (.tup (ps.map pr)), some (.int c), some (.lst true (rowI 16 f)), some (pr e), some (.lst true (acc.map pr)), x5, x6] ∧ acc ≠ [] ∧ acc.length ≤ k + 1
theorem between_ok (ps : List (Int × Int)) (hne : ps ≠ []) (hn : ps.length ≤ 17) (c : Int) : ∃ d, F__law_between [.tup (ps.map pr), .int c] = .ok d ∧ IsPs 17 d := by
  obtain ⟨f, hf, hd⟩ := draws_ok c (List.replicate 16 (.int 2)) (by
    intro d m
    rw [(List.mem_replicate.mp m).2]; exact ⟨_, rfl, by omega, by omega⟩) (by simp)
  simp at hd
  have em : gMul (.lst true [.int 2]) (.int 16) = some (.lst true (List.replicate 16 (.int 2))) := gMul_rep 2 (by decide)
  have h1 : 1 ≤ ps.length := by cases ps with | nil => exact absurd rfl hne | cons _ _ => simp
  have hr : rangeTo [.int ((ps.length : Int) - 1)] = .ok (upto 0 (ps.length - 1)) := by
    rw [rangeTo_int (by omega)]
    congr 2
    omega
  have ra : ∀ i : Int, 0 ≤ i → i < 16 → atI (rowI 16 f) i = some (.int (f i)) := fun i h0 h1 => rowI_at ⟨h0, h1⟩
  obtain ⟨e, he, -⟩ := last_pr hne
  obtain ⟨s, hs, -⟩ := first_pr hne
  unfold F__law_between
  refine fn_ok' ?_
  unfold b__law_between
  simp [em, hd, hr, he, hs]
  refine OW_seq (OW_loopN (I_between ps c f e) ⟨[s], none, none, rfl, by simp, by simp⟩ ?_ ?_)
  · rintro k d ρ hk ⟨acc, x5, x6, rfl, hne, hl⟩
    obtain ⟨hkn, rfl⟩ := upto_get hk
    refine ⟨_, by simp; rfl, ?_⟩
    obtain ⟨p, hp, -⟩ := last_pr hne
    have hl2 : acc.length < 16777216 := by omega
    have rk := ra k (by omega) (by omega)
    have fin : ∀ q y6, I_between ps c f e (k + 1) [some (.tup (ps.map pr)), some (.int c), some (.lst true (rowI 16 f)), some (pr e), some (.lst true (acc.map pr ++ [pr q])), some (.int k), y6] := fun q y6 =>
      ⟨acc ++ [q], _, _, by rw [List.map_append]; rfl, by simp, by rw [List.length_append]; simp; omega⟩
    by_cases c1 : p.1 < e.1 <;> by_cases c2 : f k = 0 <;> by_cases c3 : p.2 = e.2 <;> by_cases c4 : p.2 < e.2 <;> simp [hp, rk, c1, c2, c3, c4, pr_mk, app_pr hl2] <;> exact fin _ _
  · rintro ρ ⟨acc, x5, x6, rfl, hne, hl⟩
    rw [upto_length] at hl
    simp
    exact ⟨acc, rfl, hne, by omega⟩
def I_thr (b : Int × Int) (ps : List (Int × Int)) (c : Int) (f : Int → Int) (z : Int) (n : Nat) (k : Nat) (ρ : En) : Prop := ∃ (acc : List (Int × Int)) (x6 x7 : Option D), ρ = [some (pr b), some (.tup (ps.map pr)), some (.int c), some (.lst false (rowI 20 f)), some (.int z), some (.lst true (acc.map pr)), x6, x7] ∧ acc ≠ [] ∧ acc.length ≤ n + k
theorem through_ok (b : Int × Int) (ps : List (Int × Int)) (hne : ps ≠ []) (hn : ps.length ≤ 17) (c : Int) : ∃ d, F__law_through [pr b, .tup (ps.map pr), .int c] = .ok d ∧ IsPs 17 d := by
  obtain ⟨f, hf, hd⟩ := draws_ok c ([.int 17, .int 9, .int 9, .int 3] ++ List.replicate 16 (.int 2)) (by
    intro d m
    rcases List.mem_append.mp m with m | m
    · simp only [List.mem_cons, List.not_mem_nil, or_false] at m
      rcases m with rfl | rfl | rfl | rfl <;> exact ⟨_, rfl, by omega, by omega⟩
    · rw [(List.mem_replicate.mp m).2]; exact ⟨_, rfl, by omega, by omega⟩) (by simp)
  have f0 := hf 0 _ rfl
  have f1 := hf 1 _ rfl
  have f2 := hf 2 _ rfl
  have ft : ∀ k : Nat, k < 16 → 0 ≤ f (4 + (k : Int)) ∧ f (4 + (k : Int)) < 2 := fun k hk => by
    have := hf (4 + k) 2 (by
      rw [List.getElem?_append_right (by simp), show 4 + k - [D.int 17, D.int 9, D.int 9, D.int 3].length = k by simp, List.getElem?_replicate, if_pos hk])
    rw [Int.natCast_add] at this
    exact this
  simp at hd f0 f1 f2
  have em : gMul (.lst true [.int 2]) (.int 16) = some (.lst true (List.replicate 16 (.int 2))) := gMul_rep 2 (by decide)
  have hr1 : rangeTo [.int (f 1)] = .ok (upto 0 (f 1).toNat) := rangeTo_int (by omega)
  have hr2 : rangeTo [.int (f 2)] = .ok (upto 0 (f 2).toNat) := rangeTo_int (by omega)
  have ra : ∀ i : Int, 0 ≤ i → i < 20 → atI (rowI 20 f) i = some (.int (f i)) := fun i h0 h1 => rowI_at ⟨h0, h1⟩
  obtain ⟨e, he, -⟩ := last_pr hne
  obtain ⟨s, hs, -⟩ := first_pr hne
  have h1 : 1 ≤ ps.length := by cases ps with | nil => exact absurd rfl hne | cons _ _ => simp
  have hm : ∀ i : Int, gMod (.int i) (.int ps.length) = some (.int (i % ps.length)) := fun i => gMod_int (by omega)
  obtain ⟨t, ht, -⟩ := atI_pr (ps := ps) (i := f 0 % ps.length) ⟨Int.emod_nonneg _ (by omega), Int.emod_lt_of_pos _ (by omega)⟩
  unfold F__law_through
  refine fn_ok' ?_
  unfold b__law_through
  have main : ∀ z : Int, z = 1 ∨ z = -1 → OW (fun _ => IsPs 17 .non) (fun _ => False) (fun _ => False) (IsPs 17) (fun _ _ => False) ((loopD (gSet 6) (sSeq (sSet 7 ((((([5] ++ []) ++ []) ++ []) ++ ([3] ++ ([] ++ [6]))) ++ (((([5] ++ []) ++ []) ++ ([4] ++ ([3] ++ ([] ++ [6])))) ++ [])) (eN mkTup (eCons (e2 gAdd (e2 gSub (e2 gIx (e2 gIx (eVar 5) (eC (.int 0))) (eC (.int 0))) (eC (.int 1))) (e2 gIx (eVar 3) (e2 gAdd (eC (.int 4)) (eVar 6)))) (eCons (e2 gSub (e2 gIx (e2 gIx (eVar 5) (eC (.int 0))) (eC (.int 1))) (e2 gMul (eVar 4) (e2 gIx (eVar 3) (e2 gAdd (eC (.int 4)) (eVar 6))))) eNil))))
    (sIf (tV (eCall F__law_on_board (eCons (eVar 0) (eCons (eVar 7) eNil))))
    (sSet 5 (([7] ++ []) ++ [5]) (e2 gAdd (eN mkLst (eCons (eVar 7) eNil)) (eVar 5)))
    sNx)) (upto 0 (f 1).toNat) [some (pr b), some (.tup (ps.map pr)), some (.int c), some (.lst false (rowI 20 f)), some (.int z), some (.lst true [pr t]), none, none]).seq
    (sSeq (sFor (([3] ++ []) ++ []) (iR1 (eCons (e2 gIx (eVar 3) (eC (.int 2))) eNil)) (gSet 6)
    (sSeq (sSet 7 ((((([5] ++ []) ++ []) ++ []) ++ ([3] ++ ([] ++ [6]))) ++ (((([5] ++ []) ++ []) ++ ([4] ++ ([3] ++ ([] ++ [6])))) ++ [])) (eN mkTup (eCons (e2 gSub (e2 gAdd (e2 gIx (e2 gIx (eVar 5) (e1 gNeg (eC (.int 1)))) (eC (.int 0))) (eC (.int 1))) (e2 gIx (eVar 3) (e2 gAdd (eC (.int 12)) (eVar 6)))) (eCons (e2 gAdd (e2 gIx (e2 gIx (eVar 5) (e1 gNeg (eC (.int 1)))) (eC (.int 1))) (e2 gMul (eVar 4) (e2 gIx (eVar 3) (e2 gAdd (eC (.int 12)) (eVar 6))))) eNil))))
    (sIf (tV (eCall F__law_on_board (eCons (eVar 0) (eCons (eVar 7) eNil))))
    (sMut "list" 5 ([7] ++ []) gAppend (eCons (eVar 7) eNil))
    sNx)))
    (sSeq (sIf (tV (e2 (gLt) (e2 gIx (eVar 5) (e1 gNeg (eC (.int 1)))) (e2 gIx (eVar 5) (eC (.int 0)))))
    (sSet 5 [5] (e1 gRevL (eVar 5)))
    sNx)
    (sRet (eN gTupOf (eCons (eVar 5) eNil)))))) := fun z hz => by
    have mz : ∀ i : Int, gMul (.int z) (.int i) = some (.int (z * i)) := fun i => gMul_int (by omega)
    refine OW_seq (OW_loopN (I_thr b ps c f z 1) ⟨[t], none, none, rfl, by simp, by simp⟩ ?_ ?_)
    · rintro k d ρ hk ⟨acc, x6, x7, rfl, hne, hl⟩
      obtain ⟨hkn, rfl⟩ := upto_get hk
      refine ⟨_, by simp; rfl, ?_⟩
      obtain ⟨p, hp, -⟩ := first_pr hne
      have r4 := ra (4 + k) (by omega) (by omega)
      simp [hp, r4, mz, pr_mk, on_board_ok, gAdd_lst]
      have ga : ∀ q, gAdd (.lst true [pr q]) (.lst false (acc.map pr)) = some (.lst true ((q :: acc).map pr)) := fun q => by
        rw [gAdd_lst (by simp; omega)]; rfl
      simp [ga]
      refine OW_ite (fun _ => ?_) (fun _ => ?_)
      · exact ⟨_ :: acc, _, _, rfl, by simp, by simp; omega⟩
      · exact ⟨acc, _, _, rfl, hne, by omega⟩
    · rintro ρ ⟨acc, x6, x7, rfl, hne, hl⟩
      rw [upto_length] at hl
      simp [ra, hr2]
      refine OW_seq (OW_loopN (I_thr b ps c f z (1 + (f 1).toNat)) ⟨acc, _, _, rfl, hne, by omega⟩ ?_ ?_)
      · rintro k d ρ hk ⟨acc, x6, x7, rfl, hne, hl⟩
        obtain ⟨hkn, rfl⟩ := upto_get hk
        refine ⟨_, by simp; rfl, ?_⟩
        obtain ⟨p, hp, -⟩ := last_pr hne
        have r4 := ra (12 + k) (by omega) (by omega)
        have hl2 : acc.length < 16777216 := by omega
        simp [hp, r4, mz, pr_mk, on_board_ok, app_pr hl2]
        refine OW_ite (fun _ => ?_) (fun _ => ?_)
        · exact ⟨acc ++ [_], _, _, by rw [List.map_append]; rfl, by simp, by rw [List.length_append]; simp; omega⟩
        · exact ⟨acc, _, _, rfl, hne, by omega⟩
      · rintro ρ ⟨acc, x6, x7, rfl, hne, hl⟩
        obtain ⟨p, hp, -⟩ := last_pr hne
        obtain ⟨q, hq, -⟩ := first_pr hne
        rw [upto_length] at hl
        simp [hp, hq, gLt_pr]
        refine OW_seq (OW_ite (fun _ => ?_) (fun _ => ?_))
        · simp
          exact ⟨acc.reverse, by simp, by simpa using hne, by rw [List.length_reverse]; omega⟩
        · simp
          exact ⟨acc, rfl, hne, by omega⟩
  by_cases c1 : e.2 < s.2 <;> by_cases c2 : f 3 = 0 <;> simp [em, gAdd_lst, hd, mkLst_some, ra, hr1, he, hs, c1, c2, hm, ht]
  · simpa using main 1 (.inl rfl)
  · simpa using main (-1) (.inr rfl)
  · simpa using main (-1) (.inr rfl)
  · simpa using main 1 (.inl rfl)
def Is17 (d : D) : Prop := IsPs 17 d
theorem other_ok (b : Int × Int) (hb : Small b) (ps : List (Int × Int)) (hne : ps ≠ []) (hn : ps.length ≤ 17) (c1 c2 : Int) : ∃ d, F__law_other [pr b, .tup (ps.map pr), .int c1, .int c2] = .ok d ∧ Is17 d := by
  obtain ⟨f, hf, hd⟩ := draws_ok c1 [.int 8, .int 17, .int 17] (by
    intro d m
    simp only [List.mem_cons, List.not_mem_nil, or_false] at m
    rcases m with rfl | rfl | rfl <;> exact ⟨_, rfl, by omega, by omega⟩) (by simp)
  simp at hd
  have h1 : 1 ≤ ps.length := by cases ps with | nil => exact absurd rfl hne | cons _ _ => simp
  have hm : ∀ i : Int, gMod (.int i) (.int ps.length) = some (.int (i % ps.length)) := fun i => gMod_int (by omega)
  have mb : ∀ i : Int, 0 ≤ i % ps.length ∧ i % ps.length < ps.length := fun i => ⟨Int.emod_nonneg _ (by omega), Int.emod_lt_of_pos _ (by omega)⟩
  obtain ⟨d1, e1, q1⟩ := path_ok b hb c2
  obtain ⟨d2, e2, ps2, rfl, ne2, l2⟩ := turned_ok ps hne (by omega) (f 1)
  obtain ⟨d3, e3, q3⟩ := turned_ok ps2 ne2 (by omega) (f 2)
  obtain ⟨d4, e4, q4⟩ := between_ok ps hne hn c2
  obtain ⟨d5, e5, q5⟩ := part_ok ps hne (by omega) (f 1 % ps.length) (f 2 % ps.length) (mb _) (mb _)
  obtain ⟨d6, e6, q6⟩ := through_ok b ps hne hn c2
  have up : ∀ {n : Nat} {d : D}, n ≤ 17 → IsPs n d → Is17 d := fun hn ⟨qs, a, b, c⟩ => ⟨qs, a, b, by omega⟩
  unfold F__law_other
  refine fn_ok' ?_
  unfold b__law_other
  by_cases a1 : f 0 ≤ 1
  · simp [hd, a1, e1]; exact q1
  by_cases a2 : f 0 = 2
  · simp [hd, a2, e2]; exact ⟨ps2, rfl, ne2, by omega⟩
  by_cases a3 : f 0 = 3
  · simp [hd, a3, e2, e3]; exact up (by omega) q3
  by_cases a4 : f 0 = 4
  · simp [hd, a4, e4]; exact q4
  by_cases a5 : f 0 = 5
  · simp [hd, a5, hm, e5]; exact up hn q5
  · simp [hd, a1, a2, a3, a4, a5, e6]; exact q6
/-! ### certificates -/
abbrev P2 := Int × Int
def tri (t : P2 × P2 × P2) : D := .tup [pr t.1, pr t.2.1, pr t.2.2]
theorem tri_mk (a b c : P2) : D.tup [pr a, pr b, pr c] = tri (a, b, c) := rfl
@[simp] theorem tri_frz (t : P2 × P2 × P2) : (tri t).frz = tri t := by simp [tri]
@[simp] theorem tri_clean (t : P2 × P2 × P2) : (tri t).clean = true := by simp [tri]
@[simp] theorem tri_0 (t : P2 × P2 × P2) : gIx (tri t) (.int 0) = some (pr t.1) := by simp [tri]
@[simp] theorem tri_1 (t : P2 × P2 × P2) : gIx (tri t) (.int 1) = some (pr t.2.1) := by simp [tri]
@[simp] theorem tri_2 (t : P2 × P2 × P2) : gIx (tri t) (.int 2) = some (pr t.2.2) := by simp [tri]
def IsTri (d : D) : Prop := ∃ t, d = tri t
def OrTri (d : D) : Prop := d = .non ∨ IsTri d
theorem first_clash_ok (ps os : List P2) (hn : ps.length ≤ 17) : ∃ d, F__law_first_clash [.tup (ps.map pr), .tup (os.map pr)] = .ok d ∧ OrTri d := by
  have hr : rangeTo [.int (ps.length : Int)] = .ok (upto 0 ps.length) := by
    rw [rangeTo_int (by omega)]; rfl
  unfold F__law_first_clash
  refine fn_ok' ?_
  unfold b__law_first_clash
  have hc := compD_upto (lo := 0) (n := ps.length) (g := gSet 3) (fc := tV (e2 (gInS false) (e2 gIx (eVar 0) (eVar 3)) (eVar 1))) (fe := eVar 3) (ρ := [some (.tup (ps.map pr)), some (.tup (os.map pr)), none, none]) (fun k => decide (ps.getD k (0, 0) ∈ os)) (fun k => .int k) (fun k hk => ⟨_, by simp; rfl, by
    obtain ⟨p, hp⟩ : ∃ p, ps[k]? = some p := ⟨_, List.getElem?_eq_getElem hk⟩
    have : atI (ps.map pr) (k : Int) = some (pr p) := by
      rw [atI_pos (by omega) (by simpa using hk)]; simp [hp]
    simp [this, hp], fun _ => by simp⟩)
  have hs : ∀ k : Nat, k ∈ (List.range ps.length).filter (fun k => decide (ps.getD k (0, 0) ∈ os)) → k < ps.length := fun k m => List.mem_range.mp (List.mem_filter.mp m).1
  have hpw : ((List.range ps.length).filter (fun k => decide (ps.getD k (0, 0) ∈ os))).Pairwise (· < ·) := List.Pairwise.filter _ List.pairwise_lt_range
  have hlen : ((List.range ps.length).filter (fun k => decide (ps.getD k (0, 0) ∈ os))).length ≤ 17 := Nat.le_trans (List.length_filter_le _ _) (by rw [List.length_range]; exact hn)
  simp [hr]
  rw [hc]
  generalize (List.range ps.length).filter (fun k => decide (ps.getD k (0, 0) ∈ os)) = sh at hs hpw hlen
  rw [nats_def]
  have hr2 : rangeFT [.int 1, .int (sh.length : Int)] = .ok (upto 1 ((sh.length : Int) - 1).toNat) := rangeFT_int (by omega)
  simp [hr2]
  refine OW_seq (OW_loopR (fun _ ρ => ∃ x3 : Option D, ρ = [some (.tup (ps.map pr)), some (.tup (os.map pr)), some (.lst false (nats sh)), x3]) ⟨none, rfl⟩ ?_ ?_)
  · rintro k d ρ hk ⟨x3, rfl⟩
    obtain ⟨hkn, rfl⟩ := upto_get hk
    refine ⟨_, by simp; rfl, ?_⟩
    have k1 : k + 1 < sh.length := by omega
    have ea := List.getElem?_eq_getElem (l := sh) (i := k) (by omega)
    have eb := List.getElem?_eq_getElem (l := sh) (i := k + 1) k1
    have lt : sh[k] < sh[k + 1] := List.pairwise_iff_getElem.mp hpw k (k + 1) (by omega) k1 (by omega)
    have hb := hs _ (List.getElem_mem k1)
    have na := nats_at ea
    have nb := nats_at eb
    generalize sh[k] = u at ea na lt
    generalize sh[k + 1] = v at eb nb lt hb
    have na' : atI (nats sh) (1 + (k : Int) - 1) = some (.int u) := by rw [show (1 + (k : Int) - 1) = k by omega]; exact na
    have nb' : atI (nats sh) (1 + (k : Int)) = some (.int v) := by rw [show (1 + (k : Int)) = ((k + 1 : Nat) : Int) by omega]; exact nb
    obtain ⟨p, hp, -⟩ := atI_pr (ps := ps) (i := u) (by omega)
    obtain ⟨q, hq, -⟩ := atI_pr (ps := ps) (i := (u : Int) + 1) (by omega)
    obtain ⟨r, hr, -⟩ := atI_pr (ps := ps) (i := v) (by omega)
    by_cases c : (v : Int) = (u : Int) + 1 <;> simp [na', nb', c, hp, hq, hr]
    exact .inr ⟨(p, q, r), rfl⟩
  · rintro ρ ⟨x3, rfl⟩
    simp
    exact .inl rfl
theorem first_ok (ps os : List P2) (hne : ps ≠ []) (hn : ps.length ≤ 17) (q : Int) : ∃ t, F__law_first [.tup (ps.map pr), .tup (os.map pr), .int q] = .ok (tri t) := by
  obtain ⟨d, e, hd⟩ := first_clash_ok ps os hn
  have h1 : 1 ≤ ps.length := by cases ps with | nil => exact absurd rfl hne | cons _ _ => simp
  have hm : gMod (.int q) (.int ps.length) = some (.int (q % ps.length)) := gMod_int (by omega)
  obtain ⟨a, ha, -⟩ := first_pr hne
  obtain ⟨c, hc, -⟩ := last_pr hne
  obtain ⟨b, hb, -⟩ := atI_pr (ps := ps) (i := q % ps.length) ⟨Int.emod_nonneg _ (by omega), Int.emod_lt_of_pos _ (by omega)⟩
  unfold F__law_first
  rw [fn_app]
  unfold b__law_first
  rcases hd with rfl | ⟨t, rfl⟩
  · exact ⟨(a, b, c), by simp [e, gIsN, hm, ha, hb, hc, tri]⟩
  · exact ⟨t, by simp [e, gIsN, tri]⟩
theorem replaced_ok (t : P2 × P2 × P2) (k : Int) (hk : 0 ≤ k ∧ k < 3) (p : P2) : ∃ t', F__law_replaced [tri t, .int k, pr p] = .ok (tri t') := by
  have e : tri t = .tup ([t.1, t.2.1, t.2.2].map pr) := rfl
  have st := store_pr (ps := [t.1, t.2.1, t.2.2]) (k := k) hk p
  unfold F__law_replaced
  rw [fn_app, e]
  unfold b__law_replaced
  have h3 : k = 0 ∨ k = 1 ∨ k = 2 := by omega
  rcases h3 with rfl | rfl | rfl
  · exact ⟨(p, t.2.1, t.2.2), by simp at st; simp [st, tri]⟩
  · exact ⟨(t.1, p, t.2.2), by simp at st; simp [st, tri]⟩
  · exact ⟨(t.1, t.2.1, p), by simp at st; simp [st, tri]⟩
/-! ### the two judges -/
def judge (ps os : List P2) (t : P2 × P2 × P2) : Bool :=
  decide ((t.1 ∈ ps ∧ t.2.2 ∈ ps ∧ t.2.1 ∈ ps) ∧ (t.1 ∈ os ∧ t.2.2 ∈ os ∧ t.2.1 ∉ os) ∧ (min (ps.idxOf t.1) (ps.idxOf t.2.2) < ps.idxOf t.2.1 ∧ ps.idxOf t.2.1 < max (ps.idxOf t.1) (ps.idxOf t.2.2)))
theorem conflict_ok (ps os : List P2) (t : P2 × P2 × P2) : F_is_conflict [.tup (ps.map pr), .tup (os.map pr), tri t] = .ok (.bl (judge ps os t)) := by
  obtain ⟨a, c, b⟩ := t
  unfold F_is_conflict judge
  rw [fn_app]
  unfold b_is_conflict
  have e : tri (a, c, b) = .tup [pr a, pr c, pr b] := rfl
  rw [e]
  by_cases h1 : a ∈ ps
  · by_cases h2 : b ∈ ps
    · by_cases h3 : c ∈ ps
      · by_cases h4 : a ∈ os
        · by_cases h5 : b ∈ os
          · by_cases h6 : c ∈ os
            · simp [h1, h2, h3, h4, h5, h6]
            · simp [h1, h2, h3, h4, h5, h6, gIndex_pr]
              have i1 := gIndex_pr (o := false) h1
              have i2 := gIndex_pr (o := false) h2
              have i3 := gIndex_pr (o := false) h3
              generalize ps.idxOf a = x at *
              generalize ps.idxOf b = y at *
              generalize ps.idxOf c = z at *
              by_cases hxy : y < x
              · have m1 : min x y = y := by omega
                have m2 : max x y = x := by omega
                by_cases hz : y < z <;> by_cases hz2 : z < x <;> simp [hxy, i3, hz, hz2, m1, m2]
              · have m1 : min x y = x := by omega
                have m2 : max x y = y := by omega
                by_cases hz : x < z <;> by_cases hz2 : z < y <;> simp [hxy, i3, hz, hz2, m1, m2]
          · simp [h1, h2, h3, h4, h5]
        · simp [h1, h2, h3, h4]
      · simp [h1, h2, h3]
    · simp [h1, h2]
  · simp [h1]
def ix3 (ps : List P2) (t : P2 × P2 × P2) : List Nat := [ps.idxOf t.1, ps.idxOf t.2.1, ps.idxOf t.2.2]
def I_acc (ps os : List P2) (t : P2 × P2 × P2) (k : Nat) (ρ : En) : Prop := ∃ (x4 x5 : Option D), ρ = [some (.tup (ps.map pr)), some (.tup (os.map pr)), some (tri t), some (.lst true (nats ((ix3 ps t).take k))), x4, x5, none] ∧ ∀ p ∈ [t.1, t.2.1, t.2.2].take k, p ∈ ps
theorem places_head (ps : List P2) (p : P2) : ((List.range ps.length).filter fun k => decide (ps.getD k (0, 0) = p)).head? = if p ∈ ps then some (ps.idxOf p) else none := by
  rw [List.head?_filter]
  split
  · rename_i h
    have hl : ps.idxOf p < ps.length := List.idxOf_lt_length_iff.mpr h
    rw [List.find?_range_eq_some]
    refine ⟨?_, by simpa using hl, fun j hj => ?_⟩
    · rw [decide_eq_true_iff, List.getD_eq_getElem?_getD, List.getElem?_eq_getElem hl]
      simp
    · have hjl : j < ps.length := by omega
      have := List.not_of_lt_findIdx (p := (· == p)) (xs := ps) (i := j) hj
      rw [List.getD_eq_getElem?_getD, List.getElem?_eq_getElem hjl]
      simpa using this
  · rename_i h
    rw [List.find?_eq_none]
    intro k hk
    have hkl := List.mem_range.mp hk
    rw [decide_eq_true_iff, List.getD_eq_getElem?_getD, List.getElem?_eq_getElem hkl]
    intro e
    exact h (by rw [← e]; exact List.getElem_mem hkl)
def hits (ps : List P2) (p : P2) : List Nat := (List.range ps.length).filter fun k => decide (ps.getD k (0, 0) = p)
theorem hits_nil (ps : List P2) (p : P2) (h : p ∉ ps) : hits ps p = [] := by
  have := places_head ps p
  rw [if_neg h] at this
  unfold hits
  cases e : (List.range ps.length).filter fun k => decide (ps.getD k (0, 0) = p) with
  | nil => rfl
  | cons a r => rw [e] at this; cases this
theorem hits_cons (ps : List P2) (p : P2) (h : p ∈ ps) : ∃ r, hits ps p = ps.idxOf p :: r := by
  have := places_head ps p
  rw [if_pos h] at this
  unfold hits
  cases e : (List.range ps.length).filter fun k => decide (ps.getD k (0, 0) = p) with
  | nil => rw [e] at this; cases this
  | cons a r => rw [e] at this; cases this; exact ⟨r, rfl⟩
theorem judge_no (ps os : List P2) (t : P2 × P2 × P2) (p : P2) (hp : p ∈ [t.1, t.2.1, t.2.2]) (h : p ∉ ps) : judge ps os t = false := by
  unfold judge
  rw [decide_eq_false_iff_not]
  rintro ⟨⟨h1, h2, h3⟩, -⟩
  simp only [List.mem_cons, List.not_mem_nil, or_false] at hp
  rcases hp with rfl | rfl | rfl
  · exact h h1
  · exact h h3
  · exact h h2
theorem take_next {α : Type} {l : List α} {k : Nat} {x : α} (h : l[k]? = some x) : l.take (k + 1) = l.take k ++ [x] := by rw [List.take_add_one, h]; rfl
theorem accepts_ok (ps os : List P2) (hn : ps.length ≤ 1000) (t : P2 × P2 × P2) : F__law_accepts [.tup (ps.map pr), .tup (os.map pr), tri t] = .ok (.bl (judge ps os t)) := by
  have hr : rangeTo [.int (ps.length : Int)] = .ok (upto 0 ps.length) := by
    rw [rangeTo_int (by omega)]; rfl
  have key : ∃ d, F__law_accepts [.tup (ps.map pr), .tup (os.map pr), tri t] = .ok d ∧ d = .bl (judge ps os t) := by
    unfold F__law_accepts
    refine fn_ok' ?_
    unfold b__law_accepts
    have it : seqItems (tri t) = .ok [pr t.1, pr t.2.1, pr t.2.2] := by unfold tri; simp
    simp [it]
    refine OW_seq (OW_loopR (I_acc ps os t) ⟨none, none, rfl, by simp⟩ ?_ ?_)
    · rintro k d ρ hk ⟨x4, x5, rfl, hm⟩
      refine ⟨_, by simp; rfl, ?_⟩
      have hpk : ∃ p, d = pr p ∧ [t.1, t.2.1, t.2.2][k]? = some p := by
        have : ([t.1, t.2.1, t.2.2].map pr)[k]? = some d := hk
        rw [List.getElem?_map] at this
        obtain ⟨p, e1, e2⟩ := Option.map_eq_some_iff.mp this
        exact ⟨p, e2.symm, e1⟩
      obtain ⟨p, rfl, hp⟩ := hpk
      have hc : compD (gSet 6) (tV (e2 gEq (e2 gIx (eVar 0) (eVar 6)) (eVar 4))) (eVar 6) [some (.tup (ps.map pr)), none, none, none, some (pr p), none, none] (upto 0 ps.length) = .ok (nats (hits ps p)) := compD_upto (lo := 0) (n := ps.length) (g := gSet 6) (fc := tV (e2 gEq (e2 gIx (eVar 0) (eVar 6)) (eVar 4))) (fe := eVar 6) (ρ := [some (.tup (ps.map pr)), none, none, none, some (pr p), none, none]) (fun k => decide (ps.getD k (0, 0) = p)) (fun k => .int k) (fun k hk => ⟨_, by simp; rfl, by
        obtain ⟨q, hq⟩ : ∃ q, ps[k]? = some q := ⟨_, List.getElem?_eq_getElem hk⟩
        have : atI (ps.map pr) (k : Int) = some (pr q) := by
          rw [atI_pos (by omega) (by simpa using hk)]; simp [hq]
        simp [this, hq], fun _ => by simp⟩)
      have hk3 : k < 3 := by
        have := (List.getElem?_eq_some_iff.mp hp).1
        simpa using this
      by_cases hmem : p ∈ ps
      · obtain ⟨r, er⟩ := hits_cons ps p hmem
        have a0 : atI (nats (ps.idxOf p :: r)) 0 = some (.int (ps.idxOf p)) := nats_at (i := 0) rfl
        have ga : ∀ l : List Nat, l.length ≤ 3 → gAppend (.lst true (nats l)) [.int (ps.idxOf p)] = some (.lst true (nats (l ++ [ps.idxOf p])), .non) := fun l hl => by
          rw [gAppend_lst (by rw [nats_length]; omega)]
          unfold nats
          rw [List.map_append]
          rfl
        have hl : ((ix3 ps t).take k).length ≤ 3 := by rw [List.length_take]; omega
        have ga' := ga _ hl
        have hx : (ix3 ps t)[k]? = some (ps.idxOf p) := by
          have : ([t.1, t.2.1, t.2.2].map ps.idxOf)[k]? = some (ps.idxOf p) := by rw [List.getElem?_map, hp]; rfl
          exact this
        have nz : ¬ ((r.length : Int) + 1 = 0) := by omega
        rw [er] at hc
        simp [hr, hc, a0, ga', nz]
        refine ⟨some (pr p), _, by rw [take_next hx], fun q hq => ?_⟩
        rw [take_next hp] at hq
        rcases List.mem_append.mp hq with z | z
        · exact hm q z
        · rw [List.mem_singleton.mp z]; exact hmem
      · rw [hits_nil ps p hmem] at hc
        have jn := judge_no ps os t p (List.mem_of_getElem? hp) hmem
        simp [hr, hc, jn]
    · rintro ρ ⟨x4, x5, rfl, hm⟩
      have hl3 : (ix3 ps t).take 3 = [ps.idxOf t.1, ps.idxOf t.2.1, ps.idxOf t.2.2] := rfl
      have m1 : t.1 ∈ ps := hm _ (by simp)
      have m2 : t.2.1 ∈ ps := hm _ (by simp)
      have m3 : t.2.2 ∈ ps := hm _ (by simp)
      by_cases h4 : t.1 ∈ os
      · by_cases h5 : t.2.2 ∈ os
        · by_cases h6 : t.2.1 ∈ os
          · simp [h4, h5, h6, judge]
          · simp [h4, h5, h6, judge, m1, m2, m3, hl3]
            have n0 : ∀ a b c : Nat, atI (nats [a, b, c]) 0 = some (.int a) := fun a b c => nats_at (i := 0) rfl
            have n1 : ∀ a b c : Nat, atI (nats [a, b, c]) 1 = some (.int b) := fun a b c => nats_at (i := 1) rfl
            have n2 : ∀ a b c : Nat, atI (nats [a, b, c]) 2 = some (.int c) := fun a b c => nats_at (i := 2) rfl
            generalize ps.idxOf t.1 = x
            generalize ps.idxOf t.2.2 = y
            generalize ps.idxOf t.2.1 = z
            simp [n0, n1, n2]
            by_cases hxy : y < x
            · have m1 : min x y = y := by omega
              have m2 : max x y = x := by omega
              have m3 : ¬ x < y := by omega
              by_cases hz : y < z <;> by_cases hz2 : z < x <;> simp [hxy, hz, hz2, m1, m2, m3]
            · have m1 : min x y = x := by omega
              have m2 : max x y = y := by omega
              by_cases m3 : x < y
              · by_cases hz : x < z <;> by_cases hz2 : z < y <;> simp [hxy, hz, hz2, m1, m2, m3]
              · have : x = y := by omega
                subst this
                by_cases hz : x < z <;> by_cases hz2 : z < x <;> simp [hz, hz2]
        · simp [h4, h5, judge]
      · simp [h4, judge]
  obtain ⟨d, e, rfl⟩ := key
  exact e
theorem tris_val (ts : List (P2 × P2 × P2)) : valL (ts.map tri) = true := by
  rw [valL_all, List.all_eq_true]
  intro d m
  obtain ⟨k, _, e⟩ := List.mem_map.mp m
  rw [← e]; simp [tri]
@[simp] theorem tris_frz (ts : List (P2 × P2 × P2)) : frzL (ts.map tri) = ts.map tri := (valL_frz (tris_val ts)).1
@[simp] theorem tris_clean (ts : List (P2 × P2 × P2)) : cleanL (ts.map tri) = true := (valL_frz (tris_val ts)).2
theorem judged_ok (ps os : List P2) (hn : ps.length ≤ 1000) (ts : List (P2 × P2 × P2)) : ∃ d, F__law_judged [.tup (ps.map pr), .tup (os.map pr), .lst false (ts.map tri)] = .ok d ∧ d = .bl true := by
  unfold F__law_judged
  refine fn_ok' ?_
  unfold b__law_judged
  simp
  refine OW_seq (OW_loopN (fun _ ρ => ∃ x3 x4 x5 x6 : Option D, ρ = [some (.tup (ps.map pr)), some (.tup (os.map pr)), some (.lst false (ts.map tri)), x3, x4, x5, x6]) ⟨_, _, _, _, rfl⟩ ?_ ?_)
  · rintro k d ρ hk ⟨x3, x4, x5, x6, rfl⟩
    refine ⟨_, by simp; rfl, ?_⟩
    obtain ⟨t, -, rfl⟩ : ∃ t, ts[k]? = some t ∧ tri t = d := by
      rw [List.getElem?_map] at hk
      exact Option.map_eq_some_iff.mp hk
    have hr : rangeTo [.int 2] = .ok (upto 0 2) := rangeTo_int (by omega)
    simp [accepts_ok ps os hn, hr]
    refine OW_loopN (fun _ ρ => ∃ x5 x6 : Option D, ρ = [some (.tup (ps.map pr)), some (.tup (os.map pr)), some (.lst false (ts.map tri)), some (tri t), some (.bl (judge ps os t)), x5, x6]) ⟨_, _, rfl⟩ ?_ ?_
    · rintro k d ρ hk ⟨x5, x6, rfl⟩
      obtain ⟨hkn, rfl⟩ := upto_get hk
      refine ⟨_, by simp; rfl, ?_⟩
      have gi : ∀ b, gIsi "bool" (.bl b) = some (.bl true) := fun b => rfl
      have gn : ∀ b, gNe (.bl b) (.bl b) = some (.bl false) := fun b => by cases b <;> rfl
      simp [conflict_ok, gi, gn]
    · rintro ρ ⟨x5, x6, rfl⟩
      simp
  · rintro ρ ⟨x3, x4, x5, x6, rfl⟩
    simp
def IsTris (d : D) : Prop := ∃ ts : List (P2 × P2 × P2), d = .lst true (ts.map tri)
theorem app_tri {ts : List (P2 × P2 × P2)} (h : ts.length < 16777216) (q : P2 × P2 × P2) : gAppend (.lst true (ts.map tri)) [tri q] = some (.lst true ((ts ++ [q]).map tri), .non) := by
  rw [gAppend_lst (by rw [List.length_map]; exact h), List.map_append]
  rfl
def I_ce (ρ0 : En) (ps : List P2) (n k : Nat) (ρ : En) : Prop := ∃ (ts : List (P2 × P2 × P2)) (x10 x11 x12 x13 x14 x15 : Option D), ρ = ρ0 ++ [some (.lst true (ts.map tri)), x10, x11, x12, x13, x14, x15] ∧ ts.length ≤ n + 1000 * k
theorem certificates_ok (b : P2) (hb : Small b) (ps os : List P2) (hne : ps ≠ []) (hn : ps.length ≤ 17) (hne2 : os ≠ []) (hn2 : os.length ≤ 17) (c1 c2 : Int) : ∃ d, F__law_certificates [pr b, .tup (ps.map pr), .tup (os.map pr), .int c1, .int c2] = .ok d ∧ IsTris d := by
  obtain ⟨hb1, hb2, hb3, hb4⟩ := hb
  obtain ⟨f, hf, hd⟩ := draws_ok c1 [.int 17, .int 17, .int 17, .int 3, .int 3, .int 8, .int 10] (by
    intro d m
    simp only [List.mem_cons, List.not_mem_nil, or_false] at m
    rcases m with rfl | rfl | rfl | rfl | rfl | rfl | rfl <;> exact ⟨_, rfl, by omega, by omega⟩) (by simp)
  have f3 := hf 3 _ rfl
  have f4 := hf 4 _ rfl
  have f6 := hf 6 _ rfl
  simp at hd f3 f4 f6
  obtain ⟨g, hg, hd2⟩ := draws_ok c2 [.int (b.1 + 7), .int (b.2 + 7), .int (b.1 + 7), .int (b.2 + 7), .int (b.1 + 7), .int (b.2 + 7), .int (b.1 + 7), .int (b.2 + 7)] (by
    intro d m
    simp only [List.mem_cons, List.not_mem_nil, or_false] at m
    rcases m with rfl | rfl | rfl | rfl | rfl | rfl | rfl | rfl <;> exact ⟨_, rfl, by omega, by omega⟩) (by simp)
  simp at hd2
  have em : gMul (.lst true [.int (b.1 + 7), .int (b.2 + 7)]) (.int 4) = some (.lst true [.int (b.1 + 7), .int (b.2 + 7), .int (b.1 + 7), .int (b.2 + 7), .int (b.1 + 7), .int (b.2 + 7), .int (b.1 + 7), .int (b.2 + 7)]) := rfl
  have h1 : 1 ≤ ps.length := by cases ps with | nil => exact absurd rfl hne | cons _ _ => simp
  have hm : ∀ i : Int, gMod (.int i) (.int ps.length) = some (.int (i % ps.length)) := fun i => gMod_int (by omega)
  obtain ⟨p0, hp0, -⟩ := atI_pr (ps := ps) (i := f 0 % ps.length) ⟨Int.emod_nonneg _ (by omega), Int.emod_lt_of_pos _ (by omega)⟩
  obtain ⟨p1, hp1, -⟩ := atI_pr (ps := ps) (i := f 1 % ps.length) ⟨Int.emod_nonneg _ (by omega), Int.emod_lt_of_pos _ (by omega)⟩
  obtain ⟨p2, hp2, -⟩ := atI_pr (ps := ps) (i := f 2 % ps.length) ⟨Int.emod_nonneg _ (by omega), Int.emod_lt_of_pos _ (by omega)⟩
  obtain ⟨t1, ht1⟩ := first_ok ps os hne hn (f 0)
  obtain ⟨t2, ht2⟩ := first_ok os ps hne2 hn2 (f 1)
  have far : ∃ z, atI [D.int 9, .int 10, .int 16, .int 17, .int 32, .int 64, .int 100, .int 128, .int 256, .int 1000] (f 6) = some (.int z) := by
    have : f 6 = 0 ∨ f 6 = 1 ∨ f 6 = 2 ∨ f 6 = 3 ∨ f 6 = 4 ∨ f 6 = 5 ∨ f 6 = 6 ∨ f 6 = 7 ∨ f 6 = 8 ∨ f 6 = 9 := by omega
    rcases this with h | h | h | h | h | h | h | h | h | h <;> rw [h] <;> exact ⟨_, rfl⟩
  obtain ⟨z, hz⟩ := far
  have nine : ∃ y, atI [D.int (-1000000000), .int 1000000000] (f 6 % 2) = some (.int y) := by
    rcases two_or (Int.emod_nonneg (f 6) (b := 2) (by omega)) (Int.emod_lt_of_pos (f 6) (b := 2) (by omega)) with h | h <;> rw [h] <;> exact ⟨_, rfl⟩
  obtain ⟨y, hy⟩ := nine
  have hr4 : rangeTo [.int 4] = .ok (upto 0 4) := rangeTo_int (by omega)
  have u4 : upto 0 4 = [.int 0, .int 1, .int 2, .int 3] := rfl
  have hm2 : ∀ i : Int, gMod (.int i) (.int 2) = some (.int (i % 2)) := fun i => gMod_int (by omega)
  unfold F__law_certificates
  refine fn_ok' ?_
  unfold b__law_certificates
  have mk10 : ∀ a b c d e f g h i j : D, mkLst [a, b, c, d, e, f, g, h, i, j] = some (.lst true [a, b, c, d, e, f, g, h, i, j]) := fun _ _ _ _ _ _ _ _ _ _ => mkLst_some (by simp)
  have hc : ∃ cs : List P2, cs.length = 4 ∧ compD (gSet 15) cYes (eN mkTup (eCons (e2 TL.gSub (e2 gIx (eVar 7) (e2 gMul (eC (.int 2)) (eVar 15))) (eC (.int 3))) (eCons (e2 TL.gSub (e2 gIx (eVar 7) (e2 gAdd (e2 gMul (eC (.int 2)) (eVar 15)) (eC (.int 1)))) (eC (.int 3))) eNil))) [none, none, none, none, none, none, none, some (.lst false [.int (g 0), .int (g 1), .int (g 2), .int (g 3), .int (g 4), .int (g 5), .int (g 6), .int (g 7)]), none, none, none, none, none, none, none, none] (upto 0 4) = .ok (cs.map pr) := by
    rw [u4]
    refine ⟨[(g 0 - 3, g 1 - 3), (g 2 - 3, g 3 - 3), (g 4 - 3, g 5 - 3), (g 6 - 3, g 7 - 3)], rfl, ?_⟩
    simp [compD_cons, compD_nil, gMul_int, pr]
  obtain ⟨cs, hcl, hc⟩ := hc
  simp [hd, hd2, em, mk10, hz, hr4, hc]
  have M0 : ∀ cs : List P2, cs.length = 4 → ∃ q, atI (cs.map pr) (f 3) = some (pr q) := fun cs hl => by
    obtain ⟨q, hq, -⟩ := atI_pr (ps := cs) (i := f 3) (by omega)
    exact ⟨q, hq⟩
  refine OW_mid (fun ρ => ∃ cs : List P2, cs.length = 4 ∧ ρ = [some (pr b), some (.tup (ps.map pr)), some (.tup (os.map pr)), some (.int c1), some (.int c2), some (.lst true [.int (f 0), .int (f 1), .int (f 2), .int (f 3), .int (f 4), .int (f 5), .int (f 6)]), some (.int z), some (.lst true [.int (g 0), .int (g 1), .int (g 2), .int (g 3), .int (g 4), .int (g 5), .int (g 6), .int (g 7)]), some (.lst true (cs.map pr)), none, none, none, none, none, none, none]) ?_ ?_
  · obtain ⟨q, hq⟩ := M0 cs hcl
    have st := fun v => store_pr (ps := cs) (k := f 3) (by omega) v
    by_cases c5 : f 5 = 0
    · simp [c5, hq, hm2, hy, pr_mk, st]
      exact ⟨cs.set (f 3).toNat _, by simpa using hcl, by rw [List.map_set]⟩
    · simp [c5]
      exact ⟨cs, hcl, rfl⟩
  rintro ρ ⟨cs, hcl, rfl⟩
  rw [sSeq_app]
  refine OW_mid (fun ρ => ∃ cs : List P2, cs.length = 4 ∧ ρ = [some (pr b), some (.tup (ps.map pr)), some (.tup (os.map pr)), some (.int c1), some (.int c2), some (.lst true [.int (f 0), .int (f 1), .int (f 2), .int (f 3), .int (f 4), .int (f 5), .int (f 6)]), some (.int z), some (.lst true [.int (g 0), .int (g 1), .int (g 2), .int (g 3), .int (g 4), .int (g 5), .int (g 6), .int (g 7)]), some (.lst true (cs.map pr)), none, none, none, none, none, none, none]) ?_ ?_
  · obtain ⟨q, hq⟩ := M0 cs hcl
    have st := fun v => store_pr (ps := cs) (k := f 3) (by omega) v
    by_cases c5 : f 5 = 1
    · simp [c5, hq, hm2, hy, pr_mk, st]
      exact ⟨cs.set (f 3).toNat _, by simpa using hcl, by rw [List.map_set]⟩
    · simp [c5]
      exact ⟨cs, hcl, rfl⟩
  rintro ρ ⟨cs, hcl, rfl⟩
  obtain ⟨q0, q1, q2, q3, rfl⟩ : ∃ q0 q1 q2 q3, cs = [q0, q1, q2, q3] := by
    match cs, hcl with
    | [q0, q1, q2, q3], _ => exact ⟨q0, q1, q2, q3, rfl⟩
  simp [tri_mk, hm, hp0, hp1, hp2, ht1, ht2, gAppend_lst]
  refine OW_mid (fun ρ => ∃ (ts : List (P2 × P2 × P2)) (x10 x11 x12 x13 x14 x15 : Option D), ts.length ≤ 16 ∧ ρ = [some (pr b), some (.tup (ps.map pr)), some (.tup (os.map pr)), some (.int c1), some (.int c2), some (.lst false [.int (f 0), .int (f 1), .int (f 2), .int (f 3), .int (f 4), .int (f 5), .int (f 6)]), some (.int z), some (.lst true [.int (g 0), .int (g 1), .int (g 2), .int (g 3), .int (g 4), .int (g 5), .int (g 6), .int (g 7)]), some (.lst true [pr q0, pr q1, pr q2, pr q3]), some (.lst true (ts.map tri)), x10, x11, x12, x13, x14, x15]) ?_ ?_
  · refine OW_loopN (fun k ρ => ∃ (ts : List (P2 × P2 × P2)) (x10 x11 x12 x13 x14 x15 : Option D), ts.length ≤ 2 + 7 * k ∧ ρ = [some (pr b), some (.tup (ps.map pr)), some (.tup (os.map pr)), some (.int c1), some (.int c2), some (.lst false [.int (f 0), .int (f 1), .int (f 2), .int (f 3), .int (f 4), .int (f 5), .int (f 6)]), some (.int z), some (.lst true [.int (g 0), .int (g 1), .int (g 2), .int (g 3), .int (g 4), .int (g 5), .int (g 6), .int (g 7)]), some (.lst true [pr q0, pr q1, pr q2, pr q3]), some (.lst true (ts.map tri)), x10, x11, x12, x13, x14, x15]) ⟨[(q0, q1, q2), (p0, p1, p2)], none, none, none, none, none, none, by simp, rfl⟩ ?_ ?_
    · rintro k d ρ hk ⟨ts, x10, x11, x12, x13, x14, x15, hl, rfl⟩
      have hk2 : k < 2 := (List.getElem?_eq_some_iff.mp hk).1
      obtain ⟨t, rfl⟩ : ∃ t, d = tri t := by
        have : k = 0 ∨ k = 1 := by omega
        rcases this with rfl | rfl
        · exact ⟨t1, (Option.some.inj hk).symm⟩
        · exact ⟨t2, (Option.some.inj hk).symm⟩
      refine ⟨_, by simp; rfl, ?_⟩
      obtain ⟨r1, hr1⟩ := replaced_ok t (f 3) f3 q3
      obtain ⟨r2, hr2⟩ := replaced_ok t (f 4) f4 p2
      obtain ⟨sp, hsp⟩ : ∃ sp, gIx (tri t) (.int (f 4)) = some (pr sp) := by
        have : f 4 = 0 ∨ f 4 = 1 ∨ f 4 = 2 := by omega
        rcases this with h | h | h <;> rw [h]
        · exact ⟨_, tri_0 t⟩
        · exact ⟨_, tri_1 t⟩
        · exact ⟨_, tri_2 t⟩
      obtain ⟨r3, hr3⟩ := replaced_ok t (f 4) f4 (sp.1 - 1, sp.2 + z)
      obtain ⟨r4, hr4'⟩ := replaced_ok t (f 4) f4 (sp.1 + 1, sp.2 - z)
      have ga : ∀ (l : List D) (y : D), l.length < 16777216 → gAppend (.lst true l) [y] = some (.lst true (l ++ [y]), .non) := fun l y h => gAppend_lst h
      have g1 := fun y => ga (ts.map tri) y (by rw [List.length_map]; omega)
      have g2 := fun a y => ga (ts.map tri ++ [a]) y (by rw [List.length_append, List.length_map]; simp; omega)
      have g3 := fun a b y => ga (ts.map tri ++ [a, b]) y (by rw [List.length_append, List.length_map]; simp; omega)
      have g4 := fun a b c y => ga (ts.map tri ++ [a, b, c]) y (by rw [List.length_append, List.length_map]; simp; omega)
      have g5 := fun a b c d y => ga (ts.map tri ++ [a, b, c, d]) y (by rw [List.length_append, List.length_map]; simp; omega)
      have g6 := fun a b c d e y => ga (ts.map tri ++ [a, b, c, d, e]) y (by rw [List.length_append, List.length_map]; simp; omega)
      have g7 := fun a b c d e g y => ga (ts.map tri ++ [a, b, c, d, e, g]) y (by rw [List.length_append, List.length_map]; simp; omega)
      simp [g1, g2, g3, g4, g5, g6, g7, tri_mk, hr1, hr2, hsp, hr3, hr4', pr_mk, hm, hp2]
      exact ⟨ts ++ [t, (t.2.2, t.2.1, t.1), (t.2.1, t.1, t.2.2), r1, r2, r3, r4], by rw [List.length_append]; simp; omega, by simp [tri]⟩
    · rintro ρ ⟨ts, x10, x11, x12, x13, x14, x15, hl, rfl⟩
      exact ⟨ts, x10, x11, x12, x13, x14, x15, hl, rfl⟩
  rintro ρ ⟨ts, x10, x11, x12, x13, x14, x15, hl, rfl⟩
  have gt : ∀ (ts : List (P2 × P2 × P2)) (a b c : P2), ts.length < 16777216 → gAppend (.lst true (ts.map tri)) [tri (a, b, c)] = some (.lst true ((ts ++ [(a, b, c)]).map tri), .non) := fun ts a b c h => app_tri h _
  rw [sSeq_app]
  refine OW_mid (fun ρ => ∃ (ts : List (P2 × P2 × P2)) (x12 x13 x14 x15 : Option D), ρ = [some (pr b), some (.tup (ps.map pr)), some (.tup (os.map pr)), some (.int c1), some (.int c2), some (.lst false [.int (f 0), .int (f 1), .int (f 2), .int (f 3), .int (f 4), .int (f 5), .int (f 6)]), some (.int z), some (.lst true [.int (g 0), .int (g 1), .int (g 2), .int (g 3), .int (g 4), .int (g 5), .int (g 6), .int (g 7)]), some (.lst true [pr q0, pr q1, pr q2, pr q3]), some (.lst true (ts.map tri)), x10, x11, x12, x13, x14, x15]) ?_ ?_
  · by_cases c5 : ps.length ≤ 5
    · have c5' : (ps.length : Int) ≤ 5 := by omega
      simp [c5']
      have item : ∀ {k : Nat} {d : D}, (ps.map pr)[k]? = some d → ∃ p, d = pr p ∧ k < 5 := fun {k d} hk => by
        have hk5 := (List.getElem?_eq_some_iff.mp hk).1
        rw [List.length_map] at hk5
        rw [List.getElem?_map] at hk
        obtain ⟨p, _, e⟩ := Option.map_eq_some_iff.mp hk
        exact ⟨p, e.symm, by omega⟩
      refine OW_loopN (fun k ρ => ∃ (ts : List (P2 × P2 × P2)) (x12 x13 x14 x15 : Option D), ts.length ≤ 16 + 25 * k ∧ ρ = [some (pr b), some (.tup (ps.map pr)), some (.tup (os.map pr)), some (.int c1), some (.int c2), some (.lst false [.int (f 0), .int (f 1), .int (f 2), .int (f 3), .int (f 4), .int (f 5), .int (f 6)]), some (.int z), some (.lst true [.int (g 0), .int (g 1), .int (g 2), .int (g 3), .int (g 4), .int (g 5), .int (g 6), .int (g 7)]), some (.lst true [pr q0, pr q1, pr q2, pr q3]), some (.lst true (ts.map tri)), x10, x11, x12, x13, x14, x15]) ⟨ts, x12, x13, x14, x15, hl, rfl⟩ ?_ ?_
      · rintro k d ρ hk ⟨ts, x12, x13, x14, x15, hl, rfl⟩
        obtain ⟨a, rfl, hk5⟩ := item hk
        refine ⟨_, by simp; rfl, ?_⟩
        simp
        refine OW_loopN (fun j ρ => ∃ (ts : List (P2 × P2 × P2)) (x13 x14 x15 : Option D), ts.length ≤ 16 + 25 * k + 5 * j ∧ ρ = [some (pr b), some (.tup (ps.map pr)), some (.tup (os.map pr)), some (.int c1), some (.int c2), some (.lst false [.int (f 0), .int (f 1), .int (f 2), .int (f 3), .int (f 4), .int (f 5), .int (f 6)]), some (.int z), some (.lst true [.int (g 0), .int (g 1), .int (g 2), .int (g 3), .int (g 4), .int (g 5), .int (g 6), .int (g 7)]), some (.lst true [pr q0, pr q1, pr q2, pr q3]), some (.lst true (ts.map tri)), x10, x11, some (pr a), x13, x14, x15]) ⟨ts, x13, x14, x15, hl, rfl⟩ ?_ ?_
        · rintro j d ρ hk ⟨ts, x13, x14, x15, hl, rfl⟩
          obtain ⟨c, rfl, hj5⟩ := item hk
          refine ⟨_, by simp; rfl, ?_⟩
          simp
          refine OW_loopN (fun m ρ => ∃ (ts : List (P2 × P2 × P2)) (x14 x15 : Option D), ts.length ≤ 16 + 25 * k + 5 * j + m ∧ ρ = [some (pr b), some (.tup (ps.map pr)), some (.tup (os.map pr)), some (.int c1), some (.int c2), some (.lst false [.int (f 0), .int (f 1), .int (f 2), .int (f 3), .int (f 4), .int (f 5), .int (f 6)]), some (.int z), some (.lst true [.int (g 0), .int (g 1), .int (g 2), .int (g 3), .int (g 4), .int (g 5), .int (g 6), .int (g 7)]), some (.lst true [pr q0, pr q1, pr q2, pr q3]), some (.lst true (ts.map tri)), x10, x11, some (pr a), some (pr c), x14, x15]) ⟨ts, x14, x15, hl, rfl⟩ ?_ ?_
          · rintro m d ρ hk ⟨ts, x14, x15, hl, rfl⟩
            obtain ⟨e, rfl, hm5⟩ := item hk
            refine ⟨_, by simp; rfl, ?_⟩
            have g := gt ts a c e (by omega)
            simp [tri_mk, g]
            exact ⟨ts ++ [(a, c, e)], by rw [List.length_append]; simp; omega, by simp⟩
          · rintro ρ ⟨ts, x14, x15, hl, rfl⟩
            rw [List.length_map] at hl
            exact ⟨ts, by omega, _, _, _, rfl⟩
        · rintro ρ ⟨ts, x13, x14, x15, hl, rfl⟩
          rw [List.length_map] at hl
          exact ⟨ts, by omega, _, _, _, _, rfl⟩
      · rintro ρ ⟨ts, x12, x13, x14, x15, hl, rfl⟩
        exact ⟨ts, _, _, _, _, rfl⟩
    · have c5' : ¬ (ps.length : Int) ≤ 5 := by omega
      simp [c5']
      exact ⟨ts, rfl⟩
  · rintro ρ ⟨ts, x12, x13, x14, x15, rfl⟩
    simp
    exact ⟨ts, rfl⟩
theorem iota_pr (n : Nat) (h : Nat → P2) : (List.range n).map (fun k => pr (h k)) = ((List.range n).map h).map pr := by rw [List.map_map]; rfl
/-- two rows of corners with at least three of them -/
def IsTwo (d : D) : Prop := ∃ ps os : List P2, d = .lst true [.tup (ps.map pr), .tup (os.map pr)] ∧ 3 ≤ ps.length ∧ ps.length ≤ 50 ∧ 3 ≤ os.length ∧ os.length ≤ 50
theorem comp_prs (fe : En → R D) (s : Nat) (ρ : En) (lo : Int) (n : Nat) (h : Nat → P2) (hs : s < ρ.length) (he : ∀ k : Nat, fe (ρ.set s (some (.int (lo + k)))) = .ok (pr (h k))) : ∃ ps : List P2, compD (gSet s) cYes fe ρ (upto lo n) = .ok (ps.map pr) ∧ ps.length = n := by
  refine ⟨(List.range n).map h, ?_, by simp⟩
  rw [compD_upto (lo := lo) (n := n) (g := gSet s) (fc := cYes) (fe := fe) (ρ := ρ) (fun _ => true) (fun k => pr (h k)) (fun k hk => ⟨ρ.set s (some (.int (lo + k))), if_pos hs, rfl, fun _ => he k⟩), filter_true, iota_pr]
theorem comp_prs2 (fe : En → R D) (s : Nat) (ρ : En) (qs : List P2) (h : P2 → P2) (hs : s < ρ.length) (he : ∀ q, fe (ρ.set s (some (pr q))) = .ok (pr (h q))) : ∃ ps : List P2, compD (gSet s) cYes fe ρ (qs.map pr) = .ok (ps.map pr) ∧ ps.length = qs.length := by
  refine ⟨qs.map h, ?_, by simp⟩
  rw [compD_map pr (fun _ => true) (fun q => pr (h q)) qs (fun q hq => ⟨_, if_pos hs, rfl, fun _ => he q⟩), filter_true, List.map_map]
  rfl
theorem crossing_ok (f : Int → Int) (h1 : 0 ≤ f 1 ∧ f 1 < 5) (h2 : 0 ≤ f 2 ∧ f 2 < 5) (h3 : 0 ≤ f 3 ∧ f 3 < 4) (h4 : 0 ≤ f 4 ∧ f 4 < 4) : ∃ d, F__law_crossing [.lst false [.int (f 0), .int (f 1), .int (f 2), .int (f 3), .int (f 4), .int (f 5), .int (f 6)]] = .ok d ∧ IsTwo d := by
  unfold F__law_crossing
  refine fn_ok' ?_
  unfold b__law_crossing
  have r : ∀ i j : Int, 0 ≤ i → i ≤ 20 → 0 ≤ j → j ≤ 20 → rangeFT [.int i, .int j] = .ok (upto i (j - i).toNat) := fun i j a b c d => rangeFT_int (by omega)
  have ra := r (f 1) (f 1 + 1 + f 3 + 1) (by omega) (by omega) (by omega) (by omega)
  have rb := r (f 2 + 1) (f 2 + 1 + f 4 + 1) (by omega) (by omega) (by omega) (by omega)
  have rc := r (f 2) (f 2 + 1 + f 4 + 1) (by omega) (by omega) (by omega) (by omega)
  have rd := r (f 1 + 1) (f 1 + 1 + f 3 + 1) (by omega) (by omega) (by omega) (by omega)
  obtain ⟨pa, ca, la⟩ := comp_prs (eN mkTup (eCons (eVar 5) (eCons (e2 gIx (eVar 0) (eC (D.int 2))) eNil))) 5 [some (.lst false [.int (f 0), .int (f 1), .int (f 2), .int (f 3), .int (f 4), .int (f 5), .int (f 6)]), some (.int (f 1 + 1 + f 3)), none, none, none, none, none, none] (f 1) (f 1 + 1 + f 3 + 1 - f 1).toNat (fun k => (f 1 + k, f 2)) (by simp) (fun k => by simp [pr_mk])
  obtain ⟨pb, cb, lb⟩ := comp_prs (eN mkTup (eCons (eVar 1) (eCons (eVar 6) eNil))) 6 [some (.lst false [.int (f 0), .int (f 1), .int (f 2), .int (f 3), .int (f 4), .int (f 5), .int (f 6)]), some (.int (f 1 + 1 + f 3)), some (.int (f 2 + 1 + f 4)), none, none, none, none, none] (f 2 + 1) (f 2 + 1 + f 4 + 1 - (f 2 + 1)).toNat (fun k => (f 1 + 1 + f 3, f 2 + 1 + k)) (by simp) (fun k => by simp [pr_mk])
  obtain ⟨pc, cc, lc⟩ := comp_prs (eN mkTup (eCons (e2 gIx (eVar 0) (eC (D.int 1))) (eCons (eVar 6) eNil))) 6 [some (.lst false [.int (f 0), .int (f 1), .int (f 2), .int (f 3), .int (f 4), .int (f 5), .int (f 6)]), none, some (.int (f 2 + 1 + f 4)), none, none, none, none, none] (f 2) (f 2 + 1 + f 4 + 1 - f 2).toNat (fun k => (f 1, f 2 + k)) (by simp) (fun k => by simp [pr_mk])
  obtain ⟨pd, cd, ld⟩ := comp_prs (eN mkTup (eCons (eVar 5) (eCons (eVar 2) eNil))) 5 [some (.lst false [.int (f 0), .int (f 1), .int (f 2), .int (f 3), .int (f 4), .int (f 5), .int (f 6)]), some (.int (f 1 + 1 + f 3)), some (.int (f 2 + 1 + f 4)), none, none, none, none, none] (f 1 + 1) (f 1 + 1 + f 3 + 1 - (f 1 + 1)).toNat (fun k => (f 1 + 1 + k, f 2 + 1 + f 4)) (by simp) (fun k => by simp [pr_mk])
  have gab : gAdd (.lst true (pa.map pr)) (.lst true (pb.map pr)) = some (.lst true ((pa ++ pb).map pr)) := by
    rw [gAdd_lst (by simp; omega), List.map_append]
  have gcd : gAdd (.lst true (pc.map pr)) (.lst true (pd.map pr)) = some (.lst true ((pc ++ pd).map pr)) := by
    rw [gAdd_lst (by simp; omega), List.map_append]
  have l1 : 3 ≤ (pa ++ pb).length ∧ (pa ++ pb).length ≤ 50 := by rw [List.length_append]; omega
  have l2 : 3 ≤ (pc ++ pd).length ∧ (pc ++ pd).length ≤ 50 := by rw [List.length_append]; omega
  generalize pa ++ pb = A at gab l1
  generalize pc ++ pd = B at gcd l2
  obtain ⟨A2, ce, le⟩ := comp_prs2 (eN mkTup (eCons (e2 gIx (eVar 7) (eC (.int 0))) (eCons (e2 TL.gSub (e2 gAdd (e2 gIx (eVar 0) (eC (.int 2))) (eVar 2)) (e2 gIx (eVar 7) (eC (.int 1)))) eNil))) 7 [some (.lst false [.int (f 0), .int (f 1), .int (f 2), .int (f 3), .int (f 4), .int (f 5), .int (f 6)]), none, some (.int (f 2 + 1 + f 4)), some (.lst false (A.map pr)), none, none, none, none] A (fun q => (q.1, f 2 + (f 2 + 1 + f 4) - q.2)) (by simp) (fun q => by simp [pr_mk])
  obtain ⟨B2, cf, lf⟩ := comp_prs2 (eN mkTup (eCons (e2 gIx (eVar 7) (eC (.int 0))) (eCons (e2 TL.gSub (e2 gAdd (e2 gIx (eVar 0) (eC (.int 2))) (eVar 2)) (e2 gIx (eVar 7) (eC (.int 1)))) eNil))) 7 [some (.lst false [.int (f 0), .int (f 1), .int (f 2), .int (f 3), .int (f 4), .int (f 5), .int (f 6)]), none, some (.int (f 2 + 1 + f 4)), none, some (.lst false (B.map pr)), none, none, none] B (fun q => (q.1, f 2 + (f 2 + 1 + f 4) - q.2)) (by simp) (fun q => by simp [pr_mk])
  simp [ra, rb, rc, rd, ca, cb, cc, cd, gab, gcd, ce, cf]
  by_cases h0 : f 0 = 1
  · rw [if_pos h0]
    simp
    exact ⟨A2, B2, rfl, by omega, by omega, by omega, by omega⟩
  · rw [if_neg h0]
    simp
    exact ⟨A, B, rfl, by omega, by omega, by omega, by omega⟩
theorem crossing_judged_ok (c : Int) : ∃ d, F__law_crossing_judged [.int c] = .ok d ∧ d = .bl true := by
  obtain ⟨f, hf, hd⟩ := draws_ok c [.int 2, .int 5, .int 5, .int 4, .int 4, .int 7, .int 7] (by
    intro d m
    simp only [List.mem_cons, List.not_mem_nil, or_false] at m
    rcases m with rfl | rfl | rfl | rfl | rfl | rfl | rfl <;> exact ⟨_, rfl, by omega, by omega⟩) (by simp)
  have f1 := hf 1 _ rfl
  have f2 := hf 2 _ rfl
  have f3 := hf 3 _ rfl
  have f4 := hf 4 _ rfl
  simp at hd f1 f2 f3 f4
  obtain ⟨d, hx, ps, os, rfl, hp1, hp2, ho1, ho2⟩ := crossing_ok f f1 f2 f3 f4
  have hr : rangeTo [.int 2] = .ok (upto 0 2) := rangeTo_int (by omega)
  have u2 : upto 0 2 = [.int 0, .int 1] := rfl
  have nps : ps ≠ [] := fun z => by rw [z] at hp1; simp at hp1
  have nos : os ≠ [] := fun z => by rw [z] at ho1; simp at ho1
  have hm1 : gMod (.int (f 5)) (.int ((ps.length : Int) - 2)) = some (.int (f 5 % ((ps.length : Int) - 2))) := gMod_int (by omega)
  have hm2 : gMod (.int (f 6)) (.int ((os.length : Int) - 2)) = some (.int (f 6 % ((os.length : Int) - 2))) := gMod_int (by omega)
  have b1 := Int.emod_nonneg (f 5) (b := (ps.length : Int) - 2) (by omega)
  have b2 := Int.emod_lt_of_pos (f 5) (b := (ps.length : Int) - 2) (by omega)
  have b3 := Int.emod_nonneg (f 6) (b := (os.length : Int) - 2) (by omega)
  have b4 := Int.emod_lt_of_pos (f 6) (b := (os.length : Int) - 2) (by omega)
  obtain ⟨i1, hi1, -⟩ := atI_pr (ps := ps) (i := 1 + f 5 % ((ps.length : Int) - 2)) (by omega)
  obtain ⟨i2, hi2, -⟩ := atI_pr (ps := os) (i := 1 + f 6 % ((os.length : Int) - 2)) (by omega)
  obtain ⟨pf, hpf, -⟩ := first_pr nps
  obtain ⟨pl, hpl, -⟩ := last_pr nps
  obtain ⟨qf, hqf, -⟩ := first_pr nos
  obtain ⟨ql, hql, -⟩ := last_pr nos
  unfold F__law_crossing_judged
  refine fn_ok' ?_
  unfold b__law_crossing_judged
  have mk7 : ∀ a b c d e f g : D, mkLst [a, b, c, d, e, f, g] = some (.lst true [a, b, c, d, e, f, g]) := fun _ _ _ _ _ _ _ => mkLst_some (by simp)
  simp [hd, hx, hr, u2, compD_cons, compD_nil, hm1, hm2, hi1, hi2]
  have ga2 : ∀ a b c : D, gAdd (.lst true [a, b]) (.lst true [c]) = some (.lst true [a, b, c]) := fun a b c => gAdd_lst (by simp)
  have ga3 : ∀ a b c d : D, gAdd (.lst false [a, b, c]) (.lst true [d]) = some (.lst true [a, b, c, d]) := fun a b c d => gAdd_lst (by simp)
  refine OW_seq (OW_loopN (fun _ ρ => ∃ x4 x5 x6 x7 : Option D, ρ = [some (.int c), some (.lst true [.int (f 0), .int (f 1), .int (f 2), .int (f 3), .int (f 4), .int (f 5), .int (f 6)]), some (.lst true [.tup (ps.map pr), .tup (os.map pr)]), some (.lst true [pr i1, pr i2]), x4, x5, x6, x7]) ⟨_, _, _, _, rfl⟩ ?_ ?_)
  · rintro k d ρ hk ⟨x4, x5, x6, x7, rfl⟩
    have hk2 : k < 2 := (List.getElem?_eq_some_iff.mp hk).1
    have hk01 : k = 0 ∨ k = 1 := by omega
    rcases hk01 with rfl | rfl
    · obtain rfl : D.int 0 = d := Option.some.inj hk
      refine ⟨_, by simp; rfl, ?_⟩
      obtain ⟨d, ej, rfl⟩ := judged_ok ps os (by omega) [(pf, i1, pl), (pf, i2, pl), (pl, i1, pf), (pf, pl, i1)]
      simp at ej
      simp [compD_cons, compD_nil, hpf, hpl, tri_mk, ga2, ga3, ej]
    · obtain rfl : D.int 1 = d := Option.some.inj hk
      refine ⟨_, by simp; rfl, ?_⟩
      obtain ⟨d, ej, rfl⟩ := judged_ok os ps (by omega) [(qf, i1, ql), (qf, i2, ql), (ql, i2, qf), (qf, ql, i2)]
      simp at ej
      simp [compD_cons, compD_nil, hqf, hql, tri_mk, ga2, ga3, ej]
  · rintro ρ ⟨x4, x5, x6, x7, rfl⟩
    simp
theorem law_true (ns : List Int) (hl : ns.length ≤ 63) (hb : ∀ z ∈ ns, Builtin.Int.intBits z ≤ 1048576) : F_law [.kl (ns.map D.int)] = .ok (.bl true) := by
  have key : ∃ d, F_law [.kl (ns.map D.int)] = .ok d ∧ d = .bl true := by
    obtain ⟨c0, h0⟩ := cell_ok ns 0 (by omega)
    obtain ⟨c1, h1⟩ := cell_ok ns 1 (by omega)
    obtain ⟨c2, h2⟩ := cell_ok ns 2 (by omega)
    obtain ⟨c3, h3⟩ := cell_ok ns 3 (by omega)
    obtain ⟨c4, h4⟩ := cell_ok ns 4 (by omega)
    obtain ⟨c5, h5⟩ := cell_ok ns 5 (by omega)
    obtain ⟨c6, h6⟩ := cell_ok ns 6 (by omega)
    obtain ⟨c7, h7⟩ := cell_ok ns 7 (by omega)
    obtain ⟨b, hb, hbo⟩ := board_ok c0 8 (by omega) (by omega)
    have sb : Small b := ⟨by omega, by omega, by omega, by omega⟩
    obtain ⟨_, hp, p, rfl, pn, pl⟩ := path_ok b sb c1
    obtain ⟨_, ha, a, rfl, an, al⟩ := across_ok b c1
    obtain ⟨f, hf, hd⟩ := draws_ok c6 [.int 2] (by
      intro d m
      simp only [List.mem_cons, List.not_mem_nil, or_false] at m
      rw [m]; exact ⟨_, rfl, by omega, by omega⟩) (by simp)
    simp at hd
    obtain ⟨_, hc, rfl⟩ := crossing_judged_ok c7
    have rest : ∀ (q : List P2), q ≠ [] → q.length ≤ 17 → ∃ (o : List P2) (ts : List (P2 × P2 × P2)), F__law_other [pr b, .tup (q.map pr), .int c2, .int c3] = .ok (.tup (o.map pr)) ∧
        F__law_certificates [pr b, .tup (q.map pr), .tup (o.map pr), .int c4, .int c5] = .ok (.lst true (ts.map tri)) ∧ F__law_judged [.tup (q.map pr), .tup (o.map pr), .lst false (ts.map tri)] = .ok (.bl true) ∧ F__law_judged [.tup (o.map pr), .tup (q.map pr), .lst false (ts.map tri)] = .ok (.bl true) := fun q qn ql => by
      obtain ⟨_, ho, o, rfl, on, ol⟩ := other_ok b sb q qn ql c2 c3
      obtain ⟨_, hce, ts, rfl⟩ := certificates_ok b sb q o qn ql on ol c4 c5
      obtain ⟨_, j1, rfl⟩ := judged_ok q o (by omega) ts
      obtain ⟨_, j2, rfl⟩ := judged_ok o q (by omega) ts
      exact ⟨o, ts, ho, hce, j1, j2⟩
    unfold F_law
    refine fn_ok' ?_
    unfold b_law
    by_cases hf0 : f 0 = 0
    · obtain ⟨o, ts, r1, r2, r3, r4⟩ := rest a an al
      simp [h0, h1, h2, h3, h4, h5, h6, h7, hbo, hp, ha, hd, hf0, r1, r2, r3, r4, hc]
    · obtain ⟨o, ts, r1, r2, r3, r4⟩ := rest p pn pl
      simp [h0, h1, h2, h3, h4, h5, h6, h7, hbo, hp, ha, hd, hf0, r1, r2, r3, r4, hc]
  obtain ⟨d, e, rfl⟩ := key
  exact e

def topS (i : Nat) : Stmt := PySem.Challenge.pw_cornerworld_k02_conflict_certificates_ex.main.body.getD i (.Pass ⟨0, 0, 0, 0⟩)
abbrev st__law_draws : Stmt := topS 4
theorem sc__law_draws : FnScope ["cell", "sizes", "drawn", "rest", "digits", "k", "size", "mixed"] ["cell", "sizes"] (defScope st__law_draws) := ⟨rfl, rfl, rfl, by decide +kernel, rfl, by decide +kernel, by decide +kernel⟩
abbrev st__law_board : Stmt := topS 5
theorem sc__law_board : FnScope ["cell", "most", "d"] ["cell", "most"] (defScope st__law_board) := ⟨rfl, rfl, rfl, by decide +kernel, rfl, by decide +kernel, by decide +kernel⟩
abbrev st__law_moved : Stmt := topS 6
theorem sc__law_moved : FnScope ["corner", "letter"] ["corner", "letter"] (defScope st__law_moved) := ⟨rfl, rfl, rfl, by decide +kernel, rfl, by decide +kernel, by decide +kernel⟩
abbrev st__law_on_board : Stmt := topS 7
theorem sc__law_on_board : FnScope ["board", "corner"] ["board", "corner"] (defScope st__law_on_board) := ⟨rfl, rfl, rfl, by decide +kernel, rfl, by decide +kernel, by decide +kernel⟩
abbrev st__law_path : Stmt := topS 8
theorem sc__law_path : FnScope ["board", "cell", "d", "row", "k", "letter", "corner"] ["board", "cell"] (defScope st__law_path) := ⟨rfl, rfl, rfl, by decide +kernel, rfl, by decide +kernel, by decide +kernel⟩
abbrev st__law_through : Stmt := topS 14
theorem sc__law_through : FnScope ["board", "path", "cell", "d", "steep", "row", "k", "spot"] ["board", "path", "cell"] (defScope st__law_through) := ⟨rfl, rfl, rfl, by decide +kernel, rfl, by decide +kernel, by decide +kernel⟩
abbrev st__law_turned : Stmt := topS 12
theorem sc__law_turned : FnScope ["path", "place", "k", "row"] ["path", "place"] (defScope st__law_turned) := ⟨rfl, rfl, rfl, by decide +kernel, rfl, by decide +kernel, by decide +kernel⟩
abbrev st__law_between : Stmt := topS 13
theorem sc__law_between : FnScope ["path", "cell", "d", "end", "row", "k", "spot"] ["path", "cell"] (defScope st__law_between) := ⟨rfl, rfl, rfl, by decide +kernel, rfl, by decide +kernel, by decide +kernel⟩
abbrev st__law_part : Stmt := topS 11
theorem sc__law_part : FnScope ["path", "i", "j", "row"] ["path", "i", "j"] (defScope st__law_part) := ⟨rfl, rfl, rfl, by decide +kernel, rfl, by decide +kernel, by decide +kernel⟩
abbrev st__law_other : Stmt := topS 15
theorem sc__law_other : FnScope ["board", "path", "choice_cell", "cell", "d"] ["board", "path", "choice_cell", "cell"] (defScope st__law_other) := ⟨rfl, rfl, rfl, by decide +kernel, rfl, by decide +kernel, by decide +kernel⟩
abbrev st__law_first_clash : Stmt := topS 9
theorem sc__law_first_clash : FnScope ["path", "other", "shared", "k"] ["path", "other"] (defScope st__law_first_clash) := ⟨rfl, rfl, rfl, by decide +kernel, rfl, by decide +kernel, by decide +kernel⟩
abbrev st__law_first : Stmt := topS 17
theorem sc__law_first : FnScope ["path", "other", "place", "due"] ["path", "other", "place"] (defScope st__law_first) := ⟨rfl, rfl, rfl, by decide +kernel, rfl, by decide +kernel, by decide +kernel⟩
abbrev st__law_replaced : Stmt := topS 18
theorem sc__law_replaced : FnScope ["told", "place", "corner", "row"] ["told", "place", "corner"] (defScope st__law_replaced) := ⟨rfl, rfl, rfl, by decide +kernel, rfl, by decide +kernel, by decide +kernel⟩
abbrev st__law_certificates : Stmt := topS 19
theorem sc__law_certificates : FnScope ["board", "path", "other", "places_cell", "corners_cell", "d", "far", "f", "corners", "found", "due", "spot", "a", "c", "b", "k"] ["board", "path", "other", "places_cell", "corners_cell"] (defScope st__law_certificates) := ⟨rfl, rfl, rfl, by decide +kernel, rfl, by decide +kernel, by decide +kernel⟩
abbrev st__law_crossing : Stmt := topS 21
theorem sc__law_crossing : FnScope ["d", "east", "north", "flat", "steep", "x", "y", "corner"] ["d"] (defScope st__law_crossing) := ⟨rfl, rfl, rfl, by decide +kernel, rfl, by decide +kernel, by decide +kernel⟩
abbrev st__law_accepts : Stmt := topS 16
theorem sc__law_accepts : FnScope ["path", "other", "told", "places", "corner", "found", "k"] ["path", "other", "told"] (defScope st__law_accepts) := ⟨rfl, rfl, rfl, by decide +kernel, rfl, by decide +kernel, by decide +kernel⟩
abbrev st_is_conflict : Stmt := topS 1
theorem sc_is_conflict : FnScope ["path", "other", "certificate", "a", "c", "b", "row", "start", "end"] ["path", "other", "certificate"] (defScope st_is_conflict) := ⟨rfl, rfl, rfl, by decide +kernel, rfl, by decide +kernel, by decide +kernel⟩
abbrev st__law_judged : Stmt := topS 20
theorem sc__law_judged : FnScope ["path", "other", "certificates", "certificate", "due", "k", "told"] ["path", "other", "certificates"] (defScope st__law_judged) := ⟨rfl, rfl, rfl, by decide +kernel, rfl, by decide +kernel, by decide +kernel⟩
abbrev st__law_crossing_judged : Stmt := topS 22
theorem sc__law_crossing_judged : FnScope ["cell", "d", "both", "inner", "k", "path", "some", "corner"] ["cell"] (defScope st__law_crossing_judged) := ⟨rfl, rfl, rfl, by decide +kernel, rfl, by decide +kernel, by decide +kernel⟩
abbrev st__law_cell : Stmt := topS 3
theorem sc__law_cell : FnScope ["script", "k"] ["script", "k"] (defScope st__law_cell) := ⟨rfl, rfl, rfl, by decide +kernel, rfl, by decide +kernel, by decide +kernel⟩
abbrev st__law_across : Stmt := topS 10
theorem sc__law_across : FnScope ["board", "cell", "d", "row", "k", "corner"] ["board", "cell"] (defScope st__law_across) := ⟨rfl, rfl, rfl, by decide +kernel, rfl, by decide +kernel, by decide +kernel⟩
abbrev st_law : Stmt := topS 23
theorem sc_law : FnScope ["script", "board", "path", "other", "certificates"] ["script"] (defScope st_law) := ⟨rfl, rfl, rfl, by decide +kernel, rfl, by decide +kernel, by decide +kernel⟩
structure Facts (K : PySem.W.Frag) (mg : Str → Option Value) where
  a__law_draws : Addr
  d__law_draws : FuncData
  F__law_draws : Fun K "_law_draws" "_law_draws" st__law_draws a__law_draws d__law_draws
  m__law_draws : mg "_law_draws" = some (.ref a__law_draws)
  b__law_draws : Binds K d__law_draws ["cell", "sizes"] []
  a__law_board : Addr
  d__law_board : FuncData
  F__law_board : Fun K "_law_board" "_law_board" st__law_board a__law_board d__law_board
  m__law_board : mg "_law_board" = some (.ref a__law_board)
  b__law_board : Binds K d__law_board ["cell", "most"] []
  a__law_moved : Addr
  d__law_moved : FuncData
  F__law_moved : Fun K "_law_moved" "_law_moved" st__law_moved a__law_moved d__law_moved
  m__law_moved : mg "_law_moved" = some (.ref a__law_moved)
  b__law_moved : Binds K d__law_moved ["corner", "letter"] []
  a__law_on_board : Addr
  d__law_on_board : FuncData
  F__law_on_board : Fun K "_law_on_board" "_law_on_board" st__law_on_board a__law_on_board d__law_on_board
  m__law_on_board : mg "_law_on_board" = some (.ref a__law_on_board)
  b__law_on_board : Binds K d__law_on_board ["board", "corner"] []
  a__law_path : Addr
  d__law_path : FuncData
  F__law_path : Fun K "_law_path" "_law_path" st__law_path a__law_path d__law_path
  m__law_path : mg "_law_path" = some (.ref a__law_path)
  b__law_path : Binds K d__law_path ["board", "cell"] []
  a__law_through : Addr
  d__law_through : FuncData
  F__law_through : Fun K "_law_through" "_law_through" st__law_through a__law_through d__law_through
  m__law_through : mg "_law_through" = some (.ref a__law_through)
  b__law_through : Binds K d__law_through ["board", "path", "cell"] []
  a__law_turned : Addr
  d__law_turned : FuncData
  F__law_turned : Fun K "_law_turned" "_law_turned" st__law_turned a__law_turned d__law_turned
  m__law_turned : mg "_law_turned" = some (.ref a__law_turned)
  b__law_turned : Binds K d__law_turned ["path", "place"] []
  a__law_between : Addr
  d__law_between : FuncData
  F__law_between : Fun K "_law_between" "_law_between" st__law_between a__law_between d__law_between
  m__law_between : mg "_law_between" = some (.ref a__law_between)
  b__law_between : Binds K d__law_between ["path", "cell"] []
  a__law_part : Addr
  d__law_part : FuncData
  F__law_part : Fun K "_law_part" "_law_part" st__law_part a__law_part d__law_part
  m__law_part : mg "_law_part" = some (.ref a__law_part)
  b__law_part : Binds K d__law_part ["path", "i", "j"] []
  a__law_other : Addr
  d__law_other : FuncData
  F__law_other : Fun K "_law_other" "_law_other" st__law_other a__law_other d__law_other
  m__law_other : mg "_law_other" = some (.ref a__law_other)
  b__law_other : Binds K d__law_other ["board", "path", "choice_cell", "cell"] []
  a__law_first_clash : Addr
  d__law_first_clash : FuncData
  F__law_first_clash : Fun K "_law_first_clash" "_law_first_clash" st__law_first_clash a__law_first_clash d__law_first_clash
  m__law_first_clash : mg "_law_first_clash" = some (.ref a__law_first_clash)
  b__law_first_clash : Binds K d__law_first_clash ["path", "other"] []
  a__law_first : Addr
  d__law_first : FuncData
  F__law_first : Fun K "_law_first" "_law_first" st__law_first a__law_first d__law_first
  m__law_first : mg "_law_first" = some (.ref a__law_first)
  b__law_first : Binds K d__law_first ["path", "other", "place"] []
  a__law_replaced : Addr
  d__law_replaced : FuncData
  F__law_replaced : Fun K "_law_replaced" "_law_replaced" st__law_replaced a__law_replaced d__law_replaced
  m__law_replaced : mg "_law_replaced" = some (.ref a__law_replaced)
  b__law_replaced : Binds K d__law_replaced ["told", "place", "corner"] []
  a__law_certificates : Addr
  d__law_certificates : FuncData
  F__law_certificates : Fun K "_law_certificates" "_law_certificates" st__law_certificates a__law_certificates d__law_certificates
  m__law_certificates : mg "_law_certificates" = some (.ref a__law_certificates)
  b__law_certificates : Binds K d__law_certificates ["board", "path", "other", "places_cell", "corners_cell"] []
  a__law_crossing : Addr
  d__law_crossing : FuncData
  F__law_crossing : Fun K "_law_crossing" "_law_crossing" st__law_crossing a__law_crossing d__law_crossing
  m__law_crossing : mg "_law_crossing" = some (.ref a__law_crossing)
  b__law_crossing : Binds K d__law_crossing ["d"] []
  a__law_accepts : Addr
  d__law_accepts : FuncData
  F__law_accepts : Fun K "_law_accepts" "_law_accepts" st__law_accepts a__law_accepts d__law_accepts
  m__law_accepts : mg "_law_accepts" = some (.ref a__law_accepts)
  b__law_accepts : Binds K d__law_accepts ["path", "other", "told"] []
  a_is_conflict : Addr
  d_is_conflict : FuncData
  F_is_conflict : Fun K "is_conflict" "is_conflict" st_is_conflict a_is_conflict d_is_conflict
  m_is_conflict : mg "is_conflict" = some (.ref a_is_conflict)
  b_is_conflict : Binds K d_is_conflict ["path", "other", "certificate"] []
  a__law_judged : Addr
  d__law_judged : FuncData
  F__law_judged : Fun K "_law_judged" "_law_judged" st__law_judged a__law_judged d__law_judged
  m__law_judged : mg "_law_judged" = some (.ref a__law_judged)
  b__law_judged : Binds K d__law_judged ["path", "other", "certificates"] []
  a__law_crossing_judged : Addr
  d__law_crossing_judged : FuncData
  F__law_crossing_judged : Fun K "_law_crossing_judged" "_law_crossing_judged" st__law_crossing_judged a__law_crossing_judged d__law_crossing_judged
  m__law_crossing_judged : mg "_law_crossing_judged" = some (.ref a__law_crossing_judged)
  b__law_crossing_judged : Binds K d__law_crossing_judged ["cell"] []
  a__law_cell : Addr
  d__law_cell : FuncData
  F__law_cell : Fun K "_law_cell" "_law_cell" st__law_cell a__law_cell d__law_cell
  m__law_cell : mg "_law_cell" = some (.ref a__law_cell)
  b__law_cell : Binds K d__law_cell ["script", "k"] []
  a__law_across : Addr
  d__law_across : FuncData
  F__law_across : Fun K "_law_across" "_law_across" st__law_across a__law_across d__law_across
  m__law_across : mg "_law_across" = some (.ref a__law_across)
  b__law_across : Binds K d__law_across ["board", "cell"] []
  a_law : Addr
  d_law : FuncData
  F_law : Fun K "law" "law" st_law a_law d_law
  m_law : mg "law" = some (.ref a_law)
  b_law : Binds K d_law ["script"] []
  n_bool : mg "bool" = none
  n_int : mg "int" = none
  n_isinstance : mg "isinstance" = none
  n_len : mg "len" = none
  n_list : mg "list" = none
  n_max : mg "max" = none
  n_min : mg "min" = none
  n_range : mg "range" = none
  n_sorted : mg "sorted" = none
  n_tuple : mg "tuple" = none
section
variable {P : Program} {w : World} {K : PySem.W.Frag} {mg : Str → Option Value} {base : Heap}
theorem ok__law_draws (Z : Facts K mg) : FnOk P w K mg base (L2.CX P w) 1 Z.a__law_draws Z.d__law_draws ["cell", "sizes"] (spD K 2 F__law_draws) :=
  fn_ok (k := 0) Z.F__law_draws sc__law_draws (by decide) fun cdv A outer s H E hr =>
    (dss_cons (ds_set (i := 2) sc__law_draws.nd rfl (by first | exact .inl rfl | exact .inr rfl) (de_lst da_nil))
    (dss_cons (ds_set (i := 3) sc__law_draws.nd rfl (by first | exact .inl rfl | exact .inr rfl) (de_callTy call_int1 fits_int Z.n_int boot_int (da_cons (de_name 0) da_nil)))
    (dss_cons (ds_set (i := 4) sc__law_draws.nd rfl (by first | exact .inl rfl | exact .inr rfl) (de_cmp op_ge fits_ge (de_name 3) (de_bin op_pow fits_pow de_int de_int) (by first | exact nomark _ | rfl)))
    (dss_cons (ds_for PassesOwn.leaving rfl (di_range1 (by rfl) Z.n_range (da_cons (de_callB call_len fits_len Z.n_len boot_len (da_cons (de_name 1) da_nil)) da_nil)) (dg_name (i := 5) sc__law_draws.nd rfl (by first | exact .inl rfl | exact .inr rfl))
    (dss_cons (ds_set (i := 6) sc__law_draws.nd rfl (by first | exact .inl rfl | exact .inr rfl) (de_ix ix_seq fits_ix (de_name 1) (de_name 5) (fun _ _ => rfl)))
    (dss_one (ds_if (dt_w (dw_and (dt_val (de_name 4)) (dw_and1 (dt_cmp op_gt fits_gt (de_name 3) de_int (by first | exact nomark _ | rfl)))))
    (dss_cons (ds_mut (i := 2) PySem.F.plainAttrs_list PySem.F.slot_list_append PySem.F.type_list_append mt_append mut_append rfl (by first | exact .inl rfl | exact .inr (.inl rfl) | exact .inr (.inr rfl)) (da_cons (de_bin op_mod fits_mod (de_callTy call_int1 fits_int Z.n_int boot_int (da_cons (de_name 3) da_nil)) (de_name 6)) da_nil))
    (dss_one (ds_set (i := 3) sc__law_draws.nd rfl (by first | exact .inl rfl | exact .inr rfl) (de_bin op_fdivW fits_div (de_name 3) (de_name 6)))))
    (dss_cons (ds_set (i := 7) sc__law_draws.nd rfl (by first | exact .inl rfl | exact .inr rfl) (de_bin op_mod fits_mod (de_callTy call_int1 fits_int Z.n_int boot_int (da_cons (de_bin op_addG fits_add (de_bin op_addG fits_add (de_name 0) (de_bin op_mulG fits_mul de_int (de_name 5))) de_int) da_nil)) de_int))
    (dss_cons (ds_set (i := 7) sc__law_draws.nd rfl (by first | exact .inl rfl | exact .inr rfl) (de_bin op_mod fits_mod (de_callTy call_int1 fits_int Z.n_int boot_int (da_cons (de_bin op_mulG fits_mul (de_name 7) (de_bin op_addG fits_add (de_name 7) de_int)) da_nil)) de_int))
    (dss_cons (ds_set (i := 7) sc__law_draws.nd rfl (by first | exact .inl rfl | exact .inr rfl) (de_bin op_mod fits_mod (de_callTy call_int1 fits_int Z.n_int boot_int (da_cons (de_bin op_addG fits_add (de_bin op_mulG fits_mul (de_name 7) (de_bin op_addG fits_add (de_name 7) de_int)) (de_bin op_mulG fits_mul de_int (de_name 5))) da_nil)) de_int))
    (dss_one (ds_mut (i := 2) PySem.F.plainAttrs_list PySem.F.slot_list_append PySem.F.type_list_append mt_append mut_append rfl (by first | exact .inl rfl | exact .inr (.inl rfl) | exact .inr (.inr rfl)) (da_cons (de_bin op_mod fits_mod (de_callTy call_int1 fits_int Z.n_int boot_int (da_cons (de_bin op_fdivW fits_div (de_name 7) de_int) da_nil)) (de_name 6)) da_nil))))))))))
    (dss_one (ds_retV 2))))))
theorem ok__law_board (Z : Facts K mg) : FnOk P w K mg base (L2.CX P w) 2 Z.a__law_board Z.d__law_board ["cell", "most"] (spD K 2 F__law_board) :=
  fn_ok (k := 1) Z.F__law_board sc__law_board (by decide) fun cdv A outer s H E hr =>
    (dss_cons (ds_set (i := 2) sc__law_board.nd rfl (by first | exact .inl rfl | exact .inr rfl) (de_call (n := 2) (takes_of rfl rfl rfl rfl) (ok__law_draws Z) (hr.mono (by decide)) Z.m__law_draws Z.F__law_draws.kp Z.b__law_draws (da_cons (de_name 0) (da_cons (de_lst (da_cons de_int (da_cons (de_name 1) (da_cons (de_name 1) (da_cons (de_bin op_addG fits_add (de_name 1) de_int) (da_cons (de_bin op_addG fits_add (de_name 1) de_int) da_nil)))))) da_nil)) (eCons_len (eCons_len (fun _ _ h => eNil_len h)))))
    (dss_cons (ds_if (dt_cmp (op_eqD hr.units) fits_eq (de_ix ix_seq fits_ix (de_name 2) de_int (fun _ _ => rfl)) de_int (by first | exact nomark _ | rfl))
    (dss_one (ds_ret (de_tup (da_cons (de_ix ix_seq fits_ix (de_name 2) de_int (fun _ _ => rfl)) (da_cons (de_ix ix_seq fits_ix (de_name 2) de_int (fun _ _ => rfl)) da_nil)))))
    dss_nil)
    (dss_one (ds_ret (de_tup (da_cons (de_bin op_addG fits_add (de_ix ix_seq fits_ix (de_name 2) de_int (fun _ _ => rfl)) de_int) (da_cons (de_bin op_addG fits_add (de_ix ix_seq fits_ix (de_name 2) de_int (fun _ _ => rfl)) de_int) da_nil)))))))
theorem ok__law_moved (Z : Facts K mg) : FnOk P w K mg base (L2.CX P w) 1 Z.a__law_moved Z.d__law_moved ["corner", "letter"] (spD K 2 F__law_moved) :=
  fn_ok (k := 0) Z.F__law_moved sc__law_moved (by decide) fun cdv A outer s H E hr =>
    (dss_cons (ds_if (dt_cmp (op_eqD hr.units) fits_eq (de_name 1) de_str (by first | exact nomark _ | rfl))
    (dss_one (ds_ret (de_tup (da_cons (de_bin op_addG fits_add (de_ix ix_seq fits_ix (de_name 0) de_int (fun _ _ => rfl)) de_int) (da_cons (de_ix ix_seq fits_ix (de_name 0) de_int (fun _ _ => rfl)) da_nil)))))
    dss_nil)
    (dss_cons (ds_if (dt_cmp (op_eqD hr.units) fits_eq (de_name 1) de_str (by first | exact nomark _ | rfl))
    (dss_one (ds_ret (de_tup (da_cons (de_ix ix_seq fits_ix (de_name 0) de_int (fun _ _ => rfl)) (da_cons (de_bin op_addG fits_add (de_ix ix_seq fits_ix (de_name 0) de_int (fun _ _ => rfl)) de_int) da_nil)))))
    dss_nil)
    (dss_one (ds_ret (de_tup (da_cons (de_ix ix_seq fits_ix (de_name 0) de_int (fun _ _ => rfl)) (da_cons (de_bin op_sub fits_sub (de_ix ix_seq fits_ix (de_name 0) de_int (fun _ _ => rfl)) de_int) da_nil)))))))
theorem ok__law_on_board (Z : Facts K mg) : FnOk P w K mg base (L2.CX P w) 1 Z.a__law_on_board Z.d__law_on_board ["board", "corner"] (spD K 2 F__law_on_board) :=
  fn_ok (k := 0) Z.F__law_on_board sc__law_on_board (by decide) fun cdv A outer s H E hr =>
    (dss_one (ds_ret (de_and (de_chain op_le fits_le op_le fits_le de_int (de_ix ix_seq fits_ix (de_name 1) de_int (fun _ _ => rfl)) (de_ix ix_seq fits_ix (de_name 0) de_int (fun _ _ => rfl))) (de_one (de_chain op_le fits_le op_le fits_le de_int (de_ix ix_seq fits_ix (de_name 1) de_int (fun _ _ => rfl)) (de_ix ix_seq fits_ix (de_name 0) de_int (fun _ _ => rfl)))))))
theorem ok__law_path (Z : Facts K mg) : FnOk P w K mg base (L2.CX P w) 2 Z.a__law_path Z.d__law_path ["board", "cell"] (spD K 2 F__law_path) :=
  fn_ok (k := 1) Z.F__law_path sc__law_path (by decide) fun cdv A outer s H E hr =>
    (dss_cons (ds_set (i := 2) sc__law_path.nd rfl (by first | exact .inl rfl | exact .inr rfl) (de_call (n := 2) (takes_of rfl rfl rfl rfl) (ok__law_draws Z) (hr.mono (by decide)) Z.m__law_draws Z.F__law_draws.kp Z.b__law_draws (da_cons (de_name 1) (da_cons (de_bin op_addG fits_add (de_lst (da_cons (de_bin op_addG fits_add (de_ix ix_seq fits_ix (de_name 0) de_int (fun _ _ => rfl)) de_int) (da_cons (de_bin op_addG fits_add (de_ix ix_seq fits_ix (de_name 0) de_int (fun _ _ => rfl)) de_int) (da_cons de_int (da_cons de_int da_nil))))) (de_bin op_mulG fits_mul (de_lst (da_cons de_int da_nil)) de_int)) da_nil)) (eCons_len (eCons_len (fun _ _ h => eNil_len h)))))
    (dss_cons (ds_set (i := 3) sc__law_path.nd rfl (by first | exact .inl rfl | exact .inr rfl) (de_lst (da_cons (de_tup (da_cons (de_ix ix_seq fits_ix (de_name 2) de_int (fun _ _ => rfl)) (da_cons (de_ix ix_seq fits_ix (de_name 2) de_int (fun _ _ => rfl)) da_nil))) da_nil)))
    (dss_cons (ds_for PassesOwn.leaving rfl (di_range1 (by rfl) Z.n_range (da_cons (de_ix ix_seq fits_ix (de_name 2) de_int (fun _ _ => rfl)) da_nil)) (dg_name (i := 4) sc__law_path.nd rfl (by first | exact .inl rfl | exact .inr rfl))
    (dss_cons (ds_set (i := 5) sc__law_path.nd rfl (by first | exact .inl rfl | exact .inr rfl) de_str)
    (dss_cons (ds_if (dt_cmp (op_eqD hr.units) fits_eq (de_ix ix_seq fits_ix (de_name 2) (de_bin op_addG fits_add de_int (de_name 4)) (fun _ _ => rfl)) de_int (by first | exact nomark _ | rfl))
    (dss_one (ds_set (i := 5) sc__law_path.nd rfl (by first | exact .inl rfl | exact .inr rfl) (de_ix ix_seq fits_ix (de_lst (da_cons de_str (da_cons de_str da_nil))) (de_ix ix_seq fits_ix (de_name 2) de_int (fun _ _ => rfl)) (fun _ _ => rfl))))
    dss_nil)
    (dss_cons (ds_set (i := 6) sc__law_path.nd rfl (by first | exact .inl rfl | exact .inr rfl) (de_call (n := 2) (takes_of rfl rfl rfl rfl) (ok__law_moved Z) (hr.mono (by decide)) Z.m__law_moved Z.F__law_moved.kp Z.b__law_moved (da_cons (de_ix ix_seq fits_ix (de_name 3) (de_un un_neg fits_neg de_int) (fun _ _ => rfl)) (da_cons (de_name 5) da_nil)) (eCons_len (eCons_len (fun _ _ h => eNil_len h)))))
    (dss_one (ds_if (dt_val (de_call (n := 2) (takes_of rfl rfl rfl rfl) (ok__law_on_board Z) (hr.mono (by decide)) Z.m__law_on_board Z.F__law_on_board.kp Z.b__law_on_board (da_cons (de_name 0) (da_cons (de_name 6) da_nil)) (eCons_len (eCons_len (fun _ _ h => eNil_len h)))))
    (dss_one (ds_mut (i := 3) PySem.F.plainAttrs_list PySem.F.slot_list_append PySem.F.type_list_append mt_append mut_append rfl (by first | exact .inl rfl | exact .inr (.inl rfl) | exact .inr (.inr rfl)) (da_cons (de_name 6) da_nil)))
    dss_nil))))))
    (dss_cons (ds_if (dt_cmp (op_ltG hr.units0) fits_lt (de_ix ix_seq fits_ix (de_name 3) (de_un un_neg fits_neg de_int) (fun _ _ => rfl)) (de_ix ix_seq fits_ix (de_name 3) de_int (fun _ _ => rfl)) (by first | exact nomark _ | rfl))
    (dss_one (ds_set (i := 3) sc__law_path.nd rfl (by first | exact .inl rfl | exact .inr rfl) (de_revL (de_name 3))))
    dss_nil)
    (dss_one (ds_ret (de_callTy call_tuple_of fits_tupOf Z.n_tuple boot_tuple (da_cons (de_name 3) da_nil))))))))
theorem ok__law_through (Z : Facts K mg) : FnOk P w K mg base (L2.CX P w) 2 Z.a__law_through Z.d__law_through ["board", "path", "cell"] (spD K 3 F__law_through) :=
  fn_ok (k := 1) Z.F__law_through sc__law_through (by decide) fun cdv A outer s H E hr =>
    (dss_cons (ds_set (i := 3) sc__law_through.nd rfl (by first | exact .inl rfl | exact .inr rfl) (de_call (n := 2) (takes_of rfl rfl rfl rfl) (ok__law_draws Z) (hr.mono (by decide)) Z.m__law_draws Z.F__law_draws.kp Z.b__law_draws (da_cons (de_name 2) (da_cons (de_bin op_addG fits_add (de_lst (da_cons de_int (da_cons de_int (da_cons de_int (da_cons de_int da_nil))))) (de_bin op_mulG fits_mul (de_lst (da_cons de_int da_nil)) de_int)) da_nil)) (eCons_len (eCons_len (fun _ _ h => eNil_len h)))))
    (dss_cons (ds_set (i := 4) sc__law_through.nd rfl (by first | exact .inl rfl | exact .inr rfl) de_int)
    (dss_cons (ds_if (dt_cmp (op_ltG hr.units0) fits_lt (de_ix ix_seq fits_ix (de_ix ix_seq fits_ix (de_name 1) (de_un un_neg fits_neg de_int) (fun _ _ => rfl)) de_int (fun _ _ => rfl)) (de_ix ix_seq fits_ix (de_ix ix_seq fits_ix (de_name 1) de_int (fun _ _ => rfl)) de_int (fun _ _ => rfl)) (by first | exact nomark _ | rfl))
    (dss_one (ds_set (i := 4) sc__law_through.nd rfl (by first | exact .inl rfl | exact .inr rfl) (de_un un_neg fits_neg de_int)))
    dss_nil)
    (dss_cons (ds_if (dt_cmp (op_eqD hr.units) fits_eq (de_ix ix_seq fits_ix (de_name 3) de_int (fun _ _ => rfl)) de_int (by first | exact nomark _ | rfl))
    (dss_one (ds_set (i := 4) sc__law_through.nd rfl (by first | exact .inl rfl | exact .inr rfl) (de_un un_neg fits_neg (de_name 4))))
    dss_nil)
    (dss_cons (ds_set (i := 5) sc__law_through.nd rfl (by first | exact .inl rfl | exact .inr rfl) (de_lst (da_cons (de_ix ix_seq fits_ix (de_name 1) (de_bin op_mod fits_mod (de_callTy call_int1 fits_int Z.n_int boot_int (da_cons (de_ix ix_seq fits_ix (de_name 3) de_int (fun _ _ => rfl)) da_nil)) (de_callB call_len fits_len Z.n_len boot_len (da_cons (de_name 1) da_nil))) (fun _ _ => rfl)) da_nil)))
    (dss_cons (ds_for PassesOwn.leaving rfl (di_range1 (by rfl) Z.n_range (da_cons (de_ix ix_seq fits_ix (de_name 3) de_int (fun _ _ => rfl)) da_nil)) (dg_name (i := 6) sc__law_through.nd rfl (by first | exact .inl rfl | exact .inr rfl))
    (dss_cons (ds_set (i := 7) sc__law_through.nd rfl (by first | exact .inl rfl | exact .inr rfl) (de_tup (da_cons (de_bin op_addG fits_add (de_bin op_sub fits_sub (de_ix ix_seq fits_ix (de_ix ix_seq fits_ix (de_name 5) de_int (fun _ _ => rfl)) de_int (fun _ _ => rfl)) de_int) (de_ix ix_seq fits_ix (de_name 3) (de_bin op_addG fits_add de_int (de_name 6)) (fun _ _ => rfl))) (da_cons (de_bin op_sub fits_sub (de_ix ix_seq fits_ix (de_ix ix_seq fits_ix (de_name 5) de_int (fun _ _ => rfl)) de_int (fun _ _ => rfl)) (de_bin op_mulG fits_mul (de_name 4) (de_ix ix_seq fits_ix (de_name 3) (de_bin op_addG fits_add de_int (de_name 6)) (fun _ _ => rfl)))) da_nil))))
    (dss_one (ds_if (dt_val (de_call (n := 2) (takes_of rfl rfl rfl rfl) (ok__law_on_board Z) (hr.mono (by decide)) Z.m__law_on_board Z.F__law_on_board.kp Z.b__law_on_board (da_cons (de_name 0) (da_cons (de_name 7) da_nil)) (eCons_len (eCons_len (fun _ _ h => eNil_len h)))))
    (dss_one (ds_set (i := 5) sc__law_through.nd rfl (by first | exact .inl rfl | exact .inr rfl) (de_bin op_addG fits_add (de_lst (da_cons (de_name 7) da_nil)) (de_name 5))))
    dss_nil))))
    (dss_cons (ds_for PassesOwn.leaving rfl (di_range1 (by rfl) Z.n_range (da_cons (de_ix ix_seq fits_ix (de_name 3) de_int (fun _ _ => rfl)) da_nil)) (dg_name (i := 6) sc__law_through.nd rfl (by first | exact .inl rfl | exact .inr rfl))
    (dss_cons (ds_set (i := 7) sc__law_through.nd rfl (by first | exact .inl rfl | exact .inr rfl) (de_tup (da_cons (de_bin op_sub fits_sub (de_bin op_addG fits_add (de_ix ix_seq fits_ix (de_ix ix_seq fits_ix (de_name 5) (de_un un_neg fits_neg de_int) (fun _ _ => rfl)) de_int (fun _ _ => rfl)) de_int) (de_ix ix_seq fits_ix (de_name 3) (de_bin op_addG fits_add de_int (de_name 6)) (fun _ _ => rfl))) (da_cons (de_bin op_addG fits_add (de_ix ix_seq fits_ix (de_ix ix_seq fits_ix (de_name 5) (de_un un_neg fits_neg de_int) (fun _ _ => rfl)) de_int (fun _ _ => rfl)) (de_bin op_mulG fits_mul (de_name 4) (de_ix ix_seq fits_ix (de_name 3) (de_bin op_addG fits_add de_int (de_name 6)) (fun _ _ => rfl)))) da_nil))))
    (dss_one (ds_if (dt_val (de_call (n := 2) (takes_of rfl rfl rfl rfl) (ok__law_on_board Z) (hr.mono (by decide)) Z.m__law_on_board Z.F__law_on_board.kp Z.b__law_on_board (da_cons (de_name 0) (da_cons (de_name 7) da_nil)) (eCons_len (eCons_len (fun _ _ h => eNil_len h)))))
    (dss_one (ds_mut (i := 5) PySem.F.plainAttrs_list PySem.F.slot_list_append PySem.F.type_list_append mt_append mut_append rfl (by first | exact .inl rfl | exact .inr (.inl rfl) | exact .inr (.inr rfl)) (da_cons (de_name 7) da_nil)))
    dss_nil))))
    (dss_cons (ds_if (dt_cmp (op_ltG hr.units0) fits_lt (de_ix ix_seq fits_ix (de_name 5) (de_un un_neg fits_neg de_int) (fun _ _ => rfl)) (de_ix ix_seq fits_ix (de_name 5) de_int (fun _ _ => rfl)) (by first | exact nomark _ | rfl))
    (dss_one (ds_set (i := 5) sc__law_through.nd rfl (by first | exact .inl rfl | exact .inr rfl) (de_revL (de_name 5))))
    dss_nil)
    (dss_one (ds_ret (de_callTy call_tuple_of fits_tupOf Z.n_tuple boot_tuple (da_cons (de_name 5) da_nil))))))))))))
theorem ok__law_turned (Z : Facts K mg) : FnOk P w K mg base (L2.CX P w) 1 Z.a__law_turned Z.d__law_turned ["path", "place"] (spD K 2 F__law_turned) :=
  fn_ok (k := 0) Z.F__law_turned sc__law_turned (by decide) fun cdv A outer s H E hr =>
    (dss_cons (ds_if (dt_cmp (op_ltG hr.units0) fits_lt (de_callB call_len fits_len Z.n_len boot_len (da_cons (de_name 0) da_nil)) de_int (by first | exact nomark _ | rfl))
    (dss_one (ds_retV 0))
    dss_nil)
    (dss_cons (ds_set (i := 2) sc__law_turned.nd rfl (by first | exact .inl rfl | exact .inr rfl) (de_bin op_addG fits_add de_int (de_bin op_mod fits_mod (de_callTy call_int1 fits_int Z.n_int boot_int (da_cons (de_name 1) da_nil)) (de_bin op_sub fits_sub (de_callB call_len fits_len Z.n_len boot_len (da_cons (de_name 0) da_nil)) de_int))))
    (dss_cons (ds_set (i := 3) sc__law_turned.nd rfl (by first | exact .inl rfl | exact .inr rfl) (de_callTy call_list_of fits_listOf Z.n_list boot_list (da_cons (de_name 0) da_nil)))
    (dss_cons (ds_store set_list mut_storeL rfl (by first | exact .inl rfl | exact .inr (.inl rfl) | exact .inr (.inr rfl)) (de_tup (da_cons (de_bin op_sub fits_sub (de_bin op_addG fits_add (de_ix ix_seq fits_ix (de_ix ix_seq fits_ix (de_name 0) (de_bin op_sub fits_sub (de_name 2) de_int) (fun _ _ => rfl)) de_int (fun _ _ => rfl)) (de_ix ix_seq fits_ix (de_ix ix_seq fits_ix (de_name 0) (de_bin op_addG fits_add (de_name 2) de_int) (fun _ _ => rfl)) de_int (fun _ _ => rfl))) (de_ix ix_seq fits_ix (de_ix ix_seq fits_ix (de_name 0) (de_name 2) (fun _ _ => rfl)) de_int (fun _ _ => rfl))) (da_cons (de_bin op_sub fits_sub (de_bin op_addG fits_add (de_ix ix_seq fits_ix (de_ix ix_seq fits_ix (de_name 0) (de_bin op_sub fits_sub (de_name 2) de_int) (fun _ _ => rfl)) de_int (fun _ _ => rfl)) (de_ix ix_seq fits_ix (de_ix ix_seq fits_ix (de_name 0) (de_bin op_addG fits_add (de_name 2) de_int) (fun _ _ => rfl)) de_int (fun _ _ => rfl))) (de_ix ix_seq fits_ix (de_ix ix_seq fits_ix (de_name 0) (de_name 2) (fun _ _ => rfl)) de_int (fun _ _ => rfl))) da_nil))) (de_name 2))
    (dss_one (ds_ret (de_callTy call_tuple_of fits_tupOf Z.n_tuple boot_tuple (da_cons (de_name 3) da_nil))))))))
theorem ok__law_between (Z : Facts K mg) : FnOk P w K mg base (L2.CX P w) 2 Z.a__law_between Z.d__law_between ["path", "cell"] (spD K 2 F__law_between) :=
  fn_ok (k := 1) Z.F__law_between sc__law_between (by decide) fun cdv A outer s H E hr =>
    (dss_cons (ds_set (i := 2) sc__law_between.nd rfl (by first | exact .inl rfl | exact .inr rfl) (de_call (n := 2) (takes_of rfl rfl rfl rfl) (ok__law_draws Z) (hr.mono (by decide)) Z.m__law_draws Z.F__law_draws.kp Z.b__law_draws (da_cons (de_name 1) (da_cons (de_bin op_mulG fits_mul (de_lst (da_cons de_int da_nil)) de_int) da_nil)) (eCons_len (eCons_len (fun _ _ h => eNil_len h)))))
    (dss_cons (ds_set (i := 3) sc__law_between.nd rfl (by first | exact .inl rfl | exact .inr rfl) (de_ix ix_seq fits_ix (de_name 0) (de_un un_neg fits_neg de_int) (fun _ _ => rfl)))
    (dss_cons (ds_set (i := 4) sc__law_between.nd rfl (by first | exact .inl rfl | exact .inr rfl) (de_lst (da_cons (de_ix ix_seq fits_ix (de_name 0) de_int (fun _ _ => rfl)) da_nil)))
    (dss_cons (ds_for PassesOwn.leaving rfl (di_range1 (by rfl) Z.n_range (da_cons (de_bin op_sub fits_sub (de_callB call_len fits_len Z.n_len boot_len (da_cons (de_name 0) da_nil)) de_int) da_nil)) (dg_name (i := 5) sc__law_between.nd rfl (by first | exact .inl rfl | exact .inr rfl))
    (dss_cons (ds_set (i := 6) sc__law_between.nd rfl (by first | exact .inl rfl | exact .inr rfl) (de_ix ix_seq fits_ix (de_name 4) (de_un un_neg fits_neg de_int) (fun _ _ => rfl)))
    (dss_one (ds_if (dt_w (dw_and (dt_cmp (op_ltG hr.units0) fits_lt (de_ix ix_seq fits_ix (de_name 6) de_int (fun _ _ => rfl)) (de_ix ix_seq fits_ix (de_name 3) de_int (fun _ _ => rfl)) (by first | exact nomark _ | rfl)) (dw_and1 (dt_w (dw_or (dt_cmp (op_eqD hr.units) fits_eq (de_ix ix_seq fits_ix (de_name 2) (de_name 5) (fun _ _ => rfl)) de_int (by first | exact nomark _ | rfl)) (dw_or1 (dt_cmp (op_eqD hr.units) fits_eq (de_ix ix_seq fits_ix (de_name 6) de_int (fun _ _ => rfl)) (de_ix ix_seq fits_ix (de_name 3) de_int (fun _ _ => rfl)) (by first | exact nomark _ | rfl))))))))
    (dss_one (ds_mut (i := 4) PySem.F.plainAttrs_list PySem.F.slot_list_append PySem.F.type_list_append mt_append mut_append rfl (by first | exact .inl rfl | exact .inr (.inl rfl) | exact .inr (.inr rfl)) (da_cons (de_tup (da_cons (de_bin op_addG fits_add (de_ix ix_seq fits_ix (de_name 6) de_int (fun _ _ => rfl)) de_int) (da_cons (de_ix ix_seq fits_ix (de_name 6) de_int (fun _ _ => rfl)) da_nil))) da_nil)))
    (dss_one (ds_if (dt_cmp (op_ltG hr.units0) fits_lt (de_ix ix_seq fits_ix (de_name 6) de_int (fun _ _ => rfl)) (de_ix ix_seq fits_ix (de_name 3) de_int (fun _ _ => rfl)) (by first | exact nomark _ | rfl))
    (dss_one (ds_mut (i := 4) PySem.F.plainAttrs_list PySem.F.slot_list_append PySem.F.type_list_append mt_append mut_append rfl (by first | exact .inl rfl | exact .inr (.inl rfl) | exact .inr (.inr rfl)) (da_cons (de_tup (da_cons (de_ix ix_seq fits_ix (de_name 6) de_int (fun _ _ => rfl)) (da_cons (de_bin op_addG fits_add (de_ix ix_seq fits_ix (de_name 6) de_int (fun _ _ => rfl)) de_int) da_nil))) da_nil)))
    (dss_one (ds_mut (i := 4) PySem.F.plainAttrs_list PySem.F.slot_list_append PySem.F.type_list_append mt_append mut_append rfl (by first | exact .inl rfl | exact .inr (.inl rfl) | exact .inr (.inr rfl)) (da_cons (de_tup (da_cons (de_ix ix_seq fits_ix (de_name 6) de_int (fun _ _ => rfl)) (da_cons (de_bin op_sub fits_sub (de_ix ix_seq fits_ix (de_name 6) de_int (fun _ _ => rfl)) de_int) da_nil))) da_nil)))))))))
    (dss_one (ds_ret (de_callTy call_tuple_of fits_tupOf Z.n_tuple boot_tuple (da_cons (de_name 4) da_nil))))))))
theorem ok__law_part (Z : Facts K mg) : FnOk P w K mg base (L2.CX P w) 1 Z.a__law_part Z.d__law_part ["path", "i", "j"] (spD K 3 F__law_part) :=
  fn_ok (k := 0) Z.F__law_part sc__law_part (by decide) fun cdv A outer s H E hr =>
    (dss_cons (ds_set (i := 3) sc__law_part.nd rfl (by first | exact .inl rfl | exact .inr rfl) (de_slice (de_callTy call_list_of fits_listOf Z.n_list boot_list (da_cons (de_name 0) da_nil)) (do_some (de_callB (call_min2 rfl) fits_min2 Z.n_min boot_min (da_cons (de_name 1) (da_cons (de_name 2) da_nil)))) (do_some (de_bin op_addG fits_add (de_callB (call_max2 rfl) fits_max2 Z.n_max boot_max (da_cons (de_name 1) (da_cons (de_name 2) da_nil))) de_int))))
    (dss_cons (ds_if (dt_cmp (op_ltG hr.units0) fits_lt (de_ix ix_seq fits_ix (de_name 3) (de_un un_neg fits_neg de_int) (fun _ _ => rfl)) (de_ix ix_seq fits_ix (de_name 3) de_int (fun _ _ => rfl)) (by first | exact nomark _ | rfl))
    (dss_one (ds_set (i := 3) sc__law_part.nd rfl (by first | exact .inl rfl | exact .inr rfl) (de_revL (de_name 3))))
    dss_nil)
    (dss_one (ds_ret (de_callTy call_tuple_of fits_tupOf Z.n_tuple boot_tuple (da_cons (de_name 3) da_nil))))))
theorem ok__law_other (Z : Facts K mg) : FnOk P w K mg base (L2.CX P w) 3 Z.a__law_other Z.d__law_other ["board", "path", "choice_cell", "cell"] (spD K 4 F__law_other) :=
  fn_ok (k := 2) Z.F__law_other sc__law_other (by decide) fun cdv A outer s H E hr =>
    (dss_cons (ds_set (i := 4) sc__law_other.nd rfl (by first | exact .inl rfl | exact .inr rfl) (de_call (n := 2) (takes_of rfl rfl rfl rfl) (ok__law_draws Z) (hr.mono (by decide)) Z.m__law_draws Z.F__law_draws.kp Z.b__law_draws (da_cons (de_name 2) (da_cons (de_lst (da_cons de_int (da_cons de_int (da_cons de_int da_nil)))) da_nil)) (eCons_len (eCons_len (fun _ _ h => eNil_len h)))))
    (dss_cons (ds_if (dt_cmp op_le fits_le (de_ix ix_seq fits_ix (de_name 4) de_int (fun _ _ => rfl)) de_int (by first | exact nomark _ | rfl))
    (dss_one (ds_ret (de_call (n := 2) (takes_of rfl rfl rfl rfl) (ok__law_path Z) (hr.mono (by decide)) Z.m__law_path Z.F__law_path.kp Z.b__law_path (da_cons (de_name 0) (da_cons (de_name 3) da_nil)) (eCons_len (eCons_len (fun _ _ h => eNil_len h))))))
    dss_nil)
    (dss_cons (ds_if (dt_cmp (op_eqD hr.units) fits_eq (de_ix ix_seq fits_ix (de_name 4) de_int (fun _ _ => rfl)) de_int (by first | exact nomark _ | rfl))
    (dss_one (ds_ret (de_call (n := 2) (takes_of rfl rfl rfl rfl) (ok__law_turned Z) (hr.mono (by decide)) Z.m__law_turned Z.F__law_turned.kp Z.b__law_turned (da_cons (de_name 1) (da_cons (de_ix ix_seq fits_ix (de_name 4) de_int (fun _ _ => rfl)) da_nil)) (eCons_len (eCons_len (fun _ _ h => eNil_len h))))))
    dss_nil)
    (dss_cons (ds_if (dt_cmp (op_eqD hr.units) fits_eq (de_ix ix_seq fits_ix (de_name 4) de_int (fun _ _ => rfl)) de_int (by first | exact nomark _ | rfl))
    (dss_one (ds_ret (de_call (n := 2) (takes_of rfl rfl rfl rfl) (ok__law_turned Z) (hr.mono (by decide)) Z.m__law_turned Z.F__law_turned.kp Z.b__law_turned (da_cons (de_call (n := 2) (takes_of rfl rfl rfl rfl) (ok__law_turned Z) (hr.mono (by decide)) Z.m__law_turned Z.F__law_turned.kp Z.b__law_turned (da_cons (de_name 1) (da_cons (de_ix ix_seq fits_ix (de_name 4) de_int (fun _ _ => rfl)) da_nil)) (eCons_len (eCons_len (fun _ _ h => eNil_len h)))) (da_cons (de_ix ix_seq fits_ix (de_name 4) de_int (fun _ _ => rfl)) da_nil)) (eCons_len (eCons_len (fun _ _ h => eNil_len h))))))
    dss_nil)
    (dss_cons (ds_if (dt_cmp (op_eqD hr.units) fits_eq (de_ix ix_seq fits_ix (de_name 4) de_int (fun _ _ => rfl)) de_int (by first | exact nomark _ | rfl))
    (dss_one (ds_ret (de_call (n := 2) (takes_of rfl rfl rfl rfl) (ok__law_between Z) (hr.mono (by decide)) Z.m__law_between Z.F__law_between.kp Z.b__law_between (da_cons (de_name 1) (da_cons (de_name 3) da_nil)) (eCons_len (eCons_len (fun _ _ h => eNil_len h))))))
    dss_nil)
    (dss_cons (ds_if (dt_cmp (op_eqD hr.units) fits_eq (de_ix ix_seq fits_ix (de_name 4) de_int (fun _ _ => rfl)) de_int (by first | exact nomark _ | rfl))
    (dss_one (ds_ret (de_call (n := 3) (takes_of rfl rfl rfl rfl) (ok__law_part Z) (hr.mono (by decide)) Z.m__law_part Z.F__law_part.kp Z.b__law_part (da_cons (de_name 1) (da_cons (de_bin op_mod fits_mod (de_callTy call_int1 fits_int Z.n_int boot_int (da_cons (de_ix ix_seq fits_ix (de_name 4) de_int (fun _ _ => rfl)) da_nil)) (de_callB call_len fits_len Z.n_len boot_len (da_cons (de_name 1) da_nil))) (da_cons (de_bin op_mod fits_mod (de_callTy call_int1 fits_int Z.n_int boot_int (da_cons (de_ix ix_seq fits_ix (de_name 4) de_int (fun _ _ => rfl)) da_nil)) (de_callB call_len fits_len Z.n_len boot_len (da_cons (de_name 1) da_nil))) da_nil))) (eCons_len (eCons_len (eCons_len (fun _ _ h => eNil_len h)))))))
    dss_nil)
    (dss_one (ds_ret (de_call (n := 3) (takes_of rfl rfl rfl rfl) (ok__law_through Z) (hr.mono (by decide)) Z.m__law_through Z.F__law_through.kp Z.b__law_through (da_cons (de_name 0) (da_cons (de_name 1) (da_cons (de_name 3) da_nil))) (eCons_len (eCons_len (eCons_len (fun _ _ h => eNil_len h)))))))))))))
theorem ok__law_first_clash (Z : Facts K mg) : FnOk P w K mg base (L2.CX P w) 1 Z.a__law_first_clash Z.d__law_first_clash ["path", "other"] (spD K 2 F__law_first_clash) :=
  fn_ok (k := 0) Z.F__law_first_clash sc__law_first_clash (by decide) fun cdv A outer s H E hr =>
    (dss_cons (by first
    | exact ds_setLc (i := 2) rfl sc__law_first_clash.nd rfl rfl rfl (di_range1 (by rfl) Z.n_range (da_cons (de_callB call_len fits_len Z.n_len boot_len (da_cons (de_name 0) da_nil)) da_nil)) (blkOk_by (own := [("k", 3)]) (by kernel_rfl)) rfl (fun s H C cl fp => (dg_name (i := 3) sc__law_first_clash.nd rfl (by first | exact .inl rfl | exact .inr rfl))) (fun s H C cl fp => (dts_one (dt_cmp (op_inS (hu65 hr)) fits_inS (de_ix ix_seq fits_ix (de_name 0) (de_name 3) (fun _ _ => rfl)) (de_name 1) (by first | exact nomark _ | rfl)))) (fun s H C cl fp => (de_name 3))
    | exact ds_set (i := 2) sc__law_first_clash.nd rfl (by first | exact .inl rfl | exact .inr rfl) (de_lc rfl sc__law_first_clash.nd (di_range1 (by rfl) Z.n_range (da_cons (de_callB call_len fits_len Z.n_len boot_len (da_cons (de_name 0) da_nil)) da_nil)) (blkOk_by (own := [("k", 3)]) (by kernel_rfl)) rfl (fun s H C cl fp => (dg_name (i := 3) sc__law_first_clash.nd rfl (by first | exact .inl rfl | exact .inr rfl))) (fun s H C cl fp => (dts_one (dt_cmp (op_inS (hu65 hr)) fits_inS (de_ix ix_seq fits_ix (de_name 0) (de_name 3) (fun _ _ => rfl)) (de_name 1) (by first | exact nomark _ | rfl)))) (fun s H C cl fp => (de_name 3))))
    (dss_cons (ds_for PassesOwn.leaving rfl (di_range2 (by rfl) Z.n_range (da_cons de_int (da_cons (de_callB call_len fits_len Z.n_len boot_len (da_cons (de_name 2) da_nil)) da_nil))) (dg_name (i := 3) sc__law_first_clash.nd rfl (by first | exact .inl rfl | exact .inr rfl))
    (dss_one (ds_if (dt_cmp (op_neD hr.units) fits_ne (de_ix ix_seq fits_ix (de_name 2) (de_name 3) (fun _ _ => rfl)) (de_bin op_addG fits_add (de_ix ix_seq fits_ix (de_name 2) (de_bin op_sub fits_sub (de_name 3) de_int) (fun _ _ => rfl)) de_int) (by first | exact nomark _ | rfl))
    (dss_one (ds_ret (de_tup (da_cons (de_ix ix_seq fits_ix (de_name 0) (de_ix ix_seq fits_ix (de_name 2) (de_bin op_sub fits_sub (de_name 3) de_int) (fun _ _ => rfl)) (fun _ _ => rfl)) (da_cons (de_ix ix_seq fits_ix (de_name 0) (de_bin op_addG fits_add (de_ix ix_seq fits_ix (de_name 2) (de_bin op_sub fits_sub (de_name 3) de_int) (fun _ _ => rfl)) de_int) (fun _ _ => rfl)) (da_cons (de_ix ix_seq fits_ix (de_name 0) (de_ix ix_seq fits_ix (de_name 2) (de_name 3) (fun _ _ => rfl)) (fun _ _ => rfl)) da_nil))))))
    dss_nil)))
    (dss_one (ds_ret de_non))))
theorem ok__law_first (Z : Facts K mg) : FnOk P w K mg base (L2.CX P w) 2 Z.a__law_first Z.d__law_first ["path", "other", "place"] (spD K 3 F__law_first) :=
  fn_ok (k := 1) Z.F__law_first sc__law_first (by decide) fun cdv A outer s H E hr =>
    (dss_cons (ds_set (i := 3) sc__law_first.nd rfl (by first | exact .inl rfl | exact .inr rfl) (de_call (n := 2) (takes_of rfl rfl rfl rfl) (ok__law_first_clash Z) (hr.mono (by decide)) Z.m__law_first_clash Z.F__law_first_clash.kp Z.b__law_first_clash (da_cons (de_name 0) (da_cons (de_name 1) da_nil)) (eCons_len (eCons_len (fun _ _ h => eNil_len h)))))
    (dss_cons (ds_if (dt_cmp op_isN fits_isN (de_name 3) de_non (by first | exact nomark _ | rfl))
    (dss_one (ds_ret (de_tup (da_cons (de_ix ix_seq fits_ix (de_name 0) de_int (fun _ _ => rfl)) (da_cons (de_ix ix_seq fits_ix (de_name 0) (de_bin op_mod fits_mod (de_callTy call_int1 fits_int Z.n_int boot_int (da_cons (de_name 2) da_nil)) (de_callB call_len fits_len Z.n_len boot_len (da_cons (de_name 0) da_nil))) (fun _ _ => rfl)) (da_cons (de_ix ix_seq fits_ix (de_name 0) (de_un un_neg fits_neg de_int) (fun _ _ => rfl)) da_nil))))))
    dss_nil)
    (dss_one (ds_retV 3))))
theorem ok__law_replaced (Z : Facts K mg) : FnOk P w K mg base (L2.CX P w) 1 Z.a__law_replaced Z.d__law_replaced ["told", "place", "corner"] (spD K 3 F__law_replaced) :=
  fn_ok (k := 0) Z.F__law_replaced sc__law_replaced (by decide) fun cdv A outer s H E hr =>
    (dss_cons (ds_set (i := 3) sc__law_replaced.nd rfl (by first | exact .inl rfl | exact .inr rfl) (de_callTy call_list_of fits_listOf Z.n_list boot_list (da_cons (de_name 0) da_nil)))
    (dss_cons (ds_store set_list mut_storeL rfl (by first | exact .inl rfl | exact .inr (.inl rfl) | exact .inr (.inr rfl)) (de_name 2) (de_name 1))
    (dss_one (ds_ret (de_callTy call_tuple_of fits_tupOf Z.n_tuple boot_tuple (da_cons (de_name 3) da_nil))))))
theorem ok__law_certificates (Z : Facts K mg) : FnOk P w K mg base (L2.CX P w) 3 Z.a__law_certificates Z.d__law_certificates ["board", "path", "other", "places_cell", "corners_cell"] (spD K 5 F__law_certificates) :=
  fn_ok (k := 2) Z.F__law_certificates sc__law_certificates (by decide) fun cdv A outer s H E hr =>
    (dss_cons (ds_set (i := 5) sc__law_certificates.nd rfl (by first | exact .inl rfl | exact .inr rfl) (de_call (n := 2) (takes_of rfl rfl rfl rfl) (ok__law_draws Z) (hr.mono (by decide)) Z.m__law_draws Z.F__law_draws.kp Z.b__law_draws (da_cons (de_name 3) (da_cons (de_lst (da_cons de_int (da_cons de_int (da_cons de_int (da_cons de_int (da_cons de_int (da_cons de_int (da_cons de_int da_nil)))))))) da_nil)) (eCons_len (eCons_len (fun _ _ h => eNil_len h)))))
    (dss_cons (ds_set (i := 6) sc__law_certificates.nd rfl (by first | exact .inl rfl | exact .inr rfl) (de_ix ix_seq fits_ix (de_lst (da_cons de_int (da_cons de_int (da_cons de_int (da_cons de_int (da_cons de_int (da_cons de_int (da_cons de_int (da_cons de_int (da_cons de_int (da_cons de_int da_nil))))))))))) (de_ix ix_seq fits_ix (de_name 5) de_int (fun _ _ => rfl)) (fun _ _ => rfl)))
    (dss_cons (ds_set (i := 7) sc__law_certificates.nd rfl (by first | exact .inl rfl | exact .inr rfl) (de_call (n := 2) (takes_of rfl rfl rfl rfl) (ok__law_draws Z) (hr.mono (by decide)) Z.m__law_draws Z.F__law_draws.kp Z.b__law_draws (da_cons (de_name 4) (da_cons (de_bin op_mulG fits_mul (de_lst (da_cons (de_bin op_addG fits_add (de_ix ix_seq fits_ix (de_name 0) de_int (fun _ _ => rfl)) de_int) (da_cons (de_bin op_addG fits_add (de_ix ix_seq fits_ix (de_name 0) de_int (fun _ _ => rfl)) de_int) da_nil))) de_int) da_nil)) (eCons_len (eCons_len (fun _ _ h => eNil_len h)))))
    (dss_cons (by first
    | exact ds_setLc (i := 8) rfl sc__law_certificates.nd rfl rfl rfl (di_range1 (by rfl) Z.n_range (da_cons de_int da_nil)) (blkOk_by (own := [("k", 15)]) (by kernel_rfl)) rfl (fun s H C cl fp => (dg_name (i := 15) sc__law_certificates.nd rfl (by first | exact .inl rfl | exact .inr rfl))) (fun s H C cl fp => dts_nil) (fun s H C cl fp => (de_tup (da_cons (de_bin op_sub fits_sub (de_ix ix_seq fits_ix (de_name 7) (de_bin op_mulG fits_mul de_int (de_name 15)) (fun _ _ => rfl)) de_int) (da_cons (de_bin op_sub fits_sub (de_ix ix_seq fits_ix (de_name 7) (de_bin op_addG fits_add (de_bin op_mulG fits_mul de_int (de_name 15)) de_int) (fun _ _ => rfl)) de_int) da_nil))))
    | exact ds_set (i := 8) sc__law_certificates.nd rfl (by first | exact .inl rfl | exact .inr rfl) (de_lc rfl sc__law_certificates.nd (di_range1 (by rfl) Z.n_range (da_cons de_int da_nil)) (blkOk_by (own := [("k", 15)]) (by kernel_rfl)) rfl (fun s H C cl fp => (dg_name (i := 15) sc__law_certificates.nd rfl (by first | exact .inl rfl | exact .inr rfl))) (fun s H C cl fp => dts_nil) (fun s H C cl fp => (de_tup (da_cons (de_bin op_sub fits_sub (de_ix ix_seq fits_ix (de_name 7) (de_bin op_mulG fits_mul de_int (de_name 15)) (fun _ _ => rfl)) de_int) (da_cons (de_bin op_sub fits_sub (de_ix ix_seq fits_ix (de_name 7) (de_bin op_addG fits_add (de_bin op_mulG fits_mul de_int (de_name 15)) de_int) (fun _ _ => rfl)) de_int) da_nil))))))
    (dss_cons (ds_if (dt_cmp (op_eqD hr.units) fits_eq (de_ix ix_seq fits_ix (de_name 5) de_int (fun _ _ => rfl)) de_int (by first | exact nomark _ | rfl))
    (dss_one (ds_store set_list mut_storeL rfl (by first | exact .inl rfl | exact .inr (.inl rfl) | exact .inr (.inr rfl)) (de_tup (da_cons (de_bin op_addG fits_add (de_ix ix_seq fits_ix (de_ix ix_seq fits_ix (de_name 8) (de_ix ix_seq fits_ix (de_name 5) de_int (fun _ _ => rfl)) (fun _ _ => rfl)) de_int (fun _ _ => rfl)) (de_ix ix_seq fits_ix (de_lst (da_cons (de_un un_neg fits_neg (de_bin op_pow fits_pow de_int de_int)) (da_cons (de_bin op_pow fits_pow de_int de_int) da_nil))) (de_bin op_mod fits_mod (de_callTy call_int1 fits_int Z.n_int boot_int (da_cons (de_ix ix_seq fits_ix (de_name 5) de_int (fun _ _ => rfl)) da_nil)) de_int) (fun _ _ => rfl))) (da_cons (de_ix ix_seq fits_ix (de_ix ix_seq fits_ix (de_name 8) (de_ix ix_seq fits_ix (de_name 5) de_int (fun _ _ => rfl)) (fun _ _ => rfl)) de_int (fun _ _ => rfl)) da_nil))) (de_ix ix_seq fits_ix (de_name 5) de_int (fun _ _ => rfl))))
    dss_nil)
    (dss_cons (ds_if (dt_cmp (op_eqD hr.units) fits_eq (de_ix ix_seq fits_ix (de_name 5) de_int (fun _ _ => rfl)) de_int (by first | exact nomark _ | rfl))
    (dss_one (ds_store set_list mut_storeL rfl (by first | exact .inl rfl | exact .inr (.inl rfl) | exact .inr (.inr rfl)) (de_tup (da_cons (de_ix ix_seq fits_ix (de_ix ix_seq fits_ix (de_name 8) (de_ix ix_seq fits_ix (de_name 5) de_int (fun _ _ => rfl)) (fun _ _ => rfl)) de_int (fun _ _ => rfl)) (da_cons (de_bin op_addG fits_add (de_ix ix_seq fits_ix (de_ix ix_seq fits_ix (de_name 8) (de_ix ix_seq fits_ix (de_name 5) de_int (fun _ _ => rfl)) (fun _ _ => rfl)) de_int (fun _ _ => rfl)) (de_ix ix_seq fits_ix (de_lst (da_cons (de_un un_neg fits_neg (de_bin op_pow fits_pow de_int de_int)) (da_cons (de_bin op_pow fits_pow de_int de_int) da_nil))) (de_bin op_mod fits_mod (de_callTy call_int1 fits_int Z.n_int boot_int (da_cons (de_ix ix_seq fits_ix (de_name 5) de_int (fun _ _ => rfl)) da_nil)) de_int) (fun _ _ => rfl))) da_nil))) (de_ix ix_seq fits_ix (de_name 5) de_int (fun _ _ => rfl))))
    dss_nil)
    (dss_cons (ds_set (i := 9) sc__law_certificates.nd rfl (by first | exact .inl rfl | exact .inr rfl) (de_lst (da_cons (de_tup (da_cons (de_ix ix_seq fits_ix (de_name 8) de_int (fun _ _ => rfl)) (da_cons (de_ix ix_seq fits_ix (de_name 8) de_int (fun _ _ => rfl)) (da_cons (de_ix ix_seq fits_ix (de_name 8) de_int (fun _ _ => rfl)) da_nil)))) da_nil)))
    (dss_cons (ds_mut (i := 9) PySem.F.plainAttrs_list PySem.F.slot_list_append PySem.F.type_list_append mt_append mut_append rfl (by first | exact .inl rfl | exact .inr (.inl rfl) | exact .inr (.inr rfl)) (da_cons (de_tup (da_cons (de_ix ix_seq fits_ix (de_name 1) (de_bin op_mod fits_mod (de_callTy call_int1 fits_int Z.n_int boot_int (da_cons (de_ix ix_seq fits_ix (de_name 5) de_int (fun _ _ => rfl)) da_nil)) (de_callB call_len fits_len Z.n_len boot_len (da_cons (de_name 1) da_nil))) (fun _ _ => rfl)) (da_cons (de_ix ix_seq fits_ix (de_name 1) (de_bin op_mod fits_mod (de_callTy call_int1 fits_int Z.n_int boot_int (da_cons (de_ix ix_seq fits_ix (de_name 5) de_int (fun _ _ => rfl)) da_nil)) (de_callB call_len fits_len Z.n_len boot_len (da_cons (de_name 1) da_nil))) (fun _ _ => rfl)) (da_cons (de_ix ix_seq fits_ix (de_name 1) (de_bin op_mod fits_mod (de_callTy call_int1 fits_int Z.n_int boot_int (da_cons (de_ix ix_seq fits_ix (de_name 5) de_int (fun _ _ => rfl)) da_nil)) (de_callB call_len fits_len Z.n_len boot_len (da_cons (de_name 1) da_nil))) (fun _ _ => rfl)) da_nil)))) da_nil))
    (dss_cons (ds_for PassesOwn.leaving rfl (di_seq (de_lst (da_cons (de_call (n := 3) (takes_of rfl rfl rfl rfl) (ok__law_first Z) (hr.mono (by decide)) Z.m__law_first Z.F__law_first.kp Z.b__law_first (da_cons (de_name 1) (da_cons (de_name 2) (da_cons (de_ix ix_seq fits_ix (de_name 5) de_int (fun _ _ => rfl)) da_nil))) (eCons_len (eCons_len (eCons_len (fun _ _ h => eNil_len h))))) (da_cons (de_call (n := 3) (takes_of rfl rfl rfl rfl) (ok__law_first Z) (hr.mono (by decide)) Z.m__law_first Z.F__law_first.kp Z.b__law_first (da_cons (de_name 2) (da_cons (de_name 1) (da_cons (de_ix ix_seq fits_ix (de_name 5) de_int (fun _ _ => rfl)) da_nil))) (eCons_len (eCons_len (eCons_len (fun _ _ h => eNil_len h))))) da_nil)))) (dg_name (i := 10) sc__law_certificates.nd rfl (by first | exact .inl rfl | exact .inr rfl))
    (dss_cons (ds_mut (i := 9) PySem.F.plainAttrs_list PySem.F.slot_list_append PySem.F.type_list_append mt_append mut_append rfl (by first | exact .inl rfl | exact .inr (.inl rfl) | exact .inr (.inr rfl)) (da_cons (de_name 10) da_nil))
    (dss_cons (ds_mut (i := 9) PySem.F.plainAttrs_list PySem.F.slot_list_append PySem.F.type_list_append mt_append mut_append rfl (by first | exact .inl rfl | exact .inr (.inl rfl) | exact .inr (.inr rfl)) (da_cons (de_tup (da_cons (de_ix ix_seq fits_ix (de_name 10) de_int (fun _ _ => rfl)) (da_cons (de_ix ix_seq fits_ix (de_name 10) de_int (fun _ _ => rfl)) (da_cons (de_ix ix_seq fits_ix (de_name 10) de_int (fun _ _ => rfl)) da_nil)))) da_nil))
    (dss_cons (ds_mut (i := 9) PySem.F.plainAttrs_list PySem.F.slot_list_append PySem.F.type_list_append mt_append mut_append rfl (by first | exact .inl rfl | exact .inr (.inl rfl) | exact .inr (.inr rfl)) (da_cons (de_tup (da_cons (de_ix ix_seq fits_ix (de_name 10) de_int (fun _ _ => rfl)) (da_cons (de_ix ix_seq fits_ix (de_name 10) de_int (fun _ _ => rfl)) (da_cons (de_ix ix_seq fits_ix (de_name 10) de_int (fun _ _ => rfl)) da_nil)))) da_nil))
    (dss_cons (ds_mut (i := 9) PySem.F.plainAttrs_list PySem.F.slot_list_append PySem.F.type_list_append mt_append mut_append rfl (by first | exact .inl rfl | exact .inr (.inl rfl) | exact .inr (.inr rfl)) (da_cons (de_call (n := 3) (takes_of rfl rfl rfl rfl) (ok__law_replaced Z) (hr.mono (by decide)) Z.m__law_replaced Z.F__law_replaced.kp Z.b__law_replaced (da_cons (de_name 10) (da_cons (de_ix ix_seq fits_ix (de_name 5) de_int (fun _ _ => rfl)) (da_cons (de_ix ix_seq fits_ix (de_name 8) de_int (fun _ _ => rfl)) da_nil))) (eCons_len (eCons_len (eCons_len (fun _ _ h => eNil_len h))))) da_nil))
    (dss_cons (ds_mut (i := 9) PySem.F.plainAttrs_list PySem.F.slot_list_append PySem.F.type_list_append mt_append mut_append rfl (by first | exact .inl rfl | exact .inr (.inl rfl) | exact .inr (.inr rfl)) (da_cons (de_call (n := 3) (takes_of rfl rfl rfl rfl) (ok__law_replaced Z) (hr.mono (by decide)) Z.m__law_replaced Z.F__law_replaced.kp Z.b__law_replaced (da_cons (de_name 10) (da_cons (de_ix ix_seq fits_ix (de_name 5) de_int (fun _ _ => rfl)) (da_cons (de_ix ix_seq fits_ix (de_name 1) (de_bin op_mod fits_mod (de_callTy call_int1 fits_int Z.n_int boot_int (da_cons (de_ix ix_seq fits_ix (de_name 5) de_int (fun _ _ => rfl)) da_nil)) (de_callB call_len fits_len Z.n_len boot_len (da_cons (de_name 1) da_nil))) (fun _ _ => rfl)) da_nil))) (eCons_len (eCons_len (eCons_len (fun _ _ h => eNil_len h))))) da_nil))
    (dss_cons (ds_set (i := 11) sc__law_certificates.nd rfl (by first | exact .inl rfl | exact .inr rfl) (de_ix ix_seq fits_ix (de_name 10) (de_ix ix_seq fits_ix (de_name 5) de_int (fun _ _ => rfl)) (fun _ _ => rfl)))
    (dss_cons (ds_mut (i := 9) PySem.F.plainAttrs_list PySem.F.slot_list_append PySem.F.type_list_append mt_append mut_append rfl (by first | exact .inl rfl | exact .inr (.inl rfl) | exact .inr (.inr rfl)) (da_cons (de_call (n := 3) (takes_of rfl rfl rfl rfl) (ok__law_replaced Z) (hr.mono (by decide)) Z.m__law_replaced Z.F__law_replaced.kp Z.b__law_replaced (da_cons (de_name 10) (da_cons (de_ix ix_seq fits_ix (de_name 5) de_int (fun _ _ => rfl)) (da_cons (de_tup (da_cons (de_bin op_sub fits_sub (de_ix ix_seq fits_ix (de_name 11) de_int (fun _ _ => rfl)) de_int) (da_cons (de_bin op_addG fits_add (de_ix ix_seq fits_ix (de_name 11) de_int (fun _ _ => rfl)) (de_name 6)) da_nil))) da_nil))) (eCons_len (eCons_len (eCons_len (fun _ _ h => eNil_len h))))) da_nil))
    (dss_one (ds_mut (i := 9) PySem.F.plainAttrs_list PySem.F.slot_list_append PySem.F.type_list_append mt_append mut_append rfl (by first | exact .inl rfl | exact .inr (.inl rfl) | exact .inr (.inr rfl)) (da_cons (de_call (n := 3) (takes_of rfl rfl rfl rfl) (ok__law_replaced Z) (hr.mono (by decide)) Z.m__law_replaced Z.F__law_replaced.kp Z.b__law_replaced (da_cons (de_name 10) (da_cons (de_ix ix_seq fits_ix (de_name 5) de_int (fun _ _ => rfl)) (da_cons (de_tup (da_cons (de_bin op_addG fits_add (de_ix ix_seq fits_ix (de_name 11) de_int (fun _ _ => rfl)) de_int) (da_cons (de_bin op_sub fits_sub (de_ix ix_seq fits_ix (de_name 11) de_int (fun _ _ => rfl)) (de_name 6)) da_nil))) da_nil))) (eCons_len (eCons_len (eCons_len (fun _ _ h => eNil_len h))))) da_nil)))))))))))
    (dss_cons (ds_if (dt_cmp op_le fits_le (de_callB call_len fits_len Z.n_len boot_len (da_cons (de_name 1) da_nil)) de_int (by first | exact nomark _ | rfl))
    (dss_one (ds_for PassesOwn.leaving rfl (di_seq (de_name 1)) (dg_name (i := 12) sc__law_certificates.nd rfl (by first | exact .inl rfl | exact .inr rfl))
    (dss_one (ds_for PassesOwn.leaving rfl (di_seq (de_name 1)) (dg_name (i := 13) sc__law_certificates.nd rfl (by first | exact .inl rfl | exact .inr rfl))
    (dss_one (ds_for PassesOwn.leaving rfl (di_seq (de_name 1)) (dg_name (i := 14) sc__law_certificates.nd rfl (by first | exact .inl rfl | exact .inr rfl))
    (dss_one (ds_mut (i := 9) PySem.F.plainAttrs_list PySem.F.slot_list_append PySem.F.type_list_append mt_append mut_append rfl (by first | exact .inl rfl | exact .inr (.inl rfl) | exact .inr (.inr rfl)) (da_cons (de_tup (da_cons (de_name 12) (da_cons (de_name 13) (da_cons (de_name 14) da_nil)))) da_nil)))))))))
    dss_nil)
    (dss_one (ds_retV 9))))))))))))
theorem ok__law_crossing (Z : Facts K mg) : FnOk P w K mg base (L2.CX P w) 1 Z.a__law_crossing Z.d__law_crossing ["d"] (spD K 1 F__law_crossing) :=
  fn_ok (k := 0) Z.F__law_crossing sc__law_crossing (by decide) fun cdv A outer s H E hr =>
    (dss_cons (ds_set (i := 1) sc__law_crossing.nd rfl (by first | exact .inl rfl | exact .inr rfl) (de_bin op_addG fits_add (de_bin op_addG fits_add (de_ix ix_seq fits_ix (de_name 0) de_int (fun _ _ => rfl)) de_int) (de_ix ix_seq fits_ix (de_name 0) de_int (fun _ _ => rfl))))
    (dss_cons (ds_set (i := 2) sc__law_crossing.nd rfl (by first | exact .inl rfl | exact .inr rfl) (de_bin op_addG fits_add (de_bin op_addG fits_add (de_ix ix_seq fits_ix (de_name 0) de_int (fun _ _ => rfl)) de_int) (de_ix ix_seq fits_ix (de_name 0) de_int (fun _ _ => rfl))))
    (dss_cons (ds_set (i := 3) sc__law_crossing.nd rfl (by first | exact .inl rfl | exact .inr rfl) (de_bin op_addG fits_add (de_lc rfl sc__law_crossing.nd (di_range2 (by rfl) Z.n_range (da_cons (de_ix ix_seq fits_ix (de_name 0) de_int (fun _ _ => rfl)) (da_cons (de_bin op_addG fits_add (de_name 1) de_int) da_nil))) (blkOk_by (own := [("x", 5)]) (by kernel_rfl)) rfl (fun s H C cl fp => (dg_name (i := 5) sc__law_crossing.nd rfl (by first | exact .inl rfl | exact .inr rfl))) (fun s H C cl fp => dts_nil) (fun s H C cl fp => (de_tup (da_cons (de_name 5) (da_cons (de_ix ix_seq fits_ix (de_name 0) de_int (fun _ _ => rfl)) da_nil))))) (de_lc rfl sc__law_crossing.nd (di_range2 (by rfl) Z.n_range (da_cons (de_bin op_addG fits_add (de_ix ix_seq fits_ix (de_name 0) de_int (fun _ _ => rfl)) de_int) (da_cons (de_bin op_addG fits_add (de_name 2) de_int) da_nil))) (blkOk_by (own := [("y", 6)]) (by kernel_rfl)) rfl (fun s H C cl fp => (dg_name (i := 6) sc__law_crossing.nd rfl (by first | exact .inl rfl | exact .inr rfl))) (fun s H C cl fp => dts_nil) (fun s H C cl fp => (de_tup (da_cons (de_name 1) (da_cons (de_name 6) da_nil)))))))
    (dss_cons (ds_set (i := 4) sc__law_crossing.nd rfl (by first | exact .inl rfl | exact .inr rfl) (de_bin op_addG fits_add (de_lc rfl sc__law_crossing.nd (di_range2 (by rfl) Z.n_range (da_cons (de_ix ix_seq fits_ix (de_name 0) de_int (fun _ _ => rfl)) (da_cons (de_bin op_addG fits_add (de_name 2) de_int) da_nil))) (blkOk_by (own := [("y", 6)]) (by kernel_rfl)) rfl (fun s H C cl fp => (dg_name (i := 6) sc__law_crossing.nd rfl (by first | exact .inl rfl | exact .inr rfl))) (fun s H C cl fp => dts_nil) (fun s H C cl fp => (de_tup (da_cons (de_ix ix_seq fits_ix (de_name 0) de_int (fun _ _ => rfl)) (da_cons (de_name 6) da_nil))))) (de_lc rfl sc__law_crossing.nd (di_range2 (by rfl) Z.n_range (da_cons (de_bin op_addG fits_add (de_ix ix_seq fits_ix (de_name 0) de_int (fun _ _ => rfl)) de_int) (da_cons (de_bin op_addG fits_add (de_name 1) de_int) da_nil))) (blkOk_by (own := [("x", 5)]) (by kernel_rfl)) rfl (fun s H C cl fp => (dg_name (i := 5) sc__law_crossing.nd rfl (by first | exact .inl rfl | exact .inr rfl))) (fun s H C cl fp => dts_nil) (fun s H C cl fp => (de_tup (da_cons (de_name 5) (da_cons (de_name 2) da_nil)))))))
    (dss_cons (ds_if (dt_cmp (op_eqD hr.units) fits_eq (de_ix ix_seq fits_ix (de_name 0) de_int (fun _ _ => rfl)) de_int (by first | exact nomark _ | rfl))
    (dss_cons (by first
    | exact ds_setLc (i := 3) rfl sc__law_crossing.nd rfl rfl rfl (di_seq (de_name 3)) (blkOk_by (own := [("corner", 7)]) (by kernel_rfl)) rfl (fun s H C cl fp => (dg_name (i := 7) sc__law_crossing.nd rfl (by first | exact .inl rfl | exact .inr rfl))) (fun s H C cl fp => dts_nil) (fun s H C cl fp => (de_tup (da_cons (de_ix ix_seq fits_ix (de_name 7) de_int (fun _ _ => rfl)) (da_cons (de_bin op_sub fits_sub (de_bin op_addG fits_add (de_ix ix_seq fits_ix (de_name 0) de_int (fun _ _ => rfl)) (de_name 2)) (de_ix ix_seq fits_ix (de_name 7) de_int (fun _ _ => rfl))) da_nil))))
    | exact ds_set (i := 3) sc__law_crossing.nd rfl (by first | exact .inl rfl | exact .inr rfl) (de_lc rfl sc__law_crossing.nd (di_seq (de_name 3)) (blkOk_by (own := [("corner", 7)]) (by kernel_rfl)) rfl (fun s H C cl fp => (dg_name (i := 7) sc__law_crossing.nd rfl (by first | exact .inl rfl | exact .inr rfl))) (fun s H C cl fp => dts_nil) (fun s H C cl fp => (de_tup (da_cons (de_ix ix_seq fits_ix (de_name 7) de_int (fun _ _ => rfl)) (da_cons (de_bin op_sub fits_sub (de_bin op_addG fits_add (de_ix ix_seq fits_ix (de_name 0) de_int (fun _ _ => rfl)) (de_name 2)) (de_ix ix_seq fits_ix (de_name 7) de_int (fun _ _ => rfl))) da_nil))))))
    (dss_one (by first
    | exact ds_setLc (i := 4) rfl sc__law_crossing.nd rfl rfl rfl (di_seq (de_name 4)) (blkOk_by (own := [("corner", 7)]) (by kernel_rfl)) rfl (fun s H C cl fp => (dg_name (i := 7) sc__law_crossing.nd rfl (by first | exact .inl rfl | exact .inr rfl))) (fun s H C cl fp => dts_nil) (fun s H C cl fp => (de_tup (da_cons (de_ix ix_seq fits_ix (de_name 7) de_int (fun _ _ => rfl)) (da_cons (de_bin op_sub fits_sub (de_bin op_addG fits_add (de_ix ix_seq fits_ix (de_name 0) de_int (fun _ _ => rfl)) (de_name 2)) (de_ix ix_seq fits_ix (de_name 7) de_int (fun _ _ => rfl))) da_nil))))
    | exact ds_set (i := 4) sc__law_crossing.nd rfl (by first | exact .inl rfl | exact .inr rfl) (de_lc rfl sc__law_crossing.nd (di_seq (de_name 4)) (blkOk_by (own := [("corner", 7)]) (by kernel_rfl)) rfl (fun s H C cl fp => (dg_name (i := 7) sc__law_crossing.nd rfl (by first | exact .inl rfl | exact .inr rfl))) (fun s H C cl fp => dts_nil) (fun s H C cl fp => (de_tup (da_cons (de_ix ix_seq fits_ix (de_name 7) de_int (fun _ _ => rfl)) (da_cons (de_bin op_sub fits_sub (de_bin op_addG fits_add (de_ix ix_seq fits_ix (de_name 0) de_int (fun _ _ => rfl)) (de_name 2)) (de_ix ix_seq fits_ix (de_name 7) de_int (fun _ _ => rfl))) da_nil))))))))
    dss_nil)
    (dss_one (ds_ret (de_lst (da_cons (de_callTy call_tuple_of fits_tupOf Z.n_tuple boot_tuple (da_cons (de_name 3) da_nil)) (da_cons (de_callTy call_tuple_of fits_tupOf Z.n_tuple boot_tuple (da_cons (de_name 4) da_nil)) da_nil))))))))))
theorem ok__law_accepts (Z : Facts K mg) : FnOk P w K mg base (L2.CX P w) 1 Z.a__law_accepts Z.d__law_accepts ["path", "other", "told"] (spD K 3 F__law_accepts) :=
  fn_ok (k := 0) Z.F__law_accepts sc__law_accepts (by decide) fun cdv A outer s H E hr =>
    (dss_cons (ds_set (i := 3) sc__law_accepts.nd rfl (by first | exact .inl rfl | exact .inr rfl) (de_lst da_nil))
    (dss_cons (ds_for PassesOwn.leaving rfl (di_seq (de_name 2)) (dg_name (i := 4) sc__law_accepts.nd rfl (by first | exact .inl rfl | exact .inr rfl))
    (dss_cons (by first
    | exact ds_setLc (i := 5) rfl sc__law_accepts.nd rfl rfl rfl (di_range1 (by rfl) Z.n_range (da_cons (de_callB call_len fits_len Z.n_len boot_len (da_cons (de_name 0) da_nil)) da_nil)) (blkOk_by (own := [("k", 6)]) (by kernel_rfl)) rfl (fun s H C cl fp => (dg_name (i := 6) sc__law_accepts.nd rfl (by first | exact .inl rfl | exact .inr rfl))) (fun s H C cl fp => (dts_one (dt_cmp (op_eqD hr.units) fits_eq (de_ix ix_seq fits_ix (de_name 0) (de_name 6) (fun _ _ => rfl)) (de_name 4) (by first | exact nomark _ | rfl)))) (fun s H C cl fp => (de_name 6))
    | exact ds_set (i := 5) sc__law_accepts.nd rfl (by first | exact .inl rfl | exact .inr rfl) (de_lc rfl sc__law_accepts.nd (di_range1 (by rfl) Z.n_range (da_cons (de_callB call_len fits_len Z.n_len boot_len (da_cons (de_name 0) da_nil)) da_nil)) (blkOk_by (own := [("k", 6)]) (by kernel_rfl)) rfl (fun s H C cl fp => (dg_name (i := 6) sc__law_accepts.nd rfl (by first | exact .inl rfl | exact .inr rfl))) (fun s H C cl fp => (dts_one (dt_cmp (op_eqD hr.units) fits_eq (de_ix ix_seq fits_ix (de_name 0) (de_name 6) (fun _ _ => rfl)) (de_name 4) (by first | exact nomark _ | rfl)))) (fun s H C cl fp => (de_name 6))))
    (dss_cons (ds_if (dt_cmp (op_eqD hr.units) fits_eq (de_callB call_len fits_len Z.n_len boot_len (da_cons (de_name 5) da_nil)) de_int (by first | exact nomark _ | rfl))
    (dss_one (ds_ret de_bl))
    dss_nil)
    (dss_one (ds_mut (i := 3) PySem.F.plainAttrs_list PySem.F.slot_list_append PySem.F.type_list_append mt_append mut_append rfl (by first | exact .inl rfl | exact .inr (.inl rfl) | exact .inr (.inr rfl)) (da_cons (de_ix ix_seq fits_ix (de_name 5) de_int (fun _ _ => rfl)) da_nil))))))
    (dss_cons (ds_if (dt_w (dw_or (dt_cmp (op_niS (hu65 hr)) fits_inS (de_ix ix_seq fits_ix (de_name 2) de_int (fun _ _ => rfl)) (de_name 1) (by first | exact nomark _ | rfl)) (dw_or (dt_cmp (op_niS (hu65 hr)) fits_inS (de_ix ix_seq fits_ix (de_name 2) de_int (fun _ _ => rfl)) (de_name 1) (by first | exact nomark _ | rfl)) (dw_or1 (dt_cmp (op_inS (hu65 hr)) fits_inS (de_ix ix_seq fits_ix (de_name 2) de_int (fun _ _ => rfl)) (de_name 1) (by first | exact nomark _ | rfl))))))
    (dss_one (ds_ret de_bl))
    dss_nil)
    (dss_one (ds_ret (de_chain (op_ltG hr.units0) fits_lt (op_ltG hr.units0) fits_lt (de_callB (call_min2 rfl) fits_min2 Z.n_min boot_min (da_cons (de_ix ix_seq fits_ix (de_name 3) de_int (fun _ _ => rfl)) (da_cons (de_ix ix_seq fits_ix (de_name 3) de_int (fun _ _ => rfl)) da_nil))) (de_ix ix_seq fits_ix (de_name 3) de_int (fun _ _ => rfl)) (de_callB (call_max2 rfl) fits_max2 Z.n_max boot_max (da_cons (de_ix ix_seq fits_ix (de_name 3) de_int (fun _ _ => rfl)) (da_cons (de_ix ix_seq fits_ix (de_name 3) de_int (fun _ _ => rfl)) da_nil)))))))))
theorem ok_is_conflict (Z : Facts K mg) : FnOk P w K mg base (L2.CX P w) 1 Z.a_is_conflict Z.d_is_conflict ["path", "other", "certificate"] (spD K 3 F_is_conflict) :=
  fn_ok (k := 0) Z.F_is_conflict sc_is_conflict (by decide) fun cdv A outer s H E hr =>
    (dss_cons (ds_asg (de_name 2) (dg_tup (n := 3) rfl (dgs_cons (dg_name (i := 3) sc_is_conflict.nd rfl (by first | exact .inl rfl | exact .inr rfl)) (dgs_cons (dg_name (i := 4) sc_is_conflict.nd rfl (by first | exact .inl rfl | exact .inr rfl)) (dgs_cons (dg_name (i := 5) sc_is_conflict.nd rfl (by first | exact .inl rfl | exact .inr rfl)) dgs_nil)))))
    (dss_cons (ds_set (i := 6) sc_is_conflict.nd rfl (by first | exact .inl rfl | exact .inr rfl) (de_callTy call_list_of fits_listOf Z.n_list boot_list (da_cons (de_name 0) da_nil)))
    (dss_cons (ds_if (dt_w (dw_or (dt_cmp (op_niS (hu65 hr)) fits_inS (de_name 3) (de_name 6) (by first | exact nomark _ | rfl)) (dw_or (dt_cmp (op_niS (hu65 hr)) fits_inS (de_name 5) (de_name 6) (by first | exact nomark _ | rfl)) (dw_or1 (dt_cmp (op_niS (hu65 hr)) fits_inS (de_name 4) (de_name 6) (by first | exact nomark _ | rfl))))))
    (dss_one (ds_ret de_bl))
    dss_nil)
    (dss_cons (ds_if (dt_w (dw_or (dt_cmp (op_niS (hu65 hr)) fits_inS (de_name 3) (de_name 1) (by first | exact nomark _ | rfl)) (dw_or (dt_cmp (op_niS (hu65 hr)) fits_inS (de_name 5) (de_name 1) (by first | exact nomark _ | rfl)) (dw_or1 (dt_cmp (op_inS (hu65 hr)) fits_inS (de_name 4) (de_name 1) (by first | exact nomark _ | rfl))))))
    (dss_one (ds_ret de_bl))
    dss_nil)
    (dss_cons (ds_asg (de_callB cr_sortedI fits_sortedI Z.n_sorted boot_sorted (da_cons (de_lst (da_cons (de_bm PySem.F.plainAttrs_list PySem.F.slot_list_index PySem.F.type_list_index (mt_indexD (hu65 hr)) fits_index (de_name 6) (da_cons (de_name 3) da_nil)) (da_cons (de_bm PySem.F.plainAttrs_list PySem.F.slot_list_index PySem.F.type_list_index (mt_indexD (hu65 hr)) fits_index (de_name 6) (da_cons (de_name 5) da_nil)) da_nil))) da_nil)) (dg_lst (n := 2) rfl (dgs_cons (dg_name (i := 7) sc_is_conflict.nd rfl (by first | exact .inl rfl | exact .inr rfl)) (dgs_cons (dg_name (i := 8) sc_is_conflict.nd rfl (by first | exact .inl rfl | exact .inr rfl)) dgs_nil))))
    (dss_one (ds_ret (de_chain (op_ltG hr.units0) fits_lt (op_ltG hr.units0) fits_lt (de_name 7) (de_bm PySem.F.plainAttrs_list PySem.F.slot_list_index PySem.F.type_list_index (mt_indexD (hu65 hr)) fits_index (de_name 6) (da_cons (de_name 4) da_nil)) (de_name 8)))))))))
theorem ok__law_judged (Z : Facts K mg) : FnOk P w K mg base (L2.CX P w) 2 Z.a__law_judged Z.d__law_judged ["path", "other", "certificates"] (spD K 3 F__law_judged) :=
  fn_ok (k := 1) Z.F__law_judged sc__law_judged (by decide) fun cdv A outer s H E hr =>
    (dss_cons (ds_for PassesOwn.leaving rfl (di_seq (de_name 2)) (dg_name (i := 3) sc__law_judged.nd rfl (by first | exact .inl rfl | exact .inr rfl))
    (dss_cons (ds_set (i := 4) sc__law_judged.nd rfl (by first | exact .inl rfl | exact .inr rfl) (de_call (n := 3) (takes_of rfl rfl rfl rfl) (ok__law_accepts Z) (hr.mono (by decide)) Z.m__law_accepts Z.F__law_accepts.kp Z.b__law_accepts (da_cons (de_name 0) (da_cons (de_name 1) (da_cons (de_name 3) da_nil))) (eCons_len (eCons_len (eCons_len (fun _ _ h => eNil_len h))))))
    (dss_one (ds_for PassesOwn.leaving rfl (di_range1 (by rfl) Z.n_range (da_cons de_int da_nil)) (dg_name (i := 5) sc__law_judged.nd rfl (by first | exact .inl rfl | exact .inr rfl))
    (dss_cons (ds_set (i := 6) sc__law_judged.nd rfl (by first | exact .inl rfl | exact .inr rfl) (de_call (n := 3) (takes_of rfl rfl rfl rfl) (ok_is_conflict Z) (hr.mono (by decide)) Z.m_is_conflict Z.F_is_conflict.kp Z.b_is_conflict (da_cons (de_name 0) (da_cons (de_name 1) (da_cons (de_name 3) da_nil))) (eCons_len (eCons_len (eCons_len (fun _ _ h => eNil_len h))))))
    (dss_one (ds_if (dt_w (dw_or (dt_not (dt_val (de_isi Z.n_isinstance boot_isinstance Z.n_bool boot_bool (by decide) (de_name 6)))) (dw_or1 (dt_cmp (op_neD hr.units) fits_ne (de_name 6) (de_name 4) (by first | exact nomark _ | rfl)))))
    (dss_one (ds_ret de_bl))
    dss_nil)))))))
    (dss_one (ds_ret de_bl)))
theorem ok__law_crossing_judged (Z : Facts K mg) : FnOk P w K mg base (L2.CX P w) 3 Z.a__law_crossing_judged Z.d__law_crossing_judged ["cell"] (spD K 1 F__law_crossing_judged) :=
  fn_ok (k := 2) Z.F__law_crossing_judged sc__law_crossing_judged (by decide) fun cdv A outer s H E hr =>
    (dss_cons (ds_set (i := 1) sc__law_crossing_judged.nd rfl (by first | exact .inl rfl | exact .inr rfl) (de_call (n := 2) (takes_of rfl rfl rfl rfl) (ok__law_draws Z) (hr.mono (by decide)) Z.m__law_draws Z.F__law_draws.kp Z.b__law_draws (da_cons (de_name 0) (da_cons (de_lst (da_cons de_int (da_cons de_int (da_cons de_int (da_cons de_int (da_cons de_int (da_cons de_int (da_cons de_int da_nil)))))))) da_nil)) (eCons_len (eCons_len (fun _ _ h => eNil_len h)))))
    (dss_cons (ds_set (i := 2) sc__law_crossing_judged.nd rfl (by first | exact .inl rfl | exact .inr rfl) (de_call (n := 1) (takes_of rfl rfl rfl rfl) (ok__law_crossing Z) (hr.mono (by decide)) Z.m__law_crossing Z.F__law_crossing.kp Z.b__law_crossing (da_cons (de_name 1) da_nil) (eCons_len (fun _ _ h => eNil_len h))))
    (dss_cons (by first
    | exact ds_setLc (i := 3) rfl sc__law_crossing_judged.nd rfl rfl rfl (di_range1 (by rfl) Z.n_range (da_cons de_int da_nil)) (blkOk_by (own := [("k", 4)]) (by kernel_rfl)) rfl (fun s H C cl fp => (dg_name (i := 4) sc__law_crossing_judged.nd rfl (by first | exact .inl rfl | exact .inr rfl))) (fun s H C cl fp => dts_nil) (fun s H C cl fp => (de_ix ix_seq fits_ix (de_ix ix_seq fits_ix (de_name 2) (de_name 4) (fun _ _ => rfl)) (de_bin op_addG fits_add de_int (de_bin op_mod fits_mod (de_callTy call_int1 fits_int Z.n_int boot_int (da_cons (de_ix ix_seq fits_ix (de_name 1) (de_bin op_addG fits_add de_int (de_name 4)) (fun _ _ => rfl)) da_nil)) (de_bin op_sub fits_sub (de_callB call_len fits_len Z.n_len boot_len (da_cons (de_ix ix_seq fits_ix (de_name 2) (de_name 4) (fun _ _ => rfl)) da_nil)) de_int))) (fun _ _ => rfl)))
    | exact ds_set (i := 3) sc__law_crossing_judged.nd rfl (by first | exact .inl rfl | exact .inr rfl) (de_lc rfl sc__law_crossing_judged.nd (di_range1 (by rfl) Z.n_range (da_cons de_int da_nil)) (blkOk_by (own := [("k", 4)]) (by kernel_rfl)) rfl (fun s H C cl fp => (dg_name (i := 4) sc__law_crossing_judged.nd rfl (by first | exact .inl rfl | exact .inr rfl))) (fun s H C cl fp => dts_nil) (fun s H C cl fp => (de_ix ix_seq fits_ix (de_ix ix_seq fits_ix (de_name 2) (de_name 4) (fun _ _ => rfl)) (de_bin op_addG fits_add de_int (de_bin op_mod fits_mod (de_callTy call_int1 fits_int Z.n_int boot_int (da_cons (de_ix ix_seq fits_ix (de_name 1) (de_bin op_addG fits_add de_int (de_name 4)) (fun _ _ => rfl)) da_nil)) (de_bin op_sub fits_sub (de_callB call_len fits_len Z.n_len boot_len (da_cons (de_ix ix_seq fits_ix (de_name 2) (de_name 4) (fun _ _ => rfl)) da_nil)) de_int))) (fun _ _ => rfl)))))
    (dss_cons (ds_for PassesOwn.leaving rfl (di_range1 (by rfl) Z.n_range (da_cons de_int da_nil)) (dg_name (i := 4) sc__law_crossing_judged.nd rfl (by first | exact .inl rfl | exact .inr rfl))
    (dss_cons (ds_set (i := 5) sc__law_crossing_judged.nd rfl (by first | exact .inl rfl | exact .inr rfl) (de_ix ix_seq fits_ix (de_name 2) (de_name 4) (fun _ _ => rfl)))
    (dss_cons (ds_set (i := 6) sc__law_crossing_judged.nd rfl (by first | exact .inl rfl | exact .inr rfl) (de_bin op_addG fits_add (de_lc rfl sc__law_crossing_judged.nd (di_seq (de_name 3)) (blkOk_by (own := [("corner", 7)]) (by kernel_rfl)) rfl (fun s H C cl fp => (dg_name (i := 7) sc__law_crossing_judged.nd rfl (by first | exact .inl rfl | exact .inr rfl))) (fun s H C cl fp => dts_nil) (fun s H C cl fp => (de_tup (da_cons (de_ix ix_seq fits_ix (de_name 5) de_int (fun _ _ => rfl)) (da_cons (de_name 7) (da_cons (de_ix ix_seq fits_ix (de_name 5) (de_un un_neg fits_neg de_int) (fun _ _ => rfl)) da_nil)))))) (de_lst (da_cons (de_tup (da_cons (de_ix ix_seq fits_ix (de_name 5) (de_un un_neg fits_neg de_int) (fun _ _ => rfl)) (da_cons (de_ix ix_seq fits_ix (de_name 3) (de_name 4) (fun _ _ => rfl)) (da_cons (de_ix ix_seq fits_ix (de_name 5) de_int (fun _ _ => rfl)) da_nil)))) da_nil))))
    (dss_one (ds_if (dt_not (dt_val (de_call (n := 3) (takes_of rfl rfl rfl rfl) (ok__law_judged Z) (hr.mono (by decide)) Z.m__law_judged Z.F__law_judged.kp Z.b__law_judged (da_cons (de_name 5) (da_cons (de_ix ix_seq fits_ix (de_name 2) (de_bin op_sub fits_sub de_int (de_name 4)) (fun _ _ => rfl)) (da_cons (de_bin op_addG fits_add (de_name 6) (de_lst (da_cons (de_tup (da_cons (de_ix ix_seq fits_ix (de_name 5) de_int (fun _ _ => rfl)) (da_cons (de_ix ix_seq fits_ix (de_name 5) (de_un un_neg fits_neg de_int) (fun _ _ => rfl)) (da_cons (de_ix ix_seq fits_ix (de_name 3) (de_name 4) (fun _ _ => rfl)) da_nil)))) da_nil))) da_nil))) (eCons_len (eCons_len (eCons_len (fun _ _ h => eNil_len h)))))))
    (dss_one (ds_ret de_bl))
    dss_nil)))))
    (dss_one (ds_ret de_bl))))))
theorem ok__law_cell (Z : Facts K mg) : FnOk P w K mg base (L2.CX P w) 1 Z.a__law_cell Z.d__law_cell ["script", "k"] (spD K 2 F__law_cell) :=
  fn_ok (k := 0) Z.F__law_cell sc__law_cell (by decide) fun cdv A outer s H E hr =>
    (dss_cons (ds_if (dt_cmp (op_ltG hr.units0) fits_lt (de_name 1) (de_callB call_len fits_len Z.n_len boot_len (da_cons (de_name 0) da_nil)) (by first | exact nomark _ | rfl))
    (dss_one (ds_ret (de_callTy call_int1 fits_int Z.n_int boot_int (da_cons (de_ix ix_seq fits_ix (de_name 0) (de_name 1) (fun _ _ => rfl)) da_nil))))
    dss_nil)
    (dss_one (ds_ret de_int)))
theorem ok__law_across (Z : Facts K mg) : FnOk P w K mg base (L2.CX P w) 2 Z.a__law_across Z.d__law_across ["board", "cell"] (spD K 2 F__law_across) :=
  fn_ok (k := 1) Z.F__law_across sc__law_across (by decide) fun cdv A outer s H E hr =>
    (dss_cons (ds_set (i := 2) sc__law_across.nd rfl (by first | exact .inl rfl | exact .inr rfl) (de_call (n := 2) (takes_of rfl rfl rfl rfl) (ok__law_draws Z) (hr.mono (by decide)) Z.m__law_draws Z.F__law_draws.kp Z.b__law_draws (da_cons (de_name 1) (da_cons (de_bin op_mulG fits_mul (de_lst (da_cons de_int da_nil)) de_int) da_nil)) (eCons_len (eCons_len (fun _ _ h => eNil_len h)))))
    (dss_cons (ds_set (i := 3) sc__law_across.nd rfl (by first | exact .inl rfl | exact .inr rfl) (de_lst (da_cons (de_tup (da_cons de_int (da_cons (de_ix ix_seq fits_ix (de_lst (da_cons de_int (da_cons (de_ix ix_seq fits_ix (de_name 0) de_int (fun _ _ => rfl)) da_nil))) (de_ix ix_seq fits_ix (de_name 2) de_int (fun _ _ => rfl)) (fun _ _ => rfl)) da_nil))) da_nil)))
    (dss_cons (ds_for PassesOwn.leaving rfl (di_range1 (by rfl) Z.n_range (da_cons de_int da_nil)) (dg_name (i := 4) sc__law_across.nd rfl (by first | exact .inl rfl | exact .inr rfl))
    (dss_cons (ds_set (i := 5) sc__law_across.nd rfl (by first | exact .inl rfl | exact .inr rfl) (de_call (n := 2) (takes_of rfl rfl rfl rfl) (ok__law_moved Z) (hr.mono (by decide)) Z.m__law_moved Z.F__law_moved.kp Z.b__law_moved (da_cons (de_ix ix_seq fits_ix (de_name 3) (de_un un_neg fits_neg de_int) (fun _ _ => rfl)) (da_cons (de_ix ix_seq fits_ix (de_lst (da_cons de_str (da_cons (de_ix ix_seq fits_ix (de_lst (da_cons de_str (da_cons de_str da_nil))) (de_ix ix_seq fits_ix (de_name 2) de_int (fun _ _ => rfl)) (fun _ _ => rfl)) da_nil))) (de_ix ix_seq fits_ix (de_name 2) (de_bin op_addG fits_add de_int (de_name 4)) (fun _ _ => rfl)) (fun _ _ => rfl)) da_nil)) (eCons_len (eCons_len (fun _ _ h => eNil_len h)))))
    (dss_one (ds_if (dt_val (de_call (n := 2) (takes_of rfl rfl rfl rfl) (ok__law_on_board Z) (hr.mono (by decide)) Z.m__law_on_board Z.F__law_on_board.kp Z.b__law_on_board (da_cons (de_name 0) (da_cons (de_name 5) da_nil)) (eCons_len (eCons_len (fun _ _ h => eNil_len h)))))
    (dss_one (ds_mut (i := 3) PySem.F.plainAttrs_list PySem.F.slot_list_append PySem.F.type_list_append mt_append mut_append rfl (by first | exact .inl rfl | exact .inr (.inl rfl) | exact .inr (.inr rfl)) (da_cons (de_name 5) da_nil)))
    dss_nil))))
    (dss_cons (ds_if (dt_cmp (op_ltG hr.units0) fits_lt (de_ix ix_seq fits_ix (de_name 3) (de_un un_neg fits_neg de_int) (fun _ _ => rfl)) (de_ix ix_seq fits_ix (de_name 3) de_int (fun _ _ => rfl)) (by first | exact nomark _ | rfl))
    (dss_one (ds_set (i := 3) sc__law_across.nd rfl (by first | exact .inl rfl | exact .inr rfl) (de_revL (de_name 3))))
    dss_nil)
    (dss_one (ds_ret (de_callTy call_tuple_of fits_tupOf Z.n_tuple boot_tuple (da_cons (de_name 3) da_nil))))))))
theorem ok_law (Z : Facts K mg) : FnOk P w K mg base (L2.CX P w) 4 Z.a_law Z.d_law ["script"] (spD K 1 F_law) :=
  fn_ok (k := 3) Z.F_law sc_law (by decide) fun cdv A outer s H E hr =>
    (dss_cons (ds_set (i := 1) sc_law.nd rfl (by first | exact .inl rfl | exact .inr rfl) (de_call (n := 2) (takes_of rfl rfl rfl rfl) (ok__law_board Z) (hr.mono (by decide)) Z.m__law_board Z.F__law_board.kp Z.b__law_board (da_cons (de_call (n := 2) (takes_of rfl rfl rfl rfl) (ok__law_cell Z) (hr.mono (by decide)) Z.m__law_cell Z.F__law_cell.kp Z.b__law_cell (da_cons (de_name 0) (da_cons de_int da_nil)) (eCons_len (eCons_len (fun _ _ h => eNil_len h)))) (da_cons de_int da_nil)) (eCons_len (eCons_len (fun _ _ h => eNil_len h)))))
    (dss_cons (ds_set (i := 2) sc_law.nd rfl (by first | exact .inl rfl | exact .inr rfl) (de_call (n := 2) (takes_of rfl rfl rfl rfl) (ok__law_path Z) (hr.mono (by decide)) Z.m__law_path Z.F__law_path.kp Z.b__law_path (da_cons (de_name 1) (da_cons (de_call (n := 2) (takes_of rfl rfl rfl rfl) (ok__law_cell Z) (hr.mono (by decide)) Z.m__law_cell Z.F__law_cell.kp Z.b__law_cell (da_cons (de_name 0) (da_cons de_int da_nil)) (eCons_len (eCons_len (fun _ _ h => eNil_len h)))) da_nil)) (eCons_len (eCons_len (fun _ _ h => eNil_len h)))))
    (dss_cons (ds_if (dt_cmp (op_eqD hr.units) fits_eq (de_ix ix_seq fits_ix (de_call (n := 2) (takes_of rfl rfl rfl rfl) (ok__law_draws Z) (hr.mono (by decide)) Z.m__law_draws Z.F__law_draws.kp Z.b__law_draws (da_cons (de_call (n := 2) (takes_of rfl rfl rfl rfl) (ok__law_cell Z) (hr.mono (by decide)) Z.m__law_cell Z.F__law_cell.kp Z.b__law_cell (da_cons (de_name 0) (da_cons de_int da_nil)) (eCons_len (eCons_len (fun _ _ h => eNil_len h)))) (da_cons (de_lst (da_cons de_int da_nil)) da_nil)) (eCons_len (eCons_len (fun _ _ h => eNil_len h)))) de_int (fun _ _ => rfl)) de_int (by first | exact nomark _ | rfl))
    (dss_one (ds_set (i := 2) sc_law.nd rfl (by first | exact .inl rfl | exact .inr rfl) (de_call (n := 2) (takes_of rfl rfl rfl rfl) (ok__law_across Z) (hr.mono (by decide)) Z.m__law_across Z.F__law_across.kp Z.b__law_across (da_cons (de_name 1) (da_cons (de_call (n := 2) (takes_of rfl rfl rfl rfl) (ok__law_cell Z) (hr.mono (by decide)) Z.m__law_cell Z.F__law_cell.kp Z.b__law_cell (da_cons (de_name 0) (da_cons de_int da_nil)) (eCons_len (eCons_len (fun _ _ h => eNil_len h)))) da_nil)) (eCons_len (eCons_len (fun _ _ h => eNil_len h))))))
    dss_nil)
    (dss_cons (ds_set (i := 3) sc_law.nd rfl (by first | exact .inl rfl | exact .inr rfl) (de_call (n := 4) (takes_of rfl rfl rfl rfl) (ok__law_other Z) (hr.mono (by decide)) Z.m__law_other Z.F__law_other.kp Z.b__law_other (da_cons (de_name 1) (da_cons (de_name 2) (da_cons (de_call (n := 2) (takes_of rfl rfl rfl rfl) (ok__law_cell Z) (hr.mono (by decide)) Z.m__law_cell Z.F__law_cell.kp Z.b__law_cell (da_cons (de_name 0) (da_cons de_int da_nil)) (eCons_len (eCons_len (fun _ _ h => eNil_len h)))) (da_cons (de_call (n := 2) (takes_of rfl rfl rfl rfl) (ok__law_cell Z) (hr.mono (by decide)) Z.m__law_cell Z.F__law_cell.kp Z.b__law_cell (da_cons (de_name 0) (da_cons de_int da_nil)) (eCons_len (eCons_len (fun _ _ h => eNil_len h)))) da_nil)))) (eCons_len (eCons_len (eCons_len (eCons_len (fun _ _ h => eNil_len h)))))))
    (dss_cons (ds_set (i := 4) sc_law.nd rfl (by first | exact .inl rfl | exact .inr rfl) (de_call (n := 5) (takes_of rfl rfl rfl rfl) (ok__law_certificates Z) (hr.mono (by decide)) Z.m__law_certificates Z.F__law_certificates.kp Z.b__law_certificates (da_cons (de_name 1) (da_cons (de_name 2) (da_cons (de_name 3) (da_cons (de_call (n := 2) (takes_of rfl rfl rfl rfl) (ok__law_cell Z) (hr.mono (by decide)) Z.m__law_cell Z.F__law_cell.kp Z.b__law_cell (da_cons (de_name 0) (da_cons de_int da_nil)) (eCons_len (eCons_len (fun _ _ h => eNil_len h)))) (da_cons (de_call (n := 2) (takes_of rfl rfl rfl rfl) (ok__law_cell Z) (hr.mono (by decide)) Z.m__law_cell Z.F__law_cell.kp Z.b__law_cell (da_cons (de_name 0) (da_cons de_int da_nil)) (eCons_len (eCons_len (fun _ _ h => eNil_len h)))) da_nil))))) (eCons_len (eCons_len (eCons_len (eCons_len (eCons_len (fun _ _ h => eNil_len h))))))))
    (dss_cons (ds_if (dt_w (dw_or (dt_not (dt_val (de_call (n := 3) (takes_of rfl rfl rfl rfl) (ok__law_judged Z) (hr.mono (by decide)) Z.m__law_judged Z.F__law_judged.kp Z.b__law_judged (da_cons (de_name 2) (da_cons (de_name 3) (da_cons (de_name 4) da_nil))) (eCons_len (eCons_len (eCons_len (fun _ _ h => eNil_len h))))))) (dw_or1 (dt_not (dt_val (de_call (n := 3) (takes_of rfl rfl rfl rfl) (ok__law_judged Z) (hr.mono (by decide)) Z.m__law_judged Z.F__law_judged.kp Z.b__law_judged (da_cons (de_name 3) (da_cons (de_name 2) (da_cons (de_name 4) da_nil))) (eCons_len (eCons_len (eCons_len (fun _ _ h => eNil_len h))))))))))
    (dss_one (ds_ret de_bl))
    dss_nil)
    (dss_one (ds_ret (de_call (n := 1) (takes_of rfl rfl rfl rfl) (ok__law_crossing_judged Z) (hr.mono (by decide)) Z.m__law_crossing_judged Z.F__law_crossing_judged.kp Z.b__law_crossing_judged (da_cons (de_call (n := 2) (takes_of rfl rfl rfl rfl) (ok__law_cell Z) (hr.mono (by decide)) Z.m__law_cell Z.F__law_cell.kp Z.b__law_cell (da_cons (de_name 0) (da_cons de_int da_nil)) (eCons_len (eCons_len (fun _ _ h => eNil_len h)))) da_nil) (eCons_len (fun _ _ h => eNil_len h)))))))))))
end
theorem all_mk {P : Program} {w : World} {K : PySem.W.Frag} {h : Heap} {mg : Str → Option Value} {fa : Addr} (X : K.In h) (G : h.Ns mainGlobals mg) (hfa : mg "law" = some (.ref fa))
    {f0 : Addr} {od0 an0 : Option Addr} {sl0 : Array (Option Value)} {oc0 kV0 dc0 pm0 cd0 ct0 : Value}
    (a0 : PySem.W.nsIn K mainGlobals "_law_draws" = some (some (.ref f0))) (l0 : K.lookup f0 = some ⟨oc0, od0, .func (PySem.W.fnOf "_law_draws" "_law_draws" (defArgs st__law_draws) (defBody st__law_draws) (defScope st__law_draws) .none kV0 dc0 pm0 an0 cd0 ct0), sl0⟩) (c0 : PySem.W.codeIn K cd0 "_law_draws" = true) (k0 : PySem.W.keepIn K (.ref f0) = true)
    {f1 : Addr} {od1 an1 : Option Addr} {sl1 : Array (Option Value)} {oc1 kV1 dc1 pm1 cd1 ct1 : Value}
    (a1 : PySem.W.nsIn K mainGlobals "_law_board" = some (some (.ref f1))) (l1 : K.lookup f1 = some ⟨oc1, od1, .func (PySem.W.fnOf "_law_board" "_law_board" (defArgs st__law_board) (defBody st__law_board) (defScope st__law_board) .none kV1 dc1 pm1 an1 cd1 ct1), sl1⟩) (c1 : PySem.W.codeIn K cd1 "_law_board" = true) (k1 : PySem.W.keepIn K (.ref f1) = true)
    {f2 : Addr} {od2 an2 : Option Addr} {sl2 : Array (Option Value)} {oc2 kV2 dc2 pm2 cd2 ct2 : Value}
    (a2 : PySem.W.nsIn K mainGlobals "_law_moved" = some (some (.ref f2))) (l2 : K.lookup f2 = some ⟨oc2, od2, .func (PySem.W.fnOf "_law_moved" "_law_moved" (defArgs st__law_moved) (defBody st__law_moved) (defScope st__law_moved) .none kV2 dc2 pm2 an2 cd2 ct2), sl2⟩) (c2 : PySem.W.codeIn K cd2 "_law_moved" = true) (k2 : PySem.W.keepIn K (.ref f2) = true)
    {f3 : Addr} {od3 an3 : Option Addr} {sl3 : Array (Option Value)} {oc3 kV3 dc3 pm3 cd3 ct3 : Value}
    (a3 : PySem.W.nsIn K mainGlobals "_law_on_board" = some (some (.ref f3))) (l3 : K.lookup f3 = some ⟨oc3, od3, .func (PySem.W.fnOf "_law_on_board" "_law_on_board" (defArgs st__law_on_board) (defBody st__law_on_board) (defScope st__law_on_board) .none kV3 dc3 pm3 an3 cd3 ct3), sl3⟩) (c3 : PySem.W.codeIn K cd3 "_law_on_board" = true) (k3 : PySem.W.keepIn K (.ref f3) = true)
    {f4 : Addr} {od4 an4 : Option Addr} {sl4 : Array (Option Value)} {oc4 kV4 dc4 pm4 cd4 ct4 : Value}
    (a4 : PySem.W.nsIn K mainGlobals "_law_path" = some (some (.ref f4))) (l4 : K.lookup f4 = some ⟨oc4, od4, .func (PySem.W.fnOf "_law_path" "_law_path" (defArgs st__law_path) (defBody st__law_path) (defScope st__law_path) .none kV4 dc4 pm4 an4 cd4 ct4), sl4⟩) (c4 : PySem.W.codeIn K cd4 "_law_path" = true) (k4 : PySem.W.keepIn K (.ref f4) = true)
    {f5 : Addr} {od5 an5 : Option Addr} {sl5 : Array (Option Value)} {oc5 kV5 dc5 pm5 cd5 ct5 : Value}
    (a5 : PySem.W.nsIn K mainGlobals "_law_through" = some (some (.ref f5))) (l5 : K.lookup f5 = some ⟨oc5, od5, .func (PySem.W.fnOf "_law_through" "_law_through" (defArgs st__law_through) (defBody st__law_through) (defScope st__law_through) .none kV5 dc5 pm5 an5 cd5 ct5), sl5⟩) (c5 : PySem.W.codeIn K cd5 "_law_through" = true) (k5 : PySem.W.keepIn K (.ref f5) = true)
    {f6 : Addr} {od6 an6 : Option Addr} {sl6 : Array (Option Value)} {oc6 kV6 dc6 pm6 cd6 ct6 : Value}
    (a6 : PySem.W.nsIn K mainGlobals "_law_turned" = some (some (.ref f6))) (l6 : K.lookup f6 = some ⟨oc6, od6, .func (PySem.W.fnOf "_law_turned" "_law_turned" (defArgs st__law_turned) (defBody st__law_turned) (defScope st__law_turned) .none kV6 dc6 pm6 an6 cd6 ct6), sl6⟩) (c6 : PySem.W.codeIn K cd6 "_law_turned" = true) (k6 : PySem.W.keepIn K (.ref f6) = true)
    {f7 : Addr} {od7 an7 : Option Addr} {sl7 : Array (Option Value)} {oc7 kV7 dc7 pm7 cd7 ct7 : Value}
    (a7 : PySem.W.nsIn K mainGlobals "_law_between" = some (some (.ref f7))) (l7 : K.lookup f7 = some ⟨oc7, od7, .func (PySem.W.fnOf "_law_between" "_law_between" (defArgs st__law_between) (defBody st__law_between) (defScope st__law_between) .none kV7 dc7 pm7 an7 cd7 ct7), sl7⟩) (c7 : PySem.W.codeIn K cd7 "_law_between" = true) (k7 : PySem.W.keepIn K (.ref f7) = true)
    {f8 : Addr} {od8 an8 : Option Addr} {sl8 : Array (Option Value)} {oc8 kV8 dc8 pm8 cd8 ct8 : Value}
    (a8 : PySem.W.nsIn K mainGlobals "_law_part" = some (some (.ref f8))) (l8 : K.lookup f8 = some ⟨oc8, od8, .func (PySem.W.fnOf "_law_part" "_law_part" (defArgs st__law_part) (defBody st__law_part) (defScope st__law_part) .none kV8 dc8 pm8 an8 cd8 ct8), sl8⟩) (c8 : PySem.W.codeIn K cd8 "_law_part" = true) (k8 : PySem.W.keepIn K (.ref f8) = true)
    {f9 : Addr} {od9 an9 : Option Addr} {sl9 : Array (Option Value)} {oc9 kV9 dc9 pm9 cd9 ct9 : Value}
    (a9 : PySem.W.nsIn K mainGlobals "_law_other" = some (some (.ref f9))) (l9 : K.lookup f9 = some ⟨oc9, od9, .func (PySem.W.fnOf "_law_other" "_law_other" (defArgs st__law_other) (defBody st__law_other) (defScope st__law_other) .none kV9 dc9 pm9 an9 cd9 ct9), sl9⟩) (c9 : PySem.W.codeIn K cd9 "_law_other" = true) (k9 : PySem.W.keepIn K (.ref f9) = true)
    {f10 : Addr} {od10 an10 : Option Addr} {sl10 : Array (Option Value)} {oc10 kV10 dc10 pm10 cd10 ct10 : Value}
    (a10 : PySem.W.nsIn K mainGlobals "_law_first_clash" = some (some (.ref f10))) (l10 : K.lookup f10 = some ⟨oc10, od10, .func (PySem.W.fnOf "_law_first_clash" "_law_first_clash" (defArgs st__law_first_clash) (defBody st__law_first_clash) (defScope st__law_first_clash) .none kV10 dc10 pm10 an10 cd10 ct10), sl10⟩) (c10 : PySem.W.codeIn K cd10 "_law_first_clash" = true) (k10 : PySem.W.keepIn K (.ref f10) = true)
    {f11 : Addr} {od11 an11 : Option Addr} {sl11 : Array (Option Value)} {oc11 kV11 dc11 pm11 cd11 ct11 : Value}
    (a11 : PySem.W.nsIn K mainGlobals "_law_first" = some (some (.ref f11))) (l11 : K.lookup f11 = some ⟨oc11, od11, .func (PySem.W.fnOf "_law_first" "_law_first" (defArgs st__law_first) (defBody st__law_first) (defScope st__law_first) .none kV11 dc11 pm11 an11 cd11 ct11), sl11⟩) (c11 : PySem.W.codeIn K cd11 "_law_first" = true) (k11 : PySem.W.keepIn K (.ref f11) = true)
    {f12 : Addr} {od12 an12 : Option Addr} {sl12 : Array (Option Value)} {oc12 kV12 dc12 pm12 cd12 ct12 : Value}
    (a12 : PySem.W.nsIn K mainGlobals "_law_replaced" = some (some (.ref f12))) (l12 : K.lookup f12 = some ⟨oc12, od12, .func (PySem.W.fnOf "_law_replaced" "_law_replaced" (defArgs st__law_replaced) (defBody st__law_replaced) (defScope st__law_replaced) .none kV12 dc12 pm12 an12 cd12 ct12), sl12⟩) (c12 : PySem.W.codeIn K cd12 "_law_replaced" = true) (k12 : PySem.W.keepIn K (.ref f12) = true)
    {f13 : Addr} {od13 an13 : Option Addr} {sl13 : Array (Option Value)} {oc13 kV13 dc13 pm13 cd13 ct13 : Value}
    (a13 : PySem.W.nsIn K mainGlobals "_law_certificates" = some (some (.ref f13))) (l13 : K.lookup f13 = some ⟨oc13, od13, .func (PySem.W.fnOf "_law_certificates" "_law_certificates" (defArgs st__law_certificates) (defBody st__law_certificates) (defScope st__law_certificates) .none kV13 dc13 pm13 an13 cd13 ct13), sl13⟩) (c13 : PySem.W.codeIn K cd13 "_law_certificates" = true) (k13 : PySem.W.keepIn K (.ref f13) = true)
    {f14 : Addr} {od14 an14 : Option Addr} {sl14 : Array (Option Value)} {oc14 kV14 dc14 pm14 cd14 ct14 : Value}
    (a14 : PySem.W.nsIn K mainGlobals "_law_crossing" = some (some (.ref f14))) (l14 : K.lookup f14 = some ⟨oc14, od14, .func (PySem.W.fnOf "_law_crossing" "_law_crossing" (defArgs st__law_crossing) (defBody st__law_crossing) (defScope st__law_crossing) .none kV14 dc14 pm14 an14 cd14 ct14), sl14⟩) (c14 : PySem.W.codeIn K cd14 "_law_crossing" = true) (k14 : PySem.W.keepIn K (.ref f14) = true)
    {f15 : Addr} {od15 an15 : Option Addr} {sl15 : Array (Option Value)} {oc15 kV15 dc15 pm15 cd15 ct15 : Value}
    (a15 : PySem.W.nsIn K mainGlobals "_law_accepts" = some (some (.ref f15))) (l15 : K.lookup f15 = some ⟨oc15, od15, .func (PySem.W.fnOf "_law_accepts" "_law_accepts" (defArgs st__law_accepts) (defBody st__law_accepts) (defScope st__law_accepts) .none kV15 dc15 pm15 an15 cd15 ct15), sl15⟩) (c15 : PySem.W.codeIn K cd15 "_law_accepts" = true) (k15 : PySem.W.keepIn K (.ref f15) = true)
    {f16 : Addr} {od16 an16 : Option Addr} {sl16 : Array (Option Value)} {oc16 kV16 dc16 pm16 cd16 ct16 : Value}
    (a16 : PySem.W.nsIn K mainGlobals "is_conflict" = some (some (.ref f16))) (l16 : K.lookup f16 = some ⟨oc16, od16, .func (PySem.W.fnOf "is_conflict" "is_conflict" (defArgs st_is_conflict) (defBody st_is_conflict) (defScope st_is_conflict) .none kV16 dc16 pm16 an16 cd16 ct16), sl16⟩) (c16 : PySem.W.codeIn K cd16 "is_conflict" = true) (k16 : PySem.W.keepIn K (.ref f16) = true)
    {f17 : Addr} {od17 an17 : Option Addr} {sl17 : Array (Option Value)} {oc17 kV17 dc17 pm17 cd17 ct17 : Value}
    (a17 : PySem.W.nsIn K mainGlobals "_law_judged" = some (some (.ref f17))) (l17 : K.lookup f17 = some ⟨oc17, od17, .func (PySem.W.fnOf "_law_judged" "_law_judged" (defArgs st__law_judged) (defBody st__law_judged) (defScope st__law_judged) .none kV17 dc17 pm17 an17 cd17 ct17), sl17⟩) (c17 : PySem.W.codeIn K cd17 "_law_judged" = true) (k17 : PySem.W.keepIn K (.ref f17) = true)
    {f18 : Addr} {od18 an18 : Option Addr} {sl18 : Array (Option Value)} {oc18 kV18 dc18 pm18 cd18 ct18 : Value}
    (a18 : PySem.W.nsIn K mainGlobals "_law_crossing_judged" = some (some (.ref f18))) (l18 : K.lookup f18 = some ⟨oc18, od18, .func (PySem.W.fnOf "_law_crossing_judged" "_law_crossing_judged" (defArgs st__law_crossing_judged) (defBody st__law_crossing_judged) (defScope st__law_crossing_judged) .none kV18 dc18 pm18 an18 cd18 ct18), sl18⟩) (c18 : PySem.W.codeIn K cd18 "_law_crossing_judged" = true) (k18 : PySem.W.keepIn K (.ref f18) = true)
    {f19 : Addr} {od19 an19 : Option Addr} {sl19 : Array (Option Value)} {oc19 kV19 dc19 pm19 cd19 ct19 : Value}
    (a19 : PySem.W.nsIn K mainGlobals "_law_cell" = some (some (.ref f19))) (l19 : K.lookup f19 = some ⟨oc19, od19, .func (PySem.W.fnOf "_law_cell" "_law_cell" (defArgs st__law_cell) (defBody st__law_cell) (defScope st__law_cell) .none kV19 dc19 pm19 an19 cd19 ct19), sl19⟩) (c19 : PySem.W.codeIn K cd19 "_law_cell" = true) (k19 : PySem.W.keepIn K (.ref f19) = true)
    {f20 : Addr} {od20 an20 : Option Addr} {sl20 : Array (Option Value)} {oc20 kV20 dc20 pm20 cd20 ct20 : Value}
    (a20 : PySem.W.nsIn K mainGlobals "_law_across" = some (some (.ref f20))) (l20 : K.lookup f20 = some ⟨oc20, od20, .func (PySem.W.fnOf "_law_across" "_law_across" (defArgs st__law_across) (defBody st__law_across) (defScope st__law_across) .none kV20 dc20 pm20 an20 cd20 ct20), sl20⟩) (c20 : PySem.W.codeIn K cd20 "_law_across" = true) (k20 : PySem.W.keepIn K (.ref f20) = true)
    {f21 : Addr} {od21 an21 : Option Addr} {sl21 : Array (Option Value)} {oc21 kV21 dc21 pm21 cd21 ct21 : Value}
    (a21 : PySem.W.nsIn K mainGlobals "law" = some (some (.ref f21))) (l21 : K.lookup f21 = some ⟨oc21, od21, .func (PySem.W.fnOf "law" "law" (defArgs st_law) (defBody st_law) (defScope st_law) .none kV21 dc21 pm21 an21 cd21 ct21), sl21⟩) (c21 : PySem.W.codeIn K cd21 "law" = true) (k21 : PySem.W.keepIn K (.ref f21) = true)
    (z_bool : PySem.W.nsIn K mainGlobals "bool" = some none)
    (z_int : PySem.W.nsIn K mainGlobals "int" = some none)
    (z_isinstance : PySem.W.nsIn K mainGlobals "isinstance" = some none)
    (z_len : PySem.W.nsIn K mainGlobals "len" = some none)
    (z_list : PySem.W.nsIn K mainGlobals "list" = some none)
    (z_max : PySem.W.nsIn K mainGlobals "max" = some none)
    (z_min : PySem.W.nsIn K mainGlobals "min" = some none)
    (z_range : PySem.W.nsIn K mainGlobals "range" = some none)
    (z_sorted : PySem.W.nsIn K mainGlobals "sorted" = some none)
    (z_tuple : PySem.W.nsIn K mainGlobals "tuple" = some none) :
    ∃ fd : FuncData, (∀ (s : Shared) (v : Value), BindsTo s fd ⟨[v], []⟩ [("script", v)]) ∧ ∀ base : Heap, K.In base → base.Ns mainGlobals mg → FnOk P w K mg base (L2.CX P w) 4 fa fd ["script"] (spD K 1 F_law) := by
  have e := hfa.symm.trans (PySem.W.mg_of X G a21)
  cases e
  exact ⟨PySem.W.fnOf "law" "law" (defArgs st_law) (defBody st_law) (defScope st_law) .none kV21 dc21 pm21 an21 cd21 ct21, fun s v => .of_eq rfl, fun base _ _ => ok_law {
    a__law_draws := f0, d__law_draws := PySem.W.fnOf "_law_draws" "_law_draws" (defArgs st__law_draws) (defBody st__law_draws) (defScope st__law_draws) .none kV0 dc0 pm0 an0 cd0 ct0, F__law_draws := fun_mk (st := st__law_draws) l0 c0 k0, m__law_draws := PySem.W.mg_of X G a0, b__law_draws := (fun_mk (st := st__law_draws) l0 c0 k0).binds fun _ _ _ _ _ _ us hl => match us, hl with | [_, _], _ => rfl,
    a__law_board := f1, d__law_board := PySem.W.fnOf "_law_board" "_law_board" (defArgs st__law_board) (defBody st__law_board) (defScope st__law_board) .none kV1 dc1 pm1 an1 cd1 ct1, F__law_board := fun_mk (st := st__law_board) l1 c1 k1, m__law_board := PySem.W.mg_of X G a1, b__law_board := (fun_mk (st := st__law_board) l1 c1 k1).binds fun _ _ _ _ _ _ us hl => match us, hl with | [_, _], _ => rfl,
    a__law_moved := f2, d__law_moved := PySem.W.fnOf "_law_moved" "_law_moved" (defArgs st__law_moved) (defBody st__law_moved) (defScope st__law_moved) .none kV2 dc2 pm2 an2 cd2 ct2, F__law_moved := fun_mk (st := st__law_moved) l2 c2 k2, m__law_moved := PySem.W.mg_of X G a2, b__law_moved := (fun_mk (st := st__law_moved) l2 c2 k2).binds fun _ _ _ _ _ _ us hl => match us, hl with | [_, _], _ => rfl,
    a__law_on_board := f3, d__law_on_board := PySem.W.fnOf "_law_on_board" "_law_on_board" (defArgs st__law_on_board) (defBody st__law_on_board) (defScope st__law_on_board) .none kV3 dc3 pm3 an3 cd3 ct3, F__law_on_board := fun_mk (st := st__law_on_board) l3 c3 k3, m__law_on_board := PySem.W.mg_of X G a3, b__law_on_board := (fun_mk (st := st__law_on_board) l3 c3 k3).binds fun _ _ _ _ _ _ us hl => match us, hl with | [_, _], _ => rfl,
    a__law_path := f4, d__law_path := PySem.W.fnOf "_law_path" "_law_path" (defArgs st__law_path) (defBody st__law_path) (defScope st__law_path) .none kV4 dc4 pm4 an4 cd4 ct4, F__law_path := fun_mk (st := st__law_path) l4 c4 k4, m__law_path := PySem.W.mg_of X G a4, b__law_path := (fun_mk (st := st__law_path) l4 c4 k4).binds fun _ _ _ _ _ _ us hl => match us, hl with | [_, _], _ => rfl,
    a__law_through := f5, d__law_through := PySem.W.fnOf "_law_through" "_law_through" (defArgs st__law_through) (defBody st__law_through) (defScope st__law_through) .none kV5 dc5 pm5 an5 cd5 ct5, F__law_through := fun_mk (st := st__law_through) l5 c5 k5, m__law_through := PySem.W.mg_of X G a5, b__law_through := (fun_mk (st := st__law_through) l5 c5 k5).binds fun _ _ _ _ _ _ us hl => match us, hl with | [_, _, _], _ => rfl,
    a__law_turned := f6, d__law_turned := PySem.W.fnOf "_law_turned" "_law_turned" (defArgs st__law_turned) (defBody st__law_turned) (defScope st__law_turned) .none kV6 dc6 pm6 an6 cd6 ct6, F__law_turned := fun_mk (st := st__law_turned) l6 c6 k6, m__law_turned := PySem.W.mg_of X G a6, b__law_turned := (fun_mk (st := st__law_turned) l6 c6 k6).binds fun _ _ _ _ _ _ us hl => match us, hl with | [_, _], _ => rfl,
    a__law_between := f7, d__law_between := PySem.W.fnOf "_law_between" "_law_between" (defArgs st__law_between) (defBody st__law_between) (defScope st__law_between) .none kV7 dc7 pm7 an7 cd7 ct7, F__law_between := fun_mk (st := st__law_between) l7 c7 k7, m__law_between := PySem.W.mg_of X G a7, b__law_between := (fun_mk (st := st__law_between) l7 c7 k7).binds fun _ _ _ _ _ _ us hl => match us, hl with | [_, _], _ => rfl,
    a__law_part := f8, d__law_part := PySem.W.fnOf "_law_part" "_law_part" (defArgs st__law_part) (defBody st__law_part) (defScope st__law_part) .none kV8 dc8 pm8 an8 cd8 ct8, F__law_part := fun_mk (st := st__law_part) l8 c8 k8, m__law_part := PySem.W.mg_of X G a8, b__law_part := (fun_mk (st := st__law_part) l8 c8 k8).binds fun _ _ _ _ _ _ us hl => match us, hl with | [_, _, _], _ => rfl,
    a__law_other := f9, d__law_other := PySem.W.fnOf "_law_other" "_law_other" (defArgs st__law_other) (defBody st__law_other) (defScope st__law_other) .none kV9 dc9 pm9 an9 cd9 ct9, F__law_other := fun_mk (st := st__law_other) l9 c9 k9, m__law_other := PySem.W.mg_of X G a9, b__law_other := (fun_mk (st := st__law_other) l9 c9 k9).binds fun _ _ _ _ _ _ us hl => match us, hl with | [_, _, _, _], _ => rfl,
    a__law_first_clash := f10, d__law_first_clash := PySem.W.fnOf "_law_first_clash" "_law_first_clash" (defArgs st__law_first_clash) (defBody st__law_first_clash) (defScope st__law_first_clash) .none kV10 dc10 pm10 an10 cd10 ct10, F__law_first_clash := fun_mk (st := st__law_first_clash) l10 c10 k10, m__law_first_clash := PySem.W.mg_of X G a10, b__law_first_clash := (fun_mk (st := st__law_first_clash) l10 c10 k10).binds fun _ _ _ _ _ _ us hl => match us, hl with | [_, _], _ => rfl,
    a__law_first := f11, d__law_first := PySem.W.fnOf "_law_first" "_law_first" (defArgs st__law_first) (defBody st__law_first) (defScope st__law_first) .none kV11 dc11 pm11 an11 cd11 ct11, F__law_first := fun_mk (st := st__law_first) l11 c11 k11, m__law_first := PySem.W.mg_of X G a11, b__law_first := (fun_mk (st := st__law_first) l11 c11 k11).binds fun _ _ _ _ _ _ us hl => match us, hl with | [_, _, _], _ => rfl,
    a__law_replaced := f12, d__law_replaced := PySem.W.fnOf "_law_replaced" "_law_replaced" (defArgs st__law_replaced) (defBody st__law_replaced) (defScope st__law_replaced) .none kV12 dc12 pm12 an12 cd12 ct12, F__law_replaced := fun_mk (st := st__law_replaced) l12 c12 k12, m__law_replaced := PySem.W.mg_of X G a12, b__law_replaced := (fun_mk (st := st__law_replaced) l12 c12 k12).binds fun _ _ _ _ _ _ us hl => match us, hl with | [_, _, _], _ => rfl,
    a__law_certificates := f13, d__law_certificates := PySem.W.fnOf "_law_certificates" "_law_certificates" (defArgs st__law_certificates) (defBody st__law_certificates) (defScope st__law_certificates) .none kV13 dc13 pm13 an13 cd13 ct13, F__law_certificates := fun_mk (st := st__law_certificates) l13 c13 k13, m__law_certificates := PySem.W.mg_of X G a13, b__law_certificates := (fun_mk (st := st__law_certificates) l13 c13 k13).binds fun _ _ _ _ _ _ us hl => match us, hl with | [_, _, _, _, _], _ => rfl,
    a__law_crossing := f14, d__law_crossing := PySem.W.fnOf "_law_crossing" "_law_crossing" (defArgs st__law_crossing) (defBody st__law_crossing) (defScope st__law_crossing) .none kV14 dc14 pm14 an14 cd14 ct14, F__law_crossing := fun_mk (st := st__law_crossing) l14 c14 k14, m__law_crossing := PySem.W.mg_of X G a14, b__law_crossing := (fun_mk (st := st__law_crossing) l14 c14 k14).binds fun _ _ _ _ _ _ us hl => match us, hl with | [_], _ => rfl,
    a__law_accepts := f15, d__law_accepts := PySem.W.fnOf "_law_accepts" "_law_accepts" (defArgs st__law_accepts) (defBody st__law_accepts) (defScope st__law_accepts) .none kV15 dc15 pm15 an15 cd15 ct15, F__law_accepts := fun_mk (st := st__law_accepts) l15 c15 k15, m__law_accepts := PySem.W.mg_of X G a15, b__law_accepts := (fun_mk (st := st__law_accepts) l15 c15 k15).binds fun _ _ _ _ _ _ us hl => match us, hl with | [_, _, _], _ => rfl,
    a_is_conflict := f16, d_is_conflict := PySem.W.fnOf "is_conflict" "is_conflict" (defArgs st_is_conflict) (defBody st_is_conflict) (defScope st_is_conflict) .none kV16 dc16 pm16 an16 cd16 ct16, F_is_conflict := fun_mk (st := st_is_conflict) l16 c16 k16, m_is_conflict := PySem.W.mg_of X G a16, b_is_conflict := (fun_mk (st := st_is_conflict) l16 c16 k16).binds fun _ _ _ _ _ _ us hl => match us, hl with | [_, _, _], _ => rfl,
    a__law_judged := f17, d__law_judged := PySem.W.fnOf "_law_judged" "_law_judged" (defArgs st__law_judged) (defBody st__law_judged) (defScope st__law_judged) .none kV17 dc17 pm17 an17 cd17 ct17, F__law_judged := fun_mk (st := st__law_judged) l17 c17 k17, m__law_judged := PySem.W.mg_of X G a17, b__law_judged := (fun_mk (st := st__law_judged) l17 c17 k17).binds fun _ _ _ _ _ _ us hl => match us, hl with | [_, _, _], _ => rfl,
    a__law_crossing_judged := f18, d__law_crossing_judged := PySem.W.fnOf "_law_crossing_judged" "_law_crossing_judged" (defArgs st__law_crossing_judged) (defBody st__law_crossing_judged) (defScope st__law_crossing_judged) .none kV18 dc18 pm18 an18 cd18 ct18, F__law_crossing_judged := fun_mk (st := st__law_crossing_judged) l18 c18 k18, m__law_crossing_judged := PySem.W.mg_of X G a18, b__law_crossing_judged := (fun_mk (st := st__law_crossing_judged) l18 c18 k18).binds fun _ _ _ _ _ _ us hl => match us, hl with | [_], _ => rfl,
    a__law_cell := f19, d__law_cell := PySem.W.fnOf "_law_cell" "_law_cell" (defArgs st__law_cell) (defBody st__law_cell) (defScope st__law_cell) .none kV19 dc19 pm19 an19 cd19 ct19, F__law_cell := fun_mk (st := st__law_cell) l19 c19 k19, m__law_cell := PySem.W.mg_of X G a19, b__law_cell := (fun_mk (st := st__law_cell) l19 c19 k19).binds fun _ _ _ _ _ _ us hl => match us, hl with | [_, _], _ => rfl,
    a__law_across := f20, d__law_across := PySem.W.fnOf "_law_across" "_law_across" (defArgs st__law_across) (defBody st__law_across) (defScope st__law_across) .none kV20 dc20 pm20 an20 cd20 ct20, F__law_across := fun_mk (st := st__law_across) l20 c20 k20, m__law_across := PySem.W.mg_of X G a20, b__law_across := (fun_mk (st := st__law_across) l20 c20 k20).binds fun _ _ _ _ _ _ us hl => match us, hl with | [_, _], _ => rfl,
    a_law := _, d_law := PySem.W.fnOf "law" "law" (defArgs st_law) (defBody st_law) (defScope st_law) .none kV21 dc21 pm21 an21 cd21 ct21, F_law := fun_mk (st := st_law) l21 c21 k21, m_law := PySem.W.mg_of X G a21, b_law := (fun_mk (st := st_law) l21 c21 k21).binds fun _ _ _ _ _ _ us hl => match us, hl with | [_], _ => rfl,
    n_bool := PySem.W.mg_none_of X G z_bool,
    n_int := PySem.W.mg_none_of X G z_int,
    n_isinstance := PySem.W.mg_none_of X G z_isinstance,
    n_len := PySem.W.mg_none_of X G z_len,
    n_list := PySem.W.mg_none_of X G z_list,
    n_max := PySem.W.mg_none_of X G z_max,
    n_min := PySem.W.mg_none_of X G z_min,
    n_range := PySem.W.mg_none_of X G z_range,
    n_sorted := PySem.W.mg_none_of X G z_sorted,
    n_tuple := PySem.W.mg_none_of X G z_tuple }⟩
end GL
open PySem PySem.W PyProof.Rows
set_option maxHeartbeats 0 in
theorem PySem.Challenge.cw_cornerworld_k02_conflict_certificates_ex_holds : PySem.Challenge.rw_cornerworld_k02_conflict_certificates_ex.Holds := by
  w_on; o_law; k_head; (case hw => w_witness2)
  k_fill
  refine L2.walk_ofB (l := PySem.Challenge.rw_cornerworld_k02_conflict_certificates_ex) (n := 63) (k := 4) (x := "script") (CX := fun w => L2.CX PySem.Challenge.rw_cornerworld_k02_conflict_certificates_ex.prog w) (sp := fun w => TL.spD _ 1 GL.F_law) rfl (by decide) rfl ⟨rfl, by decide, by decide⟩ (fun w h Y => PySem.W.kIn_of Y) ?F (fun w H a ns hl hb hO hS => TL.end_sp GL.law_true hl hb hS) (fun w H s e s' z => TL.end_cx z)
  case F =>
    intro w mg fa h KX G hmg
    refine' GL.all_mk KX G hmg ?a0 ?l0 ?c0 ?k0 ?a1 ?l1 ?c1 ?k1 ?a2 ?l2 ?c2 ?k2 ?a3 ?l3 ?c3 ?k3 ?a4 ?l4 ?c4 ?k4 ?a5 ?l5 ?c5 ?k5 ?a6 ?l6 ?c6 ?k6 ?a7 ?l7 ?c7 ?k7 ?a8 ?l8 ?c8 ?k8 ?a9 ?l9 ?c9 ?k9 ?a10 ?l10 ?c10 ?k10 ?a11 ?l11 ?c11 ?k11 ?a12 ?l12 ?c12 ?k12 ?a13 ?l13 ?c13 ?k13 ?a14 ?l14 ?c14 ?k14 ?a15 ?l15 ?c15 ?k15 ?a16 ?l16 ?c16 ?k16 ?a17 ?l17 ?c17 ?k17 ?a18 ?l18 ?c18 ?k18 ?a19 ?l19 ?c19 ?k19 ?a20 ?l20 ?c20 ?k20 ?a21 ?l21 ?c21 ?k21 ?z_bool ?z_int ?z_isinstance ?z_len ?z_list ?z_max ?z_min ?z_range ?z_sorted ?z_tuple
    (case a0 => k_is)
    (case l0 => k_is)
    (case c0 => k_is)
    (case k0 => k_is)
    (case a1 => k_is)
    (case l1 => k_is)
    (case c1 => k_is)
    (case k1 => k_is)
    (case a2 => k_is)
    (case l2 => k_is)
    (case c2 => k_is)
    (case k2 => k_is)
    (case a3 => k_is)
    (case l3 => k_is)
    (case c3 => k_is)
    (case k3 => k_is)
    (case a4 => k_is)
    (case l4 => k_is)
    (case c4 => k_is)
    (case k4 => k_is)
    (case a5 => k_is)
    (case l5 => k_is)
    (case c5 => k_is)
    (case k5 => k_is)
    (case a6 => k_is)
    (case l6 => k_is)
    (case c6 => k_is)
    (case k6 => k_is)
    (case a7 => k_is)
    (case l7 => k_is)
    (case c7 => k_is)
    (case k7 => k_is)
    (case a8 => k_is)
    (case l8 => k_is)
    (case c8 => k_is)
    (case k8 => k_is)
    (case a9 => k_is)
    (case l9 => k_is)
    (case c9 => k_is)
    (case k9 => k_is)
    (case a10 => k_is)
    (case l10 => k_is)
    (case c10 => k_is)
    (case k10 => k_is)
    (case a11 => k_is)
    (case l11 => k_is)
    (case c11 => k_is)
    (case k11 => k_is)
    (case a12 => k_is)
    (case l12 => k_is)
    (case c12 => k_is)
    (case k12 => k_is)
    (case a13 => k_is)
    (case l13 => k_is)
    (case c13 => k_is)
    (case k13 => k_is)
    (case a14 => k_is)
    (case l14 => k_is)
    (case c14 => k_is)
    (case k14 => k_is)
    (case a15 => k_is)
    (case l15 => k_is)
    (case c15 => k_is)
    (case k15 => k_is)
    (case a16 => k_is)
    (case l16 => k_is)
    (case c16 => k_is)
    (case k16 => k_is)
    (case a17 => k_is)
    (case l17 => k_is)
    (case c17 => k_is)
    (case k17 => k_is)
    (case a18 => k_is)
    (case l18 => k_is)
    (case c18 => k_is)
    (case k18 => k_is)
    (case a19 => k_is)
    (case l19 => k_is)
    (case c19 => k_is)
    (case k19 => k_is)
    (case a20 => k_is)
    (case l20 => k_is)
    (case c20 => k_is)
    (case k20 => k_is)
    (case a21 => k_is)
    (case l21 => k_is)
    (case c21 => k_is)
    (case k21 => k_is)
    (case z_bool => k_is)
    (case z_int => k_is)
    (case z_isinstance => k_is)
    (case z_len => k_is)
    (case z_list => k_is)
    (case z_max => k_is)
    (case z_min => k_is)
    (case z_range => k_is)
    (case z_sorted => k_is)
    (case z_tuple => k_is)
