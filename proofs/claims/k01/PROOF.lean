import PyProof.Rows.All
import Wide.All
import OpenK.AllK
import Wide.FinOn
import HandS.ForMost
import HandS.ForExc
import HandS.CallSlots
import HandS.Wide
import HandS.IsInst
import HandS.Deep
import HandS.Style
import HandS.More
import HandS.TupAny
import HandS.TupLe
import HandS.ExcCtx
import HandS.SortInts
import HandS.EndBits
import HandS.Dict
import HandS.DictComp
import HandS.SortRule
import HandS.Conv
import HandS.TupSets
import HandS.ExcInit
import HandS.ExcField
import HandS.ExcIs
import HandS.HotCalls
import HandS.TryMany
import KE.KExcSuper
import KE.KSuper
import HandS.Small
import KE.KExcIs
import HandS.Zip
import HandS.Iter
import HandS.Text
import KE.KDictKeyed
import KE.KeyNested
import HandS.Strs
import PySem.Challenge.RW_cornerworld_k01_normal_path_or_first_fau
set_option Elab.async false
set_option linter.all false
set_option maxRecDepth 100000
/-! T1: data as trees over the hand layer's abstract heap -/
namespace TL
open PySem PySem.Spec PyProof.Rows L2

/-- the written part, and the exception that is handled -/
structure KX where
  fr : PySem.W.Frag
  xa : Option (Addr × Value × Option Addr)
abbrev k0 (K : PySem.W.Frag) : KX := ⟨K, none⟩
/-- a context, and the exception that a slot may hold -/
structure CY extends Cx where
  xa : Option (Addr × Value × Option Addr)
instance : Coe CY Cx := ⟨CY.toCx⟩
abbrev kx (X : CY) : KX := ⟨X.K, X.xa⟩
abbrev CY.blk (X : CY) (s : Shared) (H : Hp) (scope : Scope) (cenv : Env) (fp : List Addr) : CY := ⟨X.toCx.blk s H scope cenv fp, X.xa⟩
/-- the class of this name -/
def exV (K : PySem.W.Frag) (nm : Str) : Value := match PySem.W.nsIn K PySem.mainGlobals nm with
  | some (some v) => v
  | _ => .none
inductive D where
  | non | bl (b : Bool) | int (i : Int) | str (x : Str)
  | tup (xs : List D) | lst (o : Bool) (xs : List D) | dct (o t : Bool) (kvs : List (D × D))
  | ins (o : Bool) (C : Str) (fs : List (Str × D))
  | kl (xs : List D)
  | kt (xs : List D)
  | xr (C : Str) (fs : List (Str × D))

inductive R (α : Type) where
  | ok (a : α) | exc (C : Str) (fs : List (Str × D)) | stuck
def R.bind {α β : Type} : R α → (α → R β) → R β
  | .ok a, f => f a
  | .exc C fs, _ => .exc C fs
  | .stuck, _ => .stuck
theorem R.bind_ok {α β : Type} (a : α) (f : α → R β) : (R.ok a).bind f = f a := rfl
@[simp] theorem R.bnd {α β : Type} (a : α) (f : α → R β) : (R.ok a).bind f = f a := of_eq_true (eq_self _)
@[simp] theorem R.bind_exc {α β : Type} (C : Str) (fs) (f : α → R β) : (R.exc C fs : R α).bind f = .exc C fs := of_eq_true (eq_self _)
@[simp] theorem R.bind_stuck {α β : Type} (f : α → R β) : (R.stuck : R α).bind f = .stuck := of_eq_true (eq_self _)
abbrev En := List (Option D)

mutual
def D.frz : D → D
  | .non => .non
  | .bl b => .bl b
  | .int i => .int i
  | .str x => .str x
  | .tup xs => .tup (frzL xs)
  | .lst _ xs => .lst false (frzL xs)
  | .dct _ t kvs => .dct false t (frzK kvs)
  | .ins _ C fs => .ins false C (frzF fs)
  | .kl xs => .kl (frzL xs)
  | .kt xs => .kt (frzL xs)
  | .xr C fs => .xr C (frzF fs)
def frzL : List D → List D
  | [] => []
  | d :: r => d.frz :: frzL r
def frzK : List (D × D) → List (D × D)
  | [] => []
  | (k, d) :: r => (k, d.frz) :: frzK r
def frzF : List (Str × D) → List (Str × D)
  | [] => []
  | (k, d) :: r => (k, d.frz) :: frzF r
end
mutual
/-- no frozen mutable part -/
def D.clean : D → Bool
  | .tup xs => cleanL xs
  | .lst o xs => o && cleanL xs
  | .dct o _ kvs => o && cleanK kvs
  | .ins o _ fs => o && cleanF fs
  | .kl _ => false
  | .kt xs => cleanL xs
  | .xr _ _ => false
  | _ => true
def cleanL : List D → Bool
  | [] => true
  | d :: r => d.clean && cleanL r
def cleanK : List (D × D) → Bool
  | [] => true
  | (_, d) :: r => d.clean && cleanK r
def cleanF : List (Str × D) → Bool
  | [] => true
  | (_, d) :: r => d.clean && cleanF r
end

def kD : Key → D
  | .inl i => .int i
  | .inr x => .str x
def ktD (ks : List Key) : D := .tup (ks.map kD)

def KLs (K : PySem.W.Frag) (a : Addr) (xs : List V) : Prop :=
  ∃ (o : Obj) (its : Array Value) (n : Nat), K.lookup a = some o ∧ o.cls = .type "list" ∧ o.dict = none ∧ o.data = .seq its n ∧ its.size ≤ sizeLine ∧ Vals xs its.toList
def KTp (K : PySem.W.Frag) (a : Addr) (xs : List V) : Prop :=
  ∃ (o : Obj) (its : Array Value) (n : Nat), K.lookup a = some o ∧ o.cls = .type "tuple" ∧ o.data = .seq its n ∧ its.size ≤ sizeLine ∧ Vals xs its.toList

mutual
inductive RepD (K : KX) (O : Addr → Prop) (H : Hp) : D → V → List Addr → Prop
  | non : RepD K O H .non .non []
  | bl (b : Bool) : RepD K O H (.bl b) (.bl b) []
  | int (i : Int) : RepD K O H (.int i) (.int i) []
  | str (x : Str) : RepD K O H (.str x) (.str x) []
  | tup {a : Addr} {vs : List V} {xs : List D} {os : List Addr} (h : H a = some (.tup vs)) (r : RepL K O H xs vs os) : RepD K O H (.tup xs) (.ref a) os
  | kt {a : Addr} {vs : List V} {xs : List D} (h : KTp K.fr a vs) (r : RepL K O H xs vs []) : RepD K O H (.kt xs) (.ref a) []
  | lstF {a : Addr} {vs : List V} {xs : List D} (h : Rd H a (.lst vs)) (n : ¬ O a) (r : RepL K O H xs vs []) : RepD K O H (.lst false xs) (.ref a) []
  | kl {a : Addr} {vs : List V} {xs : List D} (h : (Rd H a (.lst vs) ∧ ¬ O a) ∨ KLs K.fr a vs) (r : RepL K O H xs vs []) : RepD K O H (.kl xs) (.ref a) []
  | lstO {a : Addr} {vs : List V} {xs : List D} {os : List Addr} (h : H a = some (.lst vs)) (r : RepL K O H xs vs os) : RepD K O H (.lst true xs) (.ref a) (a :: os)
  | dkF {a : Addr} {kvs : List (Key × V)} {xs : List (D × D)} (h : H a = some (.dK kvs)) (n : ¬ O a) (r : RepK K O H xs kvs []) : RepD K O H (.dct false false xs) (.ref a) []
  | dkO {a : Addr} {kvs : List (Key × V)} {xs : List (D × D)} {os : List Addr} (h : H a = some (.dK kvs)) (r : RepK K O H xs kvs os) : RepD K O H (.dct true false xs) (.ref a) (a :: os)
  | dtF {a : Addr} {kvs : List (List Key × V)} {xs : List (D × D)} (h : H a = some (.dT kvs)) (n : ¬ O a) (r : RepT K O H xs kvs []) : RepD K O H (.dct false true xs) (.ref a) []
  | dtO {a : Addr} {kvs : List (List Key × V)} {xs : List (D × D)} {os : List Addr} (h : H a = some (.dT kvs)) (r : RepT K O H xs kvs os) : RepD K O H (.dct true true xs) (.ref a) (a :: os)
  | insF {a c dx : Addr} {C : Str} {vs : List (Str × V)} {fs : List (Str × D)} (hc : exV K.fr C = .ref c) (h : H a = some (.ins c dx vs)) (n : ¬ O a) (r : RepF K O H fs vs []) : RepD K O H (.ins false C fs) (.ref a) []
  | insO {a c dx : Addr} {C : Str} {vs : List (Str × V)} {fs : List (Str × D)} {os : List Addr} (hc : exV K.fr C = .ref c) (h : H a = some (.ins c dx vs)) (r : RepF K O H fs vs os) : RepD K O H (.ins true C fs) (.ref a) (a :: os)
  | xr0 {a : Addr} {cls : Value} {C : Str} (h : K.xa = some (a, cls, none)) (hc : exV K.fr C = cls) : RepD K O H (.xr C []) (.ref a) []
  | xr1 {a d : Addr} {cls : Value} {C : Str} {vs : List (Str × V)} {fs : List (Str × D)} (h : K.xa = some (a, cls, some d)) (hc : exV K.fr C = cls) (hd : H d = some (.xd vs)) (r : RepF K O H fs vs []) : RepD K O H (.xr C fs) (.ref a) []
inductive RepL (K : KX) (O : Addr → Prop) (H : Hp) : List D → List V → List Addr → Prop
  | nil : RepL K O H [] [] []
  | cons {d : D} {v : V} {ds : List D} {vs : List V} {o1 o2 : List Addr} (h : RepD K O H d v o1) (r : RepL K O H ds vs o2) : RepL K O H (d :: ds) (v :: vs) (o1 ++ o2)
inductive RepK (K : KX) (O : Addr → Prop) (H : Hp) : List (D × D) → List (Key × V) → List Addr → Prop
  | nil : RepK K O H [] [] []
  | cons {k : Key} {d : D} {v : V} {ds : List (D × D)} {vs : List (Key × V)} {o1 o2 : List Addr} (h : RepD K O H d v o1) (r : RepK K O H ds vs o2) : RepK K O H ((kD k, d) :: ds) ((k, v) :: vs) (o1 ++ o2)
inductive RepT (K : KX) (O : Addr → Prop) (H : Hp) : List (D × D) → List (List Key × V) → List Addr → Prop
  | nil : RepT K O H [] [] []
  | cons {k : List Key} {d : D} {v : V} {ds : List (D × D)} {vs : List (List Key × V)} {o1 o2 : List Addr} (h : RepD K O H d v o1) (r : RepT K O H ds vs o2) : RepT K O H ((ktD k, d) :: ds) ((k, v) :: vs) (o1 ++ o2)
inductive RepF (K : KX) (O : Addr → Prop) (H : Hp) : List (Str × D) → List (Str × V) → List Addr → Prop
  | nil : RepF K O H [] [] []
  | cons {k : Str} {d : D} {v : V} {ds : List (Str × D)} {vs : List (Str × V)} {o1 o2 : List Addr} (h : RepD K O H d v o1) (r : RepF K O H ds vs o2) : RepF K O H ((k, d) :: ds) ((k, v) :: vs) (o1 ++ o2)
end

/-- never changed -/
def Imm : HO → Prop
  | .tup _ => True
  | .xd _ => True
  | _ => False
section
variable {K : KX} {O O' : Addr → Prop} {H H' : Hp}
/-- what a tree leans on: its own parts, frozen parts, tuples -/
def Kept (O : Addr → Prop) (H H' : Hp) (os : List Addr) : Prop := ∀ a o, H a = some o → (a ∈ os ∨ ¬ O a ∨ Imm o) → H' a = some o
theorem Kept.left {o1 o2 : List Addr} (k : Kept O H H' (o1 ++ o2)) : Kept O H H' o1 := fun a o e h => k a o e (h.elim (fun z => .inl (List.mem_append_left _ z)) .inr)
theorem Kept.right {o1 o2 : List Addr} (k : Kept O H H' (o1 ++ o2)) : Kept O H H' o2 := fun a o e h => k a o e (h.elim (fun z => .inl (List.mem_append_right _ z)) .inr)
theorem Kept.tail {a : Addr} {o2 : List Addr} (k : Kept O H H' (a :: o2)) : Kept O H H' o2 := fun b o e h => k b o e (h.elim (fun z => .inl (List.mem_cons_of_mem _ z)) .inr)
theorem Kept.rd {a : Addr} {u : HO} (k : Kept O H H' []) (n : ¬ O a) (h : Rd H a u) : Rd H' a u := by
  rcases h with h | ⟨o, h⟩
  · exact .inl (k a _ h (.inr (.inl n)))
  · exact .inr ⟨o, k a _ h (.inr (.inl n))⟩
theorem Kept.of_same (e : Same H H') (os : List Addr) : Kept O H H' os := fun a o h _ => e a o h
theorem rd_there {H : Hp} {a : Addr} {u : HO} (h : Rd H a u) : ∃ o, H a = some o := by
  rcases h with h | ⟨o, h⟩
  · exact ⟨_, h⟩
  · exact ⟨_, h⟩
mutual
theorem RepD.keep (hO : ∀ a o, H a = some o → O' a → O a) : ∀ {d : D} {v : V} {os : List Addr}, RepD K O H d v os → Kept O H H' os → RepD K O' H' d v os
  | _, _, _, .non, _ => .non
  | _, _, _, .bl b, _ => .bl b
  | _, _, _, .int b, _ => .int b
  | _, _, _, .str b, _ => .str b
  | _, _, _, .tup h r, k => .tup (k _ _ h (.inr (.inr trivial))) (RepL.keep hO r k)
  | _, _, _, .kt h r, k => .kt h (RepL.keep hO r k)
  | _, _, _, .xr0 h hc, k => .xr0 h hc
  | _, _, _, .xr1 h hc hd r, k => .xr1 h hc (k _ _ hd (.inr (.inr trivial))) (RepF.keep hO r k)
  | _, _, _, .lstF h n r, k => .lstF (k.rd n h) (fun z => by
      obtain ⟨o, q⟩ := rd_there h
      exact n (hO _ _ q z)) (RepL.keep hO r k)
  | _, _, _, .kl h r, k => .kl (h.imp (fun e => ⟨k.rd e.2 e.1, fun z => by
      obtain ⟨o, q⟩ := rd_there e.1
      exact e.2 (hO _ _ q z)⟩) id) (RepL.keep hO r k)
  | _, _, _, .lstO h r, k => .lstO (k _ _ h (.inl List.mem_cons_self)) (RepL.keep hO r k.tail)
  | _, _, _, .dkF h n r, k => .dkF (k _ _ h (.inr (.inl n))) (fun z => n (hO _ _ h z)) (RepK.keep hO r k)
  | _, _, _, .dkO h r, k => .dkO (k _ _ h (.inl List.mem_cons_self)) (RepK.keep hO r k.tail)
  | _, _, _, .dtF h n r, k => .dtF (k _ _ h (.inr (.inl n))) (fun z => n (hO _ _ h z)) (RepT.keep hO r k)
  | _, _, _, .dtO h r, k => .dtO (k _ _ h (.inl List.mem_cons_self)) (RepT.keep hO r k.tail)
  | _, _, _, .insF hc h n r, k => .insF hc (k _ _ h (.inr (.inl n))) (fun z => n (hO _ _ h z)) (RepF.keep hO r k)
  | _, _, _, .insO hc h r, k => .insO hc (k _ _ h (.inl List.mem_cons_self)) (RepF.keep hO r k.tail)
theorem RepL.keep (hO : ∀ a o, H a = some o → O' a → O a) : ∀ {d : List D} {v : List V} {os : List Addr}, RepL K O H d v os → Kept O H H' os → RepL K O' H' d v os
  | _, _, _, .nil, _ => .nil
  | _, _, _, .cons h r, k => .cons (RepD.keep hO h k.left) (RepL.keep hO r k.right)
theorem RepK.keep (hO : ∀ a o, H a = some o → O' a → O a) : ∀ {d : List (D × D)} {v : List (Key × V)} {os : List Addr}, RepK K O H d v os → Kept O H H' os → RepK K O' H' d v os
  | _, _, _, .nil, _ => .nil
  | _, _, _, .cons h r, k => .cons (RepD.keep hO h k.left) (RepK.keep hO r k.right)
theorem RepT.keep (hO : ∀ a o, H a = some o → O' a → O a) : ∀ {d : List (D × D)} {v : List (List Key × V)} {os : List Addr}, RepT K O H d v os → Kept O H H' os → RepT K O' H' d v os
  | _, _, _, .nil, _ => .nil
  | _, _, _, .cons h r, k => .cons (RepD.keep hO h k.left) (RepT.keep hO r k.right)
theorem RepF.keep (hO : ∀ a o, H a = some o → O' a → O a) : ∀ {d : List (Str × D)} {v : List (Str × V)} {os : List Addr}, RepF K O H d v os → Kept O H H' os → RepF K O' H' d v os
  | _, _, _, .nil, _ => .nil
  | _, _, _, .cons h r, k => .cons (RepD.keep hO h k.left) (RepF.keep hO r k.right)
end
mutual
/-- its own parts stand -/
theorem RepD.there : ∀ {d : D} {v : V} {os : List Addr}, RepD K O H d v os → ∀ a ∈ os, H a ≠ none
  | _, _, _, .non, _, h => nomatch h
  | _, _, _, .bl _, _, h => nomatch h
  | _, _, _, .int _, _, h => nomatch h
  | _, _, _, .str _, _, h => nomatch h
  | _, _, _, .tup _ r, a, h => RepL.there r a h
  | _, _, _, .lstF _ _ _, _, h => nomatch h
  | _, _, _, .kl _ _, _, h => nomatch h
  | _, _, _, .kt _ _, _, h => nomatch h
  | _, _, _, .xr0 _ _, _, h => nomatch h
  | _, _, _, .xr1 _ _ _ _, _, h => nomatch h
  | _, _, _, .lstO h r, a, m => (List.mem_cons.mp m).elim (fun e => by rw [e, h]; exact fun z => nomatch z) (RepL.there r a)
  | _, _, _, .dkF _ _ _, _, h => nomatch h
  | _, _, _, .dkO h r, a, m => (List.mem_cons.mp m).elim (fun e => by rw [e, h]; exact fun z => nomatch z) (RepK.there r a)
  | _, _, _, .dtF _ _ _, _, h => nomatch h
  | _, _, _, .dtO h r, a, m => (List.mem_cons.mp m).elim (fun e => by rw [e, h]; exact fun z => nomatch z) (RepT.there r a)
  | _, _, _, .insF _ _ _ _, _, h => nomatch h
  | _, _, _, .insO _ h r, a, m => (List.mem_cons.mp m).elim (fun e => by rw [e, h]; exact fun z => nomatch z) (RepF.there r a)
theorem RepL.there : ∀ {d : List D} {v : List V} {os : List Addr}, RepL K O H d v os → ∀ a ∈ os, H a ≠ none
  | _, _, _, .nil, _, h => nomatch h
  | _, _, _, .cons h r, a, m => (List.mem_append.mp m).elim (RepD.there h a) (RepL.there r a)
theorem RepK.there : ∀ {d : List (D × D)} {v : List (Key × V)} {os : List Addr}, RepK K O H d v os → ∀ a ∈ os, H a ≠ none
  | _, _, _, .nil, _, h => nomatch h
  | _, _, _, .cons h r, a, m => (List.mem_append.mp m).elim (RepD.there h a) (RepK.there r a)
theorem RepT.there : ∀ {d : List (D × D)} {v : List (List Key × V)} {os : List Addr}, RepT K O H d v os → ∀ a ∈ os, H a ≠ none
  | _, _, _, .nil, _, h => nomatch h
  | _, _, _, .cons h r, a, m => (List.mem_append.mp m).elim (RepD.there h a) (RepT.there r a)
theorem RepF.there : ∀ {d : List (Str × D)} {v : List (Str × V)} {os : List Addr}, RepF K O H d v os → ∀ a ∈ os, H a ≠ none
  | _, _, _, .nil, _, h => nomatch h
  | _, _, _, .cons h r, a, m => (List.mem_append.mp m).elim (RepD.there h a) (RepF.there r a)
end
mutual
/-- frozen: O' leaves out what was frozen and the own parts -/
theorem RepD.frz : ∀ {d : D} {v : V} {os : List Addr}, RepD K O H d v os → (∀ a o, H a = some o → O' a → O a ∧ a ∉ os) → RepD K O' H d.frz v []
  | _, _, _, .non, _ => .non
  | _, _, _, .bl b, _ => .bl b
  | _, _, _, .int b, _ => .int b
  | _, _, _, .str b, _ => .str b
  | _, _, _, .tup h r, k => .tup h (RepL.frz r k)
  | _, _, _, .kt h r, k => .kt h (RepL.frz r k)
  | _, _, _, .xr0 h hc, k => .xr0 h hc
  | _, _, _, .xr1 h hc hd r, k => .xr1 h hc hd (RepF.frz r k)
  | _, _, _, .lstF h n r, k => .lstF h (fun z => by
      obtain ⟨o, q⟩ := rd_there h
      exact n (k _ _ q z).1) (RepL.frz r k)
  | _, _, _, .kl h r, k => .kl (h.imp (fun e => ⟨e.1, fun z => by
      obtain ⟨o, q⟩ := rd_there e.1
      exact e.2 (k _ _ q z).1⟩) id) (RepL.frz r k)
  | _, _, _, .lstO h r, k => .lstF (.inl h) (fun z => (k _ _ h z).2 List.mem_cons_self) (RepL.frz r fun a o e z => ⟨(k a o e z).1, fun m => (k a o e z).2 (List.mem_cons_of_mem _ m)⟩)
  | _, _, _, .dkF h n r, k => .dkF h (fun z => by
      have q := h
      exact n (k _ _ q z).1) (RepK.frz r k)
  | _, _, _, .dkO h r, k => .dkF h (fun z => (k _ _ h z).2 List.mem_cons_self) (RepK.frz r fun a o e z => ⟨(k a o e z).1, fun m => (k a o e z).2 (List.mem_cons_of_mem _ m)⟩)
  | _, _, _, .dtF h n r, k => .dtF h (fun z => by
      have q := h
      exact n (k _ _ q z).1) (RepT.frz r k)
  | _, _, _, .dtO h r, k => .dtF h (fun z => (k _ _ h z).2 List.mem_cons_self) (RepT.frz r fun a o e z => ⟨(k a o e z).1, fun m => (k a o e z).2 (List.mem_cons_of_mem _ m)⟩)
  | _, _, _, .insF hc h n r, k => .insF hc h (fun z => n (k _ _ h z).1) (RepF.frz r k)
  | _, _, _, .insO hc h r, k => .insF hc h (fun z => (k _ _ h z).2 List.mem_cons_self) (RepF.frz r fun a o e z => ⟨(k a o e z).1, fun m => (k a o e z).2 (List.mem_cons_of_mem _ m)⟩)
theorem RepL.frz : ∀ {d : List D} {v : List V} {os : List Addr}, RepL K O H d v os → (∀ a o, H a = some o → O' a → O a ∧ a ∉ os) → RepL K O' H (frzL d) v []
  | _, _, _, .nil, _ => .nil
  | _, _, _, .cons h r, k => .cons (o1 := []) (RepD.frz h fun a o e z => ⟨(k a o e z).1, fun m => (k a o e z).2 (List.mem_append_left _ m)⟩) (RepL.frz r fun a o e z => ⟨(k a o e z).1, fun m => (k a o e z).2 (List.mem_append_right _ m)⟩)
theorem RepK.frz : ∀ {d : List (D × D)} {v : List (Key × V)} {os : List Addr}, RepK K O H d v os → (∀ a o, H a = some o → O' a → O a ∧ a ∉ os) → RepK K O' H (frzK d) v []
  | _, _, _, .nil, _ => .nil
  | _, _, _, .cons h r, k => .cons (o1 := []) (RepD.frz h fun a o e z => ⟨(k a o e z).1, fun m => (k a o e z).2 (List.mem_append_left _ m)⟩) (RepK.frz r fun a o e z => ⟨(k a o e z).1, fun m => (k a o e z).2 (List.mem_append_right _ m)⟩)
theorem RepT.frz : ∀ {d : List (D × D)} {v : List (List Key × V)} {os : List Addr}, RepT K O H d v os → (∀ a o, H a = some o → O' a → O a ∧ a ∉ os) → RepT K O' H (frzK d) v []
  | _, _, _, .nil, _ => .nil
  | _, _, _, .cons h r, k => .cons (o1 := []) (RepD.frz h fun a o e z => ⟨(k a o e z).1, fun m => (k a o e z).2 (List.mem_append_left _ m)⟩) (RepT.frz r fun a o e z => ⟨(k a o e z).1, fun m => (k a o e z).2 (List.mem_append_right _ m)⟩)
theorem RepF.frz : ∀ {d : List (Str × D)} {v : List (Str × V)} {os : List Addr}, RepF K O H d v os → (∀ a o, H a = some o → O' a → O a ∧ a ∉ os) → RepF K O' H (frzF d) v []
  | _, _, _, .nil, _ => .nil
  | _, _, _, .cons h r, k => .cons (o1 := []) (RepD.frz h fun a o e z => ⟨(k a o e z).1, fun m => (k a o e z).2 (List.mem_append_left _ m)⟩) (RepF.frz r fun a o e z => ⟨(k a o e z).1, fun m => (k a o e z).2 (List.mem_append_right _ m)⟩)
end
end
end TL
/-! T2: states, readings over trees -/
namespace TL
open PySem PySem.Spec PyProof.Rows L2

abbrev Ow := Nat → List Addr
def Oo (ow : Ow) (B : Addr → Prop) : Addr → Prop := fun a => (∃ i, a ∈ ow i) ∨ B a
def OutS (S : List Nat) (ow : Ow) (B : Addr → Prop) (os : List Addr) : Addr → Prop := fun a => (∃ i, a ∈ ow i ∧ i ∉ S) ∨ B a ∨ a ∈ os
structure Stt (K : KX) (B : Addr → Prop) (ρ : En) (σ : L2.St) (H : Hp) (ow : Ow) : Prop where
  len : ρ.length = σ.length
  rep : ∀ i d, ρ[i]? = some (some d) → ∃ v, σ[i]? = some (some v) ∧ RepD K (Oo ow B) H d v (ow i)
  dead : ∀ i, (∀ d, ρ[i]? ≠ some (some d)) → ow i = []
  nd : ∀ i, (ow i).Nodup
  dj : ∀ i j a, a ∈ ow i → a ∈ ow j → i = j
  bt : ∀ a, B a → H a ≠ none
  bo : ∀ i a, a ∈ ow i → ¬ B a
section
variable {K : KX} {B B' : Addr → Prop} {ρ : En} {σ : L2.St} {H H' : Hp} {ow : Ow}
theorem Stt.there (s : Stt K B ρ σ H ow) {i : Nat} {a : Addr} (h : a ∈ ow i) : H a ≠ none := by
  by_cases q : ∃ d, ρ[i]? = some (some d)
  · obtain ⟨d, q⟩ := q
    obtain ⟨v, _, r⟩ := s.rep i d q
    exact r.there a h
  · rw [s.dead i fun d z => q ⟨d, z⟩] at h
    exact nomatch h
/-- the heap grows, the frame grows by new parts -/
theorem Stt.grow (s : Stt K B ρ σ H ow) (e : Same H H') (hB : ∀ a o, H a = some o → B' a → B a) (hb : ∀ a, B' a → H' a ≠ none) : Stt K B' ρ σ H' ow := by
  refine ⟨s.len, fun i d h => ?_, s.dead, s.nd, s.dj, hb, fun i a h z => ?_⟩
  · obtain ⟨v, h1, r⟩ := s.rep i d h
    exact ⟨v, h1, r.keep (fun a o q z => z.imp id (hB a o q)) (Kept.of_same e _)⟩
  · cases q : H a with
    | none => exact s.there h q
    | some o => exact s.bo i a h (hB a o q z)
theorem Stt.same (s : Stt K B ρ σ H ow) (e : Same H H') : Stt K B ρ σ H' ow :=
  s.grow e (fun _ _ _ z => z) fun a h z => s.bt a h (e.free z)
/-- what a slot shows, frozen -/
theorem Stt.look (s : Stt K B ρ σ H ow) {i : Nat} {d : D} (h : ρ[i]? = some (some d)) : ∃ v, σ[i]? = some (some v) ∧ RepD K (OutS [i] ow B []) H d.frz v [] := by
  obtain ⟨v, h1, r⟩ := s.rep i d h
  refine ⟨v, h1, r.frz fun a o q z => ?_⟩
  rcases z with ⟨j, hj, n⟩ | z | z
  · exact ⟨.inl ⟨j, hj⟩, fun m => n (by rw [s.dj j i a hj m]; exact List.mem_singleton.mpr rfl)⟩
  · exact ⟨.inr z, fun m => s.bo i a m z⟩
  · exact nomatch z
end

/-- an exception of the class at C with these fields -/
def RepX (K : KX) (H : Hp) (C : Str) (fs : List (Str × D)) (cls : Value) (dd : Option Addr) : Prop :=
  cls = exV K.fr C ∧ ((fs = [] ∧ dd = none) ∨ ∃ d vs, dd = some d ∧ H d = some (.xd vs) ∧ ∀ O, RepF (k0 K.fr) O H fs vs [])

/-! ### expressions -/
section
variable (K : KX) (W : WX)
def rdOk (S : List Nat) (B : Addr → Prop) (ow : Ow) (H : Hp) (d : D) (Q : VK) : Prop :=
  ∀ v H' os, Same H H' → RepD K (OutS S ow B os) H' d v os → os.Nodup → (∀ a ∈ os, H a = none) → Q v H'
def rdEx (σ : L2.St) (H : Hp) (C : Str) (fs : List (Str × D)) : Prop := ∀ cls dd H', Same H H' → RepX K H' C fs cls dd → W cls dd σ H'
def rd (S : List Nat) (f : En → R D) : TE := fun σ H Q => ∃ ρ ow B, Stt K B ρ σ H ow ∧ match f ρ with
  | .ok d => rdOk K S B ow H d Q
  | .exc C fs => rdEx K W σ H C fs
  | .stuck => False
def rdAOk (S : List Nat) (B : Addr → Prop) (ow : Ow) (H : Hp) (ds : List D) (Q : List V → Hp → Prop) : Prop :=
  ∀ vs H' os, Same H H' → RepL K (OutS S ow B os) H' ds vs os → os.Nodup → (∀ a ∈ os, H a = none) → Q vs H'
def rdA (S : List Nat) (f : En → R (List D)) : TA := fun σ H Q => ∃ ρ ow B, Stt K B ρ σ H ow ∧ match f ρ with
  | .ok ds => rdAOk K S B ow H ds Q
  | .exc C fs => rdEx K W σ H C fs
  | .stuck => False
def rdT (f : En → R Bool) : TT := fun σ H Q => ∃ ρ ow B, Stt K B ρ σ H ow ∧ match f ρ with
  | .ok b => ∀ H', Same H H' → Q b H'
  | .exc C fs => rdEx K W σ H C fs
  | .stuck => False
end
structure DE (X : CY) (W : WX) (S : List Nat) (e : Expr) (f : En → R D) : Prop where
  pe : PE X e (rd (kx X) W S f)
structure DA (X : CY) (W : WX) (S : List Nat) (es : List Expr) (f : En → R (List D)) : Prop where
  pa : PA X es (rdA (kx X) W S f)
structure DT (X : CY) (W : WX) (e : Expr) (f : En → R Bool) : Prop where
  pt : PT X e (rdT (kx X) W f)
structure DW (X : CY) (W : WX) (e : Expr) (f : En → R Bool) : Prop where
  pw : PW X e (rdT (kx X) W f)
theorem _root_.L2.PE.imp {X : Cx} {e : Expr} {t t' : TE} (h : PE X e t) (m : ∀ σ H Q, t' σ H Q → t σ H Q) : PE X e t' := ⟨fun pins s σ H Q I q => h.run pins s σ H Q I (m σ H Q q)⟩
theorem _root_.L2.PT.imp {X : Cx} {e : Expr} {t t' : TT} (h : PT X e t) (m : ∀ σ H Q, t' σ H Q → t σ H Q) : PT X e t' := ⟨fun pins s σ H Q I q => h.run pins s σ H Q I (m σ H Q q)⟩
theorem _root_.L2.PW.imp {X : Cx} {e : Expr} {t t' : TT} (h : PW X e t) (m : ∀ σ H Q, t' σ H Q → t σ H Q) : PW X e t' := ⟨fun w pins s σ H Q I q => h.run w pins s σ H Q I (m σ H Q q)⟩
theorem _root_.L2.PA.imp {X : Cx} {e : List Expr} {t t' : TA} (h : PA X e t) (m : ∀ σ H Q, t' σ H Q → t σ H Q) : PA X e t' := ⟨fun p pins s σ H Q I q => h.run p pins s σ H Q I (m σ H Q q)⟩
theorem _root_.L2.PS.imp {X : Cx} {e : Stmt} {t t' : TS} (h : PS X e t) (m : ∀ D σ H, t' D σ H → t D σ H) : PS X e t' := ⟨fun pins s σ H D I q => h.run pins s σ H D I (m D σ H q)⟩
theorem _root_.L2.PSs.imp {X : Cx} {e : List Stmt} {t t' : TS} (h : PSs X e t) (m : ∀ D σ H, t' D σ H → t D σ H) : PSs X e t' := ⟨fun pins s σ H D I q => h.run pins s σ H D I (m D σ H q)⟩

/-! ### names, constants -/
def eVar (i : Nat) : En → R D := fun ρ => match ρ[i]? with
  | some (some d) => .ok d.frz
  | _ => .stuck
def eC (d : D) : En → R D := fun _ => .ok d
section
variable {X : CY} {W : WX} {S Sa Sb : List Nat} {pos : Pos}
theorem de_name (i : Nat) {x : Str} (hN : X.N[i]? = some x := by rfl) (hv : Vis X.env.scope x := by first | exact Or.inl rfl | exact Or.inr (Or.inl rfl) | exact Or.inr (Or.inr rfl)) (hd : (x == ("__debug__" : Str)) = false := by decide)
    (hcd : (x == ("__classdict__" : Str)) = false := by decide) : DE X W [i] (.Name x pos) (eVar i) := ⟨(pe_var hN hv hd hcd).imp fun σ H Q h => by
  obtain ⟨ρ, ow, B, st, h⟩ := h
  unfold eVar at h
  split at h
  · rename_i e
    split at e
    · rename_i d' q
      cases e
      obtain ⟨v, h1, r⟩ := st.look q
      exact ⟨v, h1, h v H [] (Same.refl H) r List.nodup_nil (fun _ z => nomatch z)⟩
    · cases e
  · rename_i e
    split at e <;> cases e
  · exact h.elim⟩
theorem rd_const {K : KX} {d : D} {v : V} {σ : L2.St} {H : Hp} {Q : VK} (hr : ∀ O, RepD K O H d v []) (h : rd K W S (eC d) σ H Q) : tC v σ H Q := by
  obtain ⟨ρ, ow, B, st, h⟩ := h
  exact h v H [] (Same.refl H) (hr _) List.nodup_nil (fun _ z => nomatch z)
theorem de_int {i j} : DE X W [] (.Constant (.int i) j pos) (eC (.int i)) := ⟨pe_int.imp fun _ _ _ h => rd_const (fun _ => .int _) h⟩
theorem de_bl {i j} : DE X W [] (.Constant (.bool i) j pos) (eC (.bl i)) := ⟨pe_bl.imp fun _ _ _ h => rd_const (fun _ => .bl _) h⟩
theorem de_non {j} : DE X W [] (.Constant .none j pos) (eC .non) := ⟨pe_non.imp fun _ _ _ h => rd_const (fun _ => .non) h⟩
theorem de_str {i j} : DE X W [] (.Constant (.str i) j pos) (eC (.str i)) := ⟨pe_str.imp fun _ _ _ h => rd_const (fun _ => .str _) h⟩
/-- a module's constant -/
theorem de_glob {x : Str} {v : V} {d : D} {u : Value} (hg : Gl X x) (hm : X.mg x = some u) (r : RelV v u) (hr : ∀ O H, RepD (kx X) O H d v []) (hd : (x == ("__debug__" : Str)) = false := by decide) : DE X W [] (.Name x pos) (eC d) :=
  ⟨(pe_glob hg hm r hd).imp fun _ _ _ h => rd_const (fun _ => hr _ _) h⟩
end

/-! ### composing -/
def ofO {α : Type} : Option α → R α
  | some d => .ok d
  | none => .stuck
@[simp] theorem ofO_some {α : Type} (a : α) : ofO (some a) = .ok a := of_eq_true (eq_self _)
@[simp] theorem ofO_none {α : Type} : (ofO none : R α) = .stuck := of_eq_true (eq_self _)
def e1 (g : D → Option D) (fa : En → R D) : En → R D := fun ρ => (fa ρ).bind fun x => ofO (g x)
def e2 (g : D → D → Option D) (fa fb : En → R D) : En → R D := fun ρ => (fa ρ).bind fun x => (fb ρ).bind fun y => ofO (g x y)
def e3 (g : D → D → D → Option D) (fa fb fc : En → R D) : En → R D := fun ρ => (fa ρ).bind fun x => (fb ρ).bind fun y => (fc ρ).bind fun z => ofO (g x y z)
def eN (g : List D → Option D) (fa : En → R (List D)) : En → R D := fun ρ => (fa ρ).bind fun x => ofO (g x)
def eNil : En → R (List D) := fun _ => .ok []
def eCons (fa : En → R D) (fb : En → R (List D)) : En → R (List D) := fun ρ => (fa ρ).bind fun x => (fb ρ).bind fun y => .ok (x :: y)

/-- the answer's parts come out of the given ones or are new -/
def Done (K : KX) (O : Addr → Prop) (H : Hp) (o : List Addr) (d : D) (Q : VK) : Prop :=
  ∀ v H' os, Same H H' → RepD K (fun a => O a ∨ a ∈ os) H' d v os → os.Nodup → (∀ a ∈ os, a ∈ o ∨ H a = none) → Q v H'
def Fits1 (K : KX) (g : D → Option D) (r : V → Hp → VK → Prop) : Prop :=
  ∀ (O : Addr → Prop) H x v o d Q, RepD K O H x v o → o.Nodup → (∀ a ∈ o, O a) → g x = some d → Done K O H o d Q → r v H Q
def Fits2 (K : KX) (g : D → D → Option D) (r : R2) : Prop :=
  ∀ (O : Addr → Prop) H x y v1 v2 o1 o2 d Q, RepD K O H x v1 o1 → RepD K O H y v2 o2 → (o1 ++ o2).Nodup → (∀ a ∈ o1 ++ o2, O a) → g x y = some d → Done K O H (o1 ++ o2) d Q → r v1 v2 H Q
def FitsN (K : KX) (g : List D → Option D) (r : List V → Hp → VK → Prop) : Prop :=
  ∀ (O : Addr → Prop) H xs vs o d Q, RepL K O H xs vs o → o.Nodup → (∀ a ∈ o, O a) → g xs = some d → Done K O H o d Q → r vs H Q
section
variable {K : KX} {W : WX} {S Sa Sb Sc : List Nat} {σ : L2.St} {H : Hp}
theorem outS_keep {ow : Ow} {B : Addr → Prop} {o1 o2 : List Addr} {H1 : Hp} (n : ∀ a ∈ o2, H1 a = none) : ∀ a o, H1 a = some o → OutS (Sa ++ Sb) ow B (o1 ++ o2) a → OutS Sa ow B o1 a := fun a o e z => by
  rcases z with ⟨i, h1, h2⟩ | z | z
  · exact .inl ⟨i, h1, fun q => h2 (List.mem_append_left _ q)⟩
  · exact .inr (.inl z)
  · rcases List.mem_append.mp z with z | z
    · exact .inr (.inr z)
    · rw [n a z] at e; cases e
theorem outS_keep2 {ow : Ow} {B : Addr → Prop} {o1 o2 : List Addr} : ∀ a, OutS (Sa ++ Sb) ow B (o1 ++ o2) a → OutS Sb ow (fun a => B a ∨ a ∈ o1) o2 a := fun a z => by
  rcases z with ⟨i, h1, h2⟩ | z | z
  · exact .inl ⟨i, h1, fun q => h2 (List.mem_append_right _ q)⟩
  · exact .inr (.inl (.inl z))
  · rcases List.mem_append.mp z with z | z
    · exact .inr (.inl (.inr z))
    · exact .inr (.inr z)
theorem nodup_two {o1 o2 : List Addr} {H1 : Hp} (n1 : o1.Nodup) (n2 : o2.Nodup) (t : ∀ a ∈ o1, H1 a ≠ none) (n : ∀ a ∈ o2, H1 a = none) : (o1 ++ o2).Nodup :=
  List.nodup_append.mpr ⟨n1, n2, fun a ha b hb e => t a ha (by rw [e]; exact n b hb)⟩
/-- one, then another -/
theorem rd_then {fa fb : En → R D} {F : D → D → R D} {Q : VK} {Z : V → V → Hp → Prop}
    (h : rd K W (Sa ++ Sb) (fun ρ => (fa ρ).bind fun x => (fb ρ).bind fun y => F x y) σ H Q)
    (hF : ∀ ρ ow B H0 H1 H2 x y v1 v2 o1 o2, Stt K B ρ σ H0 ow → Same H0 H1 → Same H1 H2 → RepD K (OutS (Sa ++ Sb) ow B (o1 ++ o2)) H2 x v1 o1 → RepD K (OutS (Sa ++ Sb) ow B (o1 ++ o2)) H2 y v2 o2 → (o1 ++ o2).Nodup → (∀ a ∈ o1 ++ o2, H0 a = none) →
      (match F x y with
        | .ok d => rdOk K (Sa ++ Sb) B ow H0 d Q
        | .exc C fs => rdEx K W σ H0 C fs
        | .stuck => False) → Z v1 v2 H2) :
    rd K W Sa fa σ H fun v1 H1 => rd K W Sb fb σ H1 fun v2 H2 => Z v1 v2 H2 := by
  obtain ⟨ρ, ow, B, st, h⟩ := h
  refine ⟨ρ, ow, B, st, ?_⟩
  dsimp only at h
  cases ea : fa ρ with
  | stuck => rw [ea] at h; exact h
  | exc C fs => rw [ea] at h; exact h
  | ok x =>
    rw [ea] at h
    intro v1 H1 o1 s1 r1 d1 n1
    refine ⟨ρ, ow, fun a => B a ∨ a ∈ o1, st.grow s1 (fun a o e z => z.elim id fun z => by rw [n1 a z] at e; cases e) (fun a z => z.elim (fun z q => st.bt a z (s1.free q)) (r1.there a)), ?_⟩
    simp only [R.bind_ok] at h
    cases eb : fb ρ with
    | stuck => rw [eb] at h; exact h
    | exc C fs =>
      rw [eb] at h
      exact fun cls dd H' s x => h cls dd H' (s1.trans s) x
    | ok y =>
      rw [eb] at h
      simp only [R.bind_ok] at h
      intro v2 H2 o2 s2 r2 d2 n2
      refine hF ρ ow B H H1 H2 x y v1 v2 o1 o2 st s1 s2 (r1.keep (outS_keep n2) (Kept.of_same s2 _)) (r2.keep (fun a o e z => outS_keep2 a z) (Kept.of_same (Same.refl _) _)) (nodup_two d1 d2 r1.there n2) (fun a m => ?_) h
      rcases List.mem_append.mp m with m | m
      · exact n1 a m
      · exact s1.free (n2 a m)
theorem rd_done {ow : Ow} {B : Addr → Prop} {o : List Addr} {H0 H2 : Hp} {d : D} {Q : VK} (e : Same H0 H2) (n : ∀ a ∈ o, H0 a = none) (h : rdOk K S B ow H0 d Q) : Done K (OutS S ow B o) H2 o d Q := fun v H' os s r nd z => by
  refine h v H' os (e.trans s) (r.keep (fun a o _ z => ?_) (Kept.of_same (Same.refl _) _)) nd fun a m => (z a m).elim (n a) e.free
  rcases z with z | z | z
  · exact .inl (.inl z)
  · exact .inl (.inr (.inl z))
  · exact .inr z
theorem outS_mem {ow : Ow} {B : Addr → Prop} {o : List Addr} : ∀ a ∈ o, OutS S ow B o a := fun _ m => .inr (.inr m)
theorem rd1 {g : D → Option D} {r : V → Hp → VK → Prop} {fa : En → R D} {Q : VK} (hg : Fits1 K g r) (h : rd K W S (e1 g fa) σ H Q) : rd K W S fa σ H fun v H1 => r v H1 Q := by
  obtain ⟨ρ, ow, B, st, h⟩ := h
  refine ⟨ρ, ow, B, st, ?_⟩
  unfold e1 at h
  cases ea : fa ρ with
  | stuck => rw [ea] at h; exact h
  | exc C fs => rw [ea] at h; exact h
  | ok x =>
    rw [ea] at h
    simp only [R.bind_ok] at h
    intro v1 H1 o1 s1 r1 d1 n1
    cases eg : g x with
    | none => rw [eg] at h; exact h.elim
    | some d =>
      rw [eg] at h
      exact hg _ H1 x v1 o1 d Q r1 d1 outS_mem eg (rd_done s1 n1 h)
theorem rd2 {g : D → D → Option D} {r : R2} {fa fb : En → R D} {Q : VK} (hg : Fits2 K g r) (h : rd K W (Sa ++ Sb) (e2 g fa fb) σ H Q) : rd K W Sa fa σ H fun v1 H1 => rd K W Sb fb σ H1 fun v2 H2 => r v1 v2 H2 Q :=
  rd_then (F := fun x y => ofO (g x y)) h fun ρ ow B H0 H1 H2 x y v1 v2 o1 o2 st s1 s2 r1 r2 nd n h => by
    cases eg : g x y with
    | none => rw [eg] at h; exact h.elim
    | some d =>
      rw [eg] at h
      exact hg _ H2 x y v1 v2 o1 o2 d Q r1 r2 nd outS_mem eg (rd_done (s1.trans s2) n h)
theorem rdN {g : List D → Option D} {r : List V → Hp → VK → Prop} {fa : En → R (List D)} {Q : VK} (hg : FitsN K g r) (h : rd K W S (eN g fa) σ H Q) : rdA K W S fa σ H fun vs H1 => r vs H1 Q := by
  obtain ⟨ρ, ow, B, st, h⟩ := h
  refine ⟨ρ, ow, B, st, ?_⟩
  unfold eN at h
  cases ea : fa ρ with
  | stuck => rw [ea] at h; exact h
  | exc C fs => rw [ea] at h; exact h
  | ok x =>
    rw [ea] at h
    simp only [R.bind_ok] at h
    intro v1 H1 o1 s1 r1 d1 n1
    cases eg : g x with
    | none => rw [eg] at h; exact h.elim
    | some d =>
      rw [eg] at h
      exact hg _ H1 x v1 o1 d Q r1 d1 outS_mem eg (rd_done s1 n1 h)
theorem rd_nil {Q : List V → Hp → Prop} (h : rdA K W [] eNil σ H Q) : tNil σ H Q := by
  obtain ⟨ρ, ow, B, st, h⟩ := h
  exact h [] H [] (Same.refl H) .nil List.nodup_nil fun _ z => nomatch z
theorem rd_cons {fa : En → R D} {fb : En → R (List D)} {Q : List V → Hp → Prop} (h : rdA K W (Sa ++ Sb) (eCons fa fb) σ H Q) : tCons (rd K W Sa fa) (rdA K W Sb fb) σ H Q := by
  obtain ⟨ρ, ow, B, st, h⟩ := h
  refine ⟨ρ, ow, B, st, ?_⟩
  unfold eCons at h
  cases ea : fa ρ with
  | stuck => rw [ea] at h; exact h
  | exc C fs => rw [ea] at h; exact h
  | ok x =>
    rw [ea] at h
    intro v1 H1 o1 s1 r1 d1 n1
    refine ⟨ρ, ow, fun a => B a ∨ a ∈ o1, st.grow s1 (fun a o e z => z.elim id fun z => by rw [n1 a z] at e; cases e) (fun a z => z.elim (fun z q => st.bt a z (s1.free q)) (r1.there a)), ?_⟩
    simp only [R.bind_ok] at h
    cases eb : fb ρ with
    | stuck => rw [eb] at h; exact h
    | exc C fs =>
      rw [eb] at h
      exact fun cls dd H' s x => h cls dd H' (s1.trans s) x
    | ok y =>
      rw [eb] at h
      simp only [R.bind_ok] at h
      intro v2 H2 o2 s2 r2 d2 n2
      refine h (v1 :: v2) H2 (o1 ++ o2) (s1.trans s2) (.cons (r1.keep (outS_keep n2) (Kept.of_same s2 _)) (r2.keep (fun a o e z => outS_keep2 a z) (Kept.of_same (Same.refl _) _))) (nodup_two d1 d2 r1.there n2) (fun a m => ?_)
      rcases List.mem_append.mp m with m | m
      · exact n1 a m
      · exact s1.free (n2 a m)
end
section
variable {X : CY} {W : WX} {S Sa Sb : List Nat} {pos : Pos} {a b e : Expr} {es : List Expr} {fa fb : En → R D} {fs : En → R (List D)}
theorem de_bin {op : Operator} {g : D → D → Option D} {r : R2} (ho : OpR X (binaryOp op) r) (hg : Fits2 (kx X) g r) (ha : DE X W Sa a fa) (hb : DE X W Sb b fb) : DE X W (Sa ++ Sb) (.BinOp a op b pos) (e2 g fa fb) :=
  ⟨(pe_op ho ha.pe hb.pe).imp fun _ _ _ h => rd2 hg h⟩
theorem de_un {op : UnaryOp} {g : D → Option D} {r : V → Hp → VK → Prop} (ho : UnR X (unaryOp op) r) (hg : Fits1 (kx X) g r) (ha : DE X W Sa a fa) : DE X W Sa (.UnaryOp op a pos) (e1 g fa) :=
  ⟨(pe_un ho ha.pe).imp fun _ _ _ h => rd1 hg h⟩
theorem de_cmp {op : CmpOp} {g : D → D → Option D} {r : R2} (ho : OpR X (compareOp op) r) (hg : Fits2 (kx X) g r) (ha : DE X W Sa a fa) (hb : DE X W Sb b fb) (hm : behindInMarks op b = false) : DE X W (Sa ++ Sb) (.Compare a [op] [b] pos) (e2 g fa fb) :=
  ⟨(pe_cmpR ho ha.pe hb.pe hm).imp fun _ _ _ h => rd2 hg h⟩
theorem de_ix {g : D → D → Option D} {r : R2} (ho : IxR X r) (hg : Fits2 (kx X) g r) (ha : DE X W Sa a fa) (hb : DE X W Sb b fb) (hs : PlainIx b) : DE X W (Sa ++ Sb) (.Subscript a b pos) (e2 g fa fb) :=
  ⟨(pe_ix ho ha.pe hb.pe hs).imp fun _ _ _ h => rd2 hg h⟩
theorem da_nil : DA X W [] [] eNil := ⟨pa_nil.imp fun _ _ _ h => rd_nil h⟩
theorem da_cons (ha : DE X W Sa e fa) (hb : DA X W Sb es fs) (hs : starEach (e :: es) X.env = (false, eval e X.env) :: starEach es X.env := by rfl) : DA X W (Sa ++ Sb) (e :: es) (eCons fa fs) :=
  ⟨(pa_cons ha.pe hb.pa hs).imp fun _ _ _ h => rd_cons h⟩
end
end TL
/-! T3: tests, statements, loops, calls over trees -/
namespace TL
open PySem PySem.Spec PyProof.Rows L2

/-! ### tests -/
def asB : D → R Bool
  | .bl b => .ok b
  | _ => .stuck
def tV (f : En → R D) : En → R Bool := fun ρ => (f ρ).bind asB
def tNotC (f : En → R Bool) : En → R Bool := fun ρ => (f ρ).bind fun b => .ok (!b)
def tAndC (f g : En → R Bool) : En → R Bool := fun ρ => (f ρ).bind fun b => if b then g ρ else .ok false
def tOrC (f g : En → R Bool) : En → R Bool := fun ρ => (f ρ).bind fun b => if b then .ok true else g ρ
def eT (f : En → R Bool) : En → R D := fun ρ => (f ρ).bind fun b => .ok (.bl b)
def eIf (c : En → R Bool) (f g : En → R D) : En → R D := fun ρ => (c ρ).bind fun b => if b then f ρ else g ρ
section
variable {K : KX} {W : WX} {S : List Nat} {σ : L2.St} {H : Hp}
theorem rd_bool {f : En → R D} {Q : Bool → Hp → Prop} (h : rdT K W (tV f) σ H Q) : rd K W S f σ H fun x H1 => ∃ c, x = .bl c ∧ Q c H1 := by
  obtain ⟨ρ, ow, B, st, h⟩ := h
  refine ⟨ρ, ow, B, st, ?_⟩
  unfold tV at h
  cases e : f ρ with
  | stuck => rw [e] at h; exact h
  | exc C fs => rw [e] at h; exact h
  | ok d =>
    rw [e] at h
    intro v H' os s r nd n
    cases d with
    | bl b => cases r; exact ⟨b, rfl, h H' s⟩
    | non => exact h.elim
    | int i => exact h.elim
    | str i => exact h.elim
    | tup i => exact h.elim
    | lst o i => exact h.elim
    | dct o t i => exact h.elim
    | kt i => exact h.elim
    | xr _ _ => exact h.elim
    | ins o i j => exact h.elim
    | kl i => exact h.elim
theorem rdT_bind {f : En → R Bool} {F : En → Bool → R Bool} {Q : Bool → Hp → Prop} {Z : Bool → Hp → Prop} (h : rdT K W (fun ρ => (f ρ).bind fun b => F ρ b) σ H Q)
    (hz : ∀ b H1, rdT K W (fun ρ => F ρ b) σ H1 Q → Z b H1) : rdT K W f σ H Z := by
  obtain ⟨ρ, ow, B, st, h⟩ := h
  refine ⟨ρ, ow, B, st, ?_⟩
  dsimp only at h
  cases e : f ρ with
  | stuck => rw [e] at h; exact h
  | exc C fs => rw [e] at h; exact h
  | ok b =>
    rw [e] at h
    intro H' s
    refine hz b H' ⟨ρ, ow, B, st.same s, ?_⟩
    dsimp only [R.bind_ok] at h ⊢
    cases e2 : F ρ b with
    | stuck => rw [e2] at h; exact h
    | exc C fs => rw [e2] at h; exact fun cls dd H2 s2 x => h cls dd H2 (s.trans s2) x
    | ok c => rw [e2] at h; exact fun H2 s2 => h H2 (s.trans s2)
theorem rdT_pure {b : Bool} {Q : Bool → Hp → Prop} (h : rdT K W (fun _ => .ok b) σ H Q) : Q b H := by
  obtain ⟨ρ, ow, B, st, h⟩ := h
  exact h H (Same.refl H)
/-- a test ahead of an expression -/
theorem rdT_then {f : En → R Bool} {F : Bool → En → R D} {Q : VK} {Z : Bool → Hp → Prop} (h : rd K W S (fun ρ => (f ρ).bind fun b => F b ρ) σ H Q) (hz : ∀ b H1, rd K W S (F b) σ H1 Q → Z b H1) : rdT K W f σ H Z := by
  obtain ⟨ρ, ow, B, st, h⟩ := h
  refine ⟨ρ, ow, B, st, ?_⟩
  dsimp only at h
  cases e : f ρ with
  | stuck => rw [e] at h; exact h
  | exc C fs => rw [e] at h; exact h
  | ok b =>
    rw [e] at h
    intro H' s
    refine hz b H' ⟨ρ, ow, B, st.same s, ?_⟩
    dsimp only [R.bind_ok] at h
    cases e2 : F b ρ with
    | stuck => rw [e2] at h; exact h
    | exc C fs => rw [e2] at h; exact fun cls dd H2 s2 x => h cls dd H2 (s.trans s2) x
    | ok c => rw [e2] at h; exact fun v H2 os s2 r nd n => h v H2 os (s.trans s2) r nd fun a m => s.free (n a m)
theorem rd_weak {S' : List Nat} {f : En → R D} {Q : VK} (hs : ∀ i ∈ S, i ∈ S') (h : rd K W S' f σ H Q) : rd K W S f σ H Q := by
  obtain ⟨ρ, ow, B, st, h⟩ := h
  refine ⟨ρ, ow, B, st, ?_⟩
  cases e : f ρ with
  | stuck => rw [e] at h; exact h
  | exc C fs => rw [e] at h; exact h
  | ok d =>
    rw [e] at h
    exact fun v H' os s r nd n => h v H' os s (r.keep (fun a o _ z => z.imp (fun ⟨i, h1, h2⟩ => ⟨i, h1, fun q => h2 (hs i q)⟩) id) (Kept.of_same (Same.refl _) _)) nd n
end
section
variable {X : CY} {W : WX} {S Sa Sb : List Nat} {pos : Pos} {a b c e : Expr} {rest es : List Expr} {f g : En → R Bool} {fa fb : En → R D}
theorem dt_cmp {op : CmpOp} {g : D → D → Option D} {r : R2} (ho : OpR X (compareOp op) r) (hg : Fits2 (kx X) g r) (ha : DE X W Sa a fa) (hb : DE X W Sb b fb) (hm : behindInMarks op b = false) : DT X W (.Compare a [op] [b] pos) (tV (e2 g fa fb)) :=
  ⟨(pt_cmpR ho ha.pe hb.pe hm).imp fun _ _ _ h => rd2 hg (rd_bool h)⟩
/-- an expression of a bool as a test -/
theorem dt_val (h : DE X W S e fa) (he : ∀ whole, isTrue e X.env whole = (do let v ← whole; standAt e.pos; holding [v] (truthy v)) := by intro _; rfl) : DT X W e (tV fa) :=
  ⟨(pt_val h.pe he).imp fun _ _ _ h => rd_bool h⟩
theorem dw_and1 (h : DT X W a f) : DW X W (.BoolOp .And [a] pos) f := ⟨pw_and1 h.pt⟩
theorem dw_or1 (h : DT X W a f) : DW X W (.BoolOp .Or [a] pos) f := ⟨pw_or1 h.pt⟩
theorem dw_and (h : DT X W a f) (h2 : DW X W (.BoolOp .And (b :: rest) pos) g) : DW X W (.BoolOp .And (a :: b :: rest) pos) (tAndC f g) :=
  ⟨(pw_and h.pt h2.pw).imp fun _ _ _ h => rdT_bind (F := fun ρ b => if b then g ρ else .ok false) h fun b H1 q => by
    cases b with
    | true => rw [if_pos rfl]; exact q
    | false => rw [if_neg Bool.false_ne_true]; exact rdT_pure q⟩
theorem dw_or (h : DT X W a f) (h2 : DW X W (.BoolOp .Or (b :: rest) pos) g) : DW X W (.BoolOp .Or (a :: b :: rest) pos) (tOrC f g) :=
  ⟨(pw_or h.pt h2.pw).imp fun _ _ _ h => rdT_bind (F := fun ρ b => if b then .ok true else g ρ) h fun b H1 q => by
    cases b with
    | true => rw [if_pos rfl]; exact rdT_pure q
    | false => rw [if_neg Bool.false_ne_true]; exact q⟩
theorem dt_w (h : DW X W e f) : DT X W e f := ⟨h.pw.pt⟩
theorem dt_not (h : DT X W a f) : DT X W (.UnaryOp .Not a pos) (tNotC f) :=
  ⟨(pt_not h.pt).imp fun _ _ _ h => rdT_bind (F := fun _ b => .ok (!b)) h fun _ _ q => rdT_pure q⟩
/-- and, or, not as values (bools) -/
theorem de_one {op} (h : DE X W S a fa) : DE X W S (.BoolOp op [a] pos) fa := ⟨pe_one h.pe⟩
def eAnd (f g : En → R D) : En → R D := fun ρ => (f ρ).bind fun x => (asB x).bind fun b => if b then g ρ else .ok (.bl false)
def eOr (f g : En → R D) : En → R D := fun ρ => (f ρ).bind fun x => (asB x).bind fun b => if b then .ok (.bl true) else g ρ
def eNot (f : En → R D) : En → R D := fun ρ => (f ρ).bind fun x => (asB x).bind fun b => .ok (.bl (!b))
theorem rd_boolV {K : KX} {σ : L2.St} {H : Hp} {F : En → Bool → R D} {Q : VK} {Z : Bool → Hp → Prop} (h : rd K W (Sa ++ Sb) (fun ρ => (fa ρ).bind fun x => (asB x).bind fun b => F ρ b) σ H Q) (hz : ∀ b H1, rd K W Sb (fun ρ => F ρ b) σ H1 Q → Z b H1) :
    rd K W Sa fa σ H fun x H1 => ∃ c, x = .bl c ∧ Z c H1 := by
  obtain ⟨ρ, ow, B, st, h⟩ := h
  refine ⟨ρ, ow, B, st, ?_⟩
  dsimp only at h
  cases e : fa ρ with
  | stuck => rw [e] at h; exact h
  | exc C fs => rw [e] at h; exact h
  | ok d =>
    rw [e] at h
    intro v H' os s r nd n
    cases d with
    | bl b =>
      cases r
      refine ⟨b, rfl, hz b H' (rd_weak (S' := Sa ++ Sb) (fun i m => List.mem_append_right _ m) ⟨ρ, ow, B, st.same s, ?_⟩)⟩
      dsimp only [R.bind_ok, asB] at h ⊢
      cases e2 : F ρ b with
      | stuck => rw [e2] at h; exact h
      | exc C fs => rw [e2] at h; exact fun cls dd H2 s2 x => h cls dd H2 (s.trans s2) x
      | ok c => rw [e2] at h; exact fun v H2 os s2 r nd n => h v H2 os (s.trans s2) r nd fun a m => s.free (n a m)
    | non => exact h.elim
    | int i => exact h.elim
    | str i => exact h.elim
    | tup i => exact h.elim
    | lst o i => exact h.elim
    | dct o t i => exact h.elim
    | kt i => exact h.elim
    | xr _ _ => exact h.elim
    | ins o i j => exact h.elim
    | kl i => exact h.elim
theorem rd_pure {K : KX} {σ : L2.St} {H : Hp} {d : D} {v : V} {Q : VK} (hr : ∀ O, RepD K O H d v []) (h : rd K W S (fun _ => .ok d) σ H Q) : Q v H := by
  obtain ⟨ρ, ow, B, st, h⟩ := h
  exact h v H [] (Same.refl H) (hr _) List.nodup_nil (fun _ z => nomatch z)
theorem de_and (ha : DE X W Sa a fa) (hb : DE X W Sb (.BoolOp .And (b :: rest) pos) fb) : DE X W (Sa ++ Sb) (.BoolOp .And (a :: b :: rest) pos) (eAnd fa fb) :=
  ⟨(pe_and ha.pe hb.pe).imp fun _ _ _ h => rd_boolV (F := fun ρ b => if b then fb ρ else .ok (.bl false)) h fun b H1 q => by
    cases b with
    | true => rw [if_pos rfl]; exact q
    | false => rw [if_neg Bool.false_ne_true]; exact rd_pure (fun _ => .bl _) q⟩
theorem de_or (ha : DE X W Sa a fa) (hb : DE X W Sb (.BoolOp .Or (b :: rest) pos) fb) : DE X W (Sa ++ Sb) (.BoolOp .Or (a :: b :: rest) pos) (eOr fa fb) :=
  ⟨(pe_or ha.pe hb.pe).imp fun _ _ _ h => rd_boolV (F := fun ρ b => if b then .ok (.bl true) else fb ρ) h fun b H1 q => by
    cases b with
    | true => rw [if_pos rfl]; exact rd_pure (fun _ => .bl _) q
    | false => rw [if_neg Bool.false_ne_true]; exact q⟩
theorem de_not (ha : DE X W Sa a fa) : DE X W Sa (.UnaryOp .Not a pos) (eNot fa) :=
  ⟨(pe_not ha.pe).imp fun σ H Q h => rd_boolV (Sb := []) (F := fun ρ b => .ok (.bl (!b))) (by rw [List.append_nil]; exact h) fun b H1 q => rd_pure (fun _ => .bl _) q⟩
theorem de_if (hc : DT X W c f) (ha : DE X W Sa a fa) (hb : DE X W Sb b fb) : DE X W (Sa ++ Sb) (.IfExp c a b pos) (eIf f fa fb) :=
  ⟨(pe_ifExp hc.pt ha.pe hb.pe).imp fun _ _ _ h => rdT_then (F := fun b ρ => if b then fa ρ else fb ρ) h fun b H1 q => by
    cases b with
    | true => rw [if_pos rfl]; exact rd_weak (fun i m => List.mem_append_left _ m) q
    | false => rw [if_neg Bool.false_ne_true]; exact rd_weak (fun i m => List.mem_append_right _ m) q⟩
end

/-! ### what stands behind a statement -/
inductive Out where
  | nx (ρ : En) | ret (d : D) | bk (ρ : En) | ct (ρ : En) | exc (ρ : En) (C : Str) (fs : List (Str × D)) | stuck
/-- only the own parts have changed, what is own now was or is new -/
structure Ch (ow : Ow) (H : Hp) (ow' : Ow) (H' : Hp) : Prop where
  keep : ∀ a o, H a = some o → ((∀ i, a ∉ ow i) ∨ Imm o) → H' a = some o
  from' : ∀ i a, a ∈ ow' i → (∃ j, a ∈ ow j) ∨ H a = none
theorem Ch.refl (ow : Ow) (H : Hp) : Ch ow H ow H := ⟨fun _ _ e _ => e, fun i a h => .inl ⟨i, h⟩⟩
theorem Ch.trans {ow ow1 ow2 : Ow} {H H1 H2 : Hp} (x : Ch ow H ow1 H1) (y : Ch ow1 H1 ow2 H2) : Ch ow H ow2 H2 := by
  refine ⟨fun a o e h => y.keep a o (x.keep a o e h) (h.imp (fun n i m => ?_) id), fun i a m => ?_⟩
  · rcases x.from' i a m with ⟨j, q⟩ | q
    · exact n j q
    · rw [q] at e; cases e
  · rcases y.from' i a m with ⟨j, q⟩ | q
    · exact x.from' j a q
    · cases e : H a with
      | none => exact .inr rfl
      | some o =>
        by_cases hn : ∀ i, a ∉ ow i
        · rw [x.keep a o e (.inl hn)] at q; cases q
        · exact .inl (Classical.byContradiction fun z => hn fun i m => z ⟨i, m⟩)
theorem Ch.same {ow : Ow} {H H' : Hp} (e : Same H H') : Ch ow H ow H' := ⟨fun a o h _ => e a o h, fun i a h => .inl ⟨i, h⟩⟩
section
variable (K : KX) (W : WX) (B : Addr → Prop) (ow : Ow) (H : Hp)
def Aft (P : L2.St → Hp → Prop) (ρ' : En) : Prop := ∀ σ' H' ow', Stt K B ρ' σ' H' ow' → Ch ow H ow' H' → P σ' H'
def AftR (P : VK) (d : D) : Prop := ∀ v H' os, RepD K (fun a => B a ∨ a ∈ os) H' d v os → os.Nodup → (∀ a o, H a = some o → ((∀ i, a ∉ ow i) ∨ Imm o) → H' a = some o) → (∀ a ∈ os, (∃ j, a ∈ ow j) ∨ H a = none) → P v H'
def AftX (ρ' : En) (C : Str) (fs : List (Str × D)) : Prop := ∀ σ' H' ow' cls dd, Stt K B ρ' σ' H' ow' → Ch ow H ow' H' → RepX K H' C fs cls dd → W cls dd σ' H'
def Post (D : Ends) : Out → Prop
  | .nx ρ => Aft K B ow H D.nx ρ
  | .ret d => AftR K B ow H D.rt d
  | .bk ρ => Aft K B ow H D.bk ρ
  | .ct ρ => Aft K B ow H D.ct ρ
  | .exc ρ C fs => AftX K W B ow H ρ C fs
  | .stuck => False
end
def rdS (K : KX) (W : WX) (f : En → Out) : TS := fun D σ H => ∃ ρ ow B, Stt K B ρ σ H ow ∧ Post K W B ow H D (f ρ)
structure DS (X : CY) (W : WX) (st : Stmt) (f : En → Out) : Prop where
  ps : PS X st (rdS (kx X) W f)
structure DSs (X : CY) (W : WX) (st : List Stmt) (f : En → Out) : Prop where
  pss : PSs X st (rdS (kx X) W f)
section
variable {K : KX} {W : WX} {B : Addr → Prop} {ow ow1 : Ow} {H H1 : Hp} {D : Ends}
/-- later on the way -/
theorem Post.later {o : Out} (c : Ch ow H ow1 H1) (h : Post K W B ow H D o) : Post K W B ow1 H1 D o := by
  cases o with
  | nx ρ => exact fun σ' H' ow' s x => h σ' H' ow' s (c.trans x)
  | bk ρ => exact fun σ' H' ow' s x => h σ' H' ow' s (c.trans x)
  | ct ρ => exact fun σ' H' ow' s x => h σ' H' ow' s (c.trans x)
  | exc ρ C fs => exact fun σ' H' ow' cls dd s x => h σ' H' ow' cls dd s (c.trans x)
  | stuck => exact h
  | ret d =>
    intro v H' os r nd k f
    have c2 : Ch ow H (fun _ => os) H' := c.trans ⟨k, fun i a m => f a m⟩
    exact h v H' os r nd c2.keep fun a m => c2.from' 0 a m
end

/-! ### small statements -/
def sSeq (f g : En → Out) : En → Out := fun ρ => match f ρ with
  | .nx ρ' => g ρ'
  | o => o
def sNx : En → Out := .nx
def sBk : En → Out := .bk
def sCt : En → Out := .ct
def lift {α : Type} (r : R α) (ρ : En) (k : α → Out) : Out := match r with
  | .ok a => k a
  | .exc C fs => .exc ρ C fs
  | .stuck => .stuck
@[simp] theorem lift_ok {α : Type} (a : α) (ρ : En) (k : α → Out) : lift (.ok a) ρ k = k a := rfl
@[simp] theorem lift_exc {α : Type} (C fs) (ρ : En) (k : α → Out) : lift (.exc C fs : R α) ρ k = .exc ρ C fs := rfl
@[simp] theorem lift_stuck {α : Type} (ρ : En) (k : α → Out) : lift (.stuck : R α) ρ k = .stuck := rfl
def sIf (c : En → R Bool) (f g : En → Out) : En → Out := fun ρ => lift (c ρ) ρ fun b => if b then f ρ else g ρ
def sRet (f : En → R D) : En → Out := fun ρ => lift (f ρ) ρ .ret
def sRetN : En → Out := fun _ => .ret .non
def frz1 (i : Nat) (ρ : En) : En := match ρ[i]? with
  | some (some d) => ρ.set i (some d.frz)
  | _ => ρ
def frzAt (S : List Nat) (ρ : En) : En := S.foldl (fun ρ i => frz1 i ρ) ρ
/-- x = e -/
def sSet (i : Nat) (S : List Nat) (f : En → R D) : En → Out := fun ρ => lift (f ρ) ρ fun d => .nx ((if d.clean then ρ else frzAt S ρ).set i (some d))
def sDrop (f : En → R D) : En → Out := fun ρ => lift (f ρ) ρ fun _ => .nx ρ

mutual
theorem RepD.cln {K : KX} {O O' : Addr → Prop} {H : Hp} : ∀ {d : D} {v : V} {os : List Addr}, RepD K O H d v os → d.clean = true → RepD K O' H d v os
  | _, _, _, .non, _ => .non
  | _, _, _, .bl b, _ => .bl b
  | _, _, _, .int b, _ => .int b
  | _, _, _, .str b, _ => .str b
  | _, _, _, .tup h r, c => .tup h (RepL.cln r c)
  | _, _, _, .lstF h _ r, c => nomatch c
  | _, _, _, .kl h r, c => nomatch c
  | _, _, _, .kt h r, c => .kt h (RepL.cln r c)
  | _, _, _, .xr0 _ _, c => nomatch c
  | _, _, _, .xr1 _ _ _ _, c => nomatch c
  | _, _, _, .lstO h r, c => .lstO h (RepL.cln r c)
  | _, _, _, .dkF h n r, c => nomatch c
  | _, _, _, .dkO h r, c => .dkO h (RepK.cln r c)
  | _, _, _, .dtF h n r, c => nomatch c
  | _, _, _, .dtO h r, c => .dtO h (RepT.cln r c)
  | _, _, _, .insF _ h n r, c => nomatch c
  | _, _, _, .insO hc h r, c => .insO hc h (RepF.cln r c)
theorem RepL.cln {K : KX} {O O' : Addr → Prop} {H : Hp} : ∀ {d : List D} {v : List V} {os : List Addr}, RepL K O H d v os → cleanL d = true → RepL K O' H d v os
  | _, _, _, .nil, _ => .nil
  | _, _, _, .cons h r, c => .cons (RepD.cln h (Bool.and_eq_true_iff.mp c).1) (RepL.cln r (Bool.and_eq_true_iff.mp c).2)
theorem RepK.cln {K : KX} {O O' : Addr → Prop} {H : Hp} : ∀ {d : List (D × D)} {v : List (Key × V)} {os : List Addr}, RepK K O H d v os → cleanK d = true → RepK K O' H d v os
  | _, _, _, .nil, _ => .nil
  | _, _, _, .cons h r, c => .cons (RepD.cln h (Bool.and_eq_true_iff.mp c).1) (RepK.cln r (Bool.and_eq_true_iff.mp c).2)
theorem RepT.cln {K : KX} {O O' : Addr → Prop} {H : Hp} : ∀ {d : List (D × D)} {v : List (List Key × V)} {os : List Addr}, RepT K O H d v os → cleanK d = true → RepT K O' H d v os
  | _, _, _, .nil, _ => .nil
  | _, _, _, .cons h r, c => .cons (RepD.cln h (Bool.and_eq_true_iff.mp c).1) (RepT.cln r (Bool.and_eq_true_iff.mp c).2)
theorem RepF.cln {K : KX} {O O' : Addr → Prop} {H : Hp} : ∀ {d : List (Str × D)} {v : List (Str × V)} {os : List Addr}, RepF K O H d v os → cleanF d = true → RepF K O' H d v os
  | _, _, _, .nil, _ => .nil
  | _, _, _, .cons h r, c => .cons (RepD.cln h (Bool.and_eq_true_iff.mp c).1) (RepF.cln r (Bool.and_eq_true_iff.mp c).2)
end
def putO (ow : Ow) (i : Nat) (os : List Addr) : Ow := fun j => if j = i then os else ow j
def cutO (ow : Ow) (S : List Nat) : Ow := fun j => if j ∈ S then [] else ow j
section
variable {K : KX} {B : Addr → Prop} {ow : Ow} {H H1 : Hp} {ρ : En} {σ : L2.St}
theorem getElem?_set_some {ρ : En} {i j : Nat} {d d' : Option D} (h : (ρ.set i d)[j]? = some d') : (j = i ∧ d' = d ∧ i < ρ.length) ∨ (j ≠ i ∧ ρ[j]? = some d') := by
  rw [List.getElem?_set] at h
  split at h
  · rename_i e
    split at h
    · rename_i hl
      exact .inl ⟨e.symm, (Option.some.inj h).symm, hl⟩
    · cases h
  · rename_i e
    exact .inr ⟨fun z => e z.symm, h⟩
theorem Stt.frz1 (s : Stt K B ρ σ H ow) (i : Nat) : Stt K B (frz1 i ρ) σ H (cutO ow [i]) := by
  have hO : ∀ a, Oo (cutO ow [i]) B a → Oo ow B a := fun a z => z.imp (fun ⟨j, q⟩ => by
    unfold cutO at q
    split at q
    · exact nomatch q
    · exact ⟨j, q⟩) id
  have hni : ∀ a, Oo (cutO ow [i]) B a → a ∉ ow i := fun a z m => by
    rcases z with ⟨j, q⟩ | q
    · unfold cutO at q
      split at q
      · exact nomatch q
      · rename_i hj
        exact hj (by rw [s.dj j i a q m]; exact List.mem_singleton.mpr rfl)
    · exact s.bo i a m q
  have cutne : ∀ j, j ≠ i → cutO ow [i] j = ow j := fun j h => if_neg fun q => h (List.mem_singleton.mp q)
  have cuti : cutO ow [i] i = [] := if_pos (List.mem_singleton.mpr rfl)
  refine ⟨?_, fun j d h => ?_, fun j h => ?_, fun j => ?_, fun j k a h1 h2 => ?_, s.bt, fun j a h z => ?_⟩
  · unfold TL.frz1
    split
    · rw [List.length_set]; exact s.len
    · exact s.len
  · unfold TL.frz1 at h
    split at h
    · rename_i d0 e0
      rcases getElem?_set_some h with ⟨rfl, e, _⟩ | ⟨hj, e⟩
      · cases e
        obtain ⟨v, h1, r⟩ := s.rep _ _ e0
        refine ⟨v, h1, ?_⟩
        rw [cuti]
        exact r.frz fun a o q z => ⟨hO a z, hni a z⟩
      · obtain ⟨v, h1, r⟩ := s.rep _ _ e
        refine ⟨v, h1, ?_⟩
        rw [cutne j hj]
        exact r.keep (fun a o q z => hO a z) (Kept.of_same (Same.refl _) _)
    · rename_i e0
      have hj : j ≠ i := fun z => e0 d (by rw [← z]; exact h)
      obtain ⟨v, h1, r⟩ := s.rep _ _ h
      refine ⟨v, h1, ?_⟩
      rw [cutne j hj]
      exact r.keep (fun a o q z => hO a z) (Kept.of_same (Same.refl _) _)
  · by_cases hj : j = i
    · rw [hj]; exact cuti
    · rw [cutne j hj]
      refine s.dead j fun d q => h d ?_
      unfold TL.frz1
      split
      · rw [List.getElem?_set_ne (Ne.symm hj)]; exact q
      · exact q
  · unfold cutO
    split
    · exact List.nodup_nil
    · exact s.nd j
  · unfold cutO at h1 h2
    split at h1
    · exact nomatch h1
    · split at h2
      · exact nomatch h2
      · exact s.dj j k a h1 h2
  · unfold cutO at h
    split at h
    · exact nomatch h
    · exact s.bo j a h z
theorem cutO_cons (ow : Ow) (i : Nat) (S : List Nat) : cutO (cutO ow [i]) S = cutO ow (i :: S) := by
  funext j
  unfold cutO
  by_cases h1 : j ∈ S
  · rw [if_pos h1, if_pos (List.mem_cons_of_mem _ h1)]
  · rw [if_neg h1]
    by_cases h2 : j = i
    · rw [if_pos (by rw [h2]; exact List.mem_singleton.mpr rfl), if_pos (by rw [h2]; exact List.mem_cons_self)]
    · rw [if_neg (fun q => h2 (List.mem_singleton.mp q)), if_neg (fun q => (List.mem_cons.mp q).elim h2 h1)]
theorem Stt.frzAt_ : ∀ (S : List Nat) {ρ : En} {ow : Ow}, Stt K B ρ σ H ow → Stt K B (frzAt S ρ) σ H (cutO ow S)
  | [], _, _, s => s
  | i :: S, _, _, s => by
    rw [← cutO_cons]
    exact Stt.frzAt_ S (s.frz1 i)
theorem Stt.frzAt (s : Stt K B ρ σ H ow) (S : List Nat) : Stt K B (frzAt S ρ) σ H (cutO ow S) := Stt.frzAt_ S s
theorem frzAt_length (S : List Nat) : ∀ ρ : En, (frzAt S ρ).length = ρ.length := by
  induction S with
  | nil => intro ρ; rfl
  | cons i S ih =>
    intro ρ
    show (frzAt S (TL.frz1 i ρ)).length = _
    rw [ih]
    unfold TL.frz1
    split
    · rw [List.length_set]
    · rfl
theorem Ch.cut (S : List Nat) : Ch ow H (cutO ow S) H := ⟨fun _ _ e _ => e, fun i a h => by
  unfold cutO at h
  split at h
  · exact nomatch h
  · exact .inl ⟨i, h⟩⟩
/-- a tree that stands in the frame comes to a slot -/
theorem Stt.put {d : D} {v : V} {os : List Addr} {i : Nat} (s : Stt K (fun a => B a ∨ a ∈ os) ρ σ H ow) (hi : i < ρ.length) (r : RepD K (OutS [] ow B os) H d v os) (nd : os.Nodup) (hb : ∀ a ∈ os, ¬ B a) :
    Stt K B (ρ.set i (some d)) (σ.set i (some v)) H (putO ow i os) := by
  have hO : ∀ a, Oo (putO ow i os) B a → OutS [] ow B os a := fun a z => by
    rcases z with ⟨j, q⟩ | q
    · unfold putO at q
      split at q
      · exact .inr (.inr q)
      · exact .inl ⟨j, q, fun z => nomatch z⟩
    · exact .inr (.inl q)
  have hO2 : ∀ a, Oo (putO ow i os) B a → Oo ow (fun a => B a ∨ a ∈ os) a := fun a z => by
    rcases hO a z with ⟨j, q, _⟩ | q | q
    · exact .inl ⟨j, q⟩
    · exact .inr (.inl q)
    · exact .inr (.inr q)
  refine ⟨by rw [List.length_set, List.length_set]; exact s.len, fun j d' h => ?_, fun j h => ?_, fun j => ?_, fun j k a h1 h2 => ?_, fun a z => s.bt a (.inl z), fun j a h z => ?_⟩
  · rcases getElem?_set_some h with ⟨rfl, e, hl⟩ | ⟨hj, e⟩
    · cases e
      refine ⟨v, by rw [List.getElem?_set_self (by rw [← s.len]; exact hl)], ?_⟩
      rw [show putO ow j os j = os from if_pos rfl]
      exact r.keep (fun a o q z => hO a z) (Kept.of_same (Same.refl _) _)
    · obtain ⟨v', h1, r'⟩ := s.rep _ _ e
      refine ⟨v', by rw [List.getElem?_set_ne (Ne.symm hj)]; exact h1, ?_⟩
      rw [show putO ow i os j = ow j from if_neg hj]
      exact r'.keep (fun a o q z => hO2 a z) (Kept.of_same (Same.refl _) _)
  · by_cases hj : j = i
    · exact absurd (by rw [hj, List.getElem?_set_self hi]) (h d)
    · rw [show putO ow i os j = ow j from if_neg hj]
      refine s.dead j fun d' q => h d' ?_
      rw [List.getElem?_set_ne (Ne.symm hj)]; exact q
  · unfold putO
    split
    · exact nd
    · exact s.nd j
  · unfold putO at h1 h2
    split at h1
    · rename_i e1
      split at h2
      · rename_i e2; rw [e1, e2]
      · exact absurd (.inr h1) (s.bo k a h2)
    · rename_i e1
      split at h2
      · exact absurd (.inr h2) (s.bo j a h1)
      · exact s.dj j k a h1 h2
  · unfold putO at h
    split at h
    · exact hb a h z
    · exact s.bo j a h (.inl z)
/-- new parts go to the frame -/
theorem Stt.withNew {os : List Addr} (s : Stt K B ρ σ H ow) (e : Same H H1) (n : ∀ a ∈ os, H a = none) (t : ∀ a ∈ os, H1 a ≠ none) : Stt K (fun a => B a ∨ a ∈ os) ρ σ H1 ow :=
  s.grow e (fun a o q z => z.elim id fun z => by rw [n a z] at q; cases q) fun a z => z.elim (fun z q => s.bt a z (e.free q)) (t a)
/-- the value of an expression, ready to be put: S frozen if it must be -/
theorem Stt.ready {S : List Nat} {d : D} {v : V} {os : List Addr} (s : Stt K B ρ σ H ow) (e : Same H H1) (r : RepD K (OutS S ow B os) H1 d v os) (n : ∀ a ∈ os, H a = none) :
    ∃ ow1, Stt K (fun a => B a ∨ a ∈ os) (if d.clean then ρ else TL.frzAt S ρ) σ H1 ow1 ∧ RepD K (OutS [] ow1 B os) H1 d v os ∧ Ch ow H ow1 H1 := by
  have s1 := s.withNew e n r.there
  by_cases c : d.clean = true
  · rw [if_pos c]
    exact ⟨ow, s1, r.cln c, Ch.same e⟩
  · rw [if_neg c]
    refine ⟨cutO ow S, s1.frzAt S, r.keep (fun a o q z => ?_) (Kept.of_same (Same.refl _) _), (Ch.same e).trans (Ch.cut S)⟩
    rcases z with ⟨j, q, _⟩ | z
    · unfold cutO at q
      split at q
      · exact nomatch q
      · rename_i hj
        exact .inl ⟨j, q, hj⟩
    · exact .inr z
theorem Ch.put {ow ow1 : Ow} {i : Nat} {os : List Addr} (c : Ch ow H ow1 H1) (n : ∀ a ∈ os, (∃ j, a ∈ ow j) ∨ H a = none) : Ch ow H (putO ow1 i os) H1 := ⟨c.keep, fun j a h => by
  unfold putO at h
  split at h
  · exact n a h
  · exact c.from' j a h⟩
/-- an expression ahead of something -/
theorem rdS_expr {W : WX} {S : List Nat} {f : En → R D} {k : En → D → Out} {Ds : Ends} {Z : VK} (h : rdS K W (fun ρ => lift (f ρ) ρ (k ρ)) Ds σ H)
    (hz : ∀ ρ ow B d v os H1, Stt K B ρ σ H ow → Same H H1 → RepD K (OutS S ow B os) H1 d v os → os.Nodup → (∀ a ∈ os, H a = none) → Post K W B ow H Ds (k ρ d) → Z v H1) : rd K W S f σ H Z := by
  obtain ⟨ρ, ow, B, st, h⟩ := h
  refine ⟨ρ, ow, B, st, ?_⟩
  dsimp only at h
  cases e : f ρ with
  | stuck => rw [e] at h; exact h
  | exc C fs => rw [e] at h; exact fun cls dd H' s x => h σ H' ow cls dd (st.same s) (Ch.same s) x
  | ok d =>
    rw [e] at h
    exact fun v H' os s r nd n => hz ρ ow B d v os H' st s r nd n h
end
section
variable {X : CY} {W : WX} {S : List Nat} {pos pos' : Pos} {e c : Expr} {f g : En → Out} {fe : En → R D} {fc : En → R Bool} {st : Stmt} {rest a b : List Stmt}
theorem dss_nil : DSs X W [] sNx := ⟨pss_nil.imp fun D σ H ⟨ρ, ow, B, s, h⟩ => h σ H ow s (Ch.refl _ _)⟩
theorem dss_cons (h1 : DS X W st f) (h2 : DSs X W rest g) : DSs X W (st :: rest) (sSeq f g) :=
  ⟨(pss_cons h1.ps h2.pss).imp fun D σ H ⟨ρ, ow, B, s, h⟩ => by
    refine ⟨ρ, ow, B, s, ?_⟩
    unfold sSeq at h
    cases e : f ρ with
    | nx ρ' =>
      rw [e] at h
      exact fun σ' H' ow' s' c => ⟨ρ', ow', B, s', h.later c⟩
    | ret d => rw [e] at h; exact h
    | bk ρ' => rw [e] at h; exact h
    | ct ρ' => rw [e] at h; exact h
    | exc ρ' C fs => rw [e] at h; exact h
    | stuck => rw [e] at h; exact h⟩
theorem dss_one (h1 : DS X W st f) : DSs X W [st] f := ⟨pss_one h1.ps⟩
theorem ds_pass : DS X W (.Pass pos) sNx := ⟨ps_pass.imp fun D σ H ⟨ρ, ow, B, s, h⟩ => h σ H ow s (Ch.refl _ _)⟩
theorem ds_break : DS X W (.Break pos) sBk := ⟨ps_break.imp fun D σ H ⟨ρ, ow, B, s, h⟩ => h σ H ow s (Ch.refl _ _)⟩
theorem ds_cont : DS X W (.Continue pos) sCt := ⟨ps_continue.imp fun D σ H ⟨ρ, ow, B, s, h⟩ => h σ H ow s (Ch.refl _ _)⟩
theorem ds_if (hc : DT X W c fc) (ha : DSs X W a f) (hb : DSs X W b g) : DS X W (.If c a b pos) (sIf fc f g) :=
  ⟨(ps_if hc.pt ha.pss hb.pss).imp fun D σ H ⟨ρ, ow, B, s, h⟩ => by
    refine ⟨ρ, ow, B, s, ?_⟩
    unfold sIf at h
    cases e : fc ρ with
    | stuck => rw [e] at h; exact h
    | exc C fs => rw [e] at h; exact fun cls dd H' q x => h σ H' ow cls dd (s.same q) (Ch.same q) x
    | ok t =>
      rw [e] at h
      intro H' q
      cases t with
      | true =>
        rw [if_pos rfl]
        exact ⟨ρ, ow, B, s.same q, Post.later (Ch.same q) h⟩
      | false =>
        rw [if_neg Bool.false_ne_true]
        exact ⟨ρ, ow, B, s.same q, Post.later (Ch.same q) h⟩⟩
theorem ds_ret (he : DE X W S e fe) : DS X W (.Return (some e) pos) (sRet fe) :=
  ⟨(ps_ret he.pe).imp fun D σ H h => rdS_expr (k := fun _ d => .ret d) h fun ρ ow B d v os H1 s q r nd n p =>
    p v H1 os (r.keep (fun a o _ z => z.elim (fun z => .inr (.inl z)) fun z => .inr (.inr z)) (Kept.of_same (Same.refl _) _)) nd (fun a o h _ => q a o h) fun a m => .inr (n a m)⟩
theorem ds_retN : DS X W (.Return none pos) sRetN := ⟨ps_retN.imp fun D σ H ⟨ρ, ow, B, s, h⟩ => h .non H [] .non List.nodup_nil (fun a o e _ => e) fun _ z => nomatch z⟩
theorem ds_drop (he : DE X W S e fe) (hs : swapsWith e none pos.line X.env = pure false := by rfl) : DS X W (.Expr e pos) (sDrop fe) :=
  ⟨(ps_expr he.pe hs).imp fun D σ H h => rdS_expr (k := fun ρ d => .nx ρ) h fun ρ ow B d v os H1 s q r nd n p => p σ H1 ow (s.same q) (Ch.same q)⟩
theorem ds_set {i : Nat} {x : Str} (hN : X.N.Nodup) (hi : X.N[i]? = some x) (hx : Loc X.env.scope x) (he : DE X W S e fe) (hs : swapsWith e (some (.Name x pos')) pos.line X.env = pure false := by rfl)
    (hf : X.fn x = true ∨ X.env.scope.names.lookup x = some .local := by first | exact .inl rfl | exact .inr rfl | assumption) : DS X W (.Assign [.Name x pos'] e pos) (sSet i S fe) :=
  ⟨⟨fun pins s σ H D I h => (ps_set hN hi hx he.pe hs hf).run pins s σ H D I (rdS_expr (k := fun ρ d => .nx ((if d.clean then ρ else frzAt S ρ).set i (some d))) h fun ρ ow B d v os H1 s q r nd n p => by
    obtain ⟨ow1, s1, r1, c1⟩ := s.ready q r n
    refine p _ H1 (putO ow1 i os) (s1.put ?_ r1 nd fun a m z => ?_) (c1.put fun a m => .inr (n a m))
    · rw [s1.len, I.len]
      exact (List.getElem?_eq_some_iff.mp hi).1
    · exact s.bt a z (n a m))⟩⟩
end
end TL
/-! T4: targets, loops, comprehensions over trees -/
namespace TL
open PySem PySem.Spec PyProof.Rows L2

/-! ### targets -/
abbrev FromT (ow : Ow) (os : List Addr) (ow' : Ow) : Prop := ∀ i a, a ∈ ow' i → (∃ j, a ∈ ow j) ∨ a ∈ os
/-- slots but those of T stay -/
def Stay (T : List Nat) (σ σ' : L2.St) : Prop := σ'.length = σ.length ∧ ∀ j, j ∉ T → σ'[j]? = σ[j]?
theorem Stay.refl (T : List Nat) (σ : L2.St) : Stay T σ σ := ⟨rfl, fun _ _ => rfl⟩
theorem Stay.trans {T T' : List Nat} {σ σ1 σ2 : L2.St} (a : Stay T σ σ1) (b : Stay T' σ1 σ2) : Stay (T ++ T') σ σ2 :=
  ⟨b.1.trans a.1, fun j h => (b.2 j fun q => h (List.mem_append_right _ q)).trans (a.2 j fun q => h (List.mem_append_left _ q))⟩
def rdG (K : KX) (T : List Nat) (g : D → En → Option En) : TG := fun v σ H Q => ∃ ρ ow B d os, Stt K (fun a => B a ∨ a ∈ os) ρ σ H ow ∧ RepD K (OutS [] ow B os) H d v os ∧ os.Nodup ∧ (∀ a ∈ os, ¬ B a) ∧
  match g d ρ with
  | some ρ' => ∀ σ' ow', Stt K B ρ' σ' H ow' → FromT ow os ow' → Stay T σ σ' → Q σ' H
  | none => False
def rdGs (K : KX) (T : List Nat) (g : List D → En → Option En) : TGs := fun vs σ H Q => ∃ ρ ow B ds os, Stt K (fun a => B a ∨ a ∈ os) ρ σ H ow ∧ RepL K (OutS [] ow B os) H ds vs os ∧ os.Nodup ∧ (∀ a ∈ os, ¬ B a) ∧
  match g ds ρ with
  | some ρ' => ∀ σ' ow', Stt K B ρ' σ' H ow' → FromT ow os ow' → Stay T σ σ' → Q σ' H
  | none => False
structure DG (X : CY) (T : List Nat) (tg : Expr) (g : D → En → Option En) : Prop where
  pg : PG X tg (rdG (kx X) T g)
structure DGs (X : CY) (T : List Nat) (tg : List Expr) (g : List D → En → Option En) : Prop where
  pgs : PGs X tg (rdGs (kx X) T g)
theorem _root_.L2.PG.imp {X : Cx} {e : Expr} {t t' : TG} (h : PG X e t) (m : ∀ v σ H Q, t' v σ H Q → t v σ H Q) : PG X e t' := ⟨fun pins s σ H v u Q I r q => h.run pins s σ H v u Q I r (m v σ H Q q)⟩
theorem _root_.L2.PGs.imp {X : Cx} {e : List Expr} {t t' : TGs} (h : PGs X e t) (m : ∀ v σ H Q, t' v σ H Q → t v σ H Q) : PGs X e t' := ⟨fun pins s σ H v u Q I r q => h.run pins s σ H v u Q I r (m v σ H Q q)⟩
def gSet (i : Nat) : D → En → Option En := fun d ρ => if i < ρ.length then some (ρ.set i (some d)) else none
def gTupD (n : Nat) (g : List D → En → Option En) : D → En → Option En := fun d ρ => match d with
  | .tup xs => if xs.length = n then g xs ρ else none
  | .kt xs => if xs.length = n then g xs ρ else none
  | _ => none
def gLstD (n : Nat) (g : List D → En → Option En) : D → En → Option En := fun d ρ => match d with
  | .lst _ xs => if xs.length = n then g (frzL xs) ρ else none
  | _ => none
def gsNil : List D → En → Option En := fun ds ρ => match ds with
  | [] => some ρ
  | _ => none
def gsCons (g : D → En → Option En) (h : List D → En → Option En) : List D → En → Option En := fun ds ρ => match ds with
  | d :: r => (g d ρ).bind (h r)
  | [] => none
theorem Stt.swap {K : KX} {B B' : Addr → Prop} {ρ : En} {σ : L2.St} {H : Hp} {ow : Ow} (s : Stt K B ρ σ H ow) (h : ∀ a, B' a → B a) : Stt K B' ρ σ H ow :=
  s.grow (Same.refl H) (fun a _ _ z => h a z) fun a z => s.bt a (h a z)
theorem RepL.length {K : KX} {O : Addr → Prop} {H : Hp} : ∀ {xs : List D} {vs : List V} {os : List Addr}, RepL K O H xs vs os → xs.length = vs.length
  | _, _, _, .nil => rfl
  | _, _, _, .cons _ r => congrArg (· + 1) (RepL.length r)
section
variable {X : CY} {T T' : List Nat} {pos : Pos} {e : Expr} {es : List Expr} {g : D → En → Option En} {gs : List D → En → Option En}
theorem dg_name {i : Nat} {x : Str} (hN : X.N.Nodup) (hi : X.N[i]? = some x) (hx : Loc X.env.scope x) (hf : X.fn x = true ∨ X.env.scope.names.lookup x = some .local := by first | exact .inl rfl | exact .inr rfl | assumption) : DG X [i] (.Name x pos) (gSet i) :=
  ⟨(pg_name hN hi hx hf).imp fun v σ H Q ⟨ρ, ow, B, d, os, s, r, nd, hb, h⟩ => by
    unfold gSet at h
    by_cases hl : i < ρ.length
    · rw [if_pos hl] at h
      refine h _ (putO ow i os) (s.put hl r nd hb) (fun j a m => ?_) ⟨List.length_set, fun j hj => List.getElem?_set_ne fun z => hj (List.mem_singleton.mpr z.symm)⟩
      unfold putO at m
      split at m
      · exact .inr m
      · exact .inl ⟨j, m⟩
    · rw [if_neg hl] at h; exact h.elim⟩
theorem dgs_nil : DGs X [] [] gsNil := ⟨pgs_nil.imp fun vs σ H Q ⟨ρ, ow, B, ds, os, s, r, nd, hb, h⟩ => by
  cases r with
  | nil => exact ⟨rfl, h σ ow (s.swap fun a z => .inl z) (fun i a m => .inl ⟨i, m⟩) (Stay.refl _ _)⟩
  | cons _ _ => exact h.elim⟩
theorem dgs_cons (h1 : DG X T e g) (h2 : DGs X T' es gs) (hs : (assignEach (e :: es) X.env).map (·.2) = assign e X.env :: (assignEach es X.env).map (·.2) := by rfl) : DGs X (T ++ T') (e :: es) (gsCons g gs) :=
  ⟨(pgs_cons h1.pg h2.pgs hs).imp fun vs σ H Q ⟨ρ, ow, B, ds, os, s, r, nd, hb, h⟩ => by
    cases r with
    | nil => exact h.elim
    | @cons d v ds vs o1 o2 r1 r2 =>
      unfold gsCons at h
      dsimp only at h
      obtain ⟨n1, n2, n12⟩ := List.nodup_append.mp nd
      refine ⟨v, vs, rfl, ρ, ow, fun a => B a ∨ a ∈ o2, d, o1, s.swap fun a z => ?_, r1.keep (fun a o _ z => ?_) (Kept.of_same (Same.refl _) _), n1, fun a m z => ?_, ?_⟩
      · rcases z with (z | z) | z
        · exact .inl z
        · exact .inr (List.mem_append_right _ z)
        · exact .inr (List.mem_append_left _ z)
      · rcases z with z | (z | z) | z
        · exact .inl z
        · exact .inr (.inl z)
        · exact .inr (.inr (List.mem_append_right _ z))
        · exact .inr (.inr (List.mem_append_left _ z))
      · rcases z with z | z
        · exact hb a (List.mem_append_left _ m) z
        · exact n12 a m a z rfl
      · cases eg : g d ρ with
        | none => rw [eg] at h; exact h
        | some ρ1 =>
          rw [eg] at h
          intro σ1 ow1 s1 c1 y1
          have hO : ∀ a o, H a = some o → OutS [] ow1 B o2 a → OutS [] ow B (o1 ++ o2) a := fun a o e z => by
            rcases z with ⟨i, z, _⟩ | z | z
            · rcases c1 i a z with ⟨j, q⟩ | q
              · exact .inl ⟨j, q, fun q => nomatch q⟩
              · exact .inr (.inr (List.mem_append_left _ q))
            · exact .inr (.inl z)
            · exact .inr (.inr (List.mem_append_right _ z))
          refine ⟨ρ1, ow1, B, ds, o2, s1, r2.keep hO (Kept.of_same (Same.refl _) _), n2, fun a m => hb a (List.mem_append_right _ m), ?_⟩
          dsimp only [Option.bind_some] at h
          cases eg2 : gs ds ρ1 with
          | none => rw [eg2] at h; exact h
          | some ρ2 =>
            rw [eg2] at h
            intro σ2 ow2 s2 c2 y2
            refine h σ2 ow2 s2 (fun i a m => ?_) (y1.trans y2)
            rcases c2 i a m with ⟨j, q⟩ | q
            · exact (c1 j a q).imp id (List.mem_append_left _)
            · exact .inr (List.mem_append_right _ q)⟩
theorem dg_tup {k n : Nat} (hc : X.calm = true) (h : DGs X T es gs) (hn : (assignEach es X.env).length = n := by rfl) (hst : (assignEach es X.env).findIdx? (·.1) = none := by rfl) : DG X T (.Tuple es k pos) (gTupD n gs) :=
  ⟨(pg_tup hc h.pgs hn hst).imp fun v σ H Q ⟨ρ, ow, B, d, os, s, r, nd, hb, h⟩ => by
    unfold gTupD at h
    cases r with
    | @tup a vs xs _ hh rl =>
      dsimp only at h
      by_cases hl : xs.length = n
      · rw [if_pos hl] at h
        exact ⟨a, vs, rfl, .inl (.inl hh), by rw [← rl.length, hl], ρ, ow, B, xs, os, s, rl, nd, hb, h⟩
      · rw [if_neg hl] at h; exact h.elim
    | @kt a vs xs hh rl =>
      dsimp only at h
      by_cases hl : xs.length = n
      · rw [if_pos hl] at h
        exact ⟨a, vs, rfl, .inr hh, by rw [← rl.length, hl], ρ, ow, B, xs, [], s, rl, nd, hb, h⟩
      · rw [if_neg hl] at h; exact h.elim
    | _ => exact h.elim⟩
/-- a list taken apart -/
theorem dg_lst {k n : Nat} (hc : X.calm = true) (h : DGs X T es gs) (hn : (assignEach es X.env).length = n := by rfl) (hst : (assignEach es X.env).findIdx? (·.1) = none := by rfl) : DG X T (.Tuple es k pos) (gLstD n gs) :=
  ⟨(pg_lst hc h.pgs hn hst).imp fun v σ H Q ⟨ρ, ow, B, d, os, s, r, nd, hb, h⟩ => by
    have hO : ∀ a o, H a = some o → OutS [] ow B [] a → OutS [] ow B os a ∧ a ∉ os := fun a o e z => by
      rcases z with ⟨i, z, q⟩ | z | z
      · exact ⟨.inl ⟨i, z, q⟩, fun m => s.bo i a z (.inr m)⟩
      · exact ⟨.inr (.inl z), fun m => hb a m z⟩
      · exact nomatch z
    have r' := r.frz hO
    unfold gLstD at h
    cases d with
    | lst o xs =>
      have r'' : RepD (kx X) (OutS [] ow B []) H (.lst false (frzL xs)) v [] := r'
      cases r'' with
      | @lstF a vs _ hh _ rl =>
        dsimp only at h
        by_cases hl : xs.length = n
        · rw [if_pos hl] at h
          have hlf : (frzL xs).length = xs.length := by
            clear h rl hh r r' hl
            induction xs with
            | nil => rfl
            | cons x xs ih => exact congrArg (· + 1) ih
          refine ⟨a, vs, rfl, .inl hh, by rw [← rl.length, hlf, hl], ρ, ow, B, frzL xs, [], s.swap (fun a z => z.elim .inl fun z => nomatch z), rl, List.nodup_nil, (fun _ z => nomatch z), ?_⟩
          cases eg : gs (frzL xs) ρ with
          | none => rw [eg] at h; exact h
          | some ρ1 => rw [eg] at h; exact fun σ1 ow1 s1 c1 y1 => h σ1 ow1 s1 (fun i a m => (c1 i a m).imp id fun z => nomatch z) y1
        · rw [if_neg hl] at h; exact h.elim
    | non => exact h.elim
    | bl b => exact h.elim
    | int i => exact h.elim
    | str i => exact h.elim
    | tup i => exact h.elim
    | dct o t i => exact h.elim
    | ins o i j => exact h.elim
    | kt i => exact h.elim
    | xr _ _ => exact h.elim
    | kl i => exact h.elim⟩
end
theorem RepL.get {K : KX} {O : Addr → Prop} {H : Hp} : ∀ {xs : List D} {vs : List V} {i : Nat} {d : D}, RepL K O H xs vs [] → xs[i]? = some d → ∃ v, vs[i]? = some v ∧ RepD K O H d v [] := by
  intro xs
  induction xs with
  | nil => intro vs i d r h; simp at h
  | cons x xs ih =>
    intro vs i d r h
    generalize he : ([] : List Addr) = os at r
    cases r with
    | @cons _ v _ vs' o1 o2 r1 r2 =>
      obtain ⟨e1, e2⟩ := List.append_eq_nil_iff.mp he.symm
      subst e1 e2
      cases i with
      | zero => simp at h; subst h; exact ⟨v, rfl, r1⟩
      | succ i =>
        have q := ih r2 (i := i) (d := d) (by simpa using h)
        simpa using q

/-! ### target = value -/
def sAsg (S : List Nat) (g : D → En → Option En) (f : En → R D) : En → Out := fun ρ => lift (f ρ) ρ fun d => match g d (if d.clean then ρ else frzAt S ρ) with
  | some ρ' => .nx ρ'
  | none => .stuck
section
variable {X : CY} {W : WX} {S T : List Nat} {pos : Pos} {e tg : Expr} {g : D → En → Option En} {fe : En → R D}
theorem ds_asg (he : DE X W S e fe) (hg : DG X T tg g) (hs : swapsWithSole [tg] e pos.line X.env = pure false := by rfl) (hw : swappedStores [tg] e X.env = pure none := by rfl)
    (h1 : (assignEach [tg] X.env).map (·.2) = [assign tg X.env] := by rfl) : DS X W (.Assign [tg] e pos) (sAsg S g fe) :=
  ⟨(ps_asg he.pe hg.pg hs hw h1).imp fun D σ H h => rdS_expr (k := fun ρ d => match g d (if d.clean then ρ else frzAt S ρ) with | some ρ' => .nx ρ' | none => .stuck) h fun ρ ow B d v os H1 s q r nd n p => by
    obtain ⟨ow1, s1, r1, c1⟩ := s.ready q r n
    refine ⟨_, ow1, B, d, os, s1, r1, nd, fun a m z => s.bt a z (n a m), ?_⟩
    cases eg : g d (if d.clean then ρ else frzAt S ρ) with
    | none => rw [eg] at p; exact p
    | some ρ' =>
      rw [eg] at p
      intro σ' ow' s' c' _
      refine p σ' H1 ow' s' ⟨c1.keep, fun i a m => ?_⟩
      rcases c' i a m with ⟨j, q⟩ | q
      · exact c1.from' j a q
      · exact .inr (n a q)⟩
end

/-! ### what is walked -/
def ItOk (K : KX) (O : Addr → Prop) (J : It) (H : Hp) (ds : List D) : Prop := ∀ H2, Kept O H H2 [] → ∀ i,
  (∀ d, ds[i]? = some d → J.go i H2 ∧ ∀ x H3, J.yld i H2 x H3 → Same H2 H3 ∧ ∀ O' : Addr → Prop, (∀ a o, H a = some o → O' a → O a) → RepD K O' H3 d x []) ∧ (ds.length ≤ i → J.stop i H2)
def rdI (K : KX) (W : WX) (S : List Nat) (f : En → R (List D)) : TI := fun σ H R => ∃ ρ ow B, Stt K B ρ σ H ow ∧ match f ρ with
  | .ok ds => ∀ J H', Same H H' → ItOk K (OutS S ow B []) J H' ds → ds.length ≤ sizeLine → R J H'
  | .exc C fs => rdEx K W σ H C fs
  | .stuck => False
structure DI (X : CY) (W : WX) (S : List Nat) (tg iter : Expr) (f : En → R (List D)) : Prop where
  pi : PI X tg iter (rdI (kx X) W S f)
theorem _root_.L2.PI.imp {X : Cx} {tg e : Expr} {t t' : TI} (h : PI X tg e t) (m : ∀ σ H Q, t' σ H Q → t σ H Q) : PI X tg e t' := ⟨fun pins s σ H Q I q => h.run pins s σ H Q I (m σ H Q q)⟩
/-- a list or a tuple -/
def seqItems : D → R (List D)
  | .lst _ xs => .ok (frzL xs)
  | .tup xs => .ok (frzL xs)
  | .kl xs => .ok (frzL xs)
  | .kt xs => .ok (frzL xs)
  | _ => .stuck
def iSeq (f : En → R D) : En → R (List D) := fun ρ => (f ρ).bind seqItems
section
variable {X : Cx} {tg l : Expr} {tl : TE}
theorem pi_seq (hl : PE X l tl) : PI X tg l (fun σ H R => tl σ H fun x H1 => ∃ a, x = .ref a ∧ (((∃ xs, SqL X.K H1 a xs ∧ (xs.length ≤ sizeLine → R (Itl X.K a) H1))) ∨ ((∃ xs, SqT X.K H1 a xs ∧ (xs.length ≤ sizeLine → R (Itt X.K a) H1))))) :=
  ⟨fun pins s σ H R I h => thn (hl.run pins s σ H _ I h) fun v t ⟨x, H1, J, rx, a, ex, c⟩ => by
    subst ex
    cases rx
    rcases c with ⟨xs, q, k⟩ | ⟨xs, q, k⟩
    · obtain ⟨us, _, pl, z⟩ := J.list q
      exact wpAny_pyIter_list pl.isList (pi_one (tk := t.toks) J _ (turn_list a _) ⟨_, Heap.get?_push_size _ rfl, rfl, rfl⟩ (k z))
    · obtain ⟨us, _, pt, z⟩ := J.tuple q
      exact wpAny_pyIter_tuple (items := us.toArray) pt (pi_one (tk := t.toks) J _ (turn_tuple a _) ⟨_, Heap.get?_push_size _ rfl, rfl, rfl⟩ (k z))⟩
end
theorem Kept.tup' {O : Addr → Prop} {H H' : Hp} {os : List Addr} (k : Kept O H H' os) {a : Addr} {xs : List V} (h : H a = some (.tup xs)) : H' a = some (.tup xs) := k a _ h (.inr (.inr trivial))
section
variable {X : CY} {W : WX} {S : List Nat} {tg l : Expr} {fe : En → R D}
theorem it_list {K : KX} {O : Addr → Prop} {H : Hp} {a : Addr} {vs : List V} {xs : List D} (h : (Rd H a (.lst vs) ∧ ¬ O a) ∨ KLs K.fr a vs) (r : RepL K O H xs vs []) : ItOk K O (Itl K.fr a) H xs := by
  intro H2 k i
  have hq : SqL K.fr H2 a vs := h.imp (fun q => k.rd q.2 q.1) id
  refine ⟨fun d hd => ?_, fun hi => ⟨vs, hq, by rw [← r.length]; exact hi⟩⟩
  obtain ⟨v, hv, rv⟩ := r.get hd
  refine ⟨⟨vs, v, hq, hv⟩, fun x H3 y => ?_⟩
  obtain ⟨e, y⟩ := y
  subst e
  have ex : x = v := Option.some.inj ((y vs hq).symm.trans hv)
  subst ex
  exact ⟨Same.refl _, fun O' hO => rv.keep hO k⟩
theorem it_tup {K : KX} {O : Addr → Prop} {H : Hp} {a : Addr} {vs : List V} {xs : List D} (h : H a = some (.tup vs) ∨ KTp K.fr a vs) (r : RepL K O H xs vs []) : ItOk K O (Itt K.fr a) H xs := by
  intro H2 k i
  have hq : SqT K.fr H2 a vs := h.imp (fun q => .inl (k.tup' q)) id
  refine ⟨fun d hd => ?_, fun hi => ⟨vs, hq, by rw [← r.length]; exact hi⟩⟩
  obtain ⟨v, hv, rv⟩ := r.get hd
  refine ⟨⟨vs, v, hq, hv⟩, fun x H3 y => ?_⟩
  obtain ⟨e, y⟩ := y
  subst e
  have ex : x = v := Option.some.inj ((y vs hq).symm.trans hv)
  subst ex
  exact ⟨Same.refl _, fun O' hO => rv.keep hO k⟩
theorem di_seq (he : DE X W S l fe) : DI X W S tg l (iSeq fe) :=
  ⟨(pi_seq he.pe).imp fun σ H R ⟨ρ, ow, B, s, h⟩ => by
    refine ⟨ρ, ow, B, s, ?_⟩
    unfold iSeq at h
    cases e : fe ρ with
    | stuck => rw [e] at h; exact h
    | exc C fs => rw [e] at h; exact h
    | ok d =>
      rw [e] at h
      intro v H' os q r nd n
      have r' := r.frz (O' := OutS S ow B []) fun a o e z => ⟨z.imp id (fun z => z.imp id fun z => nomatch z), fun m => by
        rcases z with ⟨i, z, _⟩ | z | z
        · exact s.there z (n a m)
        · exact s.bt a z (n a m)
        · exact nomatch z⟩
      cases d with
      | lst o xs =>
        have r'' : RepD (kx X) (OutS S ow B []) H' (.lst false (frzL xs)) v [] := r'
        cases r'' with
        | lstF hh n0 rl => exact ⟨_, rfl, .inl ⟨_, .inl hh, fun hz => h _ H' q (it_list (.inl ⟨hh, n0⟩) rl) (by rw [rl.length]; exact hz)⟩⟩
      | kl xs =>
        have r'' : RepD (kx X) (OutS S ow B []) H' (.kl (frzL xs)) v [] := r'
        cases r'' with
        | kl hh rl => exact ⟨_, rfl, .inl ⟨_, hh.imp (fun q => q.1) id, fun hz => h _ H' q (it_list hh rl) (by rw [rl.length]; exact hz)⟩⟩
      | tup xs =>
        have r'' : RepD (kx X) (OutS S ow B []) H' (.tup (frzL xs)) v [] := r'
        cases r'' with
        | tup hh rl => exact ⟨_, rfl, .inr ⟨_, .inl (.inl hh), fun hz => h _ H' q (it_tup (.inl hh) rl) (by rw [rl.length]; exact hz)⟩⟩
      | kt xs =>
        have r'' : RepD (kx X) (OutS S ow B []) H' (.kt (frzL xs)) v [] := r'
        cases r'' with
        | kt hh rl => exact ⟨_, rfl, .inr ⟨_, .inr hh, fun hz => h _ H' q (it_tup (.inr hh) rl) (by rw [rl.length]; exact hz)⟩⟩
      | non => exact h.elim
      | xr _ _ => exact h.elim
      | bl b => exact h.elim
      | int i => exact h.elim
      | str i => exact h.elim
      | dct o t i => exact h.elim
      | ins o i j => exact h.elim⟩
end
/-- range -/
def upto (lo : Int) (n : Nat) : List D := (List.range n).map fun (k : Nat) => D.int (lo + k)
def iR1 (f : En → R (List D)) : En → R (List D) := fun ρ => (f ρ).bind fun ds => match ds with
  | [.int j] => if -(2 ^ 62) ≤ j ∧ j ≤ 2 ^ 24 then .ok (upto 0 j.toNat) else .stuck
  | _ => .stuck
def iR2 (f : En → R (List D)) : En → R (List D) := fun ρ => (f ρ).bind fun ds => match ds with
  | [.int i, .int j] => if -(2 ^ 23) ≤ i ∧ i ≤ 2 ^ 23 ∧ -(2 ^ 23) ≤ j ∧ j ≤ 2 ^ 23 then .ok (upto i (j - i).toNat) else .stuck
  | _ => .stuck
theorem it_range {K : KX} {O : Addr → Prop} {H : Hp} (lo : Int) (n : Nat) : ItOk K O (Itr lo n) H (upto lo n) := by
  intro H2 k i
  refine ⟨fun d hd => ?_, fun hi => ?_⟩
  · unfold upto at hd
    rw [List.getElem?_map] at hd
    obtain ⟨j, hj, e⟩ := Option.map_eq_some_iff.mp hd
    obtain ⟨hl, e2⟩ := List.getElem?_eq_some_iff.mp hj
    rw [List.length_range] at hl
    rw [List.getElem_range] at e2
    subst e2 e
    refine ⟨hl, fun x H3 y => ?_⟩
    obtain ⟨rfl, rfl⟩ := y
    exact ⟨Same.refl _, fun O' _ => .int _⟩
  · unfold upto at hi
    rw [List.length_map, List.length_range] at hi
    exact hi
section
variable {X : CY} {W : WX} {S : List Nat} {tg a b : Expr} {p pos : Pos} {fa : En → R (List D)}
theorem rdI_args {K : KX} {σ : L2.St} {H : Hp} {F : List D → R (List D)} {R : It → Hp → Prop} {Z : List V → Hp → Prop} (h : rdI K W S (fun ρ => (fa ρ).bind F) σ H R)
    (hz : ∀ ρ ow B ds vs os H1, Stt K B ρ σ H ow → Same H H1 → RepL K (OutS S ow B os) H1 ds vs os → (∀ a ∈ os, H a = none) → (match F ds with
      | .ok ds => ∀ J H', Same H H' → ItOk K (OutS S ow B []) J H' ds → ds.length ≤ sizeLine → R J H'
      | .exc C fs => rdEx K W σ H C fs
      | .stuck => False) → Z vs H1) : rdA K W S fa σ H Z := by
  obtain ⟨ρ, ow, B, s, h⟩ := h
  refine ⟨ρ, ow, B, s, ?_⟩
  dsimp only at h
  cases e : fa ρ with
  | stuck => rw [e] at h; exact h
  | exc C fs => rw [e] at h; exact h
  | ok ds =>
    rw [e] at h
    exact fun vs H1 os q r nd n => hz ρ ow B ds vs os H1 s q r n h
theorem di_range1 (hg : Gl X "range") (hm : X.mg "range" = none) (ha : DA X W S [a] fa) (hs : starEach [a] X.env = [(false, eval a X.env)] := by rfl) : DI X W S tg (.Call (.Name "range" p) [a] [] pos) (iR1 fa) :=
  ⟨(pi_range1 hg hm ha.pa hs).imp fun σ H R h => rdI_args h fun ρ ow B ds vs os H1 s q r n h => by
    cases ds with
    | nil => exact h.elim
    | cons d ds =>
      cases ds with
      | cons _ _ => cases d <;> exact h.elim
      | nil =>
        cases d with
        | int j =>
          cases r with
          | cons r1 r2 =>
            cases r1
            cases r2
            dsimp only at h
            by_cases hb : -(2 ^ 62) ≤ j ∧ j ≤ 2 ^ 24
            · rw [if_pos hb] at h
              exact ⟨j, rfl, hb.1, by have := hb.2; omega, h _ H1 q (it_range 0 _) (by unfold upto; rw [List.length_map, List.length_range, sizeLine_eq]; have := hb.2; omega)⟩
            · rw [if_neg hb] at h; exact h.elim
        | _ => exact h.elim⟩
theorem di_range2 (hg : Gl X "range") (hm : X.mg "range" = none) (ha : DA X W S [a, b] fa) (hs : starEach [a, b] X.env = [(false, eval a X.env), (false, eval b X.env)] := by rfl) (hs2 : starEach [b] X.env = [(false, eval b X.env)] := by rfl) : DI X W S tg (.Call (.Name "range" p) [a, b] [] pos) (iR2 fa) :=
  ⟨(pi_range2 hg hm ha.pa hs hs2).imp fun σ H R h => rdI_args h fun ρ ow B ds vs os H1 s q r n h => by
    match ds, r, h with
    | [.int i, .int j], r, h =>
      cases r with
      | cons r1 r2 =>
        cases r2 with
        | cons r2 r3 =>
          cases r1
          cases r2
          cases r3
          dsimp only at h
          by_cases hb : -(2 ^ 23) ≤ i ∧ i ≤ 2 ^ 23 ∧ -(2 ^ 23) ≤ j ∧ j ≤ 2 ^ 23
          · rw [if_pos hb] at h
            exact ⟨i, j, rfl, ⟨by omega, by omega, by omega, by omega⟩, h _ H1 q (it_range i _) (by unfold upto; rw [List.length_map, List.length_range, sizeLine_eq]; omega)⟩
          · rw [if_neg hb] at h; exact h.elim⟩
end

/-! ### for -/
def loopD (g : D → En → Option En) (fb : En → Out) : List D → En → Out
  | [], ρ => .nx ρ
  | d :: r, ρ => match g d ρ with
    | none => .stuck
    | some ρ1 => match fb ρ1 with
      | .nx ρ2 => loopD g fb r ρ2
      | .ct ρ2 => loopD g fb r ρ2
      | .bk ρ2 => .nx ρ2
      | o => o
def sFor (S : List Nat) (fi : En → R (List D)) (g : D → En → Option En) (fb : En → Out) : En → Out := fun ρ => lift (fi ρ) ρ fun ds => loopD g fb ds (frzAt S ρ)
section
variable {X : CY} {W : WX} {S T : List Nat} {tg iter c : Expr} {body : List Stmt} {pos : Pos} {fi : En → R (List D)} {g : D → En → Option En} {fb : En → Out} {fc : En → R Bool}
theorem ds_for (hp : PassesOwn (model X.prog X.w) X.A X.env X.xe) (hc : X.calm = true) (hi : DI X W S tg iter fi) (hg : DG X T tg g) (hb : DSs X W body fb) (hs : ∀ x, foldedSetIterable iter X.env x = pure x := by intro _; rfl) :
    DS X W (.For tg iter body [] pos) (sFor S fi g fb) :=
  ⟨(ps_for hp hc hi.pi hg.pg hb.pss hs).imp fun D σ H ⟨ρ, ow, B, s, h⟩ => by
    refine ⟨ρ, ow, B, s, ?_⟩
    unfold sFor at h
    cases e : fi ρ with
    | stuck => rw [e] at h; exact h
    | exc C fs => rw [e] at h; exact fun cls dd H' q x => h σ H' ow cls dd (s.same q) (Ch.same q) x
    | ok ds =>
      rw [e] at h
      intro J H1 q1 it _
      rw [lift_ok] at h
      have sh : Stt (kx X) B (frzAt S ρ) σ H1 (cutO ow S) := (s.same q1).frzAt S
      have c0 : Ch ow H (cutO ow S) H1 := (Ch.same q1).trans (Ch.cut S)
      refine ⟨fun i m σ1 H2 => ∃ ρ1 ow1, Stt (kx X) B ρ1 σ1 H2 ow1 ∧ Ch (cutO ow S) H1 ow1 H2 ∧ m = ds.length - i ∧ i ≤ ds.length ∧ Post (kx X) W B ow H D (loopD g fb (ds.drop i) ρ1),
        ⟨ds.length, frzAt S ρ, cutO ow S, sh, Ch.refl _ _, by omega, Nat.zero_le _, h⟩, ?_⟩
      rintro i m σ1 H2 ⟨ρ1, ow1, s1, c1, rfl, hi, h1⟩
      have cutmem : ∀ j a, a ∈ cutO ow S j → OutS S ow B [] a := fun j a m => by
        unfold cutO at m
        split at m
        · exact nomatch m
        · rename_i hj
          exact .inl ⟨j, m, hj⟩
      have k1 : Kept (OutS S ow B []) H1 H2 [] := fun a o e z => c1.keep a o e (by
        rcases z with z | z | z
        · exact nomatch z
        · exact .inl fun j m => z (cutmem j a m)
        · exact .inr z)
      obtain ⟨iy, is⟩ := it H2 k1 i
      by_cases hlt : i < ds.length
      · have ed : ds[i]? = some ds[i] := List.getElem?_eq_getElem hlt
        obtain ⟨go, yl⟩ := iy _ ed
        rw [List.drop_eq_getElem_cons hlt] at h1
        unfold loopD at h1
        refine .inr ⟨go, fun σ' H' => ∃ ρ1 ow1, Stt (kx X) B ρ1 σ' H' ow1 ∧ Ch (cutO ow S) H1 ow1 H' ∧ Post (kx X) W B ow H D (loopD g fb (ds.drop (i + 1)) ρ1), fun σ' H' ⟨ρ2, ow2, s2, c2, h2⟩ => ⟨ds.length - (i + 1), by omega, ρ2, ow2, s2, c2, rfl, hlt, h2⟩, fun x H3 y => ?_⟩
        obtain ⟨q3, rx⟩ := yl x H3 y
        have rx' : RepD (kx X) (OutS [] ow1 B []) H3 ds[i] x [] := rx _ fun a o e z => by
          rcases z with ⟨j, z, _⟩ | z | z
          · rcases c1.from' j a z with ⟨l, q⟩ | q
            · exact cutmem l a q
            · rw [q] at e; cases e
          · exact .inr (.inl z)
          · exact nomatch z
        refine ⟨ρ1, ow1, B, ds[i], [], (s1.same q3).swap (fun a z => z.elim id fun z => nomatch z), rx', List.nodup_nil, (fun _ z => nomatch z), ?_⟩
        cases eg : g ds[i] ρ1 with
        | none => rw [eg] at h1; exact h1
        | some ρ2 =>
          rw [eg] at h1
          intro σ4 ow4 s4 c4 _
          have c14 : Ch ow1 H2 ow4 H3 := (Ch.same q3).trans ⟨fun a o e z => e, fun j a m => (c4 j a m).imp id fun z => nomatch z⟩
          have c04 : Ch ow H ow4 H3 := (c0.trans c1).trans c14
          have cc4 : Ch (cutO ow S) H1 ow4 H3 := c1.trans c14
          refine ⟨ρ2, ow4, B, s4, ?_⟩
          dsimp only at h1
          cases eb : fb ρ2 with
          | nx ρ3 => rw [eb] at h1; exact fun σ5 H5 ow5 s5 c5 => ⟨ρ3, ow5, s5, cc4.trans c5, h1⟩
          | ct ρ3 => rw [eb] at h1; exact fun σ5 H5 ow5 s5 c5 => ⟨ρ3, ow5, s5, cc4.trans c5, h1⟩
          | bk ρ3 => rw [eb] at h1; exact fun σ5 H5 ow5 s5 c5 => h1 σ5 H5 ow5 s5 (c04.trans c5)
          | ret d => rw [eb] at h1; exact Post.later (D := D) (o := .ret d) c04 h1
          | exc ρ3 C fs => rw [eb] at h1; exact Post.later (D := D) (o := .exc ρ3 C fs) c04 h1
          | stuck => rw [eb] at h1; exact h1
      · have ei : i = ds.length := by omega
        subst ei
        rw [List.drop_length] at h1
        exact .inl ⟨is (Nat.le_refl _), h1 σ1 H2 ow1 s1 (c0.trans c1)⟩⟩

/-! ### while -/
def whD (fc : En → R Bool) (fb : En → Out) : Nat → En → Out
  | 0, _ => .stuck
  | n + 1, ρ => lift (fc ρ) ρ fun b => if b then (match fb ρ with
      | .nx ρ2 => whD fc fb n ρ2
      | .ct ρ2 => whD fc fb n ρ2
      | .bk ρ2 => .nx ρ2
      | o => o) else .nx ρ
def sWh (n : Nat) (fc : En → R Bool) (fb : En → Out) : En → Out := whD fc fb n
theorem ds_while (n : Nat) (hp : PassesOwn (model X.prog X.w) X.A X.env X.xe) (hc : DT X W c fc) (hb : DSs X W body fb) : DS X W (.While c body [] pos) (sWh n fc fb) :=
  ⟨(ps_while hp hc.pt hb.pss).imp fun D σ H ⟨ρ, ow, B, s, h⟩ => by
    refine ⟨fun m σ1 H1 => ∃ ρ1 ow1, Stt (kx X) B ρ1 σ1 H1 ow1 ∧ Ch ow H ow1 H1 ∧ Post (kx X) W B ow H D (whD fc fb m ρ1), ⟨n, ρ, ow, s, Ch.refl _ _, h⟩, ?_⟩
    rintro m σ1 H1 ⟨ρ1, ow1, s1, c1, h1⟩
    cases m with
    | zero => exact h1.elim
    | succ m =>
      unfold whD at h1
      refine ⟨ρ1, ow1, B, s1, ?_⟩
      cases e : fc ρ1 with
      | stuck => rw [e] at h1; exact h1
      | exc C fs => rw [e] at h1; exact fun cls dd H' q x => h1 σ1 H' ow1 cls dd (s1.same q) (c1.trans (Ch.same q)) x
      | ok b =>
        rw [e] at h1
        intro H2 q2
        rw [lift_ok] at h1
        have c2 : Ch ow H ow1 H2 := c1.trans (Ch.same q2)
        cases b with
        | false =>
          rw [if_neg Bool.false_ne_true] at h1 ⊢
          exact h1 σ1 H2 ow1 (s1.same q2) c2
        | true =>
          rw [if_pos rfl] at h1 ⊢
          refine ⟨fun σ' H' => ∃ ρ1 ow1, Stt (kx X) B ρ1 σ' H' ow1 ∧ Ch ow H ow1 H' ∧ Post (kx X) W B ow H D (whD fc fb m ρ1), fun σ' H' z => ⟨m, Nat.lt_succ_self m, z⟩, ρ1, ow1, B, s1.same q2, ?_⟩
          cases eb : fb ρ1 with
          | nx ρ3 => rw [eb] at h1; exact fun σ5 H5 ow5 s5 c5 => ⟨ρ3, ow5, s5, c2.trans c5, h1⟩
          | ct ρ3 => rw [eb] at h1; exact fun σ5 H5 ow5 s5 c5 => ⟨ρ3, ow5, s5, c2.trans c5, h1⟩
          | bk ρ3 => rw [eb] at h1; exact fun σ5 H5 ow5 s5 c5 => h1 σ5 H5 ow5 s5 (c2.trans c5)
          | ret d => rw [eb] at h1; exact Post.later (D := D) (o := .ret d) c2 h1
          | exc ρ3 C fs => rw [eb] at h1; exact Post.later (D := D) (o := .exc ρ3 C fs) c2 h1
          | stuck => rw [eb] at h1; exact h1⟩
end
end TL
/-! T5: comprehensions, calls, defs over trees -/
namespace TL
open PySem PySem.Spec PyProof.Rows L2

abbrev W0 : WX := fun _ _ _ _ => False
/-! ### a frame's part is written -/
theorem Kept.upd {O : Addr → Prop} {H : Hp} {os : List Addr} {p : Addr} {o o' : HO} (h : H p = some o) (ht : ¬ Imm o) (hO : O p) (hp : p ∉ os) : Kept O H (L2.upd H p o') os := fun a u e z => by
  have ne : a ≠ p := fun q => by
    subst q
    rw [h] at e
    cases e
    rcases z with z | z | z
    · exact hp z
    · exact z hO
    · exact ht z
  rw [upd_ne ne]
  exact e
theorem Stt.upd {K : KX} {B : Addr → Prop} {ρ : En} {σ : L2.St} {H : Hp} {ow : Ow} {p : Addr} {o o' : HO} (s : Stt K B ρ σ H ow) (h : H p = some o) (ht : ¬ Imm o) (hB : B p) : Stt K B ρ σ (L2.upd H p o') ow := by
  refine ⟨s.len, fun i d e => ?_, s.dead, s.nd, s.dj, fun a z => ?_, s.bo⟩
  · obtain ⟨v, h1, r⟩ := s.rep i d e
    exact ⟨v, h1, r.keep (fun a u q z => z) (Kept.upd h ht (.inr hB) fun m => s.bo i p m hB)⟩
  · by_cases q : a = p
    · rw [q, upd_same]; exact fun z => nomatch z
    · rw [upd_ne q]; exact s.bt a z
theorem RepL.append {K : KX} {O : Addr → Prop} {H : Hp} : ∀ {xs ys : List D} {vs ws : List V} {o1 o2 : List Addr}, RepL K O H xs vs o1 → RepL K O H ys ws o2 → RepL K O H (xs ++ ys) (vs ++ ws) (o1 ++ o2)
  | _, _, _, _, _, _, .nil, s => s
  | _, _, _, _, _, _, .cons r t, s => by
    rw [List.append_assoc]
    exact .cons r (RepL.append t s)

/-! ### list comprehensions -/
/-- what a block sees: the slots of S but its own, frozen -/
def visE (S vs : List Nat) : Nat → En → En
  | _, [] => []
  | k, d :: r => (if S.contains k && !vs.contains k then d.map D.frz else none) :: visE S vs (k + 1) r
def compD (g : D → En → Option En) (fc : En → R Bool) (fe : En → R D) (ρ : En) : List D → R (List D)
  | [] => .ok []
  | d :: r => match g d ρ with
    | none => .stuck
    | some ρ1 => match fc ρ1 with
      | .ok true => (match fe ρ1 with
        | .ok y => (compD g fc fe ρ r).bind fun ys => .ok (y :: ys)
        | _ => .stuck)
      | .ok false => compD g fc fe ρ r
      | _ => .stuck
def eLc (vs S : List Nat) (fi : En → R (List D)) (g : D → En → Option En) (fc : En → R Bool) (fe : En → R D) : En → R D := fun ρ =>
  (fi ρ).bind fun ds => match compD g fc fe (visE S vs 0 ρ) ds with
    | .ok ys => .ok (.lst true ys)
    | _ => .stuck
def cYes : En → R Bool := fun _ => .ok true
section
variable {K : KX} {B : Addr → Prop} {ow : Ow} {H H1 : Hp} {ρ : En} {σ : L2.St}
theorem visE_length (S vs : List Nat) : ∀ (ρ : En) (k : Nat), (visE S vs k ρ).length = ρ.length
  | [], _ => rfl
  | _ :: r, k => congrArg (· + 1) (visE_length S vs r (k + 1))
theorem visE_get {S vs : List Nat} {d : D} : ∀ {ρ : En} {k i : Nat}, (visE S vs k ρ)[i]? = some (some d) → (k + i) ∈ S ∧ (k + i) ∉ vs ∧ ∃ d0, ρ[i]? = some (some d0) ∧ d = d0.frz
  | [], _, _, h => nomatch h
  | x :: r, k, 0, h => by
    unfold visE at h
    have h' : (if S.contains k && !vs.contains k then x.map D.frz else none) = some d := Option.some.inj h
    by_cases c : (S.contains k && !vs.contains k) = true
    · rw [if_pos c] at h'
      obtain ⟨c1, c2⟩ := Bool.and_eq_true_iff.mp c
      obtain ⟨d0, e1, e2⟩ := Option.map_eq_some_iff.mp h'
      refine ⟨List.contains_iff_mem.mp c1, fun m => ?_, d0, by rw [e1]; rfl, e2.symm⟩
      rw [Nat.add_zero] at m
      rw [List.contains_iff_mem.mpr m] at c2
      cases c2
    · rw [if_neg c] at h'; cases h'
  | x :: r, k, i + 1, h => by
    have := visE_get (ρ := r) (k := k + 1) (i := i) (S := S) (vs := vs) (d := d) h
    rw [Nat.add_assoc, Nat.add_comm 1 i] at this
    exact this
theorem wipe_at {σ : L2.St} {i : Nat} : ∀ {vs : List Nat}, i ∉ vs → (wipe σ vs)[i]? = σ[i]?
  | [], _ => rfl
  | v :: vs, n => by
    unfold wipe
    rw [List.getElem?_set_ne fun z => n (by rw [z]; exact List.mem_cons_self)]
    exact wipe_at fun z => n (List.mem_cons_of_mem _ z)
abbrev noOw : Ow := fun _ => []
/-- the state within a comprehension's block: all is frozen, what must be kept off stands in the frame -/
theorem Stt.vis (s : Stt K B ρ σ H ow) (S vs : List Nat) : Stt K (OutS S ow B []) (visE S vs 0 ρ) (wipe σ vs) H noOw := by
  refine ⟨by rw [visE_length, wipe_length]; exact s.len, fun i d h => ?_, fun _ _ => rfl, fun _ => List.nodup_nil, (fun _ _ _ z => nomatch z), fun a z => ?_, fun _ _ z => nomatch z⟩
  · obtain ⟨h1, h2, d0, e0, rfl⟩ := visE_get h
    rw [Nat.zero_add] at h1 h2
    obtain ⟨v, e, r⟩ := s.rep i d0 e0
    refine ⟨v, by rw [wipe_at h2]; exact e, r.frz fun a o q z => ?_⟩
    rcases z with ⟨_, z⟩ | ⟨j, z, n⟩ | z | z
    · exact nomatch z
    · exact ⟨.inl ⟨j, z⟩, fun m => n (by rw [s.dj j i a z m]; exact h1)⟩
    · exact ⟨.inr z, fun m => s.bo i a m z⟩
    · exact nomatch z
  · rcases z with ⟨j, z, _⟩ | z | z
    · exact s.there z
    · exact s.bt a z
    · exact nomatch z
theorem wipe_get (τ : L2.St) (j : Nat) (vs : List Nat) : (wipe τ vs)[j]? = if j ∈ vs then (if j < τ.length then some none else none) else τ[j]? := by
  induction vs with
  | nil => rw [if_neg (fun z => nomatch z)]; rfl
  | cons v r ih =>
    unfold wipe
    rw [List.getElem?_set, wipe_length]
    by_cases e : v = j
    · subst e
      rw [if_pos rfl, if_pos List.mem_cons_self]
    · rw [if_neg e, ih]
      by_cases m : j ∈ r
      · rw [if_pos m, if_pos (List.mem_cons_of_mem _ m)]
      · rw [if_neg m, if_neg (fun z => (List.mem_cons.mp z).elim (fun q => e q.symm) m)]
theorem stay_wipe {T vs : List Nat} {σ σ' : L2.St} (hT : ∀ i ∈ T, i ∈ vs) (h : Stay T (wipe σ vs) σ') : wipe σ' vs = wipe σ vs := by
  refine List.ext_getElem? fun j => ?_
  have hl : σ'.length = σ.length := h.1.trans (wipe_length _ _)
  rw [wipe_get, wipe_get, hl]
  by_cases m : j ∈ vs
  · rw [if_pos m, if_pos m]
  · rw [if_neg m, if_neg m, h.2 j fun z => m (hT j z), wipe_at m]
end
section
variable {K : KX} {W : WX} {Si Se S T vs : List Nat} {σ : L2.St} {H : Hp} {fi : En → R (List D)} {g : D → En → Option En} {fc : En → R Bool} {fe : En → R D}
theorem rd_lc (hSi : ∀ i ∈ Si, i ∈ S) (hT : ∀ i ∈ T, i ∈ vs) {Q : VK} (h : rd K W S (eLc vs S fi g fc fe) σ H Q) : tLc (rdI K W Si fi) (rdG K T g) (rdT K W0 fc) (rd K W0 Se fe) vs σ H Q := by
  obtain ⟨ρ, ow, B, s, h⟩ := h
  refine ⟨ρ, ow, B, s, ?_⟩
  unfold eLc at h
  cases ei : fi ρ with
  | stuck => rw [ei] at h; exact h
  | exc C fs => rw [ei] at h; exact h
  | ok ds =>
    rw [ei] at h
    dsimp only [R.bind_ok] at h
    intro J H1 q1 it hlen L hL
    cases ec : compD g fc fe (visE S vs 0 ρ) ds with
    | stuck => rw [ec] at h; exact h.elim
    | exc C fs => rw [ec] at h; exact h.elim
    | ok all =>
      rw [ec] at h
      dsimp only at h
      have sb := (s.same q1).vis S vs
      have h0 : Same H1 (upd H1 L (.lst [])) := fun b o e => by rw [upd_ne (ne_of_none e hL)]; exact e
      refine ⟨fun i m H2 => ∃ ys ws os rest, H2 L = some (.lst ws) ∧ RepL K (OutS S ow B (L :: os)) H2 ys ws os ∧ (L :: os).Nodup ∧ (∀ a ∈ os, H1 a = none) ∧ Same H1 H2 ∧
        compD g fc fe (visE S vs 0 ρ) (ds.drop i) = .ok rest ∧ ys ++ rest = all ∧ m = ds.length - i ∧ i ≤ ds.length ∧ ys.length ≤ i,
        ⟨ds.length, [], [], [], all, upd_same, .nil, by simp, (fun _ z => nomatch z), h0, by rw [List.drop_zero]; exact ec, rfl, by omega, Nat.zero_le _, Nat.le_refl _⟩, ?_⟩
      rintro i m H2 ⟨ys, ws, os, rest, hw, rl, nd, nw, s2, ecd, eall, rfl, hi, hly⟩
      have k2 : Kept (OutS Si ow B []) H1 H2 [] := Kept.of_same s2 _
      obtain ⟨iy, ist⟩ := it H2 k2 i
      by_cases hlt : i < ds.length
      · have ed : ds[i]? = some ds[i] := List.getElem?_eq_getElem hlt
        obtain ⟨go, yl⟩ := iy _ ed
        rw [List.drop_eq_getElem_cons hlt] at ecd
        unfold compD at ecd
        refine .inr ⟨go, fun H' => ∃ ys ws os rest, H' L = some (.lst ws) ∧ RepL K (OutS S ow B (L :: os)) H' ys ws os ∧ (L :: os).Nodup ∧ (∀ a ∈ os, H1 a = none) ∧ Same H1 H' ∧
          compD g fc fe (visE S vs 0 ρ) (ds.drop (i + 1)) = .ok rest ∧ ys ++ rest = all ∧ ys.length ≤ i + 1, fun H' ⟨ys, ws, os, rest, a1, a2, a3, a4, a5, a6, a7, a8⟩ => ⟨ds.length - (i + 1), by omega, ys, ws, os, rest, a1, a2, a3, a4, a5, a6, a7, rfl, hlt, a8⟩, fun x H3 y => ?_⟩
        obtain ⟨q3, rx⟩ := yl x H3 y
        have s3 := s2.trans q3
        -- the frame holds the made part
        have hfr : ∀ a, (OutS S ow B [] a ∨ a ∈ L :: os) → H3 a ≠ none := fun a z => by
          rcases z with z | z
          · exact fun q => sb.bt a z (s3.free q)
          · rcases List.mem_cons.mp z with e | z
            · rw [e, q3 _ _ hw]; exact fun z => nomatch z
            · exact fun q => rl.there a z (q3.free q)
        have hnew : ∀ a o, H1 a = some o → a ∉ L :: os := fun a o e z => by
          rcases List.mem_cons.mp z with q | z
          · rw [q, hL] at e; cases e
          · rw [nw a z] at e; cases e
        have sb3 : Stt K (fun a => OutS S ow B [] a ∨ a ∈ L :: os) (visE S vs 0 ρ) (wipe σ vs) H3 noOw := sb.grow s3 (fun a o e z => z.elim id fun z => absurd z (hnew a o e)) hfr
        have hO1 : ∀ a o, H1 a = some o → OutS [] noOw (fun a => OutS S ow B [] a ∨ a ∈ L :: os) [] a → OutS Si ow B [] a := fun a o e z => by
          rcases z with ⟨_, z, _⟩ | (z | z) | z
          · exact nomatch z
          · exact z.imp (fun ⟨j, z, n⟩ => ⟨j, z, fun q => n (hSi j q)⟩) id
          · exact absurd z (hnew a o e)
          · exact nomatch z
        refine ⟨visE S vs 0 ρ, noOw, fun a => OutS S ow B [] a ∨ a ∈ L :: os, ds[i], [], sb3.swap (fun a z => z.elim id fun z => nomatch z), rx _ hO1, List.nodup_nil, (fun _ z => nomatch z), ?_⟩
        cases eg : g ds[i] (visE S vs 0 ρ) with
        | none => rw [eg] at ecd; cases ecd
        | some ρ1 =>
          rw [eg] at ecd
          dsimp only at ecd
          intro σ4 ow4 s4 c4 y4
          refine ⟨stay_wipe hT y4, ρ1, ow4, _, s4, ?_⟩
          have hL3 : H3 L = some (.lst ws) := q3 _ _ hw
          cases efc : fc ρ1 with
          | stuck => rw [efc] at ecd; cases ecd
          | exc C fs => rw [efc] at ecd; cases ecd
          | ok b =>
            rw [efc] at ecd
            intro H5 q5
            cases b with
            | false =>
              rw [if_neg Bool.false_ne_true]
              exact ⟨ys, ws, os, rest, q5 _ _ hL3, rl.keep (fun a o _ z => z) (Kept.of_same (q3.trans q5) _), nd, nw, s3.trans q5, ecd, eall, Nat.le_succ_of_le hly⟩
            | true =>
              rw [if_pos rfl]
              dsimp only at ecd
              refine ⟨ρ1, ow4, _, s4.same q5, ?_⟩
              cases efe : fe ρ1 with
              | stuck => rw [efe] at ecd; cases ecd
              | exc C fs => rw [efe] at ecd; cases ecd
              | ok y =>
                rw [efe] at ecd
                dsimp only at ecd
                intro vy H6 oy q6 ry ny wy
                have hL6 : H6 L = some (.lst ws) := q6 _ _ (q5 _ _ hL3)
                refine ⟨ws, hL6, ?_, ?_⟩
                · rw [← rl.length]
                  exact Nat.lt_of_lt_of_le (Nat.lt_of_le_of_lt hly hlt) hlen
                · cases er : compD g fc fe (visE S vs 0 ρ) (ds.drop (i + 1)) with
                  | stuck => rw [er] at ecd; cases ecd
                  | exc C fs => rw [er] at ecd; cases ecd
                  | ok rest2 =>
                    rw [er] at ecd
                    cases ecd
                    have s6 : Same H1 H6 := (s3.trans q5).trans q6
                    have fresh : ∀ a ∈ oy, H1 a = none := fun a m => s3.free (q5.free (wy a m))
                    have hLo : L ∉ os ++ oy := fun m => by
                      rcases List.mem_append.mp m with m | m
                      · exact (List.nodup_cons.mp nd).1 m
                      · have := wy L m
                        rw [q5 _ _ hL3] at this
                        cases this
                    have ndo : (os ++ oy).Nodup := nodup_two (List.nodup_cons.mp nd).2 ny (rl.keep (fun a o _ z => z) (Kept.of_same (q3.trans q5) _)).there wy
                    have hO : ∀ a o, H6 a = some o → OutS S ow B (L :: (os ++ oy)) a → (H5 a ≠ none → OutS S ow B (L :: os) a) := fun a o e z t => by
                      rcases z with z | z | z
                      · exact .inl z
                      · exact .inr (.inl z)
                      · rcases List.mem_cons.mp z with q | z
                        · exact .inr (.inr (by rw [q]; exact List.mem_cons_self))
                        · rcases List.mem_append.mp z with z | z
                          · exact .inr (.inr (List.mem_cons_of_mem _ z))
                          · exact absurd (wy a z) t
                    have rl5 : RepL K (OutS S ow B (L :: os)) H5 ys ws os := rl.keep (fun a o _ z => z) (Kept.of_same (q3.trans q5) _)
                    have rl6 : RepL K (OutS S ow B (L :: (os ++ oy))) H6 ys ws os := rl5.keep (fun a o e z => hO a o (q6 _ _ e) z (by rw [e]; exact fun z => nomatch z)) (Kept.of_same q6 _)
                    have ry6 : RepD K (OutS S ow B (L :: (os ++ oy))) H6 y vy oy := ry.keep (fun a o e z => by
                      rcases z with z | z | z
                      · exact .inr (.inl (.inl (.inl z)))
                      · exact .inr (.inl (.inl (.inr (.inl z))))
                      · rcases List.mem_cons.mp z with q | z
                        · exact .inr (.inl (.inr (by rw [q]; exact List.mem_cons_self)))
                        · rcases List.mem_append.mp z with z | z
                          · exact .inr (.inl (.inr (List.mem_cons_of_mem _ z)))
                          · exact .inr (.inr z)) (Kept.of_same (Same.refl _) _)
                    have kup : ∀ o2, L ∉ o2 → Kept (OutS S ow B (L :: (os ++ oy))) H6 (L2.upd H6 L (.lst (ws ++ [vy]))) o2 := fun o2 n => Kept.upd hL6 (fun z => z) (.inr (.inr List.mem_cons_self)) n
                    refine ⟨ys ++ [y], ws ++ [vy], os ++ oy, rest2, upd_same, ?_, List.nodup_cons.mpr ⟨hLo, ndo⟩, fun a m => ?_, fun a o e => ?_, rfl, by rw [List.append_assoc]; exact eall, by rw [List.length_append]; exact Nat.succ_le_succ hly⟩
                    · have e1 : oy ++ [] = oy := List.append_nil _
                      refine RepL.append (rl6.keep (fun a o _ z => z) (kup os fun m => hLo (List.mem_append_left _ m))) ?_
                      have := RepL.cons (ry6.keep (fun a o _ z => z) (kup oy fun m => hLo (List.mem_append_right _ m))) (RepL.nil (K := K) (O := OutS S ow B (L :: (os ++ oy))) (H := L2.upd H6 L (.lst (ws ++ [vy]))))
                      rw [e1] at this
                      exact this
                    · exact (List.mem_append.mp m).elim (nw a) (fresh a)
                    · rw [upd_ne (ne_of_none e hL)]
                      exact s6 a o e
      · have e : i = ds.length := by omega
        subst e
        rw [List.drop_length] at ecd
        unfold compD at ecd
        cases ecd
        rw [List.append_nil] at eall
        subst eall
        refine .inl ⟨ist (Nat.le_refl _), h (.ref L) H2 (L :: os) (q1.trans s2) (.lstO hw (rl.keep (fun a o _ z => z) (Kept.of_same (Same.refl _) _))) nd fun a m => ?_⟩
        rcases List.mem_cons.mp m with e | m
        · rw [e]; exact q1.free hL
        · exact q1.free (nw a m)
end
end TL
/-! T6: comprehensions as values, calls, defs -/
namespace TL
open PySem PySem.Spec PyProof.Rows L2

structure DTs (X : CY) (W : WX) (ifs : List Expr) (f : En → R Bool) : Prop where
  pts : PTs X ifs (rdT (kx X) W f)
section
variable {X : CY} {W : WX} {S Si Se T vs : List Nat} {c elt tg iter : Expr} {ifs : List Expr} {scope : Scope} {own : List (Str × Nat)} {pos spos py : Pos} {fi : En → R (List D)} {g : D → En → Option En} {fc : En → R Bool} {fe : En → R D}
theorem dts_nil : DTs X W [] cYes := ⟨⟨fun pins s σ H Q I ⟨ρ, ow, B, st, h⟩ => pts_nil.run pins s σ H Q I (h H (Same.refl H))⟩⟩
theorem dts_one (h : DT X W c fc) : DTs X W [c] fc := ⟨pts_one h.pt⟩
theorem de_lc (hc : X.calm = true) (hN : X.N.Nodup) (hi : DI X W Si tg iter fi) (ok : BlkOk X.N X.env.scope scope own) (hv : own.map (·.2) = vs)
    (hg : ∀ (s : Shared) (H : Hp) (C : Addr) (cl : List (Str × Addr)) (fp : List Addr), DG (X.blk s H scope (compEnvC scope cl C X.env) fp) T tg g)
    (ht : ∀ (s : Shared) (H : Hp) (C : Addr) (cl : List (Str × Addr)) (fp : List Addr), DTs (X.blk s H scope (compEnvC scope cl C X.env) fp) W0 ifs fc)
    (he : ∀ (s : Shared) (H : Hp) (C : Addr) (cl : List (Str × Addr)) (fp : List Addr), DE (X.blk s H scope (compEnvC scope cl C X.env) fp) W0 Se elt fe)
    (hSi : ∀ i ∈ Si, i ∈ S := by decide) (hT : ∀ i ∈ T, i ∈ vs := by decide) (hs : ∀ x, foldedSetIterable iter X.env x = pure x := by intro _; rfl) :
    DE X W S (.ListComp elt [⟨tg, iter, ifs, 0⟩] scope pos) (eLc vs S fi g fc fe) := by
  subst hv
  exact ⟨(pe_lc hc hN hi.pi ok (fun s H C cl fp => (hg s H C cl fp).pg) (fun s H C cl fp => (ht s H C cl fp).pts) (fun s H C cl fp => (he s H C cl fp).pe) hs).imp fun σ H Q h => rd_lc hSi hT h⟩
/-- name = [..] on one line -/
theorem ds_setLc {i : Nat} {y : Str} (hc : X.calm = true) (hN : X.N.Nodup) (hy : X.N[i]? = some y) (hyl : X.env.scope.names.lookup y = some .local) (hsw : swapsWith (.ListComp elt [⟨tg, iter, ifs, 0⟩] scope pos) (some (.Name y py)) spos.line X.env = pure true)
    (hi : DI X W Si tg iter fi) (ok : BlkOk X.N X.env.scope scope own) (hv : own.map (·.2) = vs)
    (hg : ∀ (s : Shared) (H : Hp) (C : Addr) (cl : List (Str × Addr)) (fp : List Addr), DG (X.blk s H scope (compEnvC scope cl C X.env) fp) T tg g)
    (ht : ∀ (s : Shared) (H : Hp) (C : Addr) (cl : List (Str × Addr)) (fp : List Addr), DTs (X.blk s H scope (compEnvC scope cl C X.env) fp) W0 ifs fc)
    (he : ∀ (s : Shared) (H : Hp) (C : Addr) (cl : List (Str × Addr)) (fp : List Addr), DE (X.blk s H scope (compEnvC scope cl C X.env) fp) W0 Se elt fe)
    (hSi : ∀ i ∈ Si, i ∈ S := by decide) (hT : ∀ i ∈ T, i ∈ vs := by decide) (hs : ∀ x, foldedSetIterable iter X.env x = pure x := by intro _; rfl) :
    DS X W (.Assign [.Name y py] (.ListComp elt [⟨tg, iter, ifs, 0⟩] scope pos) spos) (sSet i S (eLc vs S fi g fc fe)) := by
  subst hv
  refine ⟨⟨fun pins s σ H D I h => (ps_setLc hc hN hy hyl hsw hi.pi ok (fun s H C cl fp => (hg s H C cl fp).pg) (fun s H C cl fp => (ht s H C cl fp).pts) (fun s H C cl fp => (he s H C cl fp).pe) hs).run pins s σ H D I (rd_lc hSi hT ?_)⟩⟩
  refine rdS_expr (k := fun ρ d => .nx ((if d.clean then ρ else frzAt S ρ).set i (some d))) h fun ρ ow B d v os H1 s q r nd n p => ?_
  obtain ⟨ow1, s1, r1, c1⟩ := s.ready q r n
  refine p _ H1 (putO ow1 i os) (s1.put ?_ r1 nd fun a m z => ?_) (c1.put fun a m => .inr (n a m))
  · rw [s1.len, I.len]
    exact (List.getElem?_eq_some_iff.mp hy).1
  · exact s.bt a z (n a m)
end

/-! ### displays -/
def mkTup (xs : List D) : Option D := if xs.length ≤ 16777216 then some (.tup xs) else none
def mkLst (xs : List D) : Option D := if xs.length ≤ 16777216 then some (.lst true xs) else none
section
variable {X : CY} {W : WX} {S : List Nat} {es : List Expr} {pos : Pos} {k : Nat} {fs : En → R (List D)}
theorem de_tup (h : DA X W S es fs) : DE X W S (.Tuple es k pos) (eN mkTup fs) :=
  ⟨(pe_tup h.pa).imp fun σ H Q hq => rdN (r := fun xs H1 Q => xs.length ≤ sizeLine ∧ ∀ p, H1 p = none → Q (.ref p) (upd H1 p (.tup xs))) (fun O H xs vs o d Q r nd m e dn => by
    unfold mkTup at e
    split at e
    · rename_i hl
      cases e
      refine ⟨by rw [← r.length, sizeLine_eq]; exact hl, fun p hp => ?_⟩
      have sm : Same H (upd H p (.tup vs)) := fun b u e => by rw [upd_ne (ne_of_none e hp)]; exact e
      exact dn _ _ o sm (.tup upd_same (r.keep (fun a u e z => z.elim id (m a)) (Kept.of_same sm _))) nd fun a h => .inl h
    · cases e) hq⟩
theorem de_lst (h : DA X W S es fs) : DE X W S (.List es pos) (eN mkLst fs) :=
  ⟨(pe_lst h.pa).imp fun σ H Q hq => rdN (r := fun xs H1 Q => xs.length ≤ sizeLine ∧ ∀ p, H1 p = none → Q (.ref p) (upd H1 p (.lst xs))) (fun O H xs vs o d Q r nd m e dn => by
    unfold mkLst at e
    split at e
    · rename_i hl
      cases e
      refine ⟨by rw [← r.length, sizeLine_eq]; exact hl, fun p hp => ?_⟩
      have sm : Same H (upd H p (.lst vs)) := fun b u e => by rw [upd_ne (ne_of_none e hp)]; exact e
      refine dn _ _ (p :: o) sm (.lstO upd_same (r.keep (fun a u e z => ?_) (Kept.of_same sm _))) (List.nodup_cons.mpr ⟨fun z => r.there p z hp, nd⟩) fun a h => ?_
      · rcases z with z | z
        · exact z
        · rcases List.mem_cons.mp z with q | z
          · rw [q, hp] at e; cases e
          · exact m a z
      · rcases List.mem_cons.mp h with q | h
        · exact .inr (by rw [q]; exact hp)
        · exact .inl h
    · cases e) hq⟩
end

/-! ### defs -/
/-- a def's promise over trees: n arguments, its value as a function of them -/
def spD (K : PySem.W.Frag) (n : Nat) (F : List D → R D) : Sp := fun vs H Q E => vs.length = n ∧ ∃ ds B, RepL (k0 K) B H ds vs [] ∧ (∀ a, B a → H a ≠ none) ∧ match F ds with
  | .ok d => ∀ v H' os, Same H H' → RepD (k0 K) (fun a => B a ∨ a ∈ os) H' d v os → os.Nodup → (∀ a ∈ os, H a = none) → Q v H'
  | .exc C fs => ∀ cls dd H', Same H H' → RepX (k0 K) H' C fs cls dd → E cls dd H'
  | .stuck => False
/-- from a body of n slots -/
def fn (n : Nat) (b : En → Out) : List D → R D := fun ds => match b (ds.map some ++ List.replicate (n - ds.length) none) with
  | .ret d => .ok d
  | .nx _ => .ok .non
  | .exc _ C fs => .exc C fs
  | _ => .stuck
theorem start_rep {K : KX} {B : Addr → Prop} {H : Hp} {ds : List D} {vs : List V} {N : List Str} (r : RepL K B H ds vs []) (hb : ∀ a, B a → H a ≠ none) (hn : vs.length ≤ N.length) :
    Stt K B (ds.map some ++ List.replicate (N.length - ds.length) none) (L2.start N vs) H noOw := by
  have hl := r.length
  refine ⟨by unfold L2.start; simp [hl], fun i d h => ?_, fun _ _ => rfl, fun _ => List.nodup_nil, (fun _ _ _ z => nomatch z), hb, fun _ _ z => nomatch z⟩
  by_cases hi : i < ds.length
  · rw [List.getElem?_append_left (by rw [List.length_map]; exact hi), List.getElem?_map] at h
    obtain ⟨d0, e0, e1⟩ := Option.map_eq_some_iff.mp h
    cases e1
    obtain ⟨v, hv, rv⟩ := r.get e0
    refine ⟨v, ?_, rv.keep (fun a o _ z => z.elim (fun ⟨_, z⟩ => nomatch z) id) (Kept.of_same (Same.refl _) _)⟩
    unfold L2.start
    rw [List.getElem?_append_left (by rw [List.length_map, ← hl]; exact hi), List.getElem?_map, hv]
    rfl
  · rw [List.getElem?_append_right (by rw [List.length_map]; omega), List.getElem?_replicate] at h
    split at h <;> cases h
section
variable {P : Program} {w : World} {K : PySem.W.Frag} {mg : Str → Option Value} {base : Heap}
theorem fn_ok {x qual : Str} {st : Stmt} {f : Addr} {fd : FuncData} {N ps : List Str} {k : Nat} {b : En → Out} (F : Fun K x qual st f fd) (S : FnScope N ps (defScope st)) (hn : ps.length ≤ N.length)
    (hbody : ∀ (cdv : Value) (A : Around) (outer : List Env) (s : Shared) (H : Hp) (E : XK), Room k (A.deeper (envOfC qual (defScope st) s.heap.objs.size f cdv)) →
      DSs ⟨cxOf (L2N.CX P w) P w K mg base N qual (defScope st) f cdv A outer s H E, none⟩ (fun cls d _ H => E cls d H) (defBody st) b) : FnOk P w K mg base (L2N.CX P w) (k + 1) f fd ps (spD K ps.length (fn N.length b)) := by
  obtain ⟨oc, od, kV, doc, pm, an, cdv, ct, osl, rfl, lk, hcd⟩ := F.ex
  refine fn_of lk hcd S (fun vs H Q E h => h.1) fun A outer s H vs Q E hr h => ?_
  refine ⟨_, (hbody cdv A outer s H E hr).pss, ?_⟩
  obtain ⟨hl, ds, B, r, hb, h⟩ := h
  refine ⟨_, noOw, B, start_rep r hb (by rw [hl]; exact hn), ?_⟩
  unfold fn at h
  have fin : ∀ d, (∀ v H' os, Same H H' → RepD (k0 K) (fun a => B a ∨ a ∈ os) H' d v os → os.Nodup → (∀ a ∈ os, H a = none) → Q v H') → AftR (k0 K) B noOw H Q d := fun d h v H' os r nd k n =>
    h v H' os (fun a o e => k a o e (.inl fun _ z => nomatch z)) r nd fun a m => (n a m).elim (fun ⟨_, z⟩ => nomatch z) id
  cases e : b (ds.map some ++ List.replicate (N.length - ds.length) none) with
  | ret d => rw [e] at h; exact fin d h
  | nx ρ =>
    rw [e] at h
    exact fun σ' H' ow' s' c => h .non H' [] (fun a o e => c.keep a o e (.inl fun _ z => nomatch z)) .non List.nodup_nil fun _ z => nomatch z
  | exc ρ C fs => rw [e] at h; exact fun σ' H' ow' cls dd s' c x => h cls dd H' (fun a o e => c.keep a o e (.inl fun _ z => nomatch z)) x
  | bk ρ => rw [e] at h; exact h.elim
  | ct ρ => rw [e] at h; exact h.elim
  | stuck => rw [e] at h; exact h.elim
end
/-- f(..) -/
def eCall (F : List D → R D) (fa : En → R (List D)) : En → R D := fun ρ => (fa ρ).bind fun ds => F (frzL ds)
theorem rd_call {K : KX} {W : WX} (hk : K.xa = none) {S : List Nat} {σ : L2.St} {H : Hp} {n : Nat} {F : List D → R D} {fa : En → R (List D)} {Q : VK} (hn : ∀ ρ ds, fa ρ = .ok ds → ds.length = n) (h : rd K W S (eCall F fa) σ H Q) :
    rdA K W S fa σ H fun vs H1 => spD K.fr n F vs H1 Q (fun cls dd H' => W cls dd σ H') := by
  obtain ⟨K, xa⟩ := K
  cases (show xa = none from hk)
  obtain ⟨ρ, ow, B, s, h⟩ := h
  refine ⟨ρ, ow, B, s, ?_⟩
  unfold eCall at h
  cases ea : fa ρ with
  | stuck => rw [ea] at h; exact h
  | exc C fs => rw [ea] at h; exact h
  | ok ds =>
    rw [ea] at h
    dsimp only [R.bind_ok] at h
    intro vs H1 os q r nd nw
    have r' : RepL (k0 K) (OutS S ow B []) H1 (frzL ds) vs [] := r.frz fun a o e z => by
      rcases z with ⟨i, z, n⟩ | z | z
      · exact ⟨.inl ⟨i, z, n⟩, fun m => s.there z (nw a m)⟩
      · exact ⟨.inr (.inl z), fun m => s.bt a z (nw a m)⟩
      · exact nomatch z
    refine ⟨by rw [← r.length]; exact hn ρ ds ea, frzL ds, _, r', fun a z => ?_, ?_⟩
    · rcases z with ⟨i, z, _⟩ | z | z
      · exact fun e => s.there z (q.free e)
      · exact fun e => s.bt a z (q.free e)
      · exact nomatch z
    · cases ef : F (frzL ds) with
      | stuck => rw [ef] at h; exact h
      | exc C fs => rw [ef] at h; exact fun cls dd H' q2 x => h cls dd H' (q.trans q2) x
      | ok d =>
        rw [ef] at h
        exact fun v H' os q2 r nd n => h v H' os (q.trans q2) (r.keep (fun a o _ z => by
          rcases z with z | z | z
          · exact .inl (.inl z)
          · exact .inl (.inr (.inl z))
          · exact .inr z) (Kept.of_same (Same.refl _) _)) nd fun a m => q.free (n a m)
theorem eNil_len {ρ : En} {ds : List D} (h : eNil ρ = .ok ds) : ds.length = 0 := by cases h; rfl
theorem eCons_len {n : Nat} {fa : En → R D} {fb : En → R (List D)} (hb : ∀ ρ ds, fb ρ = .ok ds → ds.length = n) : ∀ ρ ds, eCons fa fb ρ = .ok ds → ds.length = n + 1 := fun ρ ds h => by
  unfold eCons at h
  cases ea : fa ρ with
  | stuck => rw [ea] at h; cases h
  | exc C fs => rw [ea] at h; cases h
  | ok d =>
    rw [ea] at h
    dsimp only [R.bind_ok] at h
    cases eb : fb ρ with
    | stuck => rw [eb] at h; cases h
    | exc C fs => rw [eb] at h; cases h
    | ok es => rw [eb] at h; cases h; exact congrArg (· + 1) (hb ρ es eb)
section
variable {X : CY} {W : WX} {S : List Nat} {k n : Nat} {f : Addr} {fd : FuncData} {ps : List Str} {F : List D → R D} {x : Str} {p pos : Pos} {e : Expr} {es : List Expr} {fa : En → R (List D)}
theorem de_call (tk : L2N.Takes X W) (G : FnOk X.prog X.w X.K X.mg X.base (L2N.CX X.prog X.w) k f fd ps (spD X.K n F)) (hr : Room k X.A) (hm : X.mg x = some (.ref f)) (hk : PySem.W.keepIn X.K (.ref f) = true) (hb : Binds X.K fd ps []) (ha : DA X W S (e :: es) fa)
    (hn : ∀ ρ ds, fa ρ = .ok ds → ds.length = n) (hg : Gl X x := by rfl) (hdb : (x == ("__debug__" : Str)) = false := by decide) (he : starEach (e :: es) X.env = (false, eval e X.env) :: starEach es X.env := by rfl) (hpl : (backTo pos (starEach es X.env)).any (·.1) = false := by rfl) (hxa : X.xa = none := by rfl) :
    DE X W S (.Call (.Name x p) (e :: es) [] pos) (eCall F fa) :=
  ⟨(pe_callSD (dvs := []) (E := fun σ cls dd H' => W cls dd σ H') G hr hg hm hk hb .nil (fun σ => L2N.passAt tk σ) ha.pa hdb he hpl).imp fun σ H Q h => by
    have := rd_call (K := kx X) hxa hn h
    unfold tCallSD
    simpa only [List.append_nil] using this⟩
end
end TL
/-! T7: operators over trees -/
namespace TL
open PySem PySem.Spec PyProof.Rows L2

section
variable {X : Cx}
theorem _root_.L2.UnR.orr {f : Value → Sem Value} {r r' : V → Hp → VK → Prop} (h : UnR X f r) (h' : UnR X f r') : UnR X f (fun x H Q => r x H Q ∨ r' x H Q) := fun pins s σ H x v Q I rx q => q.elim (h pins s σ H x v Q I rx) (h' pins s σ H x v Q I rx)
end
/-! ### helpers -/
theorem Done.flat {K : KX} {O : Addr → Prop} {H : Hp} {o : List Addr} {d : D} {Q : VK} {v : V} (h : Done K O H o d Q) (r : ∀ O', RepD K O' H d v []) : Q v H := h v H [] (Same.refl H) (r _) List.nodup_nil fun _ z => nomatch z
theorem same_new {H : Hp} {p : Addr} {u : HO} (hp : H p = none) : Same H (upd H p u) := fun b o e => by rw [upd_ne (ne_of_none e hp)]; exact e
/-- a new list of given items -/
theorem Done.lst {K : KX} {O : Addr → Prop} {H : Hp} {o os : List Addr} {xs : List D} {vs : List V} {Q : VK} (h : Done K O H o (.lst true xs) Q) (r : RepL K O H xs vs os) (nd : os.Nodup) (ho : ∀ a ∈ os, a ∈ o) (hO : ∀ a ∈ os, O a) {p : Addr} (hp : H p = none) : Q (.ref p) (upd H p (.lst vs)) := by
  refine h _ _ (p :: os) (same_new hp) (.lstO upd_same (r.keep (fun a u e z => ?_) (Kept.of_same (same_new hp) _))) (List.nodup_cons.mpr ⟨fun z => r.there p z hp, nd⟩) fun a m => ?_
  · rcases z with z | z
    · exact z
    · rcases List.mem_cons.mp z with q | z
      · rw [q, hp] at e; cases e
      · exact hO a z
  · rcases List.mem_cons.mp m with q | m
    · exact .inr (by rw [q]; exact hp)
    · exact .inl (ho a m)
theorem Done.tup {K : KX} {O : Addr → Prop} {H : Hp} {o os : List Addr} {xs : List D} {vs : List V} {Q : VK} (h : Done K O H o (.tup xs) Q) (r : RepL K O H xs vs os) (nd : os.Nodup) (ho : ∀ a ∈ os, a ∈ o) (hO : ∀ a ∈ os, O a) {p : Addr} (hp : H p = none) : Q (.ref p) (upd H p (.tup vs)) := by
  refine h _ _ os (same_new hp) (.tup upd_same (r.keep (fun a u e z => z.elim id (hO a)) (Kept.of_same (same_new hp) _))) nd fun a m => .inl (ho a m)
theorem RepL.getO {K : KX} {O : Addr → Prop} {H : Hp} : ∀ {xs : List D} {vs : List V} {os : List Addr} {i : Nat} {d : D}, RepL K O H xs vs os → os.Nodup → xs[i]? = some d → ∃ v o', vs[i]? = some v ∧ RepD K O H d v o' ∧ o'.Nodup ∧ ∀ a ∈ o', a ∈ os
  | _, _, _, _, _, .nil, _, h => nomatch h
  | _, _, _, 0, _, .cons r1 _, nd, h => by
    cases h
    exact ⟨_, _, rfl, r1, (List.nodup_append.mp nd).1, fun a m => List.mem_append_left _ m⟩
  | _, _, _, i + 1, _, .cons _ r2, nd, h => by
    obtain ⟨v, o', h1, h2, h3, h4⟩ := RepL.getO (i := i) r2 (List.nodup_append.mp nd).2.1 h
    exact ⟨v, o', h1, h2, h3, fun a m => List.mem_append_right _ (h4 a m)⟩
/-! no part that can change -/
mutual
def D.val : D → Bool
  | .tup xs => valL xs
  | .lst _ _ => false
  | .dct _ _ _ => false
  | .ins _ _ _ => false
  | .kl _ => false
  | .kt _ => false
  | .xr _ _ => false
  | _ => true
def valL : List D → Bool
  | [] => true
  | d :: r => d.val && valL r
end
mutual
theorem RepD.val {K : KX} {O O' : Addr → Prop} {H : Hp} : ∀ {d : D} {v : V} {os : List Addr}, RepD K O H d v os → d.val = true → os = [] ∧ RepD K O' H d v []
  | _, _, _, .non, _ => ⟨rfl, .non⟩
  | _, _, _, .bl b, _ => ⟨rfl, .bl b⟩
  | _, _, _, .int b, _ => ⟨rfl, .int b⟩
  | _, _, _, .str b, _ => ⟨rfl, .str b⟩
  | _, _, _, .tup h r, c => ⟨(RepL.val (O' := O') r c).1, .tup h (RepL.val r c).2⟩
  | _, _, _, .lstF _ _ _, c => nomatch c
  | _, _, _, .lstO _ _, c => nomatch c
  | _, _, _, .kl _ _, c => nomatch c
  | _, _, _, .kt _ _, c => nomatch c
  | _, _, _, .xr0 _ _, c => nomatch c
  | _, _, _, .xr1 _ _ _ _, c => nomatch c
  | _, _, _, .dkF _ _ _, c => nomatch c
  | _, _, _, .dkO _ _, c => nomatch c
  | _, _, _, .dtF _ _ _, c => nomatch c
  | _, _, _, .dtO _ _, c => nomatch c
  | _, _, _, .insF _ _ _ _, c => nomatch c
  | _, _, _, .insO _ _ _, c => nomatch c
theorem RepL.val {K : KX} {O O' : Addr → Prop} {H : Hp} : ∀ {d : List D} {v : List V} {os : List Addr}, RepL K O H d v os → valL d = true → os = [] ∧ RepL K O' H d v []
  | _, _, _, .nil, _ => ⟨rfl, .nil⟩
  | _, _, _, .cons h r, c => ⟨List.append_eq_nil_iff.mpr ⟨(RepD.val (O' := O') h (Bool.and_eq_true_iff.mp c).1).1, (RepL.val (O' := O') r (Bool.and_eq_true_iff.mp c).2).1⟩,
    .cons (o1 := []) (o2 := []) (RepD.val h (Bool.and_eq_true_iff.mp c).1).2 (RepL.val r (Bool.and_eq_true_iff.mp c).2).2⟩
end

/-! ### ints -/
def gI (f : Int → Int → Option D) : D → D → Option D := fun x y => match x, y with
  | .int i, .int j => f i j
  | _, _ => none
theorem gI_inv {f : Int → Int → Option D} {x y d : D} (h : gI f x y = some d) : ∃ i j, x = .int i ∧ y = .int j ∧ f i j = some d := by
  unfold gI at h
  split at h
  · exact ⟨_, _, rfl, rfl, h⟩
  · cases h
def gSub : D → D → Option D := gI fun i j => some (.int (i - j))
def gMod : D → D → Option D := gI fun i j => if 0 < j then some (.int (i % j)) else none
def gDiv : D → D → Option D := gI fun i j => if 0 < j ∧ j < 2 ^ 62 then some (.int (i / j)) else none
def gPow : D → D → Option D := gI fun i j => if 0 ≤ j ∧ j ≤ 1000 ∧ -(2 ^ 63) < i ∧ i < 2 ^ 63 then some (.int (i ^ j.toNat)) else none
def gNeg : D → Option D
  | .int i => some (.int (-i))
  | _ => none
section
variable {K : KX}
theorem fits_I {f : Int → Int → Option D} {C : Int → Int → Prop} {g : Int → Int → V} (h : ∀ i j d, f i j = some d → C i j ∧ ∀ O H, RepD K O H d (g i j) []) : Fits2 K (gI f) (rI C g) := by
  intro O H x y v1 v2 o1 o2 d Q r1 r2 nd m e dn
  obtain ⟨i, j, rfl, rfl, e⟩ := gI_inv e
  cases r1
  cases r2
  obtain ⟨c, r⟩ := h i j d e
  exact ⟨i, j, rfl, rfl, c, dn.flat fun O' => r O' H⟩
theorem fits_I0 {f : Int → Int → Option D} {g : Int → Int → V} (h : ∀ i j d, f i j = some d → ∀ O H, RepD K O H d (g i j) []) : Fits2 K (gI f) (rI0 g) := by
  intro O H x y v1 v2 o1 o2 d Q r1 r2 nd m e dn
  obtain ⟨i, j, rfl, rfl, e⟩ := gI_inv e
  cases r1
  cases r2
  exact ⟨i, j, rfl, rfl, dn.flat fun O' => h i j d e O' H⟩
theorem fits_sub : Fits2 K gSub (rI0 fun i j => .int (i - j)) := fits_I0 fun i j d e O H => by cases e; exact .int _
theorem fits_mod : Fits2 K gMod (rI (fun _ j => 0 < j) fun i j => .int (i % j)) := fits_I fun i j d e => by
  split at e
  · rename_i h; cases e; exact ⟨h, fun _ _ => .int _⟩
  · cases e
theorem fits_div : Fits2 K gDiv (rI CDivW fun i j => .int (i / j)) := fits_I fun i j d e => by
  split at e
  · rename_i h
    cases e
    exact ⟨wide_div (b := 62) h.1 (by omega) (by decide) (by decide), fun _ _ => .int _⟩
  · cases e
theorem fits_pow : Fits2 K gPow (rI CPow fun i j => .int (i ^ j.toNat)) := fits_I fun i j d e => by
  split at e
  · rename_i h
    cases e
    exact ⟨⟨h.1, by omega, by omega⟩, fun _ _ => .int _⟩
  · cases e
theorem fits_neg : Fits1 K gNeg (rU fun i => .int (-i)) := by
  intro O H x v o d Q r nd m e dn
  cases x with
  | int i => cases e; cases r; exact ⟨i, rfl, dn.flat fun _ => .int _⟩
  | _ => cases e
end

/-! ### + -/
theorem _root_.L2.Inv.lstR {X : Cx} {pins : List (Addr × Obj)} {σ : L2.St} {H : Hp} {s : Shared} {l : Addr} {xs : List V} (I : Inv X pins σ H s) (h : Rd H l (.lst xs)) :
    xs.length ≤ sizeLine ∧ ∃ (its : List Value) (n : Nat), Vals xs its ∧ xs.length = its.length ∧ s.heap.get? l = some { cls := .type "list", data := .seq its.toArray n } := by
  obtain ⟨z, its, n, r, e⟩ := h.ok I.hok
  exact ⟨z, its, n, r, r.length, e⟩
section
variable {X : Cx}
/-- two lists that may be read -/
def rCatR : R2 := fun x y H Q => ∃ l b xs zs, x = .ref l ∧ y = .ref b ∧ Rd H l (.lst xs) ∧ Rd H b (.lst zs) ∧ xs.length + zs.length ≤ sizeLine ∧ ∀ p, H p = none → Q (.ref p) (upd H p (.lst (xs ++ zs)))
theorem op_catR : OpR X (binaryOp .Add) rCatR := by
  intro pins s σ H x y v u Q I rx ry h
  obtain ⟨l, b, xs, zs, rfl, rfl, h1, h2, hz, q⟩ := h
  cases rx
  cases ry
  obtain ⟨_, us, n, r, gl, e⟩ := I.lstR h1
  obtain ⟨_, ws, m, t, gm, f⟩ := I.lstR h2
  refine PySem.P.add_list e f ?_ (by simp only [List.size_toArray]; omega)
  rw [List.append_toArray]
  exact ⟨.ref _, _, I.lnew (t' := s.toks) (r.append t) (by rw [List.length_append]; exact hz), rfl, q _ I.fresh⟩
end
def gAdd : D → D → Option D
  | .int i, .int j => some (.int (i + j))
  | .str i, .str j => if i.length + j.length ≤ 16777216 then some (.str (i ++ j)) else none
  | .lst _ xs, .lst _ ys => if xs.length + ys.length ≤ 16777216 then some (.lst true (xs ++ ys)) else none
  | .tup (x :: xs), .tup (y :: ys) => if xs.length + ys.length + 2 ≤ 16777216 then some (.tup (x :: xs ++ y :: ys)) else none
  | _, _ => none
def rAddG (K : PySem.W.Frag) : R2 := fun x y H Q => rI0 (fun i j => .int (i + j)) x y H Q ∨ (∃ i j, x = .str i ∧ y = .str j ∧ i.length + j.length ≤ sizeLine ∧ Q (.str (i ++ j)) H) ∨ rCatR x y H Q ∨ rCatT K x y H Q
theorem op_addG {X : Cx} : OpR X (binaryOp .Add) (rAddG X.K) := op_add.or (op_add_str.or (op_catR.or op_catT))
theorem lst_part {K : KX} {O : Addr → Prop} {H : Hp} {o : Bool} {xs : List D} {v : V} {os : List Addr} (r : RepD K O H (.lst o xs) v os) (nd : os.Nodup) : ∃ a vs o', v = .ref a ∧ Rd H a (.lst vs) ∧ RepL K O H xs vs o' ∧ o'.Nodup ∧ (∀ b ∈ o', b ∈ os) := by
  cases r with
  | lstF h n r => exact ⟨_, _, [], rfl, h, r, nd, fun _ z => z⟩
  | lstO h r => exact ⟨_, _, _, rfl, .inl h, r, (List.nodup_cons.mp nd).2, fun b m => List.mem_cons_of_mem _ m⟩
theorem nodup_parts {o1 o2 p1 p2 : List Addr} (nd : (o1 ++ o2).Nodup) (n1 : p1.Nodup) (n2 : p2.Nodup) (h1 : ∀ a ∈ p1, a ∈ o1) (h2 : ∀ a ∈ p2, a ∈ o2) : (p1 ++ p2).Nodup :=
  List.nodup_append.mpr ⟨n1, n2, fun a ha b hb e => (List.nodup_append.mp nd).2.2 a (h1 a ha) b (h2 b hb) e⟩
theorem fits_add {K : KX} : Fits2 K gAdd (rAddG K.fr) := by
  intro O H x y v1 v2 o1 o2 d Q r1 r2 nd m e dn
  unfold gAdd at e
  split at e
  · cases e
    cases r1
    cases r2
    exact .inl ⟨_, _, rfl, rfl, dn.flat fun _ => .int _⟩
  · split at e
    · rename_i hl
      cases e
      cases r1
      cases r2
      exact .inr (.inl ⟨_, _, rfl, rfl, by rw [sizeLine_eq]; exact hl, dn.flat fun _ => .str _⟩)
    · cases e
  · split at e
    · rename_i hl
      cases e
      obtain ⟨a, vs, p1, rfl, h1, q1, n1, s1⟩ := lst_part r1 (List.nodup_append.mp nd).1
      obtain ⟨b, ws, p2, rfl, h2, q2, n2, s2⟩ := lst_part r2 (List.nodup_append.mp nd).2.1
      have sub : ∀ c ∈ p1 ++ p2, c ∈ o1 ++ o2 := fun c z => (List.mem_append.mp z).elim (fun z => List.mem_append_left _ (s1 c z)) fun z => List.mem_append_right _ (s2 c z)
      refine .inr (.inr (.inl ⟨a, b, vs, ws, rfl, rfl, h1, h2, by rw [← q1.length, ← q2.length, sizeLine_eq]; exact hl, fun p hp => ?_⟩))
      exact dn.lst (q1.append q2) (nodup_parts nd n1 n2 s1 s2) sub (fun c z => m c (sub c z)) hp
    · cases e
  · split at e
    · rename_i hl
      cases e
      cases r1 with
      | tup h1 q1 =>
        cases r2 with
        | tup h2 q2 =>
          refine .inr (.inr (.inr ⟨_, _, _, _, rfl, rfl, .inl (.inl h1), .inl (.inl h2), ?_, ?_, fun z => ?_, fun _ p hp => ?_⟩))
          · cases q1; exact fun z => nomatch z
          · rw [← q1.length, ← q2.length, sizeLine_eq]
            simp only [List.length_cons]
            omega
          · cases q2; cases z
          · exact dn.tup (q1.append q2) nd (fun _ z => z) m hp
    · cases e
  · cases e
end TL
/-! T8: comparisons, in, subscripts, slices, built-in functions over trees -/
namespace TL
open PySem PySem.Spec PyProof.Rows L2

/-! ### data -/
mutual
def pyD : D → PyData
  | .non => .none
  | .bl b => .bool b
  | .int i => .int i
  | .str x => .str x
  | .tup xs => .tuple (pyL xs)
  | .lst _ xs => .list (pyL xs)
  | .kl xs => .list (pyL xs)
  | .kt xs => .tuple (pyL xs)
  | .dct _ _ _ => .none
  | .ins _ _ _ => .none
  | .xr _ _ => .none
def pyL : List D → List PyData
  | [] => []
  | d :: r => pyD d :: pyL r
end
mutual
/-- data of so many levels at most -/
def okN : Nat → D → Bool
  | _, .non => true
  | _, .bl _ => true
  | _, .int _ => true
  | _, .str x => PyData.strOk x
  | n, .tup xs => match n with | 0 => false | n + 1 => okNL n xs
  | n, .lst _ xs => match n with | 0 => false | n + 1 => okNL n xs
  | n, .kl xs => match n with | 0 => false | n + 1 => okNL n xs
  | n, .kt xs => match n with | 0 => false | n + 1 => okNL n xs
  | _, .dct _ _ _ => false
  | _, .ins _ _ _ => false
  | _, .xr _ _ => false
def okNL : Nat → List D → Bool
  | _, [] => true
  | n, d :: r => okN n d && okNL n r
end
mutual
theorem okN_lay : ∀ {d : D} {n : Nat}, okN n d = true → (pyD d).canLay0 = true ∧ (pyD d).depth ≤ n
  | .non, _, _ => ⟨by simp [pyD, PyData.canLay0], by simp [pyD, PyData.depth]⟩
  | .bl _, _, _ => ⟨by simp [pyD, PyData.canLay0], by simp [pyD, PyData.depth]⟩
  | .int _, _, _ => ⟨by simp [pyD, PyData.canLay0], by simp [pyD, PyData.depth]⟩
  | .str x, _, h => ⟨by simp only [pyD, PyData.canLay0]; simpa only [okN] using h, by simp [pyD, PyData.depth]⟩
  | .tup xs, 0, h => by simp [okN] at h
  | .lst _ xs, 0, h => by simp [okN] at h
  | .kl xs, 0, h => by simp [okN] at h
  | .kt xs, 0, h => by simp [okN] at h
  | .tup xs, n + 1, h => by
    have q := okNL_lay (n := n) (xs := xs) (by simpa only [okN] using h)
    exact ⟨by simp only [pyD, PyData.canLay0]; exact q.1, by simp only [pyD, PyData.depth]; omega⟩
  | .lst _ xs, n + 1, h => by
    have q := okNL_lay (n := n) (xs := xs) (by simpa only [okN] using h)
    exact ⟨by simp only [pyD, PyData.canLay0]; exact q.1, by simp only [pyD, PyData.depth]; omega⟩
  | .kl xs, n + 1, h => by
    have q := okNL_lay (n := n) (xs := xs) (by simpa only [okN] using h)
    exact ⟨by simp only [pyD, PyData.canLay0]; exact q.1, by simp only [pyD, PyData.depth]; omega⟩
  | .kt xs, n + 1, h => by
    have q := okNL_lay (n := n) (xs := xs) (by simpa only [okN] using h)
    exact ⟨by simp only [pyD, PyData.canLay0]; exact q.1, by simp only [pyD, PyData.depth]; omega⟩
  | .dct _ _ _, _, h => by simp [okN] at h
  | .ins _ _ _, _, h => by simp [okN] at h
  | .xr _ _, _, h => by simp [okN] at h
theorem okNL_lay : ∀ {xs : List D} {n : Nat}, okNL n xs = true → PyData.canLayAll0 (pyL xs) = true ∧ PyData.depthAll (pyL xs) ≤ n
  | [], _, _ => ⟨by simp [pyL, PyData.canLayAll0], by simp [pyL, PyData.depthAll]⟩
  | d :: r, n, h => by
    have h' : (okN n d && okNL n r) = true := by simpa only [okNL] using h
    have q1 := okN_lay (Bool.and_eq_true_iff.mp h').1
    have q2 := okNL_lay (Bool.and_eq_true_iff.mp h').2
    exact ⟨by simp only [pyL, PyData.canLayAll0, q1.1, q2.1, Bool.and_self], by simp only [pyL, PyData.depthAll]; omega⟩
end
mutual
theorem RepD.data {K : KX} {O : Addr → Prop} {H : Hp} : ∀ {d : D} {v : V} {os : List Addr} {n : Nat}, RepD K O H d v os → okN n d = true → Dp K.fr H v (pyD d)
  | _, _, _, _, .non, _ => .non
  | _, _, _, _, .bl b, _ => .bl b
  | _, _, _, _, .int i, _ => .int i
  | _, _, _, _, .str x, _ => .str x
  | _, _, _, 0, .tup _ _, h => by simp [okN] at h
  | _, _, _, n + 1, .tup h r, k => .tup (.inl (.inl h)) (RepL.data (n := n) r (by simpa only [okN] using k))
  | _, _, _, 0, .kt _ _, h => by simp [okN] at h
  | _, _, _, n + 1, .kt h r, k => .tup (.inr h) (RepL.data (n := n) r (by simpa only [okN] using k))
  | _, _, _, 0, .lstF _ _ _, h => by simp [okN] at h
  | _, _, _, n + 1, .lstF h _ r, k => .lst (.inl h) (RepL.data (n := n) r (by simpa only [okN] using k))
  | _, _, _, 0, .lstO _ _, h => by simp [okN] at h
  | _, _, _, n + 1, .lstO h r, k => .lst (.inl (.inl h)) (RepL.data (n := n) r (by simpa only [okN] using k))
  | _, _, _, 0, .kl _ _, h => by simp [okN] at h
  | _, _, _, n + 1, .kl h r, k => .lst (h.imp (fun z => z.1) id) (RepL.data (n := n) r (by simpa only [okN] using k))
  | _, _, _, _, .dkF _ _ _, h => by simp [okN] at h
  | _, _, _, _, .dkO _ _, h => by simp [okN] at h
  | _, _, _, _, .dtF _ _ _, h => by simp [okN] at h
  | _, _, _, _, .dtO _ _, h => by simp [okN] at h
  | _, _, _, _, .insF _ _ _ _, h => by simp [okN] at h
  | _, _, _, _, .insO _ _ _, h => by simp [okN] at h
  | _, _, _, _, .xr0 _ _, h => by simp [okN] at h
  | _, _, _, _, .xr1 _ _ _ _, h => by simp [okN] at h
theorem RepL.data {K : KX} {O : Addr → Prop} {H : Hp} : ∀ {d : List D} {v : List V} {os : List Addr} {n : Nat}, RepL K O H d v os → okNL n d = true → DpAll K.fr H v (pyL d)
  | _, _, _, _, .nil, _ => .nil
  | _, _, _, n, .cons h r, k => by
    rename_i d v ds vs o1 o2
    have k' : (okN n d && okNL n ds) = true := by simpa only [okNL] using k
    exact .cons (RepD.data h (Bool.and_eq_true_iff.mp k').1) (RepL.data r (Bool.and_eq_true_iff.mp k').2)
end
def eqD (x y : D) : Bool := PyData.eqv (pyD x) (pyD y)
def gEq : D → D → Option D := fun x y => if okN 9 x && okN 9 y then some (.bl (eqD x y)) else none
def gNe : D → D → Option D := fun x y => if okN 9 x && okN 9 y then some (.bl (!eqD x y)) else none
theorem okN_shaped {d : D} {n : Nat} (h : okN n d = true) (hn : n ≤ 64) : SeqAt.shaped (pyD d) = true := by
  have q := okN_lay h
  unfold SeqAt.shaped
  rw [q.1, Bool.true_and]
  exact decide_eq_true (Nat.le_trans q.2 hn)
theorem fits_eq {K : KX} : Fits2 K gEq (rEqD K.fr) := by
  intro O H x y v1 v2 o1 o2 d Q r1 r2 nd m e dn
  unfold gEq at e
  split at e
  · rename_i h
    obtain ⟨h1, h2⟩ := Bool.and_eq_true_iff.mp h
    cases e
    exact ⟨_, _, r1.data h1, r2.data h2, okN_shaped h1 (by decide), okN_shaped h2 (by decide), dn.flat fun _ => .bl _⟩
  · cases e
theorem fits_ne {K : KX} : Fits2 K gNe (rNeD K.fr) := by
  intro O H x y v1 v2 o1 o2 d Q r1 r2 nd m e dn
  unfold gNe at e
  split at e
  · rename_i h
    obtain ⟨h1, h2⟩ := Bool.and_eq_true_iff.mp h
    cases e
    exact ⟨_, _, r1.data h1, r2.data h2, okN_shaped h1 (by decide), okN_shaped h2 (by decide), dn.flat fun _ => .bl _⟩
  · cases e

/-! ### order -/
def intsOf : List D → Option (List Int)
  | [] => some []
  | .int i :: r => (intsOf r).map (i :: ·)
  | _ :: _ => none
theorem intsOf_rep {K : KX} {O : Addr → Prop} {H : Hp} : ∀ {xs : List D} {vs : List V} {os : List Addr} {ns : List Int}, RepL K O H xs vs os → intsOf xs = some ns → vs = ns.map V.int
  | _, _, _, _, .nil, h => by cases h; rfl
  | _, _, _, _, .cons (d := d) r1 r2, h => by
    cases d with
    | int i =>
      obtain ⟨ms, e1, e2⟩ := Option.map_eq_some_iff.mp (show (intsOf _).map (i :: ·) = some _ from h)
      cases r1
      rw [← e2, intsOf_rep r2 e1]
      rfl
    | _ => cases h
def lexLt (a b : List Int) : Bool := HT.lexLt a b
def gLt : D → D → Option D
  | .int i, .int j => some (.bl (decide (i < j)))
  | .tup xs, .tup ys => match intsOf xs, intsOf ys with
    | some a, some b => some (.bl (lexLt a b))
    | _, _ => none
  | _, _ => none
def gLe : D → D → Option D := gI fun i j => some (.bl (decide (i ≤ j)))
def gGt : D → D → Option D := gI fun i j => some (.bl (decide (j < i)))
def gGe : D → D → Option D := gI fun i j => some (.bl (decide (j ≤ i)))
def rLtG (K : PySem.W.Frag) : R2 := fun x y H Q => rI0 (fun i j => .bl (decide (i < j))) x y H Q ∨ rLtT K x y H Q
theorem op_ltG {X : Cx} (hu : X.A.units < cLine) : OpR X (compareOp .Lt) (rLtG X.K) := op_lt.or (op_ltT hu)
section
variable {K : KX}
theorem fits_lt : Fits2 K gLt (rLtG K.fr) := by
  intro O H x y v1 v2 o1 o2 d Q r1 r2 nd m e dn
  unfold gLt at e
  split at e
  · cases e
    cases r1
    cases r2
    exact .inl ⟨_, _, rfl, rfl, dn.flat fun _ => .bl _⟩
  · split at e
    · rename_i a b ha hb
      cases e
      cases r1 with
      | tup h1 q1 =>
        cases r2 with
        | tup h2 q2 =>
          have e1 := intsOf_rep q1 ha
          have e2 := intsOf_rep q2 hb
          subst e1 e2
          exact .inr ⟨_, _, a, b, rfl, rfl, .inl (.inl h1), .inl (.inl h2), dn.flat fun _ => .bl _⟩
    · cases e
  · cases e
theorem fits_le : Fits2 K gLe (rI0 fun i j => .bl (decide (i ≤ j))) := fits_I0 fun i j d e O H => by cases e; exact .bl _
theorem fits_gt : Fits2 K gGt (rI0 fun i j => .bl (decide (j < i))) := fits_I0 fun i j d e O H => by cases e; exact .bl _
theorem fits_ge : Fits2 K gGe (rI0 fun i j => .bl (decide (j ≤ i))) := fits_I0 fun i j d e O H => by cases e; exact .bl _
end

/-! ### in -/
def seqOf : D → Option (List D)
  | .lst _ xs => some xs
  | .tup xs => some xs
  | .kl xs => some xs
  | .kt xs => some xs
  | _ => none
def inD (x : D) (xs : List D) : Bool := xs.any fun z => eqD z x
def gInS (neg : Bool) : D → D → Option D := fun x y => match seqOf y with
  | some xs => if okN 9 x && okN 9 y then some (.bl (if neg then !inD x xs else inD x xs)) else none
  | none => none
theorem pyL_any {f : PyData → Bool} : ∀ xs : List D, (pyL xs).any f = xs.any fun d => f (pyD d)
  | [] => rfl
  | d :: r => by unfold pyL; rw [List.any_cons, List.any_cons, pyL_any r]
theorem pyL_map : ∀ xs : List D, pyL xs = xs.map pyD
  | [] => rfl
  | d :: r => congrArg (pyD d :: ·) (pyL_map r)
/-- in a list or tuple of data -/
def rInS (K : PySem.W.Frag) (neg : Bool) : R2 := fun x y H Q => ∃ d ds c, Dp K H x d ∧ Dp K H y c ∧ (c = .list ds ∨ c = .tuple ds) ∧ SeqAt.shaped d = true ∧ SeqAt.shaped c = true ∧ Q (.bl (if neg then !(ds.any fun z => PyData.eqv z d) else ds.any fun z => PyData.eqv z d)) H
theorem depth_room {A : Around} {d : PyData} {n : Nat} (s : SeqAt.shaped d = true) (hu : A.units + 65 < cLine) : A.units + 1 + min n d.depth < cLine := by
  have h := SeqAt.depth_of_shaped s
  have h2 := Nat.min_le_right n d.depth
  omega
theorem op_inS {X : Cx} (hu : X.A.units + 65 < cLine) : OpR X (compareOp .In) (rInS X.K false) := by
  intro pins s σ H x y v u Q I rx ry h
  obtain ⟨d, ds, c, hd, hc, ec, sd, sc, q⟩ := h
  obtain ⟨_, r1⟩ := Dp.reads I d x v hd rx
  obtain ⟨_, r2⟩ := Dp.reads I c y u hc ry
  rcases ec with ec | ec <;> subst ec
  · exact SeqAt.in_list_reads r2 r1 (SeqAt.canLay_of_shaped sc) (SeqAt.canLay_of_shaped sd) (depth_room sd hu) ⟨.bl _, H, I, rfl, q⟩
  · exact SeqAt.in_tuple_reads r2 r1 (SeqAt.canLay_of_shaped sc) (SeqAt.canLay_of_shaped sd) (depth_room sd hu) ⟨.bl _, H, I, rfl, q⟩
theorem op_niS {X : Cx} (hu : X.A.units + 65 < cLine) : OpR X (compareOp .NotIn) (rInS X.K true) := by
  intro pins s σ H x y v u Q I rx ry h
  obtain ⟨d, ds, c, hd, hc, ec, sd, sc, q⟩ := h
  obtain ⟨_, r1⟩ := Dp.reads I d x v hd rx
  obtain ⟨_, r2⟩ := Dp.reads I c y u hc ry
  rcases ec with ec | ec <;> subst ec
  · exact SeqAt.notIn_list_reads r2 r1 (SeqAt.canLay_of_shaped sc) (SeqAt.canLay_of_shaped sd) (depth_room sd hu) ⟨.bl _, H, I, rfl, q⟩
  · exact SeqAt.notIn_tuple_reads r2 r1 (SeqAt.canLay_of_shaped sc) (SeqAt.canLay_of_shaped sd) (depth_room sd hu) ⟨.bl _, H, I, rfl, q⟩
theorem fits_inS {K : KX} {neg : Bool} : Fits2 K (gInS neg) (rInS K.fr neg) := by
  intro O H x y v1 v2 o1 o2 d Q r1 r2 nd m e dn
  unfold gInS at e
  split at e
  · rename_i xs hs
    split at e
    · rename_i h
      obtain ⟨h1, h2⟩ := Bool.and_eq_true_iff.mp h
      cases e
      refine ⟨_, pyL xs, pyD y, r1.data h1, r2.data h2, ?_, okN_shaped h1 (by decide), okN_shaped h2 (by decide), ?_⟩
      · cases y with
        | lst o ys => cases hs; exact .inl rfl
        | tup ys => cases hs; exact .inr rfl
        | kl ys => cases hs; exact .inl rfl
        | kt ys => cases hs; exact .inr rfl
        | _ => cases hs
      · rw [pyL_any]
        exact dn.flat fun _ => .bl _
    · cases e
  · cases e

/-! ### is None -/
def gIsN : D → D → Option D := fun x y => match y with
  | .non => some (.bl (match x with | .non => true | _ => false))
  | _ => none
def gIsnN : D → D → Option D := fun x y => match y with
  | .non => some (.bl (match x with | .non => false | _ => true))
  | _ => none
theorem fits_isN {K : KX} : Fits2 K gIsN (fun x y H Q => y = .non ∧ Q (.bl (decide (x = .non))) H) := by
  intro O H x y v1 v2 o1 o2 d Q r1 r2 nd m e dn
  cases y with
  | non =>
    cases e
    cases r2
    refine ⟨rfl, ?_⟩
    cases r1 <;> exact dn.flat fun _ => .bl _
  | _ => cases e
theorem fits_isnN {K : KX} : Fits2 K gIsnN (fun x y H Q => y = .non ∧ Q (.bl (!decide (x = .non))) H) := by
  intro O H x y v1 v2 o1 o2 d Q r1 r2 nd m e dn
  cases y with
  | non =>
    cases e
    cases r2
    refine ⟨rfl, ?_⟩
    cases r1 <;> exact dn.flat fun _ => .bl _
  | _ => cases e

/-! ### subscripts -/
def gIx : D → D → Option D := fun x y => match y with
  | .int i => match x with
    | .lst _ xs => atI xs i
    | .tup xs => atI xs i
    | .kl xs => atI xs i
    | .kt xs => atI xs i
    | .str z => if z.length ≤ 16777216 then (atI z.cps.toList i).map fun c => .str ⟨#[c]⟩ else none
    | _ => none
  | _ => none
theorem atI_len {α β : Type} {xs : List α} {ys : List β} {i : Int} {a : α} (hl : xs.length = ys.length) (h : atI xs i = some a) : ∃ j : Nat, xs[j]? = some a ∧ ∀ b, ys[j]? = some b → atI ys i = some b := by
  unfold atI at h
  obtain ⟨j, e1, e2⟩ := Option.bind_eq_some_iff.mp h
  exact ⟨j, e2, fun b hb => by unfold atI; rw [← hl, e1]; exact hb⟩
theorem fits_ix {K : KX} : Fits2 K gIx (rIx K.fr) := by
  intro O H x y v1 v2 o1 o2 d Q r1 r2 nd m e dn
  have out : ∀ {xs : List D} {vs : List V} {os : List Addr} {i : Int}, RepL K O H xs vs os → os.Nodup → (∀ a ∈ os, a ∈ o1) → atI xs i = some d → ∃ v, atI vs i = some v ∧ Q v H := by
    intro xs vs os i r n sub h
    obtain ⟨j, hj, hv⟩ := atI_len r.length h
    obtain ⟨v, o', e1, rv, n', s'⟩ := r.getO n hj
    refine ⟨v, hv v e1, dn v H o' (Same.refl H) (rv.keep (fun a u _ z => z.elim id fun z => m a (List.mem_append_left _ (sub a (s' a z)))) (Kept.of_same (Same.refl _) _)) n' fun a z => .inl (List.mem_append_left _ (sub a (s' a z)))⟩
  have n1 := (List.nodup_append.mp nd).1
  cases y with
  | int i =>
    cases r2
    cases x with
    | lst o xs =>
      obtain ⟨a, vs, os, rfl, hr, r, n, sub⟩ := lst_part r1 n1
      obtain ⟨v, h1, h2⟩ := out r n sub e
      exact .inl ⟨a, vs, i, v, rfl, rfl, .inl hr, h1, h2⟩
    | tup xs =>
      cases r1 with
      | tup h r =>
        obtain ⟨v, h1, h2⟩ := out r n1 (fun _ z => z) e
        exact .inr (.inl ⟨_, _, i, v, rfl, rfl, .inl (.inl h), h1, h2⟩)
    | kt xs =>
      cases r1 with
      | kt h r =>
        obtain ⟨v, h1, h2⟩ := out r List.nodup_nil (fun _ z => nomatch z) e
        exact .inr (.inl ⟨_, _, i, v, rfl, rfl, .inr h, h1, h2⟩)
    | kl xs =>
      cases r1 with
      | kl h r =>
        obtain ⟨v, h1, h2⟩ := out r List.nodup_nil (fun _ z => nomatch z) e
        exact .inl ⟨_, _, i, v, rfl, rfl, h.imp (fun z => z.1) id, h1, h2⟩
    | str z =>
      cases r1
      have e' : (if z.length ≤ 16777216 then (atI z.cps.toList i).map fun c => D.str ⟨#[c]⟩ else none) = some d := e
      split at e'
      · rename_i hz
        obtain ⟨c, hc, ed⟩ := Option.map_eq_some_iff.mp e'
        subst ed
        exact .inr (.inr ⟨z, i, c, rfl, rfl, by rw [sizeLine_eq]; exact hz, hc, dn.flat fun _ => .str _⟩)
      · cases e'
    | _ => cases e
  | _ => cases e

/-! ### slices -/
def oNone : En → R (Option Int) := fun _ => .ok none
def oSome (f : En → R D) : En → R (Option Int) := fun ρ => (f ρ).bind fun d => match d with
  | .int i => .ok (some i)
  | _ => .stuck
def cutD (xs : List D) (lo hi : Option Int) : List D := (xs.drop (HT.sIx xs.length 0 lo)).take (HT.sIx xs.length xs.length hi - HT.sIx xs.length 0 lo)
def gSl : D → Option Int → Option Int → Option D := fun x lo hi => match x with
  | .lst _ xs => if valL xs then some (.lst true (cutD xs lo hi)) else none
  | .tup xs => if valL xs then some (.tup (cutD xs lo hi)) else none
  | _ => none
def eSl (f : En → R D) (lo hi : En → R (Option Int)) : En → R D := fun ρ => (f ρ).bind fun x => (lo ρ).bind fun l => (hi ρ).bind fun h => ofO (gSl x l h)
def rdO (K : KX) (W : WX) (f : En → R (Option Int)) : TO := fun σ H Q => ∃ ρ ow B, Stt K B ρ σ H ow ∧ match f ρ with
  | .ok o => ∀ H', Same H H' → Q o H'
  | .exc C fs => rdEx K W σ H C fs
  | .stuck => False
structure DO (X : CY) (W : WX) (e : Option Expr) (f : En → R (Option Int)) : Prop where
  po : PO X e (rdO (kx X) W f)
theorem RepL.cut {K : KX} {O : Addr → Prop} {H : Hp} {xs : List D} {vs : List V} (r : RepL K O H xs vs []) (lo hi : Option Int) : RepL K O H (cutD xs lo hi) (cutV vs lo hi) [] := by
  have dropR : ∀ (n : Nat) {xs : List D} {vs : List V}, RepL K O H xs vs [] → RepL K O H (xs.drop n) (vs.drop n) [] := by
    intro n
    induction n with
    | zero => intro xs vs r; exact r
    | succ n ih =>
      intro xs vs r
      generalize he : ([] : List Addr) = os at r
      cases r with
      | nil => exact .nil
      | cons r1 r2 =>
        obtain ⟨e1, e2⟩ := List.append_eq_nil_iff.mp he.symm
        subst e1 e2
        exact ih r2
  have takeR : ∀ (n : Nat) {xs : List D} {vs : List V}, RepL K O H xs vs [] → RepL K O H (xs.take n) (vs.take n) [] := by
    intro n
    induction n with
    | zero => intro xs vs r; exact .nil
    | succ n ih =>
      intro xs vs r
      generalize he : ([] : List Addr) = os at r
      cases r with
      | nil => exact .nil
      | cons r1 r2 =>
        obtain ⟨e1, e2⟩ := List.append_eq_nil_iff.mp he.symm
        subst e1 e2
        exact .cons (o1 := []) (o2 := []) r1 (ih r2)
  unfold cutD cutV
  rw [r.length]
  exact takeR _ (dropR _ r)
section
variable {X : CY} {W : WX} {S Sl Sh : List Nat} {e : Expr} {lo hi : Option Expr} {pos p2 : Pos} {fe fl : En → R D} {ol oh : En → R (Option Int)}
theorem _root_.L2.PO.imp {X : Cx} {e : Option Expr} {t t' : TO} (h : PO X e t) (m : ∀ σ H Q, t' σ H Q → t σ H Q) : PO X e t' := ⟨fun pins s σ H Q I q => h.run pins s σ H Q I (m σ H Q q)⟩
theorem do_none : DO X W none oNone := ⟨po_none.imp fun σ H Q ⟨ρ, ow, B, s, h⟩ => h H (Same.refl H)⟩
theorem do_some {e : Expr} (h : DE X W S e fl) : DO X W (some e) (oSome fl) := ⟨(po_some h.pe).imp fun σ H Q ⟨ρ, ow, B, s, h⟩ => by
  refine ⟨ρ, ow, B, s, ?_⟩
  unfold oSome at h
  cases ef : fl ρ with
  | stuck => rw [ef] at h; exact h
  | exc C fs => rw [ef] at h; exact h
  | ok d =>
    rw [ef] at h
    intro v H' os q r nd n
    cases d with
    | int i => cases r; exact ⟨i, rfl, h H' q⟩
    | _ => exact h.elim⟩
theorem de_slice (he : DE X W S e fe) (hl : DO X W lo ol) (hh : DO X W hi oh) : DE X W S (.Subscript e (.Slice lo hi none p2) pos) (eSl fe ol oh) :=
  ⟨(pe_slice (sl_list.or sl_tupA) he.pe hl.po hh.po).imp fun σ H Q ⟨ρ, ow, B, s, h⟩ => by
    refine ⟨ρ, ow, B, s, ?_⟩
    unfold eSl at h
    cases ef : fe ρ with
    | stuck => rw [ef] at h; exact h
    | exc C fs => rw [ef] at h; exact h
    | ok d =>
      rw [ef] at h
      dsimp only [R.bind_ok] at h
      intro v H1 os q r nd n
      refine ⟨ρ, ow, B, s.same q, ?_⟩
      cases el : ol ρ with
      | stuck => rw [el] at h; exact h
      | exc C fs => rw [el] at h; exact fun cls dd H2 q2 x => h cls dd H2 (q.trans q2) x
      | ok l =>
        rw [el] at h
        dsimp only [R.bind_ok] at h
        intro H2 q2
        refine ⟨ρ, ow, B, s.same (q.trans q2), ?_⟩
        cases eh : oh ρ with
        | stuck => rw [eh] at h; exact h
        | exc C fs => rw [eh] at h; exact fun cls dd H3 q3 x => h cls dd H3 ((q.trans q2).trans q3) x
        | ok hv =>
          rw [eh] at h
          dsimp only [R.bind_ok] at h
          intro H3 q3
          have q13 := (q.trans q2).trans q3
          cases eg : gSl d l hv with
          | none => rw [eg] at h; exact h.elim
          | some y =>
            rw [eg] at h
            have r3 := r.keep (O' := OutS S ow B os) (fun a o _ z => z) (Kept.of_same (q2.trans q3) _)
            cases d with
            | lst o xs =>
              have e' : (if valL xs then some (D.lst true (cutD xs l hv)) else none) = some y := eg
              split at e'
              · rename_i hv2
                cases e'
                obtain ⟨a, vs, o', rfl, hr, rl, n', sub⟩ := lst_part r3 nd
                have rv := (RepL.val (O' := OutS S ow B []) rl hv2).2
                refine .inl ⟨a, vs, rfl, .inl hr, fun p hp => ?_⟩
                have sm := same_new (u := .lst (cutV vs l hv)) hp
                exact h _ _ [p] (q13.trans sm) (.lstO upd_same ((rv.cut l hv).keep (fun a u e z => by
                  rcases z with z | z | z
                  · exact .inl z
                  · exact .inr (.inl z)
                  · rw [List.mem_singleton.mp z, hp] at e; cases e) (Kept.of_same sm _))) (by simp) fun a m => by rw [List.mem_singleton.mp m]; exact q13.free hp
              · cases e'
            | tup xs =>
              have e' : (if valL xs then some (D.tup (cutD xs l hv)) else none) = some y := eg
              split at e'
              · rename_i hv2
                cases e'
                cases r3 with
                | @tup a vs _ _ hr rl =>
                  have rv := (RepL.val (O' := OutS S ow B []) rl hv2).2
                  refine .inr ⟨_, _, rfl, .inl (.inl hr), fun w => ?_, fun w p hp => ?_⟩
                  · have ew : cutD xs l hv = xs := by
                      unfold cutD
                      rw [rl.length, w.1, w.2, List.drop_zero, Nat.sub_zero, ← rl.length, List.take_length]
                    rw [ew] at h
                    exact h _ _ [] q13 (.tup hr rv) List.nodup_nil fun _ z => nomatch z
                  · have sm := same_new (u := .tup (cutV vs l hv)) hp
                    exact h _ _ [] (q13.trans sm) (.tup upd_same ((rv.cut l hv).keep (fun a u e z => z) (Kept.of_same sm _))) List.nodup_nil fun _ z => nomatch z
              · cases e'
            | _ => cases eg⟩
end
end TL
/-! T9: built-in calls, what changes a local thing -/
namespace TL
open PySem PySem.Spec PyProof.Rows L2

/-! ### built-ins by name -/
section
variable {X : CY} {W : WX} {S : List Nat} {x : Str} {p pos : Pos} {e : Expr} {es : List Expr} {fa : En → R (List D)} {g : List D → Option D} {r : List V → Hp → VK → Prop} {id T : String}
theorem de_callB (hc : CallR X (.builtin id) r) (hf : FitsN (kx X) g r) (hm : X.mg x = none) (hv : bootBuiltins x = some (.builtin id)) (ha : DA X W S (e :: es) fa) (hg : Gl X x := by rfl) (hn : x ≠ "__name__" := by decide) (hdb : (x == ("__debug__" : Str)) = false := by decide)
    (he : starEach (e :: es) X.env = (false, eval e X.env) :: starEach es X.env := by rfl) (hpl : (backTo pos (starEach es X.env)).any (·.1) = false := by rfl) : DE X W S (.Call (.Name x p) (e :: es) [] pos) (eN g fa) :=
  ⟨(pe_callB hc hg hm hv ha.pa hn hdb he hpl).imp fun σ H Q h => rdN hf h⟩
theorem de_callTy (hc : CallR X (.type T) r) (hf : FitsN (kx X) g r) (hm : X.mg x = none) (hv : bootBuiltins x = some (.type T)) (ha : DA X W S (e :: es) fa) (hg : Gl X x := by rfl) (hn : x ≠ "__name__" := by decide) (hdb : (x == ("__debug__" : Str)) = false := by decide)
    (he : starEach (e :: es) X.env = (false, eval e X.env) :: starEach es X.env := by rfl) (hpl : (backTo pos (starEach es X.env)).any (·.1) = false := by rfl) : DE X W S (.Call (.Name x p) (e :: es) [] pos) (eN g fa) :=
  ⟨(pe_callTy hc hg hm hv ha.pa hn hdb he hpl).imp fun σ H Q h => rdN hf h⟩
end
theorem _root_.L2.CallR.orr {X : Cx} {f : Value} {r r' : List V → Hp → VK → Prop} (h : CallR X f r) (h' : CallR X f r') : CallR X f (fun xs H Q => r xs H Q ∨ r' xs H Q) := h.or h'
theorem RepL.one {K : KX} {O : Addr → Prop} {H : Hp} {d : D} {vs : List V} {os : List Addr} (r : RepL K O H [d] vs os) : ∃ v, vs = [v] ∧ RepD K O H d v os := by
  cases r with
  | cons r1 r2 => cases r2; exact ⟨_, rfl, by rw [List.append_nil]; exact r1⟩
theorem RepL.two {K : KX} {O : Addr → Prop} {H : Hp} {d e : D} {vs : List V} {os : List Addr} (r : RepL K O H [d, e] vs os) : ∃ v w o1 o2, vs = [v, w] ∧ os = o1 ++ o2 ∧ RepD K O H d v o1 ∧ RepD K O H e w o2 := by
  cases r with
  | cons r1 r2 =>
    obtain ⟨w, rfl, q2⟩ := r2.one
    exact ⟨_, w, _, _, rfl, rfl, r1, q2⟩
section
variable {K : KX}
def gLen : List D → Option D
  | [.lst _ xs] => some (.int xs.length)
  | [.tup xs] => some (.int xs.length)
  | [.kl xs] => some (.int xs.length)
  | [.str x] => if x.length ≤ 16777216 then some (.int x.length) else none
  | _ => none
def rLen (K : PySem.W.Frag) : List V → Hp → VK → Prop := fun xs H Q => ∃ x n, xs = [x] ∧ LenV K x H n ∧ Q (.int n) H
theorem fits_len : FitsN K gLen (rLen K.fr) := by
  intro O H xs vs o d Q r nd m e dn
  unfold gLen at e
  split at e
  · cases e
    obtain ⟨v, rfl, q⟩ := r.one
    obtain ⟨a, ws, o', rfl, hr, rl, _, _⟩ := lst_part q nd
    exact ⟨_, _, rfl, .inl ⟨ws, .inl hr, rl.length⟩, dn.flat fun _ => .int _⟩
  · cases e
    obtain ⟨v, rfl, q⟩ := r.one
    cases q with
    | tup h rl => exact ⟨_, _, rfl, .inr ⟨_, .inl (.inl h), rl.length⟩, dn.flat fun _ => .int _⟩
  · cases e
    obtain ⟨v, rfl, q⟩ := r.one
    cases q with
    | kl h rl => exact ⟨_, _, rfl, .inl ⟨_, h.imp (fun z => z.1) id, rl.length⟩, dn.flat fun _ => .int _⟩
  · split at e
    · rename_i hz
      cases e
      obtain ⟨v, rfl, q⟩ := r.one
      cases q
      exact ⟨_, _, rfl, (show _ ∧ _ from ⟨by rw [sizeLine_eq]; exact hz, rfl⟩), dn.flat fun _ => .int _⟩
    · cases e
  · cases e
def gInt : List D → Option D
  | [.int i] => some (.int i)
  | [.bl b] => some (.int (if b then 1 else 0))
  | _ => none
theorem fits_int : FitsN K gInt (fun xs H Q => (∃ i, xs = [.int i] ∧ Q (.int i) H) ∨ ∃ k, xs = [.bl k] ∧ Q (.int (if k then 1 else 0)) H) := by
  intro O H xs vs o d Q r nd m e dn
  unfold gInt at e
  split at e
  · cases e
    obtain ⟨v, rfl, q⟩ := r.one
    cases q
    exact .inl ⟨_, rfl, dn.flat fun _ => .int _⟩
  · cases e
    obtain ⟨v, rfl, q⟩ := r.one
    cases q
    exact .inr ⟨_, rfl, dn.flat fun _ => .int _⟩
  · cases e
def gAbs : List D → Option D
  | [.int i] => some (.int (if i < 0 then -i else i))
  | _ => none
theorem fits_abs : FitsN K gAbs (fun xs H Q => ∃ i, xs = [.int i] ∧ Q (.int (if i < 0 then -i else i)) H) := by
  intro O H xs vs o d Q r nd m e dn
  unfold gAbs at e
  split at e
  · cases e
    obtain ⟨v, rfl, q⟩ := r.one
    cases q
    exact ⟨_, rfl, dn.flat fun _ => .int _⟩
  · cases e
def gMax2 : List D → Option D
  | [.int i, .int j] => some (.int (if j > i then j else i))
  | _ => none
def gMin2 : List D → Option D
  | [.int i, .int j] => some (.int (if j < i then j else i))
  | _ => none
theorem fits_max2 : FitsN K gMax2 (fun xs H Q => ∃ i j, xs = [.int i, .int j] ∧ Q (.int (if j > i then j else i)) H) := by
  intro O H xs vs o d Q r nd m e dn
  unfold gMax2 at e
  split at e
  · cases e
    obtain ⟨v, w, _, _, rfl, _, r1, r2⟩ := r.two
    cases r1
    cases r2
    exact ⟨_, _, rfl, dn.flat fun _ => .int _⟩
  · cases e
theorem fits_min2 : FitsN K gMin2 (fun xs H Q => ∃ i j, xs = [.int i, .int j] ∧ Q (.int (if j < i then j else i)) H) := by
  intro O H xs vs o d Q r nd m e dn
  unfold gMin2 at e
  split at e
  · cases e
    obtain ⟨v, w, _, _, rfl, _, r1, r2⟩ := r.two
    cases r1
    cases r2
    exact ⟨_, _, rfl, dn.flat fun _ => .int _⟩
  · cases e
def gListOf : List D → Option D
  | [.lst _ xs] => some (.lst true xs)
  | [.tup xs] => some (.lst true xs)
  | [.kl xs] => some (.lst true xs)
  | _ => none
theorem fits_listOf : FitsN K gListOf (fun xs H Q => ∃ p ys, xs = [.ref p] ∧ (SqL K.fr H p ys ∨ SqT K.fr H p ys) ∧ ∀ l, H l = none → Q (.ref l) (upd H l (.lst ys))) := by
  intro O H xs vs o d Q r nd m e dn
  unfold gListOf at e
  split at e
  · cases e
    obtain ⟨v, rfl, q⟩ := r.one
    obtain ⟨a, ws, o', rfl, hr, rl, n', sub⟩ := lst_part q nd
    exact ⟨a, ws, rfl, .inl (.inl hr), fun l hl => dn.lst rl n' sub (fun a z => m a (sub a z)) hl⟩
  · cases e
    obtain ⟨v, rfl, q⟩ := r.one
    cases q with
    | tup h rl => exact ⟨_, _, rfl, .inr (.inl (.inl h)), fun l hl => dn.lst rl nd (fun _ z => z) m hl⟩
  · cases e
    obtain ⟨v, rfl, q⟩ := r.one
    cases q with
    | kl h rl => exact ⟨_, _, rfl, .inl (h.imp (fun z => z.1) id), fun l hl => dn.lst rl List.nodup_nil (fun _ z => nomatch z) (fun _ z => nomatch z) hl⟩
  · cases e
def gTupOf : List D → Option D
  | [.lst _ xs] => some (.tup xs)
  | [.tup xs] => some (.tup xs)
  | _ => none
theorem fits_tupOf : FitsN K gTupOf (fun xs H Q => ∃ p ys, xs = [.ref p] ∧ ((SqL K.fr H p ys ∧ ∀ l, H l = none → Q (.ref l) (upd H l (.tup ys))) ∨ (SqT K.fr H p ys ∧ Q (.ref p) H))) := by
  intro O H xs vs o d Q r nd m e dn
  unfold gTupOf at e
  split at e
  · cases e
    obtain ⟨v, rfl, q⟩ := r.one
    obtain ⟨a, ws, o', rfl, hr, rl, n', sub⟩ := lst_part q nd
    exact ⟨a, ws, rfl, .inl ⟨.inl hr, fun l hl => dn.tup rl n' sub (fun a z => m a (sub a z)) hl⟩⟩
  · cases e
    obtain ⟨v, rfl, q⟩ := r.one
    cases q with
    | tup h rl => exact ⟨_, _, rfl, .inr ⟨.inl (.inl h), dn _ _ o (Same.refl _) (.tup h (rl.keep (fun a u _ z => z.elim id (m a)) (Kept.of_same (Same.refl _) _))) nd fun a z => .inl z⟩⟩
  · cases e
end

/-! ### isinstance with a built-in class -/
def tyName : D → String
  | .non => "NoneType"
  | .bl _ => "bool"
  | .int _ => "int"
  | .str _ => "str"
  | .tup _ => "tuple"
  | .lst _ _ => "list"
  | .kl _ => "list"
  | .dct _ _ _ => "dict"
  | .kt _ => "tuple"
  | .ins _ _ _ => "object"
  | .xr _ _ => "object"
def subTy (t c : String) : Bool := t == c || (t == "bool" && c == "int")
def gIsi (c : String) : D → Option D
  | .ins _ _ _ => none
  | .xr _ _ => none
  | .dct _ _ _ => none
  | d => some (.bl (subTy (tyName d) c))
theorem kit_all {K : KX} : ∀ t ∈ ["NoneType", "bool", "int", "str", "tuple", "list", "dict"], ∀ c ∈ ["bool", "int", "str", "tuple", "list", "dict"], kitB t c = some (subTy t c) := by decide +kernel
theorem RepD.ty {K : KX} {O : Addr → Prop} {H : Hp} {d : D} {v : V} {os : List Addr} (r : RepD K O H d v os) (h : ∀ o C fs, d ≠ .ins o C fs) (h2 : ∀ o t fs, d ≠ .dct o t fs) (h3 : ∀ C fs, d ≠ .xr C fs) : TyX K.fr H v (.type (tyName d)) ∧ tyName d ∈ ["NoneType", "bool", "int", "str", "tuple", "list", "dict"] := by
  have rdl : ∀ {a : Addr} {vs : List V}, Rd H a (.lst vs) → TyX K.fr H (.ref a) (.type "list") := fun {a vs} z => z.elim (fun z => .base (.lst z)) fun ⟨_, z⟩ => .base (.frz z)
  cases r with
  | non => exact ⟨.base .non, by show "NoneType" ∈ _; decide⟩
  | bl b => exact ⟨.base (.bl b), by show "bool" ∈ _; decide⟩
  | int i => exact ⟨.base (.int i), by show "int" ∈ _; decide⟩
  | str x => exact ⟨.base (.str x), by show "str" ∈ _; decide⟩
  | tup q _ =>
    refine ⟨?_, by show "tuple" ∈ _; decide⟩
    exact .base (.tup q)
  | kt q _ =>
    obtain ⟨o, its, n, k, c, _⟩ := q
    exact ⟨.kTuple k c, by show "tuple" ∈ _; decide⟩
  | lstF q _ _ => exact ⟨rdl q, by show "list" ∈ _; decide⟩
  | lstO q _ => exact ⟨rdl (.inl q), by show "list" ∈ _; decide⟩
  | kl q _ =>
    refine ⟨?_, by show "list" ∈ _; decide⟩
    rcases q with q | ⟨o, its, n, k, c, _⟩
    · exact rdl q.1
    · exact .kList k c
  | dkF _ _ _ => exact absurd rfl (h2 _ _ _)
  | dkO _ _ => exact absurd rfl (h2 _ _ _)
  | dtF _ _ _ => exact absurd rfl (h2 _ _ _)
  | dtO _ _ => exact absurd rfl (h2 _ _ _)
  | xr0 _ _ => exact absurd rfl (h3 _ _)
  | xr1 _ _ _ _ => exact absurd rfl (h3 _ _)
  | insF _ _ _ _ => exact absurd rfl (h _ _ _)
  | insO _ _ _ => exact absurd rfl (h _ _ _)
section
variable {X : CY} {W : WX} {S : List Nat} {f t : Str} {p p2 pos : Pos} {e : Expr} {fa : En → R D} {c : String}
theorem de_isi (hm : X.mg f = none) (hv : bootBuiltins f = some (.builtin "isinstance")) (hmt : X.mg t = none) (hvt : bootBuiltins t = some (.type c)) (hc : c ∈ ["bool", "int", "str", "tuple", "list", "dict"]) (ha : DE X W S e fa)
    (hg : Gl X f := by rfl) (hgt : Gl X t := by rfl) (hn : f ≠ "__name__" := by decide) (hnt : t ≠ "__name__" := by decide) (hdb : (f == ("__debug__" : Str)) = false := by decide) (hdt : (t == ("__debug__" : Str)) = false := by decide)
    (he : starEach [e, .Name t p2] X.env = (false, eval e X.env) :: starEach [.Name t p2] X.env := by rfl) (he2 : starEach [.Name t p2] X.env = (false, eval (.Name t p2) X.env) :: starEach [] X.env := by rfl) (hpl : (backTo pos (starEach [.Name t p2] X.env)).any (·.1) = false := by rfl) :
    DE X W S (.Call (.Name f p) [e, .Name t p2] [] pos) (e1 (gIsi c) fa) :=
  ⟨(pe_callB call_isi hg hm hv (pa_cons ha.pe (pa_cons (pe_bltn (v := .ty c) hgt hmt hvt rfl hnt hdt) pa_nil he2) he) hn hdb he hpl).imp fun σ H Q h =>
    rd1 (r := fun v H Q => rIsi X.K [v, .ty c] H Q) (fun O H x v o d Q r nd m e dn => by
      have hx : ∀ o C fs, x ≠ .ins o C fs := fun o C fs z => by rw [z] at e; cases e
      have hy : ∀ o t fs, x ≠ .dct o t fs := fun o t fs z => by rw [z] at e; cases e
      have hz : ∀ C fs, x ≠ .xr C fs := fun C fs z => by rw [z] at e; cases e
      have ed : d = .bl (subTy (tyName x) c) := by
        cases x with
        | xr C fs => exact absurd rfl (hz _ _)
        | ins o C fs => exact absurd rfl (hx _ _ _)
        | dct o t fs => exact absurd rfl (hy _ _ _)
        | _ => exact (Option.some.inj e).symm
      subst ed
      obtain ⟨ty, tm⟩ := r.ty hx hy hz
      exact ⟨v, .ty c, _, _, _, rfl, .ty c, ty, kit_ty (kit_all (K := k0 X.K) _ tm c hc), dn.flat fun _ => .bl _⟩) h⟩
end

/-! ### what changes a local thing -/
/-- the receiver d at v, arguments ds at vs: it becomes d', the call gives ret -/
def MutOk (K : KX) (g : D → List D → Option (D × D)) (r : V → List V → Hp → VK → Prop) : Prop :=
  ∀ (O : Addr → Prop) H d ds v vs o os d' ret Q, RepD K O H d v o → RepL K O H ds vs os → (o ++ os).Nodup → (∀ a ∈ o ++ os, O a) → g d ds = some (d', ret) →
    (∀ H' w ov orr, (∀ a u, H a = some u → (a ∉ o ∨ Imm u) → H' a = some u) → RepD K (fun a => O a ∨ a ∈ ov ∨ a ∈ orr) H' d' v ov → RepD K (fun a => O a ∨ a ∈ ov ∨ a ∈ orr) H' ret w orr → (ov ++ orr).Nodup → (∀ a ∈ ov ++ orr, a ∈ o ++ os ∨ H a = none) → Q w H') → r v vs H Q
def tyD (T : String) : D → Bool
  | .lst true _ => T == "list"
  | .dct true _ _ => T == "dict"
  | _ => false
theorem tyD_ty {K : KX} {O : Addr → Prop} {H : Hp} {d : D} {v : V} {os : List Addr} {T : String} (r : RepD K O H d v os) (h : tyD T d = true) : tyV K.fr T v H := by
  cases r with
  | lstO q _ => exact .inl ⟨by simpa [tyD] using h, _, .inl (.inl q)⟩
  | dkO q _ => exact .inr (.inr (.inl ⟨by simpa [tyD] using h, .inl ⟨_, q⟩⟩))
  | dtO q _ => exact .inr (.inr (.inl ⟨by simpa [tyD] using h, .inr ⟨_, q⟩⟩))
  | _ => cases h
def sMutK (T : String) (i : Nat) (S : List Nat) (g : D → List D → Option (D × D)) (fa : En → R (List D)) (k : En → D → Out) : En → Out := fun ρ => match ρ[i]? with
  | some (some d0) => if tyD T d0 then lift (fa ρ) ρ fun ds => if cleanL ds || !S.contains i then (match g d0 ds with
    | some (d', ret) => k ((if cleanL ds then ρ else frzAt S ρ).set i (some d')) ret
    | none => .stuck) else .stuck else .stuck
  | _ => .stuck
def sMut (T : String) (i : Nat) (S : List Nat) (g : D → List D → Option (D × D)) (fa : En → R (List D)) : En → Out := sMutK T i S g fa fun ρ _ => .nx ρ
def sMutSet (T : String) (j i : Nat) (S : List Nat) (g : D → List D → Option (D × D)) (fa : En → R (List D)) : En → Out := sMutK T i S g fa fun ρ d => if j < ρ.length then .nx (ρ.set j (some d)) else .stuck
theorem frzAt_get {S : List Nat} {i : Nat} (h : i ∉ S) : ∀ {ρ : En}, (frzAt S ρ)[i]? = ρ[i]? := by
  induction S with
  | nil => intro ρ; rfl
  | cons j S ih =>
    intro ρ
    show (frzAt S (frz1 j ρ))[i]? = _
    rw [ih fun z => h (List.mem_cons_of_mem _ z)]
    unfold frz1
    split
    · rw [List.getElem?_set_ne fun z => h (by rw [z]; exact List.mem_cons_self)]
    · rfl
section
variable {K : KX} {B : Addr → Prop} {ow : Ow} {H H1 H' : Hp} {ρ : En} {σ : L2.St}
/-- slot i's thing has become d', its own parts changed -/
theorem Stt.changed {i : Nat} {d0 d' : D} {v : V} {os ov orr : List Addr} (s : Stt K (fun a => B a ∨ a ∈ os) ρ σ H1 ow) (h0 : ρ[i]? = some (some d0)) (hv : σ[i]? = some (some v)) (hb : ∀ a ∈ os, ¬ B a)
    (k : ∀ a u, H1 a = some u → (a ∉ ow i ∨ Imm u) → H' a = some u) (r : RepD K (fun a => (Oo ow B a ∨ a ∈ os) ∨ a ∈ ov ∨ a ∈ orr) H' d' v ov) (nd : (ov ++ orr).Nodup) (n : ∀ a ∈ ov ++ orr, a ∈ ow i ++ os ∨ H1 a = none) (tr : ∀ a ∈ orr, H' a ≠ none) :
    Stt K (fun a => B a ∨ a ∈ orr) (ρ.set i (some d')) σ H' (putO ow i ov) := by
  obtain ⟨n1, n2, n12⟩ := List.nodup_append.mp nd
  have hi : i < ρ.length := (List.getElem?_eq_some_iff.mp h0).1
  have far : ∀ a ∈ ov ++ orr, ∀ j, j ≠ i → a ∉ ow j := fun a m j hj z => by
    rcases n a m with q | q
    · rcases List.mem_append.mp q with q | q
      · exact hj (s.dj j i a z q)
      · exact s.bo j a z (.inr q)
    · exact s.there z q
  have farB : ∀ a ∈ ov ++ orr, ¬ B a := fun a m z => by
    rcases n a m with q | q
    · rcases List.mem_append.mp q with q | q
      · exact s.bo i a q (.inl z)
      · exact hb a q z
    · exact s.bt a (.inl z) q
  have hO : ∀ a u, H1 a = some u → Oo (putO ow i ov) (fun a => B a ∨ a ∈ orr) a → Oo ow (fun a => B a ∨ a ∈ os) a := fun a u e z => by
    have nw : a ∈ ov ++ orr → Oo ow (fun a => B a ∨ a ∈ os) a := fun m => by
      rcases n a m with q | q
      · rcases List.mem_append.mp q with q | q
        · exact .inl ⟨i, q⟩
        · exact .inr (.inr q)
      · rw [q] at e; cases e
    rcases z with ⟨j, z⟩ | z | z
    · unfold putO at z
      split at z
      · exact nw (List.mem_append_left _ z)
      · exact .inl ⟨j, z⟩
    · exact .inr (.inl z)
    · exact nw (List.mem_append_right _ z)
  refine ⟨by rw [List.length_set]; exact s.len, fun j d h => ?_, fun j h => ?_, fun j => ?_, fun j l a h1 h2 => ?_, fun a z => ?_, fun j a h z => ?_⟩
  · rcases getElem?_set_some h with ⟨rfl, e, _⟩ | ⟨hj, e⟩
    · cases e
      refine ⟨v, hv, ?_⟩
      rw [show putO ow j ov j = ov from if_pos rfl]
      refine r.keep (fun a u _ z => ?_) (Kept.of_same (Same.refl _) _)
      rcases z with ⟨l, z⟩ | z | z
      · unfold putO at z
        split at z
        · exact .inr (.inl z)
        · exact .inl (.inl (.inl ⟨l, z⟩))
      · exact .inl (.inl (.inr z))
      · exact .inr (.inr z)
    · obtain ⟨v', h1, r'⟩ := s.rep _ _ e
      refine ⟨v', h1, ?_⟩
      rw [show putO ow i ov j = ow j from if_neg hj]
      exact r'.keep hO fun a u e z => k a u e (by
        rcases z with z | z | z
        · exact .inl fun q => hj (s.dj j i a z q)
        · exact .inl fun q => z (.inl ⟨i, q⟩)
        · exact .inr z)
  · by_cases hj : j = i
    · exact absurd (by rw [hj, List.getElem?_set_self hi]) (h d')
    · rw [show putO ow i ov j = ow j from if_neg hj]
      refine s.dead j fun d'' q => h d'' ?_
      rw [List.getElem?_set_ne (Ne.symm hj)]; exact q
  · unfold putO
    split
    · exact n1
    · exact s.nd j
  · unfold putO at h1 h2
    split at h1
    · rename_i e1
      split at h2
      · rename_i e2; rw [e1, e2]
      · rename_i e2; exact absurd h2 (far a (List.mem_append_left _ h1) l e2)
    · rename_i e1
      split at h2
      · exact absurd h1 (far a (List.mem_append_left _ h2) j e1)
      · exact s.dj j l a h1 h2
  · rcases z with z | z
    · intro q
      cases e : H1 a with
      | none => exact s.bt a (.inl z) e
      | some u => rw [k a u e (.inl fun m => s.bo i a m (.inl z))] at q; cases q
    · exact tr a z
  · unfold putO at h
    split at h
    · rcases z with z | z
      · exact farB a (List.mem_append_left _ h) z
      · exact n12 a h a z rfl
    · rename_i hj
      rcases z with z | z
      · exact s.bo j a h (.inl z)
      · exact far a (List.mem_append_right _ z) j hj h
end
section
variable {X : CY} {W : WX} {S : List Nat} {i : Nat} {x nm : Str} {T id : String} {apos cpos p pos : Pos} {e : Expr} {es : List Expr} {fa : En → R (List D)} {g : D → List D → Option (D × D)} {r : V → List V → Hp → VK → Prop}
/-- the reading of a receiver's change, whatever stands behind -/
theorem mut_core {k : En → D → Out} (hg : MutOk (kx X) g r) {σ : L2.St} {H : Hp} {Ds : Ends} {Z : VK} (h : rdS (kx X) W (sMutK T i S g fa k) Ds σ H)
    (hz : ∀ ρ' ow' B ow H' d w orr, Stt (kx X) (fun a => B a ∨ a ∈ orr) ρ' σ H' ow' → RepD (kx X) (OutS [] ow' B orr) H' d w orr → orr.Nodup → (∀ a ∈ orr, ¬ B a) → Ch ow H ow' H' → (∀ a ∈ orr, (∃ j, a ∈ ow j) ∨ H a = none) → Post (kx X) W B ow H Ds (k ρ' d) → Z w H') :
    tVar i σ H fun v H1 => tyV X.K T v H1 ∧ rdA (kx X) W S fa σ H1 fun vs H2 => r v vs H2 Z := by
  obtain ⟨ρ, ow, B, s, h⟩ := h
  unfold sMutK at h
  split at h
  · rename_i d0 e0
    split at h
    · rename_i ty
      obtain ⟨v, hv, r0⟩ := s.rep i d0 e0
      refine ⟨v, hv, tyD_ty r0 ty, ρ, ow, B, s, ?_⟩
      cases ea : fa ρ with
      | stuck => rw [ea] at h; exact h
      | exc C fs => rw [ea] at h; exact fun cls dd H' q x => h σ H' ow cls dd (s.same q) (Ch.same q) x
      | ok ds =>
        rw [ea, lift_ok] at h
        intro vs H1 os q rl nd n
        split at h
        · rename_i hc
          split at h
          · rename_i d' ret eg
            -- the state with the arguments in the frame, S frozen if it must be
            have sf := s.withNew q n rl.there
            have hst : ∃ ow1, Stt (kx X) (fun a => B a ∨ a ∈ os) (if cleanL ds then ρ else frzAt S ρ) σ H1 ow1 ∧ RepL (kx X) (OutS [] ow1 B os) H1 ds vs os ∧ Ch ow H ow1 H1 ∧ ow1 i = ow i ∧ (if cleanL ds then ρ else frzAt S ρ)[i]? = some (some d0) := by
              by_cases c : cleanL ds = true
              · rw [if_pos c]
                exact ⟨ow, sf, rl.cln c, Ch.same q, rfl, e0⟩
              · rw [if_neg c]
                have hi : i ∉ S := fun m => by
                  rw [List.contains_iff_mem.mpr m] at hc
                  simp [c] at hc
                refine ⟨cutO ow S, sf.frzAt S, rl.keep (fun a o e z => ?_) (Kept.of_same (Same.refl _) _), (Ch.same q).trans (Ch.cut S), if_neg hi, by rw [frzAt_get hi]; exact e0⟩
                rcases z with ⟨j, z, _⟩ | z
                · unfold cutO at z
                  split at z
                  · exact nomatch z
                  · rename_i hj
                    exact .inl ⟨j, z, hj⟩
                · exact .inr z
            obtain ⟨ow1, s1, r1, c1, ei, e1⟩ := hst
            obtain ⟨v', hv', r0'⟩ := s1.rep i d0 e1
            have ev : v' = v := by rw [hv] at hv'; exact (Option.some.inj (Option.some.inj hv')).symm
            subst ev
            have hsub : ∀ a ∈ os, ∀ j, a ∉ ow1 j := fun a m j z => s1.bo j a z (.inr m)
            refine hg (fun a => Oo ow1 B a ∨ a ∈ os) H1 d0 ds v' vs (ow1 i) os d' ret Z (r0'.keep (fun a o _ z => ?_) (Kept.of_same (Same.refl _) _)) (r1.keep (fun a o _ z => ?_) (Kept.of_same (Same.refl _) _)) ?_ (fun a m => ?_) eg fun H' w ov orr k rd rr nd2 n2 => ?_
            · rcases z with (z | z) | z
              · exact .inl z
              · exact .inr (.inl z)
              · exact .inr (.inr z)
            · rcases z with (⟨j, z⟩ | z) | z
              · exact .inl ⟨j, z, fun q => nomatch q⟩
              · exact .inr (.inl z)
              · exact .inr (.inr z)
            · exact List.nodup_append.mpr ⟨s1.nd i, nd, fun a ha b hb e => hsub b hb i (by rw [← e]; exact ha)⟩
            · rcases List.mem_append.mp m with m | m
              · exact .inl (.inl ⟨i, m⟩)
              · exact .inr m
            · have s2 := s1.changed e1 hv' (fun a m z => s.bt a z (n a m)) k rd nd2 n2 rr.there
              have nw : ∀ a ∈ ov ++ orr, (∃ j, a ∈ ow j) ∨ H a = none := fun a m => by
                rcases n2 a m with z | z
                · rcases List.mem_append.mp z with z | z
                  · exact c1.from' i a z
                  · exact .inr (n a z)
                · exact .inr (q.free z)
              refine hz _ _ B ow H' ret w orr s2 (rr.keep (fun a o _ z => ?_) (Kept.of_same (Same.refl _) _)) (List.nodup_append.mp nd2).2.1 (fun a m z => ?_) ⟨fun a u e z => ?_, fun j a m => ?_⟩ (fun a m => nw a (List.mem_append_right _ m)) h
              · rcases z with ⟨j, z, _⟩ | z | z
                · unfold putO at z
                  split at z
                  · exact .inr (.inl z)
                  · exact .inl (.inl (.inl ⟨j, z⟩))
                · exact .inl (.inl (.inr z))
                · exact .inr (.inr z)
              · rcases n2 a (List.mem_append_right _ m) with y | y
                · rcases List.mem_append.mp y with y | y
                  · exact s1.bo i a y (.inl z)
                  · exact s.bt a z (n a y)
                · exact s1.bt a (.inl z) y
              · exact k a u (q a u e) (z.imp (fun z => by rw [ei]; exact z i) id)
              · unfold putO at m
                split at m
                · exact nw a (List.mem_append_left _ m)
                · exact c1.from' j a m
          · exact h.elim
        · exact h.elim
    · exact h.elim
  · exact h.elim
end
end TL
/-! T10: lists changed by methods, by place -/
namespace TL
open PySem PySem.Spec PyProof.Rows L2

section
variable {K : KX} {O : Addr → Prop} {H : Hp}
theorem upd_far {a : Addr} {vs : List V} {o : List Addr} {x : HO} (h : H a = some (.lst vs)) (m : a ∈ o) : ∀ b u, H b = some u → (b ∉ o ∨ Imm u) → upd H a x b = some u := fun b u e z => by
  have ne : b ≠ a := fun q => by
    rw [q, h] at e
    cases e
    rcases z with z | z
    · exact z (by rw [q]; exact m)
    · cases z
  rw [upd_ne ne]
  exact e
theorem relist {a : Addr} {vs ws : List V} {zs : List D} {o2 orr : List Addr} (h : H a = some (.lst vs)) (r : RepL K O H zs ws o2) (ha : a ∉ o2) (hO : O a) (sub : ∀ b ∈ o2, O b) (sub2 : ∀ b ∈ orr, O b) :
    RepD K (fun b => O b ∨ b ∈ (a :: o2) ∨ b ∈ orr) (upd H a (.lst ws)) (.lst true zs) (.ref a) (a :: o2) :=
  .lstO upd_same (r.keep (fun b u e z => by
    rcases z with z | z | z
    · exact z
    · rcases List.mem_cons.mp z with q | z
      · rw [q]; exact hO
      · exact sub b z
    · exact sub2 b z) (Kept.upd h (fun z => z) hO ha))
theorem RepL.split : ∀ {xs ys : List D} {vs : List V} {os : List Addr}, RepL K O H (xs ++ ys) vs os → ∃ v1 v2 o1 o2, vs = v1 ++ v2 ∧ os = o1 ++ o2 ∧ xs.length = v1.length ∧ RepL K O H xs v1 o1 ∧ RepL K O H ys v2 o2
  | [], ys, vs, os, r => ⟨[], vs, [], os, rfl, rfl, rfl, .nil, r⟩
  | x :: xs, ys, _, _, .cons (v := v) (o1 := o1) r1 r2 => by
    obtain ⟨v1, v2, p1, p2, e1, e2, e3, q1, q2⟩ := RepL.split (xs := xs) r2
    exact ⟨v :: v1, v2, o1 ++ p1, p2, by rw [e1]; rfl, by rw [e2, List.append_assoc], congrArg (· + 1) e3, .cons r1 q1, q2⟩
theorem RepD.offO {d : D} {v : V} {os : List Addr} {O' : Addr → Prop} (r : RepD K O H d v os) (h : ∀ a, O' a → O a) : RepD K O' H d v os := r.keep (fun a _ _ z => h a z) (Kept.of_same (Same.refl _) _)
end
def gAppend : D → List D → Option (D × D)
  | .lst true xs, [y] => if xs.length < 16777216 then some (.lst true (xs ++ [y]), .non) else none
  | _, _ => none
def gInsert : D → List D → Option (D × D)
  | .lst true xs, [.int i, y] => if xs.length < 16777216 ∧ 0 ≤ i ∧ i < 2 ^ 62 then some (.lst true (xs.take i.toNat ++ ([y] ++ xs.drop i.toNat)), .non) else none
  | _, _ => none
def gExtend : D → List D → Option (D × D)
  | .lst true xs, [.lst _ ys] => if xs.length + ys.length ≤ 16777216 then some (.lst true (xs ++ ys), .non) else none
  | _, _ => none
def gPop : D → List D → Option (D × D)
  | .lst true xs, [] => (xs.getLast?).map fun y => (.lst true xs.dropLast, y)
  | _, _ => none
def gReverse : D → List D → Option (D × D)
  | .lst true xs, [] => if valL xs then some (.lst true xs.reverse, .non) else none
  | _, _ => none
def gClear : D → List D → Option (D × D)
  | .lst true _, [] => some (.lst true [], .non)
  | _, _ => none
section
variable {K : KX}
theorem mut_append : MutOk K gAppend rAppend := by
  intro O H d ds v vs o os d' ret Q r rs nd m e k
  unfold gAppend at e
  split at e
  · split at e
    · rename_i hl
      cases e
      cases r with
      | @lstO a ws _ o1 h rl =>
        obtain ⟨y, rfl, ry⟩ := rs.one
        obtain ⟨n1, n2, n12⟩ := List.nodup_append.mp nd
        have ha : a ∉ o1 ++ os := fun z => (List.mem_append.mp z).elim (List.nodup_cons.mp n1).1 fun z => n12 a List.mem_cons_self a z rfl
        have sub : ∀ b ∈ o1 ++ os, O b := fun b z => m b (by rw [List.cons_append]; exact List.mem_cons_of_mem _ z)
        have rl2 : RepL K O H (_ ++ [_]) (ws ++ [y]) (o1 ++ (os ++ [])) := rl.append (.cons ry .nil)
        rw [List.append_nil] at rl2
        refine ⟨a, ws, y, rfl, rfl, h, by rw [← rl.length, sizeLine_eq]; exact hl, ?_⟩
        refine k _ _ (a :: (o1 ++ os)) [] (upd_far h List.mem_cons_self) (relist h rl2 ha (m a (by simp)) sub (fun _ z => nomatch z)) .non ?_ fun b z => ?_
        · rw [List.append_nil]
          exact List.nodup_cons.mpr ⟨ha, (List.nodup_cons.mp (by simpa using nd)).2⟩
        · rw [List.append_nil] at z
          exact .inl (by simpa using z)
    · cases e
  · cases e
theorem mut_insert : MutOk K gInsert (fun x vs H Q => ∃ (l : Addr) (xs : List V) (i : Int) (y : V), x = .ref l ∧ vs = [.int i, y] ∧ H l = some (.lst xs) ∧ xs.length < sizeLine ∧ 0 ≤ i ∧ i < 2 ^ 63 ∧
    Q .non (upd H l (.lst (xs.take i.toNat ++ [y] ++ xs.drop i.toNat)))) := by
  intro O H d ds v vs o os d' ret Q r rs nd m e k
  unfold gInsert at e
  split at e
  · rename_i xs i y
    split at e
    · rename_i hl
      cases e
      cases r with
      | @lstO a ws _ o1 h rl =>
        obtain ⟨vi, vy, p1, p2, rfl, rfl, ri, ry⟩ := rs.two
        cases ri
        have rl' := rl
        rw [← List.take_append_drop i.toNat xs] at rl'
        obtain ⟨w1, w2, q1, q2, ew, eo, el, r1, r2⟩ := rl'.split
        subst ew eo
        have hw : (w1 ++ w2).take i.toNat = w1 ∧ (w1 ++ w2).drop i.toNat = w2 := by
          have hlen : xs.length = (w1 ++ w2).length := rl.length
          have ht : w1.length = min i.toNat xs.length := by rw [← el, List.length_take]
          by_cases hc : i.toNat ≤ xs.length
          · have : i.toNat = w1.length := by omega
            rw [this]
            exact ⟨List.take_left, List.drop_left⟩
          · have : w2.length = 0 := by rw [List.length_append] at hlen; omega
            have e2 := List.eq_nil_of_length_eq_zero this
            subst e2
            rw [List.append_nil] at hlen ⊢
            exact ⟨List.take_of_length_le (by omega), List.drop_of_length_le (by omega)⟩
        have pm : (a :: (q1 ++ (p2 ++ q2))).Perm (a :: (q1 ++ q2) ++ ([] ++ p2)) := by
          rw [List.nil_append, List.cons_append, List.append_assoc]
          exact ((List.perm_append_comm).append_left q1).cons a
        have nd2 : (a :: (q1 ++ (p2 ++ q2))).Nodup := (pm.nodup_iff).mpr nd
        have sub : ∀ b ∈ q1 ++ (p2 ++ q2), O b := fun b z => m b (pm.mem_iff.mp (List.mem_cons_of_mem _ z))
        have rl2 := r1.append ((RepL.cons ry .nil).append r2)
        rw [List.append_nil] at rl2
        refine ⟨a, w1 ++ w2, i, vy, rfl, rfl, h, by rw [← rl.length, sizeLine_eq]; exact hl.1, hl.2.1, by have := hl.2.2; omega, ?_⟩
        rw [hw.1, hw.2, List.append_assoc]
        refine k _ _ (a :: (q1 ++ (p2 ++ q2))) [] (upd_far h List.mem_cons_self) (relist h rl2 (List.nodup_cons.mp nd2).1 (m a (by simp)) sub (fun _ z => nomatch z)) .non ?_ fun b z => ?_
        · rw [List.append_nil]; exact nd2
        · rw [List.append_nil] at z
          exact .inl (pm.mem_iff.mp z)
    · cases e
  · cases e
/-- l.extend(another list) -/
def rExtendR : V → List V → Hp → VK → Prop := fun x vs H Q => ∃ l b xs zs, x = .ref l ∧ vs = [.ref b] ∧ H l = some (.lst xs) ∧ Rd H b (.lst zs) ∧ xs.length + zs.length ≤ sizeLine ∧ Q .non (upd H l (.lst (xs ++ zs)))
theorem mt_extendR {X : Cx} : MtM X "list.extend" rExtendR := by
  intro pins s σ H x vs v us Q I rx rv ⟨l, b, xs, zs, ex, ev, hl, hb, hz, q⟩
  subst ex ev
  cases rx
  obtain ⟨u, rfl, ru⟩ := rv.one
  cases ru
  obtain ⟨_, ps, n, r, g1, e⟩ := I.lstM hl
  obtain ⟨_, qs, n2, r2, g2, e2⟩ := I.lstR hb
  have small : ps.toArray.size + qs.toArray.size ≤ sizeLine := by simp only [List.size_toArray]; omega
  have fit : ¬ (!ps.toArray.isEmpty && Builtin.List.listTooLong (ps.toArray.size + qs.toArray.size)) = true := by rw [notLongL small]; simp
  exact call_meets F.slot_list_extend ⟨_, e, rfl⟩ F.entry_list_extend (F.args_list_extend_2 _ _)
    (AutoSeq1.list_extend_list_list_0 l ps.toArray n b qs.toArray n2 fit (by simp only [List.size_toArray]; omega) (Nat.le_succ_of_le small))
    ⟨e, e2, .non, _, I.lset (its' := ps ++ qs) hl e (by simp) (r.append r2) (by rw [List.length_append]; exact hz), rfl, q⟩
theorem mut_extend : MutOk K gExtend rExtendR := by
  intro O H d ds v vs o os d' ret Q r rs nd m e k
  unfold gExtend at e
  split at e
  · split at e
    · rename_i hl
      cases e
      cases r with
      | @lstO a ws _ o1 h rl =>
        obtain ⟨y, rfl, ry⟩ := rs.one
        obtain ⟨n1, n2, n12⟩ := List.nodup_append.mp nd
        obtain ⟨b, zs, p, rfl, hb, rz, np, sp⟩ := lst_part ry n2
        have ha : a ∉ o1 ++ p := fun z => (List.mem_append.mp z).elim (List.nodup_cons.mp n1).1 fun z => n12 a List.mem_cons_self a (sp a z) rfl
        have inn : ∀ c ∈ a :: (o1 ++ p), c ∈ a :: o1 ++ os := fun c z => by
          rcases List.mem_cons.mp z with q | z
          · rw [q]; simp
          · rcases List.mem_append.mp z with z | z
            · simp [z]
            · simp [sp c z]
        refine ⟨a, b, ws, zs, rfl, rfl, h, hb, by rw [← rl.length, ← rz.length, sizeLine_eq]; exact hl, ?_⟩
        refine k _ _ (a :: (o1 ++ p)) [] (upd_far h List.mem_cons_self) (relist h (rl.append rz) ha (m a (by simp)) (fun c z => m c (inn c (List.mem_cons_of_mem _ z))) (fun _ z => nomatch z)) .non ?_ fun c z => ?_
        · rw [List.append_nil]
          exact List.nodup_cons.mpr ⟨ha, List.nodup_append.mpr ⟨(List.nodup_cons.mp n1).2, np, fun c hc c' hc' e => n12 c (List.mem_cons_of_mem _ hc) c' (sp c' hc') e⟩⟩
        · rw [List.append_nil] at z
          exact .inl (inn c z)
    · cases e
  · cases e
theorem mut_pop : MutOk K gPop rPop := by
  intro O H d ds v vs o os d' ret Q r rs nd m e k
  unfold gPop at e
  split at e
  · rename_i xs
    obtain ⟨y, hy, e2⟩ := Option.map_eq_some_iff.mp e
    obtain ⟨e3, e4⟩ := Prod.mk.inj e2
    subst e3 e4
    cases rs
    cases r with
    | @lstO a ws _ o1 h rl =>
      have ex : xs = xs.dropLast ++ [y] := by
        have hne : xs ≠ [] := fun z => by rw [z] at hy; cases hy
        rw [List.getLast?_eq_some_getLast hne] at hy
        cases hy
        exact (List.dropLast_concat_getLast hne).symm
      have rl' := rl
      rw [ex] at rl'
      obtain ⟨w1, w2, q1, q2, ew, eo, el, r1, r2⟩ := rl'.split
      obtain ⟨w, rfl, rw'⟩ := r2.one
      subst ew eo
      rw [List.append_nil] at nd m
      have n1 := List.nodup_cons.mp nd
      obtain ⟨nq1, nq2, nq⟩ := List.nodup_append.mp n1.2
      refine ⟨a, w1 ++ [w], w, rfl, rfl, h, by simp, ?_⟩
      rw [List.dropLast_concat]
      have sub1 : ∀ b ∈ q1, O b := fun b z => m b (by simp [z])
      have sub2 : ∀ b ∈ q2, O b := fun b z => m b (by simp [z])
      refine k _ _ (a :: q1) q2 (upd_far h List.mem_cons_self) (relist h r1 (fun z => n1.1 (List.mem_append_left _ z)) (m a (by simp)) sub1 sub2) ?_ ?_ fun b z => .inl ?_
      · exact rw'.keep (fun b u e (z : O b ∨ b ∈ a :: q1 ∨ b ∈ q2) => by
          rcases z with z | z | z
          · exact z
          · rcases List.mem_cons.mp z with q | z
            · rw [q]; exact m a (by simp)
            · exact sub1 b z
          · exact sub2 b z) (Kept.upd h (fun z => z) (m a (by simp)) fun z => n1.1 (List.mem_append_right _ z))
      · rw [List.cons_append]; exact nd
      · rw [List.append_nil, ← List.cons_append]; exact z
  · cases e
theorem mut_reverse : MutOk K gReverse rReverse := by
  intro O H d ds v vs o os d' ret Q r rs nd m e k
  unfold gReverse at e
  split at e
  · rename_i xs
    split at e
    · rename_i hv
      cases e
      cases rs
      cases r with
      | @lstO a ws _ o1 h rl =>
        obtain ⟨rfl, rv⟩ := RepL.val (O' := O) rl hv
        have rr : RepL K O H xs.reverse ws.reverse [] := by
          have gen : ∀ {xs : List D} {ws : List V}, RepL K O H xs ws [] → RepL K O H xs.reverse ws.reverse [] := by
            intro xs
            induction xs with
            | nil => intro ws r; cases r; exact .nil
            | cons x xs ih =>
              intro ws r
              generalize hn : ([] : List Addr) = os at r
              cases r with
              | cons r1 r2 =>
                obtain ⟨e1, e2⟩ := List.append_eq_nil_iff.mp hn.symm
                subst e1 e2
                rw [List.reverse_cons, List.reverse_cons]
                exact (ih r2).append (o2 := []) (.cons (o1 := []) (o2 := []) r1 .nil)
          exact gen rv
        refine ⟨a, ws, rfl, rfl, h, ?_⟩
        exact k _ _ [a] [] (upd_far h List.mem_cons_self) (relist h rr (fun z => nomatch z) (m a (by simp)) (fun _ z => nomatch z) (fun _ z => nomatch z)) .non (by simp) fun b z => .inl (by simpa using z)
    · cases e
  · cases e
theorem mut_clear : MutOk K gClear rClear := by
  intro O H d ds v vs o os d' ret Q r rs nd m e k
  unfold gClear at e
  split at e
  · cases e
    cases rs
    cases r with
    | @lstO a ws _ o1 h rl =>
      refine ⟨a, ws, rfl, rfl, h, ?_⟩
      refine k _ _ [a] [] (upd_far h List.mem_cons_self) (relist h .nil (fun z => nomatch z) (m a (by simp)) (fun _ z => nomatch z) (fun _ z => nomatch z)) .non (by simp) fun b z => .inl ?_
      rw [List.append_nil] at z ⊢
      rw [List.mem_singleton.mp z]
      exact List.mem_cons_self
  · cases e
end
/-! ### the statements -/
section
variable {X : CY} {W : WX} {S : List Nat} {i j : Nat} {x y nm : Str} {T id : String} {apos cpos p py pos spos : Pos} {e : Expr} {es : List Expr} {fa : En → R (List D)} {g : D → List D → Option (D × D)} {r : V → List V → Hp → VK → Prop}
theorem rd_mut {σ : L2.St} {H : Hp} {Ds : Ends} {hN : True} (hg : MutOk (kx X) g r) (h : rdS (kx X) W (sMut T i S g fa) Ds σ H) : tVar i σ H fun v H1 => tyV X.K T v H1 ∧ rdA (kx X) W S fa σ H1 fun vs H2 => r v vs H2 fun _ H3 => Ds.nx σ H3 :=
  mut_core hg h fun ρ' ow' B ow H' d w orr s r nd hb c n p => p σ H' ow' (s.swap fun a z => .inl z) c
/-- x.m(e, ..) -/
theorem ds_mut (pa : PlainAttrs T) (slot : Slot T nm id) (hty : typeOf (.builtin id) = pure (.type "method_descriptor")) (hm : MtR X id r) (hg : MutOk (kx X) g r) (hN : X.N[i]? = some x) (hv : Vis X.env.scope x) (ha : DA X W S (e :: es) fa)
    (hd : (x == ("__debug__" : Str)) = false := by decide) (hcd : (x == ("__classdict__" : Str)) = false := by decide)
    (hbase : attributeBase (.Name x p) nm X.env (eval (.Name x p) X.env) = eval (.Name x p) X.env := by rfl)
    (hfew : ((backTo cpos (starEach (e :: es) X.env)).all (fun x => !x.1) && (backToKw cpos (keywordEach [] X.env)).all (fun x => x.1.isSome) && decide ((e :: es).length + ([] : List Keyword).length + (if ([] : List Keyword).isEmpty then 0 else 1) < 30)) = true := by rfl)
    (hline : (apos.endLine == cpos.line) = true := by rfl) (hs : starEach (e :: es) X.env = (false, eval e X.env) :: starEach es X.env := by rfl) (hplain : (backTo cpos (starEach es X.env)).any (·.1) = false := by rfl)
    (hsw : swapsWith (.Call (.Attribute (.Name x p) nm apos) (e :: es) [] cpos) none pos.line X.env = pure false := by rfl) :
    DS X W (.Expr (.Call (.Attribute (.Name x p) nm apos) (e :: es) [] cpos) pos) (sMut T i S g fa) :=
  ⟨(ps_expr (pe_bm pa slot hty hm (pe_var hN hv hd hcd) ha.pa hbase hfew hline hs hplain) hsw).imp fun D σ H h => rd_mut (hN := trivial) hg h⟩
/-- x.m() -/
theorem ds_mut0 (pa : PlainAttrs T) (slot : Slot T nm id) (hty : typeOf (.builtin id) = pure (.type "method_descriptor")) (hm : MtR X id r) (hg : MutOk (kx X) g r) (hN : X.N[i]? = some x) (hv : Vis X.env.scope x)
    (hd : (x == ("__debug__" : Str)) = false := by decide) (hcd : (x == ("__classdict__" : Str)) = false := by decide)
    (hbase : attributeBase (.Name x p) nm X.env (eval (.Name x p) X.env) = eval (.Name x p) X.env := by rfl) (hline : (apos.endLine == cpos.line) = true := by rfl)
    (hsw : swapsWith (.Call (.Attribute (.Name x p) nm apos) [] [] cpos) none pos.line X.env = pure false := by rfl) :
    DS X W (.Expr (.Call (.Attribute (.Name x p) nm apos) [] [] cpos) pos) (sMut T i [] g eNil) :=
  ⟨(ps_expr (pe_bm0 pa slot hty hm (pe_var hN hv hd hcd) hbase hline) hsw).imp fun D σ H h => by
    obtain ⟨v, h1, h2, ρ, ow, B, s, h3⟩ := rd_mut (hN := trivial) hg h
    exact ⟨v, h1, h2, h3 [] H [] (Same.refl H) .nil List.nodup_nil fun _ z => nomatch z⟩⟩
/-- y = x.m() -/
theorem ds_mutSet0 (pa : PlainAttrs T) (slot : Slot T nm id) (hty : typeOf (.builtin id) = pure (.type "method_descriptor")) (hm : MtR X id r) (hg : MutOk (kx X) g r) (hN : X.N[i]? = some x) (hv : Vis X.env.scope x)
    (hnd : X.N.Nodup) (hj : X.N[j]? = some y) (hx : Loc X.env.scope y)
    (hd : (x == ("__debug__" : Str)) = false := by decide) (hcd : (x == ("__classdict__" : Str)) = false := by decide)
    (hbase : attributeBase (.Name x p) nm X.env (eval (.Name x p) X.env) = eval (.Name x p) X.env := by rfl) (hline : (apos.endLine == cpos.line) = true := by rfl)
    (hsw : swapsWith (.Call (.Attribute (.Name x p) nm apos) [] [] cpos) (some (.Name y py)) pos.line X.env = pure false := by rfl) (hf : X.fn y = true ∨ X.env.scope.names.lookup y = some .local := by first | exact .inl rfl | exact .inr rfl | assumption) :
    DS X W (.Assign [.Name y py] (.Call (.Attribute (.Name x p) nm apos) [] [] cpos) pos) (sMutSet T j i [] g eNil) :=
  ⟨(ps_set hnd hj hx (pe_bm0 pa slot hty hm (pe_var hN hv hd hcd) hbase hline) hsw hf).imp fun D σ H h => by
    have := mut_core (Z := fun v H1 => gName j v σ H1 D.nx) hg h fun ρ' ow' B ow H' d w orr s r nd hb c n p => by
      by_cases hl : j < ρ'.length
      · rw [if_pos hl] at p
        exact p _ H' (putO ow' j orr) (s.put hl r nd hb) (c.put n)
      · rw [if_neg hl] at p; exact p.elim
    obtain ⟨v, h1, h2, ρ, ow, B, s, h3⟩ := this
    exact ⟨v, h1, h2, h3 [] H [] (Same.refl H) .nil List.nodup_nil fun _ z => nomatch z⟩⟩
end
end TL
/-! T11: products, stores, positions, turned lists, sorted numbers -/
namespace TL
open PySem PySem.Spec PyProof.Rows L2

/-! ### * -/
def repL (k : Nat) (xs : List D) : List D := (List.replicate k xs).flatten
def gMul : D → D → Option D
  | .int i, .int j => if (-(2 ^ 62) < i ∧ i < 2 ^ 62) ∨ (-(2 ^ 62) < j ∧ j < 2 ^ 62) then some (.int (i * j)) else none
  | .lst true xs, .int k => if valL xs then (if -(2 ^ 62) < k ∧ k < 2 ^ 62 ∧ xs.length * k.toNat ≤ 16777216 then some (.lst true (repL k.toNat xs)) else none) else none
  | _, _ => none
section
variable {X : Cx}
def rMulG : R2 := fun x y H Q => rI CMul (fun i j => .int (i * j)) x y H Q ∨ rRep x y H Q
theorem op_mulG : OpR X (binaryOp .Mult) rMulG := op_mul.or op_rep
end

theorem RepL.rep {K : KX} {O : Addr → Prop} {H : Hp} {xs : List D} {vs : List V} (r : RepL K O H xs vs []) : ∀ k, RepL K O H (repL k xs) (List.replicate k vs).flatten []
  | 0 => .nil
  | k + 1 => by
    unfold repL
    rw [List.replicate_succ, List.replicate_succ, List.flatten_cons, List.flatten_cons]
    exact r.append (o1 := []) (o2 := []) (RepL.rep r k)
theorem fits_mul {K : KX} : Fits2 K gMul rMulG := by
  intro O H x y v1 v2 o1 o2 d Q r1 r2 nd m e dn
  unfold gMul at e
  split at e
  · split at e
    · rename_i i j h
      cases e
      cases r1
      cases r2
      exact .inl ⟨_, _, rfl, rfl, h.imp (fun z => ⟨by omega, by omega⟩) (fun z => ⟨by omega, by omega⟩), dn.flat fun _ => .int _⟩
    · cases e
  · split at e
    · rename_i hv
      split at e
      · rename_i xs k h
        cases e
        cases r2
        cases r1 with
        | lstO h1 r =>
          obtain ⟨-, rv⟩ := RepL.val (O' := O) r hv
          refine .inr ⟨_, _, _, rfl, rfl, h1, by omega, by omega, by rw [← r.length, sizeLine_eq]; exact h.2.2, fun p hp => ?_⟩
          exact dn.lst (rv.rep k.toNat) List.nodup_nil (fun _ z => nomatch z) (fun _ z => nomatch z) hp
      · cases e
    · cases e
  · cases e

/-! ### x[k] = e -/
def sStore (T : String) (i : Nat) (S : List Nat) (g : D → List D → Option (D × D)) (fe fk : En → R D) : En → Out := sMut T i S g (eCons fe (eCons fk eNil))
def rSt (t : TSet) : V → List V → Hp → VK → Prop := fun x vs H Q => ∃ v k, vs = [v, k] ∧ t x k v H (Q .non)
section
variable {X : CY} {W : WX} {Sa Sb : List Nat} {i : Nat} {x : Str} {T : String} {e k : Expr} {fe fk : En → R D} {g : D → List D → Option (D × D)} {t : TSet} {p pos spos : Pos}
theorem ds_store (hs : PSet X t) (hg : MutOk (kx X) g (rSt t)) (hN : X.N[i]? = some x) (hv : Vis X.env.scope x) (he : DE X W Sa e fe) (hk : DE X W Sb k fk)
    (hd : (x == ("__debug__" : Str)) = false := by decide) (hcd : (x == ("__classdict__" : Str)) = false := by decide)
    (hsw : swapsWithSole [.Subscript (.Name x p) k pos] e spos.line X.env = pure false := by rfl) (hw : swappedStores [.Subscript (.Name x p) k pos] e X.env = pure none := by rfl)
    (h1 : (assignEach [.Subscript (.Name x p) k pos] X.env).map (·.2) = [assign (.Subscript (.Name x p) k pos) X.env] := by rfl)
    (ha : ∀ v, assign (.Subscript (.Name x p) k pos) X.env v = (do
      let ov ← holding [v] (eval (.Name x p) X.env)
      let iv ← holding [v, ov] (eval k X.env)
      standAt pos
      holding [v, ov, iv] (setItem ov iv v)
      release [v, ov, iv] []) := by intro _; rfl) :
    DS X W (.Assign [.Subscript (.Name x p) k pos] e spos) (sStore T i (Sa ++ (Sb ++ [])) g fe fk) :=
  ⟨(ps_asg he.pe (pg_sub (pe_var hN hv hd hcd) hk.pe hs ha) hsw hw h1).imp fun D σ H h => by
    obtain ⟨v, hv1, -, h2⟩ := rd_mut (hN := trivial) hg h
    have h3 := rd_cons h2
    obtain ⟨ρ, ow, B, s, h3⟩ := h3
    refine ⟨ρ, ow, B, s, ?_⟩
    revert h3
    cases fe ρ with
    | stuck => exact id
    | exc C fs => exact id
    | ok d =>
      intro h3 v1 H1 os q r nd n
      have h4 := rd_cons (h3 v1 H1 os q r nd n)
      refine ⟨v, hv1, ?_⟩
      obtain ⟨ρ2, ow2, B2, s2, h4⟩ := h4
      refine ⟨ρ2, ow2, B2, s2, ?_⟩
      revert h4
      cases fk ρ2 with
      | stuck => exact id
      | exc C fs => exact id
      | ok d2 =>
        intro h4 v2 H2 os2 q2 r2 nd2 n2
        have h5 := rd_nil (h4 v2 H2 os2 q2 r2 nd2 n2)
        obtain ⟨a, b, e, h6⟩ := h5
        cases e
        exact h6⟩
end
def gStoreL : D → List D → Option (D × D)
  | .lst true xs, [v, .int k] => (ixN xs.length k).map fun j => (.lst true (xs.set j v), .non)
  | _, _ => none

theorem ixN_lt {n : Nat} {k : Int} {j : Nat} (h : ixN n k = some j) : j < n := by
  unfold ixN at h
  split at h
  · split at h
    · cases h; omega
    · cases h
  · split at h
    · cases h; omega
    · cases h
theorem mut_storeL {K : KX} : MutOk K gStoreL (rSt rSetL) := by
  intro O H d ds v vs o os d' ret Q r rs nd m e k
  unfold gStoreL at e
  split at e
  · rename_i xs y i
    obtain ⟨j, hj, e2⟩ := Option.map_eq_some_iff.mp e
    obtain ⟨e3, e4⟩ := Prod.mk.inj e2
    subst e3 e4
    cases r with
    | @lstO a ws _ o1 h rl =>
      obtain ⟨vy, vi, p1, p2, rfl, rfl, ry, ri⟩ := rs.two
      cases ri
      have hlt := ixN_lt hj
      have hlen : xs.length = ws.length := rl.length
      have ex : xs = xs.take j ++ ([xs[j]] ++ xs.drop (j + 1)) := by
        rw [List.singleton_append, ← List.drop_eq_getElem_cons hlt, List.take_append_drop]
      have rl' := rl
      rw [ex] at rl'
      obtain ⟨w1, w2, q1, q2, ew, eo, el, r1, r2⟩ := rl'.split
      obtain ⟨w3, w4, q3, q4, ew2, eo2, el2, r3, r4⟩ := r2.split
      subst ew2 eo2 ew eo
      obtain ⟨w, rfl, -⟩ := r3.one
      have hl1 : w1.length = j := by rw [← el, List.length_take]; omega
      have es : (w1 ++ ([w] ++ w4)).set j vy = w1 ++ ([vy] ++ w4) := by
        rw [← hl1, List.set_append_right _ _ (Nat.le_refl _), Nat.sub_self]
        rfl
      have exs : xs.set j y = xs.take j ++ ([y] ++ xs.drop (j + 1)) := by
        rw [List.set_eq_take_append_cons_drop, if_pos hlt]
        rfl
      have rl2 := r1.append ((RepL.cons ry .nil).append r4)
      rw [List.append_nil] at rl2 nd m
      have n0 := List.nodup_cons.mp (show (a :: ((q1 ++ (q3 ++ q4)) ++ p1)).Nodup by simpa using nd)
      have inn : ∀ b ∈ q1 ++ (p1 ++ q4), b ∈ (q1 ++ (q3 ++ q4)) ++ p1 := fun b z => by
        simp only [List.mem_append] at z ⊢
        rcases z with z | z | z
        · exact .inl (.inl z)
        · exact .inr z
        · exact .inl (.inr (.inr z))
      have pm : ((q1 ++ (q3 ++ q4)) ++ p1).Perm (q3 ++ (q1 ++ (p1 ++ q4))) := by
        have a1 : ((q1 ++ (q3 ++ q4)) ++ p1).Perm (((q3 ++ q4) ++ q1) ++ p1) := (List.perm_append_comm).append_right p1
        refine a1.trans ?_
        rw [List.append_assoc, List.append_assoc]
        refine List.Perm.append_left q3 ?_
        refine (List.perm_append_comm).trans ?_
        rw [List.append_assoc]
      have ndq : (q1 ++ (p1 ++ q4)).Nodup := (List.nodup_append.mp ((pm.nodup_iff).mp n0.2)).2.1
      have ha : a ∉ q1 ++ (p1 ++ q4) := fun z => n0.1 (inn a z)
      have sub : ∀ b ∈ q1 ++ (p1 ++ q4), O b := fun b z => m b (by have := inn b z; simp at this ⊢; exact .inr this)
      refine ⟨vy, _, rfl, a, _, i, j, rfl, rfl, h, by rw [← hlen]; exact hj, ?_⟩
      rw [es]
      rw [exs] at k
      refine k _ _ (a :: (q1 ++ (p1 ++ q4))) [] (upd_far h List.mem_cons_self) (relist h rl2 ha (m a (by simp)) sub (fun _ z => nomatch z)) .non ?_ fun b z => .inl ?_
      · rw [List.append_nil]; exact List.nodup_cons.mpr ⟨ha, ndq⟩
      · rw [List.append_nil] at z ⊢
        rcases List.mem_cons.mp z with q | z
        · rw [q]; simp
        · have := inn b z; simp at this ⊢; exact .inr this
  · cases e

/-! ### x[::-1] -/
def gRevL : D → Option D
  | .lst _ xs => some (.lst true xs.reverse)
  | _ => none
theorem RepL.rev {K : KX} {O : Addr → Prop} {H : Hp} : ∀ {xs : List D} {vs : List V} {os : List Addr}, RepL K O H xs vs os → ∃ os', RepL K O H xs.reverse vs.reverse os' ∧ os'.Perm os
  | _, _, _, .nil => ⟨[], .nil, .refl _⟩
  | _, _, _, .cons (o1 := o1) (o2 := o2) r1 r2 => by
    obtain ⟨o', r', p⟩ := RepL.rev r2
    rw [List.reverse_cons, List.reverse_cons]
    refine ⟨o' ++ (o1 ++ []), r'.append (.cons r1 .nil), ?_⟩
    rw [List.append_nil]
    exact (List.perm_append_comm).trans (p.append_left o1)
theorem de_revL {X : CY} {W : WX} {S : List Nat} {e : Expr} {fe : En → R D} {k : Nat} {p1 p2 p3 pos : Pos} (he : DE X W S e fe) :
    DE X W S (.Subscript e (.Slice none none (some (.UnaryOp .USub (.Constant (.int 1) k p1) p2)) p3) pos) (e1 gRevL fe) :=
  ⟨(pe_revL he.pe).imp fun σ H Q h => rd1 (r := fun x H1 Q => ∃ a xs, x = .ref a ∧ SqL X.K H1 a xs ∧ ∀ p, H1 p = none → Q (.ref p) (upd H1 p (.lst xs.reverse))) (fun O H x v o d Q r nd m e dn => by
    cases x with
    | lst o xs =>
      cases e
      obtain ⟨a, vs, os, rfl, hr, rl, n, sub⟩ := lst_part r nd
      obtain ⟨os', r', pm⟩ := rl.rev
      refine ⟨a, vs, rfl, .inl hr, fun p hp => dn.lst r' (pm.nodup_iff.mpr n) (fun b z => sub b (pm.mem_iff.mp z)) (fun b z => m b (sub b (pm.mem_iff.mp z))) hp⟩
    | _ => cases e) h⟩

/-! ### sorted -/
def leI (i j : Int) : Bool := decide (i ≤ j)
def srtI (ns : List Int) : List Int := ns.mergeSort leI
def gSortedI : List D → Option D
  | [.lst _ xs] => (intsOf xs).map fun ns => .lst true ((srtI ns).map D.int)
  | _ => none
theorem RepL.ints {K : KX} {O : Addr → Prop} {H : Hp} : ∀ ns : List Int, RepL K O H (ns.map D.int) (ns.map V.int) []
  | [] => .nil
  | i :: r => .cons (o1 := []) (o2 := []) (.int i) (RepL.ints r)
theorem srtI_eq {ns ns' : List Int} (p : ns'.Perm ns) (s : ns'.Pairwise (· ≤ ·)) : ns' = srtI ns := by
  refine List.Perm.eq_of_pairwise (le := (· ≤ ·)) (fun a b _ _ h1 h2 => Int.le_antisymm h1 h2) s ?_ (p.trans (List.mergeSort_perm ns leI).symm)
  have := List.pairwise_mergeSort (le := leI) (fun a b c h1 h2 => decide_eq_true (Int.le_trans (of_decide_eq_true h1) (of_decide_eq_true h2))) (fun a b => by
    unfold leI
    rcases Int.le_total a b with h | h
    · rw [decide_eq_true h]; rfl
    · rw [decide_eq_true h, Bool.or_true]) ns
  exact this.imp fun h => of_decide_eq_true h
theorem fits_sortedI {K : KX} : FitsN K gSortedI (rSortedI K.fr) := by
  intro O H xs vs o d Q r nd m e dn
  unfold gSortedI at e
  split at e
  · obtain ⟨ns, e1, e2⟩ := Option.map_eq_some_iff.mp e
    subst e2
    obtain ⟨v, rfl, q⟩ := r.one
    obtain ⟨a, ws, o', rfl, hr, rl, _, _⟩ := lst_part q nd
    have e3 := intsOf_rep rl e1
    subst e3
    refine ⟨a, ns, rfl, .inl hr, fun ns' p h1 h2 hp => ?_⟩
    rw [srtI_eq h1 h2]
    exact dn.lst (RepL.ints _) List.nodup_nil (fun _ z => nomatch z) (fun _ z => nomatch z) hp
  · cases e

/-! ### x.index(e) -/
def posD (x : D) : List D → Option Nat
  | [] => none
  | z :: r => if eqD z x then some 0 else (posD x r).map (· + 1)
def gIndex : D → List D → Option D
  | .lst _ xs, [y] => if okN 9 y && okN 9 (.lst true xs) then (posD y xs).map fun (j : Nat) => D.int (j : Int) else none
  | _, _ => none
theorem posD_get {x : D} : ∀ {xs : List D} {j : Nat}, posD x xs = some j → (∃ z, xs[j]? = some z ∧ eqD z x = true) ∧ ∀ m z, m < j → xs[m]? = some z → eqD z x = false
  | [], _, h => nomatch h
  | z :: r, j, h => by
    unfold posD at h
    split at h
    · rename_i q
      cases h
      exact ⟨⟨z, rfl, q⟩, fun m _ h => absurd h (Nat.not_lt_zero m)⟩
    · rename_i q
      obtain ⟨k, e1, e2⟩ := Option.map_eq_some_iff.mp h
      subst e2
      obtain ⟨h1, h2⟩ := posD_get e1
      refine ⟨h1, fun m z' hm hz => ?_⟩
      cases m with
      | zero => cases hz; exact Bool.not_eq_true _ ▸ q
      | succ m => exact h2 m z' (by omega) hz

def tyR (T : String) : D → Bool
  | .lst _ _ => T == "list"
  | .kl _ => T == "list"
  | .dct _ _ _ => T == "dict"
  | .str _ => T == "str"
  | _ => false
theorem tyR_ty {K : KX} {O : Addr → Prop} {H : Hp} {d : D} {v : V} {os : List Addr} {T : String} (r : RepD K O H d v os) (h : tyR T d = true) : tyV K.fr T v H := by
  cases r with
  | lstO q _ => exact .inl ⟨by simpa [tyR] using h, _, .inl (.inl q)⟩
  | lstF q _ _ => exact .inl ⟨by simpa [tyR] using h, _, .inl q⟩
  | kl q _ => exact .inl ⟨by simpa [tyR] using h, _, q.imp (fun z => z.1) id⟩
  | dkO q _ => exact .inr (.inr (.inl ⟨by simpa [tyR] using h, .inl ⟨_, q⟩⟩))
  | dtO q _ => exact .inr (.inr (.inl ⟨by simpa [tyR] using h, .inr ⟨_, q⟩⟩))
  | dkF q _ _ => exact .inr (.inr (.inl ⟨by simpa [tyR] using h, .inl ⟨_, q⟩⟩))
  | dtF q _ _ => exact .inr (.inr (.inl ⟨by simpa [tyR] using h, .inr ⟨_, q⟩⟩))
  | str x => exact (show T = "str" by simpa [tyR] using h)
  | _ => cases h
def FitsM (K : KX) (g : D → List D → Option D) (r : V → List V → Hp → VK → Prop) : Prop :=
  ∀ (O : Addr → Prop) H x ys v vs o1 o2 d Q, RepD K O H x v o1 → RepL K O H ys vs o2 → (o1 ++ o2).Nodup → (∀ a ∈ o1 ++ o2, O a) → g x ys = some d → Done K O H (o1 ++ o2) d Q → r v vs H Q
def eBM (T : String) (g : D → List D → Option D) (fe : En → R D) (fa : En → R (List D)) : En → R D := fun ρ => (fe ρ).bind fun x => if tyR T x then (fa ρ).bind fun ys => ofO (g x ys) else .stuck
section
variable {K : KX} {W : WX} {S Sa Sb : List Nat} {σ : L2.St} {H : Hp} {T : String} {g : D → List D → Option D} {r : V → List V → Hp → VK → Prop}
theorem rd_bm {fa : En → R D} {fb : En → R (List D)} {Q : VK} (hg : FitsM K g r) (h : rd K W (Sa ++ Sb) (eBM T g fa fb) σ H Q) : rd K W Sa fa σ H fun v H1 => tyV K.fr T v H1 ∧ rdA K W Sb fb σ H1 fun vs H2 => r v vs H2 Q := by
  obtain ⟨ρ, ow, B, st, h⟩ := h
  refine ⟨ρ, ow, B, st, ?_⟩
  unfold eBM at h
  cases ea : fa ρ with
  | stuck => rw [ea] at h; exact h
  | exc C fs => rw [ea] at h; exact h
  | ok x =>
    rw [ea] at h
    intro v1 H1 o1 s1 r1 d1 n1
    simp only [R.bind_ok] at h
    cases ty : tyR T x with
    | false => rw [ty, if_neg Bool.false_ne_true] at h; exact h.elim
    | true =>
      rw [ty, if_pos rfl] at h
      refine ⟨tyR_ty r1 ty, ρ, ow, fun a => B a ∨ a ∈ o1, st.grow s1 (fun a o e z => z.elim id fun z => by rw [n1 a z] at e; cases e) (fun a z => z.elim (fun z q => st.bt a z (s1.free q)) (r1.there a)), ?_⟩
      cases eb : fb ρ with
      | stuck => rw [eb] at h; exact h
      | exc C fs =>
        rw [eb] at h
        exact fun cls dd H' s x => h cls dd H' (s1.trans s) x
      | ok y =>
        rw [eb] at h
        simp only [R.bind_ok] at h
        intro v2 H2 o2 s2 r2 d2 n2
        cases eg : g x y with
        | none => rw [eg] at h; exact h.elim
        | some d =>
          rw [eg] at h
          have n12 : ∀ a ∈ o1 ++ o2, H a = none := fun a m => by
            rcases List.mem_append.mp m with m | m
            · exact n1 a m
            · exact s1.free (n2 a m)
          exact hg _ H2 x y v1 v2 o1 o2 d Q (r1.keep (outS_keep n2) (Kept.of_same s2 _)) (r2.keep (fun a o e z => outS_keep2 a z) (Kept.of_same (Same.refl _) _)) (nodup_two d1 d2 r1.there n2) outS_mem eg (rd_done (s1.trans s2) n12 h)
end
section
variable {X : CY} {W : WX} {S Sa Sb : List Nat} {T id : String} {nm : Str} {o e : Expr} {es : List Expr} {fe : En → R D} {fa : En → R (List D)} {g : D → List D → Option D} {r : V → List V → Hp → VK → Prop} {apos cpos : Pos}
/-- o.m(e, ..), what is told by it -/
theorem de_bm (pa : PlainAttrs T) (slot : Slot T nm id) (hty : typeOf (.builtin id) = pure (.type "method_descriptor")) (hm : MtR X id r) (hg : FitsM (kx X) g r) (ho : DE X W Sa o fe) (ha : DA X W Sb (e :: es) fa)
    (hbase : attributeBase o nm X.env (eval o X.env) = eval o X.env := by rfl)
    (hfew : ((backTo cpos (starEach (e :: es) X.env)).all (fun x => !x.1) && (backToKw cpos (keywordEach [] X.env)).all (fun x => x.1.isSome) && decide ((e :: es).length + ([] : List Keyword).length + (if ([] : List Keyword).isEmpty then 0 else 1) < 30)) = true := by rfl)
    (hline : (apos.endLine == cpos.line) = true := by rfl) (hs : starEach (e :: es) X.env = (false, eval e X.env) :: starEach es X.env := by rfl) (hplain : (backTo cpos (starEach es X.env)).any (·.1) = false := by rfl) :
    DE X W (Sa ++ Sb) (.Call (.Attribute o nm apos) (e :: es) [] cpos) (eBM T g fe fa) :=
  ⟨(pe_bm pa slot hty hm ho.pe ha.pa hbase hfew hline hs hplain).imp fun σ H Q h => rd_bm hg h⟩
end
theorem fits_index {K : KX} : FitsM K gIndex (rIndexD K.fr) := by
  intro O H x ys v vs o1 o2 d Q r1 r2 nd m e dn
  unfold gIndex at e
  split at e
  · rename_i o xs y
    split at e
    · rename_i h
      obtain ⟨h1, h2⟩ := Bool.and_eq_true_iff.mp h
      obtain ⟨j, e1, e2⟩ := Option.map_eq_some_iff.mp e
      subst e2
      obtain ⟨w, rfl, q⟩ := r2.one
      obtain ⟨a, ws, o', rfl, hr, rl, _, _⟩ := lst_part r1 (List.nodup_append.mp nd).1
      have h2' : okN 9 (.lst o xs) = true := by simpa only [okN] using h2
      obtain ⟨⟨z, hz, hzq⟩, hlt⟩ := posD_get e1
      refine ⟨a, w, pyD y, pyL xs, j, pyD z, rfl, rfl, r1.data h2', q.data h1, okN_shaped h2' (by decide), okN_shaped h1 (by decide), ?_, hzq, fun i z' hi hz' => ?_, dn.flat fun _ => .int _⟩
      · rw [pyL_map, List.getElem?_map, hz]; rfl
      · rw [pyL_map, List.getElem?_map] at hz'
        obtain ⟨z0, e3, e4⟩ := Option.map_eq_some_iff.mp hz'
        subst e4
        exact hlt i z0 hi e3
    · cases e
  · cases e

/-! ### a < b < c, b a number -/
def chK (g g' : D → D → Option D) (fc : En → R D) (ρ : En) (x : D) : D → R D
  | .int j => (ofO (g x (.int j))).bind fun b => (asB b).bind fun k => if k then (fc ρ).bind fun z => ofO (g' (.int j) z) else .ok (.bl false)
  | _ => .stuck
def eCh (g g' : D → D → Option D) (fa fb fc : En → R D) : En → R D := fun ρ => (fa ρ).bind fun x => (fb ρ).bind fun y => chK g g' fc ρ x y
section
variable {K : KX} {W : WX} {Sa Sb Sc : List Nat} {σ : L2.St} {H : Hp} {g g' : D → D → Option D} {r r' : R2} {fa fb fc : En → R D}
theorem rd_chain {Q : VK} (hg : Fits2 K g r) (hg' : Fits2 K g' r') (h : rd K W (Sa ++ (Sb ++ Sc)) (eCh g g' fa fb fc) σ H Q) : tChain r r' (rd K W Sa fa) (rd K W Sb fb) (rd K W Sc fc) σ H Q := by
  obtain ⟨ρ, ow, B, st, h⟩ := h
  refine ⟨ρ, ow, B, st, ?_⟩
  unfold eCh at h
  cases ea : fa ρ with
  | stuck => rw [ea] at h; exact h
  | exc C fs => rw [ea] at h; exact h
  | ok x =>
    rw [ea] at h
    intro v1 H1 o1 s1 r1 d1 n1
    refine ⟨ρ, ow, fun a => B a ∨ a ∈ o1, st.grow s1 (fun a o e z => z.elim id fun z => by rw [n1 a z] at e; cases e) (fun a z => z.elim (fun z q => st.bt a z (s1.free q)) (r1.there a)), ?_⟩
    simp only [R.bind_ok] at h
    cases eb : fb ρ with
    | stuck => rw [eb] at h; exact h
    | exc C fs =>
      rw [eb] at h
      exact fun cls dd H' s x => h cls dd H' (s1.trans s) x
    | ok y =>
      rw [eb] at h
      simp only [R.bind_ok] at h
      intro v2 H2 o2 s2 r2 d2 n2
      cases y with
      | int j =>
        unfold chK at h
        dsimp only at h
        cases r2
        cases eg : g x (.int j) with
        | none => rw [eg] at h; exact h.elim
        | some b =>
          rw [eg] at h
          simp only [ofO_some, R.bind_ok] at h
          cases b with
          | bl k =>
            have h' : match (if k then (fc ρ).bind fun z => ofO (g' (.int j) z) else .ok (.bl false)) with | .ok d => rdOk K (Sa ++ (Sb ++ Sc)) B ow H d Q | .exc C fs => rdEx K W σ H C fs | .stuck => False := h
            refine hg (OutS Sa ow B o1) H2 x (.int j) v1 (.int j) o1 [] (.bl k) _ (r1.keep (fun a o e z => z) (Kept.of_same s2 _)) (.int j) (by rw [List.append_nil]; exact d1) (fun a m => outS_mem a (by rw [List.append_nil] at m; exact m)) eg fun v H' os q rb _ _ => ?_
            cases rb
            refine ⟨k, rfl, ?_⟩
            have sa : Same H H' := (s1.trans s2).trans q
            cases k with
            | false => exact h' (.bl false) H' [] sa (.bl _) List.nodup_nil fun _ z => nomatch z
            | true =>
              rw [if_pos rfl] at h' ⊢
              have h2 : rd K W (Sa ++ (Sb ++ Sc)) (e2 g' (eC (.int j)) fc) σ H' Q := by
                refine ⟨ρ, ow, B, st.same sa, ?_⟩
                unfold e2 eC
                rw [R.bind_ok]
                revert h'
                cases (fc ρ).bind fun z => ofO (g' (.int j) z) with
                | stuck => exact id
                | exc C fs => exact fun h cls dd H' s x => h cls dd H' (sa.trans s) x
                | ok d => exact fun h v H' os s r nd n => h v H' os (sa.trans s) r nd fun a m => sa.free (n a m)
              have h3 := rd2 (Sa := []) (Sb := Sc) hg' (rd_weak (S := [] ++ Sc) (fun i m => List.mem_append_right _ (List.mem_append_right _ m)) h2)
              exact rd_const (v := .int j) (fun _ => .int _) h3
          | _ => exact h.elim
      | _ => exact h.elim
end
section
variable {X : CY} {W : WX} {Sa Sb Sc : List Nat} {a b c : Expr} {op op' : CmpOp} {g g' : D → D → Option D} {r r' : R2} {fa fb fc : En → R D} {pos : Pos}
theorem de_chain (ho : OpR X (compareOp op) r) (hg : Fits2 (kx X) g r) (ho' : OpR X (compareOp op') r') (hg' : Fits2 (kx X) g' r') (ha : DE X W Sa a fa) (hb : DE X W Sb b fb) (hc : DE X W Sc c fc)
    (hm : lastMarks [op, op'] [b, c] = false := by with_unfolding_all rfl) : DE X W (Sa ++ (Sb ++ Sc)) (.Compare a [op, op'] [b, c] pos) (eCh g g' fa fb fc) :=
  ⟨(pe_chain ho ho' ha.pe hb.pe hc.pe hm).imp fun σ H Q h => rd_chain hg hg' h⟩
theorem dt_chain (ho : OpR X (compareOp op) r) (hg : Fits2 (kx X) g r) (ho' : OpR X (compareOp op') r') (hg' : Fits2 (kx X) g' r') (ha : DE X W Sa a fa) (hb : DE X W Sb b fb) (hc : DE X W Sc c fc)
    (hm : lastMarks [op, op'] [b, c] = false := by with_unfolding_all rfl) : DT X W (.Compare a [op, op'] [b, c] pos) (tV (eCh g g' fa fb fc)) :=
  ⟨(pt_chain ho ho' ha.pe hb.pe hc.pe hm).imp fun σ H Q h => rd_chain hg hg' (rd_bool h)⟩
end
end TL
/-! T12: ends -/
namespace TL
open PySem PySem.Spec PyProof.Rows L2

theorem hu65 {k : Nat} {A : Around} (r : Room k A) : A.units + 65 < cLine := by have := r.un; omega
theorem tk0 {X : Cx} : L2N.Takes X W0 := fun _ _ ⟨_, _, _, _, _, _, _, _, _, _, _, _, _, _, _, _, w⟩ => w.elim
theorem end_cx {P : Program} {w : World} {H : Hp} {s : Shared} {e : Value} {s' : Shared} (h : L2N.CX P w [] H s (fun _ _ _ => False) e s') : False := by
  unfold L2N.CX at h
  simp at h
theorem end_sp {K : PySem.W.Frag} {F : List D → R D} (h : ∀ ns : List Int, ns.length ≤ 63 → (∀ z ∈ ns, Builtin.Int.intBits z ≤ 1048576) → F [.kl (ns.map D.int)] = .ok (.bl true)) {H : Hp} {a : Addr} {ns : List Int} (hl : ns.length ≤ 63)
    (hb : ∀ z ∈ ns, Builtin.Int.intBits z ≤ 1048576) (hS : SqL K H a (ns.map V.int)) : spD K 1 F [.ref a] H (fun v _ => v = .bl true) (fun _ _ _ => False) := by
  refine ⟨rfl, [.kl (ns.map D.int)], fun _ => False, .cons (o1 := []) (o2 := []) (.kl (hS.imp (fun z => ⟨z, id⟩) id) (RepL.ints ns)) .nil, fun _ z => z.elim, ?_⟩
  rw [h ns hl hb]
  exact fun v H' os q r nd n => by cases r; rfl
/-- return x: what the frame holds goes out -/
def sRetV (i : Nat) : En → Out := fun ρ => match ρ[i]? with
  | some (some d) => .ret d
  | _ => .stuck
section
variable {X : CY} {W : WX} {pos pos' : Pos}
theorem ds_retV (i : Nat) {x : Str} (hN : X.N[i]? = some x := by rfl) (hv : Vis X.env.scope x := by first | exact Or.inl rfl | exact Or.inr (Or.inl rfl) | exact Or.inr (Or.inr rfl)) (hd : (x == ("__debug__" : Str)) = false := by decide)
    (hcd : (x == ("__classdict__" : Str)) = false := by decide) : DS X W (.Return (some (.Name x pos)) pos') (sRetV i) :=
  ⟨(ps_ret (pe_var hN hv hd hcd)).imp fun D σ H ⟨ρ, ow, B, s, h⟩ => by
    unfold sRetV at h
    split at h
    · rename_i d e
      obtain ⟨v, hv, r⟩ := s.rep i d e
      exact ⟨v, hv, h v H (ow i) (r.keep (fun a o _ z => z.elim .inr fun z => .inl ⟨i, z⟩) (Kept.of_same (Same.refl _) _)) (s.nd i) (fun a o e _ => e) fun a m => .inl ⟨i, m⟩⟩
    · exact h.elim⟩
end
end TL
/-! T13: dicts -/
namespace TL
open PySem PySem.Spec PyProof.Rows L2

/-! ### keys -/
def keyD : D → Option Key
  | .int i => some (.inl i)
  | .str x => some (.inr x)
  | _ => none
def keysL : List D → Option (List Key)
  | [] => some []
  | d :: r => (keyD d).bind fun k => (keysL r).map (k :: ·)
def keysD : D → Option (List Key)
  | .tup xs => keysL xs
  | _ => none
theorem keyD_kD (k : Key) : keyD (kD k) = some k := by cases k <;> rfl
theorem keysL_map : ∀ ks : List Key, keysL (ks.map kD) = some ks
  | [] => rfl
  | k :: r => by rw [List.map_cons]; unfold keysL; rw [keyD_kD, keysL_map r]; rfl
theorem keysD_ktD (ks : List Key) : keysD (ktD ks) = some ks := keysL_map ks
theorem keyD_rep {K : KX} {O : Addr → Prop} {H : Hp} {d : D} {v : V} {os : List Addr} {k : Key} (r : RepD K O H d v os) (h : keyD d = some k) : v = kV k ∧ d = kD k := by
  cases r with
  | int i => cases h; exact ⟨rfl, rfl⟩
  | str i => cases h; exact ⟨rfl, rfl⟩
  | _ => cases h
theorem keysL_rep {K : KX} {O : Addr → Prop} {H : Hp} : ∀ {xs : List D} {vs : List V} {os : List Addr} {ks : List Key}, RepL K O H xs vs os → keysL xs = some ks → vs = ks.map kV ∧ xs = ks.map kD
  | _, _, _, _, .nil, h => by cases h; exact ⟨rfl, rfl⟩
  | _, _, _, _, .cons r1 r2, h => by
    unfold keysL at h
    obtain ⟨k, e1, e2⟩ := Option.bind_eq_some_iff.mp h
    obtain ⟨ks, e3, e4⟩ := Option.map_eq_some_iff.mp e2
    obtain ⟨a1, a2⟩ := keyD_rep r1 e1
    obtain ⟨b1, b2⟩ := keysL_rep r2 e3
    rw [← e4, a1, b1, a2, b2]
    exact ⟨rfl, rfl⟩
theorem keysD_rep {K : KX} {O : Addr → Prop} {H : Hp} {d : D} {v : V} {os : List Addr} {ks : List Key} (r : RepD K O H d v os) (h : keysD d = some ks) : ∃ b, v = .ref b ∧ H b = some (.tup (ks.map kV)) ∧ d = ktD ks ∧ os = [] := by
  cases r with
  | tup q rl =>
    obtain ⟨e1, e2⟩ := keysL_rep rl h
    subst e1
    refine ⟨_, rfl, q, by rw [e2]; rfl, ?_⟩
    have : valL (ks.map kD) = true := by
      clear h rl q e2
      induction ks with
      | nil => rfl
      | cons k r ih => cases k <;> exact ih
    rw [e2] at rl
    exact (RepL.val (O' := O) rl this).1
  | _ => cases h

/-! ### looking up -/
def lookK : List (D × D) → Key → Option D
  | [], _ => none
  | p :: r, k => if keyD p.1 = some k then some p.2 else lookK r k
def lookT : List (D × D) → List Key → Option D
  | [], _ => none
  | p :: r, k => if keysD p.1 = some k then some p.2 else lookT r k
def putKD (kvs : List (D × D)) (k : Key) (d : D) : List (D × D) :=
  if (kvs.any fun p => decide (keyD p.1 = some k)) = true then kvs.map (fun p => if keyD p.1 = some k then (p.1, d) else p) else kvs ++ [(kD k, d)]
def putTD (kvs : List (D × D)) (k : List Key) (d : D) : List (D × D) :=
  if (kvs.any fun p => decide (keysD p.1 = some k)) = true then kvs.map (fun p => if keysD p.1 = some k then (p.1, d) else p) else kvs ++ [(ktD k, d)]
section
variable {K : KX} {O : Addr → Prop} {H : Hp}
theorem RepK.look {k : Key} : ∀ {ds : List (D × D)} {vs : List (Key × V)} {os : List Addr}, RepK K O H ds vs os → os.Nodup → (∀ d, lookK ds k = some d → ∃ v o', valV vs k = some v ∧ RepD K O H d v o' ∧ o'.Nodup ∧ ∀ a ∈ o', a ∈ os) ∧ (lookK ds k = none → valV vs k = none)
  | _, _, _, .nil, _ => ⟨fun d h => (nomatch h), fun _ => rfl⟩
  | _, _, _, .cons (k := k0) r1 r2, nd => by
    obtain ⟨n1, n2, _⟩ := List.nodup_append.mp nd
    obtain ⟨h1, h2⟩ := RepK.look (k := k) r2 n2
    by_cases e : k0 = k
    · subst e
      refine ⟨fun d h => ?_, fun h => ?_⟩
      · unfold lookK at h
        rw [if_pos (keyD_kD _)] at h
        cases h
        exact ⟨_, _, valV_pos rfl, r1, n1, fun a m => List.mem_append_left _ m⟩
      · unfold lookK at h
        rw [if_pos (keyD_kD _)] at h
        cases h
    · have en : ¬ keyD (kD k0) = some k := by rw [keyD_kD]; exact fun z => e (Option.some.inj z)
      refine ⟨fun d h => ?_, fun h => ?_⟩
      · unfold lookK at h
        rw [if_neg en] at h
        obtain ⟨v, o', a1, a2, a3, a4⟩ := h1 d h
        exact ⟨v, o', by rw [valV_neg e]; exact a1, a2, a3, fun a m => List.mem_append_right _ (a4 a m)⟩
      · unfold lookK at h
        rw [if_neg en] at h
        rw [valV_neg e]
        exact h2 h
theorem RepT.look {k : List Key} : ∀ {ds : List (D × D)} {vs : List (List Key × V)} {os : List Addr}, RepT K O H ds vs os → os.Nodup → (∀ d, lookT ds k = some d → ∃ v o', valV vs k = some v ∧ RepD K O H d v o' ∧ o'.Nodup ∧ ∀ a ∈ o', a ∈ os) ∧ (lookT ds k = none → valV vs k = none)
  | _, _, _, .nil, _ => ⟨fun d h => (nomatch h), fun _ => rfl⟩
  | _, _, _, .cons (k := k0) r1 r2, nd => by
    obtain ⟨n1, n2, _⟩ := List.nodup_append.mp nd
    obtain ⟨h1, h2⟩ := RepT.look (k := k) r2 n2
    by_cases e : k0 = k
    · subst e
      refine ⟨fun d h => ?_, fun h => ?_⟩
      · unfold lookT at h
        rw [if_pos (keysD_ktD _)] at h
        cases h
        exact ⟨_, _, valV_pos rfl, r1, n1, fun a m => List.mem_append_left _ m⟩
      · unfold lookT at h
        rw [if_pos (keysD_ktD _)] at h
        cases h
    · have en : ¬ keysD (ktD k0) = some k := by rw [keysD_ktD]; exact fun z => e (Option.some.inj z)
      refine ⟨fun d h => ?_, fun h => ?_⟩
      · unfold lookT at h
        rw [if_neg en] at h
        obtain ⟨v, o', a1, a2, a3, a4⟩ := h1 d h
        exact ⟨v, o', by rw [valV_neg e]; exact a1, a2, a3, fun a m => List.mem_append_right _ (a4 a m)⟩
      · unfold lookT at h
        rw [if_neg en] at h
        rw [valV_neg e]
        exact h2 h
end

/-! ### in a dict -/
def rInDc (neg : Bool) : R2 := fun y x H Q => ∃ a o, x = .ref a ∧ DGet H a y o ∧ Q (.bl (if neg then !o.isSome else o.isSome)) H
section
variable {X : Cx}
theorem op_inDc (hu : X.A.units + 1 < cLine) : OpR X (compareOp .In) (rInDc false) := by
  intro pins s σ H x y v u Q I rx ry h
  obtain ⟨a, o, rfl, g, q⟩ := h
  cases ry
  exact d_in hu I g rx fun s' I' => ⟨.bl _, H, I', rfl, q⟩
theorem op_niDc (hu : X.A.units + 1 < cLine) : OpR X (compareOp .NotIn) (rInDc true) := by
  intro pins s σ H x y v u Q I rx ry h
  obtain ⟨a, o, rfl, g, q⟩ := h
  cases ry
  exact d_notIn hu I g rx fun s' I' => ⟨.bl _, H, I', rfl, q⟩
theorem op_inG (hu : X.A.units + 65 < cLine) : OpR X (compareOp .In) (fun x y H Q => rInS X.K false x y H Q ∨ rInDc false x y H Q) := (op_inS hu).or (op_inDc (by omega))
theorem op_niG (hu : X.A.units + 65 < cLine) : OpR X (compareOp .NotIn) (fun x y H Q => rInS X.K true x y H Q ∨ rInDc true x y H Q) := (op_niS hu).or (op_niDc (by omega))
end
def lookD (t : Bool) (kvs : List (D × D)) (x : D) : Option (Option D) := if t then (keysD x).map (lookT kvs) else (keyD x).map (lookK kvs)
def gIn (neg : Bool) : D → D → Option D := fun x y => match y with
  | .dct _ t kvs => (lookD t kvs x).map fun o => .bl (if neg then !o.isSome else o.isSome)
  | _ => gInS neg x y
/-- a dict, as it stands on the heap, and what it holds at a key -/
theorem dct_look {K : KX} {O : Addr → Prop} {H : Hp} {o t : Bool} {kvs : List (D × D)} {x : D} {v w : V} {o1 o2 : List Addr} {r : Option D} (rd : RepD K O H (.dct o t kvs) v o1) (nd : o1.Nodup) (rx : RepD K O H x w o2) (h : lookD t kvs x = some r) :
    o2 = [] ∧ ∃ a, v = .ref a ∧ ((r = none ∧ DGet H a w none) ∨ ∃ d u o', r = some d ∧ DGet H a w (some u) ∧ RepD K O H d u o' ∧ o'.Nodup ∧ ∀ b ∈ o', b ∈ o1) := by
  unfold lookD at h
  have caseK : ∀ {vs : List (Key × V)} {os : List Addr} {a : Addr}, t = false → RepK K O H kvs vs os → os.Nodup → (∀ b ∈ os, b ∈ o1) → H a = some (.dK vs) → v = .ref a → o2 = [] ∧ ∃ a, v = .ref a ∧ ((r = none ∧ DGet H a w none) ∨ ∃ d u o', r = some d ∧ DGet H a w (some u) ∧ RepD K O H d u o' ∧ o'.Nodup ∧ ∀ b ∈ o', b ∈ o1) := by
    intro vs os a et rk n sub e ev
    rw [et, if_neg Bool.false_ne_true] at h
    obtain ⟨k, ek, er⟩ := Option.map_eq_some_iff.mp h
    obtain ⟨ew, ex⟩ := keyD_rep rx ek
    have eo : o2 = [] := by rw [ex] at rx; cases k <;> (cases rx; rfl)
    refine ⟨eo, a, ev, ?_⟩
    obtain ⟨h1, h2⟩ := rk.look (k := k) n
    cases el : lookK kvs k with
    | none => exact .inl ⟨by rw [← er, el], by rw [ew, ← h2 el]; exact DGet.k e⟩
    | some d =>
      obtain ⟨u, o', a1, a2, a3, a4⟩ := h1 d el
      exact .inr ⟨d, u, o', by rw [← er, el], by rw [ew, ← a1]; exact DGet.k e, a2, a3, fun b m => sub b (a4 b m)⟩
  have caseT : ∀ {vs : List (List Key × V)} {os : List Addr} {a : Addr}, t = true → RepT K O H kvs vs os → os.Nodup → (∀ b ∈ os, b ∈ o1) → H a = some (.dT vs) → v = .ref a → o2 = [] ∧ ∃ a, v = .ref a ∧ ((r = none ∧ DGet H a w none) ∨ ∃ d u o', r = some d ∧ DGet H a w (some u) ∧ RepD K O H d u o' ∧ o'.Nodup ∧ ∀ b ∈ o', b ∈ o1) := by
    intro vs os a et rk n sub e ev
    rw [et, if_pos rfl] at h
    obtain ⟨k, ek, er⟩ := Option.map_eq_some_iff.mp h
    obtain ⟨b, ew, eb, ex, eo⟩ := keysD_rep rx ek
    refine ⟨eo, a, ev, ?_⟩
    obtain ⟨h1, h2⟩ := rk.look (k := k) n
    cases el : lookT kvs k with
    | none => exact .inl ⟨by rw [← er, el], by rw [ew, ← h2 el]; exact DGet.t e eb⟩
    | some d =>
      obtain ⟨u, o', a1, a2, a3, a4⟩ := h1 d el
      exact .inr ⟨d, u, o', by rw [← er, el], by rw [ew, ← a1]; exact DGet.t e eb, a2, a3, fun b m => sub b (a4 b m)⟩
  cases rd with
  | dkF e n rk => exact caseK rfl rk List.nodup_nil (fun _ z => nomatch z) e rfl
  | dkO e rk => exact caseK rfl rk (List.nodup_cons.mp nd).2 (fun b m => List.mem_cons_of_mem _ m) e rfl
  | dtF e n rk => exact caseT rfl rk List.nodup_nil (fun _ z => nomatch z) e rfl
  | dtO e rk => exact caseT rfl rk (List.nodup_cons.mp nd).2 (fun b m => List.mem_cons_of_mem _ m) e rfl
theorem fits_in {K : KX} {neg : Bool} : Fits2 K (gIn neg) (fun x y H Q => rInS K.fr neg x y H Q ∨ rInDc neg x y H Q) := by
  intro O H x y v1 v2 o1 o2 d Q r1 r2 nd m e dn
  cases y with
  | dct o t kvs =>
    obtain ⟨r, er, ed⟩ := Option.map_eq_some_iff.mp (show (lookD t kvs x).map _ = some d from e)
    subst ed
    obtain ⟨eo, a, ev, c⟩ := dct_look r2 (List.nodup_append.mp nd).2.1 r1 er
    refine .inr ?_
    rcases c with ⟨rfl, g⟩ | ⟨d', u, o', rfl, g, _⟩
    · exact ⟨a, none, ev, g, dn.flat fun _ => .bl _⟩
    · exact ⟨a, some u, ev, g, dn.flat fun _ => .bl _⟩
  | _ => exact .inl (fits_inS O H _ _ v1 v2 o1 o2 d Q r1 r2 nd m e dn)

/-! ### stores in a dict -/
section
variable {K : KX} {O : Addr → Prop} {H : Hp}
theorem RepK.any {k : Key} : ∀ {ds : List (D × D)} {vs : List (Key × V)} {os : List Addr}, RepK K O H ds vs os → (ds.any fun p => decide (keyD p.1 = some k)) = (vs.any fun p => decide (p.1 = k))
  | _, _, _, .nil => rfl
  | _, _, _, .cons (k := k0) r1 r2 => by
    rw [List.any_cons, List.any_cons, RepK.any r2]
    congr 1
    rw [keyD_kD, Bool.eq_iff_iff, decide_eq_true_iff, decide_eq_true_iff]
    exact ⟨Option.some.inj, congrArg some⟩
theorem RepK.put {k : Key} {d : D} {v : V} (rv : RepD K O H d v []) : ∀ {ds : List (D × D)} {vs : List (Key × V)} {os : List Addr}, RepK K O H ds vs os → ∃ os', os'.Sublist os ∧ RepK K O H (ds.map fun p => if keyD p.1 = some k then (p.1, d) else p) (vs.map fun p => if p.1 = k then (p.1, v) else p) os'
  | _, _, _, .nil => ⟨[], .slnil, .nil⟩
  | _, _, _, .cons (k := k0) (o1 := o1) r1 r2 => by
    obtain ⟨os', sl, r'⟩ := RepK.put rv r2
    rw [List.map_cons, List.map_cons]
    by_cases e : k0 = k
    · rw [if_pos (show keyD (kD k0) = some k by rw [keyD_kD, e]), if_pos e]
      exact ⟨[] ++ os', sl.trans (List.sublist_append_right _ _), .cons (o1 := []) rv r'⟩
    · rw [if_neg (show ¬ keyD (kD k0) = some k by rw [keyD_kD]; exact fun z => e (Option.some.inj z)), if_neg e]
      exact ⟨o1 ++ os', sl.append_left _, .cons r1 r'⟩
theorem RepK.append : ∀ {ds es : List (D × D)} {vs ws : List (Key × V)} {o1 o2 : List Addr}, RepK K O H ds vs o1 → RepK K O H es ws o2 → RepK K O H (ds ++ es) (vs ++ ws) (o1 ++ o2)
  | _, _, _, _, _, _, .nil, s => s
  | _, _, _, _, _, _, .cons r t, s => by
    rw [List.append_assoc]
    exact .cons r (RepK.append t s)
theorem RepK.length : ∀ {ds : List (D × D)} {vs : List (Key × V)} {os : List Addr}, RepK K O H ds vs os → ds.length = vs.length
  | _, _, _, .nil => rfl
  | _, _, _, .cons _ r => congrArg (· + 1) (RepK.length r)
/-- one key is put -/
theorem RepK.puts {k : Key} {d : D} {v : V} {o2 os : List Addr} {ds : List (D × D)} {vs : List (Key × V)} (r : RepK K O H ds vs os) (rv : RepD K O H d v o2) (hv : (ds.any fun p => decide (keyD p.1 = some k)) = true → d.val = true) :
    ∃ os', os'.Sublist (os ++ o2) ∧ RepK K O H (putKD ds k d) (putK vs k v) os' := by
  unfold putKD putK
  rw [r.any]
  rw [r.any] at hv
  by_cases c : (vs.any fun p => decide (p.1 = k)) = true
  · rw [if_pos c, if_pos c]
    obtain ⟨rfl, rv'⟩ := RepD.val (O' := O) rv (hv c)
    obtain ⟨os', sl, r'⟩ := r.put (k := k) rv'
    exact ⟨os', by rw [List.append_nil]; exact sl, r'⟩
  · rw [if_neg c, if_neg c]
    have := r.append (.cons (k := k) rv .nil)
    rw [List.append_nil] at this
    exact ⟨os ++ o2, List.Sublist.refl _, this⟩
end

section
variable {K : KX} {O : Addr → Prop} {H : Hp}
theorem RepT.any {k : (List Key)} : ∀ {ds : List (D × D)} {vs : List ((List Key) × V)} {os : List Addr}, RepT K O H ds vs os → (ds.any fun p => decide (keysD p.1 = some k)) = (vs.any fun p => decide (p.1 = k))
  | _, _, _, .nil => rfl
  | _, _, _, .cons (k := k0) r1 r2 => by
    rw [List.any_cons, List.any_cons, RepT.any r2]
    congr 1
    rw [keysD_ktD, Bool.eq_iff_iff, decide_eq_true_iff, decide_eq_true_iff]
    exact ⟨Option.some.inj, congrArg some⟩
theorem RepT.put {k : (List Key)} {d : D} {v : V} (rv : RepD K O H d v []) : ∀ {ds : List (D × D)} {vs : List ((List Key) × V)} {os : List Addr}, RepT K O H ds vs os → ∃ os', os'.Sublist os ∧ RepT K O H (ds.map fun p => if keysD p.1 = some k then (p.1, d) else p) (vs.map fun p => if p.1 = k then (p.1, v) else p) os'
  | _, _, _, .nil => ⟨[], .slnil, .nil⟩
  | _, _, _, .cons (k := k0) (o1 := o1) r1 r2 => by
    obtain ⟨os', sl, r'⟩ := RepT.put rv r2
    rw [List.map_cons, List.map_cons]
    by_cases e : k0 = k
    · rw [if_pos (show keysD (ktD k0) = some k by rw [keysD_ktD, e]), if_pos e]
      exact ⟨[] ++ os', sl.trans (List.sublist_append_right _ _), .cons (o1 := []) rv r'⟩
    · rw [if_neg (show ¬ keysD (ktD k0) = some k by rw [keysD_ktD]; exact fun z => e (Option.some.inj z)), if_neg e]
      exact ⟨o1 ++ os', sl.append_left _, .cons r1 r'⟩
theorem RepT.append : ∀ {ds es : List (D × D)} {vs ws : List ((List Key) × V)} {o1 o2 : List Addr}, RepT K O H ds vs o1 → RepT K O H es ws o2 → RepT K O H (ds ++ es) (vs ++ ws) (o1 ++ o2)
  | _, _, _, _, _, _, .nil, s => s
  | _, _, _, _, _, _, .cons r t, s => by
    rw [List.append_assoc]
    exact .cons r (RepT.append t s)
theorem RepT.length : ∀ {ds : List (D × D)} {vs : List ((List Key) × V)} {os : List Addr}, RepT K O H ds vs os → ds.length = vs.length
  | _, _, _, .nil => rfl
  | _, _, _, .cons _ r => congrArg (· + 1) (RepT.length r)
/-- one key is put -/
theorem RepT.puts {k : (List Key)} {d : D} {v : V} {o2 os : List Addr} {ds : List (D × D)} {vs : List ((List Key) × V)} (r : RepT K O H ds vs os) (rv : RepD K O H d v o2) (hv : (ds.any fun p => decide (keysD p.1 = some k)) = true → d.val = true) :
    ∃ os', os'.Sublist (os ++ o2) ∧ RepT K O H (putTD ds k d) (putK vs k v) os' := by
  unfold putTD putK
  rw [r.any]
  rw [r.any] at hv
  by_cases c : (vs.any fun p => decide (p.1 = k)) = true
  · rw [if_pos c, if_pos c]
    obtain ⟨rfl, rv'⟩ := RepD.val (O' := O) rv (hv c)
    obtain ⟨os', sl, r'⟩ := r.put (k := k) rv'
    exact ⟨os', by rw [List.append_nil]; exact sl, r'⟩
  · rw [if_neg c, if_neg c]
    have := r.append (.cons (k := k) rv .nil)
    rw [List.append_nil] at this
    exact ⟨os ++ o2, List.Sublist.refl _, this⟩
end

def storeD (t : Bool) (kvs : List (D × D)) (x y : D) : Option (List (D × D)) :=
  if t then (keysD x).bind fun k => if (kvs.any fun p => decide (keysD p.1 = some k)) && !y.val then none else some (putTD kvs k y)
  else (keyD x).bind fun k => if (kvs.any fun p => decide (keyD p.1 = some k)) && !y.val then none else some (putKD kvs k y)
def gStoreD : D → List D → Option (D × D)
  | .dct true t kvs, [y, x] => if kvs.length < 16777216 then (storeD t kvs x y).map fun l => (.dct true t l, .non) else none
  | _, _ => none
def rSetD : V → V → V → Hp → (Hp → Prop) → Prop := fun o i v H Q => ∃ a H', o = .ref a ∧ DPut H a i v H' ∧ Q H'
theorem set_dict {X : Cx} (hu : X.A.units + 1 < cLine) : PSet X rSetD := by
  intro pins s σ H o i v ov iv u Q I ro ri rv h
  obtain ⟨a, H', rfl, g, q⟩ := h
  cases ro
  exact d_setItem hu I g ri rv fun s' I' => ⟨H', I', q⟩
theorem upd_far' {H : Hp} {a : Addr} {o : List Addr} {x y : HO} (h : H a = some y) (hy : ¬ Imm y) (m : a ∈ o) : ∀ b u, H b = some u → (b ∉ o ∨ Imm u) → upd H a x b = some u := fun b u e z => by
  have ne : b ≠ a := fun q => by
    subst q
    rcases z with z | z
    · exact z m
    · rw [h] at e
      cases e
      exact hy z
  rw [upd_ne ne]
  exact e
theorem mut_storeD {K : KX} : MutOk K gStoreD (rSt rSetD) := by
  intro O H d ds v vs o os d' ret Q r rs nd m e k
  unfold gStoreD at e
  split at e
  · rename_i t kvs y x
    split at e
    · rename_i hl
      obtain ⟨l, el, e2⟩ := Option.map_eq_some_iff.mp e
      obtain ⟨e3, e4⟩ := Prod.mk.inj e2
      subst e3 e4
      obtain ⟨vy, vx, p1, p2, rfl, rfl, ry, rx⟩ := rs.two
      have nd0 := nd
      -- what is the same for both kinds
      have fin : ∀ {a : Addr} {o1 os' : List Addr} {new : HO}, v = .ref a → o = a :: o1 → (∃ u, H a = some u ∧ ¬ Imm u) → p2 = [] → os'.Sublist (o1 ++ p1) → (∀ {H' : Hp} {O' : Addr → Prop}, H' a = some new → (∀ b u, H b = some u → O' b → O b) → Kept O H H' os' → RepD K O' H' (.dct true t l) (.ref a) (a :: os')) → Q .non (upd H a new) := by
        intro a o1 os' new ev eo hu ep sl mk
        subst ev eo ep
        obtain ⟨u, hu1, hu2⟩ := hu
        have n0 := List.nodup_cons.mp (show (a :: (o1 ++ p1)).Nodup by simpa using nd)
        have ha : a ∉ os' := fun z => n0.1 (sl.mem z)
        have sub : ∀ b ∈ os', O b := fun b z => m b (by have := sl.mem z; simp at this ⊢; exact .inr this)
        refine k _ _ (a :: os') [] (upd_far' hu1 hu2 List.mem_cons_self) (mk upd_same (fun b u e z => ?_) (Kept.upd hu1 hu2 (m a (by simp)) ha)) .non ?_ fun b z => .inl ?_
        · rcases z with z | z | z
          · exact z
          · rcases List.mem_cons.mp z with q | z
            · rw [q]; exact m a (by simp)
            · exact sub b z
          · exact nomatch z
        · rw [List.append_nil]
          exact List.nodup_cons.mpr ⟨ha, sl.nodup n0.2⟩
        · rw [List.append_nil] at z
          rcases List.mem_cons.mp z with q | z
          · rw [q]; simp
          · have := sl.mem z
            simp at this ⊢
            exact .inr this
      unfold storeD at el
      cases r with
      | @dkO a kv xs o1 eh rk =>
        rw [if_neg Bool.false_ne_true] at el
        obtain ⟨q, eq, el⟩ := Option.bind_eq_some_iff.mp el
        split at el
        · cases el
        · rename_i hc
          cases el
          obtain ⟨ew, ex⟩ := keyD_rep rx eq
          have ep : p2 = [] := by rw [ex] at rx; cases q <;> (cases rx; rfl)
          obtain ⟨os', sl, rk'⟩ := rk.puts (k := q) ry fun c => by rw [c] at hc; simpa using hc
          refine ⟨vy, vx, rfl, a, _, rfl, by rw [ew]; exact DPut.k eh (by rw [← rk.length, sizeLine_eq]; exact hl), ?_⟩
          refine fin rfl rfl ⟨_, eh, fun z => z⟩ ep sl fun h hO kp => .dkO h (rk'.keep hO kp)
      | @dtO a kv xs o1 eh rk =>
        rw [if_pos rfl] at el
        obtain ⟨q, eq, el⟩ := Option.bind_eq_some_iff.mp el
        split at el
        · cases el
        · rename_i hc
          cases el
          obtain ⟨b, ew, eb, ex, ep⟩ := keysD_rep rx eq
          obtain ⟨os', sl, rk'⟩ := rk.puts (k := q) ry fun c => by rw [c] at hc; simpa using hc
          refine ⟨vy, vx, rfl, a, _, rfl, by rw [ew]; exact DPut.t eh eb (by rw [← rk.length, sizeLine_eq]; exact hl), ?_⟩
          refine fin rfl rfl ⟨_, eh, fun z => z⟩ ep sl fun h hO kp => .dtO h (rk'.keep hO kp)
    · cases e
  · cases e
end TL
/-! T14: dict comprehensions, any kind of keys -/
namespace TL
open PySem PySem.Spec PyProof.Rows L2

/-- what a comprehension writes into its dict -/
theorem dictSet_put {X : Cx} {pins : List (Addr × Obj)} {τ : L2.St} {H H' : Hp} {s : Shared} {E : Value → Shared → Prop} {a : Addr} {y z : V} {u r : Value} {Q : Unit → Shared → Prop} (hu : X.A.units + 1 < cLine) (J : Inv X pins τ H s) (g : DPut H a y z H') (ry : RelV y u) (rz : RelV z r)
    (k : ∀ s', Inv X pins τ H' s' → Q () s') : wpAny (model X.prog X.w) X.A (dictSet a u r) Q E s := by
  rcases g with ⟨l, q, e, rfl, hl, rfl⟩ | ⟨l, q, b, e, rfl, eb, hl, rfl⟩
  · obtain ⟨n1, nm, vs, rl, dd⟩ := dk_of J.hok e
    have n2 := length_putK l q z
    exact wpAny_dictSet_pairs (hsz := by rw [← rl.length]; exact n1) (kV_is ry) dd fun h' d' sm => k _ (d_write J (by rw [e]; trivial) sm (by obtain ⟨o, _, _, ho, _⟩ := d'; exact ⟨o, ho⟩) (dk_new (by omega) nm (rl.put q rz) d'))
  · obtain rfl : u = Value.ref b := ry
    obtain ⟨n1, nm, xs, rl, dd⟩ := dt_of J.hok e
    have n2 := length_putK l q z
    refine wpAny_dictSet_heap (hsz := by rw [← Paired.length rl]; exact n1) (by show X.A.units < cLine; omega) (key_of J.hok eb) dd fun h' d' sm => k _ ?_
    obtain ⟨o, es, ep, ho, a2, a3, a4, _, a5⟩ := d'
    refine d_write J (by rw [e]; trivial) sm ⟨o, ho⟩ ⟨by omega, nm, _, (rl.put q eb rz).keeps fun c ys ec => ?_, o, es, ep, ho, a2, a3, a4, a5⟩
    rw [upd_ne (ne_of ec e fun z => nomatch z)]
    exact ec

/-- {k: v for target in iter if ..}: a is the new dict, which starts as e0 -/
def tDcG (e0 : HO) (wi : TI) (g : TG) (tt : TT) (tk tv : TE) (vs : List Nat) : TE := fun τ H Q => wi τ H fun J H1 => ∀ a, H1 a = none → ∃ W : Nat → Nat → Hp → Prop, (∃ m, W 0 m (upd H1 a e0)) ∧ ∀ i m H, W i m H →
  (J.stop i H ∧ Q (.ref a) H) ∨ (J.go i H ∧ ∃ Nx : Hp → Prop, (∀ H', Nx H' → ∃ m', m' < m ∧ W (i + 1) m' H') ∧ ∀ x H', J.yld i H x H' → g x (wipe τ vs) H' fun τ2 H2 => wipe τ2 vs = wipe τ vs ∧ tt τ2 H2 fun b H3 =>
    if b = true then tk τ2 H3 fun y H4 => tv τ2 H4 fun z H5 => ∃ H6, DPut H5 a y z H6 ∧ Nx H6 else Nx H3)
section
variable {X : Cx}
theorem dcG_core {pins : List (Addr × Obj)} {s : Shared} {τ : L2.St} {H : Hp} {Q : VK} {e0 : HO} {kx vx tg iter : Expr} {ifs : List Expr} {scope : Scope} {own : List (Str × Nat)} {pos pos' : Pos} {wi : TI} {g : TG} {tt : TT} {tk tv : TE} {U : Option (Value → Sem Unit)} {F : Value → Shared → Prop} (he0 : e0 = .dK [] ∨ e0 = .dT []) (hu : X.A.units + 1 < cLine) (calm : X.calm = true) (nd : X.N.Nodup) (I : Inv X pins τ H s) (pi : PI X tg iter wi) (ok : BlkOk X.N X.env.scope scope own)
    (pg : ∀ s H C cl fp, PG (X.blk s H scope (compEnvC scope cl C X.env) fp) tg g) (pt : ∀ s H C cl fp, PTs (X.blk s H scope (compEnvC scope cl C X.env) fp) ifs tt)
    (pk : ∀ s H C cl fp, PE (X.blk s H scope (compEnvC scope cl C X.env) fp) kx tk) (pv : ∀ s H C cl fp, PE (X.blk s H scope (compEnvC scope cl C X.env) fp) vx tv) (fs : ∀ x, foldedSetIterable iter X.env x = pure x)
    (h : tDcG e0 wi g tt tk tv (own.map (·.2)) τ H Q)
    (out : ∀ a C s' m H', Inv X pins τ H' s' → Q (.ref a) H' → s'.heap.Ns C m → FpOk X pins H' C → compPost (model X.prog X.w) X.A X.xe U F (.ref a) C (.ok .next) s') :
    wpAny (model X.prog X.w) X.A (comprehension (.DictComp kx vx [⟨tg, iter, ifs, 0⟩] scope pos) scope X.env pos' newDict false (eval iter X.env) U) F X.xe s := by
  have cells : ∀ y ∈ scope.names, y.2 = .free → ∃ c, X.env.cells.lookup y.1 = some c := fun y m q => (ok.free y m q).elim (fun z => I.ok.has _ (.inl z)) fun z => I.ok.has _ (.inr z)
  refine wpAny_comprehension_free rfl fs (closure_ok cells) ok.kind (fun y m q => by rw [ok.uniq y m, q]) (thn (pi.run pins s τ H _ I h) fun xv sa ha => thn ha fun itv sb hb => ?_)
  obtain ⟨it, fp, tn, J, Hb, ei, Ib, T, stb, fb, q⟩ := hb
  subst ei
  refine wpAny_newObj_type (newEnv_comp ?_)
  -- the new dict stands at the heap's end
  have hfree : Hb sb.heap.objs.size = none := Ib.hok.fresh (Nat.le_refl _)
  obtain ⟨W, ⟨m0, w0⟩, turn⟩ := q sb.heap.objs.size hfree
  generalize ea : sb.heap.objs.size = a at *
  obtain ⟨sc, esc⟩ : ∃ sc : Shared, sc = { sb with heap := sb.heap.push { cls := .type "dict", data := .dict #[] } } := ⟨_, rfl⟩
  have hc : sc.heap = sb.heap.push { cls := .type "dict", data := .dict #[] } := by rw [esc]
  obtain ⟨Hc, eHc⟩ : ∃ Hc, Hc = upd Hb a e0 := ⟨_, rfl⟩
  have Ic : Inv X pins τ Hc sc := by
    rw [esc, eHc]
    refine Ib.laid (t' := sb.toks) (fun _ _ z => Heap.get?_push_of_some _ z) (Nat.le_of_eq ea) ?_
    rw [← ea]
    rcases he0 with rfl | rfl
    · exact dk_empty sb.heap Ib.big
    · exact dt_empty sb.heap Ib.big
  have below : ∀ b ∈ fp, b < a := fun b hb => by
    obtain ⟨o, z, _⟩ := T.obj _ _ stb b hb
    rw [← ea]
    exact Heap.lt_size z
  have fc : ∀ b ∈ fp, FpOk X pins Hc b ∧ b < sc.heap.objs.size := fun b hb => by
    refine ⟨⟨?_, (fb b hb).2⟩, ?_⟩
    · rw [eHc, upd_ne (Nat.ne_of_lt (below b hb))]
      exact (fb b hb).1
    · rw [hc, Heap.size_push, ea]
      exact Nat.lt_succ_of_lt (below b hb)
  rw [← eHc] at w0
  have stc : tn 0 sc.heap := T.keep _ _ _ stb fun b _ o z => by rw [hc]; exact Heap.get?_push_of_some _ z
  have Id := block_start Ic ok nd fc
  have none_fp : ∀ b ∈ fp, Hc b = none := fun b hb => (fc b hb).1.1
  have change_ : codeAny (model X.prog X.w) X.A (.compStart (.DictComp kx vx [⟨tg, iter, ifs, 0⟩] scope pos) 0 (.ref it) (.ref a) (compEnvC scope (cellsFrom (sc.heap.objs.size + 1) scope.names (cloFrom X.env.cells scope.names [])) sc.heap.objs.size X.env)) (compPost (model X.prog X.w) X.A X.xe U F (.ref a) sc.heap.objs.size) { sc with heap := pushCells (sc.heap.push { cls := .type "dict", data := .dict #[] }) scope.names } →
      codeAny (model X.prog X.w) X.A (.compStart (.DictComp kx vx [⟨tg, iter, ifs, 0⟩] scope pos) 0 (.ref it) (.ref a) (compEnvC scope (cellsFrom (({ sb with heap := sb.heap.push { cls := .type "dict", data := .dict #[] } } : Shared).heap.objs.size + 1) scope.names (cloFrom X.env.cells scope.names [])) ({ sb with heap := sb.heap.push { cls := .type "dict", data := .dict #[] } } : Shared).heap.objs.size X.env)) (compPost (model X.prog X.w) X.A X.xe U F (.ref a) ({ sb with heap := sb.heap.push { cls := .type "dict", data := .dict #[] } } : Shared).heap.objs.size) { ({ sb with heap := sb.heap.push { cls := .type "dict", data := .dict #[] } } : Shared) with heap := pushCells ((sb.heap.push { cls := .type "dict", data := .dict #[] }).push { cls := .type "dict", data := .dict #[] }) scope.names } := fun z => by
    rw [esc] at z
    exact z
  refine change_ ?_
  clear change_
  generalize ec : compEnvC scope (cellsFrom (sc.heap.objs.size + 1) scope.names (cloFrom X.env.cells scope.names [])) sc.heap.objs.size X.env = ce at Id ⊢
  have qg := pg sc Hc sc.heap.objs.size (cellsFrom (sc.heap.objs.size + 1) scope.names (cloFrom X.env.cells scope.names [])) fp
  have qt := pt sc Hc sc.heap.objs.size (cellsFrom (sc.heap.objs.size + 1) scope.names (cloFrom X.env.cells scope.names [])) fp
  have qk := pk sc Hc sc.heap.objs.size (cellsFrom (sc.heap.objs.size + 1) scope.names (cloFrom X.env.cells scope.names [])) fp
  have qv := pv sc Hc sc.heap.objs.size (cellsFrom (sc.heap.objs.size + 1) scope.names (cloFrom X.env.cells scope.names [])) fp
  rw [ec] at qg qt qk qv
  have eloc : ce.locals = sc.heap.objs.size := by rw [← ec]; rfl
  obtain ⟨sd, esd⟩ : ∃ sd : Shared, sd = { sc with heap := pushCells (sc.heap.push { cls := .type "dict", data := .dict #[] }) scope.names } := ⟨_, rfl⟩
  rw [← esd] at Id ⊢
  have std : tn 0 sd.heap := T.keep _ _ _ stc fun b _ o z => by rw [esd]; exact pushCells_keeps _ _ _ _ (Heap.get?_push_of_some _ z)
  have pinned : ∀ {τ' : L2.St} {H' : Hp} {s' : Shared}, Inv (X.blk sc Hc scope ce fp) [] τ' H' s' → (∀ b ∈ fp, H' b = none) → ∀ b ∈ fp, FpOk (X.blk sc Hc scope ce fp) [] H' b := fun {τ' H' s'} I' n b m =>
    ⟨n b m, (I'.ok.exf b m).1, I'.ok.exfs b m, .inl m, fun x c z => (I'.ok.exf b m).2 x c z, fun p hp => absurd (show p ∈ ([] : List (Addr × Obj)) ++ [] from hp) (by simp)⟩
  have run : codeAny (model X.prog X.w) X.A (.compLoop (.DictComp kx vx [⟨tg, iter, ifs, 0⟩] scope pos) 0 (.ref it) (.ref a) ce) (compPost (model X.prog X.w) X.A X.xe U F (.ref a) sc.heap.objs.size) sd := by
    refine compLoop_anyD (fun n s' => ∃ i H', Inv (X.blk sc Hc scope ce fp) [] (wipe τ (own.map (·.2))) H' s' ∧ tn i s'.heap ∧ (∀ b ∈ fp, H' b = none) ∧ W i n H') (fun n se hse => ?_) m0 ⟨0, Hc, Id, std, none_fp, w0⟩
    obtain ⟨i, He, Ie, ste, ne, we⟩ := hse
    rcases turn i n He we with ⟨stop, done⟩ | ⟨go, Nx, less, step⟩
    · -- the walk ends: back where the comprehension stands
      refine thnF (T.done (X.blk sc Hc scope ce fp) rfl rfl rfl calm i [] se _ He (fun _ _ => False) Ie (pinned Ie ne) ste stop) fun r sf hr => ?_
      obtain ⟨rfl, If⟩ := hr
      have Ig : Inv X pins τ He sf := Ic.call' (ch := fp) If.os If.base If.hok If.bare fun b m => by
        obtain ⟨_, g1, g2, g3, g4, g5⟩ := (fc b m).1
        exact ⟨g3, g1, g4, g5⟩
      have atC : He sc.heap.objs.size = none := by
        have := If.free
        rwa [show (X.blk sc Hc scope ce fp).env.locals = sc.heap.objs.size from eloc] at this
      obtain ⟨m, ns, _⟩ := If.loc
      have ns : sf.heap.Ns ce.locals m := ns
      rw [eloc] at ns
      exact out a _ sf m He Ig done ns (Ic.fpOk (Nat.le_refl _) atC)
    · refine thnF (T.item (X.blk sc Hc scope ce fp) rfl rfl rfl calm i [] se _ He (fun _ _ => False) Ie (pinned Ie ne) ste go) fun r sf hr => ?_
      obtain ⟨u, rfl, hf⟩ := hr
      refine thnF hf fun _ sg hg => ?_
      obtain ⟨x, Hg, Ig, rg, yg, stg, ng⟩ := hg
      refine thnF (qg.run _ sg _ Hg x u _ (Ig.pinned (pinned Ig ng) (T.obj _ _ stg)) rg (step x Hg yg)) fun _ sh hh => ?_
      obtain ⟨τh, Hh, Ih, ew, qh⟩ := hh
      refine thnF (qt.run _ sh τh Hh _ Ih qh) fun b si hi => ?_
      obtain ⟨Hi, Ii, qi⟩ := hi
      have close : ∀ {s' : Shared} {H' : Hp}, Inv (X.blk sc Hc scope ce fp) ([] ++ pinsAt fp sg.heap) τh H' s' → Nx H' → ∃ m, m < n ∧ ∃ i H', Inv (X.blk sc Hc scope ce fp) [] (wipe τ (own.map (·.2))) H' s' ∧ tn i s'.heap ∧ (∀ b ∈ fp, H' b = none) ∧ W i m H' := by
        intro s' H' I' nx
        obtain ⟨m', lt, w'⟩ := less H' nx
        have same : ∀ b ∈ fp, ∀ o, sg.heap.get? b = some o → s'.heap.get? b = some o ∧ H' b = none := fun b m o e => by
          have z := I'.pin (b, o) (List.mem_append_right _ (List.mem_append_right _ (mem_pinsAt m e)))
          exact ⟨z.1, z.2.1⟩
        refine ⟨m', lt, i + 1, H', (I'.unpinned (pins := [])).weak (by rw [← ew, wipe_length]) (fun j v e => ?_), T.keep _ _ _ stg fun b m o e => (same b m o e).1, fun b m => ?_, w'⟩
        · rw [← ew] at e
          exact (wipe_some e).1
        · obtain ⟨o, e, _⟩ := T.obj _ _ stg b m
          exact (same b m o e).2
      cases b with
      | false => exact close Ii (by simpa using qi)
      | true =>
        rw [if_pos rfl] at qi ⊢
        refine thnF (qk.run _ si τh Hi _ Ii qi) fun v1 sj hj => ?_
        obtain ⟨y, Hj, Ij, ry, qj⟩ := hj
        refine thnF (qv.run _ sj τh Hj _ Ij qj) fun v2 sk hk => ?_
        obtain ⟨z, Hk, Ik, rz, Hl, put, nx⟩ := hk
        exact dictSet_put (X := X.blk sc Hc scope ce fp) hu Ik put ry rz fun sl Il => close Il nx
  exact codeAny_compStart_dict run (T.self X.A 0 _ _ _ std run)
theorem pe_dcG {e0 : HO} {kx vx tg iter : Expr} {ifs : List Expr} {scope : Scope} {own : List (Str × Nat)} {pos : Pos} {wi : TI} {g : TG} {tt : TT} {tk tv : TE} (he0 : e0 = .dK [] ∨ e0 = .dT []) (hu : X.A.units + 1 < cLine) (calm : X.calm = true) (nd : X.N.Nodup) (pi : PI X tg iter wi) (ok : BlkOk X.N X.env.scope scope own)
    (pg : ∀ s H C cl fp, PG (X.blk s H scope (compEnvC scope cl C X.env) fp) tg g) (pt : ∀ s H C cl fp, PTs (X.blk s H scope (compEnvC scope cl C X.env) fp) ifs tt)
    (pk : ∀ s H C cl fp, PE (X.blk s H scope (compEnvC scope cl C X.env) fp) kx tk) (pv : ∀ s H C cl fp, PE (X.blk s H scope (compEnvC scope cl C X.env) fp) vx tv) (fs : ∀ x, foldedSetIterable iter X.env x = pure x := by intro _; rfl) :
    PE X (.DictComp kx vx [⟨tg, iter, ifs, 0⟩] scope pos) (tDcG e0 wi g tt tk tv (own.map (·.2))) := by
  refine ⟨fun pins s τ H Q I h => ?_⟩
  rw [arm_eval_DictComp]
  refine dcG_core he0 hu calm nd I pi ok pg pt pk pv fs h fun a C s' m H' I' q ns f => ⟨m, ns, fun h'' sb' => ?_⟩
  obtain ⟨k0, k1, k2, k3, k4, k5⟩ := f
  exact ⟨.ref a, H', I'.turned (t' := s'.toks) (fun b o hb e => (sb'.2 b hb).trans e) k0 k1 k3 k4 k5, rfl, q⟩
/-- name = {..} on one line -/
theorem ps_setDcG {i : Nat} {y : Str} {py spos : Pos} {e0 : HO} {kx vx tg iter : Expr} {ifs : List Expr} {scope : Scope} {own : List (Str × Nat)} {pos : Pos} {wi : TI} {g : TG} {tt : TT} {tk tv : TE} (he0 : e0 = .dK [] ∨ e0 = .dT []) (hu : X.A.units + 1 < cLine) (calm : X.calm = true) (nd : X.N.Nodup)
    (iy : X.N[i]? = some y) (ly : X.env.scope.names.lookup y = some .local) (sw : swapsWith (.DictComp kx vx [⟨tg, iter, ifs, 0⟩] scope pos) (some (.Name y py)) spos.line X.env = pure true) (pi : PI X tg iter wi) (ok : BlkOk X.N X.env.scope scope own)
    (pg : ∀ s H C cl fp, PG (X.blk s H scope (compEnvC scope cl C X.env) fp) tg g) (pt : ∀ s H C cl fp, PTs (X.blk s H scope (compEnvC scope cl C X.env) fp) ifs tt)
    (pk : ∀ s H C cl fp, PE (X.blk s H scope (compEnvC scope cl C X.env) fp) kx tk) (pv : ∀ s H C cl fp, PE (X.blk s H scope (compEnvC scope cl C X.env) fp) vx tv) (fs : ∀ x, foldedSetIterable iter X.env x = pure x := by intro _; rfl) :
    PS X (.Assign [.Name y py] (.DictComp kx vx [⟨tg, iter, ifs, 0⟩] scope pos) spos) (tAsg (tDcG e0 wi g tt tk tv (own.map (·.2))) (gName i)) := by
  refine ⟨fun pins s τ H D I h => ?_⟩
  rw [exec_Assign_Name_used _ _ _ _ sw]
  refine wpAny_bind (wpAny_standAt (wpAny_bind ?_))
  show wpAny _ X.A (do let _ ← comprehension (.DictComp kx vx [⟨tg, iter, ifs, 0⟩] scope pos) scope X.env (firstIterPos [⟨tg, iter, ifs, 0⟩] pos) newDict false (eval iter X.env) (some (assign (.Name y py) X.env))) _ _ s
  refine wpAny_bind (thn (dcG_core (Q := fun x H1 => gName i x τ H1 D.nx) (F := fun _ s' => SP X pins D .next s') he0 hu calm nd I pi ok pg pt pk pv fs h fun a C s' m H' I' q ns f => ?_) fun _ s' hq => wpAny_pure (wpAny_pure hq))
  show wpAny _ _ (assign (.Name y py) X.env (.ref a)) _ _ _
  obtain ⟨k0, k1, k2, k3, k4, k5⟩ := f
  refine wpAny_assign_Name (store_ok2 (v := V.ref a) I' nd iy (.inl ly) rfl (fun s2 I2 ⟨b, sb, hb⟩ => ⟨m, ns.sameBut sb ?_, fun h3 sb3 => ⟨_, H', I2.turned (t' := s2.toks) (fun c o hc e => (sb3.2 c hc).trans e) k0 k1 k3 k4 k5, q⟩⟩) (.inr ly))
  rcases hb with z | z
  · rw [z]; exact k1
  · exact fun e => k4 y b z e.symm
end
end TL
/-! T15: dict comprehensions over trees, new dicts, what a dict tells -/
namespace TL
open PySem PySem.Spec PyProof.Rows L2

def dcStep (t : Bool) (acc : List (D × D)) (x y : D) : Option (List (D × D)) := if x.val && y.val && decide (acc.length < 16777216) then storeD t acc x y else none
def dcD (t : Bool) (g : D → En → Option En) (fc : En → R Bool) (fk fv : En → R D) (ρ : En) : List (D × D) → List D → R (List (D × D))
  | acc, [] => .ok acc
  | acc, d :: r => match g d ρ with
    | none => .stuck
    | some ρ1 => match fc ρ1 with
      | .ok true => (match fk ρ1 with
        | .ok x => (match fv ρ1 with
          | .ok y => (match dcStep t acc x y with
            | some acc' => dcD t g fc fk fv ρ acc' r
            | none => .stuck)
          | _ => .stuck)
        | _ => .stuck)
      | .ok false => dcD t g fc fk fv ρ acc r
      | _ => .stuck
def eDc (t : Bool) (vs S : List Nat) (fi : En → R (List D)) (g : D → En → Option En) (fc : En → R Bool) (fk fv : En → R D) : En → R D := fun ρ =>
  (fi ρ).bind fun ds => match dcD t g fc fk fv (visE S vs 0 ρ) [] ds with
    | .ok kvs => .ok (.dct true t kvs)
    | _ => .stuck
def newD (t : Bool) : HO := if t then .dT [] else .dK []
theorem newD_rep {K : KX} {O : Addr → Prop} {H : Hp} {a : Addr} (t : Bool) (h : H a = some (newD t)) : RepD K O H (.dct true t []) (.ref a) [a] := by
  cases t with
  | true => exact .dtO h .nil
  | false => exact .dkO h .nil
section
variable {K : KX} {W : WX} {Si Sk Sv S T vs : List Nat} {σ : L2.St} {H : Hp} {fi : En → R (List D)} {g : D → En → Option En} {fc : En → R Bool} {fk fv : En → R D}
theorem rd_dc (t : Bool) (hSi : ∀ i ∈ Si, i ∈ S) (hT : ∀ i ∈ T, i ∈ vs) {Q : VK} (h : rd K W S (eDc t vs S fi g fc fk fv) σ H Q) : tDcG (newD t) (rdI K W Si fi) (rdG K T g) (rdT K W0 fc) (rd K W0 Sk fk) (rd K W0 Sv fv) vs σ H Q := by
  obtain ⟨ρ, ow, B, s, h⟩ := h
  refine ⟨ρ, ow, B, s, ?_⟩
  unfold eDc at h
  cases ei : fi ρ with
  | stuck => rw [ei] at h; exact h
  | exc C fs => rw [ei] at h; exact h
  | ok ds =>
    rw [ei] at h
    dsimp only [R.bind_ok] at h
    intro J H1 q1 it hlen L hL
    cases ec : dcD t g fc fk fv (visE S vs 0 ρ) [] ds with
    | stuck => rw [ec] at h; exact h.elim
    | exc C fs => rw [ec] at h; exact h.elim
    | ok all =>
      rw [ec] at h
      dsimp only at h
      have sb := (s.same q1).vis S vs
      have h0 : Same H1 (upd H1 L (newD t)) := same_new hL
      refine ⟨fun i m H2 => ∃ kvs os, RepD K (OutS S ow B os) H2 (.dct true t kvs) (.ref L) os ∧ os.Nodup ∧ (∀ a ∈ os, H1 a = none) ∧ Same H1 H2 ∧
        dcD t g fc fk fv (visE S vs 0 ρ) kvs (ds.drop i) = .ok all ∧ m = ds.length - i ∧ i ≤ ds.length,
        ⟨ds.length, [], [L], newD_rep t upd_same, by simp, (fun a m => by rw [List.mem_singleton.mp m]; exact hL), h0, by rw [List.drop_zero]; exact ec, rfl, Nat.zero_le _⟩, ?_⟩
      rintro i m H2 ⟨kvs, os, rd0, nd, nw, s2, ecd, rfl, hi⟩
      obtain ⟨iy, ist⟩ := it H2 (Kept.of_same s2 _) i
      by_cases hlt : i < ds.length
      · have ed : ds[i]? = some ds[i] := List.getElem?_eq_getElem hlt
        obtain ⟨go, yl⟩ := iy _ ed
        rw [List.drop_eq_getElem_cons hlt] at ecd
        unfold dcD at ecd
        refine .inr ⟨go, fun H' => ∃ kvs os, RepD K (OutS S ow B os) H' (.dct true t kvs) (.ref L) os ∧ os.Nodup ∧ (∀ a ∈ os, H1 a = none) ∧ Same H1 H' ∧
          dcD t g fc fk fv (visE S vs 0 ρ) kvs (ds.drop (i + 1)) = .ok all, fun H' ⟨kvs, os, a1, a2, a3, a4, a5⟩ => ⟨ds.length - (i + 1), by omega, kvs, os, a1, a2, a3, a4, a5, rfl, hlt⟩, fun x H3 y => ?_⟩
        obtain ⟨q3, rx⟩ := yl x H3 y
        have s3 := s2.trans q3
        have rd3 : RepD K (OutS S ow B os) H3 (.dct true t kvs) (.ref L) os := rd0.keep (fun a o e z => z) (Kept.of_same q3 _) |>.keep (fun a o e z => z) (Kept.of_same (Same.refl _) _)
        have hfr : ∀ a, (OutS S ow B [] a ∨ a ∈ os) → H3 a ≠ none := fun a z => by
          rcases z with z | z
          · exact fun q => sb.bt a z (s3.free q)
          · exact rd3.there a z
        have hnew : ∀ a o, H1 a = some o → a ∉ os := fun a o e z => by rw [nw a z] at e; cases e
        have sb3 : Stt K (fun a => OutS S ow B [] a ∨ a ∈ os) (visE S vs 0 ρ) (wipe σ vs) H3 noOw := sb.grow s3 (fun a o e z => z.elim id fun z => absurd z (hnew a o e)) hfr
        have hO1 : ∀ a o, H1 a = some o → OutS [] noOw (fun a => OutS S ow B [] a ∨ a ∈ os) [] a → OutS Si ow B [] a := fun a o e z => by
          rcases z with ⟨_, z, _⟩ | (z | z) | z
          · exact nomatch z
          · exact z.imp (fun ⟨j, z, n⟩ => ⟨j, z, fun q => n (hSi j q)⟩) id
          · exact absurd z (hnew a o e)
          · exact nomatch z
        refine ⟨visE S vs 0 ρ, noOw, fun a => OutS S ow B [] a ∨ a ∈ os, ds[i], [], sb3.swap (fun a z => z.elim id fun z => nomatch z), rx _ hO1, List.nodup_nil, (fun _ z => nomatch z), ?_⟩
        cases eg : g ds[i] (visE S vs 0 ρ) with
        | none => rw [eg] at ecd; cases ecd
        | some ρ1 =>
          rw [eg] at ecd
          dsimp only at ecd
          intro σ4 ow4 s4 c4 y4
          refine ⟨stay_wipe hT y4, ρ1, ow4, _, s4, ?_⟩
          cases efc : fc ρ1 with
          | stuck => rw [efc] at ecd; cases ecd
          | exc C fs => rw [efc] at ecd; cases ecd
          | ok b =>
            rw [efc] at ecd
            intro H5 q5
            have rd5 : RepD K (OutS S ow B os) H5 (.dct true t kvs) (.ref L) os := rd3.keep (fun a o e z => z) (Kept.of_same q5 _) |>.keep (fun a o e z => z) (Kept.of_same (Same.refl _) _)
            cases b with
            | false =>
              rw [if_neg Bool.false_ne_true]
              exact ⟨kvs, os, rd5, nd, nw, s3.trans q5, ecd⟩
            | true =>
              rw [if_pos rfl]
              dsimp only at ecd
              refine ⟨ρ1, ow4, _, s4.same q5, ?_⟩
              cases efk : fk ρ1 with
              | stuck => rw [efk] at ecd; cases ecd
              | exc C fs => rw [efk] at ecd; cases ecd
              | ok xk =>
                rw [efk] at ecd
                dsimp only at ecd
                intro vk H6 ok q6 rk nk wk
                refine ⟨ρ1, ow4, _, (s4.same q5).same q6, ?_⟩
                cases efv : fv ρ1 with
                | stuck => rw [efv] at ecd; cases ecd
                | exc C fs => rw [efv] at ecd; cases ecd
                | ok yv =>
                  rw [efv] at ecd
                  dsimp only at ecd
                  intro vv H7 ov q7 rv nv wv
                  cases est : dcStep t kvs xk yv with
                  | none => rw [est] at ecd; cases ecd
                  | some acc =>
                    rw [est] at ecd
                    dsimp only at ecd
                    unfold dcStep at est
                    split at est
                    · rename_i hc
                      obtain ⟨hc1, hc2⟩ := Bool.and_eq_true_iff.mp hc
                      obtain ⟨hx, hy⟩ := Bool.and_eq_true_iff.mp hc1
                      have hlt2 := of_decide_eq_true hc2
                      have rk7 := (RepD.val (O' := OutS S ow B os) (rk.keep (fun a o e z => z) (Kept.of_same q7 _) |>.keep (fun a o e z => z) (Kept.of_same (Same.refl _) _)) hx).2
                      have rv7 := (RepD.val (O' := OutS S ow B os) rv hy).2
                      have s7 : Same H1 H7 := ((s3.trans q5).trans q6).trans q7
                      have rd7 : RepD K (OutS S ow B os) H7 (.dct true t kvs) (.ref L) os := rd5.keep (fun a o e z => z) (Kept.of_same (q6.trans q7) _) |>.keep (fun a o e z => z) (Kept.of_same (Same.refl _) _)
                      have st := mut_storeD (K := K) (OutS S ow B os) H7 (.dct true t kvs) [yv, xk] (.ref L) [vv, vk] os [] (.dct true t acc) .non
                        (fun _ H8 => ∃ kvs os, RepD K (OutS S ow B os) H8 (.dct true t kvs) (.ref L) os ∧ os.Nodup ∧ (∀ a ∈ os, H1 a = none) ∧ Same H1 H8 ∧ dcD t g fc fk fv (visE S vs 0 ρ) kvs (ds.drop (i + 1)) = .ok all)
                        rd7 (.cons (o1 := []) (o2 := []) rv7 (.cons (o1 := []) (o2 := []) rk7 .nil)) (by rw [List.append_nil]; exact nd) (fun a m => outS_mem a (by rw [List.append_nil] at m; exact m)) (by
                          show (if kvs.length < 16777216 then (storeD t kvs xk yv).map fun l => (D.dct true t l, D.non) else none) = _
                          rw [if_pos hlt2, est]; rfl) (fun H8 w ov' orr far rn _ ndn nn => by
                            have fresh : ∀ a ∈ ov', H1 a = none := fun a m => by
                              rcases nn a (List.mem_append_left _ m) with z | z
                              · rw [List.append_nil] at z; exact nw a z
                              · exact s7.free z
                            refine ⟨acc, ov', rn.keep (fun a o e z => ?_) (Kept.of_same (Same.refl _) _), (List.nodup_append.mp ndn).1, fresh, fun a o e => ?_, ecd⟩
                            · rcases z with z | z | z
                              · exact .inl (.inl z)
                              · exact .inl (.inr (.inl z))
                              · exact .inr (.inl z)
                            · exact far a o (s7 a o e) (.inl fun z => hnew a o e z))
                      obtain ⟨v1, k1, ek, a, H8, ea, put, nx⟩ := st
                      cases ek
                      cases ea
                      exact ⟨H8, put, nx⟩
                    · cases est
      · have e : i = ds.length := by omega
        subst e
        rw [List.drop_length] at ecd
        unfold dcD at ecd
        cases ecd
        exact .inl ⟨ist (Nat.le_refl _), h (.ref L) H2 os (q1.trans s2) (rd0.keep (fun a o _ z => z) (Kept.of_same (Same.refl _) _)) nd fun a m => q1.free (nw a m)⟩
end
end TL
/-! T16: rules of dicts -/
namespace TL
open PySem PySem.Spec PyProof.Rows L2

section
variable {X : CY} {W : WX} {S Si Sk Sv T vs : List Nat} {tg iter kx vx : Expr} {ifs : List Expr} {scope : Scope} {own : List (Str × Nat)} {pos : Pos} {fi : En → R (List D)} {g : D → En → Option En} {fc : En → R Bool} {fk fv : En → R D}
theorem de_dc (t : Bool) {k : Nat} (hr : Room k X.A) (hc : X.calm = true) (hN : X.N.Nodup) (hi : DI X W Si tg iter fi) (ok : BlkOk X.N X.env.scope scope own) (hv : own.map (·.2) = vs)
    (hg : ∀ (s : Shared) (H : Hp) (C : Addr) (cl : List (Str × Addr)) (fp : List Addr), DG (X.blk s H scope (compEnvC scope cl C X.env) fp) T tg g)
    (ht : ∀ (s : Shared) (H : Hp) (C : Addr) (cl : List (Str × Addr)) (fp : List Addr), DTs (X.blk s H scope (compEnvC scope cl C X.env) fp) W0 ifs fc)
    (hk : ∀ (s : Shared) (H : Hp) (C : Addr) (cl : List (Str × Addr)) (fp : List Addr), DE (X.blk s H scope (compEnvC scope cl C X.env) fp) W0 Sk kx fk)
    (hw : ∀ (s : Shared) (H : Hp) (C : Addr) (cl : List (Str × Addr)) (fp : List Addr), DE (X.blk s H scope (compEnvC scope cl C X.env) fp) W0 Sv vx fv)
    (hSi : ∀ i ∈ Si, i ∈ S := by decide) (hT : ∀ i ∈ T, i ∈ vs := by decide) (hs : ∀ x, foldedSetIterable iter X.env x = pure x := by intro _; rfl) :
    DE X W S (.DictComp kx vx [⟨tg, iter, ifs, 0⟩] scope pos) (eDc t vs S fi g fc fk fv) := by
  subst hv
  exact ⟨(pe_dcG (e0 := newD t) (by unfold newD; cases t <;> simp) (by have := hr.un; omega) hc hN hi.pi ok (fun s H C cl fp => (hg s H C cl fp).pg) (fun s H C cl fp => (ht s H C cl fp).pts) (fun s H C cl fp => (hk s H C cl fp).pe) (fun s H C cl fp => (hw s H C cl fp).pe) hs).imp fun σ H Q h => rd_dc t hSi hT h⟩
/-- name = {..} on one line -/
theorem ds_setDc (t : Bool) {k i : Nat} {y : Str} {py spos : Pos} (hr : Room k X.A) (hc : X.calm = true) (hN : X.N.Nodup) (hy : X.N[i]? = some y) (hyl : X.env.scope.names.lookup y = some .local) (hsw : swapsWith (.DictComp kx vx [⟨tg, iter, ifs, 0⟩] scope pos) (some (.Name y py)) spos.line X.env = pure true)
    (hi : DI X W Si tg iter fi) (ok : BlkOk X.N X.env.scope scope own) (hv : own.map (·.2) = vs)
    (hg : ∀ (s : Shared) (H : Hp) (C : Addr) (cl : List (Str × Addr)) (fp : List Addr), DG (X.blk s H scope (compEnvC scope cl C X.env) fp) T tg g)
    (ht : ∀ (s : Shared) (H : Hp) (C : Addr) (cl : List (Str × Addr)) (fp : List Addr), DTs (X.blk s H scope (compEnvC scope cl C X.env) fp) W0 ifs fc)
    (hk : ∀ (s : Shared) (H : Hp) (C : Addr) (cl : List (Str × Addr)) (fp : List Addr), DE (X.blk s H scope (compEnvC scope cl C X.env) fp) W0 Sk kx fk)
    (hw : ∀ (s : Shared) (H : Hp) (C : Addr) (cl : List (Str × Addr)) (fp : List Addr), DE (X.blk s H scope (compEnvC scope cl C X.env) fp) W0 Sv vx fv)
    (hSi : ∀ i ∈ Si, i ∈ S := by decide) (hT : ∀ i ∈ T, i ∈ vs := by decide) (hs : ∀ x, foldedSetIterable iter X.env x = pure x := by intro _; rfl) :
    DS X W (.Assign [.Name y py] (.DictComp kx vx [⟨tg, iter, ifs, 0⟩] scope pos) spos) (sSet i S (eDc t vs S fi g fc fk fv)) := by
  subst hv
  refine ⟨⟨fun pins s σ H D I h => (ps_setDcG (e0 := newD t) (by unfold newD; cases t <;> simp) (by have := hr.un; omega) hc hN hy hyl hsw hi.pi ok (fun s H C cl fp => (hg s H C cl fp).pg) (fun s H C cl fp => (ht s H C cl fp).pts) (fun s H C cl fp => (hk s H C cl fp).pe) (fun s H C cl fp => (hw s H C cl fp).pe) hs).run pins s σ H D I (rd_dc t hSi hT ?_)⟩⟩
  refine rdS_expr (k := fun ρ d => .nx ((if d.clean then ρ else frzAt S ρ).set i (some d))) h fun ρ ow B d v os H1 s q r nd n p => ?_
  obtain ⟨ow1, s1, r1, c1⟩ := s.ready q r n
  refine p _ H1 (putO ow1 i os) (s1.put ?_ r1 nd fun a m z => ?_) (c1.put fun a m => .inr (n a m))
  · rw [s1.len, I.len]
    exact (List.getElem?_eq_some_iff.mp hy).1
  · exact s.bt a z (n a m)
/-- {} -/
theorem de_dnew (t : Bool) : DE X W [] (.Dict [] [] pos) (eC (.dct true t [])) := by
  cases t with
  | true => exact ⟨pe_dnewT.imp fun σ H Q ⟨ρ, ow, B, st, h⟩ p hp => h _ _ [p] (same_new hp) (.dtO upd_same .nil) (by simp) fun a m => by rw [List.mem_singleton.mp m]; exact hp⟩
  | false => exact ⟨pe_dnewK.imp fun σ H Q ⟨ρ, ow, B, st, h⟩ p hp => h _ _ [p] (same_new hp) (.dkO upd_same .nil) (by simp) fun a m => by rw [List.mem_singleton.mp m]; exact hp⟩
end
/-! ### d[k] -/
def rIxDc : R2 := fun x y H Q => ∃ a v, x = .ref a ∧ DGet H a y (some v) ∧ Q v H
theorem ix_dict {X : Cx} (hu : X.A.units + 1 < cLine) : IxR X rIxDc := by
  intro value slice pins s σ H x y v u Q I rx ry h hs
  obtain ⟨a, z, rfl, g, q⟩ := h
  cases rx
  exact tail_any (dict_typeIs I g) PySem.F.slot_dict_getitem.lookup (d_getItem hu I g ry fun w' s3 I3 rw' => ⟨z, H, I3, rw', q⟩) hs
def gIxG : D → D → Option D := fun x y => match x with
  | .dct _ t kvs => (lookD t kvs y).bind fun o => o
  | _ => gIx x y
theorem ix_all {X : Cx} {k : Nat} (hr : Room k X.A) : IxR X (fun x y H Q => rIx X.K x y H Q ∨ rIxDc x y H Q) := ix_seq.or (ix_dict (by have := hr.un; omega))
theorem fits_ixG {K : KX} : Fits2 K gIxG (fun x y H Q => rIx K.fr x y H Q ∨ rIxDc x y H Q) := by
  intro O H x y v1 v2 o1 o2 d Q r1 r2 nd m e dn
  cases x with
  | dct o t kvs =>
    obtain ⟨r, er, ed⟩ := Option.bind_eq_some_iff.mp (show (lookD t kvs y).bind _ = some d from e)
    subst ed
    obtain ⟨eo, a, ev, c⟩ := dct_look r1 (List.nodup_append.mp nd).1 r2 er
    refine .inr ?_
    rcases c with ⟨z, _⟩ | ⟨d', u, o', z, g, ru, nu, su⟩
    · cases z
    · cases z
      exact ⟨a, u, ev, g, dn u H o' (Same.refl H) (ru.keep (fun b _ _ z => z.elim id fun z => m b (List.mem_append_left _ (su b z))) (Kept.of_same (Same.refl _) _)) nu fun b z => .inl (List.mem_append_left _ (su b z))⟩
  | _ => exact .inl (fits_ix O H _ _ v1 v2 o1 o2 d Q r1 r2 nd m e dn)
/-! ### len(d) -/
def gLenG : List D → Option D
  | [.dct _ true kvs] => some (.int kvs.length)
  | xs => gLen xs
end TL
/-! T17: sorted pairs of numbers -/
namespace TL
open PySem PySem.Spec PyProof.Rows L2

def pairAt (H : Hp) : V → Int × Int
  | .ref t => (match H t with
    | some (.tup [.int x, .int y]) => (x, y)
    | _ => (0, 0))
  | _ => (0, 0)
theorem pairAt_eq {H : Hp} {t : Addr} {q : Int × Int} (h : H t = some (.tup [.int q.1, .int q.2])) : pairAt H (.ref t) = q := by
  unfold pairAt
  dsimp only
  rw [h]
theorem keys_pairs {H : Hp} : ∀ {kvs : List (List Key × V)} {bs : List Addr}, Paired (fun p b => H b = some (.tup (p.1.map kV))) kvs bs → (∀ p ∈ kvs, ∃ q : Int × Int, p.1 = [.inl q.1, .inl q.2]) → ∀ b ∈ bs, ∃ q : Int × Int, H b = some (.tup [.int q.1, .int q.2])
  | _, _, .nil, _, _, m => nomatch m
  | _, _, .cons (a := p) h1 t, hp, b', m => by
    rcases List.mem_cons.mp m with rfl | m
    · obtain ⟨q, eq⟩ := hp p List.mem_cons_self
      rw [eq] at h1
      exact ⟨q, h1⟩
    · exact keys_pairs t (fun x mx => hp x (List.mem_cons_of_mem _ mx)) b' m
def refA : Value → Addr
  | .ref b => b
  | _ => 0
theorem perm_refs {out : List Value} {bs : List Addr} (h : out.Perm (bs.map Value.ref)) : ∃ zb : List Addr, out = zb.map Value.ref ∧ zb.Perm bs := by
  refine ⟨out.map refA, ?_, ?_⟩
  · have all : ∀ v ∈ out, Value.ref (refA v) = v := fun v m => by
      obtain ⟨b, _, e⟩ := List.mem_map.mp (h.mem_iff.mp m)
      rw [← e]
      rfl
    clear h
    induction out with
    | nil => rfl
    | cons v r ih =>
      rw [List.map_cons, List.map_cons, all v List.mem_cons_self, ← ih fun u m => all u (List.mem_cons_of_mem _ m)]
  · have := h.map refA
    rwa [List.map_map, show (refA ∘ Value.ref) = id from rfl, List.map_id] at this
/-- the key tuples of a dict, sorted -/
def rSortedDT : List V → Hp → VK → Prop := fun vs H Q => ∃ d kvs, vs = [V.ref d] ∧ H d = some (.dT kvs) ∧ (∀ p ∈ kvs, ∃ q : Int × Int, p.1 = [.inl q.1, .inl q.2]) ∧
  ∀ (bs : List Addr) (zs : List V) (p : Addr), IsKeys H kvs bs → SrtO.Srtd (ltP (pairAt H)) zs → zs.Perm (bs.map V.ref) → H p = none → Q (.ref p) (upd H p (.lst zs))
section
variable {X : Cx}
theorem cr_sortedDT (hc : X.calm = true) : CallR X (.builtin "sorted") rSortedDT := by
  intro pins s σ H vs us Q I r h
  obtain ⟨d, kvs, rfl, hd, hp, q⟩ := h
  obtain ⟨u, rfl, ru⟩ := vals1 r
  obtain rfl : u = Value.ref d := ru
  obtain ⟨z, hs, ks, pr, o, es, ep, ho, hx, hdt, he, hn⟩ := (show ObjOk X.prog X.w H s.heap d (.dT kvs) from I.hok d _ hd)
  have l1 : es.size = ks.length := size_of_entries he
  have l2 : kvs.length = ks.length := Paired.length pr
  have isk := isKeys_of pr
  generalize hbs : (ks.map fun x => x.2.1) = bs at isk
  have lb : bs.length = ks.length := by rw [← hbs, List.length_map]
  refine Calls.call_function_entry PyProof.Rows.kind_sorted PyProof.Rows.plain_sorted PyProof.Rows.entry_sorted (PyProof.Rows.args_sorted1 _) ?_
  unfold Builtin.«sorted»
  refine wpAny_bind (m := checkCount "sorted" 1 1 _) (wpAny_pure ?_)
  refine wpAny_bind (PySem.W.kdu_collect (A := X.A.in1) (kdl_raw hs hx hdt) (I.ok.hd hc) ho (by omega) fun h' tk acc keep items => ?_)
  have ea : acc.toList = bs.map Value.ref := by
    have hl : acc.toList.length = bs.length := by rw [Array.length_toList, items.1, l1, lb]
    refine List.ext_getElem? fun j => ?_
    rw [List.getElem?_map]
    cases hj : acc.toList[j]? with
    | none =>
      have h1 := List.getElem?_eq_none_iff.mp hj
      rw [List.getElem?_eq_none (by omega)]
      rfl
    | some v =>
      obtain ⟨en, hen, hv⟩ := items.2 j v (by rw [← Array.getElem?_toList]; exact hj)
      have qe := entry_at he j
      rw [hen] at qe
      rw [← hbs, List.getElem?_map]
      cases hb : ks[j]? with
      | none => rw [hb] at qe; cases qe
      | some b =>
        rw [hb] at qe
        have e2 : en = entryOfKey (tupleKind (mixKind X.prog X.w)) b := Option.some.inj qe
        rw [hv, e2]
        rfl
  rw [ea]
  -- each of them a pair
  have prs := keys_pairs isk hp
  have Ik : Inv X pins σ H { s with heap := h', toks := tk } := I.kept keep
  have hz : (bs.map Value.ref).length ≤ sizeLine := by rw [List.length_map]; omega
  refine wpAny_bind (wpAny_newList ?_ (by simpa using hz))
  have hoL : (h'.push (seqObj "list" (bs.map Value.ref).toArray 0)).get? h'.objs.size = some (seqObj "list" (bs.map Value.ref).toArray 0) := Heap.get?_push_size _ rfl
  show wpAny _ _ _ _ _ { s with heap := h'.push (seqObj "list" (bs.map Value.ref).toArray 0), toks := tk }
  -- the pairs' numbers by the values
  obtain ⟨k, hk⟩ : ∃ k : Value → Int × Int, ∀ b, k (Value.ref b) = pairAt H (V.ref b) := ⟨fun v => match v with | .ref b => pairAt H (V.ref b) | _ => (0, 0), fun b => rfl⟩
  have isp : ∀ v ∈ bs.map Value.ref, Srt.IsPair (h'.push (seqObj "list" (bs.map Value.ref).toArray 0)) v (k v).1 (k v).2 := fun v hv => by
    obtain ⟨b, mb, rfl⟩ := List.mem_map.mp hv
    obtain ⟨q, hq⟩ := prs b mb
    obtain ⟨_, its, rr, ob, hob, hcl, n, hdd⟩ := Ik.hok b _ hq
    obtain ⟨v1, v2, rfl, r1, r2⟩ := vals2 rr
    obtain ⟨t1, rfl⟩ := r1
    obtain ⟨t2, rfl⟩ := r2
    rw [hk, pairAt_eq hq]
    exact ⟨b, ob, t1, t2, n, rfl, Heap.get?_push_of_some _ hob, hcl, hdd⟩
  refine wpAny_bind (wpAny_holding (wpAny_call_entry PyProof.Rows.slot_list_sort ⟨_, hoL, rfl⟩ PyProof.Rows.entry_list_sort
    (SrtO.list_sort_ord (s := { s with heap := h'.push (seqObj "list" (bs.map Value.ref).toArray 0), toks := tk }) (SrtO.swo_lex k) hoL hz (fun h2 => SrtO.pairs_sortableO (by omega) isp fun ob e c => ?_) fun out hso hbo => ⟨_, rfl, ?_⟩)
    (PyProof.Rows.args_list_sort _)))
  · have e' : some ob = some (seqObj "list" (bs.map Value.ref).toArray 0) := e.symm.trans hoL
    cases e'
    exact absurd (Value.type.inj c) (by decide)
  · have pm := hbo.perm
    obtain ⟨zb, rfl, pz⟩ := perm_refs pm
    obtain ⟨e', he'⟩ := PyProof.Rows.sortedHeap_at (vs := bs.map Value.ref) (out := (zb.map Value.ref).toArray) hoL
    refine wpAny_pure ⟨_, rfl, .ref h'.objs.size, upd H h'.objs.size (.lst (zb.map V.ref)), Ik.laid (t' := tk) (fun b u e => ?_) (Nat.le_refl _) ⟨by rw [List.length_map, pz.length_eq]; simpa using hz, zb.map Value.ref, e', vals_refs zb, he'⟩, rfl, q bs _ _ isk ?_ (pz.map V.ref) (Ik.hok.fresh (Nat.le_refl _))⟩
    · have lt : b < h'.objs.size := Heap.lt_size e
      rw [PyProof.Rows.sortedHeap_old (Nat.ne_of_lt lt) (by rw [size_push']; exact Nat.lt_succ_of_lt lt)]
      exact Heap.get?_push_of_some _ e
    · unfold SrtO.Srtd at hso ⊢
      rw [List.pairwise_map] at hso ⊢
      exact hso.imp fun z => by dsimp only at z; rw [hk, hk] at z; exact z
end

/-! ### over trees -/
def prD (q : Int × Int) : D := .tup [.int q.1, .int q.2]
def pairD : D → Option (Int × Int)
  | .tup [.int x, .int y] => some (x, y)
  | _ => none
def pairsD : List D → Option (List (Int × Int))
  | [] => some []
  | d :: r => (pairD d).bind fun q => (pairsD r).map (q :: ·)
def leP (p q : Int × Int) : Bool := !SrtO.lexB q p
def srtP (ps : List (Int × Int)) : List (Int × Int) := ps.mergeSort leP
theorem srtP_eq {ps qs : List (Int × Int)} (p : qs.Perm ps) (s : qs.Pairwise fun a b => SrtO.lexB b a = false) : qs = srtP ps := by
  have nl : ∀ {a b : Int × Int}, SrtO.lexB b a = false → ¬ (b.1 < a.1 ∨ (b.1 = a.1 ∧ b.2 < a.2)) := fun h => SrtO.lexB_no.mp h
  refine List.Perm.eq_of_pairwise (le := fun a b => SrtO.lexB b a = false) (fun a b _ _ h1 h2 => ?_) s ?_ (p.trans (List.mergeSort_perm ps leP).symm)
  · have a1 := nl h1
    have a2 := nl h2
    exact Prod.ext (by omega) (by omega)
  · have := List.pairwise_mergeSort (le := leP) (fun a b c h1 h2 => ?_) (fun a b => ?_) ps
    · exact this.imp fun h => by unfold leP at h; simpa using h
    · unfold leP at h1 h2 ⊢
      have a1 := nl (by simpa using h1)
      have a2 := nl (by simpa using h2)
      rw [Bool.not_eq_true']
      refine SrtO.lexB_no.mpr ?_
      omega
    · unfold leP
      cases h : SrtO.lexB b a with
      | false => rfl
      | true =>
        have a1 := SrtO.lexB_iff.mp h
        have : SrtO.lexB a b = false := SrtO.lexB_no.mpr (by omega)
        rw [this]
        rfl
section
variable {K : KX} {O : Addr → Prop} {H : Hp}
theorem pairD_rep {d : D} {v : V} {os : List Addr} {q : Int × Int} (r : RepD K O H d v os) (h : pairD d = some q) : d = prD q ∧ ∃ t, v = .ref t ∧ H t = some (.tup [.int q.1, .int q.2]) := by
  unfold pairD at h
  split at h
  · cases h
    cases r with
    | tup e rl =>
      cases rl with
      | cons r1 r2 =>
        cases r2 with
        | cons r3 r4 =>
          cases r4
          cases r1
          cases r3
          exact ⟨rfl, _, rfl, e⟩
  · cases h
theorem pairsD_rep : ∀ {xs : List D} {vs : List V} {os : List Addr} {qs : List (Int × Int)}, RepL K O H xs vs os → pairsD xs = some qs → vs.map (pairAt H) = qs ∧ ∀ v ∈ vs, ∃ t, v = .ref t ∧ H t = some (.tup [.int (pairAt H v).1, .int (pairAt H v).2])
  | _, _, _, _, .nil, h => by cases h; exact ⟨rfl, fun _ z => nomatch z⟩
  | _, _, _, _, .cons r1 r2, h => by
    unfold pairsD at h
    obtain ⟨q, e1, e2⟩ := Option.bind_eq_some_iff.mp h
    obtain ⟨qs, e3, e4⟩ := Option.map_eq_some_iff.mp e2
    obtain ⟨-, t, rfl, ht⟩ := pairD_rep r1 e1
    obtain ⟨a1, a2⟩ := pairsD_rep r2 e3
    have ep := pairAt_eq ht
    refine ⟨by rw [List.map_cons, ep, a1]; exact e4, fun v m => ?_⟩
    rcases List.mem_cons.mp m with rfl | m
    · exact ⟨t, rfl, by rw [ep]; exact ht⟩
    · exact a2 v m
theorem rep_pairs : ∀ {vs : List V}, (∀ v ∈ vs, ∃ t, v = .ref t ∧ H t = some (.tup [.int (pairAt H v).1, .int (pairAt H v).2])) → RepL K O H ((vs.map (pairAt H)).map prD) vs []
  | [], _ => .nil
  | v :: r, h => by
    obtain ⟨t, e, ht⟩ := h v List.mem_cons_self
    have r1 : RepD K O H (prD (pairAt H v)) v [] := by
      rw [e] at ht ⊢
      exact .tup ht (.cons (o1 := []) (o2 := []) (.int _) (.cons (o1 := []) (o2 := []) (.int _) .nil))
    exact .cons (o1 := []) (o2 := []) r1 (rep_pairs fun u m => h u (List.mem_cons_of_mem _ m))
end
def keyP : List Key → Option (Int × Int)
  | [.inl x, .inl y] => some (x, y)
  | _ => none
def keyPs : List (D × D) → Option (List (Int × Int))
  | [] => some []
  | p :: r => ((keysD p.1).bind keyP).bind fun q => (keyPs r).map (q :: ·)
def gSortedG : List D → Option D
  | [.dct _ true kvs] => (keyPs kvs).map fun qs => .lst true ((srtP qs).map prD)
  | [.lst o xs] => match intsOf xs with
    | some ns => some (.lst true ((srtI ns).map D.int))
    | none => (pairsD xs).map fun qs => .lst true ((srtP qs).map prD)
  | _ => none
theorem keyPs_rep {K : KX} {O : Addr → Prop} {H : Hp} : ∀ {ds : List (D × D)} {vs : List (List Key × V)} {os : List Addr} {qs : List (Int × Int)}, RepT K O H ds vs os → keyPs ds = some qs → vs.map (·.1) = qs.map (fun q => [Sum.inl q.1, Sum.inl q.2])
  | _, _, _, _, .nil, h => by cases h; rfl
  | _, _, _, _, .cons (k := k) r1 r2, h => by
    unfold keyPs at h
    obtain ⟨q, e1, e2⟩ := Option.bind_eq_some_iff.mp h
    obtain ⟨qs, e3, e4⟩ := Option.map_eq_some_iff.mp e2
    rw [keysD_ktD] at e1
    have e5 : keyP k = some q := e1
    rw [← e4, List.map_cons, List.map_cons, keyPs_rep r2 e3]
    congr 1
    unfold keyP at e5
    split at e5
    · cases e5; rfl
    · cases e5
theorem fits_sortedG {K : KX} : FitsN K gSortedG (fun vs H Q => rSortedI K.fr vs H Q ∨ (rSortedPO K.fr vs H Q ∨ rSortedDT vs H Q)) := by
  intro O H xs vs o d Q r nd m e dn
  unfold gSortedG at e
  split at e
  · rename_i ow kvs
    obtain ⟨qs, e1, rfl⟩ := Option.map_eq_some_iff.mp e
    obtain ⟨v, rfl, q⟩ := r.one
    have fin : ∀ {a : Addr} {ws : List (List Key × V)} {os : List Addr}, v = .ref a → H a = some (.dT ws) → RepT K O H kvs ws os → rSortedDT [v] H Q := by
      intro a ws os ev ha rt
      have ek := keyPs_rep rt e1
      subst ev
      have allp : ∀ p ∈ ws, ∃ q : Int × Int, p.1 = [Sum.inl q.1, Sum.inl q.2] := fun p mp => by
        have : p.1 ∈ ws.map (·.1) := List.mem_map_of_mem mp
        rw [ek] at this
        obtain ⟨q, _, eq⟩ := List.mem_map.mp this
        exact ⟨q, eq.symm⟩
      refine ⟨a, ws, rfl, ha, allp, fun bs zs p isk hs pm hp => ?_⟩
      have hb : ∀ b ∈ bs, ∃ q : Int × Int, H b = some (.tup [.int q.1, .int q.2]) := keys_pairs isk allp
      have hz : ∀ z ∈ zs, ∃ t, z = V.ref t ∧ H t = some (.tup [.int (pairAt H z).1, .int (pairAt H z).2]) := fun z mz => by
        obtain ⟨b, mb, rfl⟩ := List.mem_map.mp (pm.mem_iff.mp mz)
        obtain ⟨q, hq⟩ := hb b mb
        exact ⟨b, rfl, by rw [pairAt_eq hq]; exact hq⟩
      have keysOf : ∀ {ws : List (List Key × V)} {bs : List Addr} {qs : List (Int × Int)}, Paired (fun p b => H b = some (.tup (p.1.map kV))) ws bs → ws.map (·.1) = qs.map (fun q => [Sum.inl q.1, Sum.inl q.2]) → bs.map (fun b => pairAt H (V.ref b)) = qs := by
        intro ws bs qs is
        induction is generalizing qs with
        | nil => intro h; cases qs with | nil => rfl | cons _ _ => cases h
        | @cons p b ps bs' h1 _ ih =>
          intro h
          cases qs with
          | nil => cases h
          | cons q qs =>
            rw [List.map_cons, List.map_cons] at h
            obtain ⟨a1, a2⟩ := List.cons.inj h
            rw [a1] at h1
            rw [List.map_cons, ih a2, pairAt_eq (q := q) h1]
      have e2 : zs.map (pairAt H) = srtP qs := by
        refine srtP_eq ?_ ?_
        · have := pm.map (pairAt H)
          rw [List.map_map] at this
          rw [← keysOf isk ek]
          exact this
        · rw [List.pairwise_map]
          exact hs
      rw [← e2] at dn
      exact dn.lst (rep_pairs hz) List.nodup_nil (fun _ z => nomatch z) (fun _ z => nomatch z) hp
    refine .inr (.inr ?_)
    cases q with
    | dtF h n rt => exact fin rfl h rt
    | dtO h rt => exact fin rfl h rt
  · split at e
    · rename_i ow xs ns hns
      refine .inl (fits_sortedI O H _ vs o d Q r nd m ?_ dn)
      unfold gSortedI
      dsimp only
      rw [hns]
      exact e
    · rename_i ow xs _
      obtain ⟨qs, e1, rfl⟩ := Option.map_eq_some_iff.mp e
      obtain ⟨v, rfl, q⟩ := r.one
      obtain ⟨a, ws, o', rfl, hr, rl, _, _⟩ := lst_part q nd
      obtain ⟨b1, b2⟩ := pairsD_rep rl e1
      refine .inr (.inl ⟨a, ws, pairAt H, rfl, .inl hr, b2, fun ys p hs hst hp => ?_⟩)
      have pm := hst.perm
      have hz : ∀ z ∈ ys, ∃ t, z = V.ref t ∧ H t = some (.tup [.int (pairAt H z).1, .int (pairAt H z).2]) := fun z mz => b2 z (pm.mem_iff.mp mz)
      have e2 : ys.map (pairAt H) = srtP qs := by
        refine srtP_eq ?_ ?_
        · rw [← b1]; exact pm.map _
        · rw [List.pairwise_map]
          exact hs
      rw [← e2] at dn
      exact dn.lst (rep_pairs hz) List.nodup_nil (fun _ z => nomatch z) (fun _ z => nomatch z) hp
  · cases e
theorem cr_sortedG {X : Cx} (hc : X.calm = true) : CallR X (.builtin "sorted") (fun vs H Q => rSortedI X.K vs H Q ∨ (rSortedPO X.K vs H Q ∨ rSortedDT vs H Q)) := cr_sortedI.or (cr_sortedPO.or (cr_sortedDT hc))
end TL
/-! T18: sorted(set(pairs)) -/
namespace TL
open PySem PySem.Spec PyProof.Rows L2

def rSortedSP (P : Program) (w : World) : List V → Hp → VK → Prop := fun vs H Q => ∃ (a : Addr) (L : List (Addr × List Int)), vs = [V.ref a] ∧ H a = some (SetTO P w a L) ∧ (∀ p ∈ L, ∃ q : Int × Int, p.2 = [q.1, q.2] ∧ H p.1 = some (.tup [.int q.1, .int q.2])) ∧
  ∀ (zs : List V) (p : Addr), (L.map (·.2)).Nodup → SrtO.Srtd (ltP (pairAt H)) zs → zs.Perm (L.map fun q => V.ref q.1) → H p = none → Q (.ref p) (upd H p (.lst zs))
section
variable {X : Cx}
theorem cr_sortedSP (hc : X.calm = true) : CallR X (.builtin "sorted") (rSortedSP X.prog X.w) := by
  intro pins s σ H vs us Q I r h
  obtain ⟨a, L, rfl, ha, hk, q⟩ := h
  obtain ⟨u, rfl, ru⟩ := vals1 r
  obtain rfl : u = Value.ref a := ru
  have R0 : SetT0 X.prog X.w s.heap a L := (I.hok a _ ha).1
  have tupI : ∀ p ∈ L, IsT X.prog X.w s.heap p.2 p.1 := fun p hp => by
    obtain ⟨q, e1, e2⟩ := hk p hp
    rw [e1]
    exact Inv.isT (k := [q.1, q.2]) I (.inl (.inl e2))
  obtain ⟨es, ep, t, R⟩ := R0.full tupI
  obtain ⟨o, ho, hex, hd⟩ := R.ob
  have hsz := R.size
  have hfew := R.few
  refine Calls.call_function_entry PyProof.Rows.kind_sorted PyProof.Rows.plain_sorted PyProof.Rows.entry_sorted (PyProof.Rows.args_sorted1 _) ?_
  unfold Builtin.«sorted»
  refine wpAny_bind (m := checkCount "sorted" 1 1 _) (wpAny_pure ?_)
  refine wpAny_bind (collect_set (A := X.A.in1) (I.ok.hd hc) ⟨o, ho, hex.1, hd⟩ R.fits (by unfold scanBound; omega) R.tab.ris R.led fun s1 out0 k1 hz1 g1 o1 pm => ?_)
  have erows : es.toList.map (·.2) = (L.map (·.1)).map Value.ref := by
    rw [R.rows]
    unfold rowsOf
    rw [List.map_map, List.map_map]
    rfl
  rw [erows] at pm
  obtain ⟨bs, rfl, pb⟩ := perm_refs pm
  have prs : ∀ b ∈ bs, ∃ q : Int × Int, H b = some (.tup [.int q.1, .int q.2]) := fun b mb => by
    obtain ⟨p, mp, rfl⟩ := List.mem_map.mp (pb.mem_iff.mp mb)
    obtain ⟨q, _, e2⟩ := hk p mp
    exact ⟨q, e2⟩
  have lb : bs.length = L.length := by rw [pb.length_eq, List.length_map]
  have hz : (bs.map Value.ref).length ≤ sizeLine := by rw [List.length_map, sizeLine_eq]; omega
  refine wpAny_bind (wpAny_newList ?_ (by simpa using hz))
  have hoL : (s1.heap.push (seqObj "list" (bs.map Value.ref).toArray 0)).get? s1.heap.objs.size = some (seqObj "list" (bs.map Value.ref).toArray 0) := Heap.get?_push_size _ rfl
  show wpAny _ _ _ _ _ { s1 with heap := s1.heap.push (seqObj "list" (bs.map Value.ref).toArray 0) }
  obtain ⟨k, hk'⟩ : ∃ k : Value → Int × Int, ∀ b, k (Value.ref b) = pairAt H (V.ref b) := ⟨fun v => match v with | .ref b => pairAt H (V.ref b) | _ => (0, 0), fun b => rfl⟩
  have isp : ∀ v ∈ bs.map Value.ref, Srt.IsPair (s1.heap.push (seqObj "list" (bs.map Value.ref).toArray 0)) v (k v).1 (k v).2 := fun v hv => by
    obtain ⟨b, mb, rfl⟩ := List.mem_map.mp hv
    obtain ⟨q, hq⟩ := prs b mb
    obtain ⟨_, its, rr, ob, hob, hcl, n, hdd⟩ := I.hok b _ hq
    obtain ⟨v1, v2, rfl, r1, r2⟩ := vals2 rr
    obtain ⟨t1, rfl⟩ := r1
    obtain ⟨t2, rfl⟩ := r2
    rw [hk', pairAt_eq hq]
    exact ⟨b, ob, t1, t2, n, rfl, Heap.get?_push_of_some _ (k1 _ _ hob), hcl, hdd⟩
  refine wpAny_bind (wpAny_holding (wpAny_call_entry PyProof.Rows.slot_list_sort ⟨_, hoL, rfl⟩ PyProof.Rows.entry_list_sort
    (SrtO.list_sort_ord (s := { s1 with heap := s1.heap.push (seqObj "list" (bs.map Value.ref).toArray 0) }) (SrtO.swo_lex k) hoL hz (fun h2 => SrtO.pairs_sortableO (by omega) isp fun ob e c => ?_) fun out hso hbo => ⟨_, rfl, ?_⟩)
    (PyProof.Rows.args_list_sort _)))
  · have e' : some ob = some (seqObj "list" (bs.map Value.ref).toArray 0) := e.symm.trans hoL
    cases e'
    exact absurd (Value.type.inj c) (by decide)
  · obtain ⟨zb, rfl, pz⟩ := perm_refs hbo.perm
    obtain ⟨e', he'⟩ := PyProof.Rows.sortedHeap_at (vs := bs.map Value.ref) (out := (zb.map Value.ref).toArray) hoL
    have keep : ∀ b u, s.heap.get? b = some u → (sortedHeap (s1.heap.push (seqObj "list" (bs.map Value.ref).toArray 0)) s1.heap.objs.size (bs.map Value.ref) (zb.map Value.ref).toArray).get? b = some u := fun b u e => by
      have e2 := k1 b u e
      have lt : b < s1.heap.objs.size := Heap.lt_size e2
      rw [PyProof.Rows.sortedHeap_old (Nat.ne_of_lt lt) (by rw [size_push']; exact Nat.lt_succ_of_lt lt)]
      exact Heap.get?_push_of_some _ e2
    have hn : H s1.heap.objs.size = none := I.hok.fresh hz1
    have hl : (zb.map V.ref).length ≤ sizeLine := by rw [List.length_map, pz.length_eq]; simpa using hz
    refine wpAny_pure ⟨_, rfl, .ref s1.heap.objs.size, upd H s1.heap.objs.size (.lst (zb.map V.ref)), ?_, rfl, q _ _ R.nd ?_ ?_ hn⟩
    · exact I.call' (ch := []) o1 (Un.laid keep hz1 hn) (I.hok.laid keep hz1 ⟨hl, zb.map Value.ref, e', vals_refs zb, he'⟩) (by rw [show _ = s.gens from g1]; exact I.bare) fun _ z => nomatch z
    · unfold SrtO.Srtd at hso ⊢
      rw [List.pairwise_map] at hso ⊢
      exact hso.imp fun z => by dsimp only at z; rw [hk', hk'] at z; exact z
    · have := (pz.trans pb).map V.ref
      rwa [List.map_map] at this
end
/-! ### over trees -/
def ddP : List (Int × Int) → List (Int × Int)
  | [] => []
  | q :: r => if q ∈ r then ddP r else q :: ddP r
theorem ddP_mem {x : Int × Int} : ∀ {l : List (Int × Int)}, x ∈ ddP l ↔ x ∈ l
  | [] => Iff.rfl
  | q :: r => by
    unfold ddP
    split
    · rename_i h
      rw [ddP_mem, List.mem_cons]
      exact ⟨.inr, fun z => z.elim (fun e => by rw [e]; exact h) id⟩
    · rw [List.mem_cons, List.mem_cons, ddP_mem]
theorem ddP_nodup : ∀ l : List (Int × Int), (ddP l).Nodup
  | [] => List.nodup_nil
  | q :: r => by
    unfold ddP
    split
    · exact ddP_nodup r
    · rename_i h
      exact List.nodup_cons.mpr ⟨fun z => h (ddP_mem.mp z), ddP_nodup r⟩
def gSortedSet : List D → Option D
  | [.lst _ xs] => if xs.length < 64 then (pairsD xs).map fun qs => .lst true ((srtP (ddP qs)).map prD) else none
  | _ => none
def rSortedSet (K : PySem.W.Frag) (P : Program) (w : World) : List V → Hp → VK → Prop := fun vs H Q => rSetOfT K P w vs H fun x H1 => rSortedSP P w [x] H1 Q
theorem fits_sortedSet {K : KX} {P : Program} {w : World} : FitsN K gSortedSet (rSortedSet K.fr P w) := by
  intro O H xs vs o d Q r nd m e dn
  unfold gSortedSet at e
  split at e
  · rename_i ow xs
    split at e
    · rename_i hl
      obtain ⟨qs, e1, rfl⟩ := Option.map_eq_some_iff.mp e
      obtain ⟨v, rfl, q⟩ := r.one
      obtain ⟨a, ws, o', rfl, hr, rl, _, _⟩ := lst_part q nd
      obtain ⟨b1, b2⟩ := pairsD_rep rl e1
      have lw : ws.length < 64 := by rw [← rl.length]; exact hl
      -- the rows: an address and its two numbers
      obtain ⟨ks, ek, hks, mk⟩ : ∃ ks : List (Addr × List Int), ws = ks.map (fun p => V.ref p.1) ∧ (∀ p ∈ ks, ∃ q : Int × Int, p.2 = [q.1, q.2] ∧ H p.1 = some (.tup [.int q.1, .int q.2])) ∧ ks.map (·.2) = (ws.map (pairAt H)).map fun q => [q.1, q.2] := by
        clear b1 lw hl rl hr e1 q r
        induction ws with
        | nil => exact ⟨[], rfl, fun _ z => (nomatch z), rfl⟩
        | cons w0 r ih =>
          obtain ⟨ks, h1, h2, h3⟩ := ih fun v mv => b2 v (List.mem_cons_of_mem _ mv)
          obtain ⟨t, et, ht⟩ := b2 w0 List.mem_cons_self
          refine ⟨(t, [(pairAt H w0).1, (pairAt H w0).2]) :: ks, by rw [List.map_cons, et, h1], fun p mp => ?_, by rw [List.map_cons, List.map_cons, List.map_cons, h3]⟩
          rcases List.mem_cons.mp mp with rfl | mp
          · exact ⟨_, rfl, ht⟩
          · exact h2 p mp
      refine ⟨a, ks, rfl, ?_, fun p hp => ?_, by rw [ek, List.length_map] at lw; exact lw, fun s L hs sub all => ?_⟩
      · rw [← ek]; exact .inl hr
      · obtain ⟨q, e2, e3⟩ := hks p hp
        rw [e2]
        exact .inl (.inl e3)
      · have sm : Same H (upd H s (SetTO P w s L)) := same_new hs
        have hL : ∀ p ∈ L, ∃ q : Int × Int, p.2 = [q.1, q.2] ∧ (upd H s (SetTO P w s L)) p.1 = some (.tup [.int q.1, .int q.2]) := fun p mp => by
          obtain ⟨q, e2, e3⟩ := hks p (sub p mp)
          exact ⟨q, e2, sm _ _ e3⟩
        refine ⟨s, L, rfl, upd_same, hL, fun zs p nk srt pm hp => ?_⟩
        have hz : ∀ z ∈ zs, ∃ t, z = V.ref t ∧ (upd H s (SetTO P w s L)) t = some (.tup [.int (pairAt (upd H s (SetTO P w s L)) z).1, .int (pairAt (upd H s (SetTO P w s L)) z).2]) := fun z mz => by
          obtain ⟨p, mp, rfl⟩ := List.mem_map.mp (pm.mem_iff.mp mz)
          obtain ⟨q, _, e3⟩ := hL p mp
          exact ⟨p.1, rfl, by rw [pairAt_eq e3]; exact e3⟩
        have key : (L.map fun p => pairAt (upd H s (SetTO P w s L)) (V.ref p.1)).map (fun q => [q.1, q.2]) = L.map (·.2) := by
          rw [List.map_map]
          refine List.map_congr_left fun p mp => ?_
          obtain ⟨q, e2, e3⟩ := hL p mp
          show [(pairAt _ (V.ref p.1)).1, (pairAt _ (V.ref p.1)).2] = p.2
          rw [pairAt_eq e3, e2]
        have nL : (L.map fun p => pairAt (upd H s (SetTO P w s L)) (V.ref p.1)).Nodup := by
          have : ((L.map fun p => pairAt (upd H s (SetTO P w s L)) (V.ref p.1)).map (fun q : Int × Int => [q.1, q.2])).Nodup := by rw [key]; exact nk
          exact (List.pairwise_map.mp this).imp fun h e => h (by rw [e])
        have e2 : zs.map (pairAt (upd H s (SetTO P w s L))) = srtP (ddP qs) := by
          refine srtP_eq ?_ (List.pairwise_map.mpr srt)
          have p1 := pm.map (pairAt (upd H s (SetTO P w s L)))
          rw [List.map_map] at p1
          refine p1.trans ((List.perm_ext_iff_of_nodup nL (ddP_nodup _)).mpr fun x => ?_)
          rw [ddP_mem, ← b1]
          constructor
          · intro mx
            obtain ⟨p, mp, rfl⟩ := List.mem_map.mp mx
            have mp' := sub p mp
            rw [ek, List.map_map]
            obtain ⟨q, _, e3⟩ := hks p mp'
            refine List.mem_map.mpr ⟨p, mp', ?_⟩
            show pairAt H (V.ref p.1) = _
            rw [pairAt_eq e3, pairAt_eq (sm _ _ e3)]
          · intro mx
            have : [x.1, x.2] ∈ ks.map (·.2) := by rw [mk]; exact List.mem_map.mpr ⟨x, mx, rfl⟩
            obtain ⟨p, mp, ep⟩ := List.mem_map.mp this
            have mL := all p mp
            obtain ⟨p', mp', ep'⟩ := List.mem_map.mp mL
            obtain ⟨q, e4, e5⟩ := hL p' mp'
            refine List.mem_map.mpr ⟨p', mp', ?_⟩
            rw [pairAt_eq e5]
            rw [ep', ep] at e4
            injection e4 with a1 a2
            injection a2 with a2 _
            exact Prod.ext a1.symm a2.symm
        rw [← e2] at dn
        have rz := rep_pairs (K := K) (O := fun b => O b ∨ b ∈ [p]) hz
        refine dn (.ref p) _ [p] (sm.trans (same_new hp)) (.lstO upd_same (rz.keep (fun _ _ _ z => z) (Kept.of_same (same_new hp) _))) (by simp) fun b mb => .inr ?_
        · rw [List.mem_singleton.mp mb]; exact sm.free hp
    · cases e
  · cases e

section
variable {X : CY} {W : WX} {S : List Nat} {p1 p2 q1 q2 : Pos} {e : Expr} {fe : En → R D}
/-- sorted(set(e)) -/
theorem de_sortedSet {k : Nat} (hr : Room k X.A) (hc : X.calm = true) (ms : X.mg "sorted" = none) (mt : X.mg "set" = none) (he : DE X W S e fe) (gs : Gl X "sorted" := by rfl) (gt : Gl X "set" := by rfl)
    (st1 : starEach [e] X.env = (false, eval e X.env) :: starEach [] X.env := by rfl) (st2 : starEach [Expr.Call (.Name "set" q1) [e] [] q2] X.env = (false, eval (Expr.Call (.Name "set" q1) [e] [] q2) X.env) :: starEach [] X.env := by rfl)
    (pl1 : (backTo q2 (starEach [] X.env)).any (·.1) = false := by rfl) (pl2 : (backTo p2 (starEach [] X.env)).any (·.1) = false := by rfl) :
    DE X W (S ++ []) (.Call (.Name "sorted" p1) [.Call (.Name "set" q1) [e] [] q2] [] p2) (eN gSortedSet (eCons fe eNil)) :=
  ⟨(pe_callB (cr_sortedSP hc) gs ms boot_sorted (pa_cons (pe_callTy (cr_setOfT hc (by have := hr.un; omega)) gt mt boot_set (da_cons he da_nil st1).pa (by decide) (by decide) st1 pl1) pa_nil st2) (by decide) (by decide) st2 pl2).imp fun σ H Q h => by
    have h1 := rdN (W := W) (S := S ++ []) (Q := Q) (fits_sortedSet (K := (kx X)) (P := X.prog) (w := X.w)) h
    exact h1⟩
end
end TL
/-! T19: fuel -/
namespace TL
open PySem PySem.Spec PyProof.Rows L2
theorem hu1 {k : Nat} {A : Around} (r : Room k A) : A.units + 1 < cLine := by have := r.un; omega
theorem spD_stuck {K : PySem.W.Frag} {n : Nat} {vs : List V} {H : Hp} {Q : VK} {E : XK} (h : spD K n (fun _ => .stuck) vs H Q E) : False := by
  obtain ⟨_, ds, B, _, _, h⟩ := h
  exact h
theorem fnok_stuck {P : Program} {w : World} {K : PySem.W.Frag} {mg : Str → Option Value} {base : Heap} {k n : Nat} {f : Addr} {fd : FuncData} {ps : List Str} : FnOk P w K mg base (L2N.CX P w) k f fd ps (spD K n (fun _ => .stuck)) :=
  ⟨fun vs H Q E h => (spD_stuck h).elim, fun _ _ _ _ _ _ _ _ _ _ _ _ _ h => (spD_stuck h).elim⟩
end TL
/-! T20: an own exception's __init__ that begins with super().__init__(text) -/
namespace TL
open PySem PySem.Spec PyProof.Rows L2 PySem.W

/-- what the written part must say of the def and its class -/
structure SupF (P : Program) (K : Frag) (C f : Addr) (name qual : Str) (params : Arguments) (body : List Stmt) (scope : Scope) (N ps : List Str) (fd : FuncData) : Prop where
  ex : ∃ (oc dV kV doc pm ct : Value) (od an : Option Addr) (osl : Array (Option Value)) (cda cc : Addr) (ccl : Value) (cdd : Option Addr) (vs : Array Value) (ccs : Array (Option Value)) (file : Str) (tf : Tok) (cl : Value) (cld : Option Addr) (csl : Array (Option Value)),
    fd = ksFn name qual params body scope dV kV doc pm an (.ref cda) ct cc ∧ K.lookup f = some ⟨oc, od, .func fd, osl⟩ ∧ codeIn K (.ref cda) qual = true ∧
    K.lookup cda = some ⟨ccl, cdd, .fields vs, ccs⟩ ∧ vs[2]? = some (.str file tf) ∧ ((P.main.file : Str) == file) = true ∧ K.lookup cc = some ⟨cl, cld, .cell (some (.ref C)), csl⟩
structure SupS (scope : Scope) (params : Arguments) (N ps : List Str) (me : Str) : Prop where
  kind : scope.kind = .function
  co : scope.isCoroutine = false
  gen : scope.isGenerator = false
  pre : N.take ps.length = ps
  nd : N.Nodup
  hd : ∃ ar, (params.posonlyargs ++ params.args).head? = some ar ∧ ar.arg = me
  ps0 : ps[0]? = some me
  par : ∀ y ∈ ps, scope.names.lookup y = some .local
  nocell : ∀ x ∈ scope.names, x.2 ≠ .cell
  free : ∀ x ∈ scope.names, x.2 = .free → x.1 = "__class__"
  cls : scope.names.lookup ("__class__" : Str) = some .free
  sup : scope.names.lookup ("super" : Str) = some .globalImplicit
structure SupC (P : Program) (K : Frag) (C : Addr) : Prop where
  sub : mroIn K C (.ref C) = some true
  sup : nsIn K mainGlobals "super" = some none
  tp : nsIn K cStatics "thirdparty.any" = some none
  top : (P.main.scope.names.lookup ("super" : Str)).isSome = false
  init : ks_superIn K C C "__init__" = some (some (.builtin "ValueError.__init__"))
  val : subIn K (.ref C) (.type "ValueError") = some true
theorem boot_super : bootBuiltins "super" = some (.type "super") := by first | boot_by_name | rfl | kernel_rfl
theorem rev_lookup : ∀ {ps : List Str} {us : List Value} {i : Nat} {y : Str} {u : Value}, ps.Nodup → ps[i]? = some y → us[i]? = some u → (ps.zip us).reverse.lookup y = some u
  | [], _, _, _, _, _, h, _ => by simp at h
  | _ :: _, [], _, _, _, _, _, h => by simp at h
  | p :: ps, w :: us, 0, y, u, nd, h1, h2 => by
    simp at h1 h2
    subst h1 h2
    have n := (List.nodup_cons.mp nd).1
    rw [List.zip_cons_cons, List.reverse_cons, List.lookup_append]
    have : (ps.zip us).reverse.lookup p = none := by
      rw [List.lookup_eq_none_iff]
      intro q hq
      rw [List.mem_reverse] at hq
      have := (List.of_mem_zip (a := q.1) (b := q.2) hq).1
      simp
      intro e
      exact n (e ▸ this)
    rw [this]
    simp [List.lookup]
  | p :: ps, w :: us, i + 1, y, u, nd, h1, h2 => by
    rw [List.zip_cons_cons, List.reverse_cons, List.lookup_append, rev_lookup (List.nodup_cons.mp nd).2 (by simpa using h1) (by simpa using h2)]
    rfl
/-- the frame of such a def -/
def cxSup (P : Program) (w : World) (K : Frag) (mg : Str → Option Value) (base : Heap) (N : List Str) (env : Env) (A : Around) (outer : List Env) (s : Shared) (H : Hp) (E : XK) : Cx where
  prog := P
  w := w
  K := K
  mg := mg
  base := base
  A := A.deeper env
  N := N
  s_0 := s
  H_0 := H
  env := env
  outer := outer
  stack := env :: outer
  ex := []
  calm := true
  fn := fun _ => false
  pn := []
  xe := fun e s' => wpAny (model P w) (A.deeper env) (leaving env e) (fun _ s'' => L2N.CX P w outer H s E e s'') (fun e' s'' => L2N.CX P w outer H s E e' s'') s'
section
variable {P : Program} {w : World} {K : Frag} {mg : Str → Option Value} {base : Heap}
theorem inv_sup {N ps : List Str} {me : Str} {qual : Str} {params : Arguments} {scope : Scope} {f cc : Addr} {cd : Value} {C : Addr} {A : Around} {outer : List Env} {s : Shared} {H : Hp} {E : XK} {us : List Value} {vs : List V} {cl : Value} {cld : Option Addr} {csl : Array (Option Value)} {h0 : Heap} {tk : Nat}
    (S : SupS scope params N ps me) (hcell : K.lookup cc = some ⟨cl, cld, .cell (some (.ref C)), csl⟩) (hh : A.handled = none) (e0 : Env0 P w K mg base A outer s H) (hl : vs.length = ps.length) (r : Vals vs us)
    (hns : h0.Ns s.heap.objs.size (fun x => (ps.zip us).reverse.lookup x)) (hk : ∀ b o, s.heap.get? b = some o → h0.get? b = some o) :
    Inv (cxSup P w K mg base N (ksEnv qual scope s.heap.objs.size f cd cc) A outer s H E) [] (start N vs) H { s with heap := h0, toks := tk } := by
  have hpl : ps.length ≤ N.length := by have := congrArg List.length S.pre; rw [List.length_take] at this; omega
  have kb : base.get? cc = some ⟨cl, cld, .cell (some (.ref C)), csl⟩ := e0.mod.kin _ _ hcell
  have cellL : ∀ x c, (ksEnv qual scope s.heap.objs.size f cd cc).cells.lookup x = some c → c = cc ∧ x = "__class__" := fun x c h => by
    have h' : List.lookup x [(("__class__" : Str), cc)] = some c := h
    simp only [List.lookup] at h'
    split at h'
    · rename_i q
      cases h'
      exact ⟨rfl, by simpa using q⟩
    · cases h'
  have noA : ∀ b : Addr, b ∉ (cxSup P w K mg base N (ksEnv qual scope s.heap.objs.size f cd cc) A outer s H E).ex := fun b z => absurd (show b ∈ ([] : List Addr) from z) (by simp)
  refine ⟨⟨e0.mod, S.kind, rfl, rfl, Nat.le_refl _, fun y z c h1 h2 => by rw [(cellL y c h1).2, (cellL z c h2).2], fun y hy => ?_, (fun y c q _ => Bool.noConfusion (show false = true from q)), fun _ => hh, Around.frames_deeper e0.frames, .inr ⟨rfl, rfl⟩, fun b z => absurd z (noA b), e0.bs, e0.bsz, fun b _ _ => noA b, fun b z => absurd z (noA b), e0.funs, e0.frf⟩,
    rfl, e0.bare, Un.kept hk, ⟨_, hns, fun i y v h1 h2 h3 => ?_⟩, fun y c h => ?_, e0.hok.fresh (Nat.le_refl _), fun y c h => ?_, fun p hp => absurd (show p ∈ ([] : List (Addr × Obj)) from hp) (by simp), e0.hok.kept hk, ?_⟩
  · have hy' : scope.names.lookup y = some .cell ∨ scope.names.lookup y = some .free := hy
    rcases hy' with q | q
    · exact absurd rfl (S.nocell _ (PySem.mem_of_lookup q))
    · have e := S.free _ (PySem.mem_of_lookup q) rfl
      dsimp only at e
      subst e
      exact ⟨cc, rfl⟩
  · have hi : i < vs.length := by
      unfold L2.start at h2
      by_cases hi : i < vs.length
      · exact hi
      · rw [List.getElem?_append_right (by simpa using hi), List.getElem?_replicate] at h2
        split at h2 <;> cases h2
    have ha : vs[i]? = some v := by
      unfold L2.start at h2
      rw [List.getElem?_append_left (by simpa using hi), List.getElem?_map] at h2
      cases e : vs[i]? with
      | none => rw [e] at h2; cases h2
      | some a => rw [e] at h2; cases h2; rfl
    obtain ⟨u, hu, rv⟩ := r.get ha
    have hp : ps[i]? = some y := by
      rw [← S.pre, List.getElem?_take_of_lt (by omega)]
      exact h1
    have ndP : ps.Nodup := by rw [← S.pre]; exact S.nd.sublist (List.take_sublist _ _)
    exact ⟨u, rv, .inl ⟨S.par y (List.mem_of_getElem? hp), rev_lookup ndP hp hu⟩⟩
  · rw [(cellL y c h).1]
    exact ⟨some (.ref C), ⟨_, hk _ _ (e0.bs _ _ kb).1, rfl⟩⟩
  · rw [(cellL y c h).1]
    exact (e0.bs _ _ kb).2
  · unfold L2.start
    show _ = N.length
    rw [List.length_append, List.length_map, List.length_replicate]
    omega
/-- behind super().__init__(text): the exception's record is another one, all else stands -/
theorem wp_sup_init {C a u : Addr} {A : Around} {Q : Value → Shared → Prop} {E : Value → Shared → Prop} {h : Heap} {g : Array GenState} {d : Drawn} {t : Nat} {os : OsState} {t1 : Addr} {vs : List Value}
    (X : K.In h) (T : OexC K C) (ha : h.get? a = some ({ cls := .ref C, dict := none, data := .fields #[.ref t1, .none, .none, .none, .bool false, .none] } : Obj)) (hu : h.get? u = some (kxs_mw "ValueError.__init__" a)) (hz : vs.length ≤ sizeLine)
    (hq : ∀ h' t2, (∀ b o, b ≠ a → h.get? b = some o → h'.get? b = some o) → h'.get? a = some ({ cls := .ref C, dict := none, data := .fields #[.ref t2, .none, .none, .none, .bool false, .none] } : Obj) → Q .none ⟨h', g, d, t, os⟩) :
    wpAny (model P w) A (call (.ref u) vs) Q E ⟨h, g, d, t, os⟩ := by
  obtain ⟨nm, q, N, bs, bm, sn, sub, ab, col, dd, k0, k1, k2, k3, k5, hC, hbm⟩ := T.cls
  have FB := F.excBase_ValueError
  refine wpAny_call (codeAny_of_tree ?_)
  refine (?_ : wpAny _ A.in1 (callAny (.ref u) ⟨vs, []⟩) _ _ _)
  simp only [callAny]
  refine wpAny_bind (wpAny_load hu ?_)
  dsimp only [kxs_mw]
  rw [if_pos (by decide)]
  refine wpAny_bind (check_bound_init FB.toExcCallFacts (X _ _ hC) ha rfl (wpAny_bind (wpAny_pure (wpAny_pure ?_))))
  refine ⟨plainId_quiet FB.init.plain _, codeAny_builtin FB.initEntry (exc_init_tree (cls := .ref C) (t0 := t1) (dv := none) (c2 := .none) (c3 := .none) (b4 := .bool false) ha hz fun h' k e _ => ?_)⟩
  exact hq h' h.objs.size k e
open PySem.Calls in
theorem sup_stmt {C f a cc cda : Addr} {scope : Scope} {params : Arguments} {N ps : List Str} {me msg : Str} {fd : FuncData} {cdC : ClassData} {p0 p1 p2 p3 p4 p5 : Pos} {j : Nat} {env : Env} {A : Around} {body : List Stmt} {s0 : Shared} {mb m0 : Str → Option Value} {t1 : Addr}
    {oc : Value} {od : Option Addr} {osl : Array (Option Value)} {ccl cl : Value} {cdd cld : Option Addr} {vs' : Array Value} {ccs csl : Array (Option Value)} {file : Str} {tf : Tok} {Q : Flow → Shared → Prop} {E : Value → Shared → Prop}
    (he : ∀ env : Env, eval (.Call (.Attribute (.Call (.Name "super" p0) [] [] p1) "__init__" p2) [.Constant (.str msg) j p3] [] p4) env = (do
      let ov ← attributeBase (.Call (.Name "super" p0) [] [] p1) "__init__" env (eval (.Call (.Name "super" p0) [] [] p1) env)
      standAt p2.atName
      let (f, first) ← holding [ov] (getMethod ov "__init__" (do return (← importBound (.Call (.Name "super" p0) [] [] p1) env).getD true))
      callWith p4 f first (backTo p4 (starEach [.Constant (.str msg) j p3] env)) []))
    (S : SupS scope params N ps me) (Cc : SupC P K C) (T : OexC K C) (hcd : clsIn K C = some cdC) (hfp : fd.params = params)
    (lk : K.lookup f = some ⟨oc, od, .func fd, osl⟩) (hc2 : K.lookup cda = some ⟨ccl, cdd, .fields vs', ccs⟩) (hc3 : vs'[2]? = some (.str file tf)) (hc4 : ((P.main.file : Str) == file) = true) (hc5 : K.lookup cc = some ⟨cl, cld, .cell (some (.ref C)), csl⟩)
    (hsc : env.scope = scope) (hce : env.cells.lookup ("__class__" : Str) = some cc) (hfu : env.func = some f) (hco : env.code = .ref cda) (hgl : env.globals = mainGlobals) (hbl : env.builtins = builtinsNs)
    (K0 : K.In s0.heap) (hG : s0.heap.Ns mainGlobals mg) (hmg : mg "super" = none) (hB : s0.heap.Ns builtinsNs mb) (hmb : mb "super" = some (.type "super")) (hloc : s0.heap.Ns env.locals m0) (hm0 : m0 me = some (.ref a))
    (hx : s0.heap.get? a = some ({ cls := .ref C, dict := none, data := .fields #[.ref t1, .none, .none, .none, .bool false, .none] } : Obj))
    (hq : ∀ h' t2 tk', (∀ b o, b ≠ a → s0.heap.get? b = some o → h'.get? b = some o) → h'.get? a = some ({ cls := .ref C, dict := none, data := .fields #[.ref t2, .none, .none, .none, .bool false, .none] } : Obj) → Q .next { s0 with heap := h', toks := tk' }) :
    PySem.wpAt (model P w) A (.func body env) (exec (.Expr (.Call (.Attribute (.Call (.Name "super" p0) [] [] p1) "__init__" p2) [.Constant (.str msg) j p3] [] p4) p5) env) Q E s0 := by
  have hki : interactive env = false := by unfold interactive; rw [hsc, S.kind]; rfl
  have hks : env.kindOf "super" = some .globalImplicit := by unfold Env.kindOf; rw [hsc]; exact S.sup
  have hkc : env.kindOf "__class__" = some .free := by unfold Env.kindOf; rw [hsc]; exact S.cls
  have hkm : env.kindOf me = some .local := by unfold Env.kindOf; rw [hsc]; exact S.par me (List.mem_of_getElem? S.ps0)
  have hkf : env.scope.kind = .function := by rw [hsc]; exact S.kind
  obtain ⟨ar, ar1, ar2⟩ := S.hd
  subst ar2
  obtain ⟨oC, hC1, hC2⟩ : ∃ oC, s0.heap.get? C = some oC ∧ oC.data = .cls cdC := by
    unfold clsIn at hcd
    split at hcd
    · rename_i c d cd' sl ho
      cases hcd
      exact ⟨_, K0 _ _ ho, rfl⟩
    · cases hcd
  have hne : a ≠ C := fun e => by
    rw [e, hC1] at hx
    cases hx
    cases hC2
  refine ks_wpAt_Expr_any (ks_wpAt_MethodCall ?_ (he env)) hki rfl
  · refine ks_wpAt_super_base hks hkc (by decide) hfu (K0 _ _ lk) rfl (by rw [hfp]; exact ar1) hco (K0 _ _ hc2) rfl hc3 hc4 Cc.top ?_
    refine ks_loadName_global hkf hks (loadGlobal_builtin (by rw [hgl]; exact hG) hmg (by rw [hbl]; exact hB) hmb ⟨rfl, ?_⟩)
    refine wpAny_loadName_free hkf hkc hce ⟨_, K0 _ _ hc5, rfl⟩ ?_
    refine wpAny_loadName_local hkf hkm hloc hm0 ?_
    obtain ⟨h0, g, d, t, os⟩ := s0
    refine ks_wpAny_isType_cls hC1 hC2 ⟨rfl, ?_⟩
    refine ks_wpAny_call_super hC1 hC2 hx rfl (fun c e => by cases e) (looks_mroIn K0 Cc.sub) fun h1 hso k1 => ?_
    have X1 : K.In h1 := K0.keeps k1
    have hx1 := k1 _ _ hx
    have LT : Looks (model P w) h1 (typeOf (.ref a)) (.ref C) := fun A Q E s k q => wpAny_typeOf_ref (k _ _ hx1) q
    have hI : Looks (model P w) h1 (isInstance (.ref a) (.type "ValueError")) true := LT.andThen (looks_subIn X1 Cc.val)
    obtain ⟨cdm, hm1, hm2⟩ : ∃ cd, clsIn K C = some cd ∧ alongIn K "__init__" ((cd.mro.dropWhile (· != .ref C)).drop 1) = some (some (.builtin "ValueError.__init__")) := by
      have q := Cc.init
      unfold ks_superIn at q
      obtain ⟨cd, e1, e2⟩ := Option.bind_eq_some_iff.mp q
      exact ⟨cd, e1, e2⟩
    refine kxs_getMethod kxs_ValueError hso (looks_opaque X1 Cc.tp) (l₀ := cdm.mro) (fun A Q E s k q => wpAny_bind ((looks_clsIn X1 hm1) A _ E s k (wpAny_pure q))) rfl X1 hm2 hI hne (by decide) ?_
    have hu : (h1.push (kxs_mw "ValueError.__init__" a)).get? h1.objs.size = some (kxs_mw "ValueError.__init__" a) := Heap.get?_push_at rfl rfl
    have k2 : ∀ b o, h0.get? b = some o → (h1.push (kxs_mw "ValueError.__init__" a)).get? b = some o := fun b o e => Heap.get?_push_of_some _ (k1 b o e)
    refine kxs_callWith (i := "ValueError.__init__") (x := a) rfl ?_
    refine evalArgs_plain (PyProof.Rows.spliced_more (env := env) (e := .Constant (.str msg) j p3) (rest := []) (pos := p4) (Constant_str (PyProof.Rows.spliced_none ?_)) rfl)
    refine ⟨hu, ?_⟩
    refine wp_sup_init (K0.keeps k2) T (k2 _ _ hx) hu (by rw [sizeLine_eq]; exact Nat.succ_le_of_lt (by simp)) fun h' t2 k e => hq h' t2 _ (fun b o hb ho => k b o hb (k2 b o ho)) e
open PySem.Calls in
theorem fn_super {C f : Addr} {name qual : Str} {params : Arguments} {body rest : List Stmt} {scope : Scope} {N ps : List Str} {me msg : Str} {fd : FuncData} {cdC : ClassData} {p0 p1 p2 p3 p4 p5 : Pos} {j : Nat} {k : Nat} {sp : Sp}
    (he : ∀ env : Env, eval (.Call (.Attribute (.Call (.Name "super" p0) [] [] p1) "__init__" p2) [.Constant (.str msg) j p3] [] p4) env = (do
      let ov ← attributeBase (.Call (.Name "super" p0) [] [] p1) "__init__" env (eval (.Call (.Name "super" p0) [] [] p1) env)
      standAt p2.atName
      let (f, first) ← holding [ov] (getMethod ov "__init__" (do return (← importBound (.Call (.Name "super" p0) [] [] p1) env).getD true))
      callWith p4 f first (backTo p4 (starEach [.Constant (.str msg) j p3] env)) []))
    (F1 : SupF P K C f name qual params body scope N ps fd) (S : SupS scope params N ps me) (Cc : SupC P K C) (T : OexC K C) (hcd : clsIn K C = some cdC)
    (hbody : body = .Expr (.Call (.Attribute (.Call (.Name "super" p0) [] [] p1) "__init__" p2) [.Constant (.str msg) j p3] [] p4) p5 :: rest)
    (len : ∀ vs H Q E, sp vs H Q E → vs.length = ps.length) (hsp : ∀ vs H Q E, sp vs H Q E → ∃ a ws, vs = .ref a :: ws ∧ H a = some (exo a C none))
    (hrest : ∀ (env : Env) (A : Around) (outer : List Env) (s : Shared) (H : Hp) (vs : List V) (Q : VK) (E : XK), env.scope = scope → sp vs H Q E →
      ∃ t, PSs (cxSup P w K mg base N env A outer s H E) rest t ∧ t { nx := fun _ H' => Q .non H', rt := Q } (L2.start N vs) H) :
    FnOk P w K mg base (L2N.CX P w) (k + 1) f fd ps sp := by
  refine ⟨len, fun A outer s H args us vs Q E hr e0 hb r hs => ?_⟩
  obtain ⟨oc, dV, kV, doc, pm, ct, od, an, osl, cda, cc, ccl, cdd, vs', ccs, file, tf, cl, cld, csl, rfl, lk, hc1, hc2, hc3, hc4, hc5⟩ := F1.ex
  obtain ⟨a, ws, rfl, ha⟩ := hsp _ _ _ _ hs
  subst hbody
  have hl := len _ _ _ _ hs
  have KX : K.In s.heap := e0.mod.kin.keeps fun b o e => (e0.bs b o e).1
  have lim : s.heap.NoLimit := e0.mod.nolimit.keeps fun b o e => (e0.bs b o e).1
  obtain ⟨u0, us', rfl, r0⟩ : ∃ u0 us', us = u0 :: us' ∧ u0 = Value.ref a := by
    cases r with
    | cons r1 r2 => exact ⟨_, _, rfl, r1⟩
  subst r0
  refine ks_codeAny_call_defAt (body := _) (binds := ps.zip (Value.ref a :: us')) hr.depth (KX _ _ lk) rfl lim (PySem.W.codeRec_of KX hc1) rfl hb S.nocell (fun x hx => S.par _ (List.of_mem_zip (a := x.1) (b := x.2) hx).1) (fun h0 hns hk => ?_) S.co S.gen S.kind
  have K0 : K.In h0 := KX.keeps hk
  have bk : ∀ b o, base.get? b = some o → h0.get? b = some o := fun b o e => hk b o (e0.bs b o e).1
  have I0 := inv_sup (tk := s.toks + (ps.zip (Value.ref a :: us')).length) (qual := qual) (f := f) (cd := .ref cda) (E := E) S hc5 hr.hd e0 hl r hns hk
  obtain ⟨t1, hx⟩ := exo_at I0.hok ha
  obtain ⟨mb, hB, hmb⟩ := e0.mod.blt
  have hm0 : (ps.zip (Value.ref a :: us')).reverse.lookup me = some (.ref a) := rev_lookup (i := 0) (by rw [← S.pre]; exact S.nd.sublist (List.take_sublist _ _)) S.ps0 rfl
  obtain ⟨t, ht, hq⟩ := hrest (ksEnv qual scope s.heap.objs.size f (.ref cda) cc) A outer s H _ Q E rfl hs
  refine ks_wpAt_execs_cons ?_
  refine sup_stmt he (s0 := { s with heap := h0, toks := s.toks + (ps.zip (Value.ref a :: us')).length }) S Cc T hcd rfl lk hc2 hc3 hc4 hc5 rfl rfl rfl rfl rfl rfl K0 (e0.mod.glob.keeps bk) (PySem.W.mg_none_of e0.mod.kin e0.mod.glob Cc.sup) (hB.keeps bk) ((hmb _ (by decide +kernel)).trans boot_super) hns hm0 hx fun h' t2 tk' k e => ?_
  have eu : upd H a (exo a C none) = H := by
    funext b
    by_cases hb : b = a
    · rw [hb, upd_same, ha]
    · rw [upd_ne hb]
  have I1 := I0.write (t' := tk') (x := a) (e := a) (o := exo a C none) (by rw [ha]; exact True.intro) (.inl rfl) k ⟨_, e⟩ (exo_ok e)
  rw [eu] at I1
  refine wpAt_of_wpAny (wpAny_mono (ht.run [] _ _ H _ I1 hq) (fun fl s' hs => ?_) fun e s' hs => hs)
  have fin : ∀ {σ' : L2.St} {H' : Hp} {v : V} {u : Value}, Inv (cxSup P w K mg base N (ksEnv qual scope s.heap.objs.size f (.ref cda) cc) A outer s H E) [] σ' H' s' → RelV v u → Q v H' → CE outer P w H s Q u s' :=
    fun {σ' H' v u} J rv q => ⟨v, H', J.os, J.bare, J.base, J.hok, rv, q⟩
  cases fl with
  | ret u =>
    obtain ⟨v, σ', H', J, rv, q⟩ := hs
    exact fin J rv q
  | next =>
    obtain ⟨σ', H', J, q⟩ := hs
    exact fin (v := V.non) (u := Value.none) J rfl q
  | brk => obtain ⟨_, _, _, q⟩ := hs; exact q.elim
  | cont => obtain ⟨_, _, _, q⟩ := hs; exact q.elim
end
end TL
/-! T21: the fields of an own exception, raise -/
namespace TL
open PySem PySem.Spec PyProof.Rows L2 PySem.W

/-- self.f = p, .. -/
inductive Flds (N : List Str) (me : Str) : List Stmt → List (Str × Nat) → Prop
  | nil : Flds N me [] []
  | cons {f p : Str} {i : Nat} {p1 p2 p3 pos : Pos} {r : List Stmt} {l : List (Str × Nat)} (h : N[i]? = some p) (h1 : (p == ("__debug__" : Str)) = false) (h2 : (p == ("__classdict__" : Str)) = false) (hr : Flds N me r l) :
      Flds N me (.Assign [.Attribute (.Name me p1) f p2] (.Name p p3) pos :: r) ((f, i) :: l)
def tFl (K : Frag) : List (Str × Nat) → TS
  | [] => tNext
  | (f, i) :: l => tSeq (tOst K f (tVar 0) (tVar i)) (tFl K l)
theorem flds_pss {X : Cx} {me : Str} {st : List Stmt} {l : List (Str × Nat)} (h : Flds X.N me st l) (h0 : X.N[0]? = some me) (hm1 : (me == ("__debug__" : Str)) = false) (hm2 : (me == ("__classdict__" : Str)) = false) (hv : ∀ q ∈ l, ∀ y, X.N[q.2]? = some y → Vis X.env.scope y)
    (hv0 : Vis X.env.scope me) : PSs X st (tFl X.K l) := by
  induction h with
  | nil => exact pss_nil
  | @cons f p i p1 p2 p3 pos r l h h1 h2 r' ih =>
    refine pss_cons (ps_ost (pe_var h0 hv0 hm1 hm2) (pe_var h (hv _ List.mem_cons_self p h) h1 h2) (by rfl)) (ih fun q hq => hv q (List.mem_cons_of_mem _ hq))
/-- what C's __init__ does -/
def spI (C : Addr) (names : List Str) : Sp := fun vs H Q _ => ∃ (a : Addr) (ws : List V), vs = .ref a :: ws ∧ ws.length = names.length ∧ H a = some (exo a C none) ∧
  ∀ d, H d = none → d ≠ a → Q .non (upd (upd H d (exd d (names.zip ws).reverse)) a (exo a C (some d)))
theorem fl_more {K : Frag} {C a d : Addr} {D : Ends} {σ : L2.St} (T : OexC K C) (hda : d ≠ a) (h0 : σ[0]? = some (some (.ref a))) : ∀ {l : List (Str × Nat)} {ws : List V} {fs : List (Str × V)} {H : Hp}, l.length = ws.length →
    (∀ (k : Nat) (q : Str × Nat), l[k]? = some q → σ[q.2]? = some (ws[k]?)) → (∀ q ∈ l, findIn K (.ref C) q.1 = some none) → H a = some (exo a C (some d)) → H d = some (exd d fs) → fs.length + l.length ≤ 900 →
    D.nx σ (upd H d (exd d (((l.map (·.1)).zip ws).reverse ++ fs))) → tFl K l D σ H
  | [], ws, fs, H, hl, hs, hf, ha, hd, hz, hq => by
    have e : ws = [] := List.length_eq_zero_iff.mp hl.symm
    subst e
    have : upd H d (exd d fs) = H := by
      funext b
      by_cases hb : b = d
      · rw [hb, upd_same, hd]
      · rw [upd_ne hb]
    simp only [List.map_nil, List.zip_nil_left, List.reverse_nil, List.nil_append] at hq
    rw [this] at hq
    exact hq
  | (f, i) :: l, [], _, _, hl, _, _, _, _, _, _ => by simp at hl
  | (f, i) :: l, w :: ws, fs, H, hl, hs, hf, ha, hd, hz, hq => by
    simp only [List.length_cons] at hz hl
    refine ⟨w, hs 0 (f, i) rfl, .ref a, h0, a, C, rfl, T, hf (f, i) List.mem_cons_self, .inr ⟨d, fs, ha, hd, by omega, ?_⟩⟩
    refine fl_more (d := d) (ws := ws) (fs := (f, w) :: fs) T hda h0 (by omega) (fun k q e => hs (k + 1) q e) (fun q m => hf q (List.mem_cons_of_mem _ m)) (by rw [upd_ne hda.symm]; exact ha) upd_same (by simp only [List.length_cons]; omega) ?_
    have e : upd (upd H d (exd d ((f, w) :: fs))) d (exd d (((l.map (·.1)).zip ws).reverse ++ (f, w) :: fs)) = upd H d (exd d (((((f, i) :: l).map (·.1)).zip (w :: ws)).reverse ++ fs)) := by
      funext b
      by_cases hb : b = d
      · rw [hb, upd_same, upd_same]
        simp
      · rw [upd_ne hb, upd_ne hb, upd_ne hb]
    rw [e]
    exact hq
theorem fl_all {K : Frag} {C a : Addr} {D : Ends} {σ : L2.St} {H : Hp} {f : Str} {i : Nat} {l : List (Str × Nat)} {ws : List V} (T : OexC K C) (h0 : σ[0]? = some (some (.ref a))) (hl : ((f, i) :: l).length = ws.length)
    (hs : ∀ (k : Nat) (q : Str × Nat), ((f, i) :: l)[k]? = some q → σ[q.2]? = some (ws[k]?)) (hf : ∀ q ∈ (f, i) :: l, findIn K (.ref C) q.1 = some none) (ha : H a = some (exo a C none)) (hz : l.length ≤ 800)
    (hq : ∀ d, H d = none → d ≠ a → D.nx σ (upd (upd H d (exd d ((((f, i) :: l).map (·.1)).zip ws).reverse)) a (exo a C (some d)))) : tFl K ((f, i) :: l) D σ H := by
  cases ws with
  | nil => simp at hl
  | cons w ws =>
    refine ⟨w, hs 0 (f, i) rfl, .ref a, h0, a, C, rfl, T, hf (f, i) List.mem_cons_self, .inl ⟨ha, fun d hd hda => ?_⟩⟩
    refine fl_more (d := d) (ws := ws) (fs := [(f, w)]) T hda h0 (by simpa using hl) (fun k q e => hs (k + 1) q e) (fun q m => hf q (List.mem_cons_of_mem _ m)) upd_same (by rw [upd_ne hda, upd_same]) (by simp only [List.length_cons, List.length_nil]; omega) ?_
    have e : upd (upd (upd H d (exd d [(f, w)])) a (exo a C (some d))) d (exd d (((l.map (·.1)).zip ws).reverse ++ [(f, w)])) = upd (upd H d (exd d ((((f, i) :: l).map (·.1)).zip (w :: ws)).reverse)) a (exo a C (some d)) := by
      funext b
      by_cases hb : b = d
      · rw [hb, upd_same, upd_ne hda, upd_same]
        simp
      · by_cases hb2 : b = a
        · rw [upd_ne hb, hb2, upd_same, upd_same]
        · rw [upd_ne hb, upd_ne hb2, upd_ne hb, upd_ne hb2, upd_ne hb]
    rw [e]
    exact hq d hd hda
open PySem.Calls in
/-- C's __init__ keeps its promise -/
theorem fn_init {P : Program} {w : World} {K : Frag} {mg : Str → Option Value} {base : Heap} {C fI : Addr} {name qual : Str} {params : Arguments} {body rest : List Stmt} {scope : Scope} {N ps : List Str} {me msg : Str} {fd : FuncData} {cdC : ClassData} {p0 p1 p2 p3 p4 p5 : Pos} {j k i : Nat} {f : Str} {l : List (Str × Nat)}
    (he : ∀ env : Env, eval (.Call (.Attribute (.Call (.Name "super" p0) [] [] p1) "__init__" p2) [.Constant (.str msg) j p3] [] p4) env = (do
      let ov ← attributeBase (.Call (.Name "super" p0) [] [] p1) "__init__" env (eval (.Call (.Name "super" p0) [] [] p1) env)
      standAt p2.atName
      let (f, first) ← holding [ov] (getMethod ov "__init__" (do return (← importBound (.Call (.Name "super" p0) [] [] p1) env).getD true))
      callWith p4 f first (backTo p4 (starEach [.Constant (.str msg) j p3] env)) []))
    (F1 : SupF P K C fI name qual params body scope N ps fd) (S : SupS scope params N ps me) (Cc : SupC P K C) (T : OexC K C) (hcd : clsIn K C = some cdC)
    (hbody : body = .Expr (.Call (.Attribute (.Call (.Name "super" p0) [] [] p1) "__init__" p2) [.Constant (.str msg) j p3] [] p4) p5 :: rest)
    (hfl : Flds N me rest ((f, i) :: l)) (hps : ps.length = ((f, i) :: l).length + 1) (hix : ∀ (k : Nat) (q : Str × Nat), ((f, i) :: l)[k]? = some q → q.2 = k + 1) (hz : l.length ≤ 800)
    (hm1 : (me == ("__debug__" : Str)) = false) (hm2 : (me == ("__classdict__" : Str)) = false) (hf : ∀ q ∈ (f, i) :: l, findIn K (.ref C) q.1 = some none) :
    FnOk P w K mg base (L2N.CX P w) (k + 1) fI fd ps (spI C (((f, i) :: l).map (·.1))) := by
  refine fn_super he F1 S Cc T hcd hbody (fun vs H Q E h => ?_) (fun vs H Q E h => ?_) fun env A outer s H vs Q E hsc h => ?_
  · obtain ⟨a, ws, rfl, hl, _⟩ := h
    rw [List.length_map] at hl
    rw [List.length_cons, hl, hps]
  · obtain ⟨a, ws, rfl, hl, ha, _⟩ := h
    exact ⟨a, ws, rfl, ha⟩
  · obtain ⟨a, ws, rfl, hl, ha, hq⟩ := h
    rw [List.length_map] at hl
    have hN0 : N[0]? = some me := by
      have := S.ps0
      rw [← S.pre, List.getElem?_take] at this
      split at this
      · exact this
      · cases this
    have hlen : (V.ref a :: ws).length ≤ N.length := by
      have := congrArg List.length S.pre
      rw [List.length_take] at this
      simp only [List.length_cons] at hps hl ⊢
      omega
    have hst : ∀ (k : Nat), k < (V.ref a :: ws).length → (L2.start N (V.ref a :: ws))[k]? = some ((V.ref a :: ws)[k]?) := fun k hk => by
      unfold L2.start
      rw [List.getElem?_append_left (by rw [List.length_map]; exact hk), List.getElem?_map, List.getElem?_eq_getElem hk]
      rfl
    have hvis : ∀ k y, k < ps.length → N[k]? = some y → Vis env.scope y := fun k y hk e => by
      rw [hsc]
      refine .inl (S.par y ?_)
      have : ps[k]? = some y := by rw [← S.pre, List.getElem?_take, if_pos hk]; exact e
      exact List.mem_of_getElem? this
    refine ⟨_, flds_pss hfl hN0 hm1 hm2 (fun q hq y e => ?_) (hvis 0 me (by rw [hps]; simp) hN0), fl_all T (hst 0 (by simp)) hl.symm (fun k q e => ?_) hf ha hz fun d hd hda => hq d hd hda⟩
    · obtain ⟨k, hk⟩ := List.getElem?_of_mem hq
      have h1 := hix k q hk
      have h2 := (List.getElem?_eq_some_iff.mp hk).1
      exact hvis q.2 y (by rw [hps, h1]; omega) e
    · have h1 := hix k q e
      have h2 := (List.getElem?_eq_some_iff.mp e).1
      rw [h1, hst (k + 1) (by rw [List.length_cons, hl]; omega)]
      rfl

/-! ### raise -/
mutual
theorem RepD.valK {K K' : KX} {O O' : Addr → Prop} {H : Hp} : ∀ {d : D} {v : V} {os : List Addr}, RepD K O H d v os → d.val = true → RepD K' O' H d v []
  | _, _, _, .non, _ => .non
  | _, _, _, .bl b, _ => .bl b
  | _, _, _, .int b, _ => .int b
  | _, _, _, .str b, _ => .str b
  | _, _, _, .tup h r, c => .tup h (RepL.valK r c)
  | _, _, _, .lstF _ _ _, c => nomatch c
  | _, _, _, .lstO _ _, c => nomatch c
  | _, _, _, .kl _ _, c => nomatch c
  | _, _, _, .kt _ _, c => nomatch c
  | _, _, _, .xr0 _ _, c => nomatch c
  | _, _, _, .xr1 _ _ _ _, c => nomatch c
  | _, _, _, .dkF _ _ _, c => nomatch c
  | _, _, _, .dkO _ _, c => nomatch c
  | _, _, _, .dtF _ _ _, c => nomatch c
  | _, _, _, .dtO _ _, c => nomatch c
  | _, _, _, .insF _ _ _ _, c => nomatch c
  | _, _, _, .insO _ _ _, c => nomatch c
theorem RepL.valK {K K' : KX} {O O' : Addr → Prop} {H : Hp} : ∀ {d : List D} {v : List V} {os : List Addr}, RepL K O H d v os → valL d = true → RepL K' O' H d v []
  | _, _, _, .nil, _ => .nil
  | _, _, _, .cons h r, c => .cons (o1 := []) (RepD.valK h (Bool.and_eq_true_iff.mp c).1) (RepL.valK r (Bool.and_eq_true_iff.mp c).2)
end
/-- the written part of a raise -/
structure Exc1 (P : Program) (w : World) (K : Frag) (mg : Str → Option Value) (base : Heap) (x : Str) (names : List Str) (k : Nat) : Prop where
  ex : ∃ (C fI : Addr) (fd : FuncData) (ps : List Str), mg x = some (.ref C) ∧ exV K x = .ref C ∧ OexC K C ∧ findIn K (.ref C) "__init__" = some (some (.ref fI)) ∧ typeIn K (.ref fI) = some (.type "function") ∧ L2.Binds K fd ps [] ∧ FnOk P w K mg base (L2N.CX P w) k fI fd ps (spI C names)
/-- C(e, ..), C's own __init__ keeping sp; its context is None -/
theorem pmk_oexN {X : Cx} {e : Expr} {es : List Expr} {ta : TA} {p pos : Pos} {CX : CXT} {x : Str} {C fI : Addr} {k : Nat} {fd : FuncData} {ps : List Str} {sp : Sp} {ds : List Value} {dvs : List V} (T : OexC X.K C) (iC : findIn X.K (.ref C) "__init__" = some (some (.ref fI))) (tI : typeIn X.K (.ref fI) = some (.type "function"))
    (F1 : FnOk X.prog X.w X.K X.mg X.base CX k fI fd ps sp) (hr : Room (k + 1) X.A) (hb : L2.Binds X.K fd ps ds) (hd : Vals dvs ds) (hx : Passes CX X (fun _ _ _ => False)) (hg : Gl X x) (hm : X.mg x = some (.ref C)) (ha : PA X (e :: es) ta)
    (hdb : (x == ("__debug__" : Str)) = false := by decide) (he : starEach (e :: es) X.env = (false, eval e X.env) :: starEach es X.env := by rfl) (hpl : (backTo pos (starEach es X.env)).any (·.1) = false := by rfl) :
    L2N.PMk X (.Call (.Name x p) (e :: es) [] pos) (tMkO C sp dvs ta) := by
  intro pins s σ H Q I h
  obtain ⟨nm, q, N, bs, bm, sn, sub, ab, col, dd, k0, k1, k2, k3, k5, hC, hbm⟩ := T.cls
  refine wpAny_Call_Name_kw (ld_glob I hg hm ?_ hdb)
  refine callWith_K (h₀ := X.base) I.ok.mod.kin T.kC (thn (ha.run pos pins s σ H _ I h) fun us s1 ⟨vs, H1, I1, r1, hz, q1⟩ => ⟨I1.kIn, ?_⟩) he hpl
  show wpAny _ _ (call (.ref C) us) _ _ _
  obtain ⟨hp, g, dr, tk, os⟩ := s1
  have hsz : hp.objs.size ≤ hp.objs.size + 1 := Nat.le_succ _
  have hn : H1 (hp.objs.size + 1) = none := I1.hok.fresh hsz
  have hq := q1 (hp.objs.size + 1) hn
  have kk : ∀ b o, hp.get? b = some o → ((hp.push (kdv_tup us)).push (HandSPX.excO C hp.objs.size)).get? b = some o := fun b o e => Heap.get?_push_of_some _ (Heap.get?_push_of_some _ e)
  have hget : ((hp.push (kdv_tup us)).push (HandSPX.excO C hp.objs.size)).get? (hp.objs.size + 1) = some (HandSPX.excO C hp.objs.size) := by heap_get
  have I2 : Inv X pins σ (upd H1 (hp.objs.size + 1) (exo (hp.objs.size + 1) C none)) ⟨(hp.push (kdv_tup us)).push (HandSPX.excO C hp.objs.size), g, dr, tk, os⟩ :=
    I1.laid (t' := tk) (a := hp.objs.size + 1) (o := exo (hp.objs.size + 1) C none) (h' := (hp.push (kdv_tup us)).push (HandSPX.excO C hp.objs.size)) kk hsz (exo_ok hget)
  have r2 : Vals (V.ref (hp.objs.size + 1) :: (vs ++ dvs)) (Value.ref (hp.objs.size + 1) :: (us ++ ds)) := .cons rfl (r1.append hd)
  have hl : (Value.ref (hp.objs.size + 1) :: us ++ ds).length = ps.length := by
    have e := r2.length
    rw [F1.len _ _ _ _ hq] at e
    exact e.symm
  have hus : us.length ≤ sizeLine := by
    rw [← Paired.length r1, sizeLine_eq]
    omega
  refine wpAny_call (HandSPX.call_own PySem.F.excBase_ValueError (fun Y => HandSPX.refsVE_contains Y bm hbm) (I1.kIn _ _ hC) (looks_findIn I1.kIn iC) (fun self => bind_fn I1.kIn self tI) hus
    (codeAny_mono (F1.run _ X.stack _ _ ⟨Value.ref (hp.objs.size + 1) :: us, []⟩ (Value.ref (hp.objs.size + 1) :: (us ++ ds)) _ _ (fun _ _ _ => False) (hr.make C us []) (I2.env0.make C us []) (hb _ (Value.ref (hp.objs.size + 1) :: us) I2.kIn hl) r2 hq) fun r s' hq' => ?_))
  cases r with
  | error er => exact hx pins σ _ _ er s' I2 hq'
  | ok fl =>
    cases fl with
    | ret u =>
      obtain ⟨v, H2, os2, bare2, un2, hok2, rv, ev, d, fs, ea, ed, hd1, q2⟩ := hq'
      subst ev
      obtain ⟨h2, g2, d2, t2, os'⟩ := s'
      obtain ⟨t0, G, J, kG, ge, hoe, na⟩ := mk_end0 (d2 := d2) (t2 := t2) I1 hsz kk un2 hok2 os2 bare2 ea ed hd1
      refine ⟨rv, _, _, _, ⟨G, g2, d2, t2, os'⟩, _, .ref C, some d, rfl, J, kG, ge, hoe, ⟨rfl, rfl, fun vs e => ?_⟩, rfl, rfl, na, rfl, bare2, raises_own T.exC T.tyC, q2⟩
      cases e
      rfl
    | next => exact False.elim hq'
    | brk => exact False.elim hq'
    | cont => exact False.elim hq'
def sRaise (x : Str) (names : List Str) (fa : En → R (List D)) : En → Out := fun ρ => lift (fa ρ) ρ fun ds => if valL ds && (ds.length == names.length && decide (names.length ≤ 1000)) then .exc ρ x (names.zip ds).reverse else .stuck
theorem repF_zip {K : KX} {O : Addr → Prop} {H : Hp} : ∀ {names : List Str} {ds : List D} {vs : List V}, RepL K O H ds vs [] → RepF K O H (names.zip ds) (names.zip vs) []
  | [], _, _, _ => by simpa using RepF.nil
  | _ :: _, [], _, r => by
    cases r
    simpa using RepF.nil
  | n :: names, d :: ds, v :: vs, r => by
    generalize e : ([] : List Addr) = os at r
    cases r with
    | cons h r =>
      rename_i o1 o2
      have := List.append_eq_nil_iff.mp e.symm
      obtain ⟨rfl, rfl⟩ := this
      rw [List.zip_cons_cons, List.zip_cons_cons]
      exact .cons (o1 := []) h (repF_zip r)
theorem repF_snoc {K : KX} {O : Addr → Prop} {H : Hp} {n : Str} {d : D} {v : V} (h : RepD K O H d v []) : ∀ {fs : List (Str × D)} {vs : List (Str × V)}, RepF K O H fs vs [] → RepF K O H (fs ++ [(n, d)]) (vs ++ [(n, v)]) []
  | [], _, r => by
    cases r
    exact .cons (o1 := []) h .nil
  | (m, e) :: fs, _, r => by
    generalize eo : ([] : List Addr) = os at r
    cases r with
    | cons h1 r1 =>
      rename_i o1 o2 _ _
      obtain ⟨rfl, rfl⟩ := List.append_eq_nil_iff.mp eo.symm
      exact .cons (o1 := []) h1 (repF_snoc h r1)
theorem repF_rev {K : KX} {O : Addr → Prop} {H : Hp} : ∀ {fs : List (Str × D)} {vs : List (Str × V)}, RepF K O H fs vs [] → RepF K O H fs.reverse vs.reverse []
  | [], _, r => by
    cases r
    exact .nil
  | (m, e) :: fs, _, r => by
    generalize eo : ([] : List Addr) = os at r
    cases r with
    | cons h1 r1 =>
      rename_i o1 o2 _ _
      obtain ⟨rfl, rfl⟩ := List.append_eq_nil_iff.mp eo.symm
      rw [List.reverse_cons, List.reverse_cons]
      exact repF_snoc h1 (repF_rev r1)
section
variable {X : CY} {W : WX} {S : List Nat} {x : Str} {names : List Str} {k : Nat} {p pos pos' : Pos} {e : Expr} {es : List Expr} {fa : En → R (List D)}
theorem ds_raise (hc : X.calm = true) (tk : L2N.Takes X W) (E : Exc1 X.prog X.w X.K X.mg X.base x names k) (hr : Room (k + 1) X.A) (ha : DA X W S (e :: es) fa) (hg : Gl X x := by rfl)
    (hdb : (x == ("__debug__" : Str)) = false := by decide) (he : starEach (e :: es) X.env = (false, eval e X.env) :: starEach es X.env := by rfl) (hpl : (backTo pos (starEach es X.env)).any (·.1) = false := by rfl) :
    DS X W (.Raise (some (.Call (.Name x p) (e :: es) [] pos)) none pos') (sRaise x names fa) := by
  obtain ⟨C, fI, fd, ps, hm, hv, T, iC, tI, hb, F⟩ := E.ex
  refine ⟨(L2N.ps_raise hc tk (pmk_oexN T iC tI F hr hb .nil (fun _ _ _ _ _ _ _ ⟨_, _, _, _, _, _, _, _, _, _, _, _, z⟩ => z.elim) hg hm ha.pa hdb he hpl)).imp fun Ds σ H ⟨ρ, ow, B, s, h⟩ => ?_⟩
  refine ⟨ρ, ow, B, s, ?_⟩
  unfold sRaise at h
  cases ea : fa ρ with
  | stuck => rw [ea] at h; exact h
  | exc c fs => rw [ea] at h; exact fun cls dd H' q x => h σ H' ow cls dd (s.same q) (Ch.same q) x
  | ok ds =>
    rw [ea, lift_ok] at h
    split at h
    · rename_i hc2
      obtain ⟨hval, hc2⟩ := Bool.and_eq_true_iff.mp hc2
      obtain ⟨hlen, hz⟩ := Bool.and_eq_true_iff.mp hc2
      have hlen : ds.length = names.length := beq_iff_eq.mp hlen
      have hz : names.length ≤ 1000 := of_decide_eq_true hz
      intro vs H1 os q r nd nw
      have r0 : ∀ O, RepL (k0 X.K) O H1 ds vs [] := fun O => r.valK hval
      have hvl : vs.length = names.length := by rw [← r.length, hlen]
      refine ⟨by rw [hvl]; exact hz, fun a ha1 => ⟨a, vs ++ [], rfl, by rw [List.append_nil, hvl], upd_same, fun d hd hda => ⟨rfl, d, _, upd_same, by rw [upd_ne hda]; exact upd_same, ?_, ?_⟩⟩⟩
      · rw [upd_ne hda] at hd
        exact hd
      · have hd1 : H1 d = none := by rw [upd_ne hda] at hd; exact hd
        rw [List.append_nil]
        have eH : upd (del (upd (upd (upd H1 a (exo a C none)) d (exd d (names.zip vs).reverse)) a (exo a C (some d))) a) d (.xd (names.zip vs).reverse) = upd H1 d (.xd (names.zip vs).reverse) := by
          funext b
          by_cases hb : b = d
          · rw [hb, upd_same, upd_same]
          · rw [upd_ne hb, upd_ne hb]
            by_cases hb2 : b = a
            · rw [hb2, del_same, ha1]
            · rw [del_ne hb2, upd_ne hb2, upd_ne hb, upd_ne hb2]
        rw [eH]
        have sm : Same H1 (upd H1 d (.xd (names.zip vs).reverse)) := fun b u e => by rw [upd_ne (ne_of_none e hd1)]; exact e
        refine h σ _ ow (.ref C) (some d) (s.same (q.trans sm)) (Ch.same (q.trans sm)) ⟨hv.symm, .inr ⟨d, _, rfl, upd_same, ?_⟩⟩
        exact fun O => repF_rev (repF_zip ((r0 O).keep (fun a o e z => z) (Kept.of_same sm _)))
    · exact h.elim
end
end TL
/-! T22: try with several clauses, each with or without a name -/
namespace TL
open PySem PySem.Spec PyProof.Rows L2 PySem.W

abbrev TH := Addr → Value → Option Addr → TS
/-- what the clauses wish of an exception of the body, one after the other -/
def wG (K : Frag) (Wout : WX) (D : Ends) : List (Value × Option Nat × TH) → WX
  | [] => Wout
  | (c, nm, ts) :: r => fun cls d σ H => ∃ b, exmOne K cls c = some b ∧ (b = true → ∀ a, H a = none → match nm with
      | none => ts a cls d D σ H
      | some i => ts a cls d { nx := fun σ' H' => D.nx (σ'.set i none) H', rt := D.rt, bk := fun σ' H' => D.bk (σ'.set i none) H', ct := fun σ' H' => D.ct (σ'.set i none) H' } (σ.set i (some (.ref a))) H) ∧
      (b = false → wG K Wout D r cls d σ H)
inductive HdsG (X : Cx) : List ExceptHandler → List (Value × Option Nat × TH) → Prop
  | nil : HdsG X [] []
  | cons {x : Str} {c : Value} {ts : TH} {b₀ : Stmt} {suite : List Stmt} {np pos' : Pos} {hds : List ExceptHandler} {l : List (Value × Option Nat × TH)} (hc : Names X x c)
      (hsu : ∀ (a : Addr) (oe : Obj) (cls : Value) (d : Option Addr) (pn : List (Addr × Obj)), L2N.Zn cls d oe → (∃ vs, oe.data = .fields vs) → PSs (X.suite a ((a, oe) :: pn)) (b₀ :: suite) (ts a cls d)) (r : HdsG X hds l) :
      HdsG X (.ExceptHandler (some (.Name x np)) none (b₀ :: suite) pos' :: hds) ((c, none, ts) :: l)
  | as {x n : Str} {i : Nat} {c : Value} {ts : TH} {b₀ : Stmt} {suite : List Stmt} {np pos' : Pos} {hds : List ExceptHandler} {l : List (Value × Option Nat × TH)} (hc : Names X x c) (hi : X.N[i]? = some n) (hln : X.env.kindOf n = some .local)
      (hsu : ∀ (a : Addr) (oe : Obj) (cls : Value) (d : Option Addr) (pn : List (Addr × Obj)), L2N.Zn cls d oe → (∃ vs, oe.data = .fields vs) → PSs (X.suite a ((a, oe) :: pn)) (b₀ :: suite) (ts a cls d)) (r : HdsG X hds l) :
      HdsG X (.ExceptHandler (some (.Name x np)) (some n) (b₀ :: suite) pos' :: hds) ((c, some i, ts) :: l)
section
variable {X : Cx} {body : List Stmt} {h₀ : ExceptHandler} {hds : List ExceptHandler} {l : List (Value × Option Nat × TH)} {pos : Pos} {tb : WX → TS} {Wout : WX}
theorem ps_try_g (hs : X.stack = X.env :: X.outer) (hf : X.env.frame = some X.env.locals) (hN : X.N.Nodup) (tk : L2N.Takes X Wout)
    (hb : ∀ (W : WX) (pn : List (Addr × Obj)) (xe : Value → Shared → Prop), (∀ q ∈ X.pn, q ∈ pn) → L2N.Takes (X.tr pn xe) W → PassesOwn (model X.prog X.w) X.A X.env xe → PSs (X.tr pn xe) body (tb W))
    (hh : HdsG X (h₀ :: hds) l) : PS X (.Try body (h₀ :: hds) [] [] pos) (fun D σ H => tb (wG X.K Wout D l) D σ H) := by
  refine ⟨fun pins s σ H D I h => ?_⟩
  have ok := I.ok
  have hfr : X.A.frames = some (X.env :: X.outer) := by rw [ok.frames, hs]
  refine wpAny_Try_except ?_
  refine wpAny_mono ((hb (wG X.K Wout D l) (X.pn ++ pins) (fun e s₁ => wpAny (model X.prog X.w) X.A (noteFrame e X.env) (fun _ s₂ => wpAny (model X.prog X.w) X.A (setFlight e none) (fun _ s₃ =>
    wpAny (model X.prog X.w) X.A (handleBy e X.env (h₀ :: hds)) (SP X pins D) X.xe s₃) X.xe s₂) X.xe s₁) (fun q hq => List.mem_append_left _ hq) (fun u s' xx => ?_) PassesOwn.looking).run [] s σ H D (I.toTry _) h) (fun f s1 hsp => ?_) (fun e s1 he => he)
  · obtain ⟨a, B, sI, pins', σ', H', cls, d, rfl, J', nb, up, sky, na, os, ag, w⟩ := xx
    have J : Inv X pins σ' H' sI := J'.ofTry ok
    have sky' : Sky B (X.env :: X.outer) a (L2N.Zn cls d) X.env.locals s'.heap := by rw [← hs]; exact sky
    show wpAny (model X.prog X.w) X.A (noteFrame (.ref a) X.env) _ _ _
    refine L2N.Sky.land L2N.Zn.steady hfr hf sky' fun h3 fl3 up3 => ?_
    have J3 : Inv X pins σ' H' { s' with heap := h3 } := J.landed nb fl3.1 (up.trans up3) os ag
    obtain ⟨oe3, vs3, he3, hz3, hd3⟩ := fl3.there
    have nfr : a ∉ frs (X.env :: X.outer) := fun hm => by
      obtain ⟨_, o', e', hnf⟩ := fl3.2.2.1.mem hm
      rw [he3] at e'; cases e'
      exact hnf _ hd3
    have nL : a ≠ X.env.locals := fun z => nfr (List.mem_filterMap.mpr ⟨X.env, List.mem_cons_self, by rw [hf, z]⟩)
    have nF : a ∉ X.fs := fun hm => by
      obtain ⟨e, he, q⟩ := List.mem_filterMap.mp hm
      exact nfr (List.mem_filterMap.mpr ⟨e, List.mem_cons_of_mem _ he, q⟩)
    have S3 := J3.suite he3 hd3 na nL nF
    have LT : Looks (model X.prog X.w) h3 (typeOf (.ref a)) cls := fun A Q E s k q => wpAny_typeOf_ref (k _ _ he3) (by rw [hz3.1]; exact q)
    have test : ∀ {x : Str} {np : Pos} {c : Value} (hc : Names X x c) {Q : Value → Shared → Prop} {E : Value → Shared → Prop}, Q c { s' with heap := h3 } → wpAny (model X.prog X.w) (X.A.mark (some (.ref a))) (eval (.Name x np) X.env) Q E { s' with heap := h3 } := fun {x np c} hc {Q E} q => by
      obtain ⟨hg, hdbg, hm | ⟨hm, hv, hnn⟩⟩ := hc
      · exact ld_glob (X := X.suite a ((a, oe3) :: (X.pn ++ pins))) S3 hg hm q hdbg
      · exact ld_blt (X := X.suite a ((a, oe3) :: (X.pn ++ pins))) S3 hg hm hv q hnn hdbg
    have go : ∀ {hds' : List ExceptHandler} {l' : List (Value × Option Nat × TH)}, HdsG X hds' l' → wG X.K Wout D l' cls d σ' H' →
        wpAny (model X.prog X.w) X.A (handleBy (.ref a) X.env hds') (SP X pins D) X.xe { s' with heap := h3 } := by
      intro hds' l' hk
      induction hk with
      | nil =>
        intro w
        refine wpAny_handleBy_nil ?_
        obtain ⟨k1, k2, k3, oe, vs, T, oT, ts', he, hz, hd, h1, hr⟩ := id fl3
        unfold PySem.passOn
        refine wpAny_bind (wpAny_field he hd h1 ?_)
        rw [if_neg (show ¬ ((Value.ref T == Value.none) = true) from by simp)]
        have fin : wpAny (model X.prog X.w) X.A (setFlight (.ref a) X.env.frame) (fun _ s4 => wpAny (model X.prog X.w) X.A (throw (.ref a) : Sem Flow) (SP X pins D) X.xe s4) X.xe { s' with heap := h3 } := by
          rw [hf]
          refine HandSPX.setFlight_upZ fl3 fun h4 hh4 up4 => wpAny_throw (tk _ _ ?_)
          exact ⟨a, B, sI, pins, σ', H', cls, d, rfl, J, nb, (up.trans up3).trans up4, .inr (.inr (by rw [hs]; exact hh4)), na, os, ag, w⟩
        first
          | exact wpAny_bind (wpAny_pure (wpAny_bind fin))
          | exact wpAny_bind fin
      | @cons x c ts b₀ suite np pos' hds2 l2 hc hsu r ih =>
        intro w
        obtain ⟨b, hb1, hyes, hno⟩ := w
        refine wpAny_handleBy_cons (codeAny_handlers_test ?_) (by intro q; cases q)
        have LM := exm_one (M := model X.prog X.w) (J3.kIn) LT hb1
        refine test hc (LM.here ?_)
        cases b with
        | true =>
          refine codeAny_handlers_suite ?_
          refine HandSPX.lands_againZ fl3 fun h4 fl4 up4 => ?_
          have J4 : Inv X pins σ' H' { s' with heap := h4 } := J.landed nb fl4.1 ((up.trans up3).trans up4) os ag
          obtain ⟨oe4, vs4, he4, hz4, hd4⟩ := fl4.there
          have S4 := J4.suite he4 hd4 na nL nF
          refine wpAny_mono ((hsu a oe4 cls d (X.pn ++ pins) hz4 ⟨_, hd4⟩).run [] _ _ H' _ S4 (hyes rfl a na)) (fun f s6 hsp => ?_) (fun _ _ z => False.elim z)
          cases f with
          | next =>
            obtain ⟨σ6, H6, S6, q6⟩ := hsp
            exact ⟨_, _, S6.unsuite ok, q6⟩
          | brk =>
            obtain ⟨σ6, H6, S6, q6⟩ := hsp
            exact ⟨_, _, S6.unsuite ok, q6⟩
          | cont =>
            obtain ⟨σ6, H6, S6, q6⟩ := hsp
            exact ⟨_, _, S6.unsuite ok, q6⟩
          | ret u =>
            obtain ⟨v6, σ6, H6, S6, r6, q6⟩ := hsp
            exact ⟨_, _, _, S6.unsuite ok, r6, q6⟩
        | false =>
          show wpAny _ X.A (handleBy (.ref a) X.env hds2) _ _ _
          exact ih (hno rfl)
      | @as x n i c ts b₀ suite np pos' hds2 l2 hc hi hln hsu r ih =>
        intro w
        obtain ⟨b, hb1, hyes, hno⟩ := w
        have hloc : Loc X.env.scope n := .inl hln
        refine wpAny_handleBy_cons (codeAny_handlers_test ?_) (by intro q; cases q)
        have LM := exm_one (M := model X.prog X.w) (J3.kIn) LT hb1
        refine test hc (LM.here ?_)
        cases b with
        | true =>
          refine codeAny_handlers_suite_as ?_
          refine HandSPX.lands_againZ fl3 fun h4 fl4 up4 => ?_
          have J4 : Inv X pins σ' H' { s' with heap := h4 } := J.landed nb fl4.1 ((up.trans up3).trans up4) os ag
          obtain ⟨oe4, vs4, he4, hz4, hd4⟩ := fl4.there
          have S4 := J4.suite he4 hd4 na nL nF
          refine store_ok (X := X.suite a ((a, oe4) :: (X.pn ++ pins))) (v := .ref a) S4 hN hi hloc rfl (fun s5 S5 => ?_) (.inr hln)
          refine wpAny_mono ((hsu a oe4 cls d (X.pn ++ pins) hz4 ⟨_, hd4⟩).run [] s5 _ H' _ S5 (hyes rfl a na)) (fun f s6 hsp => ?_) (fun _ _ z => False.elim z)
          have end_ : ∀ {σ6 : L2.St} {H6 : Hp} {Q : Shared → Prop}, Inv (X.suite a ((a, oe4) :: (X.pn ++ pins))) [] σ6 H6 s6 → (∀ s7, Inv X pins (σ6.set i none) H6 s7 → Q s7) →
              wpAny (model X.prog X.w) X.A (do bindName X.env n .none; unbindBehindTheSuite X.env n pos') (fun _ s7 => Q s7) X.xe s6 := fun {σ6 H6 Q} S6 hq => gone_ok (S6.unsuite ok) hN hi hln hq
          cases f with
          | next =>
            obtain ⟨σ6, H6, S6, q6⟩ := hsp
            exact end_ S6 fun s7 J7 => ⟨_, _, J7, q6⟩
          | brk =>
            obtain ⟨σ6, H6, S6, q6⟩ := hsp
            exact end_ S6 fun s7 J7 => ⟨_, _, J7, q6⟩
          | cont =>
            obtain ⟨σ6, H6, S6, q6⟩ := hsp
            exact end_ S6 fun s7 J7 => ⟨_, _, J7, q6⟩
          | ret u =>
            obtain ⟨v6, σ6, H6, S6, r6, q6⟩ := hsp
            exact end_ S6 fun s7 J7 => ⟨_, _, _, J7, r6, q6⟩
        | false =>
          show wpAny _ X.A (handleBy (.ref a) X.env hds2) _ _ _
          exact ih (hno rfl)
    exact go hh w
  · cases f with
    | next =>
      obtain ⟨σ', H', J', q⟩ := hsp
      exact wpAny_execs_nil ⟨σ', H', J'.ofTry ok, q⟩
    | brk =>
      obtain ⟨σ', H', J', q⟩ := hsp
      exact ⟨σ', H', J'.ofTry ok, q⟩
    | cont =>
      obtain ⟨σ', H', J', q⟩ := hsp
      exact ⟨σ', H', J'.ofTry ok, q⟩
    | ret u =>
      obtain ⟨v, σ', H', J', r, q⟩ := hsp
      exact ⟨v, σ', H', J'.ofTry ok, r, q⟩
end
end TL
/-! T23: what an except suite asks of its exception -/
namespace TL
open PySem PySem.Spec PyProof.Rows L2 PySem.W

/-- C is X or stands below it (each class of the program's errors stands right below PlaneError) -/
def subX (C X : Str) : Bool := C == X || (X == "PlaneError" || X == "ValueError")
abbrev Errs := List (Str × List Str)
structure ErrC (K : Frag) (errs : Errs) (C : Str) (names : List Str) (c : Addr) : Prop where
  v : exV K C = .ref c
  xf : XfC K c
  ex : ExcC K c
  fl : ∀ n ∈ names, findIn K (.ref c) n = some none
  m : ∀ X ∈ errs.map (·.1), exmOne K (.ref c) (exV K X) = some (subX C X)
  k : ∀ X ∈ errs.map (·.1), kitOne K (.ref c) (exV K X) = some (subX C X)
  kv : kitOne K (.ref c) (.type "ValueError") = some true
structure ErrOk (K : Frag) (errs : Errs) : Prop where
  at_ : ∀ p ∈ errs, ∃ c, ErrC K errs p.1 p.2 c
def errB1 (K : Frag) (errs : Errs) (p : Str × List Str) : Bool := match exV K p.1 with
  | .ref c => xfB K c && (decide (findIn K (.ref c) "__class__" = some (some (.builtin "object.__class__"))) && (decide (specialIn K (.builtin "object.__class__") "__get__" = some (some (.builtin "getset_descriptor.__get__"))) &&
    (decide (takesIn K (.builtin "object.__class__") = some true) && (decide (mroIn K c (.type "object") = some true) && ((p.2.all fun n => decide (findIn K (.ref c) n = some none)) &&
    ((errs.all fun q => decide (exmOne K (.ref c) (exV K q.1) = some (subX p.1 q.1)) && decide (kitOne K (.ref c) (exV K q.1) = some (subX p.1 q.1))) && decide (kitOne K (.ref c) (.type "ValueError") = some true)))))))
  | _ => false
def errB (K : Frag) (errs : Errs) : Bool := errs.all (errB1 K errs)
theorem errB_ok {K : Frag} {errs : Errs} (h : errB K errs = true) : ErrOk K errs := ⟨fun p hp => by
  have h1 := List.all_eq_true.mp h p hp
  unfold errB1 at h1
  split at h1
  · rename_i c e
    simp only [Bool.and_eq_true, decide_eq_true_eq, List.all_eq_true] at h1
    obtain ⟨a1, a2, a3, a4, a5, a6, a7, a8⟩ := h1
    have xf := xfB_ok a1
    refine ⟨c, e, xf, ⟨xf.ga, xf.gg, xf.exC, xf.hdC, a2, a3, a4, a5⟩, a6, fun X hX => ?_, fun X hX => ?_, a8⟩
    · obtain ⟨q, hq, rfl⟩ := List.mem_map.mp hX
      exact (a7 q hq).1
    · obtain ⟨q, hq, rfl⟩ := List.mem_map.mp hX
      exact (a7 q hq).2
  · cases h1⟩
def isErr (errs : Errs) (C : Str) : Bool := (errs.map (·.1)).contains C
def hasF (errs : Errs) (C f : Str) : Bool := errs.any fun p => p.1 == C && p.2.contains f
theorem ErrOk.of_is {K : Frag} {errs : Errs} (E : ErrOk K errs) {C : Str} (h : isErr errs C = true) : ∃ names c, ErrC K errs C names c := by
  have h := List.contains_iff_mem.mp h
  obtain ⟨p, hp, rfl⟩ := List.mem_map.mp h
  exact ⟨_, E.at_ p hp⟩
theorem ErrOk.of_has {K : Frag} {errs : Errs} (E : ErrOk K errs) {C f : Str} (h : hasF errs C f = true) : ∃ names c, ErrC K errs C names c ∧ f ∈ names := by
  obtain ⟨p, hp, h⟩ := List.any_eq_true.mp h
  obtain ⟨h1, h2⟩ := Bool.and_eq_true_iff.mp h
  obtain ⟨c, hc⟩ := E.at_ p hp
  obtain rfl := beq_iff_eq.mp h1
  exact ⟨_, c, hc, List.contains_iff_mem.mp h2⟩
theorem isErr_mem {errs : Errs} {C : Str} (h : isErr errs C = true) : C ∈ errs.map (·.1) := List.contains_iff_mem.mp h

/-! ### e.f -/
def eXf (errs : Errs) (i : Nat) (f : Str) : En → R D := fun ρ => match ρ[i]? with
  | some (some (.xr C fs)) => if hasF errs C f then ofO (fs.lookup f) else .stuck
  | _ => .stuck
theorem eXf_cases (errs : Errs) (i : Nat) (f : Str) (ρ : En) : eXf errs i f ρ = .stuck ∨ ∃ C fs d, eXf errs i f ρ = .ok d ∧ ρ[i]? = some (some (.xr C fs)) ∧ hasF errs C f = true ∧ fs.lookup f = some d := by
  unfold eXf
  split
  · rename_i C fs eq
    split
    · rename_i hh
      cases q : fs.lookup f with
      | none => exact .inl rfl
      | some d => exact .inr ⟨C, fs, d, rfl, eq, hh, q⟩
    · exact .inl rfl
  · exact .inl rfl
theorem RepF.look {K : KX} {O : Addr → Prop} {H : Hp} {f : Str} {d : D} : ∀ {fs : List (Str × D)} {vs : List (Str × V)}, RepF K O H fs vs [] → fs.lookup f = some d → ∃ v, vs.lookup f = some v ∧ RepD K O H d v []
  | [], _, _, e => nomatch e
  | (k, x) :: fs, _, r, e => by
    generalize eo : ([] : List Addr) = os at r
    cases r with
    | cons h1 r1 =>
      rename_i v vs o1 o2
      obtain ⟨rfl, rfl⟩ := List.append_eq_nil_iff.mp eo.symm
      rw [List.lookup_cons] at e ⊢
      cases hk : f == k with
      | true => rw [hk] at e; cases e; exact ⟨v, rfl, h1⟩
      | false => rw [hk] at e; exact RepF.look r1 e
section
variable {X : Cx} {a : Addr} {oe : Obj} {cls : Value} {dd : Option Addr} {pn : List (Addr × Obj)} {xa : Option (Addr × Value × Option Addr)} {W : WX} {errs : Errs}
/-- the suite's context -/
abbrev sutY (X : Cx) (a : Addr) (cls : Value) (dd : Option Addr) (pn : List (Addr × Obj)) : CY := ⟨X.suite a pn, some (a, cls, dd)⟩
theorem de_xf (E : ErrOk X.K errs) (hz : Zc cls dd oe) (hf : ∃ vs, oe.data = .fields vs) (i : Nat) {n f : Str} {p pos : Pos} (hN : X.N[i]? = some n := by rfl) (hv : Vis X.env.scope n := by first | exact Or.inl rfl | exact Or.inr (Or.inl rfl) | exact Or.inr (Or.inr rfl))
    (hd : (n == ("__debug__" : Str)) = false := by decide) (hcd : (n == ("__classdict__" : Str)) = false := by decide)
    (hb : attributeBase (.Name n p) f X.env (eval (.Name n p) X.env) = eval (.Name n p) X.env := by rfl) : DE (sutY X a cls dd ((a, oe) :: pn)) W [] (.Attribute (.Name n p) f pos) (eXf errs i f) := by
  refine ⟨⟨fun pins s σ H Q I h => ?_⟩⟩
  obtain ⟨ρ, ow, B, st, h⟩ := h
  rcases eXf_cases errs i f ρ with e | ⟨C, fs, d, e, eq, hh, el⟩
  · rw [e] at h
    exact h.elim
  · rw [e] at h
    obtain ⟨names, c, Ec, hm⟩ := E.of_has hh
    obtain ⟨v, hv1, r⟩ := st.rep i _ eq
    generalize eo : ow i = os at r
    cases r with
    | xr0 h1 h2 => cases el
    | xr1 h1 h2 h3 r =>
      have h1' : some (a, cls, dd) = some _ := h1
      cases h1'
      have ec : cls = .ref c := h2.symm.trans Ec.v
      obtain ⟨w, hw, rw'⟩ := r.look el
      refine (pe_xf (X := X) (cls := cls) Ec.xf (Ec.fl f hm) hz hf (pe_var (i := i) hN hv hd hcd) hb).run pins s σ H Q I ⟨_, hv1, rfl, ec, _, _, w, rfl, h3, hw, ?_⟩
      exact h w H [] (Same.refl H) (rw'.keep (fun a o q z => by
        rcases z with ⟨j, z, _⟩ | z | z
        · exact .inl ⟨j, z⟩
        · exact .inr z
        · exact nomatch z) (Kept.of_same (Same.refl _) _)) List.nodup_nil fun _ z => nomatch z
/-! ### isinstance(e, C) -/
/-- the exception that the suite holds, and a class or a tuple of classes -/
def rIsX (K : Frag) (D a : Addr) (dd : Option Addr) : List V → Hp → VK → Prop := fun xs H Q => ∃ (c : V) (b : Bool), xs = [.ref a, c] ∧ (∀ d, dd = some d → ∃ vs, H d = some (.xd vs)) ∧
  ((∃ cv : Value, (∀ u, RelV c u → u = cv) ∧ kitOne K (.ref D) cv = some b) ∨ ∃ (p : Addr) (ws : List V) (cvs : List Value), c = .ref p ∧ H p = some (.tup ws) ∧ (∀ us, Vals ws us → us = cvs) ∧ kitAny K (.ref D) cvs = some b) ∧ Q (.bl b) H
theorem call_isX {D : Addr} (C : ExcC X.K D) (hz : Zc (.ref D) dd oe) (hf : ∃ vs, oe.data = .fields vs) : CallR (X.suite a ((a, oe) :: pn)) (.builtin "isinstance") (rIsX X.K D a dd) := by
  intro pins s σ H xs us Q I r h
  obtain ⟨c, b, rfl, hdd, e, q⟩ := h
  cases r with
  | cons rx rr =>
    cases rr with
    | cons rt rr =>
      cases rr
      cases rx
      obtain ⟨hget, _⟩ := I.pin (a, oe) (List.mem_append.mpr (.inl List.mem_cons_self))
      obtain ⟨vs, hv⟩ := hf
      obtain ⟨od, J⟩ : ∃ od, InstAt s.heap a oe D od := by
        cases hd : dd with
        | none => exact ⟨none, hget, hz.1, by unfold notCls; rw [hv] <;> rfl, by rw [hz.2, hd]; trivial⟩
        | some d =>
          obtain ⟨fs, hx⟩ := hdd d hd
          have hx : ObjOk X.prog X.w H s.heap d (.xd fs) := I.hok d _ hx
          obtain ⟨mA, hns, hr⟩ := hx
          obtain ⟨od, ho, hl⟩ := lookIn_ns hns
          exact ⟨some od, hget, hz.1, by unfold notCls; rw [hv] <;> rfl, by rw [hz.2, hd]; exact ho⟩
      obtain ⟨cd, hcl, _⟩ := any_some C.hd
      have Z : KitX X.K (.ref a) (.ref D) (fun h => InstAt h a oe D od) := kitx_exc (by rw [hcl]; rfl) C.hg C.hk C.hs C.ha C.hn C.ht C.hm
      rcases e with ⟨cv, hcv, e⟩ | ⟨p, ws, cvs, rfl, hp, hcvs, e⟩
      · have ec := hcv _ rt
        subst ec
        exact kia_one Z I.kIn J e (fun z => nomatch z) fun tk => ⟨.bl b, H, I.kept (t' := tk) fun _ _ z => z, rfl, q⟩
      · cases rt
        have hx : ObjOk X.prog X.w H s.heap p (.tup ws) := I.hok p _ hp
        obtain ⟨_, its, hvals, ⟨oc, od', oda, osl⟩, he, h1, n, h2⟩ := hx
        dsimp only at h1 h2
        subst h1 h2
        have ec := hcvs _ hvals
        subst ec
        exact kia_tup Z I.kIn J he e (fun z => nomatch z) fun tk => ⟨.bl b, H, I.kept (t' := tk) fun _ _ z => z, rfl, q⟩
def eIsX (errs : Errs) (i : Nat) (x : Str) : En → R D := fun ρ => match ρ[i]? with
  | some (some (.xr C _)) => if isErr errs C && (isErr errs x || x == "ValueError") then .ok (.bl (subX C x)) else .stuck
  | _ => .stuck
theorem eIsX_cases (errs : Errs) (i : Nat) (x : Str) (ρ : En) : eIsX errs i x ρ = .stuck ∨ ∃ C fs, eIsX errs i x ρ = .ok (.bl (subX C x)) ∧ ρ[i]? = some (some (.xr C fs)) ∧ isErr errs C = true ∧ (isErr errs x = true ∨ x = "ValueError") := by
  unfold eIsX
  split
  · rename_i C fs eq
    split
    · rename_i hh
      obtain ⟨h1, h2⟩ := Bool.and_eq_true_iff.mp hh
      exact .inr ⟨C, fs, rfl, eq, h1, (Bool.or_eq_true_iff.mp h2).imp id beq_iff_eq.mp⟩
    · exact .inl rfl
  · exact .inl rfl
/-- what the context says of a class's name -/
def ClsN (X : Cx) (x : Str) : Prop := (x ≠ "ValueError" ∧ X.mg x = some (exV X.K x) ∧ ∃ c, exV X.K x = .ref c) ∨ (x = "ValueError" ∧ X.mg x = none)
theorem xr_dd {K : KX} {O : Addr → Prop} {H : Hp} {C : Str} {fs : List (Str × D)} {v : V} {os : List Addr} (r : RepD K O H (.xr C fs) v os) : ∃ (a : Addr) (cls : Value) (dd : Option Addr), K.xa = some (a, cls, dd) ∧ v = .ref a ∧ exV K.fr C = cls ∧ ∀ d, dd = some d → ∃ vs, H d = some (.xd vs) := by
  cases r with
  | xr0 h hc => exact ⟨_, _, _, h, rfl, hc, fun d z => nomatch z⟩
  | xr1 h hc hd r => exact ⟨_, _, _, h, rfl, hc, fun d z => by cases z; exact ⟨_, hd⟩⟩
theorem pe_clsN {x : Str} (hc : ClsN X x) {p : Pos} (hg : Gl X x := by rfl) (hd : (x == ("__debug__" : Str)) = false := by decide) : ∃ v cv, PE X (.Name x p) (tC v) ∧ (∀ u, RelV v u → u = cv) ∧ (x ≠ "ValueError" → cv = exV X.K x) ∧ (x = "ValueError" → cv = .type "ValueError") := by
  rcases hc with ⟨hn, hm, c, e⟩ | ⟨rfl, hm⟩
  · exact ⟨.ref c, .ref c, pe_glob hg (by rw [hm, e]) rfl hd, fun u r => r, fun _ => e.symm, fun z => absurd z hn⟩
  · exact ⟨.ty "ValueError", .type "ValueError", pe_bltn hg hm PyProof.Rows.Boot.«ValueError» rfl (by decide) hd, fun u r => r, fun z => absurd rfl z, fun _ => rfl⟩
theorem de_isX (E : ErrOk X.K errs) (hz : Zc cls dd oe) (hf : ∃ vs, oe.data = .fields vs) (i : Nat) {n x q : Str} {p p0 p2 pos : Pos} (hm : X.mg q = none) (hvq : bootBuiltins q = some (.builtin "isinstance")) (hx : ClsN X x) (hgq : Gl X q := by rfl) (hg : Gl X x := by rfl)
    (hN : X.N[i]? = some n := by rfl) (hv : Vis X.env.scope n := by first | exact Or.inl rfl | exact Or.inr (Or.inl rfl) | exact Or.inr (Or.inr rfl))
    (hd : (n == ("__debug__" : Str)) = false := by decide) (hcd : (n == ("__classdict__" : Str)) = false := by decide) (hdx : (x == ("__debug__" : Str)) = false := by decide) (hnq : q ≠ "__name__" := by decide) (hdq : (q == ("__debug__" : Str)) = false := by decide)
    (he : starEach [.Name n p0, .Name x p2] X.env = (false, eval (.Name n p0) X.env) :: starEach [.Name x p2] X.env := by rfl) (he2 : starEach [.Name x p2] X.env = (false, eval (.Name x p2) X.env) :: starEach [] X.env := by rfl) (hpl : (backTo pos (starEach [.Name x p2] X.env)).any (·.1) = false := by rfl) :
    DE (sutY X a cls dd ((a, oe) :: pn)) W [] (.Call (.Name q p) [.Name n p0, .Name x p2] [] pos) (eIsX errs i x) := by
  refine ⟨⟨fun pins s σ H Q I h => ?_⟩⟩
  obtain ⟨ρ, ow, B, st, h⟩ := h
  rcases eIsX_cases errs i x ρ with e | ⟨C, fs, e, eq, h1, h2⟩
  · rw [e] at h
    exact h.elim
  · rw [e] at h
    obtain ⟨names, c, Ec⟩ := E.of_is h1
    obtain ⟨v, hv1, r⟩ := st.rep i _ eq
    obtain ⟨a', cls', dd', hxa, rfl, hcl, hdd⟩ := xr_dd r
    have hxa' : some (a, cls, dd) = some (a', cls', dd') := hxa
    cases hxa'
    have ec : cls = .ref c := hcl.symm.trans Ec.v
    subst ec
    obtain ⟨vx, cv, px, hcv, n1, n2⟩ := pe_clsN (X := X.suite a ((a, oe) :: pn)) (p := p2) hx hg hdx
    have hk : kitOne X.K (.ref c) cv = some (subX C x) := by
      by_cases hxv : x = "ValueError"
      · rw [n2 hxv, hxv, Ec.kv]
        unfold subX
        simp
      · rw [n1 hxv]
        exact Ec.k x (isErr_mem (h2.resolve_right hxv))
    refine (pe_callB (X := X.suite a ((a, oe) :: pn)) (call_isX (X := X) Ec.ex hz hf) hgq hm hvq (pa_cons (pe_var (i := i) hN hv hd hcd) (pa_cons px pa_nil he2) he) hnq hdq he hpl).run pins s σ H Q I ?_
    refine ⟨_, hv1, ?_⟩
    refine ⟨vx, _, rfl, hdd, .inl ⟨cv, hcv, hk⟩, ?_⟩
    exact h _ H [] (Same.refl H) (.bl _) List.nodup_nil fun _ z => nomatch z
end
end TL
/-! T24: trees without exceptions, defs called within an except suite -/
namespace TL
open PySem PySem.Spec PyProof.Rows L2 PySem.W

mutual
def D.nox : D → Bool
  | .tup xs => noxL xs
  | .lst _ xs => noxL xs
  | .dct _ _ kvs => noxK kvs
  | .ins _ _ fs => noxF fs
  | .kl xs => noxL xs
  | .kt xs => noxL xs
  | .xr _ _ => false
  | _ => true
def noxL : List D → Bool
  | [] => true
  | d :: r => d.nox && noxL r
def noxK : List (D × D) → Bool
  | [] => true
  | (_, d) :: r => d.nox && noxK r
def noxF : List (Str × D) → Bool
  | [] => true
  | (_, d) :: r => d.nox && noxF r
end
mutual
/-- what holds no exception may stand in any context -/
theorem RepD.chg {fr : Frag} {x x' : Option (Addr × Value × Option Addr)} {O : Addr → Prop} {H : Hp} : ∀ {d : D} {v : V} {os : List Addr}, RepD ⟨fr, x⟩ O H d v os → (x = none ∨ d.nox = true) → RepD ⟨fr, x'⟩ O H d v os
  | _, _, _, .non, _ => .non
  | _, _, _, .bl b, _ => .bl b
  | _, _, _, .int b, _ => .int b
  | _, _, _, .str b, _ => .str b
  | _, _, _, .tup h r, c => .tup h (RepL.chg r c)
  | _, _, _, .kt h r, c => .kt h (RepL.chg r c)
  | _, _, _, .lstF h n r, c => .lstF h n (RepL.chg r c)
  | _, _, _, .kl h r, c => .kl h (RepL.chg r c)
  | _, _, _, .lstO h r, c => .lstO h (RepL.chg r c)
  | _, _, _, .dkF h n r, c => .dkF h n (RepK.chg r c)
  | _, _, _, .dkO h r, c => .dkO h (RepK.chg r c)
  | _, _, _, .dtF h n r, c => .dtF h n (RepT.chg r c)
  | _, _, _, .dtO h r, c => .dtO h (RepT.chg r c)
  | _, _, _, .insF hc h n r, c => .insF hc h n (RepF.chg r c)
  | _, _, _, .insO hc h r, c => .insO hc h (RepF.chg r c)
  | _, _, _, .xr0 h hc, c => (c.elim (fun z => by cases z; exact (nomatch h)) (fun z => nomatch z))
  | _, _, _, .xr1 h hc hd r, c => (c.elim (fun z => by cases z; exact (nomatch h)) (fun z => nomatch z))
theorem RepL.chg {fr : Frag} {x x' : Option (Addr × Value × Option Addr)} {O : Addr → Prop} {H : Hp} : ∀ {d : List D} {v : List V} {os : List Addr}, RepL ⟨fr, x⟩ O H d v os → (x = none ∨ noxL d = true) → RepL ⟨fr, x'⟩ O H d v os
  | _, _, _, .nil, _ => .nil
  | _, _, _, .cons h r, c => .cons (RepD.chg h (c.imp id fun z => (Bool.and_eq_true_iff.mp z).1)) (RepL.chg r (c.imp id fun z => (Bool.and_eq_true_iff.mp z).2))
theorem RepK.chg {fr : Frag} {x x' : Option (Addr × Value × Option Addr)} {O : Addr → Prop} {H : Hp} : ∀ {d : List (D × D)} {v : List (Key × V)} {os : List Addr}, RepK ⟨fr, x⟩ O H d v os → (x = none ∨ noxK d = true) → RepK ⟨fr, x'⟩ O H d v os
  | _, _, _, .nil, _ => .nil
  | _, _, _, .cons h r, c => .cons (RepD.chg h (c.imp id fun z => (Bool.and_eq_true_iff.mp z).1)) (RepK.chg r (c.imp id fun z => (Bool.and_eq_true_iff.mp z).2))
theorem RepT.chg {fr : Frag} {x x' : Option (Addr × Value × Option Addr)} {O : Addr → Prop} {H : Hp} : ∀ {d : List (D × D)} {v : List (List Key × V)} {os : List Addr}, RepT ⟨fr, x⟩ O H d v os → (x = none ∨ noxK d = true) → RepT ⟨fr, x'⟩ O H d v os
  | _, _, _, .nil, _ => .nil
  | _, _, _, .cons h r, c => .cons (RepD.chg h (c.imp id fun z => (Bool.and_eq_true_iff.mp z).1)) (RepT.chg r (c.imp id fun z => (Bool.and_eq_true_iff.mp z).2))
theorem RepF.chg {fr : Frag} {x x' : Option (Addr × Value × Option Addr)} {O : Addr → Prop} {H : Hp} : ∀ {d : List (Str × D)} {v : List (Str × V)} {os : List Addr}, RepF ⟨fr, x⟩ O H d v os → (x = none ∨ noxF d = true) → RepF ⟨fr, x'⟩ O H d v os
  | _, _, _, .nil, _ => .nil
  | _, _, _, .cons h r, c => .cons (RepD.chg h (c.imp id fun z => (Bool.and_eq_true_iff.mp z).1)) (RepF.chg r (c.imp id fun z => (Bool.and_eq_true_iff.mp z).2))
end
mutual
theorem nox_frz : ∀ d : D, d.frz.nox = d.nox
  | .non => rfl
  | .bl _ => rfl
  | .int _ => rfl
  | .str _ => rfl
  | .tup xs => noxL_frz xs
  | .lst _ xs => noxL_frz xs
  | .dct _ _ xs => noxK_frz xs
  | .ins _ _ xs => noxF_frz xs
  | .kl xs => noxL_frz xs
  | .kt xs => noxL_frz xs
  | .xr _ _ => rfl
theorem noxL_frz : ∀ xs : List D, noxL (frzL xs) = noxL xs
  | [] => rfl
  | d :: r => by show (d.frz.nox && noxL (frzL r)) = (d.nox && noxL r); rw [nox_frz d, noxL_frz r]
theorem noxK_frz : ∀ xs : List (D × D), noxK (frzK xs) = noxK xs
  | [] => rfl
  | (k, d) :: r => by show (d.frz.nox && noxK (frzK r)) = (d.nox && noxK r); rw [nox_frz d, noxK_frz r]
theorem noxF_frz : ∀ xs : List (Str × D), noxF (frzF xs) = noxF xs
  | [] => rfl
  | (k, d) :: r => by show (d.frz.nox && noxF (frzF r)) = (d.nox && noxF r); rw [nox_frz d, noxF_frz r]
end

/-! ### defs called within a suite -/
section
variable {P : Program} {w : World} {K : Frag} {mg : Str → Option Value} {base : Heap}
abbrev FnHot (P : Program) (w : World) (K : Frag) (mg : Str → Option Value) (base : Heap) := L2H.FnH P w K mg base (L2.CX P w)
theorem fn_okH {x qual : Str} {st : Stmt} {f : Addr} {fd : FuncData} {N ps : List Str} {k : Nat} {b : En → Out} (F : Fun K x qual st f fd) (S : FnScope N ps (defScope st)) (hn : ps.length ≤ N.length)
    (hbody : ∀ (cdv : Value) (A : Around) (outer : List Env) (s : Shared) (H : Hp) (E : XK) (p : Addr × Obj), L2H.HotC (L2H.cxH (L2.CX P w) P w K mg base N qual (defScope st) f cdv A outer s H E p) → L2H.RoomH k (A.deeper (envOfC qual (defScope st) s.heap.objs.size f cdv)) →
      DSs ⟨L2H.cxH (L2.CX P w) P w K mg base N qual (defScope st) f cdv A outer s H E p, none⟩ (fun cls d _ H => E cls d H) (defBody st) b) : FnHot P w K mg base (k + 1) f fd ps (spD K ps.length (fn N.length b)) := by
  obtain ⟨oc, od, kV, doc, pm, an, cdv, ct, osl, rfl, lk, hcd⟩ := F.ex
  refine L2H.fn_ofH lk hcd S (fun vs H Q E h => h.1) fun A outer s H vs Q E p hot hr h => ?_
  refine ⟨_, (hbody cdv A outer s H E p ⟨p, hot, List.mem_singleton.mpr rfl⟩ hr).pss, ?_⟩
  obtain ⟨hl, ds, B, r, hb, h⟩ := h
  refine ⟨_, noOw, B, start_rep r hb (by rw [hl]; exact hn), ?_⟩
  unfold fn at h
  have fin : ∀ d, (∀ v H' os, Same H H' → RepD (k0 K) (fun a => B a ∨ a ∈ os) H' d v os → os.Nodup → (∀ a ∈ os, H a = none) → Q v H') → AftR (k0 K) B noOw H Q d := fun d h v H' os r nd k n =>
    h v H' os (fun a o e => k a o e (.inl fun _ z => nomatch z)) r nd fun a m => (n a m).elim (fun ⟨_, z⟩ => nomatch z) id
  cases e : b (ds.map some ++ List.replicate (N.length - ds.length) none) with
  | ret d => rw [e] at h; exact fin d h
  | nx ρ =>
    rw [e] at h
    exact fun σ' H' ow' s' c => h .non H' [] (fun a o e => c.keep a o e (.inl fun _ z => nomatch z)) .non List.nodup_nil fun _ z => nomatch z
  | exc ρ C fs => rw [e] at h; exact fun σ' H' ow' cls dd s' c x => h cls dd H' (fun a o e => c.keep a o e (.inl fun _ z => nomatch z)) x
  | bk ρ => rw [e] at h; exact h.elim
  | ct ρ => rw [e] at h; exact h.elim
  | stuck => rw [e] at h; exact h.elim
end
/-- f(..) within a suite: the caught exception itself is not handed on -/
def eCallH (F : List D → R D) (fa : En → R (List D)) : En → R D := fun ρ => (fa ρ).bind fun ds => if noxL ds then F (frzL ds) else .stuck
theorem rd_callH {K : KX} {W : WX} {S : List Nat} {σ : L2.St} {H : Hp} {n : Nat} {F : List D → R D} {fa : En → R (List D)} {Q : VK} (hn : ∀ ρ ds, fa ρ = .ok ds → ds.length = n) (h : rd K W S (eCallH F fa) σ H Q) :
    rdA K W S fa σ H fun vs H1 => spD K.fr n F vs H1 Q (fun cls dd H' => W cls dd σ H') := by
  obtain ⟨K, xa⟩ := K
  obtain ⟨ρ, ow, B, s, h⟩ := h
  refine ⟨ρ, ow, B, s, ?_⟩
  unfold eCallH at h
  cases ea : fa ρ with
  | stuck => rw [ea] at h; exact h
  | exc C fs => rw [ea] at h; exact h
  | ok ds =>
    rw [ea] at h
    dsimp only [R.bind_ok] at h
    by_cases hx : noxL ds = true
    · rw [if_pos hx] at h
      intro vs H1 os q r nd nw
      have r' : RepL (k0 K) (OutS S ow B []) H1 (frzL ds) vs [] := RepL.chg (r.frz fun a o e z => by
        rcases z with ⟨i, z, n⟩ | z | z
        · exact ⟨.inl ⟨i, z, n⟩, fun m => s.there z (nw a m)⟩
        · exact ⟨.inr (.inl z), fun m => s.bt a z (nw a m)⟩
        · exact nomatch z) (.inr (by rw [noxL_frz]; exact hx))
      refine ⟨by rw [← r.length]; exact hn ρ ds ea, frzL ds, _, r', fun a z => ?_, ?_⟩
      · rcases z with ⟨i, z, _⟩ | z | z
        · exact fun e => s.there z (q.free e)
        · exact fun e => s.bt a z (q.free e)
        · exact nomatch z
      · cases ef : F (frzL ds) with
        | stuck => rw [ef] at h; exact h
        | exc C fs => rw [ef] at h; exact fun cls dd H' q2 x => h cls dd H' (q.trans q2) x
        | ok d =>
          rw [ef] at h
          exact fun v H' os q2 r nd n => h v H' os (q.trans q2) (RepD.chg (r.keep (fun a o _ z => by
            rcases z with z | z | z
            · exact .inl (.inl z)
            · exact .inl (.inr (.inl z))
            · exact .inr z) (Kept.of_same (Same.refl _) _)) (.inl rfl)) nd fun a m => q.free (n a m)
    · rw [if_neg hx] at h
      exact h.elim
section
variable {X : CY} {W : WX} {S : List Nat} {k n : Nat} {f : Addr} {fd : FuncData} {ps : List Str} {F : List D → R D} {x : Str} {p pos : Pos} {e : Expr} {es : List Expr} {fa : En → R (List D)}
/-- a call within a suite -/
theorem de_callS (tk : L2.Takes X W) (G : FnHot X.prog X.w X.K X.mg X.base k f fd ps (spD X.K n F)) (hr : L2H.RoomH k X.A) (hc : L2H.HotC X) (hm : X.mg x = some (.ref f)) (hk : keepIn X.K (.ref f) = true) (hb : L2.Binds X.K fd ps []) (ha : DA X W S (e :: es) fa)
    (hn : ∀ ρ ds, fa ρ = .ok ds → ds.length = n) (hg : Gl X x := by rfl) (hdb : (x == ("__debug__" : Str)) = false := by decide) (he : starEach (e :: es) X.env = (false, eval e X.env) :: starEach es X.env := by rfl) (hpl : (backTo pos (starEach es X.env)).any (·.1) = false := by rfl) :
    DE X W S (.Call (.Name x p) (e :: es) [] pos) (eCallH F fa) :=
  ⟨(L2H.pe_callH (E := fun σ cls dd H' => W cls dd σ H') G hr hc hg hm hk hb (fun σ => passAt tk σ) ha.pa hdb he hpl).imp fun σ H Q h => rd_callH hn h⟩
/-- a call within a def that is called within a suite -/
theorem de_callH (tk : L2.Takes X W) (G : FnHot X.prog X.w X.K X.mg X.base k f fd ps (spD X.K n F)) (hr : L2H.RoomH k X.A) (hc : L2H.HotC X) (hm : X.mg x = some (.ref f)) (hk : keepIn X.K (.ref f) = true) (hb : L2.Binds X.K fd ps []) (ha : DA X W S (e :: es) fa)
    (hn : ∀ ρ ds, fa ρ = .ok ds → ds.length = n) (hg : Gl X x := by rfl) (hdb : (x == ("__debug__" : Str)) = false := by decide) (he : starEach (e :: es) X.env = (false, eval e X.env) :: starEach es X.env := by rfl) (hpl : (backTo pos (starEach es X.env)).any (·.1) = false := by rfl) (hxa : X.xa = none := by rfl) :
    DE X W S (.Call (.Name x p) (e :: es) [] pos) (eCall F fa) :=
  ⟨(L2H.pe_callH (E := fun σ cls dd H' => W cls dd σ H') G hr hc hg hm hk hb (fun σ => passAt tk σ) ha.pa hdb he hpl).imp fun σ H Q h => rd_call (K := kx X) hxa hn h⟩
theorem _root_.L2H.RoomH.units {k : Nat} {A : Around} (r : L2H.RoomH k A) : A.units + 64 < cLine := by have := r.un; omega
theorem _root_.L2H.RoomH.units0 {k : Nat} {A : Around} (r : L2H.RoomH k A) : A.units < cLine := by have := r.un; omega
theorem hu65H {k : Nat} {A : Around} (r : L2H.RoomH k A) : A.units + 65 < cLine := by have := r.un; omega
theorem hu1H {k : Nat} {A : Around} (r : L2H.RoomH k A) : A.units + 1 < cLine := by have := r.un; omega
theorem ix_allH {X : Cx} {k : Nat} (hr : L2H.RoomH k X.A) : IxR X (fun x y H Q => rIx X.K x y H Q ∨ rIxDc x y H Q) := ix_seq.or (ix_dict (by have := hr.un; omega))
end
end TL
/-! T25: try over trees -/
namespace TL
open PySem PySem.Spec PyProof.Rows L2 PySem.W

/-- an exception's slot and whatever holds one is let go -/
def clr (ρ : En) : En := ρ.map fun o => match o with
  | some d => if d.nox then some d else none
  | none => none
/-- out of a suite -/
def outS : Option Nat → Out → Out
  | none, .exc _ _ _ => .stuck
  | none, o => o
  | some i, .nx ρ => .nx (clr (ρ.set i none))
  | some i, .bk ρ => .bk (clr (ρ.set i none))
  | some i, .ct ρ => .ct (clr (ρ.set i none))
  | some _, .ret d => if d.nox then .ret d else .stuck
  | some _, .exc _ _ _ => .stuck
  | some _, .stuck => .stuck
abbrev Hd := Str × Option Nat × (En → Out)
def xin (C : Str) (fs : List (Str × D)) (ρ : En) : Option Nat → En
  | none => ρ
  | some i => ρ.set i (some (.xr C fs))
def okI (ρ : En) : Option Nat → Bool
  | none => true
  | some i => decide (i < ρ.length)
def tryH (errs : Errs) (C : Str) (fs : List (Str × D)) (ρ : En) : List Hd → Out
  | [] => .exc ρ C fs
  | (x, nm, f) :: r => if isErr errs x && okI ρ nm then (if subX C x then outS nm (f (xin C fs ρ nm)) else tryH errs C fs ρ r) else .stuck
def sTry (errs : Errs) (fb : En → Out) (hs : List Hd) : En → Out := fun ρ => match fb ρ with
  | .exc ρ' C fs => if isErr errs C then tryH errs C fs ρ' hs else .stuck
  | o => o
inductive HdsD (X : CY) : List ExceptHandler → List Hd → Prop
  | nil : HdsD X [] []
  | cons {x : Str} {f : En → Out} {b₀ : Stmt} {suite : List Stmt} {np pos' : Pos} {hds : List ExceptHandler} {l : List Hd} (hc : Names X x (exV X.K x))
      (hsu : ∀ (a : Addr) (oe : Obj) (cls : Value) (d : Option Addr) (pn : List (Addr × Obj)), L2N.Zn cls d oe → (∃ vs, oe.data = .fields vs) → DSs ⟨X.suite a ((a, oe) :: pn), none⟩ W0 (b₀ :: suite) f) (r : HdsD X hds l) :
      HdsD X (.ExceptHandler (some (.Name x np)) none (b₀ :: suite) pos' :: hds) ((x, none, f) :: l)
  | as {x n : Str} {i : Nat} {f : En → Out} {b₀ : Stmt} {suite : List Stmt} {np pos' : Pos} {hds : List ExceptHandler} {l : List Hd} (hc : Names X x (exV X.K x)) (hi : X.N[i]? = some n) (hln : X.env.kindOf n = some .local)
      (hsu : ∀ (a : Addr) (oe : Obj) (cls : Value) (d : Option Addr) (pn : List (Addr × Obj)), L2N.Zn cls d oe → (∃ vs, oe.data = .fields vs) → DSs (sutY X a cls d ((a, oe) :: pn)) W0 (b₀ :: suite) f) (r : HdsD X hds l) :
      HdsD X (.ExceptHandler (some (.Name x np)) (some n) (b₀ :: suite) pos' :: hds) ((x, some i, f) :: l)
/-- the clause's reading -/
def clauseT (K : Frag) (nm : Option Nat) (f : En → Out) : TH := fun a cls d => rdS ⟨K, nm.map fun _ => (a, cls, d)⟩ W0 f
theorem hdsD_g {X : CY} {hds : List ExceptHandler} {l : List Hd} (h : HdsD X hds l) : HdsG X hds (l.map fun q => (exV X.K q.1, q.2.1, clauseT X.K q.2.1 q.2.2)) := by
  induction h with
  | nil => exact .nil
  | cons hc hsu r ih => exact .cons hc (fun a oe cls d pn z f => (hsu a oe cls d pn z f).pss) ih
  | as hc hi hln hsu r ih => exact .as hc hi hln (fun a oe cls d pn z f => (hsu a oe cls d pn z f).pss) ih

section
variable {fr : Frag} {x : Option (Addr × Value × Option Addr)} {B : Addr → Prop} {ρ : En} {σ : L2.St} {H : Hp} {ow : Ow}
theorem Stt.chg0 {x' : Option (Addr × Value × Option Addr)} (s : Stt ⟨fr, none⟩ B ρ σ H ow) : Stt ⟨fr, x'⟩ B ρ σ H ow := by
  refine ⟨s.len, fun i d h => ?_, s.dead, s.nd, s.dj, s.bt, s.bo⟩
  obtain ⟨v, h1, r⟩ := s.rep i d h
  exact ⟨v, h1, r.chg (.inl rfl)⟩
theorem clr_get {ρ : En} {i : Nat} {d : D} (h : (clr ρ)[i]? = some (some d)) : ρ[i]? = some (some d) ∧ d.nox = true := by
  unfold clr at h
  rw [List.getElem?_map] at h
  obtain ⟨o, h1, h2⟩ := Option.map_eq_some_iff.mp h
  cases o with
  | none => cases h2
  | some e =>
    dsimp only at h2
    split at h2
    · cases h2; exact ⟨h1, by assumption⟩
    · cases h2
/-- what stands behind a suite -/
theorem Stt.clr {i : Nat} (s : Stt ⟨fr, x⟩ B ρ σ H ow) : ∃ ow', Stt ⟨fr, none⟩ B (clr (ρ.set i none)) (σ.set i none) H ow' ∧ ∀ j a, a ∈ ow' j → a ∈ ow j := by
  have key : ∀ {j : Nat} {d : D}, (TL.clr (ρ.set i none))[j]? = some (some d) → j ≠ i ∧ ρ[j]? = some (some d) ∧ d.nox = true := fun {j d} h => by
    obtain ⟨h1, h2⟩ := clr_get h
    have hj : j ≠ i := fun e => by
      subst e
      by_cases hl : j < ρ.length
      · rw [List.getElem?_set_self hl] at h1; cases h1
      · rw [List.getElem?_eq_none (by rw [List.length_set]; omega)] at h1; cases h1
    rw [List.getElem?_set_ne (Ne.symm hj)] at h1
    exact ⟨hj, h1, h2⟩
  classical
  refine ⟨fun j => if (∃ d, (TL.clr (ρ.set i none))[j]? = some (some d)) then ow j else [], ⟨by unfold TL.clr; simp [s.len], fun j d h => ?_, fun j h => ?_, fun j => ?_, fun j k a h1 h2 => ?_, s.bt, fun j a h => ?_⟩, fun j a h => ?_⟩
  · obtain ⟨hj, h1, h2⟩ := key h
    obtain ⟨v, hv, r⟩ := s.rep j d h1
    rw [if_pos ⟨d, h⟩]
    refine ⟨v, by rw [List.getElem?_set_ne (Ne.symm hj)]; exact hv, RepD.chg (x := x) (r.keep (fun a o e z => z.imp (fun ⟨k, z⟩ => ?_) id) (Kept.of_same (Same.refl _) _)) (.inr h2)⟩
    dsimp only at z
    split at z
    · exact ⟨k, z⟩
    · exact nomatch z
  · rw [if_neg (fun ⟨d, z⟩ => h d z)]
  · split
    · exact s.nd j
    · exact List.nodup_nil
  · split at h1
    · split at h2
      · exact s.dj j k a h1 h2
      · exact nomatch h2
    · exact nomatch h1
  · split at h
    · exact s.bo j a h
    · exact nomatch h
  · dsimp only at h
    split at h
    · exact h
    · exact nomatch h
end
theorem Ch.sub {ow ow' : Ow} {H : Hp} (h : ∀ j a, a ∈ ow' j → a ∈ ow j) : Ch ow H ow' H := ⟨fun _ _ e _ => e, fun i a m => .inl ⟨i, h i a m⟩⟩
theorem tryH_ok {K : Frag} {errs : Errs} (E : ErrOk K errs) {W : WX} {D : Ends} {B : Addr → Prop} {ow ow' : Ow} {H H' : Hp} {ρ : En} {σ' : L2.St} {C : Str} {fs : List (Str × TL.D)} {cls : Value} {dd : Option Addr} (hC : isErr errs C = true)
    (s : Stt (k0 K) B ρ σ' H' ow') (ch : Ch ow H ow' H') (x : RepX (k0 K) H' C fs cls dd) : ∀ {l : List Hd}, Post (k0 K) W B ow H D (tryH errs C fs ρ l) →
    wG K W D (l.map fun q => (exV K q.1, q.2.1, clauseT K q.2.1 q.2.2)) cls dd σ' H'
  | [], h => h σ' H' ow' cls dd s ch x
  | (y, nm, f) :: l, h => by
    unfold tryH at h
    split at h
    · rename_i hy
      obtain ⟨hy, hoi⟩ := Bool.and_eq_true_iff.mp hy
      obtain ⟨names, c, Ec⟩ := E.of_is hC
      have ec : cls = .ref c := x.1.trans Ec.v
      refine ⟨subX C y, by rw [ec]; exact Ec.m y (isErr_mem hy), fun hb a ha => ?_, fun hb => ?_⟩
      · rw [if_pos hb] at h
        cases nm with
        | none =>
          refine ⟨ρ, ow', B, s, ?_⟩
          show Post (k0 K) W0 B ow' H' D (f ρ)
          have h1 : Post (k0 K) W B ow H D (outS none (f ρ)) := h
          have h2 : Post (k0 K) W B ow' H' D (outS none (f ρ)) := Post.later ch h1
          cases ef : f ρ with
          | exc _ _ _ => rw [ef] at h2; exact h2.elim
          | nx _ => rw [ef] at h2; exact h2
          | bk _ => rw [ef] at h2; exact h2
          | ct _ => rw [ef] at h2; exact h2
          | ret _ => rw [ef] at h2; exact h2
          | stuck => rw [ef] at h2; exact h2
        | some i =>
          have hi : i < ρ.length := of_decide_eq_true hoi
          have rx : ∀ O, RepD ⟨K, some (a, cls, dd)⟩ O H' (.xr C fs) (.ref a) [] := fun O => by
            rcases x.2 with ⟨rfl, rfl⟩ | ⟨d, vs, rfl, hd, r⟩
            · exact .xr0 rfl x.1.symm
            · exact .xr1 rfl x.1.symm hd (RepF.chg (r O) (.inl rfl))
          have s1 : Stt ⟨K, some (a, cls, dd)⟩ B (ρ.set i (some (.xr C fs))) (σ'.set i (some (.ref a))) H' (putO ow' i []) := by
            refine Stt.put (os := []) ((Stt.chg0 s).grow (Same.refl _) (fun b o e z => z.elim id fun z => nomatch z) (fun b z => z.elim (s.bt b) fun z => nomatch z)) hi (rx _) List.nodup_nil fun _ z => nomatch z
          have c1 : Ch ow H (putO ow' i []) H' := ch.trans (Ch.sub fun j b m => by
            unfold putO at m
            split at m
            · exact nomatch m
            · exact m)
          refine ⟨ρ.set i (some (.xr C fs)), putO ow' i [], B, s1, ?_⟩
          show Post ⟨K, some (a, cls, dd)⟩ W0 B (putO ow' i []) H' _ (f (ρ.set i (some (.xr C fs))))
          have h2 : Post (k0 K) W B (putO ow' i []) H' D (outS (some i) (f (ρ.set i (some (.xr C fs))))) := Post.later c1 h
          have aft : ∀ {P : L2.St → Hp → Prop} {ρ1 : En}, Aft (k0 K) B (putO ow' i []) H' P (clr (ρ1.set i none)) → Aft ⟨K, some (a, cls, dd)⟩ B (putO ow' i []) H' (fun σ1 H1 => P (σ1.set i none) H1) ρ1 := fun {P ρ1} h σ1 H1 ow1 st1 ch1 => by
            obtain ⟨ow2, st2, sub⟩ := st1.clr (i := i)
            exact h _ H1 ow2 st2 (ch1.trans (Ch.sub sub))
          cases ef : f (ρ.set i (some (.xr C fs))) with
          | exc _ _ _ => rw [ef] at h2; exact h2.elim
          | nx _ => rw [ef] at h2; exact aft h2
          | bk _ => rw [ef] at h2; exact aft h2
          | ct _ => rw [ef] at h2; exact aft h2
          | stuck => rw [ef] at h2; exact h2
          | ret d =>
            rw [ef] at h2
            have h3 : Post (k0 K) W B (putO ow' i []) H' D (if d.nox then .ret d else .stuck) := h2
            by_cases hx : d.nox = true
            · rw [if_pos hx] at h3
              intro v H1 os r nd k n
              exact h3 v H1 os (RepD.chg r (.inr hx)) nd k n
            · rw [if_neg hx] at h3
              exact h3.elim
      · rw [if_neg (by rw [hb]; exact Bool.false_ne_true)] at h
        exact tryH_ok E hC s ch x h
    · exact h.elim
section
variable {X : CY} {W : WX} {body : List Stmt} {h₀ : ExceptHandler} {hds : List ExceptHandler} {l : List Hd} {pos : Pos} {fb : En → Out} {errs : Errs}
theorem ds_try (hxa : X.xa = none) (hs : X.stack = X.env :: X.outer) (hf : X.env.frame = some X.env.locals) (hN : X.N.Nodup) (tk : L2N.Takes X W) (E : ErrOk X.K errs)
    (hb : ∀ (W' : WX) (pn : List (Addr × Obj)) (xe : Value → Shared → Prop), (∀ q ∈ X.pn, q ∈ pn) → L2N.Takes (X.tr pn xe) W' → PassesOwn (model X.prog X.w) X.A X.env xe → DSs ⟨X.tr pn xe, none⟩ W' body fb)
    (hh : HdsD X (h₀ :: hds) l) : DS X W (.Try body (h₀ :: hds) [] [] pos) (sTry errs fb l) := by
  obtain ⟨X, xa⟩ := X
  cases (show xa = none from hxa)
  refine ⟨⟨fun pins s σ H D I h => (ps_try_g (X := X) (tb := fun W' => rdS (k0 X.K) W' fb) hs hf hN tk (fun W' pn xe hp tk' hps => (hb W' pn xe hp tk' hps).pss) (hdsD_g hh)).run pins s σ H D I ?_⟩⟩
  obtain ⟨ρ, ow, B, st, h⟩ := h
  refine ⟨ρ, ow, B, st, ?_⟩
  unfold sTry at h
  show Post (k0 X.K) _ B ow H D (fb ρ)
  cases e : fb ρ with
  | nx _ => rw [e] at h; exact h
  | bk _ => rw [e] at h; exact h
  | ct _ => rw [e] at h; exact h
  | ret _ => rw [e] at h; exact h
  | stuck => rw [e] at h; exact h
  | exc ρ' C fs =>
    rw [e] at h
    dsimp only at h
    split at h
    · rename_i hC
      intro σ' H' ow' cls dd s' ch x
      exact tryH_ok E hC s' ch x h
    · exact h.elim
end
end TL
/-! T26: the facts of an own exception with fields -/
namespace TL
open PySem PySem.Spec PyProof.Rows L2 PySem.W

theorem exV_of {K : Frag} {nm : Str} {v : Value} (h : nsIn K mainGlobals nm = some (some v)) : exV K nm = v := by unfold exV; rw [h]
/-- a statement of a class's body -/
def clsS (st : Stmt) (j : Nat) : Stmt := match st with
  | .ClassDef _ _ _ body _ _ _ _ _ _ _ => body.getD j (.Pass ⟨0, 0, 0, 0⟩)
  | _ => .Pass ⟨0, 0, 0, 0⟩
def codB (file : Str) (P : Program) : Bool := ((P.main.file : Str) == file) && !(P.main.scope.names.lookup ("super" : Str)).isSome
def initB (K : Frag) (C f : Addr) (names : List Str) : Bool :=
  decide (findIn K (.ref C) "__init__" = some (some (.ref f))) && (decide (typeIn K (.ref f) = some (.type "function")) && (decide (mroIn K C (.ref C) = some true) &&
  (decide (nsIn K mainGlobals "super" = some none) && (decide (nsIn K cStatics "thirdparty.any" = some none) && (decide (ks_superIn K C C "__init__" = some (some (.builtin "ValueError.__init__"))) &&
  (decide (subIn K (.ref C) (.type "ValueError") = some true) && (decide (findIn K (.ref C) "__setattr__" = some (some (.builtin "object.__setattr__"))) && (decide (subIn K (.ref C) (.type "BaseException") = some true) &&
  (decide (typeIn K (.ref C) = some (.type "type")) && (keepIn K (.ref C) && names.all fun n => decide (findIn K (.ref C) n = some none)))))))))))
open PySem.Calls in
theorem exc1_mk {P : Program} {w : World} {K : Frag} {mg : Str → Option Value} {base : Heap} {x : Str} {C f cda cc : Addr} {nm q : Str} {Nn : Addr} {bs bm sub : List Value} {sn : List Str} {ab : Bool} {col : Option Bool} {dd : Option Addr} {k0 k1 k2 k3 k5 : Option Value}
    {oc kV doc pm ct : Value} {od an : Option Addr} {osl : Array (Option Value)} {ccl : Value} {cdd : Option Addr} {vs : Array Value} {ccs : Array (Option Value)} {file : Str} {tf : Tok} {cl : Value} {cld : Option Addr} {csl : Array (Option Value)}
    {qual : Str} {params : Arguments} {body rest : List Stmt} {scope : Scope} {N ps : List Str} {me msg f1 : Str} {i1 : Nat} {l : List (Str × Nat)} {p0 p1 p2 p3 p4 p5 : Pos} {j : Nat}
    (hm : mg x = some (.ref C)) (hv : exV K x = .ref C)
    (g1 : K.lookup C = some (excClassObj nm q C Nn bs bm true sn sub ab col dd k0 k1 k2 k3 k5 "ValueError.__new__")) (g2 : PySem.HandSPX.refsVE bm = true)
    (g3 : K.lookup f = some ⟨oc, od, .func (ksFn "__init__" qual params body scope .none kV doc pm an (.ref cda) ct cc), osl⟩) (g4 : codeIn K (.ref cda) qual = true)
    (g5 : K.lookup cda = some ⟨ccl, cdd, .fields vs, ccs⟩) (g6 : vs[2]? = some (.str file tf)) (g7 : codB file P = true) (g8 : K.lookup cc = some ⟨cl, cld, .cell (some (.ref C)), csl⟩)
    (g9 : initB K C f (((f1, i1) :: l).map (·.1)) = true)
    (he : ∀ env : Env, eval (.Call (.Attribute (.Call (.Name "super" p0) [] [] p1) "__init__" p2) [.Constant (.str msg) j p3] [] p4) env = (do
      let ov ← attributeBase (.Call (.Name "super" p0) [] [] p1) "__init__" env (eval (.Call (.Name "super" p0) [] [] p1) env)
      standAt p2.atName
      let (f, first) ← holding [ov] (getMethod ov "__init__" (do return (← importBound (.Call (.Name "super" p0) [] [] p1) env).getD true))
      callWith p4 f first (backTo p4 (starEach [.Constant (.str msg) j p3] env)) []))
    (S : SupS scope params N ps me)
    (hbody : body = .Expr (.Call (.Attribute (.Call (.Name "super" p0) [] [] p1) "__init__" p2) [.Constant (.str msg) j p3] [] p4) p5 :: rest)
    (hfl : Flds N me rest ((f1, i1) :: l)) (hps : ps.length = ((f1, i1) :: l).length + 1) (hix : ∀ (k : Nat) (q : Str × Nat), ((f1, i1) :: l)[k]? = some q → q.2 = k + 1) (hz : l.length ≤ 800)
    (hm1 : (me == ("__debug__" : Str)) = false) (hm2 : (me == ("__classdict__" : Str)) = false)
    (hb : ∀ us : List Value, us.length = ps.length → bindArgs (ksFn "__init__" qual params body scope .none kV doc pm an (.ref cda) ct cc) ⟨us, []⟩ = pure (ps.zip us)) :
    Exc1 P w K mg base x (((f1, i1) :: l).map (·.1)) 1 := by
  unfold initB at g9
  simp only [Bool.and_eq_true, decide_eq_true_eq, List.all_eq_true] at g9
  obtain ⟨a1, a2, a3, a4, a5, a6, a7, a8, a9, a10, a11, a12⟩ := g9
  unfold codB at g7
  obtain ⟨b1, b2⟩ := Bool.and_eq_true_iff.mp g7
  have T : OexC K C := ⟨⟨_, _, _, _, _, _, _, _, _, _, _, _, _, _, _, g1, g2⟩, a8, a9, a10, a11⟩
  obtain ⟨cdC, hcd⟩ : ∃ cd, clsIn K C = some cd := by
    unfold clsIn
    rw [g1]
    exact ⟨_, rfl⟩
  exact ⟨C, f, _, ps, hm, hv, T, a1, a2, .all hb, fn_init he ⟨oc, .none, kV, doc, pm, ct, od, an, osl, cda, cc, ccl, cdd, vs, ccs, file, tf, cl, cld, csl, rfl, g3, g4, g5, g6, b1, g8⟩ S ⟨a3, a4, a5, by simpa using b2, a6, a7⟩ T hcd hbody hfl hps hix hz hm1 hm2
    fun p hp => a12 _ (List.mem_map_of_mem hp)⟩
end TL
/-! T27: small words for suites -/
namespace TL
open PySem PySem.Spec PyProof.Rows L2 PySem.W

theorem tkS0 {X : Cx} : L2.Takes X W0 := fun _ _ ⟨_, _, _, _, _, _, _, _, _, _, _, _, _, _, _, _, w⟩ => w.elim
theorem hrS {k : Nat} {A : Around} {h : Option Value} (r : Room k A) : L2H.RoomH k (A.mark h) := ⟨r.dp, r.un⟩
theorem hotS {X : Cx} {a : Addr} {oe : Obj} {cls : Value} {d : Option Addr} {pn : List (Addr × Obj)} (hz : L2N.Zn cls d oe) (hf : ∃ vs, oe.data = .fields vs) : L2H.HotC (X.suite a ((a, oe) :: pn)) := by
  obtain ⟨vs, hv⟩ := hf
  refine ⟨(a, oe), ⟨rfl, vs, hv, ?_⟩, List.mem_cons_self⟩
  exact hz.2.2 vs hv
section
variable {X : Cx} {x : Str} {c : Addr}
theorem names_mk (hm : X.mg x = some (.ref c)) (hv : exV X.K x = .ref c) (hg : Gl X x := by rfl) (hd : (x == ("__debug__" : Str)) = false := by decide) : Names X x (exV X.K x) := ⟨hg, hd, .inl (by rw [hm, hv])⟩
theorem clsN_mk (hm : X.mg x = some (.ref c)) (hv : exV X.K x = .ref c) (hn : x ≠ "ValueError" := by decide) : ClsN X x := .inl ⟨hn, by rw [hm, hv], c, hv⟩
end
end TL
/-! T28: zip, enumerate, join -/
namespace TL
open PySem PySem.Spec PyProof.Rows L2 PySem.W

/-! ### join -/
def strsL : List D → Option (List Str)
  | [] => some []
  | .str x :: r => (strsL r).map (x :: ·)
  | _ => none
theorem strsL_rep {K : KX} {O : Addr → Prop} {H : Hp} : ∀ {xs : List D} {vs : List V} {os : List Addr} {ys : List Str}, RepL K O H xs vs os → strsL xs = some ys → vs = ys.map V.str
  | _, _, _, _, .nil, e => by cases e; rfl
  | d :: r, _, _, ys, .cons h rl, e => by
    cases d with
    | str x =>
      simp only [strsL] at e
      obtain ⟨zs, h1, h2⟩ := Option.map_eq_some_iff.mp e
      subst h2
      cases h
      rw [strsL_rep rl h1]
      rfl
    | _ => simp [strsL] at e
def joinS (a : Str) (o : Option (List Str)) : Option D := o.bind fun ys => if (ys.map (·.length)).sum + ys.length * a.length ≤ 16777216 then some (.str (Txt.join a ys)) else none
def gJoin : D → List D → Option D
  | .str a, [.lst _ xs] => joinS a (strsL xs)
  | .str a, [.tup xs] => joinS a (strsL xs)
  | _, _ => none
theorem joinS_inv {a : Str} {o : Option (List Str)} {d : D} (h : joinS a o = some d) : ∃ ys, o = some ys ∧ (ys.map (·.length)).sum + ys.length * a.length ≤ 16777216 ∧ d = .str (Txt.join a ys) := by
  unfold joinS at h
  obtain ⟨ys, h1, h2⟩ := Option.bind_eq_some_iff.mp h
  split at h2
  · cases h2; exact ⟨ys, h1, by assumption, rfl⟩
  · cases h2
theorem fits_join {K : KX} : FitsM K gJoin (fun x xs H Q => ∃ a p, ∃ ys : List Str, x = .str a ∧ xs = [.ref p] ∧ (SqL K.fr H p (ys.map V.str) ∨ SqT K.fr H p (ys.map V.str)) ∧ (ys.map (·.length)).sum + ys.length * a.length ≤ 16777216 ∧ Q (.str (Txt.join a ys)) H) := by
  intro O H x ys v vs o1 o2 d Q r1 r2 nd m e dn
  unfold gJoin at e
  split at e
  · rename_i a o xs
    obtain ⟨zs, h1, h2, rfl⟩ := joinS_inv e
    obtain ⟨w, rfl, q⟩ := r2.one
    obtain ⟨p, ws, o', rfl, hr, rl, _, _⟩ := lst_part q (List.nodup_append.mp nd).2.1
    cases r1
    have := strsL_rep rl h1
    subst this
    exact ⟨a, p, zs, rfl, rfl, .inl (.inl hr), h2, dn.flat fun _ => .str _⟩
  · rename_i a xs
    obtain ⟨zs, h1, h2, rfl⟩ := joinS_inv e
    obtain ⟨w, rfl, q⟩ := r2.one
    cases r1
    cases q with
    | tup hr rl =>
      have := strsL_rep rl h1
      subst this
      exact ⟨a, _, zs, rfl, rfl, .inr (.inl (.inl hr)), h2, dn.flat fun _ => .str _⟩
  · cases e

/-! ### zip -/
def pairs (xs ys : List D) : List D := List.zipWith (fun a b => D.tup [a, b]) xs ys
def small (ds : List D) : R (List D) := if ds.length ≤ 16777216 then .ok ds else .stuck
def zpD : D → D → R (List D)
  | .lst _ xs, .lst _ ys => small (pairs (frzL xs) (frzL ys))
  | .tup xs, .tup ys => small (pairs (frzL xs) (frzL ys))
  | _, _ => .stuck
def zpF : List D → R (List D)
  | [x, y] => zpD x y
  | _ => .stuck
def iZp (f : En → R (List D)) : En → R (List D) := fun ρ => (f ρ).bind zpF
theorem small_cases (ds : List D) : small ds = .stuck ∨ (small ds = .ok ds ∧ ds.length ≤ 16777216) := by
  unfold small
  split
  · exact .inr ⟨rfl, by assumption⟩
  · exact .inl rfl
theorem zpF_cases (ds : List D) : zpF ds = .stuck ∨ ∃ xs ys, ((∃ o1 o2, ds = [.lst o1 xs, .lst o2 ys]) ∨ ds = [.tup xs, .tup ys]) ∧ zpF ds = .ok (pairs (frzL xs) (frzL ys)) ∧ (pairs (frzL xs) (frzL ys)).length ≤ 16777216 := by
  unfold zpF
  split
  · rename_i x y
    unfold zpD
    split
    · rename_i o1 xs o2 ys
      exact (small_cases _).imp id fun q => ⟨xs, ys, .inl ⟨o1, o2, rfl⟩, q⟩
    · rename_i xs ys
      exact (small_cases _).imp id fun q => ⟨xs, ys, .inr rfl, q⟩
    · exact .inl rfl
  · exact .inl rfl
theorem pairs_get {xs ys : List D} {i : Nat} {d : D} (h : (pairs xs ys)[i]? = some d) : ∃ a b, xs[i]? = some a ∧ ys[i]? = some b ∧ d = .tup [a, b] := by
  unfold pairs at h
  rw [List.getElem?_zipWith] at h
  revert h
  cases xs[i]? <;> cases ys[i]? <;> intro h <;> simp at h
  exact ⟨_, _, rfl, rfl, h.symm⟩
theorem pairs_len {xs ys : List D} {i : Nat} (h : (pairs xs ys).length ≤ i) : xs.length ≤ i ∨ ys.length ≤ i := by
  unfold pairs at h
  rw [List.length_zipWith] at h
  omega
theorem pair_rep {K : KX} {O O' : Addr → Prop} {H H2 : Hp} {dx dy : D} {vx vy : V} {T : Addr} (rx : RepD K O H dx vx []) (ry : RepD K O H dy vy []) (k : Kept O H H2 []) (hn : H2 T = none) (hO : ∀ a o, H a = some o → O' a → O a) :
    Same H2 (upd H2 T (.tup [vx, vy])) ∧ RepD K O' (upd H2 T (.tup [vx, vy])) (.tup [dx, dy]) (.ref T) [] := by
  have sm : Same H2 (upd H2 T (.tup [vx, vy])) := fun b u e => by rw [upd_ne (ne_of_none e hn)]; exact e
  have k2 : Kept O H (upd H2 T (.tup [vx, vy])) [] := fun a o e z => sm a o (k a o e z)
  exact ⟨sm, .tup upd_same (.cons (o1 := []) (rx.keep hO k2) (.cons (o1 := []) (ry.keep hO k2) .nil))⟩
theorem it_zip {K : KX} {O : Addr → Prop} {H : Hp} {a b : Addr} {vs ws : List V} {xs ys : List D} (h : (Rd H a (.lst vs) ∧ ¬ O a) ∨ KLs K.fr a vs) (h' : (Rd H b (.lst ws) ∧ ¬ O b) ∨ KLs K.fr b ws) (r : RepL K O H xs vs []) (r' : RepL K O H ys ws []) :
    ItOk K O (Itz K.fr a b) H (pairs xs ys) := by
  intro H2 k i
  have hq : SqL K.fr H2 a vs := h.imp (fun q => k.rd q.2 q.1) id
  have hq' : SqL K.fr H2 b ws := h'.imp (fun q => k.rd q.2 q.1) id
  refine ⟨fun d hd => ?_, fun hi => ⟨vs, ws, hq, hq', by rw [← r.length, ← r'.length]; exact pairs_len hi⟩⟩
  obtain ⟨dx, dy, e1, e2, rfl⟩ := pairs_get hd
  obtain ⟨vx, hvx, rx⟩ := r.get e1
  obtain ⟨vy, hvy, ry⟩ := r'.get e2
  refine ⟨⟨vs, ws, vx, vy, hq, hq', hvx, hvy⟩, fun x H3 y => ?_⟩
  obtain ⟨T, x', y', rfl, hT, rfl, g1, g2⟩ := y
  have ex : x' = vx := Option.some.inj ((g1 vs hq).symm.trans hvx)
  have ey : y' = vy := Option.some.inj ((g2 ws hq').symm.trans hvy)
  subst ex ey
  exact ⟨(pair_rep (O' := O) rx ry k hT fun _ _ _ z => z).1, fun O' hO => (pair_rep rx ry k hT hO).2⟩
theorem it_zipT {K : KX} {O : Addr → Prop} {H : Hp} {a b : Addr} {vs ws : List V} {xs ys : List D} (h : H a = some (.tup vs) ∨ KTp K.fr a vs) (h' : H b = some (.tup ws) ∨ KTp K.fr b ws) (r : RepL K O H xs vs []) (r' : RepL K O H ys ws []) :
    ItOk K O (RZ.ItzT K.fr a b) H (pairs xs ys) := by
  intro H2 k i
  have hq : SqT K.fr H2 a vs := h.imp (fun q => .inl (k.tup' q)) id
  have hq' : SqT K.fr H2 b ws := h'.imp (fun q => .inl (k.tup' q)) id
  refine ⟨fun d hd => ?_, fun hi => ⟨vs, ws, hq, hq', by rw [← r.length, ← r'.length]; exact pairs_len hi⟩⟩
  obtain ⟨dx, dy, e1, e2, rfl⟩ := pairs_get hd
  obtain ⟨vx, hvx, rx⟩ := r.get e1
  obtain ⟨vy, hvy, ry⟩ := r'.get e2
  refine ⟨⟨vs, ws, vx, vy, hq, hq', hvx, hvy⟩, fun x H3 y => ?_⟩
  obtain ⟨T, x', y', rfl, hT, rfl, g1, g2⟩ := y
  have ex : x' = vx := Option.some.inj ((g1 vs hq).symm.trans hvx)
  have ey : y' = vy := Option.some.inj ((g2 ws hq').symm.trans hvy)
  subst ex ey
  exact ⟨(pair_rep (O' := O) rx ry k hT fun _ _ _ z => z).1, fun O' hO => (pair_rep rx ry k hT hO).2⟩
section
variable {X : CY} {W : WX} {S : List Nat} {a b : Expr} {p pos tpos : Pos} {elts : List Expr} {kk : Nat} {fa : En → R (List D)}
theorem di_zip (hg : Gl X "zip") (hm : X.mg "zip" = none) (ha : DA X W S [a, b] fa)
    (hs : starEach [a, b] X.env = (false, eval a X.env) :: starEach [b] X.env := by rfl) (hpl : (backTo pos (starEach [b] X.env)).any (·.1) = false := by rfl) :
    DI X W S (.Tuple elts kk tpos) (.Call (.Name "zip" p) [a, b] [] pos) (iZp fa) :=
  ⟨(RZ.pi_zipA hg hm ha.pa hs hpl).imp fun σ H R h => rdI_args h fun ρ ow B ds vs os H1 s q r n h => by
    have r' := r.frz (O' := OutS S ow B []) fun a o e z => ⟨z.imp id (fun z => z.imp id fun z => nomatch z), fun m => by
      rcases z with ⟨i, z, _⟩ | z | z
      · exact s.there z (n a m)
      · exact s.bt a z (n a m)
      · exact nomatch z⟩
    have sq : ∀ {e : Bool} {xs : List D} {v : V}, RepD (kx X) (OutS S ow B []) H1 (.lst false xs) v [] → ∃ a vs, v = .ref a ∧ (Rd H1 a (.lst vs) ∧ ¬ OutS S ow B [] a) ∧ RepL (kx X) (OutS S ow B []) H1 xs vs [] := fun {e xs v} r => by
      cases r with
      | lstF h n0 rl => exact ⟨_, _, rfl, ⟨h, n0⟩, rl⟩
    rcases zpF_cases ds with e | ⟨xs, ys, hd, e, hb⟩
    · rw [e] at h; exact h.elim
    · rw [e] at h
      rcases hd with ⟨o1, o2, rfl⟩ | rfl
      · obtain ⟨w1, w2, q1, q2, rfl, eo, r1, r2⟩ := r'.two
        obtain ⟨rfl, rfl⟩ := List.append_eq_nil_iff.mp eo.symm
        obtain ⟨p1, v1, rfl, h1, l1⟩ := sq (e := o1) r1
        obtain ⟨p2, v2, rfl, h2, l2⟩ := sq (e := o2) r2
        exact ⟨p1, p2, v1, v2, rfl, .inl ⟨.inl h1.1, .inl h2.1, h _ H1 q (it_zip (.inl h1) (.inl h2) l1 l2) (by rw [sizeLine_eq]; exact hb)⟩⟩
      · obtain ⟨w1, w2, q1, q2, rfl, eo, r1, r2⟩ := r'.two
        obtain ⟨rfl, rfl⟩ := List.append_eq_nil_iff.mp eo.symm
        have r1' : RepD (kx X) (OutS S ow B []) H1 (.tup (frzL xs)) w1 [] := r1
        have r2' : RepD (kx X) (OutS S ow B []) H1 (.tup (frzL ys)) w2 [] := r2
        cases r1' with
        | tup h1 l1 =>
          cases r2' with
          | tup h2 l2 => exact ⟨_, _, _, _, rfl, .inr ⟨.inl (.inl h1), .inl (.inl h2), h _ H1 q (it_zipT (.inl h1) (.inl h2) l1 l2) (by rw [sizeLine_eq]; exact hb)⟩⟩⟩
/-! ### enumerate -/
def nums : Nat → List D → List D
  | _, [] => []
  | k, d :: r => .tup [.int k, d] :: nums (k + 1) r
theorem nums_get : ∀ {xs : List D} {k i : Nat} {d : D}, (nums k xs)[i]? = some d → ∃ a, xs[i]? = some a ∧ d = .tup [.int (k + i : Nat), a]
  | [], _, _, _, h => by simp [nums] at h
  | x :: xs, k, 0, d, h => ⟨x, rfl, by simpa [nums] using h.symm⟩
  | x :: xs, k, i + 1, d, h => by
    obtain ⟨a, h1, h2⟩ := nums_get (k := k + 1) (i := i) (by simpa [nums] using h)
    exact ⟨a, by simpa using h1, by rw [h2, show k + 1 + i = k + (i + 1) by omega]⟩
theorem nums_len : ∀ {xs : List D} {k : Nat}, (nums k xs).length = xs.length
  | [], _ => rfl
  | x :: xs, k => by simp [nums, nums_len (xs := xs)]
def enD : D → R (List D)
  | .lst _ xs => small (nums 0 (frzL xs))
  | _ => .stuck
def enF : List D → R (List D)
  | [x] => enD x
  | _ => .stuck
def iEn (f : En → R (List D)) : En → R (List D) := fun ρ => (f ρ).bind enF
theorem enF_cases (ds : List D) : enF ds = .stuck ∨ ∃ o1 xs, ds = [.lst o1 xs] ∧ enF ds = .ok (nums 0 (frzL xs)) ∧ (nums 0 (frzL xs)).length ≤ 16777216 := by
  unfold enF
  split
  · rename_i x
    unfold enD
    split
    · rename_i o1 xs
      exact (small_cases _).imp id fun q => ⟨o1, xs, rfl, q⟩
    · exact .inl rfl
  · exact .inl rfl
theorem it_enum {K : KX} {O : Addr → Prop} {H : Hp} {a : Addr} {vs : List V} {xs : List D} (h : (Rd H a (.lst vs) ∧ ¬ O a) ∨ KLs K.fr a vs) (r : RepL K O H xs vs []) : ItOk K O (Ite K.fr a) H (nums 0 xs) := by
  intro H2 k i
  have hq : SqL K.fr H2 a vs := h.imp (fun q => k.rd q.2 q.1) id
  refine ⟨fun d hd => ?_, fun hi => ⟨vs, hq, by rw [← r.length]; rw [nums_len] at hi; exact hi⟩⟩
  obtain ⟨dx, e1, rfl⟩ := nums_get hd
  obtain ⟨vx, hvx, rx⟩ := r.get e1
  refine ⟨⟨vs, vx, hq, hvx⟩, fun x H3 y => ?_⟩
  obtain ⟨T, x', rfl, hT, rfl, g1⟩ := y
  have ex : x' = vx := Option.some.inj ((g1 vs hq).symm.trans hvx)
  subst ex
  rw [Nat.zero_add]
  have ri : RepD K O H (.int (i : Nat)) (.int (i : Nat)) [] := .int _
  exact ⟨(pair_rep (O' := O) ri rx k hT fun _ _ _ z => z).1, fun O' hO => (pair_rep ri rx k hT hO).2⟩
theorem di_enum (hg : Gl X "enumerate") (hm : X.mg "enumerate" = none) (ha : DA X W S [a] fa) (hs : starEach [a] X.env = [(false, eval a X.env)] := by rfl) :
    DI X W S (.Tuple elts kk tpos) (.Call (.Name "enumerate" p) [a] [] pos) (iEn fa) :=
  ⟨(pi_enum hg hm ha.pa hs).imp fun σ H R h => rdI_args h fun ρ ow B ds vs os H1 s q r n h => by
    have r' := r.frz (O' := OutS S ow B []) fun a o e z => ⟨z.imp id (fun z => z.imp id fun z => nomatch z), fun m => by
      rcases z with ⟨i, z, _⟩ | z | z
      · exact s.there z (n a m)
      · exact s.bt a z (n a m)
      · exact nomatch z⟩
    rcases enF_cases ds with e | ⟨o1, xs, rfl, e, hb⟩
    · rw [e] at h; exact h.elim
    · rw [e] at h
      obtain ⟨v, rfl, r1⟩ := r'.one
      have r1' : RepD (kx X) (OutS S ow B []) H1 (.lst false (frzL xs)) v [] := r1
      cases r1' with
      | lstF h1 n1 l1 => exact ⟨_, _, rfl, .inl h1, h _ H1 q (it_enum (.inl ⟨h1, n1⟩) l1) (by rw [sizeLine_eq]; exact hb)⟩⟩
end
end TL
/-! T29: keys of numbers, texts, tuples within tuples; written dicts with such keys -/
namespace TL
open PySem PySem.Spec PyProof.Rows L2 PySem.W

mutual
def nkD : D → Option NestedKey
  | .non => some .none
  | .bl b => some (.num (if b = true then 1 else 0))
  | .int i => some (.num i)
  | .str x => some (.text x)
  | .tup xs => (nkL xs).map .tup
  | _ => none
def nkL : List D → Option (List NestedKey)
  | [] => some []
  | d :: r => match nkD d, nkL r with
    | some k, some ks => some (k :: ks)
    | _, _ => none
end
mutual
theorem nest_of {P : Program} {w : World} {K : KX} {O : Addr → Prop} {H : Hp} {h : Heap} (hok : HOk P w H h) : ∀ {d : D} {v : V} {os : List Addr} {k : NestedKey} {u : Value}, RepD K O H d v os → nkD d = some k → RelV v u → NestedIs h k u
  | _, _, _, _, u, .non, e, r => by
    simp only [nkD] at e
    cases e
    obtain rfl : u = Value.none := r
    exact .none
  | _, _, _, _, u, .bl b, e, r => by
    simp only [nkD] at e
    cases e
    obtain rfl : u = Value.bool b := r
    exact .bool rfl
  | _, _, _, _, u, .int i, e, r => by
    simp only [nkD] at e
    cases e
    obtain ⟨t, rfl⟩ := (show ∃ t, u = Value.int i t from r)
    exact .int _ _
  | _, _, _, _, u, .str x, e, r => by
    simp only [nkD] at e
    cases e
    obtain ⟨t, rfl⟩ := (show ∃ t, u = Value.str x t from r)
    exact .text _ _
  | .tup xs, .ref a, _, _, u, .tup (vs := vs) h1 rl, e, r => by
    simp only [nkD] at e
    obtain ⟨ks, e1, e2⟩ := Option.map_eq_some_iff.mp e
    subst e2
    obtain rfl : u = Value.ref a := r
    have hx : ObjOk P w H h a (.tup vs) := hok a _ h1
    obtain ⟨_, its, hv, o, ho, hc, n, hd⟩ := hx
    exact .tup ho hc hd (by simpa using nestL_of hok rl e1 hv)
  | _, _, _, _, _, .kt _ _, e, _ => by simp [nkD] at e
  | _, _, _, _, _, .lstF _ _ _, e, _ => by simp [nkD] at e
  | _, _, _, _, _, .kl _ _, e, _ => by simp [nkD] at e
  | _, _, _, _, _, .lstO _ _, e, _ => by simp [nkD] at e
  | _, _, _, _, _, .dkF _ _ _, e, _ => by simp [nkD] at e
  | _, _, _, _, _, .dkO _ _, e, _ => by simp [nkD] at e
  | _, _, _, _, _, .dtF _ _ _, e, _ => by simp [nkD] at e
  | _, _, _, _, _, .dtO _ _, e, _ => by simp [nkD] at e
  | _, _, _, _, _, .insF _ _ _ _, e, _ => by simp [nkD] at e
  | _, _, _, _, _, .insO _ _ _, e, _ => by simp [nkD] at e
  | _, _, _, _, _, .xr0 _ _, e, _ => by simp [nkD] at e
  | _, _, _, _, _, .xr1 _ _ _ _, e, _ => by simp [nkD] at e
theorem nestL_of {P : Program} {w : World} {K : KX} {O : Addr → Prop} {H : Hp} {h : Heap} (hok : HOk P w H h) : ∀ {xs : List D} {vs : List V} {os : List Addr} {ks : List NestedKey} {us : List Value}, RepL K O H xs vs os → nkL xs = some ks → Vals vs us → NestedAll h ks us
  | _, _, _, _, us, .nil, e, r => by
    simp only [nkL] at e
    cases e
    cases r
    exact .nil
  | d :: xs, _, _, _, us, .cons h1 rl, e, r => by
    simp only [nkL] at e
    split at e
    · rename_i k ks e1 e2
      cases e
      cases r with
      | cons ru rr => exact .cons (nest_of hok h1 e1 ru) (nestL_of hok rl e2 rr)
    · cases e
end
/-- a written dict -/
structure KDN (P : Program) (w : World) (K : Frag) (a : Addr) (tab : List (NestedKey × V)) : Prop where
  sys : (a == sysModules) = false
  nd : ∃ o, K.lookup a = some o ∧ o.cls = .type "dict" ∧ o.dict = none
  dk : ∃ kvs : List (NestedKey × Value), (∀ h, K.In h → h.DictKeyed (nestedKind P w) a kvs) ∧ Paired (fun (p : NestedKey × V) (q : NestedKey × Value) => p.1 = q.1 ∧ RelV p.2 q.2) tab kvs
def lookN {α : Type} (tab : List (NestedKey × α)) (k : NestedKey) : Option α := (tab.find? fun p => p.1 = k).map (·.2)
theorem lookN_rel {k : NestedKey} : ∀ {tab : List (NestedKey × V)} {kvs : List (NestedKey × Value)}, Paired (fun (p : NestedKey × V) (q : NestedKey × Value) => p.1 = q.1 ∧ RelV p.2 q.2) tab kvs → RelO (lookN tab k) (valueAt kvs k)
  | _, _, .nil => True.intro
  | (k1, v) :: tab, (k2, u) :: kvs, .cons h r => by
    obtain ⟨e, rv⟩ := h
    dsimp only at e rv
    subst e
    unfold lookN valueAt
    by_cases hk : k1 = k
    · rw [List.find?_cons_of_pos (by simpa using hk), List.find?_cons_of_pos (by simpa using hk)]
      exact rv
    · rw [List.find?_cons_of_neg (by simpa using hk), List.find?_cons_of_neg (by simpa using hk)]
      exact lookN_rel r
/-- d.get(k, y) of a written dict -/
def tKG (P : Program) (w : World) (tab : List (NestedKey × V)) (ty tx : TE) : TE := fun σ H Q => ty σ H fun y H2 => tx σ H2 fun z H3 => ∃ (b : Addr) (k : NestedKey), y = .ref b ∧ (∀ h, HOk P w H3 h → NestedIs h k (.ref b)) ∧ k.depth ≤ 8 ∧ Q ((lookN tab k).getD z) H3
section
variable {X : Cx} {x : Str} {a : Addr} {tab : List (NestedKey × V)} {e f : Expr} {ty tx : TE} {p apos cpos : Pos}
theorem pe_kget (T : KDN X.prog X.w X.K a tab) (hu : X.A.units + 65 < cLine) (hm : X.mg x = some (.ref a)) (he : PE X e ty) (hf : PE X f tx) (m : M2 X (.Name x p) "get" apos e f cpos) (hg : Gl X x := by rfl) (hd : (x == ("__debug__" : Str)) = false := by decide) :
    PE X (.Call (.Attribute (.Name x p) "get" apos) [e, f] [] cpos) (tKG X.prog X.w tab ty tx) := by
  refine ⟨fun pins s σ H Q I h => ?_⟩
  obtain ⟨o, ho, hc, hdn⟩ := T.nd
  obtain ⟨kvs, hk, hp⟩ := T.dk
  refine wpAny_Call_method m.base m.few m.line PySem.F.plainAttrs_dict PySem.F.slot_dict_get PySem.F.type_dict_get (ld_glob I hg hm ?_ hd)
  refine ⟨(hk _ I.kIn).typeIs, fun b q => ?_, ?_⟩
  · cases q
    exact ⟨o, I.kIn _ _ ho, hdn⟩
  rw [m.trees]
  refine Calls.callWith_builtin rfl (Calls.evalArgs_plain (Calls.spliced_cons (thn (he.run pins s σ H _ I h) fun iv s2 ⟨y, H2, I2, ry, q2⟩ =>
    Calls.spliced_cons (thn (hf.run pins s2 σ H2 _ I2 q2) fun fv s3 ⟨z, H3, I3, rz, b, k, ey, nk, kd, q3⟩ => Calls.spliced_nil ?_))))
  subst ey
  obtain rfl : iv = Value.ref b := ry
  refine getOr_keyed (knd := nestedKind X.prog X.w) (k := k) (kvs := kvs) (show _ + 8 < cLine by have : X.A.in1.units = X.A.units + 1 := rfl; omega) ⟨nk _ I3.hok, kd⟩ T.sys (hk _ I3.kIn) ?_
  refine ⟨(lookN tab k).getD z, H3, I3.tok _, ?_, q3⟩
  have r := lookN_rel (k := k) hp
  cases h1 : lookN tab k with
  | none =>
    rw [h1] at r
    cases h2 : valueAt kvs k with
    | none => exact rz
    | some u => rw [h2] at r; exact r.elim
  | some v =>
    rw [h1] at r
    cases h2 : valueAt kvs k with
    | none => rw [h2] at r; exact r.elim
    | some u => rw [h2] at r; exact r
end
end TL
namespace TL
open PySem PySem.Spec PyProof.Rows L2 PySem.W
def atV : D → Option V
  | .str x => some (.str x)
  | .int i => some (.int i)
  | .bl b => some (.bl b)
  | .non => some .non
  | _ => none
def tabV : List (NestedKey × D) → Option (List (NestedKey × V))
  | [] => some []
  | (k, d) :: r => match atV d, tabV r with
    | some v, some s => some ((k, v) :: s)
    | _, _ => none
theorem atV_rep {K : KX} {O : Addr → Prop} {H : Hp} {d : D} {v : V} (h : atV d = some v) : RepD K O H d v [] := by
  cases d <;> simp [atV] at h <;> subst h
  · exact .non
  · exact .bl _
  · exact .int _
  · exact .str _
theorem tabV_look {k : NestedKey} : ∀ {tab : List (NestedKey × D)} {s : List (NestedKey × V)}, tabV tab = some s → (lookN tab k = none ∧ lookN s k = none) ∨ ∃ d v, lookN tab k = some d ∧ lookN s k = some v ∧ atV d = some v
  | [], s, h => by
    simp only [tabV] at h
    cases h
    exact .inl ⟨rfl, rfl⟩
  | (k1, d) :: tab, s, h => by
    simp only [tabV] at h
    split at h
    · rename_i v s1 e1 e2
      cases h
      unfold lookN
      by_cases hk : k1 = k
      · rw [List.find?_cons_of_pos (by simpa using hk), List.find?_cons_of_pos (by simpa using hk)]
        exact .inr ⟨d, v, rfl, rfl, e1⟩
      · rw [List.find?_cons_of_neg (by simpa using hk), List.find?_cons_of_neg (by simpa using hk)]
        exact tabV_look e2
    · cases h
def isTup : D → Bool
  | .tup _ => true
  | _ => false
def kgetD (tab : List (NestedKey × D)) (x y : D) : Option D := if isTup x then (nkD x).bind fun k => if k.depth ≤ 8 then some ((lookN tab k).getD y) else none else none
def eKG (tab : List (NestedKey × D)) (fa fb : En → R D) : En → R D := e2 (kgetD tab) fa fb
def rKG (P : Program) (w : World) (s : List (NestedKey × V)) : R2 := fun y z H Q => ∃ (b : Addr) (k : NestedKey), y = .ref b ∧ (∀ h, HOk P w H h → NestedIs h k (.ref b)) ∧ k.depth ≤ 8 ∧ Q ((lookN s k).getD z) H
theorem fits_kget {P : Program} {w : World} {K : KX} {tab : List (NestedKey × D)} {s : List (NestedKey × V)} (ht : tabV tab = some s) : Fits2 K (kgetD tab) (rKG P w s) := by
  intro O H x y v1 v2 o1 o2 d Q r1 r2 nd m e dn
  unfold kgetD at e
  split at e
  · rename_i hx
    obtain ⟨k, hk, e⟩ := Option.bind_eq_some_iff.mp e
    split at e
    · rename_i hd
      cases e
      have hb : ∃ b, v1 = .ref b := by
        cases x <;> simp [isTup] at hx
        cases r1 with
        | tup h r => exact ⟨_, rfl⟩
      obtain ⟨b, rfl⟩ := hb
      refine ⟨b, k, rfl, fun h ok => nest_of ok r1 hk rfl, hd, ?_⟩
      rcases tabV_look (k := k) ht with ⟨e1, e2⟩ | ⟨d, v, e1, e2, e3⟩
      · rw [e1] at dn
        rw [e2]
        exact dn v2 H o2 (Same.refl _) (r2.keep (fun a o e z => z.elim id fun z => m a (List.mem_append_right _ z)) (Kept.of_same (Same.refl _) _)) (List.nodup_append.mp nd).2.1 fun a h => .inl (List.mem_append_right _ h)
      · rw [e1] at dn
        rw [e2]
        exact dn.flat fun _ => atV_rep e3
    · cases e
  · cases e
section
variable {X : CY} {W : WX} {Sa Sb : List Nat} {x : Str} {a : Addr} {tab : List (NestedKey × D)} {s : List (NestedKey × V)} {e f : Expr} {fa fb : En → R D} {p apos cpos : Pos}
theorem de_kget (T : KDN X.prog X.w X.K a s) (ht : tabV tab = some s) (hu : X.A.units + 65 < cLine) (hm : X.mg x = some (.ref a)) (he : DE X W Sa e fa) (hf : DE X W Sb f fb)
    (m1 : attributeBase (.Name x p) "get" X.env (eval (.Name x p) X.env) = eval (.Name x p) X.env := by rfl)
    (m2 : ((backTo cpos (starEach [e, f] X.env)).all (fun x => !x.1) && (backToKw cpos (keywordEach [] X.env)).all (fun x => x.1.isSome) && decide (([e, f] : List Expr).length + ([] : List Keyword).length + (if ([] : List Keyword).isEmpty then 0 else 1) < 30)) = true := by rfl)
    (m3 : (apos.endLine == cpos.line) = true := by rfl) (m4 : backTo cpos (starEach [e, f] X.env) = [(false, eval e X.env), (false, eval f X.env)] := by rfl)
    (hg : Gl X x := by rfl) (hd : (x == ("__debug__" : Str)) = false := by decide) : DE X W (Sa ++ Sb) (.Call (.Attribute (.Name x p) "get" apos) [e, f] [] cpos) (eKG tab fa fb) :=
  ⟨(pe_kget T hu hm he.pe hf.pe ⟨m1, m2, m3, m4⟩ hg hd).imp fun σ H Q h => rd2 (fits_kget ht) h⟩
end
/-! ### its facts -/
def optL {α : Type} : List (Option α) → Option (List α)
  | [] => some []
  | some a :: r => (optL r).map (a :: ·)
  | none :: _ => none
def nkV (K : Frag) : Nat → Value → Option NestedKey
  | _, .none => some .none
  | _, .bool b => some (.num (if b = true then 1 else 0))
  | _, .int i _ => some (.num i)
  | _, .str x _ => some (.text x)
  | n + 1, .ref b => match K.lookup b with
    | some ⟨.type "tuple", _, .seq vs _, _⟩ => (optL (vs.toList.map (nkV K n))).map .tup
    | _ => none
  | _, _ => none
def nkVs (K : Frag) (n : Nat) (vs : List Value) : Option (List NestedKey) := optL (vs.map (nkV K n))
theorem nkVs_cons {K : Frag} {n : Nat} {v : Value} {r : List Value} {l : List NestedKey} (h : nkVs K n (v :: r) = some l) : ∃ k ks, nkV K n v = some k ∧ nkVs K n r = some ks ∧ l = k :: ks := by
  unfold nkVs at h
  rw [List.map_cons] at h
  cases e : nkV K n v with
  | none => rw [e] at h; cases h
  | some k =>
    rw [e] at h
    obtain ⟨ks, h1, h2⟩ := Option.map_eq_some_iff.mp h
    exact ⟨k, ks, rfl, h1, h2.symm⟩
theorem nkVs_of {K : Frag} {h : Heap} {n : Nat} (hv : ∀ v k, nkV K n v = some k → NestedIs h k v) : ∀ {vs : List Value} {ks : List NestedKey}, nkVs K n vs = some ks → NestedAll h ks vs
  | [], _, e => by cases e; exact .nil
  | v :: r, _, e => by
    obtain ⟨k, ks, e1, e2, rfl⟩ := nkVs_cons e
    exact .cons (hv _ _ e1) (nkVs_of hv e2)
theorem nkV_ok {K : Frag} {h : Heap} (X : K.In h) : ∀ (n : Nat) (v : Value) (k : NestedKey), nkV K n v = some k → NestedIs h k v := by
  intro n
  induction n with
  | zero =>
    intro v k e
    cases v with
    | none => simp only [nkV] at e; cases e; exact .none
    | bool b => simp only [nkV] at e; cases e; exact .bool rfl
    | int i t => simp only [nkV] at e; cases e; exact .int _ _
    | str x t => simp only [nkV] at e; cases e; exact .text _ _
    | _ => simp [nkV] at e
  | succ n ih =>
    intro v k e
    cases v with
    | none => simp only [nkV] at e; cases e; exact .none
    | bool b => simp only [nkV] at e; cases e; exact .bool rfl
    | int i t => simp only [nkV] at e; cases e; exact .int _ _
    | str x t => simp only [nkV] at e; cases e; exact .text _ _
    | ref b =>
      simp only [nkV] at e
      split at e
      · rename_i dd vs m sl ho
        obtain ⟨ks, e1, e2⟩ := Option.map_eq_some_iff.mp e
        subst e2
        exact .tup (X _ _ ho) rfl rfl (nkVs_of ih e1)
      · cases e
    | _ => simp [nkV] at e
def vB : V → Value → Bool
  | .str x, .str y _ => x == y
  | .int i, .int j _ => i == j
  | .bl a, .bool b => a == b
  | .non, .none => true
  | _, _ => false
theorem vB_ok {v : V} {u : Value} (h : vB v u = true) : RelV v u := by
  unfold vB at h
  split at h
  · rw [beq_iff_eq.mp h]; exact ⟨_, rfl⟩
  · rw [beq_iff_eq.mp h]; exact ⟨_, rfl⟩
  · rw [beq_iff_eq.mp h]; exact rfl
  · exact rfl
  · cases h
def entB (P : Program) (w : World) (K : Frag) : List DictEntry → List (NestedKey × V) → Bool
  | [], [] => true
  | e :: es, (k, v) :: r => (match e.key with
      | .ref b => decide (nkV K 9 (.ref b) = some k)
      | _ => false) && (decide (k.depth ≤ 8) && (decide ((nestedKind P w).hash k = e.hash) && (vB v e.val && entB P w K es r)))
  | _, _ => false
theorem entB_ok {P : Program} {w : World} {K : Frag} : ∀ {es : List DictEntry} {tab : List (NestedKey × V)}, entB P w K es tab = true → ∃ xs : List (NestedKey × Addr × Value), es = xs.map (entryOfKey (nestedKind P w)) ∧ (∀ h, K.In h → ∀ x ∈ xs, (nestedKind P w).is h x.1 x.2.1) ∧ xs.map (·.1) = tab.map (·.1) ∧
    Paired (fun (p : NestedKey × V) (q : NestedKey × Value) => p.1 = q.1 ∧ RelV p.2 q.2) tab (pairsH xs)
  | [], [], _ => ⟨[], rfl, fun _ _ _ h => (nomatch h), rfl, .nil⟩
  | ⟨hs, ky, vl⟩ :: es, (k, v) :: r, h => by
    simp only [entB, Bool.and_eq_true, decide_eq_true_eq] at h
    obtain ⟨h1, h2, h3, h4, h5⟩ := h
    obtain ⟨xs, e1, e2, e3, e4⟩ := entB_ok h5
    split at h1
    · rename_i b
      have h1 := of_decide_eq_true h1
      refine ⟨(k, b, vl) :: xs, ?_, fun hp X x hx => ?_, by simp [e3], .cons ⟨rfl, vB_ok h4⟩ e4⟩
      · rw [List.map_cons, ← e1]
        show _ = (⟨(nestedKind P w).hash k, .ref b, vl⟩ : DictEntry) :: es
        rw [h3]
      · rcases List.mem_cons.mp hx with rfl | hx
        · exact ⟨nkV_ok X _ _ _ h1, h2⟩
        · exact e2 hp X x hx
    · cases h1
  | [], _ :: _, h => by simp [entB] at h
  | _ :: _, [], h => by simp [entB] at h
theorem kdn_mk {P : Program} {w : World} {K : Frag} {a : Addr} {es : Array DictEntry} {n : Nat} {tab : List (NestedKey × V)} (l : K.lookup a = some ⟨.type "dict", none, .dict es n, #[]⟩) (hs : (a == sysModules) = false) (hB : entB P w K es.toList tab = true)
    (nd : (tab.map (·.1)).Nodup) : KDN P w K a tab := by
  obtain ⟨xs, e1, e2, e3, e4⟩ := entB_ok hB
  exact ⟨hs, ⟨_, l, rfl, rfl⟩, pairsH xs, fun h X => ⟨xs, ⟨_, es, n, X _ _ l, ⟨rfl, rfl, rfl⟩, rfl, e1, e2 h X, by rw [e3]; exact nd⟩, rfl⟩, e4⟩
end TL
/-! T30: texts that are walked, signs in texts, tuple.index -/
namespace TL
open PySem PySem.Spec PyProof.Rows L2 PySem.W

/-! ### a list, a tuple or a text is walked -/
def signs (z : Str) : List D := z.cps.toList.map fun c => .str ⟨#[c]⟩
def seqItems2 : D → R (List D)
  | .str z => small (signs z)
  | d => seqItems d
def iSeq2 (f : En → R D) : En → R (List D) := fun ρ => (f ρ).bind seqItems2
section
variable {X : CY} {W : WX} {S : List Nat} {tg l : Expr} {fe : En → R D}
theorem it_str {K : KX} {O : Addr → Prop} {H : Hp} (z : Str) : ItOk K O (Its z) H (signs z) := by
  intro H2 k i
  refine ⟨fun d hd => ?_, fun hi => by
    unfold signs at hi
    have hi' : z.cps.size ≤ i := by simpa using hi
    exact hi'⟩
  unfold signs at hd
  rw [List.getElem?_map] at hd
  obtain ⟨c, hc, rfl⟩ := Option.map_eq_some_iff.mp hd
  have hc' : z.cps[i]? = some c := by simpa using hc
  refine ⟨(Array.getElem?_eq_some_iff.mp hc').1, fun x H3 y => ?_⟩
  obtain ⟨e0, c', e, e1⟩ := y
  subst e0 e1
  rw [hc'] at e
  cases e
  exact ⟨Same.refl _, fun O' _ => .str _⟩
theorem pi_seq2 {X : Cx} {tg l : Expr} {tl : TE} (hl : PE X l tl) : PI X tg l (fun σ H R => tl σ H fun x H1 => (∃ a, x = .ref a ∧ (((∃ xs, SqL X.K H1 a xs ∧ (xs.length ≤ sizeLine → R (Itl X.K a) H1))) ∨ ((∃ xs, SqT X.K H1 a xs ∧ (xs.length ≤ sizeLine → R (Itt X.K a) H1))))) ∨ ∃ z, x = .str z ∧ R (Its z) H1) :=
  ⟨fun pins s σ H R I h => thn (hl.run pins s σ H _ I h) fun v t ⟨x, H1, J, rx, c⟩ => by
    rcases c with ⟨a, ex, c⟩ | ⟨z, ex, q⟩
    · subst ex
      cases rx
      rcases c with ⟨xs, q, k⟩ | ⟨xs, q, k⟩
      · obtain ⟨us, _, pl, z⟩ := J.list q
        exact wpAny_pyIter_list pl.isList (pi_one (tk := t.toks) J _ (turn_list a _) ⟨_, Heap.get?_push_size _ rfl, rfl, rfl⟩ (k z))
      · obtain ⟨us, _, pt, z⟩ := J.tuple q
        exact wpAny_pyIter_tuple (items := us.toArray) pt (pi_one (tk := t.toks) J _ (turn_tuple a _) ⟨_, Heap.get?_push_size _ rfl, rfl, rfl⟩ (k z))
    · subst ex
      obtain ⟨tk, rfl⟩ := rx
      cases ha : z.cps.all (· < 128)
      · exact wpAny_pyIter_wide ha (pi_one (tk := t.toks) J _ (turn_str _ z tk "str_iterator" (.inr rfl)) ⟨_, Heap.get?_push_size _ rfl, rfl, rfl⟩ q)
      · exact wpAny_pyIter_ascii ha (pi_one (tk := t.toks) J _ (turn_str _ z tk "str_ascii_iterator" (.inl rfl)) ⟨_, Heap.get?_push_size _ rfl, rfl, rfl⟩ q)⟩
theorem di_seq2 (he : DE X W S l fe) : DI X W S tg l (iSeq2 fe) :=
  ⟨(pi_seq2 he.pe).imp fun σ H R ⟨ρ, ow, B, s, h⟩ => by
    refine ⟨ρ, ow, B, s, ?_⟩
    unfold iSeq2 at h
    cases e : fe ρ with
    | stuck => rw [e] at h; exact h
    | exc C fs => rw [e] at h; exact h
    | ok d =>
      rw [e] at h
      simp only [TL.R.bnd] at h
      intro v H' os q r nd n
      by_cases hs : ∃ z, d = .str z
      · obtain ⟨z, rfl⟩ := hs
        cases r
        refine .inr ⟨z, rfl, ?_⟩
        have h' : match small (signs z) with
          | .ok ds => ∀ J H', Same H H' → ItOk (kx X) (OutS S ow B []) J H' ds → ds.length ≤ sizeLine → R J H'
          | .exc C fs => rdEx (kx X) W σ H C fs
          | .stuck => False := h
        rcases small_cases (signs z) with e1 | ⟨e1, hb⟩
        · rw [e1] at h'; exact h'.elim
        · rw [e1] at h'
          exact h' _ H' q (it_str z) (by rw [sizeLine_eq]; exact hb)
      · have e2 : seqItems2 d = seqItems d := by
          cases d with
          | str z => exact absurd ⟨z, rfl⟩ hs
          | _ => rfl
        rw [e2] at h
        refine .inl ?_
        have r' := r.frz (O' := OutS S ow B []) fun a o e z => ⟨z.imp id (fun z => z.imp id fun z => nomatch z), fun m => by
          rcases z with ⟨i, z, _⟩ | z | z
          · exact s.there z (n a m)
          · exact s.bt a z (n a m)
          · exact nomatch z⟩
        cases d with
        | lst o xs =>
          have r'' : RepD (kx X) (OutS S ow B []) H' (.lst false (frzL xs)) v [] := r'
          cases r'' with
          | lstF hh n0 rl => exact ⟨_, rfl, .inl ⟨_, .inl hh, fun hz => h _ H' q (it_list (.inl ⟨hh, n0⟩) rl) (by rw [rl.length]; exact hz)⟩⟩
        | kl xs =>
          have r'' : RepD (kx X) (OutS S ow B []) H' (.kl (frzL xs)) v [] := r'
          cases r'' with
          | kl hh rl => exact ⟨_, rfl, .inl ⟨_, hh.imp (fun q => q.1) id, fun hz => h _ H' q (it_list hh rl) (by rw [rl.length]; exact hz)⟩⟩
        | tup xs =>
          have r'' : RepD (kx X) (OutS S ow B []) H' (.tup (frzL xs)) v [] := r'
          cases r'' with
          | tup hh rl => exact ⟨_, rfl, .inr ⟨_, .inl (.inl hh), fun hz => h _ H' q (it_tup (.inl hh) rl) (by rw [rl.length]; exact hz)⟩⟩
        | kt xs =>
          have r'' : RepD (kx X) (OutS S ow B []) H' (.kt (frzL xs)) v [] := r'
          cases r'' with
          | kt hh rl => exact ⟨_, rfl, .inr ⟨_, .inr hh, fun hz => h _ H' q (it_tup (.inr hh) rl) (by rw [rl.length]; exact hz)⟩⟩
        | str z => exact absurd ⟨z, rfl⟩ hs
        | _ => exact h.elim⟩
end
/-! ### signs in texts -/
def gInG (neg : Bool) : D → D → Option D := fun x y => match y with
  | .str z => match x with
    | .str w => match w.cps.toList with
      | [c] => some (.bl (if neg then !decide (c ∈ z.cps.toList) else decide (c ∈ z.cps.toList)))
      | _ => none
    | _ => none
  | _ => gIn neg x y
def rInW (neg : Bool) : R2 := fun x y H Q => ∃ (c : Nat) (z : Str), x = .str ⟨#[c]⟩ ∧ y = .str z ∧ Q (.bl (if neg then !decide (c ∈ z.cps.toList) else decide (c ∈ z.cps.toList))) H
theorem op_inW {X : Cx} (hu : X.A.units + 65 < cLine) : OpR X (compareOp .In) (fun x y H Q => (rInS X.K false x y H Q ∨ rInDc false x y H Q) ∨ rInW false x y H Q) := (op_inG hu).or op_in_sign
theorem op_niW {X : Cx} (hu : X.A.units + 65 < cLine) : OpR X (compareOp .NotIn) (fun x y H Q => (rInS X.K true x y H Q ∨ rInDc true x y H Q) ∨ rInW true x y H Q) := (op_niG hu).or op_notIn_sign
theorem fits_inW {K : KX} {neg : Bool} : Fits2 K (gInG neg) (fun x y H Q => (rInS K.fr neg x y H Q ∨ rInDc neg x y H Q) ∨ rInW neg x y H Q) := by
  intro O H x y v1 v2 o1 o2 d Q r1 r2 nd m e dn
  cases y with
  | str z =>
    cases x with
    | str w =>
      simp only [gInG] at e
      split at e
      · rename_i c hc
        cases e
        cases r1
        cases r2
        have hw : w = ⟨#[c]⟩ := by
          obtain ⟨⟨l⟩⟩ := w
          simp only at hc
          subst hc
          rfl
        exact .inr ⟨c, z, by rw [hw], rfl, dn.flat fun _ => .bl _⟩
      · cases e
    | _ => simp [gInG] at e
  | _ => exact .inl (fits_in O H _ _ v1 v2 o1 o2 d Q r1 r2 nd m e dn)
/-! ### tuple.index -/
def gIndexT : D → List D → Option D
  | .tup xs, [y] => if okN 9 y && okN 9 (.tup xs) then (posD y xs).map fun (j : Nat) => D.int (j : Int) else none
  | _, _ => none
def rIndexT (K : Frag) : V → V → Hp → VK → Prop := fun x y H Q => ∃ (a : Addr) (d : PyData) (ds : List PyData) (j : Nat) (z : PyData), x = V.ref a ∧ Dp K H x (.tuple ds) ∧ Dp K H y d ∧
  SeqAt.shaped (.tuple ds) = true ∧ SeqAt.shaped d = true ∧ ds[j]? = some z ∧ PyData.eqv z d = true ∧ (∀ (m : Nat) (z' : PyData), m < j → ds[m]? = some z' → PyData.eqv z' d = false) ∧ Q (.int (j : Nat)) H
theorem call_tupIndex {X : Cx} (hu : X.A.units + 65 < cLine) {pins : List (Addr × Obj)} {σ : L2.St} {H : Hp} {s : Shared} {x y : V} {v u : Value} {Q : VK} (I : L2.Inv X pins σ H s) (rx : RelV x v) (ry : RelV y u) (h : rIndexT X.K x y H Q) :
    wpAny (model X.prog X.w) X.A (call (.builtin "tuple.index") [v, u]) (EP X pins σ Q) X.xe s := by
  obtain ⟨a, d, ds, j, z, rfl, hl, hy, sl, sd, hz, hzj, hno, q⟩ := h
  cases rx
  obtain ⟨bs, r1⟩ := Dp.reads I d y u hy ry
  have hxs : PyData.canLayAll0 ds = true := SeqAt.canLay_of_shaped sl
  have hroom : X.A.units + 1 + min (PyData.depthAll ds) d.depth < cLine := room_in_shaped sd hu
  cases hl with
  | tup hs ha =>
    obtain ⟨its, rv, ⟨⟨cls, dd, data, sls⟩, ho, hc, n, hdt⟩, hlen⟩ := I.tuple hs
    simp only at hc hdt
    subst hc hdt
    obtain ⟨as, h4⟩ := Dp.readsAll I ds _ its ha rv
    have hn : its.length = ds.length := SeqAt.ReadsAll.length ds its as h4
    have hmap : its.map (SeqAt.readOf s.heap) = ds := SeqAt.readsAll_map ds its as hxs h4
    obtain ⟨hjd, _⟩ := List.getElem?_eq_some_iff.mp hz
    have hjl : j < its.length := by omega
    have hj : j < its.toArray.size := by simpa using hjl
    have at_ : ∀ (m : Nat) (hm : m < its.toArray.size) (z' : PyData), ds[m]? = some z' → SeqAt.readOf s.heap its.toArray[m] = z' := by
      intro m hm z' hz'
      have hml : m < its.length := by simpa using hm
      rw [← hmap, List.getElem?_map, List.getElem?_eq_getElem hml] at hz'
      have e1 : SeqAt.readOf s.heap its[m] = z' := Option.some.inj (show some (SeqAt.readOf s.heap its[m]) = some z' from hz')
      simpa using e1
    refine call_meets PySem.F.slot_tuple_index ⟨_, ho, rfl⟩ PySem.F.entry_tuple_index (PySem.F.args_tuple_index_2 _ _)
      (TI.tuple_indexAt a its.toArray n dd sls u (fun u => PyData.eqv (SeqAt.readOf s.heap u) d) j hj ?_ ?_) ⟨ho, SeqAt.items_eqAt (vs := its.toArray) (show ReadsAll s.heap its.toArray.toList ds as from h4) r1 hxs (SeqAt.canLay_of_shaped sd) hroom, ?_⟩
    · show PyData.eqv (SeqAt.readOf s.heap its.toArray[j]) d = true
      rw [at_ j hj z hz]
      exact hzj
    · intro m hm hmj
      have hmd : m < ds.length := by omega
      have hz' : ds[m]? = some ds[m] := List.getElem?_eq_getElem hmd
      show PyData.eqv (SeqAt.readOf s.heap its.toArray[m]) d = false
      rw [at_ m hm _ hz']
      exact hno m _ hmj hz'
    · exact ⟨.int (j : Nat), H, I.tok _, ⟨_, rfl⟩, q⟩
def tIxT (K : Frag) (to te : TE) : TE := fun σ H Q => to σ H fun x H1 => (∃ a xs, x = .ref a ∧ SqT K H1 a xs ∧ ∀ o, K.lookup a = some o → o.dict = none) ∧ te σ H1 fun y H2 => rIndexT K x y H2 Q
end TL
/-! T31: written dicts with texts as keys -/
namespace TL
open PySem PySem.Spec PyProof.Rows L2 PySem.W
structure KDS (w : World) (K : Frag) (a : Addr) (tab : List (Str × V)) : Prop where
  dk : ∀ z v, tab.lookup z = some v → KDct K w a z v
def kdsB (K : Frag) (a : Addr) (tab : List (Str × V)) : Bool := tab.all fun p => match nsIn K a p.1 with
  | some (some u) => vB p.2 u
  | _ => false
theorem kds_mk {w : World} {K : Frag} {a : Addr} {es : Array DictEntry} {n : Nat} {tab : List (Str × V)} (l : K.lookup a = some ⟨.type "dict", none, .dict es n, #[]⟩) (hk : KeysLit w.params es.toList) (hB : kdsB K a tab = true) : KDS w K a tab := ⟨fun z v h => by
  have hm : (z, v) ∈ tab := by
    clear hB
    induction tab with
    | nil => cases h
    | cons p r ih =>
      obtain ⟨k, u⟩ := p
      rw [List.lookup_cons] at h
      cases hk : z == k with
      | true =>
        rw [hk] at h
        cases h
        rw [beq_iff_eq.mp hk]
        exact List.mem_cons_self
      | false =>
        rw [hk] at h
        exact List.mem_cons_of_mem _ (ih h)
  have q := List.all_eq_true.mp hB (z, v) hm
  dsimp only at q
  split at q
  · rename_i u e
    exact ⟨es, n, u, l, hk, e, vB_ok q⟩
  · cases q⟩
def tabVS : List (Str × D) → Option (List (Str × V))
  | [] => some []
  | (k, d) :: r => match atV d, tabVS r with
    | some v, some s => some ((k, v) :: s)
    | _, _ => none
theorem tabVS_look {k : Str} {d : D} : ∀ {tab : List (Str × D)} {s : List (Str × V)}, tabVS tab = some s → tab.lookup k = some d → ∃ v, s.lookup k = some v ∧ atV d = some v
  | [], s, h, e => nomatch e
  | (k1, d1) :: tab, s, h, e => by
    simp only [tabVS] at h
    split at h
    · rename_i v s1 e1 e2
      cases h
      rw [List.lookup_cons] at e ⊢
      cases hk : k == k1 with
      | true => rw [hk] at e; cases e; exact ⟨v, rfl, e1⟩
      | false => rw [hk] at e; exact tabVS_look e2 e
    · cases h
def kixD (tab : List (Str × D)) : D → Option D
  | .str z => tab.lookup z
  | _ => none
def eKI (tab : List (Str × D)) (fe : En → R D) : En → R D := e1 (kixD tab) fe
section
variable {X : CY} {W : WX} {S : List Nat} {x : Str} {a : Addr} {tab : List (Str × D)} {s : List (Str × V)} {e : Expr} {fe : En → R D} {p pos : Pos}
theorem de_kix (T : KDS X.w X.K a s) (ht : tabVS tab = some s) (hm : X.mg x = some (.ref a)) (he : DE X W S e fe) (hs : PlainIx e) (hg : Gl X x := by rfl) (hd : (x == ("__debug__" : Str)) = false := by decide) : DE X W S (.Subscript (.Name x p) e pos) (eKI tab fe) :=
  ⟨(pe_ix ix_kdict (pe_glob (v := .ref a) hg hm rfl hd) he.pe hs).imp fun σ H Q h => by
    have h2 := rd1 (r := fun y H1 Q => rIxD X.K X.w (.ref a) y H1 Q) (fun O H x v o d Q r nd m e dn => by
      unfold kixD at e
      split at e
      · rename_i z
        cases r
        obtain ⟨v, h1, h2⟩ := tabVS_look ht e
        exact ⟨a, z, v, rfl, rfl, T.dk z v h1, dn.flat fun _ => atV_rep h2⟩
      · cases e) h
    exact h2⟩
end
end TL
/-! P0: computing with mirrors -/
namespace TL
open PySem PySem.Spec PyProof.Rows L2

/-! ### one step each -/
def Out.seq : Out → (En → Out) → Out
  | .nx ρ, g => g ρ
  | o, _ => o
@[simp] theorem Out.seq_nx (ρ : En) (g : En → Out) : (Out.nx ρ).seq g = g ρ := rfl
@[simp] theorem Out.seq_ret (d : D) (g : En → Out) : (Out.ret d).seq g = .ret d := rfl
@[simp] theorem Out.seq_bk (ρ : En) (g : En → Out) : (Out.bk ρ).seq g = .bk ρ := rfl
@[simp] theorem Out.seq_ct (ρ : En) (g : En → Out) : (Out.ct ρ).seq g = .ct ρ := rfl
@[simp] theorem Out.seq_exc (ρ : En) (C fs) (g : En → Out) : (Out.exc ρ C fs).seq g = .exc ρ C fs := rfl
@[simp] theorem Out.seq_stuck (g : En → Out) : Out.stuck.seq g = .stuck := rfl
theorem Out.seq_ite (c : Prop) [Decidable c] (a b : Out) (g : En → Out) : (if c then a else b).seq g = if c then a.seq g else b.seq g := by split <;> rfl
@[simp] theorem sSeq_app (f g : En → Out) (ρ : En) : sSeq f g ρ = (f ρ).seq g := by unfold sSeq Out.seq; cases f ρ <;> rfl
@[simp] theorem sNx_app (ρ : En) : sNx ρ = .nx ρ := rfl
@[simp] theorem sBk_app (ρ : En) : sBk ρ = .bk ρ := rfl
@[simp] theorem sCt_app (ρ : En) : sCt ρ = .ct ρ := rfl
@[simp] theorem sIf_app (c : En → R Bool) (f g : En → Out) (ρ : En) : sIf c f g ρ = lift (c ρ) ρ fun b => if b then f ρ else g ρ := rfl
@[simp] theorem sRet_app (f : En → R D) (ρ : En) : sRet f ρ = lift (f ρ) ρ .ret := rfl
@[simp] theorem sRetN_app (ρ : En) : sRetN ρ = .ret .non := rfl
@[simp] theorem sDrop_app (f : En → R D) (ρ : En) : sDrop f ρ = lift (f ρ) ρ fun _ => .nx ρ := rfl
@[simp] theorem sSet_app (i : Nat) (S : List Nat) (f : En → R D) (ρ : En) : sSet i S f ρ = lift (f ρ) ρ fun d => .nx ((if d.clean then ρ else frzAt S ρ).set i (some d)) := rfl
def retAt : Option (Option D) → Out
  | some (some d) => .ret d
  | _ => .stuck
@[simp] theorem sRetV_app (i : Nat) (ρ : En) : sRetV i ρ = retAt ρ[i]? := by unfold sRetV retAt; cases ρ[i]? with | none => rfl | some x => cases x <;> rfl
@[simp] theorem retAt_some (d : D) : retAt (some (some d)) = .ret d := rfl
def readAt : Option (Option D) → R D
  | some (some d) => .ok d.frz
  | _ => .stuck
@[simp] theorem eVar_app (i : Nat) (ρ : En) : eVar i ρ = readAt ρ[i]? := by unfold eVar readAt; cases ρ[i]? with | none => rfl | some x => cases x <;> rfl
@[simp] theorem readAt_some (d : D) : readAt (some (some d)) = .ok d.frz := rfl
@[simp] theorem eC_app (d : D) (ρ : En) : eC d ρ = .ok d := rfl
@[simp] theorem e1_app (g : D → Option D) (fa : En → R D) (ρ : En) : e1 g fa ρ = (fa ρ).bind fun x => ofO (g x) := rfl
@[simp] theorem e2_app (g : D → D → Option D) (fa fb : En → R D) (ρ : En) : e2 g fa fb ρ = (fa ρ).bind fun x => (fb ρ).bind fun y => ofO (g x y) := rfl
@[simp] theorem eN_app (g : List D → Option D) (fa : En → R (List D)) (ρ : En) : eN g fa ρ = (fa ρ).bind fun x => ofO (g x) := rfl
@[simp] theorem eNil_app (ρ : En) : eNil ρ = .ok [] := rfl
@[simp] theorem eCons_app (fa : En → R D) (fb : En → R (List D)) (ρ : En) : eCons fa fb ρ = (fa ρ).bind fun x => (fb ρ).bind fun y => .ok (x :: y) := rfl
@[simp] theorem eCall_app (F : List D → R D) (fa : En → R (List D)) (ρ : En) : eCall F fa ρ = (fa ρ).bind fun ds => F (frzL ds) := rfl
@[simp] theorem tV_app (f : En → R D) (ρ : En) : tV f ρ = (f ρ).bind asB := rfl
@[simp] theorem asB_bl (b : Bool) : asB (.bl b) = .ok b := rfl
@[simp] theorem tNotC_app (f : En → R Bool) (ρ : En) : tNotC f ρ = (f ρ).bind fun b => .ok (!b) := rfl
@[simp] theorem tAndC_app (f g : En → R Bool) (ρ : En) : tAndC f g ρ = (f ρ).bind fun b => if b then g ρ else .ok false := rfl
@[simp] theorem tOrC_app (f g : En → R Bool) (ρ : En) : tOrC f g ρ = (f ρ).bind fun b => if b then .ok true else g ρ := rfl
@[simp] theorem eAnd_app (f g : En → R D) (ρ : En) : eAnd f g ρ = (f ρ).bind fun x => (asB x).bind fun b => if b then g ρ else .ok (.bl false) := rfl
@[simp] theorem eOr_app (f g : En → R D) (ρ : En) : eOr f g ρ = (f ρ).bind fun x => (asB x).bind fun b => if b then .ok (.bl true) else g ρ := rfl
@[simp] theorem eNot_app (f : En → R D) (ρ : En) : eNot f ρ = (f ρ).bind fun x => (asB x).bind fun b => .ok (.bl (!b)) := rfl
@[simp] theorem eIf_app (c : En → R Bool) (f g : En → R D) (ρ : En) : eIf c f g ρ = (c ρ).bind fun b => if b then f ρ else g ρ := rfl
@[simp] theorem eCh_app (g g' : D → D → Option D) (fa fb fc : En → R D) (ρ : En) : eCh g g' fa fb fc ρ = (fa ρ).bind fun x => (fb ρ).bind fun y => chK g g' fc ρ x y := rfl
@[simp] theorem chK_int (g g' : D → D → Option D) (fc : En → R D) (ρ : En) (x : D) (j : Int) : chK g g' fc ρ x (.int j) = (ofO (g x (.int j))).bind fun b => (asB b).bind fun k => if k then (fc ρ).bind fun z => ofO (g' (.int j) z) else .ok (.bl false) := rfl
@[simp] theorem eBM_app (T : String) (g : D → List D → Option D) (fe : En → R D) (fa : En → R (List D)) (ρ : En) : eBM T g fe fa ρ = (fe ρ).bind fun x => if tyR T x then (fa ρ).bind fun ys => ofO (g x ys) else .stuck := rfl
@[simp] theorem eSl_app (f : En → R D) (lo hi : En → R (Option Int)) (ρ : En) : eSl f lo hi ρ = (f ρ).bind fun x => (lo ρ).bind fun l => (hi ρ).bind fun h => ofO (gSl x l h) := rfl
@[simp] theorem oNone_app (ρ : En) : oNone ρ = .ok none := rfl
def toInt : D → R (Option Int)
  | .int i => .ok (some i)
  | _ => .stuck
@[simp] theorem oSome_app (f : En → R D) (ρ : En) : oSome f ρ = (f ρ).bind toInt := rfl
@[simp] theorem toInt_int (i : Int) : toInt (.int i) = .ok (some i) := rfl
theorem R.bind_ite {α β : Type} (c : Prop) [Decidable c] (a b : R α) (f : α → R β) : (if c then a else b).bind f = if c then a.bind f else b.bind f := by split <;> rfl
theorem lift_ite {α : Type} (c : Prop) [Decidable c] (a b : R α) (ρ : En) (k : α → Out) : lift (if c then a else b) ρ k = if c then lift a ρ k else lift b ρ k := by split <;> rfl

/-! ### freezing and the like -/
@[simp] theorem frz_non : D.non.frz = .non := rfl
@[simp] theorem frz_bl (b : Bool) : (D.bl b).frz = .bl b := rfl
@[simp] theorem frz_int (i : Int) : (D.int i).frz = .int i := rfl
@[simp] theorem frz_str (x : Str) : (D.str x).frz = .str x := rfl
@[simp] theorem frz_tup (xs : List D) : (D.tup xs).frz = .tup (frzL xs) := rfl
@[simp] theorem frz_kt (xs : List D) : (D.kt xs).frz = .kt (frzL xs) := rfl
@[simp] theorem frz_kl (xs : List D) : (D.kl xs).frz = .kl (frzL xs) := rfl
@[simp] theorem frz_lst (o : Bool) (xs : List D) : (D.lst o xs).frz = .lst false (frzL xs) := rfl
@[simp] theorem frzL_nil : frzL [] = [] := rfl
@[simp] theorem frzL_cons (d : D) (xs : List D) : frzL (d :: xs) = d.frz :: frzL xs := rfl
theorem frzL_map : ∀ xs : List D, frzL xs = xs.map D.frz
  | [] => rfl
  | d :: r => congrArg (d.frz :: ·) (frzL_map r)
@[simp] theorem frzL_append (xs ys : List D) : frzL (xs ++ ys) = frzL xs ++ frzL ys := by rw [frzL_map, frzL_map, frzL_map, List.map_append]
@[simp] theorem clean_non : D.non.clean = true := rfl
@[simp] theorem clean_bl (b : Bool) : (D.bl b).clean = true := rfl
@[simp] theorem clean_int (i : Int) : (D.int i).clean = true := rfl
@[simp] theorem clean_str (x : Str) : (D.str x).clean = true := rfl
@[simp] theorem clean_tup (xs : List D) : (D.tup xs).clean = cleanL xs := rfl
@[simp] theorem clean_lst (o : Bool) (xs : List D) : (D.lst o xs).clean = (o && cleanL xs) := rfl
@[simp] theorem cleanL_nil : cleanL [] = true := rfl
@[simp] theorem cleanL_cons (d : D) (xs : List D) : cleanL (d :: xs) = (d.clean && cleanL xs) := rfl
theorem cleanL_all : ∀ xs : List D, cleanL xs = xs.all D.clean
  | [] => rfl
  | d :: r => congrArg (d.clean && ·) (cleanL_all r)
@[simp] theorem cleanL_append (xs ys : List D) : cleanL (xs ++ ys) = (cleanL xs && cleanL ys) := by rw [cleanL_all, cleanL_all, cleanL_all, List.all_append]
@[simp] theorem val_int (i : Int) : (D.int i).val = true := rfl
@[simp] theorem val_str (i : Str) : (D.str i).val = true := rfl
@[simp] theorem val_bl (i : Bool) : (D.bl i).val = true := rfl
@[simp] theorem val_non : D.non.val = true := rfl
@[simp] theorem val_tup (xs : List D) : (D.tup xs).val = valL xs := rfl
@[simp] theorem valL_nil : valL [] = true := rfl
@[simp] theorem valL_cons (d : D) (xs : List D) : valL (d :: xs) = (d.val && valL xs) := rfl
theorem valL_all : ∀ xs : List D, valL xs = xs.all D.val
  | [] => rfl
  | d :: r => congrArg (d.val && ·) (valL_all r)
@[simp] theorem valL_append (xs ys : List D) : valL (xs ++ ys) = (valL xs && valL ys) := by rw [valL_all, valL_all, valL_all, List.all_append]
theorem okNL_all (n : Nat) : ∀ xs : List D, okNL n xs = xs.all (okN n)
  | [] => by simp [okNL]
  | d :: r => by simp only [okNL, List.all_cons, okNL_all n r]
mutual
theorem val_frz : ∀ {d : D}, d.val = true → d.frz = d ∧ d.clean = true
  | .non, _ => ⟨rfl, rfl⟩
  | .bl _, _ => ⟨rfl, rfl⟩
  | .int _, _ => ⟨rfl, rfl⟩
  | .str _, _ => ⟨rfl, rfl⟩
  | .tup xs, h => by
    have q := valL_frz (xs := xs) h
    exact ⟨congrArg D.tup q.1, q.2⟩
  | .lst _ _, h => nomatch h
  | .kl _, h => nomatch h
  | .kt _, h => nomatch h
  | .xr _ _, h => nomatch h
  | .dct _ _ _, h => nomatch h
  | .ins _ _ _, h => nomatch h
theorem valL_frz : ∀ {xs : List D}, valL xs = true → frzL xs = xs ∧ cleanL xs = true
  | [], _ => ⟨rfl, rfl⟩
  | d :: r, h => by
    have h' := Bool.and_eq_true_iff.mp h
    have a := val_frz h'.1
    have b := valL_frz h'.2
    exact ⟨by rw [frzL_cons, a.1, b.1], by rw [cleanL_cons, a.2, b.2]; rfl⟩
end

@[simp] theorem cleanL_reverse (xs : List D) : cleanL xs.reverse = cleanL xs := by rw [cleanL_all, cleanL_all, List.all_reverse]
@[simp] theorem valL_reverse (xs : List D) : valL xs.reverse = valL xs := by rw [valL_all, valL_all, List.all_reverse]
@[simp] theorem frzL_reverse (xs : List D) : frzL xs.reverse = (frzL xs).reverse := by rw [frzL_map, frzL_map, List.map_reverse]

/-! ### operators -/
@[simp] theorem gPow_10_18 : gPow (.int 10) (.int 18) = some (.int 1000000000000000000) := rfl
@[simp] theorem gPow_10_9 : gPow (.int 10) (.int 9) = some (.int 1000000000) := rfl
@[simp] theorem gAdd_int (i j : Int) : gAdd (.int i) (.int j) = some (.int (i + j)) := rfl
@[simp] theorem gSub_int (i j : Int) : gSub (.int i) (.int j) = some (.int (i - j)) := rfl
@[simp] theorem gNeg_int (i : Int) : gNeg (.int i) = some (.int (-i)) := rfl
@[simp] theorem gLt_int (i j : Int) : gLt (.int i) (.int j) = some (.bl (decide (i < j))) := rfl
@[simp] theorem gLe_int (i j : Int) : gLe (.int i) (.int j) = some (.bl (decide (i ≤ j))) := rfl
@[simp] theorem gGt_int (i j : Int) : gGt (.int i) (.int j) = some (.bl (decide (j < i))) := rfl
@[simp] theorem gGe_int (i j : Int) : gGe (.int i) (.int j) = some (.bl (decide (j ≤ i))) := rfl
theorem gMod_int {i j : Int} (h : 0 < j) : gMod (.int i) (.int j) = some (.int (i % j)) := if_pos h
theorem gDiv_int {i j : Int} (h : 0 < j ∧ j < 2 ^ 62) : gDiv (.int i) (.int j) = some (.int (i / j)) := if_pos h
theorem gMul_int {i j : Int} (h : (-(2 ^ 62) < i ∧ i < 2 ^ 62) ∨ (-(2 ^ 62) < j ∧ j < 2 ^ 62)) : gMul (.int i) (.int j) = some (.int (i * j)) := if_pos h
theorem gPow_int {i j : Int} (h : 0 ≤ j ∧ j ≤ 1000 ∧ -(2 ^ 63) < i ∧ i < 2 ^ 63) : gPow (.int i) (.int j) = some (.int (i ^ j.toNat)) := if_pos h
@[simp] theorem gInt_int (i : Int) : gInt [.int i] = some (.int i) := rfl
@[simp] theorem gAbs_int (i : Int) : gAbs [.int i] = some (.int (if i < 0 then -i else i)) := rfl
@[simp] theorem gMax2_int (i j : Int) : gMax2 [.int i, .int j] = some (.int (if j > i then j else i)) := rfl
@[simp] theorem gMin2_int (i j : Int) : gMin2 [.int i, .int j] = some (.int (if j < i then j else i)) := rfl
@[simp] theorem gLen_lst (o : Bool) (xs : List D) : gLen [.lst o xs] = some (.int xs.length) := rfl
@[simp] theorem gLen_tup (xs : List D) : gLen [.tup xs] = some (.int xs.length) := rfl
@[simp] theorem gLen_kl (xs : List D) : gLen [.kl xs] = some (.int xs.length) := rfl
@[simp] theorem gListOf_lst (o : Bool) (xs : List D) : gListOf [.lst o xs] = some (.lst true xs) := rfl
@[simp] theorem gListOf_tup (xs : List D) : gListOf [.tup xs] = some (.lst true xs) := rfl
@[simp] theorem gTupOf_lst (o : Bool) (xs : List D) : gTupOf [.lst o xs] = some (.tup xs) := rfl
@[simp] theorem gTupOf_tup (xs : List D) : gTupOf [.tup xs] = some (.tup xs) := rfl
@[simp] theorem gRevL_lst (o : Bool) (xs : List D) : gRevL (.lst o xs) = some (.lst true xs.reverse) := rfl
theorem mkTup_some {xs : List D} (h : xs.length ≤ 16777216) : mkTup xs = some (.tup xs) := if_pos h
theorem mkLst_some {xs : List D} (h : xs.length ≤ 16777216) : mkLst xs = some (.lst true xs) := if_pos h
@[simp] theorem mkTup_2 (a b : D) : mkTup [a, b] = some (.tup [a, b]) := mkTup_some (by simp)
@[simp] theorem mkTup_3 (a b c : D) : mkTup [a, b, c] = some (.tup [a, b, c]) := mkTup_some (by simp)
@[simp] theorem mkLst_0 : mkLst [] = some (.lst true []) := rfl
@[simp] theorem mkLst_1 (a : D) : mkLst [a] = some (.lst true [a]) := mkLst_some (by simp)
@[simp] theorem mkLst_2 (a b : D) : mkLst [a, b] = some (.lst true [a, b]) := mkLst_some (by simp)
@[simp] theorem mkLst_3 (a b c : D) : mkLst [a, b, c] = some (.lst true [a, b, c]) := mkLst_some (by simp)
@[simp] theorem mkLst_4 (a b c d : D) : mkLst [a, b, c, d] = some (.lst true [a, b, c, d]) := mkLst_some (by simp)
@[simp] theorem mkLst_5 (a b c d e : D) : mkLst [a, b, c, d, e] = some (.lst true [a, b, c, d, e]) := mkLst_some (by simp)
@[simp] theorem mkLst_6 (a b c d e f : D) : mkLst [a, b, c, d, e, f] = some (.lst true [a, b, c, d, e, f]) := mkLst_some (by simp)
@[simp] theorem mkLst_7 (a b c d e f g : D) : mkLst [a, b, c, d, e, f, g] = some (.lst true [a, b, c, d, e, f, g]) := mkLst_some (by simp)
@[simp] theorem mkLst_8 (a b c d e f g h : D) : mkLst [a, b, c, d, e, f, g, h] = some (.lst true [a, b, c, d, e, f, g, h]) := mkLst_some (by simp)
theorem gAdd_lst {o p : Bool} {xs ys : List D} (h : xs.length + ys.length ≤ 16777216) : gAdd (.lst o xs) (.lst p ys) = some (.lst true (xs ++ ys)) := if_pos h
theorem gMul_lst {xs : List D} {k : Int} (hv : valL xs = true) (h : -(2 ^ 62) < k ∧ k < 2 ^ 62 ∧ xs.length * k.toNat ≤ 16777216) : gMul (.lst true xs) (.int k) = some (.lst true (repL k.toNat xs)) := by
  exact (if_pos hv).trans (if_pos h)
theorem repL_length (k : Nat) (xs : List D) : (repL k xs).length = k * xs.length := by
  unfold repL
  induction k with
  | zero => simp
  | succ k ih => rw [List.replicate_succ, List.flatten_cons, List.length_append, ih, Nat.succ_mul, Nat.add_comm]
theorem repL_mem {k : Nat} {xs : List D} {d : D} (h : d ∈ repL k xs) : d ∈ xs := by
  unfold repL at h
  obtain ⟨l, h1, h2⟩ := List.mem_flatten.mp h
  rw [(List.mem_replicate.mp h1).2] at h2
  exact h2
theorem repL_one (k : Nat) (d : D) : repL k [d] = List.replicate k d := by
  unfold repL
  induction k with
  | zero => rfl
  | succ k ih => rw [List.replicate_succ, List.flatten_cons, ih, List.replicate_succ]; rfl

@[simp] theorem gEq_int (i j : Int) : gEq (.int i) (.int j) = some (.bl (decide (i = j))) := by
  have h : (i == j) = decide (i = j) := by rw [Bool.eq_iff_iff]; simp
  simp [gEq, okN, eqD, pyD, PyData.eqv, h]
@[simp] theorem gNe_int (i j : Int) : gNe (.int i) (.int j) = some (.bl (!decide (i = j))) := by
  have h : (i == j) = decide (i = j) := by rw [Bool.eq_iff_iff]; simp
  simp [gNe, okN, eqD, pyD, PyData.eqv, h]
theorem gEq_ok {x y : D} (h1 : okN 9 x = true) (h2 : okN 9 y = true) : gEq x y = some (.bl (eqD x y)) := by
  unfold gEq
  rw [h1, h2]
  rfl
theorem gEq_str {a b : Str} {r : Bool} (h1 : PyData.strOk a = true) (h2 : PyData.strOk b = true) (h : (a == b) = r) : gEq (.str a) (.str b) = some (.bl r) := by
  rw [gEq_ok (by simp only [okN]; exact h1) (by simp only [okN]; exact h2)]
  unfold eqD
  simp only [pyD, PyData.eqv, h]
theorem gNe_ok {x y : D} (h1 : okN 9 x = true) (h2 : okN 9 y = true) : gNe x y = some (.bl (!eqD x y)) := by
  unfold gNe
  rw [h1, h2]
  rfl

/-! ### subscripts -/
theorem atI_pos {α : Type} {xs : List α} {i : Int} (h0 : 0 ≤ i) (h1 : i < xs.length) : atI xs i = xs[i.toNat]? := by
  unfold atI ixN
  rw [if_pos h0, if_pos h1]
  rfl
theorem atI_neg {α : Type} {xs : List α} {i : Int} (h0 : i < 0) (h1 : -(xs.length : Int) ≤ i) : atI xs i = xs[(i + xs.length).toNat]? := by
  unfold atI ixN
  rw [if_neg (by omega), if_pos h1]
  rfl
@[simp] theorem gIx_lst (o : Bool) (xs : List D) (i : Int) : gIx (.lst o xs) (.int i) = atI xs i := rfl
@[simp] theorem gIx_tup (xs : List D) (i : Int) : gIx (.tup xs) (.int i) = atI xs i := rfl
@[simp] theorem gIx_kl (xs : List D) (i : Int) : gIx (.kl xs) (.int i) = atI xs i := rfl
@[simp] theorem atI_0 {α : Type} (a : α) (r : List α) : atI (a :: r) 0 = some a := by
  rw [atI_pos (by decide) (by rw [List.length_cons]; omega)]; rfl
@[simp] theorem atI_1 {α : Type} (a b : α) (r : List α) : atI (a :: b :: r) 1 = some b := by
  rw [atI_pos (by decide) (by rw [List.length_cons, List.length_cons]; omega)]; rfl
@[simp] theorem atI_2 {α : Type} (a b c : α) (r : List α) : atI (a :: b :: c :: r) 2 = some c := by
  rw [atI_pos (by decide) (by rw [List.length_cons, List.length_cons, List.length_cons]; omega)]; rfl
@[simp] theorem atI_3 {α : Type} (a b c d : α) (r : List α) : atI (a :: b :: c :: d :: r) 3 = some d := by
  rw [atI_pos (by decide) (by rw [List.length_cons, List.length_cons, List.length_cons, List.length_cons]; omega)]; rfl
theorem atI_last {α : Type} {xs : List α} {a : α} (h : xs.getLast? = some a) : atI xs (-1) = some a := by
  have hne : 0 < xs.length := by cases xs with | nil => cases h | cons _ _ => exact Nat.zero_lt_succ _
  rw [atI_neg (by decide) (by omega), ← h, List.getLast?_eq_getElem?]
  congr 1
  omega

@[simp] theorem gIxG_lst (o : Bool) (xs : List D) (y : D) : gIxG (.lst o xs) y = gIx (.lst o xs) y := rfl
@[simp] theorem gIxG_tup (xs : List D) (y : D) : gIxG (.tup xs) y = gIx (.tup xs) y := rfl
@[simp] theorem gIxG_kl (xs : List D) (y : D) : gIxG (.kl xs) y = gIx (.kl xs) y := rfl
@[simp] theorem gIxG_kt (xs : List D) (y : D) : gIxG (.kt xs) y = gIx (.kt xs) y := rfl
@[simp] theorem gIxG_str (x : Str) (y : D) : gIxG (.str x) y = gIx (.str x) y := rfl
@[simp] theorem gIn_lst (n o : Bool) (x : D) (ys : List D) : gIn n x (.lst o ys) = gInS n x (.lst o ys) := rfl
@[simp] theorem gIn_tup (n : Bool) (x : D) (ys : List D) : gIn n x (.tup ys) = gInS n x (.tup ys) := rfl
@[simp] theorem frz_dct (o t : Bool) (kvs : List (D × D)) : (D.dct o t kvs).frz = .dct false t (frzK kvs) := rfl
@[simp] theorem clean_dct (o t : Bool) (kvs : List (D × D)) : (D.dct o t kvs).clean = (o && cleanK kvs) := rfl

/-! ### rows of numbers -/
def rowI (n : Nat) (f : Int → Int) : List D := (List.range n).map fun (k : Nat) => D.int (f k)
@[simp] theorem rowI_length (n : Nat) (f : Int → Int) : (rowI n f).length = n := by unfold rowI; rw [List.length_map, List.length_range]
theorem rowI_at {n : Nat} {f : Int → Int} {i : Int} (h : 0 ≤ i ∧ i < n) : atI (rowI n f) i = some (.int (f i)) := by
  rw [atI_pos h.1 (by rw [rowI_length]; exact h.2)]
  unfold rowI
  rw [List.getElem?_map, List.getElem?_range (by omega)]
  show some (D.int (f (i.toNat : Int))) = _
  rw [Int.toNat_of_nonneg h.1]
theorem rowI_val (n : Nat) (f : Int → Int) : valL (rowI n f) = true := by
  rw [valL_all, List.all_eq_true]
  intro d m
  obtain ⟨k, _, e⟩ := List.mem_map.mp m
  rw [← e]; rfl
@[simp] theorem rowI_frz (n : Nat) (f : Int → Int) : frzL (rowI n f) = rowI n f := (valL_frz (rowI_val n f)).1
@[simp] theorem rowI_clean (n : Nat) (f : Int → Int) : cleanL (rowI n f) = true := (valL_frz (rowI_val n f)).2
theorem ints_row (ns : List Int) : ns.map D.int = rowI ns.length fun i => ns.getD i.toNat 0 := by
  unfold rowI
  refine List.ext_getElem? fun k => ?_
  rw [List.getElem?_map, List.getElem?_map]
  by_cases h : k < ns.length
  · rw [List.getElem?_range h, List.getElem?_eq_getElem h]
    simp [List.getD_eq_getElem?_getD, List.getElem?_eq_getElem h]
  · rw [List.getElem?_eq_none (by omega), List.getElem?_eq_none (by rw [List.length_range]; omega)]
    rfl
theorem ints_val (ns : List Int) : valL (ns.map D.int) = true := by rw [ints_row]; exact rowI_val _ _
@[simp] theorem ints_frz (ns : List Int) : frzL (ns.map D.int) = ns.map D.int := (valL_frz (ints_val ns)).1
@[simp] theorem ints_clean (ns : List Int) : cleanL (ns.map D.int) = true := (valL_frz (ints_val ns)).2

@[simp] theorem rowI_1 (f : Int → Int) : rowI 1 f = [.int (f 0)] := by simp [rowI, List.range_succ]
@[simp] theorem rowI_2 (f : Int → Int) : rowI 2 f = [.int (f 0), .int (f 1)] := by simp [rowI, List.range_succ]
@[simp] theorem rowI_3 (f : Int → Int) : rowI 3 f = [.int (f 0), .int (f 1), .int (f 2)] := by simp [rowI, List.range_succ]
@[simp] theorem rowI_4 (f : Int → Int) : rowI 4 f = [.int (f 0), .int (f 1), .int (f 2), .int (f 3)] := by simp [rowI, List.range_succ]
@[simp] theorem rowI_5 (f : Int → Int) : rowI 5 f = [.int (f 0), .int (f 1), .int (f 2), .int (f 3), .int (f 4)] := by simp [rowI, List.range_succ]
@[simp] theorem rowI_6 (f : Int → Int) : rowI 6 f = [.int (f 0), .int (f 1), .int (f 2), .int (f 3), .int (f 4), .int (f 5)] := by simp [rowI, List.range_succ]
@[simp] theorem rowI_7 (f : Int → Int) : rowI 7 f = [.int (f 0), .int (f 1), .int (f 2), .int (f 3), .int (f 4), .int (f 5), .int (f 6)] := by simp [rowI, List.range_succ]
@[simp] theorem rowI_8 (f : Int → Int) : rowI 8 f = [.int (f 0), .int (f 1), .int (f 2), .int (f 3), .int (f 4), .int (f 5), .int (f 6), .int (f 7)] := by simp [rowI, List.range_succ]
@[simp] theorem rowI_9 (f : Int → Int) : rowI 9 f = [.int (f 0), .int (f 1), .int (f 2), .int (f 3), .int (f 4), .int (f 5), .int (f 6), .int (f 7), .int (f 8)] := by simp [rowI, List.range_succ]
@[simp] theorem atI_4 {α : Type} (a b c d e : α) (r : List α) : atI (a :: b :: c :: d :: e :: r) 4 = some e := by
  rw [atI_pos (by decide) (by simp only [List.length_cons]; omega)]; rfl
@[simp] theorem atI_5 {α : Type} (a b c d e f : α) (r : List α) : atI (a :: b :: c :: d :: e :: f :: r) 5 = some f := by
  rw [atI_pos (by decide) (by simp only [List.length_cons]; omega)]; rfl
@[simp] theorem atI_6 {α : Type} (a b c d e f g : α) (r : List α) : atI (a :: b :: c :: d :: e :: f :: g :: r) 6 = some g := by
  rw [atI_pos (by decide) (by simp only [List.length_cons]; omega)]; rfl
theorem rowI_add {n : Nat} {f : Int → Int} {i j : Int} (h : 0 ≤ i + j ∧ i + j < n) : atI (rowI n f) (i + j) = some (.int (f (i + j))) := rowI_at h

@[simp] theorem frzL_rep (n : Nat) (i : Int) : frzL (List.replicate n (D.int i)) = List.replicate n (D.int i) := by rw [frzL_map, List.map_replicate]; rfl
@[simp] theorem cleanL_rep (n : Nat) (i : Int) : cleanL (List.replicate n (D.int i)) = true := by rw [cleanL_all, List.all_replicate]; simp
theorem gMul_rep (i : Int) {k : Int} (h : 0 ≤ k ∧ k ≤ 16777216) : gMul (.lst true [.int i]) (.int k) = some (.lst true (List.replicate k.toNat (.int i))) := by
  rw [gMul_lst rfl ⟨by omega, by omega, by simp; omega⟩, repL_one]

/-! ### corners -/
def pr (p : Int × Int) : D := .tup [.int p.1, .int p.2]
@[simp] theorem gIxG_pr (p : Int × Int) (y : D) : gIxG (pr p) y = gIx (pr p) y := rfl
theorem prD_pr : prD = pr := rfl
theorem pr_mk (x y : Int) : D.tup [.int x, .int y] = pr (x, y) := rfl
theorem pr_def (p : Int × Int) : pr p = D.tup [.int p.1, .int p.2] := rfl
@[simp] theorem pr_frz (p : Int × Int) : (pr p).frz = pr p := rfl
@[simp] theorem pr_clean (p : Int × Int) : (pr p).clean = true := rfl
@[simp] theorem pr_val (p : Int × Int) : (pr p).val = true := rfl
@[simp] theorem gIx_pr0 (p : Int × Int) : gIx (pr p) (.int 0) = some (.int p.1) := by unfold pr; simp
@[simp] theorem gIx_pr1 (p : Int × Int) : gIx (pr p) (.int 1) = some (.int p.2) := by unfold pr; simp
@[simp] theorem okN_pr (n : Nat) (p : Int × Int) : okN (n + 1) (pr p) = true := by simp [pr, okN, okNL]
theorem prs_val (ps : List (Int × Int)) : valL (ps.map pr) = true := by
  rw [valL_all, List.all_eq_true]
  intro d m
  obtain ⟨k, _, e⟩ := List.mem_map.mp m
  rw [← e]; rfl
@[simp] theorem prs_frz (ps : List (Int × Int)) : frzL (ps.map pr) = ps.map pr := (valL_frz (prs_val ps)).1
@[simp] theorem prs_clean (ps : List (Int × Int)) : cleanL (ps.map pr) = true := (valL_frz (prs_val ps)).2
@[simp] theorem okNL_prs (n : Nat) (ps : List (Int × Int)) : okNL (n + 1) (ps.map pr) = true := by
  rw [okNL_all, List.all_eq_true]
  intro d m
  obtain ⟨k, _, e⟩ := List.mem_map.mp m
  rw [← e]; exact okN_pr n k
theorem eqD_pr (p q : Int × Int) : eqD (pr p) (pr q) = decide (p = q) := by
  unfold eqD pr
  simp only [pyD, pyL]
  obtain ⟨a, b⟩ := p
  obtain ⟨c, d⟩ := q
  rw [Bool.eq_iff_iff]
  simp [PyData.eqv, PyData.eqvAll]

@[simp] theorem gEq_pr (p q : Int × Int) : gEq (pr p) (pr q) = some (.bl (decide (p = q))) := by rw [gEq_ok (okN_pr 8 p) (okN_pr 8 q), eqD_pr]
@[simp] theorem gNe_pr (p q : Int × Int) : gNe (pr p) (pr q) = some (.bl (!decide (p = q))) := by rw [gNe_ok (okN_pr 8 p) (okN_pr 8 q), eqD_pr]
theorem inD_prs (p : Int × Int) : ∀ ps : List (Int × Int), inD (pr p) (ps.map pr) = decide (p ∈ ps)
  | [] => rfl
  | q :: r => by
    have ih := inD_prs p r
    unfold inD at ih ⊢
    rw [List.map_cons, List.any_cons, ih, eqD_pr, Bool.eq_iff_iff, Bool.or_eq_true, decide_eq_true_iff, decide_eq_true_iff, decide_eq_true_iff, List.mem_cons]
    exact or_congr ⟨Eq.symm, Eq.symm⟩ Iff.rfl
@[simp] theorem gInS_prs_lst (n o : Bool) (p : Int × Int) (ps : List (Int × Int)) : gInS n (pr p) (.lst o (ps.map pr)) = some (.bl (if n then !decide (p ∈ ps) else decide (p ∈ ps))) := by
  have h : okN 9 (.lst o (ps.map pr)) = true := by simp only [okN]; exact okNL_prs 7 ps
  simp only [gInS, seqOf, okN_pr, h, Bool.and_self, if_true, inD_prs]
@[simp] theorem gInS_prs_tup (n : Bool) (p : Int × Int) (ps : List (Int × Int)) : gInS n (pr p) (.tup (ps.map pr)) = some (.bl (if n then !decide (p ∈ ps) else decide (p ∈ ps))) := by
  have h : okN 9 (.tup (ps.map pr)) = true := by simp only [okN]; exact okNL_prs 7 ps
  simp only [gInS, seqOf, okN_pr, h, Bool.and_self, if_true, inD_prs]
theorem atI_prs {ps : List (Int × Int)} {i : Int} {p : Int × Int} (h : atI ps i = some p) : atI (ps.map pr) i = some (pr p) := by
  obtain ⟨j, e1, e2⟩ := atI_len (ys := ps.map pr) (by rw [List.length_map]) h
  exact e2 _ (by rw [List.getElem?_map, e1]; rfl)
def lexP (p q : Int × Int) : Bool := decide (p.1 < q.1 ∨ (p.1 = q.1 ∧ p.2 < q.2))
theorem gLt_pr (p q : Int × Int) : gLt (pr p) (pr q) = some (.bl (lexLt [p.1, p.2] [q.1, q.2])) := rfl
theorem atI_first {α : Type} {xs : List α} {a : α} (h : xs.head? = some a) : atI xs 0 = some a := by
  cases xs with
  | nil => cases h
  | cons x r => cases h; exact atI_0 _ _
theorem atI_some {α : Type} {xs : List α} {i : Int} (h : 0 ≤ i ∧ i < xs.length) : ∃ a, atI xs i = some a ∧ a ∈ xs := by
  rw [atI_pos h.1 h.2, List.getElem?_eq_getElem (by omega)]
  exact ⟨_, rfl, List.getElem_mem _⟩

/-! ### dicts of corners -/
def mkD (l : List ((Int × Int) × D)) : List (D × D) := l.map fun e => (pr e.1, e.2)
def lookA : List ((Int × Int) × D) → (Int × Int) → Option D
  | [], _ => none
  | e :: r, p => if e.1 = p then some e.2 else lookA r p
def putA (l : List ((Int × Int) × D)) (p : Int × Int) (d : D) : List ((Int × Int) × D) := if (l.any fun e => decide (e.1 = p)) = true then l.map (fun e => if e.1 = p then (e.1, d) else e) else l ++ [(p, d)]
def kyP (p : Int × Int) : List Key := [.inl p.1, .inl p.2]
theorem kyP_inj {p q : Int × Int} : kyP p = kyP q ↔ p = q := by
  unfold kyP
  constructor
  · intro h
    injection h with a b
    injection b with b _
    injection a with a
    injection b with b
    exact Prod.ext a b
  · intro h; rw [h]
theorem keysD_pr (p : Int × Int) : keysD (pr p) = some (kyP p) := rfl
theorem lookT_mk (p : Int × Int) : ∀ l : List ((Int × Int) × D), lookT (mkD l) (kyP p) = lookA l p
  | [] => rfl
  | e :: r => by
    show (if keysD (pr e.1) = some (kyP p) then some e.2 else lookT (mkD r) (kyP p)) = _
    rw [keysD_pr, lookT_mk p r]
    show _ = if e.1 = p then some e.2 else lookA r p
    by_cases h : e.1 = p
    · rw [if_pos (by rw [h]), if_pos h]
    · rw [if_neg (fun z => h (kyP_inj.mp (Option.some.inj z))), if_neg h]
@[simp] theorem gIn_mk (n o : Bool) (p : Int × Int) (l : List ((Int × Int) × D)) : gIn n (pr p) (.dct o true (mkD l)) = some (.bl (if n then !(lookA l p).isSome else (lookA l p).isSome)) := by
  unfold gIn
  dsimp only
  unfold lookD
  rw [if_pos rfl, keysD_pr, Option.map_some, lookT_mk]
  rfl
theorem gIxG_mk {o : Bool} {p : Int × Int} {l : List ((Int × Int) × D)} {d : D} (h : lookA l p = some d) : gIxG (.dct o true (mkD l)) (pr p) = some d := by
  unfold gIxG
  dsimp only
  unfold lookD
  rw [if_pos rfl, keysD_pr, Option.map_some, lookT_mk, h]
  rfl
theorem any_mk (p : Int × Int) (l : List ((Int × Int) × D)) : ((mkD l).any fun e => decide (keysD e.1 = some (kyP p))) = l.any fun e => decide (e.1 = p) := by
  unfold mkD
  rw [List.any_map]
  congr 1
  funext e
  show decide (keysD (pr e.1) = some (kyP p)) = _
  rw [keysD_pr, Bool.eq_iff_iff, decide_eq_true_iff, decide_eq_true_iff]
  exact ⟨fun h => kyP_inj.mp (Option.some.inj h), fun h => by rw [h]⟩
theorem putTD_mk (p : Int × Int) (d : D) (l : List ((Int × Int) × D)) : putTD (mkD l) (kyP p) d = mkD (putA l p d) := by
  unfold putTD putA
  rw [any_mk]
  split
  · unfold mkD
    rw [List.map_map, List.map_map]
    refine List.map_congr_left fun e _ => ?_
    show (if keysD (pr e.1) = some (kyP p) then (pr e.1, d) else (pr e.1, e.2)) = _
    rw [keysD_pr]
    by_cases h : e.1 = p
    · rw [if_pos (by rw [h])]
      simp [h]
    · rw [if_neg (fun z => h (kyP_inj.mp (Option.some.inj z)))]
      simp [h]
  · unfold mkD
    rw [List.map_append]
    rfl
theorem storeD_mk {p : Int × Int} {d : D} {l : List ((Int × Int) × D)} (h : (l.any fun e => decide (e.1 = p)) = true → d.val = true) : storeD true (mkD l) (pr p) d = some (mkD (putA l p d)) := by
  unfold storeD
  rw [if_pos rfl, keysD_pr, Option.bind_some, any_mk, putTD_mk]
  by_cases c : (l.any fun e => decide (e.1 = p)) = true
  · rw [c, h c]; rfl
  · have c' : (l.any fun e => decide (e.1 = p)) = false := Bool.eq_false_iff.mpr c
    rw [c']; rfl
theorem mkD_length (l : List ((Int × Int) × D)) : (mkD l).length = l.length := List.length_map ..
theorem gStoreD_mk {p : Int × Int} {d : D} {l : List ((Int × Int) × D)} (hl : l.length < 16777216) (h : (l.any fun e => decide (e.1 = p)) = true → d.val = true) : gStoreD (.dct true true (mkD l)) [d, pr p] = some (.dct true true (mkD (putA l p d)), .non) := by
  show (if (mkD l).length < 16777216 then (storeD true (mkD l) (pr p) d).map fun x => (D.dct true true x, D.non) else none) = _
  rw [if_pos (by rw [mkD_length]; exact hl), storeD_mk h]
  rfl
theorem mkD_nil : mkD [] = [] := rfl

/-! ### loops -/
@[simp] theorem sFor_app (S : List Nat) (fi : En → R (List D)) (g : D → En → Option En) (fb : En → Out) (ρ : En) : sFor S fi g fb ρ = lift (fi ρ) ρ fun ds => loopD g fb ds (frzAt S ρ) := rfl
@[simp] theorem upto_length (lo : Int) (n : Nat) : (upto lo n).length = n := by unfold upto; rw [List.length_map, List.length_range]
theorem upto_get {lo : Int} {n k : Nat} {d : D} (h : (upto lo n)[k]? = some d) : k < n ∧ d = .int (lo + k) := by
  unfold upto at h
  rw [List.getElem?_map] at h
  obtain ⟨j, h1, h2⟩ := Option.map_eq_some_iff.mp h
  have hk : k < n := by
    have := (List.getElem?_eq_some_iff.mp h1).1
    rw [List.length_range] at this
    exact this
  rw [List.getElem?_range hk] at h1
  cases h1
  exact ⟨hk, h2.symm⟩
def rangeTo : List D → R (List D)
  | [.int j] => if -(2 ^ 62) ≤ j ∧ j ≤ 2 ^ 24 then .ok (upto 0 j.toNat) else .stuck
  | _ => .stuck
@[simp] theorem iR1_app (f : En → R (List D)) (ρ : En) : iR1 f ρ = (f ρ).bind rangeTo := rfl
theorem rangeTo_int {j : Int} (h : -(2 ^ 62) ≤ j ∧ j ≤ 2 ^ 24) : rangeTo [.int j] = .ok (upto 0 j.toNat) := if_pos h
def rangeFT : List D → R (List D)
  | [.int i, .int j] => if -(2 ^ 23) ≤ i ∧ i ≤ 2 ^ 23 ∧ -(2 ^ 23) ≤ j ∧ j ≤ 2 ^ 23 then .ok (upto i (j - i).toNat) else .stuck
  | _ => .stuck
@[simp] theorem iR2_app (f : En → R (List D)) (ρ : En) : iR2 f ρ = (f ρ).bind rangeFT := rfl
theorem rangeFT_int {i j : Int} (h : -(2 ^ 23) ≤ i ∧ i ≤ 2 ^ 23 ∧ -(2 ^ 23) ≤ j ∧ j ≤ 2 ^ 23) : rangeFT [.int i, .int j] = .ok (upto i (j - i).toNat) := if_pos h
@[simp] theorem iSeq_app (f : En → R D) (ρ : En) : iSeq f ρ = (f ρ).bind seqItems := rfl
@[simp] theorem seqItems_lst (o : Bool) (xs : List D) : seqItems (.lst o xs) = .ok (frzL xs) := rfl
@[simp] theorem seqItems_tup (xs : List D) : seqItems (.tup xs) = .ok (frzL xs) := rfl
@[simp] theorem frzAt_nil (ρ : En) : frzAt [] ρ = ρ := rfl
@[simp] theorem frzAt_cons (i : Nat) (S : List Nat) (ρ : En) : frzAt (i :: S) ρ = frzAt S (frz1 i ρ) := rfl
def frzPut (i : Nat) (ρ : En) : Option (Option D) → En
  | some (some d) => ρ.set i (some d.frz)
  | _ => ρ
@[simp] theorem frz1_app (i : Nat) (ρ : En) : frz1 i ρ = frzPut i ρ ρ[i]? := by unfold frz1 frzPut; cases ρ[i]? with | none => rfl | some x => cases x <;> rfl
@[simp] theorem frzPut_some (i : Nat) (ρ : En) (d : D) : frzPut i ρ (some (some d)) = ρ.set i (some d.frz) := rfl
@[simp] theorem frzPut_none (i : Nat) (ρ : En) : frzPut i ρ (some none) = ρ := rfl

/-! ### changes -/
def mutRes (k : D → D → Out) : Option (D × D) → Out
  | some (d', r) => k d' r
  | none => .stuck
@[simp] theorem mutRes_some (k : D → D → Out) (d r : D) : mutRes k (some (d, r)) = k d r := rfl
def mutAt (T : String) (i : Nat) (S : List Nat) (g : D → List D → Option (D × D)) (fa : En → R (List D)) (k : En → D → Out) (ρ : En) : Option (Option D) → Out
  | some (some d0) => if tyD T d0 then lift (fa ρ) ρ fun ds => if cleanL ds || !S.contains i then mutRes (fun d' r => k ((if cleanL ds then ρ else frzAt S ρ).set i (some d')) r) (g d0 ds) else .stuck else .stuck
  | _ => .stuck
@[simp] theorem sMut_app (T : String) (i : Nat) (S : List Nat) (g : D → List D → Option (D × D)) (fa : En → R (List D)) (ρ : En) : sMut T i S g fa ρ = mutAt T i S g fa (fun ρ _ => .nx ρ) ρ ρ[i]? := by
  unfold sMut sMutK mutAt mutRes
  cases ρ[i]? with | none => rfl | some x => cases x <;> rfl
@[simp] theorem sStore_app (T : String) (i : Nat) (S : List Nat) (g : D → List D → Option (D × D)) (fe fk : En → R D) (ρ : En) : sStore T i S g fe fk ρ = sMut T i S g (eCons fe (eCons fk eNil)) ρ := rfl
@[simp] theorem mutAt_some (T : String) (i : Nat) (S : List Nat) (g : D → List D → Option (D × D)) (fa : En → R (List D)) (k : En → D → Out) (ρ : En) (d0 : D) :
    mutAt T i S g fa k ρ (some (some d0)) = if tyD T d0 then lift (fa ρ) ρ fun ds => if cleanL ds || !S.contains i then mutRes (fun d' r => k ((if cleanL ds then ρ else frzAt S ρ).set i (some d')) r) (g d0 ds) else .stuck else .stuck := rfl
@[simp] theorem tyD_lst (T : String) (xs : List D) : tyD T (.lst true xs) = (T == "list") := rfl
@[simp] theorem tyD_dct (T : String) (t : Bool) (xs : List (D × D)) : tyD T (.dct true t xs) = (T == "dict") := rfl
@[simp] theorem tyR_lst (T : String) (o : Bool) (xs : List D) : tyR T (.lst o xs) = (T == "list") := rfl
@[simp] theorem tyR_dct (T : String) (o t : Bool) (xs : List (D × D)) : tyR T (.dct o t xs) = (T == "dict") := rfl
@[simp] theorem tyR_str (T : String) (x : Str) : tyR T (.str x) = (T == "str") := rfl
theorem gAppend_lst {xs : List D} {y : D} (h : xs.length < 16777216) : gAppend (.lst true xs) [y] = some (.lst true (xs ++ [y]), .non) := if_pos h
@[simp] theorem gSet_app (i : Nat) (d : D) (ρ : En) : gSet i d ρ = if i < ρ.length then some (ρ.set i (some d)) else none := rfl
@[simp] theorem gsNil_app (ρ : En) : gsNil [] ρ = some ρ := rfl
@[simp] theorem gsCons_app (g : D → En → Option En) (h : List D → En → Option En) (d : D) (r : List D) (ρ : En) : gsCons g h (d :: r) ρ = (g d ρ).bind (h r) := rfl
@[simp] theorem gTupD_tup (n : Nat) (g : List D → En → Option En) (xs : List D) (ρ : En) : gTupD n g (.tup xs) ρ = if xs.length = n then g xs ρ else none := rfl
@[simp] theorem gTupD_pr (g : List D → En → Option En) (p : Int × Int) (ρ : En) : gTupD 2 g (pr p) ρ = g [.int p.1, .int p.2] ρ := rfl
@[simp] theorem gLstD_lst (n : Nat) (g : List D → En → Option En) (o : Bool) (xs : List D) (ρ : En) : gLstD n g (.lst o xs) ρ = if xs.length = n then g (frzL xs) ρ else none := rfl
def asgRes : Option En → Out
  | some ρ => .nx ρ
  | none => .stuck
@[simp] theorem asgRes_some (ρ : En) : asgRes (some ρ) = .nx ρ := rfl
@[simp] theorem sAsg_app (S : List Nat) (g : D → En → Option En) (f : En → R D) (ρ : En) : sAsg S g f ρ = lift (f ρ) ρ fun d => asgRes (g d (if d.clean then ρ else frzAt S ρ)) := by
  unfold sAsg asgRes
  rfl

/-! ### what an outcome meets -/
def OW (N B C : En → Prop) (Rt : D → Prop) (Ex : Str → List (Str × D) → Prop) : Out → Prop
  | .nx ρ => N ρ
  | .bk ρ => B ρ
  | .ct ρ => C ρ
  | .ret d => Rt d
  | .exc _ c fs => Ex c fs
  | .stuck => False
section
variable {N B C : En → Prop} {Rt : D → Prop} {Ex : Str → List (Str × D) → Prop}
@[simp] theorem OW_nx (ρ : En) : OW N B C Rt Ex (.nx ρ) = N ρ := rfl
@[simp] theorem OW_bk (ρ : En) : OW N B C Rt Ex (.bk ρ) = B ρ := rfl
@[simp] theorem OW_ct (ρ : En) : OW N B C Rt Ex (.ct ρ) = C ρ := rfl
@[simp] theorem OW_ret (d : D) : OW N B C Rt Ex (.ret d) = Rt d := rfl
@[simp] theorem OW_exc (ρ : En) (c : Str) (fs : List (Str × D)) : OW N B C Rt Ex (.exc ρ c fs) = Ex c fs := rfl
theorem OW_seq {o : Out} {k : En → Out} (h : OW (fun ρ => OW N B C Rt Ex (k ρ)) B C Rt Ex o) : OW N B C Rt Ex (o.seq k) := by
  cases o <;> exact h
theorem OW_ite {c : Prop} [Decidable c] {a b : Out} (h1 : c → OW N B C Rt Ex a) (h2 : ¬ c → OW N B C Rt Ex b) : OW N B C Rt Ex (if c then a else b) := by
  split
  · exact h1 ‹_›
  · exact h2 ‹_›
theorem OW_loop0 {g : D → En → Option En} {fb : En → Out} (I : Nat → En → Prop) : ∀ {ds : List D} {ρ : En} {k0 : Nat}, I k0 ρ →
    (∀ k d ρ, ds[k]? = some d → I (k0 + k) ρ → ∃ ρ1, g d ρ = some ρ1 ∧ OW (I (k0 + k + 1)) N (I (k0 + k + 1)) Rt Ex (fb ρ1)) →
    (∀ ρ, I (k0 + ds.length) ρ → N ρ) → OW N B C Rt Ex (loopD g fb ds ρ)
  | [], ρ, k0, h0, _, hn => hn ρ h0
  | d :: r, ρ, k0, h0, h, hn => by
    obtain ⟨ρ1, e1, h2⟩ := h 0 d ρ rfl h0
    unfold loopD
    rw [e1]
    dsimp only
    have step : ∀ ρ2, I (k0 + 0 + 1) ρ2 → OW N B C Rt Ex (loopD g fb r ρ2) := fun ρ2 h2 => OW_loop0 I (ds := r) (ρ := ρ2) (k0 := k0 + 1) h2 (fun k d ρ hd hi => by
      have := h (k + 1) d ρ (by simpa using hd) (by rw [← Nat.add_assoc, Nat.add_right_comm]; exact hi)
      rw [← Nat.add_assoc, Nat.add_right_comm k0 k 1] at this
      exact this) (fun ρ hi => hn ρ (by rw [List.length_cons, ← Nat.add_assoc, Nat.add_right_comm]; exact hi))
    cases e : fb ρ1 with
    | nx ρ2 => rw [e] at h2; exact step ρ2 h2
    | ct ρ2 => rw [e] at h2; exact step ρ2 h2
    | bk ρ2 => rw [e] at h2; exact h2
    | ret d => rw [e] at h2; exact h2
    | exc ρ2 c fs => rw [e] at h2; exact h2
    | stuck => rw [e] at h2; exact h2.elim
theorem OW_loop {g : D → En → Option En} {fb : En → Out} (I : Nat → En → Prop) {ds : List D} {ρ : En} (h0 : I 0 ρ)
    (h : ∀ k d ρ, ds[k]? = some d → I k ρ → ∃ ρ1, g d ρ = some ρ1 ∧ OW (I (k + 1)) N (I (k + 1)) Rt Ex (fb ρ1)) (hn : ∀ ρ, I ds.length ρ → N ρ) : OW N B C Rt Ex (loopD g fb ds ρ) :=
  OW_loop0 I (k0 := 0) h0 (fun k d ρ hd hi => by rw [Nat.zero_add] at hi ⊢; exact h k d ρ hd hi) (fun ρ hi => hn ρ (by rw [Nat.zero_add] at hi; exact hi))
/-- a loop that is not broken off and out of which nothing comes -/
theorem OW_loopN {g : D → En → Option En} {fb : En → Out} (I : Nat → En → Prop) {ds : List D} {ρ : En} (h0 : I 0 ρ)
    (h : ∀ k d ρ, ds[k]? = some d → I k ρ → ∃ ρ1, g d ρ = some ρ1 ∧ OW (I (k + 1)) (fun _ => False) (I (k + 1)) (fun _ => False) (fun _ _ => False) (fb ρ1)) (hn : ∀ ρ, I ds.length ρ → N ρ) : OW N B C Rt Ex (loopD g fb ds ρ) :=
  OW_loop I h0 (fun k d ρ hd hi => by
    obtain ⟨ρ1, e, q⟩ := h k d ρ hd hi
    refine ⟨ρ1, e, ?_⟩
    revert q
    cases fb ρ1 with
    | nx ρ => exact id
    | ct ρ => exact id
    | bk ρ => exact False.elim
    | ret d => exact False.elim
    | exc ρ c fs => exact False.elim
    | stuck => exact False.elim) hn
/-- a loop that may give an answer -/
theorem OW_loopR {g : D → En → Option En} {fb : En → Out} (I : Nat → En → Prop) {ds : List D} {ρ : En} (h0 : I 0 ρ)
    (h : ∀ k d ρ, ds[k]? = some d → I k ρ → ∃ ρ1, g d ρ = some ρ1 ∧ OW (I (k + 1)) (fun _ => False) (I (k + 1)) Rt (fun _ _ => False) (fb ρ1)) (hn : ∀ ρ, I ds.length ρ → N ρ) : OW N B C Rt Ex (loopD g fb ds ρ) :=
  OW_loop I h0 (fun k d ρ hd hi => by
    obtain ⟨ρ1, e, q⟩ := h k d ρ hd hi
    refine ⟨ρ1, e, ?_⟩
    revert q
    cases fb ρ1 with
    | nx ρ => exact id
    | ct ρ => exact id
    | bk ρ => exact False.elim
    | ret d => exact id
    | exc ρ c fs => exact False.elim
    | stuck => exact False.elim) hn
end
def outR : Out → R D
  | .ret d => .ok d
  | .nx _ => .ok .non
  | .exc _ C fs => .exc C fs
  | _ => .stuck
@[simp] theorem outR_ret (d : D) : outR (.ret d) = .ok d := rfl
@[simp] theorem outR_nx (ρ : En) : outR (.nx ρ) = .ok .non := rfl
@[simp] theorem outR_exc (ρ : En) (C fs) : outR (.exc ρ C fs) = .exc C fs := rfl
theorem fn_app (n : Nat) (b : En → Out) (ds : List D) : fn n b ds = outR (b (ds.map some ++ List.replicate (n - ds.length) none)) := by unfold fn outR; cases b (ds.map some ++ List.replicate (n - ds.length) none) <;> rfl
theorem fn_ok' {n : Nat} {b : En → Out} {ds : List D} {Q : D → Prop} (h : OW (fun _ => Q .non) (fun _ => False) (fun _ => False) Q (fun _ _ => False) (b (ds.map some ++ List.replicate (n - ds.length) none))) : ∃ d, fn n b ds = .ok d ∧ Q d := by
  rw [fn_app]
  revert h
  cases b (ds.map some ++ List.replicate (n - ds.length) none) with
  | ret d => exact fun h => ⟨d, rfl, h⟩
  | nx ρ => exact fun h => ⟨.non, rfl, h⟩
  | bk ρ => exact False.elim
  | ct ρ => exact False.elim
  | exc ρ C fs => exact False.elim
  | stuck => exact False.elim

/-! ### comprehensions -/
theorem compD_map {α : Type} {g : D → En → Option En} {fc : En → R Bool} {fe : En → R D} {ρ : En} (enc : α → D) (p : α → Bool) (h : α → D) : ∀ (xs : List α), (∀ x ∈ xs, ∃ ρ1, g (enc x) ρ = some ρ1 ∧ fc ρ1 = .ok (p x) ∧ (p x = true → fe ρ1 = .ok (h x))) →
    compD g fc fe ρ (xs.map enc) = .ok ((xs.filter p).map h)
  | [], _ => rfl
  | x :: r, hh => by
    obtain ⟨ρ1, e1, e2, e3⟩ := hh x List.mem_cons_self
    have ih := compD_map enc p h r fun y m => hh y (List.mem_cons_of_mem _ m)
    rw [List.map_cons]
    unfold compD
    rw [e1]
    dsimp only
    rw [e2]
    cases ep : p x with
    | false => dsimp only; rw [ih, List.filter_cons_of_neg (by rw [ep]; exact Bool.false_ne_true)]
    | true =>
      dsimp only
      rw [e3 ep]
      dsimp only
      rw [ih, List.filter_cons_of_pos ep]
      rfl
def mkComp : R (List D) → R D
  | .ok ys => .ok (.lst true ys)
  | _ => .stuck
@[simp] theorem eLc_app (vs S : List Nat) (fi : En → R (List D)) (g : D → En → Option En) (fc : En → R Bool) (fe : En → R D) (ρ : En) : eLc vs S fi g fc fe ρ = (fi ρ).bind fun ds => mkComp (compD g fc fe (visE S vs 0 ρ) ds) := by
  unfold eLc mkComp
  rfl
@[simp] theorem mkComp_ok (ys : List D) : mkComp (.ok ys) = .ok (.lst true ys) := rfl

theorem compD_upto {lo : Int} {n : Nat} {g : D → En → Option En} {fc : En → R Bool} {fe : En → R D} {ρ : En} (p : Nat → Bool) (h : Nat → D) (hh : ∀ k < n, ∃ ρ1, g (.int (lo + k)) ρ = some ρ1 ∧ fc ρ1 = .ok (p k) ∧ (p k = true → fe ρ1 = .ok (h k))) :
    compD g fc fe ρ (upto lo n) = .ok (((List.range n).filter p).map h) := compD_map (fun k : Nat => D.int (lo + k)) p h _ fun k m => hh k (List.mem_range.mp m)
@[simp] theorem cYes_app (ρ : En) : cYes ρ = .ok true := rfl
theorem filter_true {α : Type} (xs : List α) : xs.filter (fun _ => true) = xs := by rw [List.filter_eq_self]; intro _ _; rfl
/-! rows of places -/
def nats (sh : List Nat) : List D := sh.map fun (k : Nat) => D.int (k : Int)
theorem nats_def (sh : List Nat) : sh.map (fun (k : Nat) => D.int (k : Int)) = nats sh := rfl
theorem nats_val (sh : List Nat) : valL (nats sh) = true := by
  rw [valL_all, List.all_eq_true]
  intro d m
  obtain ⟨k, _, e⟩ := List.mem_map.mp m
  rw [← e]; rfl
@[simp] theorem nats_frz (sh : List Nat) : frzL (nats sh) = nats sh := (valL_frz (nats_val sh)).1
@[simp] theorem nats_clean (sh : List Nat) : cleanL (nats sh) = true := (valL_frz (nats_val sh)).2
@[simp] theorem nats_length (sh : List Nat) : (nats sh).length = sh.length := List.length_map ..
theorem nats_at {sh : List Nat} {i : Nat} {k : Nat} (h : sh[i]? = some k) : atI (nats sh) (i : Int) = some (.int k) := by
  rw [atI_pos (by omega) (by rw [nats_length]; have := (List.getElem?_eq_some_iff.mp h).1; omega), Int.toNat_natCast]
  unfold nats
  rw [List.getElem?_map, h]
  rfl
/-! visE on literal frames -/
@[simp] theorem visE_nil (S vs : List Nat) (k : Nat) : visE S vs k [] = [] := rfl
@[simp] theorem visE_cons (S vs : List Nat) (k : Nat) (d : Option D) (r : En) : visE S vs k (d :: r) = (if S.contains k && !vs.contains k then d.map D.frz else none) :: visE S vs (k + 1) r := rfl
/-! slices -/
def cutL {α : Type} (xs : List α) (lo hi : Option Int) : List α := (xs.drop (HT.sIx xs.length 0 lo)).take (HT.sIx xs.length xs.length hi - HT.sIx xs.length 0 lo)
theorem cut_map {α : Type} (e : α → D) (xs : List α) (lo hi : Option Int) : cutD (xs.map e) lo hi = (cutL xs lo hi).map e := by
  unfold cutD cutL
  rw [List.length_map, List.map_take, List.map_drop]
theorem gSl_prs_lst (o : Bool) (ps : List (Int × Int)) (lo hi : Option Int) : gSl (.lst o (ps.map pr)) lo hi = some (.lst true ((cutL ps lo hi).map pr)) := by
  unfold gSl
  rw [← cut_map]
  exact if_pos (prs_val ps)
theorem gSl_prs_tup (ps : List (Int × Int)) (lo hi : Option Int) : gSl (.tup (ps.map pr)) lo hi = some (.tup ((cutL ps lo hi).map pr)) := by
  unfold gSl
  rw [← cut_map]
  exact if_pos (prs_val ps)
theorem sIx_pos {n d : Nat} {i : Int} (h : 0 ≤ i) : HT.sIx n d (some i) = min i.toNat n := by
  exact if_neg (by omega)
theorem cutL_len {α : Type} (xs : List α) {lo hi : Int} (h0 : 0 ≤ lo) (h1 : lo ≤ hi) (h2 : hi ≤ xs.length) : (cutL xs (some lo) (some hi)).length = (hi - lo).toNat := by
  unfold cutL
  rw [sIx_pos h0, sIx_pos (by omega), List.length_take, List.length_drop]
  omega
/-! stores -/
theorem store_pr {ps : List (Int × Int)} {k : Int} (h : 0 ≤ k ∧ k < ps.length) (v : Int × Int) : gStoreL (.lst true (ps.map pr)) [pr v, .int k] = some (.lst true ((ps.set k.toNat v).map pr), .non) := by
  show (ixN (ps.map pr).length k).map _ = _
  rw [List.length_map]
  unfold ixN
  rw [if_pos h.1, if_pos h.2, List.map_set]
  rfl
theorem atI_pr {ps : List (Int × Int)} {i : Int} (h : 0 ≤ i ∧ i < ps.length) : ∃ p, atI (ps.map pr) i = some (pr p) ∧ p ∈ ps := by
  obtain ⟨p, h1, h2⟩ := atI_some h
  exact ⟨p, atI_prs h1, h2⟩
/-! positions -/
theorem posD_pr (p : Int × Int) : ∀ ps : List (Int × Int), posD (pr p) (ps.map pr) = if p ∈ ps then some (ps.idxOf p) else none
  | [] => rfl
  | q :: r => by
    rw [List.map_cons]
    unfold posD
    rw [eqD_pr, posD_pr p r]
    by_cases h : q = p
    · subst h
      simp
    · have h' : ¬ p = q := fun z => h z.symm
      have hq : (q == p) = false := by simpa using h
      by_cases hm : p ∈ r
      · simp [h, h', hm, List.idxOf_cons, hq]
      · simp [h, h', hm]
theorem gIndex_pr {o : Bool} {p : Int × Int} {ps : List (Int × Int)} (h : p ∈ ps) : gIndex (.lst o (ps.map pr)) [pr p] = some (.int (ps.idxOf p)) := by
  have h2 : okN 9 (.lst true (ps.map pr)) = true := by simp only [okN]; exact okNL_prs 7 ps
  unfold gIndex
  dsimp only
  rw [okN_pr, h2, posD_pr, if_pos h]
  rfl
theorem srtI_two (a b : Int) : srtI [a, b] = if b < a then [b, a] else [a, b] := by
  refine (srtI_eq ?_ ?_).symm
  · split
    · exact List.Perm.swap a b []
    · exact List.Perm.refl _
  · split
    · simp; omega
    · simp; omega
@[simp] theorem gSortedI_two (o : Bool) (a b : Int) : gSortedI [.lst o [.int a, .int b]] = some (.lst true (if b < a then [.int b, .int a] else [.int a, .int b])) := by
  have e : gSortedI [.lst o [.int a, .int b]] = some (.lst true ((srtI [a, b]).map D.int)) := rfl
  rw [e, srtI_two]
  split <;> rfl

/-! comprehensions over short rows -/
def compB : R Bool → R D → R (List D) → R (List D)
  | .ok true, .ok y, rest => rest.bind fun ys => .ok (y :: ys)
  | .ok true, _, _ => .stuck
  | .ok false, _, rest => rest
  | _, _, _ => .stuck
def compG : Option En → (En → R Bool) → (En → R D) → R (List D) → R (List D)
  | none, _, _, _ => .stuck
  | some ρ1, fc, fe, rest => compB (fc ρ1) (fe ρ1) rest
theorem compD_nil (g : D → En → Option En) (fc : En → R Bool) (fe : En → R D) (ρ : En) : compD g fc fe ρ [] = .ok [] := rfl
theorem compD_cons (g : D → En → Option En) (fc : En → R Bool) (fe : En → R D) (ρ : En) (d : D) (r : List D) : compD g fc fe ρ (d :: r) = compG (g d ρ) fc fe (compD g fc fe ρ r) := by
  unfold compG
  conv => lhs; unfold compD
  cases g d ρ with
  | none => rfl
  | some ρ1 =>
    dsimp only
    unfold compB
    cases fc ρ1 with
    | ok b => cases b with | true => cases fe ρ1 <;> rfl | false => rfl
    | exc _ _ => rfl
    | stuck => rfl
@[simp] theorem compG_some (ρ1 : En) (fc : En → R Bool) (fe : En → R D) (rest : R (List D)) : compG (some ρ1) fc fe rest = compB (fc ρ1) (fe ρ1) rest := rfl
@[simp] theorem compB_yes (y : D) (rest : R (List D)) : compB (.ok true) (.ok y) rest = rest.bind fun ys => .ok (y :: ys) := rfl
@[simp] theorem compB_no (y : R D) (rest : R (List D)) : compB (.ok false) y rest = rest := rfl
@[simp] theorem atI_7 {α : Type} (a b c d e f g h : α) (r : List α) : atI (a :: b :: c :: d :: e :: f :: g :: h :: r) 7 = some h := by
  rw [atI_pos (by decide) (by simp only [List.length_cons]; omega)]; rfl
theorem OW_mid {N B C : En → Prop} {Rt : D → Prop} {Ex : Str → List (Str × D) → Prop} {o : Out} {k : En → Out} (M : En → Prop) (h1 : OW M B C Rt Ex o) (h2 : ∀ ρ, M ρ → OW N B C Rt Ex (k ρ)) : OW N B C Rt Ex (o.seq k) := by
  refine OW_seq ?_
  cases o with
  | nx ρ => exact h2 ρ h1
  | ret d => exact h1
  | bk ρ => exact h1
  | ct ρ => exact h1
  | exc ρ c fs => exact h1
  | stuck => exact h1

/-! ### sorted corners -/
theorem pairsD_prs : ∀ ps : List (Int × Int), pairsD (ps.map pr) = some ps
  | [] => rfl
  | p :: r => by
    rw [List.map_cons]
    unfold pairsD
    rw [show pairD (pr p) = some p from rfl, pairsD_prs r]
    rfl
theorem gSortedSet_pr {o : Bool} {ps : List (Int × Int)} (h : ps.length < 64) : gSortedSet [.lst o (ps.map pr)] = some (.lst true ((srtP (ddP ps)).map pr)) := by
  unfold gSortedSet
  dsimp only
  rw [if_pos (by rw [List.length_map]; exact h), pairsD_prs]
  rfl
theorem gSortedG_pr {o : Bool} (ps : List (Int × Int)) : gSortedG [.lst o (ps.map pr)] = some (.lst true ((srtP ps).map pr)) := by
  unfold gSortedG
  dsimp only
  cases ps with
  | nil =>
    show some (D.lst true ((srtI []).map D.int)) = some (D.lst true ((srtP []).map pr))
    simp [srtI, srtP]
  | cons p r =>
    rw [show intsOf ((p :: r).map pr) = none from rfl]
    dsimp only
    rw [pairsD_prs]
    rfl
@[simp] theorem gSortedG_two (o : Bool) (a b : Int) : gSortedG [.lst o [.int a, .int b]] = some (.lst true (if b < a then [.int b, .int a] else [.int a, .int b])) := by
  rw [← gSortedI_two o a b]
  rfl
theorem keyPs_mk : ∀ l : List ((Int × Int) × D), keyPs (mkD l) = some (l.map (·.1))
  | [] => rfl
  | e :: r => by
    show ((keysD (pr e.1)).bind keyP).bind (fun q => (keyPs (mkD r)).map (q :: ·)) = _
    rw [keyPs_mk r]
    rfl
theorem gSortedG_mk {o : Bool} (l : List ((Int × Int) × D)) : gSortedG [.dct o true (mkD l)] = some (.lst true ((srtP (l.map (·.1))).map pr)) := by
  unfold gSortedG
  dsimp only
  rw [keyPs_mk]
  rfl
theorem srtP_perm (ps : List (Int × Int)) : (srtP ps).Perm ps := List.mergeSort_perm _ _
theorem mem_srtP {ps : List (Int × Int)} {p : Int × Int} : p ∈ srtP ps ↔ p ∈ ps := (srtP_perm ps).mem_iff
theorem srtP_length (ps : List (Int × Int)) : (srtP ps).length = ps.length := (srtP_perm ps).length_eq
/-- two rows without doubles of the same corners sort alike -/
theorem srtP_same {ps qs : List (Int × Int)} (h1 : ps.Nodup) (h2 : qs.Nodup) (h : ∀ x, x ∈ ps ↔ x ∈ qs) : srtP ps = srtP qs := by
  have pm : ps.Perm qs := (List.perm_ext_iff_of_nodup h1 h2).mpr h
  have s : (srtP ps).Pairwise fun a b => SrtO.lexB b a = false := by
    have := List.pairwise_mergeSort (le := leP) (fun a b c h1 h2 => ?_) (fun a b => ?_) ps
    · exact this.imp fun h => by unfold leP at h; simpa using h
    · unfold leP at h1 h2 ⊢
      have a1 := SrtO.lexB_no.mp (show SrtO.lexB b a = false by simpa using h1)
      have a2 := SrtO.lexB_no.mp (show SrtO.lexB c b = false by simpa using h2)
      rw [Bool.not_eq_true']
      refine SrtO.lexB_no.mpr ?_
      omega
    · unfold leP
      cases h : SrtO.lexB b a with
      | false => rfl
      | true =>
        have a1 := SrtO.lexB_iff.mp h
        have : SrtO.lexB a b = false := SrtO.lexB_no.mpr (by omega)
        rw [this]
        rfl
  exact srtP_eq ((srtP_perm ps).trans pm) s
/-- corners in their order, none twice -/
def Asc (ps : List (Int × Int)) : Prop := ps.Pairwise fun a b => a.1 < b.1 ∨ (a.1 = b.1 ∧ a.2 < b.2)
theorem Asc.nodup {ps : List (Int × Int)} (h : Asc ps) : ps.Nodup := h.imp fun z e => by rw [e] at z; omega
theorem Asc.srt {ps qs : List (Int × Int)} (h : Asc ps) (h2 : qs.Nodup) (hm : ∀ x, x ∈ qs ↔ x ∈ ps) : srtP qs = ps := by
  refine (srtP_eq ((List.perm_ext_iff_of_nodup h.nodup h2).mpr fun x => (hm x).symm) (h.imp fun z => SrtO.lexB_no.mpr (by omega))).symm
theorem Asc.filter {ps : List (Int × Int)} (h : Asc ps) (f : Int × Int → Bool) : Asc (ps.filter f) := List.Pairwise.filter f h

/-! ### marks: a dict of corners, all True -/
def mkT (l : List (Int × Int)) : List (D × D) := mkD (l.map fun p => (p, D.bl true))
def addU (l : List (Int × Int)) (p : Int × Int) : List (Int × Int) := if p ∈ l then l else l ++ [p]
theorem addU_nodup {l : List (Int × Int)} {p : Int × Int} (h : l.Nodup) : (addU l p).Nodup := by
  unfold addU
  split
  · exact h
  · rename_i n
    refine List.nodup_append.mpr ⟨h, by simp, fun a ha b hb e => ?_⟩
    rw [List.mem_singleton.mp hb] at e
    exact n (by rw [← e]; exact ha)
theorem addU_mem {l : List (Int × Int)} {p x : Int × Int} : x ∈ addU l p ↔ x ∈ l ∨ x = p := by
  unfold addU
  split
  · rename_i h
    exact ⟨.inl, fun z => z.elim id fun e => by rw [e]; exact h⟩
  · rw [List.mem_append, List.mem_singleton]
def addAll (l ps : List (Int × Int)) : List (Int × Int) := ps.foldl addU l
theorem addAll_nodup : ∀ {ps l : List (Int × Int)}, l.Nodup → (addAll l ps).Nodup
  | [], _, h => h
  | _ :: r, _, h => addAll_nodup (ps := r) (addU_nodup h)
theorem addAll_mem {x : Int × Int} : ∀ {ps l : List (Int × Int)}, x ∈ addAll l ps ↔ x ∈ l ∨ x ∈ ps
  | [], _ => by simp [addAll]
  | p :: r, l => by
    show x ∈ addAll (addU l p) r ↔ _
    rw [addAll_mem, addU_mem, List.mem_cons, or_assoc]
theorem addU_length (l : List (Int × Int)) (p : Int × Int) : (addU l p).length ≤ l.length + 1 := by
  unfold addU
  split
  · omega
  · simp
theorem any_mkT (p : Int × Int) (l : List (Int × Int)) : ((l.map fun p => (p, D.bl true)).any fun e => decide (e.1 = p)) = decide (p ∈ l) := by
  rw [List.any_map, Bool.eq_iff_iff, List.any_eq_true, decide_eq_true_iff]
  constructor
  · rintro ⟨q, m, e⟩
    have : q = p := of_decide_eq_true e
    rw [← this]; exact m
  · intro m
    exact ⟨p, m, decide_eq_true rfl⟩
theorem putA_mkT (p : Int × Int) (l : List (Int × Int)) : putA (l.map fun p => (p, D.bl true)) p (.bl true) = (addU l p).map fun p => (p, D.bl true) := by
  unfold putA addU
  rw [any_mkT]
  by_cases h : p ∈ l
  · rw [if_pos (decide_eq_true h), if_pos h, List.map_map]
    refine List.map_congr_left fun q _ => ?_
    show (if q = p then (q, D.bl true) else (q, D.bl true)) = _
    split <;> rfl
  · rw [if_neg (by rw [decide_eq_true_iff]; exact h), if_neg h, List.map_append]
    rfl
theorem gStoreD_mkT {p : Int × Int} {l : List (Int × Int)} (hl : l.length < 16777216) : gStoreD (.dct true true (mkT l)) [.bl true, pr p] = some (.dct true true (mkT (addU l p)), .non) := by
  unfold mkT
  rw [gStoreD_mk (by rw [List.length_map]; exact hl) (fun _ => rfl), putA_mkT]
theorem lookA_mkT (p : Int × Int) : ∀ l : List (Int × Int), (lookA (l.map fun p => (p, D.bl true)) p).isSome = decide (p ∈ l)
  | [] => rfl
  | q :: r => by
    show (if q = p then some (D.bl true) else lookA (r.map fun p => (p, D.bl true)) p).isSome = _
    by_cases h : q = p
    · rw [if_pos h, h]; simp
    · rw [if_neg h, lookA_mkT p r]
      have : p ≠ q := fun z => h z.symm
      simp [this]
@[simp] theorem gIn_mkT (n o : Bool) (p : Int × Int) (l : List (Int × Int)) : gIn n (pr p) (.dct o true (mkT l)) = some (.bl (if n then !decide (p ∈ l) else decide (p ∈ l))) := by
  unfold mkT
  rw [gIn_mk, lookA_mkT]
theorem gSortedG_mkT {o : Bool} (l : List (Int × Int)) : gSortedG [.dct o true (mkT l)] = some (.lst true ((srtP l).map pr)) := by
  unfold mkT
  rw [gSortedG_mk, List.map_map]
  congr 4
  exact List.map_id'' (fun _ => rfl) l
theorem dcStep_mkT {p : Int × Int} {l : List (Int × Int)} (hl : l.length < 16777216) : dcStep true (mkT l) (pr p) (.bl true) = some (mkT (addU l p)) := by
  unfold dcStep mkT
  rw [if_pos (by rw [mkD_length, List.length_map]; simp [hl]), storeD_mk (fun _ => rfl), putA_mkT]
theorem mkT_nil : mkT [] = [] := rfl
/-- {c: True for c in ps} -/
theorem dcD_mkT {i : Nat} {ρ : En} (hi : i < ρ.length) : ∀ (ps l : List (Int × Int)), l.length + ps.length < 16777216 → dcD true (gSet i) cYes (eVar i) (eC (.bl true)) ρ (mkT l) (ps.map pr) = .ok (mkT (addAll l ps))
  | [], l, _ => rfl
  | p :: r, l, h => by
    rw [List.length_cons] at h
    have hu := addU_length l p
    rw [List.map_cons]
    unfold dcD
    rw [gSet_app, if_pos hi]
    dsimp only
    rw [cYes_app, eVar_app, List.getElem?_set_self hi]
    dsimp only [readAt_some, eC_app, pr_frz]
    rw [dcStep_mkT (by omega)]
    exact dcD_mkT hi r (addU l p) (by omega)
def mkDct (t : Bool) : R (List (D × D)) → R D
  | .ok kvs => .ok (.dct true t kvs)
  | _ => .stuck
@[simp] theorem mkDct_ok (t : Bool) (kvs : List (D × D)) : mkDct t (.ok kvs) = .ok (.dct true t kvs) := rfl
@[simp] theorem eDc_app (t : Bool) (vs S : List Nat) (fi : En → R (List D)) (g : D → En → Option En) (fc : En → R Bool) (fk fv : En → R D) (ρ : En) : eDc t vs S fi g fc fk fv ρ = (fi ρ).bind fun ds => mkDct t (dcD t g fc fk fv (visE S vs 0 ρ) [] ds) := by
  unfold eDc mkDct
  rfl
@[simp] theorem frzK_mkT (l : List (Int × Int)) : frzK (mkT l) = mkT l := by
  induction l with
  | nil => rfl
  | cons p r ih => exact congrArg ((pr p, D.bl true) :: ·) ih
@[simp] theorem cleanK_mkT (l : List (Int × Int)) : cleanK (mkT l) = true := by
  induction l with
  | nil => rfl
  | cons p r ih => exact ih
end TL
/-! Y1: typed functions beside the mirrors -/
namespace TL
open PySem PySem.Spec PyProof.Rows L2

/-! ### how typed data lie in trees -/
def eI : Int → D := D.int
def eB : Bool → D := D.bl
def eS : Str → D := D.str
def eU : Unit → D := fun _ => .non
def eX : D → D := D.frz
section
variable {α β γ δ ε : Type}
def eP (a : α → D) (b : β → D) : α × β → D := fun p => .tup [a p.1, b p.2]
def eP1 (a : α → D) : α → D := fun p => .tup [a p]
def eP3 (a : α → D) (b : β → D) (c : γ → D) : α × β × γ → D := fun p => .tup [a p.1, b p.2.1, c p.2.2]
def eP4 (a : α → D) (b : β → D) (c : γ → D) (d : δ → D) : α × β × γ × δ → D := fun p => .tup [a p.1, b p.2.1, c p.2.2.1, d p.2.2.2]
def eP5 (a : α → D) (b : β → D) (c : γ → D) (d : δ → D) (e : ε → D) : α × β × γ × δ × ε → D := fun p => .tup [a p.1, b p.2.1, c p.2.2.1, d p.2.2.2.1, e p.2.2.2.2]
def eL (e : α → D) : List α → D := fun xs => .lst false (xs.map e)
def eV (e : α → D) : List α → D := fun xs => .tup (xs.map e)
def eO (e : α → D) : Option α → D
  | none => .non
  | some x => e x
def eKl : List Int → D := fun xs => .kl (xs.map D.int)
end
mutual
theorem frz_frz : ∀ d : D, d.frz.frz = d.frz
  | .non => rfl
  | .bl _ => rfl
  | .int _ => rfl
  | .str _ => rfl
  | .tup xs => congrArg D.tup (frzL_frzL xs)
  | .lst _ xs => congrArg (D.lst false) (frzL_frzL xs)
  | .dct _ t kvs => congrArg (D.dct false t) (frzK_frzK kvs)
  | .ins _ C fs => congrArg (D.ins false C) (frzF_frzF fs)
  | .kl xs => congrArg D.kl (frzL_frzL xs)
  | .kt xs => congrArg D.kt (frzL_frzL xs)
  | .xr C fs => congrArg (D.xr C) (frzF_frzF fs)
theorem frzL_frzL : ∀ xs : List D, frzL (frzL xs) = frzL xs
  | [] => rfl
  | d :: r => by
    show d.frz.frz :: frzL (frzL r) = d.frz :: frzL r
    rw [frz_frz d, frzL_frzL r]
theorem frzK_frzK : ∀ xs : List (D × D), frzK (frzK xs) = frzK xs
  | [] => rfl
  | (k, d) :: r => by
    show (k, d.frz.frz) :: frzK (frzK r) = (k, d.frz) :: frzK r
    rw [frz_frz d, frzK_frzK r]
theorem frzF_frzF : ∀ xs : List (Str × D), frzF (frzF xs) = frzF xs
  | [] => rfl
  | (k, d) :: r => by
    show (k, d.frz.frz) :: frzF (frzF r) = (k, d.frz) :: frzF r
    rw [frz_frz d, frzF_frzF r]
end
class Fz {α : Type} (e : α → D) : Prop where
  fz : ∀ a, (e a).frz = e a
class Vl {α : Type} (e : α → D) : Prop where
  vl : ∀ a, (e a).val = true
instance vlFz {α : Type} (e : α → D) [Vl e] : Fz e := ⟨fun a => (val_frz (Vl.vl a)).1⟩
instance : Vl eI := ⟨fun _ => rfl⟩
instance : Vl eB := ⟨fun _ => rfl⟩
instance : Vl eS := ⟨fun _ => rfl⟩
instance : Vl eU := ⟨fun _ => rfl⟩
instance : Vl pr := ⟨fun _ => rfl⟩
instance : Fz eX := ⟨fun d => frz_frz d⟩
section
variable {α β γ δ ε : Type} {ea : α → D} {eb : β → D} {ec : γ → D} {ed : δ → D} {ee : ε → D}
theorem valL_map [h : Vl ea] (xs : List α) : valL (xs.map ea) = true := by
  rw [valL_all, List.all_map, List.all_eq_true]
  exact fun a _ => h.vl a
theorem frzL_mapE [h : Fz ea] (xs : List α) : frzL (xs.map ea) = xs.map ea := by
  rw [frzL_map, List.map_map]
  exact List.map_congr_left fun a _ => h.fz a
instance [Vl ea] [Vl eb] : Vl (eP ea eb) := ⟨fun p => by simp [eP, Vl.vl]⟩
instance [Vl ea] : Vl (eP1 ea) := ⟨fun p => by simp [eP1, Vl.vl]⟩
instance [Vl ea] [Vl eb] [Vl ec] : Vl (eP3 ea eb ec) := ⟨fun p => by simp [eP3, Vl.vl]⟩
instance [Vl ea] [Vl eb] [Vl ec] [Vl ed] : Vl (eP4 ea eb ec ed) := ⟨fun p => by simp [eP4, Vl.vl]⟩
instance [Vl ea] [Vl eb] [Vl ec] [Vl ed] [Vl ee] : Vl (eP5 ea eb ec ed ee) := ⟨fun p => by simp [eP5, Vl.vl]⟩
instance [Vl ea] : Vl (eV ea) := ⟨fun xs => valL_map xs⟩
instance [Vl ea] : Vl (eO ea) := ⟨fun o => by cases o with | none => rfl | some x => exact Vl.vl x⟩
instance [Fz ea] [Fz eb] : Fz (eP ea eb) := ⟨fun p => by simp [eP, Fz.fz]⟩
instance [Fz ea] : Fz (eP1 ea) := ⟨fun p => by simp [eP1, Fz.fz]⟩
instance [Fz ea] [Fz eb] [Fz ec] : Fz (eP3 ea eb ec) := ⟨fun p => by simp [eP3, Fz.fz]⟩
instance [Fz ea] [Fz eb] [Fz ec] [Fz ed] : Fz (eP4 ea eb ec ed) := ⟨fun p => by simp [eP4, Fz.fz]⟩
instance [Fz ea] [Fz eb] [Fz ec] [Fz ed] [Fz ee] : Fz (eP5 ea eb ec ed ee) := ⟨fun p => by simp [eP5, Fz.fz]⟩
instance [Fz ea] : Fz (eV ea) := ⟨fun xs => congrArg D.tup (frzL_mapE xs)⟩
instance [Fz ea] : Fz (eL ea) := ⟨fun xs => congrArg (D.lst false) (frzL_mapE xs)⟩
instance [Fz ea] : Fz (eO ea) := ⟨fun o => by cases o with | none => rfl | some x => exact Fz.fz x⟩
instance : Fz eKl := ⟨fun xs => congrArg D.kl (frzL_mapE (ea := eI) xs)⟩
end

/-! ### what stands behind a frozen tree -/
theorem inv_non {x : D} (h : x.frz = .non) : x = .non := by cases x <;> simp [D.frz] at h ⊢
theorem inv_bl {x : D} {b : Bool} (h : x.frz = .bl b) : x = .bl b := by cases x <;> simp [D.frz] at h ⊢; exact h
theorem inv_int {x : D} {b : Int} (h : x.frz = .int b) : x = .int b := by cases x <;> simp [D.frz] at h ⊢; exact h
theorem inv_str {x : D} {b : Str} (h : x.frz = .str b) : x = .str b := by cases x <;> simp [D.frz] at h ⊢; exact h
theorem inv_tup {x : D} {zs : List D} (h : x.frz = .tup zs) : ∃ ys, x = .tup ys ∧ frzL ys = zs := by cases x <;> simp [D.frz] at h ⊢; exact h
theorem inv_lst {x : D} {zs : List D} (h : x.frz = .lst false zs) : ∃ o ys, x = .lst o ys ∧ frzL ys = zs := by
  cases x with
  | lst o ys => exact ⟨o, ys, rfl, by simpa [D.frz] using h⟩
  | _ => simp [D.frz] at h
theorem inv_kl {x : D} {zs : List D} (h : x.frz = .kl zs) : ∃ ys, x = .kl ys ∧ frzL ys = zs := by cases x <;> simp [D.frz] at h ⊢; exact h
theorem inv_dct {x : D} {t : Bool} {zs : List (D × D)} (h : x.frz = .dct false t zs) : ∃ o ys, x = .dct o t ys ∧ frzK ys = zs := by
  cases x with
  | dct o u ys =>
    simp [D.frz] at h
    exact ⟨o, ys, by rw [h.1], h.2⟩
  | _ => simp [D.frz] at h
mutual
theorem frz_val : ∀ {x : D}, x.frz.val = true → x.frz = x
  | .non, _ => rfl
  | .bl _, _ => rfl
  | .int _, _ => rfl
  | .str _, _ => rfl
  | .tup xs, h => congrArg D.tup (frzL_val (xs := xs) h)
  | .lst _ _, h => nomatch h
  | .dct _ _ _, h => nomatch h
  | .ins _ _ _, h => nomatch h
  | .kl _, h => nomatch h
  | .kt _, h => nomatch h
  | .xr _ _, h => nomatch h
theorem frzL_val : ∀ {xs : List D}, valL (frzL xs) = true → frzL xs = xs
  | [], _ => rfl
  | d :: r, h => by
    have h' := Bool.and_eq_true_iff.mp h
    rw [frzL_cons, frz_val (x := d) h'.1, frzL_val h'.2]
end
theorem inv_val {α : Type} {e : α → D} [Vl e] {x : D} {a : α} (h : x.frz = e a) : x = e a := by
  rw [← h]
  exact (frz_val (by rw [h]; exact Vl.vl a)).symm
theorem inv_valL {α : Type} {e : α → D} [Vl e] : ∀ {ys : List D} {xs : List α}, frzL ys = xs.map e → ys = xs.map e
  | [], [], _ => rfl
  | [], _ :: _, h => nomatch h
  | _ :: _, [], h => nomatch h
  | y :: ys, x :: xs, h => by
    rw [frzL_cons, List.map_cons] at h
    injection h with h1 h2
    rw [List.map_cons, inv_val h1, inv_valL h2]

/-! ### frames -/
inductive Sl where
  | any | w (d : D) | o (d : D)
def ownT : D → Bool
  | .lst true _ => true
  | .dct true _ _ => true
  | .ins true _ _ => true
  | _ => false
def Sl.fits : Sl → Option D → Prop
  | .any, _ => True
  | .w d, x => ∃ y, x = some y ∧ y.frz = d
  | .o d, x => ∃ y, x = some y ∧ y.frz = d ∧ ownT y = true
def Fits : List Sl → En → Prop
  | [], [] => True
  | s :: r, x :: q => s.fits x ∧ Fits r q
  | _, _ => False
def Sl.weak : Sl → Sl
  | .o d => .w d
  | s => s
theorem Sl.fits_weak {s : Sl} {x : Option D} (h : s.fits x) : s.weak.fits x := by
  cases s with
  | any => trivial
  | w d => exact h
  | o d => obtain ⟨y, a, b, _⟩ := h; exact ⟨y, a, b⟩
theorem Fits.len : ∀ {Γ : List Sl} {ρ : En}, Fits Γ ρ → Γ.length = ρ.length
  | [], [], _ => rfl
  | _ :: _, _ :: _, h => congrArg (· + 1) (Fits.len h.2)
  | [], _ :: _, h => h.elim
  | _ :: _, [], h => h.elim
theorem Fits.get : ∀ {Γ : List Sl} {ρ : En} {i : Nat} {s : Sl}, Fits Γ ρ → Γ[i]? = some s → ∃ x, ρ[i]? = some x ∧ s.fits x
  | [], _, _, _, _, e => nomatch e
  | _ :: _, [], _, _, h, _ => h.elim
  | _ :: _, x :: _, 0, _, h, e => by cases e; exact ⟨x, rfl, h.1⟩
  | _ :: Γ, _ :: ρ, i + 1, s, h, e => Fits.get (Γ := Γ) (ρ := ρ) (i := i) h.2 (by simpa using e)
theorem Fits.getW {Γ : List Sl} {ρ : En} {i : Nat} {d : D} (h : Fits Γ ρ) (e : Γ[i]? = some (.w d)) : ∃ y, ρ[i]? = some (some y) ∧ y.frz = d := by
  obtain ⟨x, h1, y, h2, h3⟩ := h.get e
  exact ⟨y, by rw [h1, h2], h3⟩
theorem Fits.getO {Γ : List Sl} {ρ : En} {i : Nat} {d : D} (h : Fits Γ ρ) (e : Γ[i]? = some (.o d)) : ∃ y, ρ[i]? = some (some y) ∧ y.frz = d ∧ ownT y = true := by
  obtain ⟨x, h1, y, h2, h3⟩ := h.get e
  exact ⟨y, by rw [h1, h2], h3⟩
theorem Fits.set : ∀ {Γ : List Sl} {ρ : En} {i : Nat} {s : Sl} {x : Option D}, Fits Γ ρ → s.fits x → Fits (Γ.set i s) (ρ.set i x)
  | [], [], _, _, _, _, _ => trivial
  | _ :: _, _ :: _, 0, _, _, h, k => ⟨k, h.2⟩
  | _ :: Γ, _ :: ρ, i + 1, s, x, h, k => ⟨h.1, Fits.set (Γ := Γ) (ρ := ρ) (i := i) h.2 k⟩
  | [], _ :: _, _, _, _, h, _ => h.elim
  | _ :: _, [], _, _, _, h, _ => h.elim
def wk1 (i : Nat) (Γ : List Sl) : List Sl := match Γ[i]? with
  | some s => Γ.set i s.weak
  | none => Γ
def wkn (S : List Nat) (Γ : List Sl) : List Sl := S.foldl (fun Γ i => wk1 i Γ) Γ
theorem set_same {α : Type} : ∀ {l : List α} {i : Nat} {x : α}, l[i]? = some x → l.set i x = l
  | [], _, _, h => nomatch h
  | _ :: _, 0, _, h => by cases h; rfl
  | a :: l, i + 1, x, h => congrArg (a :: ·) (set_same (l := l) (i := i) (by simpa using h))
theorem Fits.wk1 {Γ : List Sl} {ρ : En} (i : Nat) (h : Fits Γ ρ) : Fits (wk1 i Γ) ρ := by
  unfold TL.wk1
  cases e : Γ[i]? with
  | none => exact h
  | some s =>
    obtain ⟨x, e1, hx⟩ := h.get e
    have := h.set (i := i) (Sl.fits_weak hx)
    rw [set_same e1] at this
    exact this
theorem Fits.frz1 {Γ : List Sl} {ρ : En} (i : Nat) (h : Fits Γ ρ) : Fits (TL.wk1 i Γ) (frz1 i ρ) := by
  unfold TL.frz1
  cases e : ρ[i]? with
  | none => exact h.wk1 i
  | some x =>
    cases x with
    | none => exact h.wk1 i
    | some d =>
      unfold TL.wk1
      cases e2 : Γ[i]? with
      | none =>
        have := (List.getElem?_eq_none_iff.mp e2)
        have := (List.getElem?_eq_some_iff.mp e).1
        have := h.len
        omega
      | some s =>
        obtain ⟨x, e1, hx⟩ := h.get e2
        rw [e] at e1
        cases e1
        refine h.set ?_
        cases s with
        | any => trivial
        | w z => obtain ⟨y, a, b⟩ := hx; cases a; exact ⟨_, rfl, by rw [frz_frz]; exact b⟩
        | o z => obtain ⟨y, a, b, _⟩ := hx; cases a; exact ⟨_, rfl, by rw [frz_frz]; exact b⟩
theorem Fits.frzAt : ∀ {S : List Nat} {Γ : List Sl} {ρ : En}, Fits Γ ρ → Fits (wkn S Γ) (frzAt S ρ)
  | [], _, _, h => h
  | i :: S, _, _, h => Fits.frzAt (S := S) (h.frz1 i)
theorem Fits.wkn : ∀ {S : List Nat} {Γ : List Sl} {ρ : En}, Fits Γ ρ → Fits (TL.wkn S Γ) ρ
  | [], _, _, h => h
  | i :: S, _, _, h => Fits.wkn (S := S) (h.wk1 i)
/-- less is known -/
inductive Sle : List Sl → List Sl → Prop
  | nil : Sle [] []
  | same {s : Sl} {Γ Γ' : List Sl} (h : Sle Γ Γ') : Sle (s :: Γ) (s :: Γ')
  | any {s : Sl} {Γ Γ' : List Sl} (h : Sle Γ Γ') : Sle (s :: Γ) (.any :: Γ')
  | ow {d : D} {Γ Γ' : List Sl} (h : Sle Γ Γ') : Sle (.o d :: Γ) (.w d :: Γ')
theorem Fits.le : ∀ {Γ Γ' : List Sl} {ρ : En}, Sle Γ Γ' → Fits Γ ρ → Fits Γ' ρ
  | _, _, [], .nil, _ => trivial
  | _, _, _ :: _, .nil, h => h.elim
  | _, _, _ :: _, .same k, h => ⟨h.1, Fits.le k h.2⟩
  | _, _, [], .same _, h => h.elim
  | _, _, _ :: _, .any k, h => ⟨trivial, Fits.le k h.2⟩
  | _, _, [], .any _, h => h.elim
  | _, _, _ :: _, .ow k, h => ⟨Sl.fits_weak h.1, Fits.le k h.2⟩
  | _, _, [], .ow _, h => h.elim

/-! ### expressions -/
section
variable {α β γ δ σ τ : Type}
def RefE (o : Bool) (x : R D) (t : R α) (e : α → D) : Prop := match t with
  | .ok a => ∃ d, x = .ok d ∧ d.frz = e a ∧ (o = true → ownT d = true)
  | .exc C fs => x = .exc C fs
  | .stuck => True
structure ER (o : Bool) (Γ : List Sl) (f : En → R D) (t : R α) (e : α → D) : Prop where
  run : ∀ ρ, Fits Γ ρ → RefE o (f ρ) t e
def RefL (x : R (List D)) (t : R α) (e : α → List D) : Prop := match t with
  | .ok a => ∃ ds, x = .ok ds ∧ frzL ds = e a
  | .exc C fs => x = .exc C fs
  | .stuck => True
structure EA (Γ : List Sl) (f : En → R (List D)) (t : R α) (e : α → List D) : Prop where
  run : ∀ ρ, Fits Γ ρ → RefL (f ρ) t e
def RefB (x : R β) (t : R β) : Prop := match t with
  | .ok a => x = .ok a
  | .exc C fs => x = .exc C fs
  | .stuck => True
structure TR (Γ : List Sl) (f : En → R Bool) (t : R Bool) : Prop where
  run : ∀ ρ, Fits Γ ρ → RefB (f ρ) t
theorem RefE.bind {o p : Bool} {x : R D} {t : R α} {e : α → D} {k : D → R D} {tk : α → R β} {e2 : β → D} (h : RefE o x t e) (hk : ∀ d a, d.frz = e a → (o = true → ownT d = true) → RefE p (k d) (tk a) e2) : RefE p (x.bind k) (t.bind tk) e2 := by
  cases t with
  | ok a => obtain ⟨d, h1, h2, h3⟩ := h; rw [h1]; exact hk d a h2 h3
  | exc C fs => rw [show x = .exc C fs from h]; exact rfl
  | stuck => trivial
theorem RefE.bindG {o : Bool} {x : R D} {t : R α} {e : α → D} {P : R γ → R β → Prop} {k : D → R γ} {tk : α → R β} (h : RefE o x t e) (hx : ∀ C fs, P (.exc C fs) (.exc C fs)) (hs : ∀ x, P x .stuck) (hk : ∀ d a, d.frz = e a → (o = true → ownT d = true) → P (k d) (tk a)) : P (x.bind k) (t.bind tk) := by
  cases t with
  | ok a => obtain ⟨d, h1, h2, h3⟩ := h; rw [h1]; exact hk d a h2 h3
  | exc C fs => rw [show x = .exc C fs from h]; exact hx C fs
  | stuck => exact hs _
theorem RefE.weak {o : Bool} {x : R D} {t : R α} {e : α → D} (h : RefE o x t e) : RefE false x t e := by
  cases t with
  | ok a => obtain ⟨d, h1, h2, h3⟩ := h; exact ⟨d, h1, h2, fun z => nomatch z⟩
  | exc C fs => exact h
  | stuck => trivial
variable {o p q : Bool} {Γ : List Sl} {S : List Nat} {f fa fb fc : En → R D} {t : R α} {ta : R α} {tb : R β} {tc : R γ} {e ea : α → D} {eb : β → D} {ec : γ → D}
theorem ER.weak (h : ER o Γ f t e) : ER false Γ f t e := ⟨fun ρ k => (h.run ρ k).weak⟩
/-- the same thing in another guise -/
theorem ER.coe {c : α → β} {a : α} (h : ER o Γ f (.ok a) ea) (hc : ∀ a, eb (c a) = ea a) : ER o Γ f (.ok (c a)) eb := ⟨fun ρ k => by
  obtain ⟨d, h1, h2, h3⟩ := h.run ρ k
  exact ⟨d, h1, by rw [h2, hc], h3⟩⟩
theorem ER.coeM {c : α → β} (h : ER o Γ f ta ea) (hc : ∀ a, eb (c a) = ea a) : ER o Γ f (ta.bind fun a => .ok (c a)) eb := ⟨fun ρ k => by
  have := h.run ρ k
  cases ta with
  | ok a => obtain ⟨d, h1, h2, h3⟩ := this; exact ⟨d, h1, by rw [h2, hc], h3⟩
  | exc C fs => exact this
  | stuck => trivial⟩
/-- an option that holds something -/
theorem ER.unO {ta : R (Option α)} (h : ER o Γ f ta (eO ea)) : ER o Γ f (ta.bind ofO) ea := ⟨fun ρ k => by
  have := h.run ρ k
  cases ta with
  | ok a =>
    cases a with
    | none => trivial
    | some a => exact this
  | exc C fs => exact this
  | stuck => trivial⟩
theorem er_var {a : α} (i : Nat) (h : Γ[i]? = some (.w (ea a))) : ER false Γ (eVar i) (.ok a) ea := ⟨fun ρ k => by
  obtain ⟨y, h1, h2⟩ := k.getW h
  exact ⟨y.frz, by unfold eVar; rw [h1], by rw [frz_frz, h2], fun z => nomatch z⟩⟩
theorem er_varO {a : α} (i : Nat) (h : Γ[i]? = some (.o (ea a))) : ER false Γ (eVar i) (.ok a) ea := ⟨fun ρ k => by
  obtain ⟨y, h1, h2, _⟩ := k.getO h
  exact ⟨y.frz, by unfold eVar; rw [h1], by rw [frz_frz, h2], fun z => nomatch z⟩⟩
theorem er_c {a : α} {d : D} (h : d.frz = ea a) : ER false Γ (eC d) (.ok a) ea := ⟨fun ρ k => ⟨d, rfl, h, fun z => nomatch z⟩⟩
theorem er_cO {a : α} {d : D} (h : d.frz = ea a) (ho : ownT d = true) : ER true Γ (eC d) (.ok a) ea := ⟨fun ρ k => ⟨d, rfl, h, fun z => ho⟩⟩
def Op1 (o : Bool) (g : D → Option D) (ea : α → D) (op : α → R β) (eb : β → D) : Prop := ∀ a x, x.frz = ea a → RefE o (ofO (g x)) (op a) eb
def Op2 (o : Bool) (g : D → D → Option D) (ea : α → D) (eb : β → D) (op : α → β → R γ) (ec : γ → D) : Prop := ∀ a b x y, x.frz = ea a → y.frz = eb b → RefE o (ofO (g x y)) (op a b) ec
def OpN (o : Bool) (g : List D → Option D) (ea : α → List D) (op : α → R β) (eb : β → D) : Prop := ∀ a xs, frzL xs = ea a → RefE o (ofO (g xs)) (op a) eb
theorem er_1p {g : D → Option D} {op : α → β} {a : α} (ho : Op1 o g ea (fun a => .ok (op a)) eb) (ha : ER false Γ fa (.ok a) ea) : ER o Γ (e1 g fa) (.ok (op a)) eb := ⟨fun ρ k => by
  obtain ⟨d, h1, h2, h3⟩ := ha.run ρ k
  unfold e1
  rw [h1]
  exact ho a d h2⟩
theorem er_1 {g : D → Option D} {op : α → R β} (ho : Op1 o g ea op eb) (ha : ER false Γ fa ta ea) : ER o Γ (e1 g fa) (ta.bind op) eb := ⟨fun ρ k => (ha.run ρ k).bind fun d a h _ => ho a d h⟩
theorem er_2p {g : D → D → Option D} {op : α → β → γ} {a : α} {b : β} (ho : Op2 o g ea eb (fun a b => .ok (op a b)) ec) (ha : ER false Γ fa (.ok a) ea) (hb : ER false Γ fb (.ok b) eb) : ER o Γ (e2 g fa fb) (.ok (op a b)) ec := ⟨fun ρ k => by
  obtain ⟨d, h1, h2, h3⟩ := ha.run ρ k
  obtain ⟨d', h1', h2', h3'⟩ := hb.run ρ k
  unfold e2
  rw [h1]
  dsimp only [R.bind_ok]
  rw [h1']
  exact ho a b d d' h2 h2'⟩
theorem er_2 {g : D → D → Option D} {op : α → β → R γ} (ho : Op2 o g ea eb op ec) (ha : ER false Γ fa ta ea) (hb : ER false Γ fb tb eb) : ER o Γ (e2 g fa fb) (ta.bind fun a => tb.bind fun b => op a b) ec := ⟨fun ρ k =>
  (ha.run ρ k).bind fun d a h _ => (hb.run ρ k).bind fun d' b h' _ => ho a b d d' h h'⟩
theorem ea_nil : EA Γ eNil (.ok ()) (fun _ => []) := ⟨fun ρ k => ⟨[], rfl, rfl⟩⟩
theorem ea_consp {fs : En → R (List D)} {es : β → List D} {a : α} {b : β} (ha : ER false Γ fa (.ok a) ea) (hb : EA Γ fs (.ok b) es) : EA Γ (eCons fa fs) (.ok (a, b)) (fun p => ea p.1 :: es p.2) := ⟨fun ρ k => by
  obtain ⟨d, h1, h2, h3⟩ := ha.run ρ k
  obtain ⟨d', h1', h2'⟩ := hb.run ρ k
  refine ⟨d :: d', ?_, by rw [frzL_cons, h2, h2']⟩
  unfold eCons
  rw [h1]
  dsimp only [R.bind_ok]
  rw [h1']
  rfl⟩
theorem ea_cons {fs : En → R (List D)} {es : β → List D} (ha : ER false Γ fa ta ea) (hb : EA Γ fs tb es) : EA Γ (eCons fa fs) (ta.bind fun a => tb.bind fun b => .ok (a, b)) (fun p => ea p.1 :: es p.2) := ⟨fun ρ k => by
  refine RefE.bindG (P := fun x (t : R (α × β)) => RefL x t _) (ha.run ρ k) (fun _ _ => rfl) (fun _ => trivial) fun d a h _ => ?_
  have := hb.run ρ k
  cases tb with
  | ok b => obtain ⟨ds, h1, h2⟩ := this; rw [h1]; exact ⟨d :: ds, rfl, by rw [frzL_cons, h, h2]⟩
  | exc C fl => rw [show fs _ = _ from this]; exact rfl
  | stuck => trivial⟩
theorem er_Np {g : List D → Option D} {fs : En → R (List D)} {es : α → List D} {op : α → β} {a : α} (ho : OpN o g es (fun a => .ok (op a)) eb) (ha : EA Γ fs (.ok a) es) : ER o Γ (eN g fs) (.ok (op a)) eb := ⟨fun ρ k => by
  obtain ⟨d, h1, h2⟩ := ha.run ρ k
  unfold eN
  rw [h1]
  exact ho a d h2⟩
theorem er_N {g : List D → Option D} {fs : En → R (List D)} {es : α → List D} {op : α → R β} (ho : OpN o g es op eb) (ha : EA Γ fs ta es) : ER o Γ (eN g fs) (ta.bind op) eb := ⟨fun ρ k => by
  have := ha.run ρ k
  unfold eN
  cases ta with
  | ok a => obtain ⟨ds, h1, h2⟩ := this; rw [h1]; exact ho a ds h2
  | exc C fl => rw [show fs ρ = _ from this]; exact rfl
  | stuck => trivial⟩
/-- what a call gives -/
structure RF (o : Bool) (x : R D) (t : R α) (e : α → D) : Prop where
  run : RefE o x t e
def RefF (o : Bool) (F : List D → R D) (es : α → List D) (y : α → R β) (e : β → D) : Prop := ∀ a, RF o (F (es a)) (y a) e
theorem er_call {F : List D → R D} {fs : En → R (List D)} {es : α → List D} {y : α → R β} (hf : RefF o F es y eb) (ha : EA Γ fs ta es) : ER o Γ (eCall F fs) (ta.bind y) eb := ⟨fun ρ k => by
  have := ha.run ρ k
  unfold eCall
  cases ta with
  | ok a => obtain ⟨ds, h1, h2⟩ := this; rw [h1]; dsimp only [R.bind_ok]; rw [h2]; exact (hf a).run
  | exc C fl => rw [show fs ρ = _ from this]; exact rfl
  | stuck => trivial⟩
theorem er_callp {F : List D → R D} {fs : En → R (List D)} {es : α → List D} {y : α → R β} {a : α} (hf : RefF o F es y eb) (ha : EA Γ fs (.ok a) es) : ER o Γ (eCall F fs) (y a) eb := er_call (ta := .ok a) hf ha
/-! tests -/
theorem tr_v {b : Bool} (h : ER false Γ f (.ok b) eB) : TR Γ (tV f) (.ok b) := ⟨fun ρ k => by
  obtain ⟨d, h1, h2, _⟩ := h.run ρ k
  unfold tV
  rw [h1, inv_bl h2]
  rfl⟩
theorem tr_vM {t : R Bool} (h : ER false Γ f t eB) : TR Γ (tV f) t := ⟨fun ρ k => by
  have := h.run ρ k
  unfold tV
  cases t with
  | ok b => obtain ⟨d, h1, h2, _⟩ := this; rw [h1, inv_bl h2]; exact rfl
  | exc C fs => rw [show f ρ = _ from this]; exact rfl
  | stuck => trivial⟩
variable {c c1 c2 : En → R Bool} {t1 t2 : R Bool} {b1 b2 : Bool}
theorem tr_not (h : TR Γ c (.ok b1)) : TR Γ (tNotC c) (.ok (!b1)) := ⟨fun ρ k => by
  unfold tNotC
  rw [show c ρ = .ok b1 from h.run ρ k]
  rfl⟩
theorem tr_notM (h : TR Γ c t1) : TR Γ (tNotC c) (t1.bind fun b => .ok (!b)) := ⟨fun ρ k => by
  have := h.run ρ k
  unfold tNotC
  cases t1 with
  | ok b => rw [show c ρ = .ok b from this]; exact rfl
  | exc C fs => rw [show c ρ = _ from this]; exact rfl
  | stuck => trivial⟩
theorem tr_and (h1 : TR Γ c1 (.ok b1)) (h2 : TR Γ c2 (.ok b2)) : TR Γ (tAndC c1 c2) (.ok (b1 && b2)) := ⟨fun ρ k => by
  unfold tAndC
  rw [show c1 ρ = .ok b1 from h1.run ρ k]
  cases b1 with
  | true => exact h2.run ρ k
  | false => rfl⟩
theorem tr_andM (h1 : TR Γ c1 t1) (h2 : TR Γ c2 t2) : TR Γ (tAndC c1 c2) (t1.bind fun b => if b then t2 else .ok false) := ⟨fun ρ k => by
  have := h1.run ρ k
  unfold tAndC
  cases t1 with
  | ok b =>
    rw [show c1 ρ = .ok b from this]
    cases b with
    | true => exact h2.run ρ k
    | false => exact rfl
  | exc C fs => rw [show c1 ρ = _ from this]; exact rfl
  | stuck => trivial⟩
theorem tr_or (h1 : TR Γ c1 (.ok b1)) (h2 : TR Γ c2 (.ok b2)) : TR Γ (tOrC c1 c2) (.ok (b1 || b2)) := ⟨fun ρ k => by
  unfold tOrC
  rw [show c1 ρ = .ok b1 from h1.run ρ k]
  cases b1 with
  | true => rfl
  | false => exact h2.run ρ k⟩
theorem tr_orM (h1 : TR Γ c1 t1) (h2 : TR Γ c2 t2) : TR Γ (tOrC c1 c2) (t1.bind fun b => if b then .ok true else t2) := ⟨fun ρ k => by
  have := h1.run ρ k
  unfold tOrC
  cases t1 with
  | ok b =>
    rw [show c1 ρ = .ok b from this]
    cases b with
    | true => exact rfl
    | false => exact h2.run ρ k
  | exc C fs => rw [show c1 ρ = _ from this]; exact rfl
  | stuck => trivial⟩
/-! values of truth -/
theorem er_not {b : Bool} (h : ER false Γ f (.ok b) eB) : ER false Γ (eNot f) (.ok (!b)) eB := ⟨fun ρ k => by
  obtain ⟨d, h1, h2, _⟩ := h.run ρ k
  unfold eNot
  rw [h1, inv_bl h2]
  exact ⟨_, rfl, rfl, fun z => nomatch z⟩⟩
theorem er_notM {t : R Bool} (h : ER false Γ f t eB) : ER false Γ (eNot f) (t.bind fun b => .ok (!b)) eB := ⟨fun ρ k => by
  refine (h.run ρ k).bind fun d a h _ => ?_
  rw [inv_bl h]
  exact ⟨_, rfl, rfl, fun z => nomatch z⟩⟩
theorem er_and {a b : Bool} (h1 : ER false Γ fa (.ok a) eB) (h2 : ER false Γ fb (.ok b) eB) : ER false Γ (eAnd fa fb) (.ok (a && b)) eB := ⟨fun ρ k => by
  obtain ⟨d, e1, e2, _⟩ := h1.run ρ k
  unfold eAnd
  rw [e1, inv_bl e2]
  cases a with
  | true => exact h2.run ρ k
  | false => exact ⟨_, rfl, rfl, fun z => nomatch z⟩⟩
theorem er_andM {ta tb : R Bool} (h1 : ER false Γ fa ta eB) (h2 : ER false Γ fb tb eB) : ER false Γ (eAnd fa fb) (ta.bind fun a => if a then tb else .ok false) eB := ⟨fun ρ k => by
  refine (h1.run ρ k).bind fun d a h _ => ?_
  rw [inv_bl h]
  cases a with
  | true => exact h2.run ρ k
  | false => exact ⟨_, rfl, rfl, fun z => nomatch z⟩⟩
theorem er_or {a b : Bool} (h1 : ER false Γ fa (.ok a) eB) (h2 : ER false Γ fb (.ok b) eB) : ER false Γ (eOr fa fb) (.ok (a || b)) eB := ⟨fun ρ k => by
  obtain ⟨d, e1, e2, _⟩ := h1.run ρ k
  unfold eOr
  rw [e1, inv_bl e2]
  cases a with
  | true => exact ⟨_, rfl, rfl, fun z => nomatch z⟩
  | false => exact h2.run ρ k⟩
theorem er_orM {ta tb : R Bool} (h1 : ER false Γ fa ta eB) (h2 : ER false Γ fb tb eB) : ER false Γ (eOr fa fb) (ta.bind fun a => if a then .ok true else tb) eB := ⟨fun ρ k => by
  refine (h1.run ρ k).bind fun d a h _ => ?_
  rw [inv_bl h]
  cases a with
  | true => exact ⟨_, rfl, rfl, fun z => nomatch z⟩
  | false => exact h2.run ρ k⟩
theorem er_if {b : Bool} {a a' : α} (hc : TR Γ c (.ok b)) (h1 : ER false Γ fa (.ok a) ea) (h2 : ER false Γ fb (.ok a') ea) : ER false Γ (eIf c fa fb) (.ok (if b then a else a')) ea := ⟨fun ρ k => by
  unfold eIf
  rw [show c ρ = .ok b from hc.run ρ k]
  cases b with
  | true => exact h1.run ρ k
  | false => exact h2.run ρ k⟩
theorem er_ifM {t1 : R Bool} {ta ta' : R α} (hc : TR Γ c t1) (h1 : ER false Γ fa ta ea) (h2 : ER false Γ fb ta' ea) : ER false Γ (eIf c fa fb) (t1.bind fun b => if b then ta else ta') ea := ⟨fun ρ k => by
  have := hc.run ρ k
  unfold eIf
  cases t1 with
  | ok b =>
    rw [show c ρ = .ok b from this]
    cases b with
    | true => exact h1.run ρ k
    | false => exact h2.run ρ k
  | exc C fs => rw [show c ρ = _ from this]; exact rfl
  | stuck => trivial⟩
end
end TL
/-! Y2: typed statements -/
namespace TL
open PySem PySem.Spec PyProof.Rows L2

inductive Ct (σ β : Type) where
  | nx (s : σ) | bk (s : σ) | rt (b : β)
section
variable {α β γ δ σ τ υ : Type}
/-- loops that are neither broken off nor give an answer -/
def foldR : List α → σ → (σ → α → R σ) → R σ
  | [], s, _ => .ok s
  | a :: r, s, f => (f s a).bind fun s' => foldR r s' f
/-- any loop -/
def foldC : List α → σ → (σ → α → R (Ct σ β)) → R (Sum σ β)
  | [], s, _ => .ok (.inl s)
  | a :: r, s, f => (f s a).bind fun
    | .nx s' => foldC r s' f
    | .bk s' => .ok (.inl s')
    | .rt b => .ok (.inr b)
def whR : Nat → (σ → R Bool) → (σ → R (Ct σ β)) → σ → R (Sum σ β)
  | 0, _, _, _ => .stuck
  | n + 1, c, f, s => (c s).bind fun b => if b then (f s).bind fun
      | .nx s' => whR n c f s'
      | .bk s' => .ok (.inl s')
      | .rt b => .ok (.inr b)
    else .ok (.inl s)
def onC (tk : σ → R τ) (tr : β → R τ) : Sum σ β → R τ
  | .inl s => tk s
  | .inr b => tr b
@[simp] theorem onC_inl (tk : σ → R τ) (tr : β → R τ) (s : σ) : onC tk tr (.inl s) = tk s := of_eq_true (eq_self _)
@[simp] theorem onC_inr (tk : σ → R τ) (tr : β → R τ) (b : β) : onC tk tr (.inr b) = tr b := of_eq_true (eq_self _)
/-- several ways out of an if -/
def onT (tk : σ → R τ) (tr : β → R τ) : Ct σ β → R τ
  | .nx s => tk s
  | .bk s => tk s
  | .rt b => tr b

def RefO (x : Out) (t : R τ) (Z : Out → τ → Prop) : Prop := match t with
  | .ok a => Z x a
  | .exc C fs => ∃ ρ', x = .exc ρ' C fs
  | .stuck => True
structure BR (Γ : List Sl) (f : En → Out) (t : R τ) (Z : Out → τ → Prop) : Prop where
  run : ∀ ρ, Fits Γ ρ → RefO (f ρ) t Z
/-- the answer of a def -/
def ZF (o : Bool) (e : β → D) : Out → β → Prop := fun x b => ∃ d, (x = .ret d ∨ (d = .non ∧ ∃ ρ, x = .nx ρ)) ∧ d.frz = e b ∧ (o = true → ownT d = true)
/-- an answer given within a loop -/
def ZR (o : Bool) (e : β → D) : Out → β → Prop := fun x b => ∃ d, x = .ret d ∧ d.frz = e b ∧ (o = true → ownT d = true)
def ZN (Γ : σ → List Sl) : Out → σ → Prop := fun x s => ∃ ρ', (x = .nx ρ' ∨ x = .ct ρ') ∧ Fits (Γ s) ρ'
def ZJ (Γ : σ → List Sl) : Out → σ → Prop := fun x s => ∃ ρ', x = .nx ρ' ∧ Fits (Γ s) ρ'
def ZC (Γ : σ → List Sl) (Zr : Out → β → Prop) : Out → Ct σ β → Prop := fun x c => match c with
  | .nx s => ∃ ρ', (x = .nx ρ' ∨ x = .ct ρ') ∧ Fits (Γ s) ρ'
  | .bk s => ∃ ρ', x = .bk ρ' ∧ Fits (Γ s) ρ'
  | .rt b => Zr x b
variable {Γ Γ' : List Sl} {S : List Nat} {f g k f1 f2 : En → Out} {t : R τ} {Z : Out → τ → Prop}
theorem br_last (h : BR Γ (sSeq f sNx) t Z) : BR Γ f t Z := ⟨fun ρ q => by
  have := h.run ρ q
  have e : sSeq f sNx ρ = f ρ := by
    rw [sSeq_app]
    cases f ρ <;> rfl
  rw [e] at this
  exact this⟩
theorem br_assoc (h : BR Γ (sSeq f (sSeq g k)) t Z) : BR Γ (sSeq (sSeq f g) k) t Z := ⟨fun ρ q => by
  have := h.run ρ q
  have e : sSeq (sSeq f g) k ρ = sSeq f (sSeq g k) ρ := by
    rw [sSeq_app, sSeq_app, sSeq_app]
    cases f ρ <;> simp
  rw [e]
  exact this⟩
theorem br_nx (h : BR Γ k t Z) : BR Γ (sSeq sNx k) t Z := h
theorem br_le (hle : Sle Γ Γ') (h : BR Γ' f t Z) : BR Γ f t Z := ⟨fun ρ q => h.run ρ (q.le hle)⟩
/-! leaving -/
theorem br_ret {o : Bool} {fe : En → R D} {e : β → D} {t : R β} (h : ER o Γ fe t e) : BR Γ (sRet fe) t (ZF o e) := ⟨fun ρ q => by
  have := h.run ρ q
  rw [sRet_app]
  cases t with
  | ok a => obtain ⟨d, h1, h2, h3⟩ := this; rw [h1]; exact ⟨d, .inl rfl, h2, h3⟩
  | exc C fs => rw [show fe ρ = _ from this]; exact ⟨ρ, rfl⟩
  | stuck => trivial⟩
theorem br_retV {o : Bool} {i : Nat} {e : β → D} {b : β} (h : Γ[i]? = some (if o then .o (e b) else .w (e b))) : BR Γ (sRetV i) (.ok b) (ZF o e) := ⟨fun ρ q => by
  rw [sRetV_app]
  cases o with
  | true => obtain ⟨y, h1, h2, h3⟩ := q.getO h; rw [h1]; exact ⟨y, .inl rfl, h2, fun _ => h3⟩
  | false => obtain ⟨y, h1, h2⟩ := q.getW h; rw [h1]; exact ⟨y, .inl rfl, h2, fun z => nomatch z⟩⟩
theorem br_retVw {i : Nat} {e : β → D} {b : β} (h : Γ[i]? = some (.o (e b))) : BR Γ (sRetV i) (.ok b) (ZF false e) := ⟨fun ρ q => by
  rw [sRetV_app]
  obtain ⟨y, h1, h2, h3⟩ := q.getO h; rw [h1]; exact ⟨y, .inl rfl, h2, fun z => nomatch z⟩⟩
theorem br_retN : BR Γ sRetN (.ok ()) (ZF false eU) := ⟨fun ρ q => ⟨.non, .inl rfl, rfl, fun z => nomatch z⟩⟩
theorem br_retNo {e : β → D} : BR Γ sRetN (.ok none) (ZF false (eO e)) := ⟨fun ρ q => ⟨.non, .inl rfl, rfl, fun z => nomatch z⟩⟩
theorem br_end : BR Γ sNx (.ok ()) (ZF false eU) := ⟨fun ρ q => ⟨.non, .inr ⟨rfl, ρ, rfl⟩, rfl, fun z => nomatch z⟩⟩
theorem br_endo {e : β → D} : BR Γ sNx (.ok none) (ZF false (eO e)) := ⟨fun ρ q => ⟨.non, .inr ⟨rfl, ρ, rfl⟩, rfl, fun z => nomatch z⟩⟩
/-- an answer within loops -/
theorem br_rt {o : Bool} {fe : En → R D} {e : β → D} {t : R β} {Γl : σ → List Sl} (h : ER o Γ fe t e) : BR Γ (sRet fe) (t.bind fun b => .ok (.rt b)) (ZC Γl (ZR o e)) := ⟨fun ρ q => by
  have := h.run ρ q
  rw [sRet_app]
  cases t with
  | ok a => obtain ⟨d, h1, h2, h3⟩ := this; rw [h1]; exact ⟨d, rfl, h2, h3⟩
  | exc C fs => rw [show fe ρ = _ from this]; exact ⟨ρ, rfl⟩
  | stuck => trivial⟩
theorem br_rtp {o : Bool} {fe : En → R D} {e : β → D} {b : β} {Γl : σ → List Sl} (h : ER o Γ fe (.ok b) e) : BR Γ (sRet fe) (.ok (.rt b)) (ZC Γl (ZR o e)) := br_rt h
theorem br_rtV {o : Bool} {i : Nat} {e : β → D} {b : β} {Γl : σ → List Sl} (h : Γ[i]? = some (if o then .o (e b) else .w (e b))) : BR Γ (sRetV i) (.ok (.rt b)) (ZC Γl (ZR o e)) := ⟨fun ρ q => by
  rw [sRetV_app]
  cases o with
  | true => obtain ⟨y, h1, h2, h3⟩ := q.getO h; rw [h1]; exact ⟨y, rfl, h2, fun _ => h3⟩
  | false => obtain ⟨y, h1, h2⟩ := q.getW h; rw [h1]; exact ⟨y, rfl, h2, fun z => nomatch z⟩⟩
theorem br_rtVw {i : Nat} {e : β → D} {b : β} {Γl : σ → List Sl} (h : Γ[i]? = some (.o (e b))) : BR Γ (sRetV i) (.ok (.rt b)) (ZC Γl (ZR false e)) := ⟨fun ρ q => by
  rw [sRetV_app]
  obtain ⟨y, h1, h2, h3⟩ := q.getO h; rw [h1]; exact ⟨y, rfl, h2, fun z => nomatch z⟩⟩
theorem br_rtN {Γl : σ → List Sl} : BR Γ sRetN (.ok (.rt ())) (ZC Γl (ZR false eU)) := ⟨fun ρ q => ⟨.non, rfl, rfl, fun z => nomatch z⟩⟩
theorem br_rtNo {e : β → D} {Γl : σ → List Sl} : BR Γ sRetN (.ok (.rt none)) (ZC Γl (ZR false (eO e))) := ⟨fun ρ q => ⟨.non, rfl, rfl, fun z => nomatch z⟩⟩
/-- nothing behind an answer runs -/
theorem br_cutR {fe : En → R D} (h : BR Γ (sRet fe) t Z) : BR Γ (sSeq (sRet fe) k) t Z := ⟨fun ρ q => by
  have := h.run ρ q
  have e : sSeq (sRet fe) k ρ = sRet fe ρ := by
    rw [sSeq_app, sRet_app]
    cases fe ρ <;> rfl
  rw [e]; exact this⟩
theorem br_cutV {i : Nat} (h : BR Γ (sRetV i) t Z) : BR Γ (sSeq (sRetV i) k) t Z := ⟨fun ρ q => by
  have := h.run ρ q
  have e : sSeq (sRetV i) k ρ = sRetV i ρ := by
    rw [sSeq_app, sRetV_app]
    cases ρ[i]? with
    | none => rfl
    | some x => cases x <;> rfl
  rw [e]; exact this⟩
theorem br_cutN (h : BR Γ sRetN t Z) : BR Γ (sSeq sRetN k) t Z := h
theorem br_cutB (h : BR Γ sBk t Z) : BR Γ (sSeq sBk k) t Z := h
theorem br_cutC (h : BR Γ sCt t Z) : BR Γ (sSeq sCt k) t Z := h
/-! ends of turns -/
theorem br_n {Γl : σ → List Sl} {s : σ} (h : Sle Γ (Γl s)) : BR Γ sNx (.ok s) (ZN Γl) := ⟨fun ρ q => ⟨ρ, .inl rfl, q.le h⟩⟩
theorem br_nc {Γl : σ → List Sl} {s : σ} (h : Sle Γ (Γl s)) : BR Γ sCt (.ok s) (ZN Γl) := ⟨fun ρ q => ⟨ρ, .inr rfl, q.le h⟩⟩
theorem br_j {Γl : σ → List Sl} {s : σ} (h : Sle Γ (Γl s)) : BR Γ sNx (.ok s) (ZJ Γl) := ⟨fun ρ q => ⟨ρ, rfl, q.le h⟩⟩
theorem br_c {Γl : σ → List Sl} {Zr : Out → β → Prop} {s : σ} (h : Sle Γ (Γl s)) : BR Γ sNx (.ok (.nx s)) (ZC Γl Zr) := ⟨fun ρ q => ⟨ρ, .inl rfl, q.le h⟩⟩
theorem br_cc {Γl : σ → List Sl} {Zr : Out → β → Prop} {s : σ} (h : Sle Γ (Γl s)) : BR Γ sCt (.ok (.nx s)) (ZC Γl Zr) := ⟨fun ρ q => ⟨ρ, .inr rfl, q.le h⟩⟩
theorem br_b {Γl : σ → List Sl} {Zr : Out → β → Prop} {s : σ} (h : Sle Γ (Γl s)) : BR Γ sBk (.ok (.bk s)) (ZC Γl Zr) := ⟨fun ρ q => ⟨ρ, rfl, q.le h⟩⟩
/-! ifs -/
variable {c : En → R Bool} {tc : R Bool} {b : Bool} {t1 t2 : R τ}
theorem seq_if (c : En → R Bool) (f1 f2 k : En → Out) (ρ : En) : sSeq (sIf c f1 f2) k ρ = lift (c ρ) ρ fun b => if b then sSeq f1 k ρ else sSeq f2 k ρ := by
  rw [sSeq_app, sIf_app]
  cases c ρ with
  | ok b => cases b <;> simp
  | exc C fs => rfl
  | stuck => rfl
theorem br_ifp (hc : TR Γ c (.ok b)) (h1 : BR Γ (sSeq f1 k) t1 Z) (h2 : BR Γ (sSeq f2 k) t2 Z) : BR Γ (sSeq (sIf c f1 f2) k) (if b then t1 else t2) Z := ⟨fun ρ q => by
  rw [seq_if, show c ρ = .ok b from hc.run ρ q]
  cases b with
  | true => exact h1.run ρ q
  | false => exact h2.run ρ q⟩
theorem br_if (hc : TR Γ c tc) (h1 : BR Γ (sSeq f1 k) t1 Z) (h2 : BR Γ (sSeq f2 k) t2 Z) : BR Γ (sSeq (sIf c f1 f2) k) (tc.bind fun b => if b then t1 else t2) Z := ⟨fun ρ q => by
  have := hc.run ρ q
  rw [seq_if]
  cases tc with
  | ok b =>
    rw [show c ρ = .ok b from this]
    cases b with
    | true => exact h1.run ρ q
    | false => exact h2.run ρ q
  | exc C fs => rw [show c ρ = _ from this]; exact ⟨ρ, rfl⟩
  | stuck => trivial⟩
/-- a test that is known -/
theorem br_ifT (hc : TR Γ c (.ok true)) (h1 : BR Γ (sSeq f1 k) t1 Z) : BR Γ (sSeq (sIf c f1 f2) k) t1 Z := ⟨fun ρ q => by
  rw [seq_if, show c ρ = .ok true from hc.run ρ q]
  exact h1.run ρ q⟩
theorem br_ifF (hc : TR Γ c (.ok false)) (h1 : BR Γ (sSeq f2 k) t1 Z) : BR Γ (sSeq (sIf c f1 f2) k) t1 Z := ⟨fun ρ q => by
  rw [seq_if, show c ρ = .ok false from hc.run ρ q]
  exact h1.run ρ q⟩
theorem br_join {t1 : R σ} {tk : σ → R τ} {Γj : σ → List Sl} (h1 : BR Γ f t1 (ZJ Γj)) (h2 : ∀ s, BR (Γj s) k (tk s) Z) : BR Γ (sSeq f k) (t1.bind tk) Z := ⟨fun ρ q => by
  have := h1.run ρ q
  rw [sSeq_app]
  cases t1 with
  | ok s => obtain ⟨ρ', e, hf⟩ := this; rw [e]; exact (h2 s).run ρ' hf
  | exc C fs => obtain ⟨ρ', e⟩ := this; rw [e]; exact ⟨ρ', rfl⟩
  | stuck => trivial⟩
/-- what is known to hold something -/
theorem br_some {o : Option α} {e : α → D} {tk : α → R τ} {i : Nat} {Γ' : α → List Sl} (hΓ : Γ[i]? = some (.w (eO e o))) (hG : ∀ a, Γ' a = Γ.set i (.w (e a))) (h : ∀ a, BR (Γ' a) f (tk a) Z) : BR Γ f ((ofO o).bind tk) Z := ⟨fun ρ q => by
  cases o with
  | none => trivial
  | some a =>
    have e2 : Γ' a = Γ := by rw [hG]; exact set_same hΓ
    have := (h a)
    rw [e2] at this
    exact this.run ρ q⟩
/-! names -/
theorem seq_lift {α : Type} (x : R α) (ρ : En) (kk : α → Out) (k : En → Out) : (lift x ρ kk).seq k = lift x ρ fun a => (kk a).seq k := by cases x <;> rfl
theorem br_set {o : Bool} {i : Nat} {fe : En → R D} {te : R α} {e : α → D} {tk : α → R τ} {Γ' : α → List Sl} (hE : ER o Γ fe te e) (hG : ∀ a, Γ' a = (wkn S Γ).set i (if o then .o (e a) else .w (e a))) (hk : ∀ a, BR (Γ' a) k (tk a) Z) : BR Γ (sSeq (sSet i S fe) k) (te.bind tk) Z := ⟨fun ρ q => by
  have := hE.run ρ q
  rw [sSeq_app, sSet_app]
  cases te with
  | ok a =>
    obtain ⟨d, h1, h2, h3⟩ := this
    rw [h1]
    refine (hk a).run _ ?_
    rw [hG]
    have hs : Sl.fits (if o = true then .o (e a) else .w (e a)) (some d) := by
      cases o with
      | true => exact ⟨d, rfl, h2, h3 rfl⟩
      | false => exact ⟨d, rfl, h2⟩
    refine Fits.set ?_ hs
    split
    · exact q.wkn
    · exact q.frzAt
  | exc C fs => rw [show fe ρ = _ from this]; exact ⟨ρ, rfl⟩
  | stuck => trivial⟩
theorem br_setC {o : Bool} {i : Nat} {fe : En → R D} {te : R α} {e : α → D} {tk : α → R τ} {Γ' : α → List Sl} (hE : ER o Γ fe te e) [hv : Vl e] (hG : ∀ a, Γ' a = Γ.set i (.w (e a))) (hk : ∀ a, BR (Γ' a) k (tk a) Z) : BR Γ (sSeq (sSet i S fe) k) (te.bind tk) Z := ⟨fun ρ q => by
  have := hE.run ρ q
  rw [sSeq_app, sSet_app]
  cases te with
  | ok a =>
    obtain ⟨d, h1, h2, h3⟩ := this
    rw [h1]
    have hd : d = e a := inv_val h2
    have hc : d.clean = true := by rw [hd]; exact (val_frz (hv.vl a)).2
    refine (hk a).run _ ?_
    rw [hG, hc]
    exact q.set ⟨d, rfl, h2⟩
  | exc C fs => rw [show fe ρ = _ from this]; exact ⟨ρ, rfl⟩
  | stuck => trivial⟩
/-- a new list of plain things -/
theorem own_clean {e : α → D} [hv : Vl e] {d : D} {xs : List α} (h : d.frz = eL e xs) (ho : ownT d = true) : d = .lst true (xs.map e) := by
  obtain ⟨o, ys, rfl, h2⟩ := inv_lst h
  have := inv_valL h2
  subst this
  cases o with
  | true => rfl
  | false => cases ho
theorem br_setL {i : Nat} {fe : En → R D} {te : R (List α)} {e : α → D} {tk : List α → R τ} {Γ' : List α → List Sl} (hE : ER true Γ fe te (eL e)) [hv : Vl e] (hG : ∀ a, Γ' a = Γ.set i (.o (eL e a))) (hk : ∀ a, BR (Γ' a) k (tk a) Z) : BR Γ (sSeq (sSet i S fe) k) (te.bind tk) Z := ⟨fun ρ q => by
  have := hE.run ρ q
  rw [sSeq_app, sSet_app]
  cases te with
  | ok a =>
    obtain ⟨d, h1, h2, h3⟩ := this
    rw [h1]
    have hd := own_clean h2 (h3 rfl)
    have hc : d.clean = true := by rw [hd, clean_lst, (valL_frz (valL_map a)).2]; rfl
    refine (hk a).run _ ?_
    rw [hG, hc]
    exact q.set ⟨d, rfl, h2, h3 rfl⟩
  | exc C fs => rw [show fe ρ = _ from this]; exact ⟨ρ, rfl⟩
  | stuck => trivial⟩
theorem br_drop {o : Bool} {fe : En → R D} {te : R α} {e : α → D} {tk : α → R τ} (hE : ER o Γ fe te e) (hk : ∀ a, BR Γ k (tk a) Z) : BR Γ (sSeq (sDrop fe) k) (te.bind tk) Z := ⟨fun ρ q => by
  have := hE.run ρ q
  rw [sSeq_app, sDrop_app]
  cases te with
  | ok a => obtain ⟨d, h1, h2, h3⟩ := this; rw [h1]; exact (hk a).run ρ q
  | exc C fs => rw [show fe ρ = _ from this]; exact ⟨ρ, rfl⟩
  | stuck => trivial⟩
/-! targets -/
structure TG' (Γ : List Sl) (g : D → En → Option En) (e : α → D) (Γ' : α → List Sl) : Prop where
  run : ∀ ρ d a, Fits Γ ρ → d.frz = e a → ∃ ρ', g d ρ = some ρ' ∧ Fits (Γ' a) ρ'
structure TGs' (Γ : List Sl) (g : List D → En → Option En) (e : α → List D) (Γ' : α → List Sl) : Prop where
  run : ∀ ρ ds a, Fits Γ ρ → frzL ds = e a → ∃ ρ', g ds ρ = some ρ' ∧ Fits (Γ' a) ρ'
theorem tg_set {i : Nat} {e : α → D} {Γ' : α → List Sl} (hi : i < Γ.length) (hG : ∀ a, Γ' a = Γ.set i (.w (e a))) : TG' Γ (gSet i) e Γ' := ⟨fun ρ d a q h => by
  rw [gSet_app, if_pos (by rw [← q.len]; exact hi)]
  exact ⟨_, rfl, by rw [hG]; exact q.set ⟨d, rfl, h⟩⟩⟩
theorem tgs_nil {Γ' : Unit → List Sl} (hG : ∀ u, Γ' u = Γ) : TGs' Γ gsNil (fun _ : Unit => []) Γ' := ⟨fun ρ ds a q h => by
  cases ds with
  | nil => exact ⟨ρ, rfl, by rw [hG]; exact q⟩
  | cons _ _ => cases h⟩
theorem tgs_cons {g : D → En → Option En} {gs : List D → En → Option En} {e : α → D} {es : β → List D} {Γ1 : α → List Sl} {Γ2 : α × β → List Sl} (h1 : TG' Γ g e Γ1) (h2 : ∀ a, TGs' (Γ1 a) gs es (fun b => Γ2 (a, b))) : TGs' Γ (gsCons g gs) (fun p : α × β => e p.1 :: es p.2) Γ2 := ⟨fun ρ ds a q h => by
  cases ds with
  | nil => cases h
  | cons d r =>
    rw [frzL_cons] at h
    injection h with ha hb
    obtain ⟨ρ1, e1, q1⟩ := h1.run ρ d a.1 q ha
    obtain ⟨ρ2, e2, q2⟩ := (h2 a.1).run ρ1 r a.2 q1 hb
    exact ⟨ρ2, by rw [gsCons_app, e1]; exact e2, q2⟩⟩
theorem tg_tup {n : Nat} {gs : List D → En → Option En} {e : α → D} {c : α → β} {es : β → List D} {Γ1 : β → List Sl} {Γ' : α → List Sl} (hn : ∀ b, (es b).length = n) (he : ∀ a, e a = .tup (es (c a))) (h : TGs' Γ gs es Γ1) (hG : ∀ a, Γ' a = Γ1 (c a)) : TG' Γ (gTupD n gs) e Γ' := ⟨fun ρ d a q hd => by
  rw [he] at hd
  obtain ⟨ys, rfl, h2⟩ := inv_tup hd
  obtain ⟨ρ', e1, q1⟩ := h.run ρ ys (c a) q h2
  refine ⟨ρ', ?_, by rw [hG]; exact q1⟩
  have hl : ys.length = n := by
    have := congrArg List.length h2
    rw [frzL_map, List.length_map] at this
    rw [this, hn]
  rw [gTupD_tup, if_pos hl]
  exact e1⟩
theorem br_asg {o : Bool} {g : D → En → Option En} {fe : En → R D} {te : R α} {e : α → D} {tk : α → R τ} {Γ' : α → List Sl} (hE : ER o Γ fe te e) (hT : TG' (wkn S Γ) g e Γ') (hk : ∀ a, BR (Γ' a) k (tk a) Z) : BR Γ (sSeq (sAsg S g fe) k) (te.bind tk) Z := ⟨fun ρ q => by
  have := hE.run ρ q
  rw [sSeq_app, sAsg_app]
  cases te with
  | ok a =>
    obtain ⟨d, h1, h2, h3⟩ := this
    rw [h1]
    have q2 : Fits (wkn S Γ) (if d.clean = true then ρ else frzAt S ρ) := by
      split
      · exact q.wkn
      · exact q.frzAt
    obtain ⟨ρ', e1, q1⟩ := hT.run _ d a q2 h2
    rw [lift_ok, e1, asgRes_some]
    exact (hk a).run ρ' q1
  | exc C fs => rw [show fe ρ = _ from this]; exact ⟨ρ, rfl⟩
  | stuck => trivial⟩
theorem br_asgC {o : Bool} {g : D → En → Option En} {fe : En → R D} {te : R α} {e : α → D} {tk : α → R τ} {Γ' : α → List Sl} (hE : ER o Γ fe te e) [hv : Vl e] (hT : TG' Γ g e Γ') (hk : ∀ a, BR (Γ' a) k (tk a) Z) : BR Γ (sSeq (sAsg S g fe) k) (te.bind tk) Z := ⟨fun ρ q => by
  have := hE.run ρ q
  rw [sSeq_app, sAsg_app]
  cases te with
  | ok a =>
    obtain ⟨d, h1, h2, h3⟩ := this
    rw [h1]
    have hd : d = e a := inv_val h2
    have hc : d.clean = true := by rw [hd]; exact (val_frz (hv.vl a)).2
    obtain ⟨ρ', e1, q1⟩ := hT.run _ d a q h2
    rw [lift_ok, hc, if_pos rfl, e1, asgRes_some]
    exact (hk a).run ρ' q1
  | exc C fs => rw [show fe ρ = _ from this]; exact ⟨ρ, rfl⟩
  | stuck => trivial⟩
/-! what is walked -/
def RefI (x : R (List D)) (t : R (List α)) (e : α → D) : Prop := match t with
  | .ok xs => x = .ok (xs.map e)
  | .exc C fs => x = .exc C fs
  | .stuck => True
structure IR (Γ : List Sl) (fi : En → R (List D)) (t : R (List α)) (e : α → D) : Prop where
  run : ∀ ρ, Fits Γ ρ → RefI (fi ρ) t e
theorem ir_lst {fe : En → R D} {t : R (List α)} {e : α → D} (h : ER false Γ fe t (eL e)) : IR Γ (iSeq fe) t e := ⟨fun ρ q => by
  have := h.run ρ q
  rw [iSeq_app]
  cases t with
  | ok a =>
    obtain ⟨d, h1, h2, h3⟩ := this
    obtain ⟨o, ys, rfl, h4⟩ := inv_lst h2
    rw [h1]
    exact congrArg R.ok h4
  | exc C fs => rw [show fe ρ = _ from this]; exact rfl
  | stuck => trivial⟩
theorem ir_tup {fe : En → R D} {t : R (List α)} {e : α → D} (h : ER false Γ fe t (eV e)) : IR Γ (iSeq fe) t e := ⟨fun ρ q => by
  have := h.run ρ q
  rw [iSeq_app]
  cases t with
  | ok a =>
    obtain ⟨d, h1, h2, h3⟩ := this
    obtain ⟨ys, rfl, h4⟩ := inv_tup h2
    rw [h1]
    exact congrArg R.ok h4
  | exc C fs => rw [show fe ρ = _ from this]; exact rfl
  | stuck => trivial⟩
theorem ir_kl {fe : En → R D} {t : R (List Int)} (h : ER false Γ fe t eKl) : IR Γ (iSeq fe) t eI := ⟨fun ρ q => by
  have := h.run ρ q
  rw [iSeq_app]
  cases t with
  | ok a =>
    obtain ⟨d, h1, h2, h3⟩ := this
    obtain ⟨ys, rfl, h4⟩ := inv_kl h2
    rw [h1]
    exact congrArg R.ok h4
  | exc C fs => rw [show fe ρ = _ from this]; exact rfl
  | stuck => trivial⟩
def uptoI (lo : Int) (n : Nat) : List Int := (List.range n).map fun (k : Nat) => lo + k
def rngR (j : Int) : R (List Int) := if -(2 ^ 62) ≤ j ∧ j ≤ 2 ^ 24 then .ok (uptoI 0 j.toNat) else .stuck
def rng2R (i j : Int) : R (List Int) := if -(2 ^ 23) ≤ i ∧ i ≤ 2 ^ 23 ∧ -(2 ^ 23) ≤ j ∧ j ≤ 2 ^ 23 then .ok (uptoI i (j - i).toNat) else .stuck
theorem upto_map (lo : Int) (n : Nat) : upto lo n = (uptoI lo n).map eI := by
  unfold upto uptoI
  rw [List.map_map]
  rfl
theorem ir_r1 {fs : En → R (List D)} {t : R (Int × Unit)} (h : EA Γ fs t (fun p => eI p.1 :: (fun _ => []) p.2)) : IR Γ (iR1 fs) (t.bind fun p => rngR p.1) eI := ⟨fun ρ q => by
  have := h.run ρ q
  rw [iR1_app]
  cases t with
  | ok a =>
    obtain ⟨ds, h1, h2⟩ := this
    rw [h1]
    have hd : ds = [.int a.1] := inv_valL (e := eI) (xs := [a.1]) h2
    subst hd
    rw [R.bind_ok, R.bind_ok]
    unfold rngR
    split
    · rename_i c; rw [rangeTo_int c, upto_map]; exact rfl
    · trivial
  | exc C fl => rw [show fs ρ = _ from this]; exact rfl
  | stuck => trivial⟩
theorem ir_r2 {fs : En → R (List D)} {t : R (Int × Int × Unit)} (h : EA Γ fs t (fun p => eI p.1 :: (fun p => eI p.1 :: (fun _ => []) p.2) p.2)) : IR Γ (iR2 fs) (t.bind fun p => rng2R p.1 p.2.1) eI := ⟨fun ρ q => by
  have := h.run ρ q
  rw [iR2_app]
  cases t with
  | ok a =>
    obtain ⟨ds, h1, h2⟩ := this
    rw [h1]
    have hd : ds = [.int a.1, .int a.2.1] := inv_valL (e := eI) (xs := [a.1, a.2.1]) h2
    subst hd
    rw [R.bind_ok, R.bind_ok]
    unfold rng2R
    split
    · rename_i c; rw [rangeFT_int c, upto_map]; exact rfl
    · trivial
  | exc C fl => rw [show fs ρ = _ from this]; exact rfl
  | stuck => trivial⟩
/-! loops -/
theorem loop_R {g : D → En → Option En} {e : α → D} [hz : Fz e] {fb : En → Out} {body : σ → α → R σ} {Γl : σ → List Sl} {Γb : σ → α → List Sl} (hT : ∀ s, TG' (Γl s) g e (Γb s)) (hb : ∀ s a, BR (Γb s a) fb (body s a) (ZN Γl)) :
    ∀ (xs : List α) (s : σ) (ρ : En), Fits (Γl s) ρ → RefO (loopD g fb (xs.map e) ρ) (foldR xs s body) (ZJ Γl)
  | [], s, ρ, q => ⟨ρ, rfl, q⟩
  | a :: r, s, ρ, q => by
    obtain ⟨ρ1, e1, q1⟩ := (hT s).run ρ (e a) a q (hz.fz a)
    have := (hb s a).run ρ1 q1
    rw [List.map_cons]
    unfold loopD foldR
    rw [e1]
    dsimp only
    cases eb : body s a with
    | ok s' =>
      rw [eb] at this
      obtain ⟨ρ2, h2, q2⟩ := this
      have ih := loop_R hT hb r s' ρ2 q2
      rcases h2 with h2 | h2 <;> rw [h2] <;> exact ih
    | exc C fs => rw [eb] at this; obtain ⟨ρ2, h2⟩ := this; rw [h2]; exact ⟨ρ2, rfl⟩
    | stuck => trivial
theorem br_forR {fi : En → R (List D)} {g : D → En → Option En} {fb : En → Out} {ti : R (List α)} {e : α → D} [hz : Fz e] {s0 : σ} {body : σ → α → R σ} {tk : σ → R τ} {Γl : σ → List Sl} {Γb : σ → α → List Sl}
    (hI : IR Γ fi ti e) (hle : Sle (wkn S Γ) (Γl s0)) (hT : ∀ s, TG' (Γl s) g e (Γb s)) (hb : ∀ s a, BR (Γb s a) fb (body s a) (ZN Γl)) (hk : ∀ s, BR (Γl s) k (tk s) Z) :
    BR Γ (sSeq (sFor S fi g fb) k) (ti.bind fun xs => (foldR xs s0 body).bind tk) Z := ⟨fun ρ q => by
  have := hI.run ρ q
  rw [sSeq_app, sFor_app]
  cases ti with
  | ok xs =>
    rw [show fi ρ = .ok (xs.map e) from this, lift_ok]
    have hl := loop_R hT hb xs s0 (frzAt S ρ) (q.frzAt.le hle)
    show RefO _ ((foldR xs s0 body).bind tk) Z
    cases ef : foldR xs s0 body with
    | ok s => rw [ef] at hl; obtain ⟨ρ', e1, q1⟩ := hl; rw [e1]; exact (hk s).run ρ' q1
    | exc C fs => rw [ef] at hl; obtain ⟨ρ', e1⟩ := hl; rw [e1]; exact ⟨ρ', rfl⟩
    | stuck => trivial
  | exc C fs => rw [show fi ρ = _ from this]; exact ⟨ρ, rfl⟩
  | stuck => trivial⟩
def ZL (Γ : σ → List Sl) (Zr : Out → β → Prop) : Out → Sum σ β → Prop := fun x c => match c with
  | .inl s => ∃ ρ', x = .nx ρ' ∧ Fits (Γ s) ρ'
  | .inr b => Zr x b
theorem loop_C {g : D → En → Option En} {e : α → D} [hz : Fz e] {fb : En → Out} {body : σ → α → R (Ct σ β)} {Γl : σ → List Sl} {Γb : σ → α → List Sl} {o : Bool} {er : β → D} (hT : ∀ s, TG' (Γl s) g e (Γb s)) (hb : ∀ s a, BR (Γb s a) fb (body s a) (ZC Γl (ZR o er))) :
    ∀ (xs : List α) (s : σ) (ρ : En), Fits (Γl s) ρ → RefO (loopD g fb (xs.map e) ρ) (foldC xs s body) (ZL Γl (ZR o er))
  | [], s, ρ, q => ⟨ρ, rfl, q⟩
  | a :: r, s, ρ, q => by
    obtain ⟨ρ1, e1, q1⟩ := (hT s).run ρ (e a) a q (hz.fz a)
    have := (hb s a).run ρ1 q1
    rw [List.map_cons]
    unfold loopD foldC
    rw [e1]
    dsimp only
    cases eb : body s a with
    | ok c =>
      rw [eb] at this
      cases c with
      | nx s' =>
        obtain ⟨ρ2, h2, q2⟩ := this
        have ih := loop_C hT hb r s' ρ2 q2
        rcases h2 with h2 | h2 <;> rw [h2] <;> exact ih
      | bk s' =>
        obtain ⟨ρ2, h2, q2⟩ := this
        rw [h2]
        exact ⟨ρ2, rfl, q2⟩
      | rt b =>
        obtain ⟨d, h2, h3⟩ := this
        rw [h2]
        exact ⟨d, rfl, h3⟩
    | exc C fs => rw [eb] at this; obtain ⟨ρ2, h2⟩ := this; rw [h2]; exact ⟨ρ2, rfl⟩
    | stuck => trivial
theorem br_forC {fi : En → R (List D)} {g : D → En → Option En} {fb : En → Out} {ti : R (List α)} {e : α → D} [hz : Fz e] {s0 : σ} {body : σ → α → R (Ct σ β)} {tk : σ → R τ} {tr : β → τ} {Γl : σ → List Sl} {Γb : σ → α → List Sl} {o : Bool} {er : β → D}
    (hI : IR Γ fi ti e) (hle : Sle (wkn S Γ) (Γl s0)) (hT : ∀ s, TG' (Γl s) g e (Γb s)) (hb : ∀ s a, BR (Γb s a) fb (body s a) (ZC Γl (ZR o er))) (hk : ∀ s, BR (Γl s) k (tk s) Z) (hr : ∀ x b, ZR o er x b → Z x (tr b)) :
    BR Γ (sSeq (sFor S fi g fb) k) (ti.bind fun xs => (foldC xs s0 body).bind (onC tk fun b => .ok (tr b))) Z := ⟨fun ρ q => by
  have := hI.run ρ q
  rw [sSeq_app, sFor_app]
  cases ti with
  | ok xs =>
    rw [show fi ρ = .ok (xs.map e) from this, lift_ok]
    have hl := loop_C hT hb xs s0 (frzAt S ρ) (q.frzAt.le hle)
    show RefO _ ((foldC xs s0 body).bind _) Z
    cases ef : foldC xs s0 body with
    | ok s =>
      rw [ef] at hl
      cases s with
      | inl s => obtain ⟨ρ', e1, q1⟩ := hl; rw [e1]; exact (hk s).run ρ' q1
      | inr b =>
        have := hr _ b hl
        obtain ⟨d, e1, _⟩ := hl
        rw [e1] at this ⊢
        exact this
    | exc C fs => rw [ef] at hl; obtain ⟨ρ', e1⟩ := hl; rw [e1]; exact ⟨ρ', rfl⟩
    | stuck => trivial
  | exc C fs => rw [show fi ρ = _ from this]; exact ⟨ρ, rfl⟩
  | stuck => trivial⟩
theorem zr_f {o : Bool} {e : β → D} : ∀ x b, ZR o e x b → ZF o e x b := fun x b h => by
  obtain ⟨d, h1, h2⟩ := h
  exact ⟨d, .inl h1, h2⟩
theorem zr_c {o : Bool} {e : β → D} {Γl : σ → List Sl} : ∀ x b, ZR o e x b → ZC Γl (ZR o e) x (.rt b) := fun x b h => h
/-! while -/
theorem while_C {fc : En → R Bool} {fb : En → Out} {cond : σ → R Bool} {body : σ → R (Ct σ β)} {Γl : σ → List Sl} {o : Bool} {er : β → D} (hc : ∀ s, TR (Γl s) fc (cond s)) (hb : ∀ s, BR (Γl s) fb (body s) (ZC Γl (ZR o er))) :
    ∀ (n : Nat) (s : σ) (ρ : En), Fits (Γl s) ρ → RefO (whD fc fb n ρ) (whR n cond body s) (ZL Γl (ZR o er))
  | 0, s, ρ, q => trivial
  | n + 1, s, ρ, q => by
    have h1 := (hc s).run ρ q
    unfold whD whR
    cases ec : cond s with
    | ok b =>
      rw [ec] at h1
      rw [show fc ρ = .ok b from h1, lift_ok]
      cases b with
      | false => exact ⟨ρ, rfl, q⟩
      | true =>
        have := (hb s).run ρ q
        show RefO _ ((body s).bind _) _
        cases eb : body s with
        | ok c =>
          rw [eb] at this
          cases c with
          | nx s' =>
            obtain ⟨ρ2, h2, q2⟩ := this
            have ih := while_C hc hb n s' ρ2 q2
            rcases h2 with h2 | h2 <;> rw [h2] <;> exact ih
          | bk s' =>
            obtain ⟨ρ2, h2, q2⟩ := this
            rw [h2]
            exact ⟨ρ2, rfl, q2⟩
          | rt b =>
            obtain ⟨d, h2, h3⟩ := this
            rw [h2]
            exact ⟨d, rfl, h3⟩
        | exc C fs => rw [eb] at this; obtain ⟨ρ2, h2⟩ := this; rw [h2]; exact ⟨ρ2, rfl⟩
        | stuck => trivial
    | exc C fs => rw [ec] at h1; rw [show fc ρ = _ from h1]; exact ⟨ρ, rfl⟩
    | stuck => trivial
theorem br_wh {n : Nat} {fc : En → R Bool} {fb : En → Out} {s0 : σ} {cond : σ → R Bool} {body : σ → R (Ct σ β)} {tk : σ → R τ} {tr : β → τ} {Γl : σ → List Sl} {o : Bool} {er : β → D}
    (hle : Sle Γ (Γl s0)) (hc : ∀ s, TR (Γl s) fc (cond s)) (hb : ∀ s, BR (Γl s) fb (body s) (ZC Γl (ZR o er))) (hk : ∀ s, BR (Γl s) k (tk s) Z) (hr : ∀ x b, ZR o er x b → Z x (tr b)) :
    BR Γ (sSeq (sWh n fc fb) k) ((whR n cond body s0).bind (onC tk fun b => .ok (tr b))) Z := ⟨fun ρ q => by
  rw [sSeq_app]
  have hl := while_C hc hb n s0 ρ (q.le hle)
  unfold sWh
  cases ef : whR n cond body s0 with
  | ok s =>
    rw [ef] at hl
    cases s with
    | inl s => obtain ⟨ρ', e1, q1⟩ := hl; rw [e1]; exact (hk s).run ρ' q1
    | inr b =>
      have := hr _ b hl
      obtain ⟨d, e1, _⟩ := hl
      rw [e1] at this ⊢
      exact this
  | exc C fs => rw [ef] at hl; obtain ⟨ρ', e1⟩ := hl; rw [e1]; exact ⟨ρ', rfl⟩
  | stuck => trivial⟩
/-! comprehensions -/
def compR (xs : List α) (c : α → R Bool) (f : α → R β) : R (List β) := match xs with
  | [] => .ok []
  | a :: r => (c a).bind fun b => if b then (f a).bind fun y => (compR r c f).bind fun ys => .ok (y :: ys) else compR r c f
def vis (S vs : List Nat) : Nat → List Sl → List Sl
  | _, [] => []
  | k, s :: r => (if S.contains k && !vs.contains k then s.weak else .any) :: vis S vs (k + 1) r
theorem Fits.vis : ∀ {Γ : List Sl} {ρ : En} {k : Nat} {S vs : List Nat}, Fits Γ ρ → Fits (TL.vis S vs k Γ) (visE S vs k ρ)
  | [], [], _, _, _, _ => trivial
  | s :: Γ, x :: ρ, k, S, vs, h => by
    refine ⟨?_, Fits.vis (Γ := Γ) (ρ := ρ) h.2⟩
    split
    · cases s with
      | any => trivial
      | w d => obtain ⟨y, a, b⟩ := h.1; exact ⟨y.frz, by rw [a]; rfl, by rw [frz_frz]; exact b⟩
      | o d => obtain ⟨y, a, b, _⟩ := h.1; exact ⟨y.frz, by rw [a]; rfl, by rw [frz_frz]; exact b⟩
    · trivial
  | [], _ :: _, _, _, _, h => h.elim
  | _ :: _, [], _, _, _, h => h.elim
theorem comp_R {g : D → En → Option En} {e : α → D} [hz : Fz e] {fc : En → R Bool} {fe : En → R D} {tc : α → R Bool} {te : α → R β} {eb : β → D} {o : Bool} {Γv : List Sl} {Γb : α → List Sl} (hT : TG' Γv g e Γb) (hc : ∀ a, TR (Γb a) fc (tc a)) (he : ∀ a, ER o (Γb a) fe (te a) eb) (ρ : En) (q : Fits Γv ρ) :
    ∀ xs : List α, match compR xs tc te with
      | .ok ys => ∃ ds, compD g fc fe ρ (xs.map e) = .ok ds ∧ frzL ds = ys.map eb
      | _ => True
  | [] => ⟨[], rfl, rfl⟩
  | a :: r => by
    obtain ⟨ρ1, e1, q1⟩ := hT.run ρ (e a) a q (hz.fz a)
    have h1 := (hc a).run ρ1 q1
    have h2 := (he a).run ρ1 q1
    have ih := comp_R hT hc he ρ q r
    rw [List.map_cons, compD_cons, e1]
    unfold compR
    cases ec : tc a with
    | ok b =>
      rw [ec] at h1
      dsimp only [R.bind_ok, compG_some]
      rw [show fc ρ1 = .ok b from h1]
      cases b with
      | false => exact ih
      | true =>
        cases et : te a with
        | ok y =>
          rw [et] at h2
          obtain ⟨d, h3, h4, _⟩ := h2
          rw [h3]
          cases er : compR r tc te with
          | ok ys =>
            rw [er] at ih
            obtain ⟨ds, h5, h6⟩ := ih
            show ∃ ds, compB (.ok true) (.ok d) (compD g fc fe ρ (r.map e)) = .ok ds ∧ frzL ds = (y :: ys).map eb
            rw [h5]
            exact ⟨d :: ds, rfl, by rw [frzL_cons, h4, h6]; rfl⟩
          | exc C fs => trivial
          | stuck => trivial
        | exc C fs => trivial
        | stuck => trivial
    | exc C fs => trivial
    | stuck => trivial
/-- what may not be raised out of a comprehension -/
def calmR : R α → R α
  | .ok a => .ok a
  | _ => .stuck
@[simp] theorem calmR_ok (a : α) : calmR (.ok a) = .ok a := of_eq_true (eq_self _)
theorem er_lc {vs Sv : List Nat} {fi : En → R (List D)} {g : D → En → Option En} {e : α → D} [hz : Fz e] {fc : En → R Bool} {fe : En → R D} {ti : R (List α)} {tc : α → R Bool} {te : α → R β} {eb : β → D} {o : Bool} {Γv : List Sl} {Γb : α → List Sl}
    (hI : IR Γ fi ti e) (hv : Γv = vis Sv vs 0 Γ) (hT : TG' Γv g e Γb) (hc : ∀ a, TR (Γb a) fc (tc a)) (he : ∀ a, ER o (Γb a) fe (te a) eb) :
    ER true Γ (eLc vs Sv fi g fc fe) (ti.bind fun xs => calmR (compR xs tc te)) (eL eb) := ⟨fun ρ q => by
  have h1 := hI.run ρ q
  rw [eLc_app]
  cases ti with
  | ok xs =>
    rw [show fi ρ = .ok (xs.map e) from h1]
    have := comp_R hT hc he (visE Sv vs 0 ρ) (by rw [hv]; exact q.vis) xs
    show RefE true _ (calmR (compR xs tc te)) (eL eb)
    cases ec : compR xs tc te with
    | ok ys =>
      rw [ec] at this
      obtain ⟨ds, h2, h3⟩ := this
      rw [R.bind_ok, h2]
      exact ⟨.lst true ds, rfl, by rw [frz_lst, h3]; rfl, fun _ => rfl⟩
    | exc C fs => trivial
    | stuck => trivial
  | exc C fs => rw [show fi ρ = _ from h1]; exact rfl
  | stuck => trivial⟩
theorem compR_pure {xs : List α} (c : α → Bool) (f : α → β) : compR xs (fun a => .ok (c a)) (fun a => .ok (f a)) = .ok ((xs.filter c).map f) := by
  induction xs with
  | nil => rfl
  | cons a r ih =>
    unfold compR
    rw [R.bind_ok, ih]
    cases h : c a with
    | true => rw [List.filter_cons_of_pos h]; rfl
    | false => rw [List.filter_cons_of_neg (by rw [h]; exact Bool.false_ne_true)]; rfl
theorem er_lcp {vs Sv : List Nat} {fi : En → R (List D)} {g : D → En → Option En} {e : α → D} [hz : Fz e] {fc : En → R Bool} {fe : En → R D} {ti : R (List α)} {tc : α → Bool} {te : α → β} {eb : β → D} {o : Bool} {Γv : List Sl} {Γb : α → List Sl}
    (hI : IR Γ fi ti e) (hv : Γv = vis Sv vs 0 Γ) (hT : TG' Γv g e Γb) (hc : ∀ a, TR (Γb a) fc (.ok (tc a))) (he : ∀ a, ER o (Γb a) fe (.ok (te a)) eb) :
    ER true Γ (eLc vs Sv fi g fc fe) (ti.bind fun xs => .ok ((xs.filter tc).map te)) (eL eb) := by
  have := er_lc hI hv hT hc he
  simpa only [compR_pure, calmR_ok] using this
theorem er_lcpp {vs Sv : List Nat} {fi : En → R (List D)} {g : D → En → Option En} {e : α → D} [hz : Fz e] {fc : En → R Bool} {fe : En → R D} {xs : List α} {tc : α → Bool} {te : α → β} {eb : β → D} {o : Bool} {Γv : List Sl} {Γb : α → List Sl}
    (hI : IR Γ fi (.ok xs) e) (hv : Γv = vis Sv vs 0 Γ) (hT : TG' Γv g e Γb) (hc : ∀ a, TR (Γb a) fc (.ok (tc a))) (he : ∀ a, ER o (Γb a) fe (.ok (te a)) eb) :
    ER true Γ (eLc vs Sv fi g fc fe) (.ok ((xs.filter tc).map te)) (eL eb) := er_lcp hI hv hT hc he
theorem tr_yes : TR Γ cYes (.ok true) := ⟨fun ρ _ => rfl⟩
/-! defs -/
theorem fn_ref {n : Nat} {bd : En → Out} {ds : List D} {t : R β} {o : Bool} {e : β → D} (h : BR Γ bd t (ZF o e)) (hf : Fits Γ (ds.map some ++ List.replicate (n - ds.length) none)) : RF o (fn n bd ds) t e := ⟨by
  have := h.run _ hf
  rw [fn_app]
  cases t with
  | ok a =>
    obtain ⟨d, h1, h2⟩ := this
    rcases h1 with h1 | ⟨h1, ρ, h3⟩
    · rw [h1]; exact ⟨d, rfl, h2⟩
    · rw [h3]; exact ⟨.non, rfl, by rw [← h1]; exact h2⟩
  | exc C fs => obtain ⟨ρ, h1⟩ := this; rw [h1]; exact rfl
  | stuck => trivial⟩
theorem fits_w {d : D} {Γ : List Sl} {ρ : En} (hd : d.frz = d) (h : Fits Γ ρ) : Fits (.w d :: Γ) (some d :: ρ) := ⟨⟨d, rfl, hd⟩, h⟩
theorem fits_a {Γ : List Sl} {x : Option D} {ρ : En} (h : Fits Γ ρ) : Fits (.any :: Γ) (x :: ρ) := ⟨trivial, h⟩
/-! changes -/
def Mut (g : D → List D → Option (D × D)) (ea : α → D) (eb : β → List D) (op : α → β → R (γ × δ)) (ec : γ → D) (ed : δ → D) : Prop :=
  ∀ a b x ys, x.frz = ea a → ownT x = true → frzL ys = eb b → match op a b with
    | .ok c => ∃ x' r, g x ys = some (x', r) ∧ x'.frz = ec c.1 ∧ ownT x' = true ∧ r.frz = ed c.2
    | .exc _ _ => False
    | .stuck => True
def MutU (g : D → List D → Option (D × D)) (ea : α → D) (eb : β → List D) (op : α → β → R γ) (ec : γ → D) : Prop :=
  ∀ a b x ys, x.frz = ea a → ownT x = true → frzL ys = eb b → match op a b with
    | .ok c => ∃ x' r, g x ys = some (x', r) ∧ x'.frz = ec c ∧ ownT x' = true
    | .exc _ _ => False
    | .stuck => True
theorem br_mut {T : String} {i : Nat} {m : D → List D → Option (D × D)} {fs : En → R (List D)} {ts : R β} {ea : α → D} {es : β → List D} {op : α → β → R γ} {ec : γ → D} {a : α} {tk : γ → R τ} {Γ' : γ → List Sl}
    (hm : MutU m ea es op ec) (hty : ∀ x : D, x.frz = ea a → ownT x = true → tyD T x = true) (hi : Γ[i]? = some (.o (ea a))) (hs : EA Γ fs ts es) (hS : S.contains i = false) (hG : ∀ c, Γ' c = (wkn S Γ).set i (.o (ec c))) (hk : ∀ c, BR (Γ' c) k (tk c) Z) :
    BR Γ (sSeq (sMut T i S m fs) k) (ts.bind fun b => (op a b).bind tk) Z := ⟨fun ρ q => by
  obtain ⟨y, h1, h2, h3⟩ := q.getO hi
  have hq := hs.run ρ q
  rw [sSeq_app, sMut_app, h1, mutAt_some, if_pos (hty y h2 h3)]
  cases ts with
  | ok b =>
    obtain ⟨ds, e1, e2⟩ := hq
    rw [e1, lift_ok, hS]
    simp only [Bool.not_false, Bool.or_true, if_true]
    have := hm a b y ds h2 h3 e2
    show RefO _ ((op a b).bind _) Z
    cases eo : op a b with
    | ok c =>
      rw [eo] at this
      obtain ⟨x', r, e3, e4, e5⟩ := this
      rw [e3]
      refine (hk c).run _ ?_
      rw [hG]
      refine Fits.set ?_ ⟨x', rfl, e4, e5⟩
      split
      · exact q.wkn
      · exact q.frzAt
    | exc C fs => rw [eo] at this; exact this.elim
    | stuck => trivial
  | exc C fl => rw [show fs ρ = _ from hq]; exact ⟨ρ, rfl⟩
  | stuck => trivial⟩
theorem br_mutC {T : String} {i : Nat} {m : D → List D → Option (D × D)} {fs : En → R (List D)} {ts : R β} {ea : α → D} {es : β → List D} {op : α → β → R γ} {ec : γ → D} {a : α} {tk : γ → R τ} {Γ' : γ → List Sl}
    (hm : MutU m ea es op ec) (hty : ∀ x : D, x.frz = ea a → ownT x = true → tyD T x = true) (hi : Γ[i]? = some (.o (ea a))) (hs : EA Γ fs ts es) (hv : ∀ b, valL (es b) = true) (hG : ∀ c, Γ' c = Γ.set i (.o (ec c))) (hk : ∀ c, BR (Γ' c) k (tk c) Z) :
    BR Γ (sSeq (sMut T i S m fs) k) (ts.bind fun b => (op a b).bind tk) Z := ⟨fun ρ q => by
  obtain ⟨y, h1, h2, h3⟩ := q.getO hi
  have hq := hs.run ρ q
  rw [sSeq_app, sMut_app, h1, mutAt_some, if_pos (hty y h2 h3)]
  cases ts with
  | ok b =>
    obtain ⟨ds, e1, e2⟩ := hq
    have e2' : ds = es b := by rw [← e2]; exact (frzL_val (by rw [e2]; exact hv b)).symm
    have hc : cleanL ds = true := by rw [e2']; exact (valL_frz (hv b)).2
    rw [e1, lift_ok, hc]
    simp only [Bool.true_or, if_true]
    have := hm a b y ds h2 h3 e2
    show RefO _ ((op a b).bind _) Z
    cases eo : op a b with
    | ok c =>
      rw [eo] at this
      obtain ⟨x', r, e3, e4, e5⟩ := this
      rw [e3]
      refine (hk c).run _ ?_
      rw [hG]
      exact q.set ⟨x', rfl, e4, e5⟩
    | exc C fs => rw [eo] at this; exact this.elim
    | stuck => trivial
  | exc C fl => rw [show fs ρ = _ from hq]; exact ⟨ρ, rfl⟩
  | stuck => trivial⟩
end
theorem ty_list {α : Type} {e : α → D} {xs : List α} : ∀ x : D, x.frz = eL e xs → ownT x = true → tyD "list" x = true := fun x h ho => by
  obtain ⟨o, ys, rfl, _⟩ := inv_lst h
  cases o with
  | true => rfl
  | false => cases ho
end TL
/-! Y3: typed operations -/
namespace TL
open PySem PySem.Spec PyProof.Rows L2

section
variable {α β γ δ : Type} {o : Bool} {e ea : α → D} {eb : β → D} {ec : γ → D}
theorem ref_ok {d : D} {x : R D} {a : α} (h : x = .ok d) (h2 : d.frz = e a) : RefE false x (.ok a) e := ⟨d, h, h2, fun z => nomatch z⟩
theorem ref_own {d : D} {x : R D} {a : α} (h : x = .ok d) (h2 : d.frz = e a) (h3 : ownT d = true) : RefE true x (.ok a) e := ⟨d, h, h2, fun _ => h3⟩

/-! numbers -/
theorem o2_int {g : D → D → Option D} {f : Int → Int → α} (h : ∀ i j, ∃ d, g (.int i) (.int j) = some d ∧ d.frz = e (f i j)) : Op2 false g eI eI (fun i j => .ok (f i j)) e := fun i j x y hx hy => by
  rw [inv_int hx, inv_int hy]
  obtain ⟨d, h1, h2⟩ := h i j
  exact ref_ok (by rw [h1]; rfl) h2
theorem o_add : Op2 false gAdd eI eI (fun i j => .ok (i + j)) eI := o2_int fun i j => ⟨_, rfl, rfl⟩
theorem o_sub : Op2 false gSub eI eI (fun i j => .ok (i - j)) eI := o2_int fun i j => ⟨_, rfl, rfl⟩
theorem o_lt : Op2 false gLt eI eI (fun i j => .ok (decide (i < j))) eB := o2_int fun i j => ⟨_, rfl, rfl⟩
theorem o_le : Op2 false gLe eI eI (fun i j => .ok (decide (i ≤ j))) eB := o2_int fun i j => ⟨_, rfl, rfl⟩
theorem o_gt : Op2 false gGt eI eI (fun i j => .ok (decide (j < i))) eB := o2_int fun i j => ⟨_, rfl, rfl⟩
theorem o_ge : Op2 false gGe eI eI (fun i j => .ok (decide (j ≤ i))) eB := o2_int fun i j => ⟨_, rfl, rfl⟩
theorem o_neg : Op1 false gNeg eI (fun i => .ok (-i)) eI := fun i x hx => by rw [inv_int hx]; exact ref_ok rfl rfl
def mulR (i j : Int) : R Int := if (-(2 ^ 62) < i ∧ i < 2 ^ 62) ∨ (-(2 ^ 62) < j ∧ j < 2 ^ 62) then .ok (i * j) else .stuck
def modR (i j : Int) : R Int := if 0 < j then .ok (i % j) else .stuck
def divR (i j : Int) : R Int := if 0 < j ∧ j < 2 ^ 62 then .ok (i / j) else .stuck
theorem o_mul : Op2 false gMul eI eI mulR eI := fun i j x y hx hy => by
  rw [inv_int hx, inv_int hy]
  unfold mulR
  split
  · rename_i h; rw [gMul_int h]; exact ref_ok rfl rfl
  · trivial
theorem o_mod : Op2 false gMod eI eI modR eI := fun i j x y hx hy => by
  rw [inv_int hx, inv_int hy]
  unfold modR
  split
  · rename_i h; rw [gMod_int h]; exact ref_ok rfl rfl
  · trivial
theorem o_div : Op2 false gDiv eI eI divR eI := fun i j x y hx hy => by
  rw [inv_int hx, inv_int hy]
  unfold divR
  split
  · rename_i h; rw [gDiv_int h]; exact ref_ok rfl rfl
  · trivial
section
variable {Γ : List Sl} {fa fb : En → R D} {i j : Int} {ta : R Int}
/-- products, rests and quotients by a written number -/
theorem er_mulL (hb : -(2 ^ 62) < i ∧ i < 2 ^ 62) (h1 : ER false Γ fa (.ok i) eI) (h2 : ER false Γ fb (.ok j) eI) : ER false Γ (e2 gMul fa fb) (.ok (i * j)) eI := by
  have := er_2 o_mul h1 h2
  simpa only [R.bind_ok, mulR, if_pos (Or.inl hb : (-(2 ^ 62) < i ∧ i < 2 ^ 62) ∨ (-(2 ^ 62) < j ∧ j < 2 ^ 62))] using this
theorem er_mulR (hb : -(2 ^ 62) < j ∧ j < 2 ^ 62) (h1 : ER false Γ fa (.ok i) eI) (h2 : ER false Γ fb (.ok j) eI) : ER false Γ (e2 gMul fa fb) (.ok (i * j)) eI := by
  have := er_2 o_mul h1 h2
  simpa only [R.bind_ok, mulR, if_pos (Or.inr hb : (-(2 ^ 62) < i ∧ i < 2 ^ 62) ∨ (-(2 ^ 62) < j ∧ j < 2 ^ 62))] using this
theorem er_modL (hb : 0 < j) (h1 : ER false Γ fa (.ok i) eI) (h2 : ER false Γ fb (.ok j) eI) : ER false Γ (e2 gMod fa fb) (.ok (i % j)) eI := by
  have := er_2 o_mod h1 h2
  simpa only [R.bind_ok, modR, if_pos hb] using this
theorem er_divL (hb : 0 < j ∧ j < 2 ^ 62) (h1 : ER false Γ fa (.ok i) eI) (h2 : ER false Γ fb (.ok j) eI) : ER false Γ (e2 gDiv fa fb) (.ok (i / j)) eI := by
  have := er_2 o_div h1 h2
  simpa only [R.bind_ok, divR, if_pos hb] using this
theorem er_mulLM (hb : -(2 ^ 62) < i ∧ i < 2 ^ 62) (h1 : ER false Γ fa (.ok i) eI) (h2 : ER false Γ fb ta eI) : ER false Γ (e2 gMul fa fb) (ta.bind fun j => .ok (i * j)) eI := by
  have := er_2 o_mul h1 h2
  have e : ∀ j, mulR i j = .ok (i * j) := fun j => by unfold mulR; exact if_pos (.inl hb)
  simpa only [R.bind_ok, e] using this
theorem er_mulRM (hb : -(2 ^ 62) < j ∧ j < 2 ^ 62) (h1 : ER false Γ fa ta eI) (h2 : ER false Γ fb (.ok j) eI) : ER false Γ (e2 gMul fa fb) (ta.bind fun i => .ok (i * j)) eI := by
  have := er_2 o_mul h1 h2
  have e : ∀ i, mulR i j = .ok (i * j) := fun i => by unfold mulR; exact if_pos (.inr hb)
  simpa only [R.bind_ok, e] using this
theorem er_modLM (hb : 0 < j) (h1 : ER false Γ fa ta eI) (h2 : ER false Γ fb (.ok j) eI) : ER false Γ (e2 gMod fa fb) (ta.bind fun i => .ok (i % j)) eI := by
  have := er_2 o_mod h1 h2
  have e : ∀ i, modR i j = .ok (i % j) := fun i => by unfold modR; exact if_pos hb
  simpa only [R.bind_ok, e] using this
theorem er_divLM (hb : 0 < j ∧ j < 2 ^ 62) (h1 : ER false Γ fa ta eI) (h2 : ER false Γ fb (.ok j) eI) : ER false Γ (e2 gDiv fa fb) (ta.bind fun i => .ok (i / j)) eI := by
  have := er_2 o_div h1 h2
  have e : ∀ i, divR i j = .ok (i / j) := fun i => by unfold divR; exact if_pos hb
  simpa only [R.bind_ok, e] using this
theorem er_pow (hb : 0 ≤ j ∧ j ≤ 1000 ∧ -(2 ^ 63) < i ∧ i < 2 ^ 63) {z : Int} (hz : i ^ j.toNat = z) : ER false Γ (e2 gPow (eC (.int i)) (eC (.int j))) (.ok z) eI := ⟨fun ρ _ => by
  unfold e2
  rw [eC_app, eC_app, R.bind_ok, R.bind_ok, gPow_int hb, hz]
  exact ref_ok rfl rfl⟩
end
theorem o_int : OpN false gInt (fun p : Int × Unit => eI p.1 :: (fun _ => []) p.2) (fun p => .ok p.1) eI := fun a xs h => by
  rw [show xs = [.int a.1] from inv_valL (e := eI) (xs := [a.1]) h]
  exact ref_ok rfl rfl
theorem o_intB : OpN false gInt (fun p : Bool × Unit => eB p.1 :: (fun _ => []) p.2) (fun p => .ok (if p.1 then 1 else 0)) eI := fun a xs h => by
  rw [show xs = [.bl a.1] from inv_valL (e := eB) (xs := [a.1]) h]
  exact ref_ok rfl rfl
def absI (i : Int) : Int := if i < 0 then -i else i
def maxI (i j : Int) : Int := if j > i then j else i
def minI (i j : Int) : Int := if j < i then j else i
theorem o_abs : OpN false gAbs (fun p : Int × Unit => eI p.1 :: (fun _ => []) p.2) (fun p => .ok (absI p.1)) eI := fun a xs h => by
  rw [show xs = [.int a.1] from inv_valL (e := eI) (xs := [a.1]) h]
  exact ref_ok rfl rfl
theorem o_max : OpN false gMax2 (fun p : Int × Int × Unit => eI p.1 :: (fun p : Int × Unit => eI p.1 :: (fun _ => []) p.2) p.2) (fun p => .ok (maxI p.1 p.2.1)) eI := fun a xs h => by
  rw [show xs = [.int a.1, .int a.2.1] from inv_valL (e := eI) (xs := [a.1, a.2.1]) h]
  exact ref_ok rfl rfl
theorem o_min : OpN false gMin2 (fun p : Int × Int × Unit => eI p.1 :: (fun p : Int × Unit => eI p.1 :: (fun _ => []) p.2) p.2) (fun p => .ok (minI p.1 p.2.1)) eI := fun a xs h => by
  rw [show xs = [.int a.1, .int a.2.1] from inv_valL (e := eI) (xs := [a.1, a.2.1]) h]
  exact ref_ok rfl rfl

/-! equality -/
mutual
theorem okN_frz : ∀ (d : D) (n : Nat), okN n d.frz = okN n d
  | .non, _ => rfl
  | .bl _, _ => rfl
  | .int _, _ => rfl
  | .str _, _ => rfl
  | .tup xs, 0 => rfl
  | .tup xs, n + 1 => by show okNL n (frzL xs) = okNL n xs; exact okNL_frz xs n
  | .lst _ xs, 0 => rfl
  | .lst _ xs, n + 1 => by show okNL n (frzL xs) = okNL n xs; exact okNL_frz xs n
  | .dct _ _ _, _ => rfl
  | .ins _ _ _, _ => rfl
  | .xr _ _, _ => rfl
  | .kl xs, 0 => rfl
  | .kl xs, n + 1 => by show okNL n (frzL xs) = okNL n xs; exact okNL_frz xs n
  | .kt xs, 0 => rfl
  | .kt xs, n + 1 => by show okNL n (frzL xs) = okNL n xs; exact okNL_frz xs n
theorem okNL_frz : ∀ (xs : List D) (n : Nat), okNL n (frzL xs) = okNL n xs
  | [], _ => by simp [okNL]
  | d :: r, n => by simp only [frzL_cons, okNL, okN_frz d n, okNL_frz r n]
end
mutual
theorem pyD_frz : ∀ d : D, pyD d.frz = pyD d
  | .non => rfl
  | .bl _ => rfl
  | .int _ => rfl
  | .str _ => rfl
  | .tup xs => congrArg PyData.tuple (pyL_frz xs)
  | .lst _ xs => congrArg PyData.list (pyL_frz xs)
  | .dct _ _ _ => rfl
  | .ins _ _ _ => rfl
  | .xr _ _ => rfl
  | .kl xs => congrArg PyData.list (pyL_frz xs)
  | .kt xs => congrArg PyData.tuple (pyL_frz xs)
theorem pyL_frz : ∀ xs : List D, pyL (frzL xs) = pyL xs
  | [] => rfl
  | d :: r => by
    show pyD d.frz :: pyL (frzL r) = pyD d :: pyL r
    rw [pyD_frz d, pyL_frz r]
end
theorem eqD_frz (x y : D) : eqD x y = eqD x.frz y.frz := by unfold eqD; rw [pyD_frz, pyD_frz]
class EqE {α : Type} [DecidableEq α] (e : α → D) (n : outParam Nat) : Prop where
  ok : ∀ m a, n ≤ m → okN m (e a) = true
  eq : ∀ a b, eqD (e a) (e b) = decide (a = b)
instance : EqE eI 0 := ⟨fun m a _ => by cases m <;> rfl, fun a b => by
  show (a == b) = decide (a = b)
  rw [Bool.eq_iff_iff]; simp⟩
instance : EqE eB 0 := ⟨fun m a _ => by cases m <;> rfl, fun a b => by cases a <;> cases b <;> rfl⟩
instance : EqE eU 0 := ⟨fun m a _ => by cases m <;> rfl, fun a b => rfl⟩
instance : EqE pr 1 := ⟨fun m a h => by obtain ⟨k, rfl⟩ : ∃ k, m = k + 1 := ⟨m - 1, by omega⟩; exact okN_pr k a, eqD_pr⟩
theorem okNL_map {n m : Nat} (h : ∀ a, okN m (e a) = true) (xs : List α) : okNL m (xs.map e) = true := by
  rw [okNL_all, List.all_map, List.all_eq_true]
  exact fun a _ => h a
theorem eqvAll_map (e : α → D) (p : α → α → Bool) (h : ∀ a b, eqD (e a) (e b) = p a b) : ∀ xs ys : List α, PyData.eqvAll (pyL (xs.map e)) (pyL (ys.map e)) = (xs.length == ys.length && (xs.zip ys).all fun q => p q.1 q.2)
  | [], [] => rfl
  | [], _ :: _ => rfl
  | _ :: _, [] => rfl
  | a :: r, b :: q => by
    have ih := eqvAll_map e p h r q
    have h1 := h a b
    unfold eqD at h1
    simp only [List.map_cons, pyL, PyData.eqvAll, ih, h1, List.length_cons, List.zip_cons_cons, List.all_cons]
    by_cases hl : r.length = q.length
    · simp [hl]
    · have : (r.length == q.length) = false := by simpa using hl
      have h2 : (r.length + 1 == q.length + 1) = false := by simp [hl]
      rw [this, h2]
      simp
theorem eqvAll_dec {n : Nat} [DecidableEq α] [h : EqE e n] (xs ys : List α) : PyData.eqvAll (pyL (xs.map e)) (pyL (ys.map e)) = decide (xs = ys) := by
  rw [eqvAll_map e (fun a b => decide (a = b)) h.eq]
  rw [Bool.eq_iff_iff, Bool.and_eq_true, decide_eq_true_iff, beq_iff_eq, List.all_eq_true]
  constructor
  · rintro ⟨h1, h2⟩
    refine List.ext_getElem h1 fun i hi hj => ?_
    have hm : (xs[i], ys[i]) ∈ xs.zip ys := by
      rw [List.mem_iff_getElem]
      exact ⟨i, by rw [List.length_zip]; omega, by simp⟩
    exact of_decide_eq_true (h2 _ hm)
  · intro h
    subst h
    refine ⟨rfl, fun q m => ?_⟩
    obtain ⟨i, hi, e⟩ := List.mem_iff_getElem.mp m
    rw [← e]
    simp
instance eqeL {n : Nat} [DecidableEq α] [h : EqE e n] : EqE (eL e) (n + 1) := ⟨fun m a hm => by
  obtain ⟨k, rfl⟩ : ∃ k, m = k + 1 := ⟨m - 1, by omega⟩
  show okNL k (a.map e) = true
  exact okNL_map (n := n) (fun a => h.ok k a (by omega)) a, fun a b => by
  show PyData.eqv (.list (pyL (a.map e))) (.list (pyL (b.map e))) = _
  simp only [PyData.eqv]
  exact eqvAll_dec a b⟩
instance eqeV {n : Nat} [DecidableEq α] [h : EqE e n] : EqE (eV e) (n + 1) := ⟨fun m a hm => by
  obtain ⟨k, rfl⟩ : ∃ k, m = k + 1 := ⟨m - 1, by omega⟩
  show okNL k (a.map e) = true
  exact okNL_map (n := n) (fun a => h.ok k a (by omega)) a, fun a b => by
  show PyData.eqv (.tuple (pyL (a.map e))) (.tuple (pyL (b.map e))) = _
  simp only [PyData.eqv]
  exact eqvAll_dec a b⟩
instance eqeP {n m : Nat} [DecidableEq α] [DecidableEq β] [h : EqE ea n] [k : EqE eb m] : EqE (eP ea eb) (n + m + 1) := ⟨fun j a hm => by
  obtain ⟨i, rfl⟩ : ∃ i, j = i + 1 := ⟨j - 1, by omega⟩
  show okNL i [ea a.1, eb a.2] = true
  simp only [okNL, h.ok i a.1 (by omega), k.ok i a.2 (by omega), Bool.and_self], fun a b => by
  have h1 := h.eq a.1 b.1
  have h2 := k.eq a.2 b.2
  unfold eqD at h1 h2
  show PyData.eqv (.tuple (pyL [ea a.1, eb a.2])) (.tuple (pyL [ea b.1, eb b.2])) = _
  simp only [PyData.eqv, pyL, PyData.eqvAll, h1, h2, Bool.and_true]
  obtain ⟨a1, a2⟩ := a
  obtain ⟨b1, b2⟩ := b
  rw [Bool.eq_iff_iff]
  simp⟩
instance eqeP3 {n m l : Nat} [DecidableEq α] [DecidableEq β] [DecidableEq γ] [h : EqE ea n] [k : EqE eb m] [j : EqE ec l] : EqE (eP3 ea eb ec) (n + m + l + 1) := ⟨fun q a hm => by
  obtain ⟨i, rfl⟩ : ∃ i, q = i + 1 := ⟨q - 1, by omega⟩
  show okNL i [ea a.1, eb a.2.1, ec a.2.2] = true
  simp only [okNL, h.ok i a.1 (by omega), k.ok i a.2.1 (by omega), j.ok i a.2.2 (by omega), Bool.and_self], fun a b => by
  have h1 := h.eq a.1 b.1
  have h2 := k.eq a.2.1 b.2.1
  have h3 := j.eq a.2.2 b.2.2
  unfold eqD at h1 h2 h3
  show PyData.eqv (.tuple (pyL [ea a.1, eb a.2.1, ec a.2.2])) (.tuple (pyL [ea b.1, eb b.2.1, ec b.2.2])) = _
  simp only [PyData.eqv, pyL, PyData.eqvAll, h1, h2, h3, Bool.and_true]
  obtain ⟨a1, a2, a3⟩ := a
  obtain ⟨b1, b2, b3⟩ := b
  rw [Bool.eq_iff_iff]
  simp⟩
theorem gEq_frz (x y : D) : gEq x y = gEq x.frz y.frz := by unfold gEq; rw [okN_frz, okN_frz, eqD_frz]
theorem gNe_frz (x y : D) : gNe x y = gNe x.frz y.frz := by unfold gNe; rw [okN_frz, okN_frz, eqD_frz]
abbrev eqT {n : Nat} (e : α → D) [DecidableEq α] [h : EqE e n] (a b : α) : Bool := decide (a = b)
theorem o_eq {n : Nat} [DecidableEq α] [h : EqE e n] (hn : n ≤ 9) : Op2 false gEq e e (fun a b => .ok (eqT e a b)) eB := fun a b x y hx hy => by
  rw [gEq_frz, hx, hy, gEq_ok (h.ok 9 a hn) (h.ok 9 b hn), h.eq]
  exact ref_ok rfl rfl
theorem o_ne {n : Nat} [DecidableEq α] [h : EqE e n] (hn : n ≤ 9) : Op2 false gNe e e (fun a b => .ok (!eqT e a b)) eB := fun a b x y hx hy => by
  rw [gNe_frz, hx, hy, gNe_ok (h.ok 9 a hn) (h.ok 9 b hn), h.eq]
  exact ref_ok rfl rfl
/-- equality of anything -/
def eqR (ea : α → D) (eb : β → D) (a : α) (b : β) : R Bool := if okN 9 (ea a) && okN 9 (eb b) then .ok (eqD (ea a) (eb b)) else .stuck
def neR (ea : α → D) (eb : β → D) (a : α) (b : β) : R Bool := if okN 9 (ea a) && okN 9 (eb b) then .ok (!eqD (ea a) (eb b)) else .stuck
theorem o_eqR : Op2 false gEq ea eb (eqR ea eb) eB := fun a b x y hx hy => by
  rw [gEq_frz, hx, hy]
  unfold eqR gEq
  split
  · exact ref_ok rfl rfl
  · trivial
theorem o_neR : Op2 false gNe ea eb (neR ea eb) eB := fun a b x y hx hy => by
  rw [gNe_frz, hx, hy]
  unfold neR gNe
  split
  · exact ref_ok rfl rfl
  · trivial
theorem seqOf_frz (y : D) : seqOf y.frz = (seqOf y).map frzL := by cases y <;> rfl
theorem inD_frz (x : D) (ys : List D) : inD x.frz (frzL ys) = inD x ys := by
  unfold inD
  rw [frzL_map, List.any_map]
  congr 1
  funext z
  show eqD z.frz x.frz = eqD z x
  rw [← eqD_frz]
theorem gInS_frz (n : Bool) (x y : D) : gInS n x.frz y.frz = gInS n x y := by
  unfold gInS
  rw [seqOf_frz]
  cases seqOf y with
  | none => rfl
  | some ys =>
    simp only [Option.map_some, okN_frz, inD_frz]
theorem inD_map {n : Nat} [DecidableEq α] [h : EqE e n] (a : α) (xs : List α) : inD (e a) (xs.map e) = decide (a ∈ xs) := by
  unfold inD
  rw [List.any_map, Bool.eq_iff_iff, List.any_eq_true, decide_eq_true_iff]
  constructor
  · rintro ⟨z, m, hz⟩
    have h2 : eqD (e z) (e a) = true := hz
    rw [h.eq] at h2
    rw [← of_decide_eq_true h2]
    exact m
  · intro m
    refine ⟨a, m, ?_⟩
    show eqD (e a) (e a) = true
    rw [h.eq]
    exact decide_eq_true rfl
def memB [DecidableEq α] (a : α) (xs : List α) : Bool := decide (a ∈ xs)
@[simp] theorem memB_iff [DecidableEq α] {a : α} {xs : List α} : memB a xs = true ↔ a ∈ xs := decide_eq_true_iff
@[simp] theorem memB_not [DecidableEq α] {a : α} {xs : List α} : memB a xs = false ↔ a ∉ xs := decide_eq_false_iff_not
theorem o_inL {n : Nat} [DecidableEq α] [h : EqE e n] (hn : n ≤ 8) : Op2 false (gIn false) e (eL e) (fun a xs => .ok (memB a xs)) eB := fun a xs x y hx hy => by
  obtain ⟨o, ys, rfl, h2⟩ := inv_lst hy
  show RefE false (ofO (gInS false x (.lst o ys))) _ eB
  have hk : okN 9 (eL e xs) = true := okNL_map (n := n) (fun a => h.ok 8 a hn) xs
  rw [← gInS_frz, hx, hy]
  unfold gInS
  have h9 : okN 9 (e a) = true := h.ok 9 a (by omega)
  rw [h9, hk]
  exact ref_ok (d := .bl (inD (e a) (xs.map e))) rfl (by rw [inD_map]; rfl)
theorem o_niL {n : Nat} [DecidableEq α] [h : EqE e n] (hn : n ≤ 8) : Op2 false (gIn true) e (eL e) (fun a xs => .ok (!memB a xs)) eB := fun a xs x y hx hy => by
  obtain ⟨o, ys, rfl, h2⟩ := inv_lst hy
  show RefE false (ofO (gInS true x (.lst o ys))) _ eB
  have hk : okN 9 (eL e xs) = true := okNL_map (n := n) (fun a => h.ok 8 a hn) xs
  rw [← gInS_frz, hx, hy]
  unfold gInS
  have h9 : okN 9 (e a) = true := h.ok 9 a (by omega)
  rw [h9, hk]
  exact ref_ok (d := .bl (!inD (e a) (xs.map e))) rfl (by rw [inD_map]; rfl)
theorem o_inV {n : Nat} [DecidableEq α] [h : EqE e n] (hn : n ≤ 8) : Op2 false (gIn false) e (eV e) (fun a xs => .ok (memB a xs)) eB := fun a xs x y hx hy => by
  obtain ⟨ys, rfl, h2⟩ := inv_tup hy
  show RefE false (ofO (gInS false x (.tup ys))) _ eB
  have hk : okN 9 (eV e xs) = true := okNL_map (n := n) (fun a => h.ok 8 a hn) xs
  rw [← gInS_frz, hx, hy]
  unfold gInS
  have h9 : okN 9 (e a) = true := h.ok 9 a (by omega)
  rw [h9, hk]
  exact ref_ok (d := .bl (inD (e a) (xs.map e))) rfl (by rw [inD_map]; rfl)
theorem o_niV {n : Nat} [DecidableEq α] [h : EqE e n] (hn : n ≤ 8) : Op2 false (gIn true) e (eV e) (fun a xs => .ok (!memB a xs)) eB := fun a xs x y hx hy => by
  obtain ⟨ys, rfl, h2⟩ := inv_tup hy
  show RefE false (ofO (gInS true x (.tup ys))) _ eB
  have hk : okN 9 (eV e xs) = true := okNL_map (n := n) (fun a => h.ok 8 a hn) xs
  rw [← gInS_frz, hx, hy]
  unfold gInS
  have h9 : okN 9 (e a) = true := h.ok 9 a (by omega)
  rw [h9, hk]
  exact ref_ok (d := .bl (!inD (e a) (xs.map e))) rfl (by rw [inD_map]; rfl)
/-! None -/
class NN {α : Type} (e : α → D) : Prop where
  nn : ∀ a, e a ≠ .non
instance : NN eI := ⟨fun _ h => nomatch h⟩
instance : NN eB := ⟨fun _ h => nomatch h⟩
instance : NN eS := ⟨fun _ h => nomatch h⟩
instance : NN pr := ⟨fun _ h => nomatch h⟩
instance : NN eKl := ⟨fun _ h => nomatch h⟩
instance : NN (eL e) := ⟨fun _ h => nomatch h⟩
instance : NN (eV e) := ⟨fun _ h => nomatch h⟩
instance : NN (eP ea eb) := ⟨fun _ h => nomatch h⟩
instance {δ : Type} {ed : δ → D} : NN (eP3 ea eb ed) := ⟨fun _ h => nomatch h⟩
instance {δ : Type} {ed : δ → D} {ε : Type} {ee : ε → D} : NN (eP4 ea eb ed ee) := ⟨fun _ h => nomatch h⟩
theorem frz_non_iff {x : D} : (match x with | .non => true | _ => false) = (match x.frz with | .non => true | _ => false) := by cases x <;> rfl
theorem o_isN [h : NN e] : Op2 false gIsN (eO e) eU (fun a _ => .ok a.isNone) eB := fun a b x y hx hy => by
  rw [inv_non hy]
  cases a with
  | none => rw [inv_non hx]; exact ref_ok rfl rfl
  | some a =>
    have : x ≠ .non := fun z => by subst z; exact h.nn a hx.symm
    refine ref_ok (d := .bl false) ?_ rfl
    cases x <;> first | rfl | exact absurd rfl this
theorem o_niN [h : NN e] : Op2 false gIsnN (eO e) eU (fun a _ => .ok a.isSome) eB := fun a b x y hx hy => by
  rw [inv_non hy]
  cases a with
  | none => rw [inv_non hx]; exact ref_ok rfl rfl
  | some a =>
    have : x ≠ .non := fun z => by subst z; exact h.nn a hx.symm
    refine ref_ok (d := .bl true) ?_ rfl
    cases x <;> first | rfl | exact absurd rfl this
theorem o_isNn [h : NN e] : Op2 false gIsN e eU (fun _ _ => .ok false) eB := fun a b x y hx hy => by
  rw [inv_non hy]
  have : x ≠ .non := fun z => by subst z; exact h.nn a hx.symm
  refine ref_ok (d := .bl false) ?_ rfl
  cases x <;> first | rfl | exact absurd rfl this
theorem o_niNn [h : NN e] : Op2 false gIsnN e eU (fun _ _ => .ok true) eB := fun a b x y hx hy => by
  rw [inv_non hy]
  have : x ≠ .non := fun z => by subst z; exact h.nn a hx.symm
  refine ref_ok (d := .bl true) ?_ rfl
  cases x <;> first | rfl | exact absurd rfl this
/-! kinds -/
theorem gIsi_frz (c : String) (x : D) : gIsi c x.frz = gIsi c x := by cases x <;> rfl
theorem o_isi {c : String} {b : Bool} (h : ∀ a, gIsi c (e a) = some (.bl b)) : Op1 false (gIsi c) e (fun _ => .ok b) eB := fun a x hx => by
  rw [← gIsi_frz, hx, h]
  exact ref_ok rfl rfl
theorem o_isiO {c : String} {b : Bool} (h : ∀ a, gIsi c (e a) = some (.bl b)) (hn : gIsi c .non = some (.bl false)) : Op1 false (gIsi c) (eO e) (fun a => .ok (if a.isSome then b else false)) eB := fun a x hx => by
  rw [← gIsi_frz, hx]
  cases a with
  | none => exact ref_ok (by rw [show eO e none = D.non from rfl, hn]; rfl) rfl
  | some a => exact ref_ok (by rw [show eO e (some a) = e a from rfl, h]; rfl) rfl
/-! order of corners -/
def ltP (p q : Int × Int) : Bool := decide (p.1 < q.1 ∨ (p.1 = q.1 ∧ p.2 < q.2))
theorem o_ltP : Op2 false gLt pr pr (fun p q => .ok (ltP p q)) eB := fun p q x y hx hy => by
  rw [inv_val (e := pr) hx, inv_val (e := pr) hy, gLt_pr]
  refine ref_ok rfl ?_
  show D.bl _ = D.bl _
  congr 1
  unfold lexLt HT.lexLt ltP
  obtain ⟨a, b⟩ := p
  obtain ⟨c, d⟩ := q
  rw [Bool.eq_iff_iff]
  simp [HT.lexLt]
  split <;> omega
/-! items -/
theorem atI_map (f : α → β) (xs : List α) (i : Int) : atI (xs.map f) i = (atI xs i).map f := by
  unfold atI ixN
  rw [List.length_map]
  split
  · split <;> simp
  · split <;> simp
theorem atI_frz {ys : List D} {xs : List α} (h : frzL ys = xs.map e) (i : Int) : match atI xs i with
    | some a => ∃ d, atI ys i = some d ∧ d.frz = e a
    | none => True := by
  have h1 : (atI ys i).map D.frz = (atI xs i).map e := by
    rw [← atI_map, ← atI_map, ← frzL_map, h]
  cases hx : atI xs i with
  | none => trivial
  | some a =>
    rw [hx] at h1
    obtain ⟨d, h2, h3⟩ := Option.map_eq_some_iff.mp h1
    exact ⟨d, h2, h3⟩
theorem ref_at {ys : List D} {xs : List α} (h : frzL ys = xs.map e) (i : Int) : RefE false (ofO (atI ys i)) (ofO (atI xs i)) e := by
  have := atI_frz h i
  cases hx : atI xs i with
  | none => trivial
  | some a =>
    rw [hx] at this
    obtain ⟨d, h2, h3⟩ := this
    exact ref_ok (by rw [h2]; rfl) h3
theorem o_ixL : Op2 false gIxG (eL e) eI (fun xs i => ofO (atI xs i)) e := fun xs i x y hx hy => by
  obtain ⟨o, ys, rfl, h2⟩ := inv_lst hx
  rw [inv_int hy]
  exact ref_at h2 i
theorem o_ixV : Op2 false gIxG (eV e) eI (fun xs i => ofO (atI xs i)) e := fun xs i x y hx hy => by
  obtain ⟨ys, rfl, h2⟩ := inv_tup hx
  rw [inv_int hy]
  exact ref_at h2 i
theorem o_ixK : Op2 false gIxG eKl eI (fun xs i => ofO (atI xs i)) eI := fun xs i x y hx hy => by
  obtain ⟨ys, rfl, h2⟩ := inv_kl hx
  rw [inv_int hy]
  exact ref_at (e := eI) h2 i
theorem er_prj {Γ : List Sl} {fa fb : En → R D} {a : α} {k : Int} {c : α → β} (hp : ∀ a, ∃ ys : List D, ea a = .tup ys ∧ ∀ zs : List D, zs.length = ys.length → ∃ z, atI zs k = some z ∧ (zs.map D.frz = ys → z.frz = eb (c a))) (h1 : ER false Γ fa (.ok a) ea) (h2 : ER false Γ fb (.ok k) eI) : ER false Γ (e2 gIxG fa fb) (.ok (c a)) eb := ⟨fun ρ q => by
  obtain ⟨d, e1, e2', _⟩ := h1.run ρ q
  obtain ⟨d', e3, e4, _⟩ := h2.run ρ q
  unfold TL.e2
  rw [e1, R.bind_ok, e3, R.bind_ok, inv_int e4]
  obtain ⟨ys, hy, hz⟩ := hp a
  rw [hy] at e2'
  obtain ⟨zs, rfl, hl⟩ := inv_tup e2'
  obtain ⟨z, h3, h4⟩ := hz zs (by rw [← hl, frzL_map, List.length_map])
  exact ref_ok (d := z) (by rw [show gIxG (.tup zs) (.int k) = atI zs k from rfl, h3]; rfl) (h4 (by rw [← frzL_map]; exact hl))⟩
theorem er_prjM {Γ : List Sl} {fa fb : En → R D} {ta : R α} {k : Int} {c : α → β} (hp : ∀ a, ∃ ys : List D, ea a = .tup ys ∧ ∀ zs : List D, zs.length = ys.length → ∃ z, atI zs k = some z ∧ (zs.map D.frz = ys → z.frz = eb (c a))) (h1 : ER false Γ fa ta ea) (h2 : ER false Γ fb (.ok k) eI) : ER false Γ (e2 gIxG fa fb) (ta.bind fun a => .ok (c a)) eb := ⟨fun ρ q => by
  refine (h1.run ρ q).bind fun d a e2' _ => ?_
  obtain ⟨d', e3, e4, _⟩ := h2.run ρ q
  rw [e3, R.bind_ok, inv_int e4]
  obtain ⟨ys, hy, hz⟩ := hp a
  rw [hy] at e2'
  obtain ⟨zs, rfl, hl⟩ := inv_tup e2'
  obtain ⟨z, h3, h4⟩ := hz zs (by rw [← hl, frzL_map, List.length_map])
  exact ref_ok (d := z) (by rw [show gIxG (.tup zs) (.int k) = atI zs k from rfl, h3]; rfl) (h4 (by rw [← frzL_map]; exact hl))⟩
theorem one_frz {xs : List D} {d : D} (h : frzL xs = [d]) : ∃ x, xs = [x] ∧ x.frz = d := by
  cases xs with
  | nil => cases h
  | cons x r =>
    rw [frzL_cons] at h
    injection h with h1 h2
    cases r with
    | nil => exact ⟨x, rfl, h1⟩
    | cons _ _ => cases h2
theorem two_frz {xs : List D} {d d' : D} (h : frzL xs = [d, d']) : ∃ x y, xs = [x, y] ∧ x.frz = d ∧ y.frz = d' := by
  cases xs with
  | nil => cases h
  | cons x r =>
    rw [frzL_cons] at h
    injection h with h1 h2
    obtain ⟨y, rfl, h3⟩ := one_frz h2
    exact ⟨x, y, rfl, h1, h3⟩
theorem len_1 {zs : List D} (h : zs.length = 1) : ∃ a, zs = [a] := by
  match zs, h with
  | [a], _ => exact ⟨a, rfl⟩
theorem len_2 {zs : List D} (h : zs.length = 2) : ∃ a b, zs = [a, b] := by
  match zs, h with
  | [a, b], _ => exact ⟨a, b, rfl⟩
theorem len_3 {zs : List D} (h : zs.length = 3) : ∃ a b c, zs = [a, b, c] := by
  match zs, h with
  | [a, b, c], _ => exact ⟨a, b, c, rfl⟩
theorem len_4 {zs : List D} (h : zs.length = 4) : ∃ a b c d, zs = [a, b, c, d] := by
  match zs, h with
  | [a, b, c, d], _ => exact ⟨a, b, c, d, rfl⟩
theorem len_5 {zs : List D} (h : zs.length = 5) : ∃ a b c d e, zs = [a, b, c, d, e] := by
  match zs, h with
  | [a, b, c, d, e], _ => exact ⟨a, b, c, d, e, rfl⟩
/-! sizes -/
theorem gLen_l (o : Bool) (ys : List D) : gLen [.lst o ys] = some (.int ys.length) := rfl
theorem o_lenL : OpN false gLen (fun p : List α × Unit => eL e p.1 :: (fun _ => []) p.2) (fun p => .ok (p.1.length : Int)) eI := fun a xs h => by
  obtain ⟨x, rfl, hh⟩ := one_frz h
  · replace h := hh
    obtain ⟨o, ys, rfl, h2⟩ := inv_lst h
    have := congrArg List.length h2
    rw [frzL_map, List.length_map, List.length_map] at this
    exact ref_ok (d := .int ys.length) rfl (by rw [this]; rfl)
theorem o_lenV : OpN false gLen (fun p : List α × Unit => eV e p.1 :: (fun _ => []) p.2) (fun p => .ok (p.1.length : Int)) eI := fun a xs h => by
  obtain ⟨x, rfl, hh⟩ := one_frz h
  · replace h := hh
    obtain ⟨ys, rfl, h2⟩ := inv_tup h
    have := congrArg List.length h2
    rw [frzL_map, List.length_map, List.length_map] at this
    exact ref_ok (d := .int ys.length) rfl (by rw [this]; rfl)
theorem o_lenK : OpN false gLen (fun p : List Int × Unit => eKl p.1 :: (fun _ => []) p.2) (fun p => .ok (p.1.length : Int)) eI := fun a xs h => by
  obtain ⟨x, rfl, hh⟩ := one_frz h
  · replace h := hh
    obtain ⟨ys, rfl, h2⟩ := inv_kl h
    have := congrArg List.length h2
    rw [frzL_map, List.length_map, List.length_map] at this
    exact ref_ok (d := .int ys.length) rfl (by rw [this]; rfl)
def lenS (x : Str) : R Int := if x.length ≤ 16777216 then .ok x.length else .stuck
theorem o_lenS : OpN false gLen (fun p : Str × Unit => eS p.1 :: (fun _ => []) p.2) (fun p => lenS p.1) eI := fun a xs h => by
  rw [show xs = [.str a.1] from inv_valL (e := eS) (xs := [a.1]) h]
  show RefE false (ofO (if a.1.length ≤ 16777216 then some (.int a.1.length) else none)) (lenS a.1) eI
  unfold lenS
  split
  · exact ref_ok rfl rfl
  · trivial
/-! making -/
theorem frzL_len {ys : List D} {n : Nat} {zs : List D} (h : frzL ys = zs) (hn : zs.length = n) : ys.length = n := by
  have := congrArg List.length h
  rw [frzL_map, List.length_map] at this
  omega
theorem o_tup {es : α → List D} (n : Nat) (hn : ∀ a, (es a).length = n) (hm : n ≤ 1000) {c : α → β} (hc : ∀ a, eb (c a) = .tup (es a)) : OpN false mkTup es (fun a => .ok (c a)) eb := fun a xs h => by
  have hl := frzL_len h rfl
  have := hn a
  rw [mkTup_some (by omega)]
  exact ref_ok rfl (by rw [frz_tup, h, hc])
theorem o_lst {es : α → List D} (n : Nat) (hn : ∀ a, (es a).length = n) (hm : n ≤ 1000) {c : α → β} (hc : ∀ a, eb (c a) = .lst false (es a)) : OpN true mkLst es (fun a => .ok (c a)) eb := fun a xs h => by
  have hl := frzL_len h rfl
  have := hn a
  rw [mkLst_some (by omega)]
  exact ref_own rfl (by rw [frz_lst, h, hc]) rfl
theorem o_listL : OpN true gListOf (fun p : List α × Unit => eL e p.1 :: (fun _ => []) p.2) (fun p => .ok p.1) (eL e) := fun a xs h => by
  obtain ⟨x, rfl, hh⟩ := one_frz h
  · replace h := hh
    obtain ⟨o, ys, rfl, h2⟩ := inv_lst h
    exact ref_own (d := .lst true ys) rfl (by rw [frz_lst, h2]; rfl) rfl
theorem o_listV : OpN true gListOf (fun p : List α × Unit => eV e p.1 :: (fun _ => []) p.2) (fun p => .ok p.1) (eL e) := fun a xs h => by
  obtain ⟨x, rfl, hh⟩ := one_frz h
  · replace h := hh
    obtain ⟨ys, rfl, h2⟩ := inv_tup h
    exact ref_own (d := .lst true ys) rfl (by rw [frz_lst, h2]; rfl) rfl
theorem o_listK : OpN true gListOf (fun p : List Int × Unit => eKl p.1 :: (fun _ => []) p.2) (fun p => .ok p.1) (eL eI) := fun a xs h => by
  obtain ⟨x, rfl, hh⟩ := one_frz h
  · replace h := hh
    obtain ⟨ys, rfl, h2⟩ := inv_kl h
    exact ref_own (d := .lst true ys) rfl (by rw [frz_lst, h2]; rfl) rfl
theorem o_tupL : OpN false gTupOf (fun p : List α × Unit => eL e p.1 :: (fun _ => []) p.2) (fun p => .ok p.1) (eV e) := fun a xs h => by
  obtain ⟨x, rfl, hh⟩ := one_frz h
  · replace h := hh
    obtain ⟨o, ys, rfl, h2⟩ := inv_lst h
    exact ref_ok (d := .tup ys) rfl (by rw [frz_tup, h2]; rfl)
theorem o_tupV : OpN false gTupOf (fun p : List α × Unit => eV e p.1 :: (fun _ => []) p.2) (fun p => .ok p.1) (eV e) := fun a xs h => by
  obtain ⟨x, rfl, hh⟩ := one_frz h
  · replace h := hh
    obtain ⟨ys, rfl, h2⟩ := inv_tup h
    exact ref_ok (d := .tup ys) rfl (by rw [frz_tup, h2]; rfl)
theorem o_revL : Op1 true gRevL (eL e) (fun xs => .ok xs.reverse) (eL e) := fun xs x hx => by
  obtain ⟨o, ys, rfl, h2⟩ := inv_lst hx
  exact ref_own (d := .lst true ys.reverse) rfl (by rw [frz_lst, frzL_reverse, h2, ← List.map_reverse]; rfl) rfl
def catR (xs ys : List α) : R (List α) := if xs.length + ys.length ≤ 16777216 then .ok (xs ++ ys) else .stuck
theorem o_cat : Op2 true gAdd (eL e) (eL e) catR (eL e) := fun xs ys x y hx hy => by
  obtain ⟨o, zs, rfl, h2⟩ := inv_lst hx
  obtain ⟨p, ws, rfl, h3⟩ := inv_lst hy
  have l1 := frzL_len h2 (List.length_map ..)
  have l2 := frzL_len h3 (List.length_map ..)
  unfold catR
  split
  · rename_i h
    rw [gAdd_lst (by omega)]
    exact ref_own rfl (by rw [frz_lst, frzL_append, h2, h3, ← List.map_append]; rfl) rfl
  · trivial
def catV (xs ys : List α) : R (List α) := if xs ≠ [] ∧ ys ≠ [] ∧ xs.length + ys.length ≤ 16777216 then .ok (xs ++ ys) else .stuck
theorem gAdd_tup {xs ys : List D} (h : xs ≠ [] ∧ ys ≠ [] ∧ xs.length + ys.length ≤ 16777216) : gAdd (.tup xs) (.tup ys) = some (.tup (xs ++ ys)) := by
  match xs, ys, h with
  | x :: xs, y :: ys, h => exact if_pos (by simp only [List.length_cons] at h; omega)
theorem o_catV : Op2 false gAdd (eV e) (eV e) catV (eV e) := fun xs ys x y hx hy => by
  obtain ⟨zs, rfl, h2⟩ := inv_tup hx
  obtain ⟨ws, rfl, h3⟩ := inv_tup hy
  have l1 := frzL_len h2 (List.length_map ..)
  have l2 := frzL_len h3 (List.length_map ..)
  unfold catV
  split
  · rename_i h
    have ne : zs ≠ [] ∧ ws ≠ [] := by
      constructor
      · intro z; subst z; exact h.1 (List.length_eq_zero_iff.mp l1.symm)
      · intro z; subst z; exact h.2.1 (List.length_eq_zero_iff.mp l2.symm)
    rw [gAdd_tup ⟨ne.1, ne.2, by omega⟩]
    exact ref_ok rfl (by rw [frz_tup, frzL_append, h2, h3, ← List.map_append]; rfl)
  · trivial
def catS (x y : Str) : R Str := if x.length + y.length ≤ 16777216 then .ok (x ++ y) else .stuck
theorem o_catS : Op2 false gAdd eS eS catS eS := fun i j x y hx hy => by
  rw [inv_str hx, inv_str hy]
  unfold catS
  split
  · rename_i h; exact ref_ok (d := .str (i ++ j)) (by rw [show gAdd (.str i) (.str j) = some (.str (i ++ j)) from if_pos h]; rfl) rfl
  · trivial
def repR (xs : List α) (k : Int) : R (List α) := if -(2 ^ 62) < k ∧ k < 2 ^ 62 ∧ xs.length * k.toNat ≤ 16777216 then .ok (List.replicate k.toNat xs).flatten else .stuck
theorem er_rep {Γ : List Sl} {fa fb : En → R D} {ta : R (List α)} {tb : R Int} [hv : Vl e] (h1 : ER true Γ fa ta (eL e)) (h2 : ER false Γ fb tb eI) : ER true Γ (e2 gMul fa fb) (ta.bind fun a => tb.bind fun b => repR a b) (eL e) := ⟨fun ρ q => by
  refine (h1.run ρ q).bind fun d xs hd ho => (h2.run ρ q).bind fun d' k hk _ => ?_
  rw [own_clean hd (ho rfl), inv_int hk]
  unfold repR
  split
  · rename_i h
    rw [gMul_lst (valL_map xs) (by rw [List.length_map]; exact h)]
    refine ref_own rfl ?_ rfl
    show D.lst false (frzL (repL k.toNat (xs.map e))) = D.lst false _
    have : repL k.toNat (xs.map e) = (List.replicate k.toNat xs).flatten.map e := by
      unfold repL
      rw [List.map_flatten, List.map_replicate]
    rw [this, frzL_mapE]
  · trivial⟩
/-! slices -/
structure OR (Γ : List Sl) (f : En → R (Option Int)) (t : R (Option Int)) : Prop where
  run : ∀ ρ, Fits Γ ρ → RefB (f ρ) t
theorem or_none {Γ : List Sl} : OR Γ oNone (.ok none) := ⟨fun _ _ => rfl⟩
theorem or_some {Γ : List Sl} {f : En → R D} {i : Int} (h : ER false Γ f (.ok i) eI) : OR Γ (oSome f) (.ok (some i)) := ⟨fun ρ q => by
  obtain ⟨d, h1, h2, _⟩ := h.run ρ q
  rw [oSome_app, h1, inv_int h2]
  exact rfl⟩
theorem or_someM {Γ : List Sl} {f : En → R D} {t : R Int} (h : ER false Γ f t eI) : OR Γ (oSome f) (t.bind fun i => .ok (some i)) := ⟨fun ρ q => by
  have := h.run ρ q
  rw [oSome_app]
  cases t with
  | ok i => obtain ⟨d, h1, h2, _⟩ := this; rw [h1, inv_int h2]; exact rfl
  | exc C fs => rw [show f ρ = _ from this]; exact rfl
  | stuck => trivial⟩
theorem cutL_map (f : α → β) (xs : List α) (lo hi : Option Int) : cutL (xs.map f) lo hi = (cutL xs lo hi).map f := by
  unfold cutL
  rw [List.length_map, List.map_take, List.map_drop]
theorem er_slL {Γ : List Sl} {f : En → R D} {lo hi : En → R (Option Int)} {t : R (List α)} {tl th : R (Option Int)} [hv : Vl e] (h : ER false Γ f t (eL e)) (hl : OR Γ lo tl) (hh : OR Γ hi th) : ER true Γ (eSl f lo hi) (t.bind fun xs => tl.bind fun l => th.bind fun h => .ok (cutL xs l h)) (eL e) := ⟨fun ρ q => by
  refine (h.run ρ q).bind fun d xs hd _ => ?_
  have h1 := hl.run ρ q
  have h2 := hh.run ρ q
  cases tl with
  | ok l =>
    rw [show lo ρ = .ok l from h1]
    cases th with
    | ok h =>
      rw [show hi ρ = .ok h from h2]
      obtain ⟨o, ys, rfl, h3⟩ := inv_lst hd
      have := inv_valL h3
      subst this
      refine ref_own (d := .lst true ((cutL xs l h).map e)) ?_ (by rw [frz_lst, frzL_mapE]; rfl) rfl
      show ofO (if valL (xs.map e) then some (D.lst true (cutD (xs.map e) l h)) else none) = _
      rw [if_pos (valL_map xs), cut_map]
      rfl
    | exc C fs => rw [show hi ρ = _ from h2]; exact rfl
    | stuck => trivial
  | exc C fs => rw [show lo ρ = _ from h1]; exact rfl
  | stuck => trivial⟩
theorem er_slV {Γ : List Sl} {f : En → R D} {lo hi : En → R (Option Int)} {t : R (List α)} {tl th : R (Option Int)} [hv : Vl e] (h : ER false Γ f t (eV e)) (hl : OR Γ lo tl) (hh : OR Γ hi th) : ER false Γ (eSl f lo hi) (t.bind fun xs => tl.bind fun l => th.bind fun h => .ok (cutL xs l h)) (eV e) := ⟨fun ρ q => by
  refine (h.run ρ q).bind fun d xs hd _ => ?_
  have h1 := hl.run ρ q
  have h2 := hh.run ρ q
  cases tl with
  | ok l =>
    rw [show lo ρ = .ok l from h1]
    cases th with
    | ok h =>
      rw [show hi ρ = .ok h from h2]
      obtain ⟨ys, rfl, h3⟩ := inv_tup hd
      have := inv_valL h3
      subst this
      refine ref_ok (d := .tup ((cutL xs l h).map e)) ?_ (by rw [frz_tup, frzL_mapE]; rfl)
      show ofO (if valL (xs.map e) then some (D.tup (cutD (xs.map e) l h)) else none) = _
      rw [if_pos (valL_map xs), cut_map]
      rfl
    | exc C fs => rw [show hi ρ = _ from h2]; exact rfl
    | stuck => trivial
  | exc C fs => rw [show lo ρ = _ from h1]; exact rfl
  | stuck => trivial⟩
theorem er_slLp {Γ : List Sl} {f : En → R D} {lo hi : En → R (Option Int)} {xs : List α} {l h : Option Int} [hv : Vl e] (h1 : ER false Γ f (.ok xs) (eL e)) (hl : OR Γ lo (.ok l)) (hh : OR Γ hi (.ok h)) : ER true Γ (eSl f lo hi) (.ok (cutL xs l h)) (eL e) := er_slL h1 hl hh
theorem er_slVp {Γ : List Sl} {f : En → R D} {lo hi : En → R (Option Int)} {xs : List α} {l h : Option Int} [hv : Vl e] (h1 : ER false Γ f (.ok xs) (eV e)) (hl : OR Γ lo (.ok l)) (hh : OR Γ hi (.ok h)) : ER false Γ (eSl f lo hi) (.ok (cutL xs l h)) (eV e) := er_slV h1 hl hh
/-! sorted -/
theorem intsOf_map (ns : List Int) : intsOf (ns.map D.int) = some ns := by
  induction ns with
  | nil => rfl
  | cons i r ih => show (intsOf (r.map D.int)).map (i :: ·) = _; rw [ih]; rfl
theorem o_sortI : OpN true gSortedG (fun p : List Int × Unit => eL eI p.1 :: (fun _ => []) p.2) (fun p => .ok (srtI p.1)) (eL eI) := fun a xs h => by
  obtain ⟨x, rfl, hh⟩ := one_frz h
  · replace h := hh
    obtain ⟨o, ys, rfl, h2⟩ := inv_lst h
    have := inv_valL h2
    subst this
    refine ref_own (d := .lst true ((srtI a.1).map D.int)) ?_ (by rw [frz_lst, ints_frz]; rfl) rfl
    show ofO (match intsOf (a.1.map D.int) with
      | some ns => some (D.lst true ((srtI ns).map D.int))
      | none => (pairsD (a.1.map D.int)).map fun qs => D.lst true ((srtP qs).map prD)) = _
    rw [intsOf_map]
    rfl
theorem o_sortP : OpN true gSortedG (fun p : List (Int × Int) × Unit => eL pr p.1 :: (fun _ => []) p.2) (fun p => .ok (srtP p.1)) (eL pr) := fun a xs h => by
  obtain ⟨x, rfl, hh⟩ := one_frz h
  · replace h := hh
    obtain ⟨o, ys, rfl, h2⟩ := inv_lst h
    have := inv_valL h2
    subst this
    rw [gSortedG_pr]
    exact ref_own rfl (by rw [frz_lst, prs_frz]; rfl) rfl
def setSrtR (ps : List (Int × Int)) : R (List (Int × Int)) := if ps.length < 64 then .ok (srtP (ddP ps)) else .stuck
theorem o_setSrt : OpN true gSortedSet (fun p : List (Int × Int) × Unit => eL pr p.1 :: (fun _ => []) p.2) (fun p => setSrtR p.1) (eL pr) := fun a xs h => by
  obtain ⟨x, rfl, hh⟩ := one_frz h
  · replace h := hh
    obtain ⟨o, ys, rfl, h2⟩ := inv_lst h
    have := inv_valL h2
    subst this
    show RefE true _ (setSrtR a.1) _
    unfold setSrtR
    split
    · rename_i h; rw [gSortedSet_pr h]; exact ref_own rfl (by rw [frz_lst, prs_frz]; rfl) rfl
    · trivial
/-! places -/
def posT {n : Nat} (e : α → D) [DecidableEq α] [h : EqE e n] (a : α) : List α → Option Nat
  | [] => none
  | b :: r => if eqT e b a then some 0 else (posT e a r).map (· + 1)
def idxR {n : Nat} (e : α → D) [DecidableEq α] [h : EqE e n] (xs : List α) (a : α) : R Int := ofO ((posT e a xs).map fun (k : Nat) => (k : Int))
theorem posD_frz (x : D) : ∀ ys : List D, posD x.frz (frzL ys) = posD x ys
  | [] => rfl
  | y :: r => by
    show (if eqD y.frz x.frz then some 0 else (posD x.frz (frzL r)).map (· + 1)) = if eqD y x then some 0 else (posD x r).map (· + 1)
    rw [← eqD_frz, posD_frz x r]
theorem posD_map {n : Nat} [DecidableEq α] [h : EqE e n] (a : α) : ∀ xs : List α, posD (e a) (xs.map e) = posT e a xs
  | [] => rfl
  | b :: r => by
    show (if eqD (e b) (e a) then some 0 else (posD (e a) (r.map e)).map (· + 1)) = if eqT e b a then some 0 else (posT e a r).map (· + 1)
    rw [h.eq, posD_map a r]
theorem er_idx {Γ : List Sl} {fe : En → R D} {fs : En → R (List D)} {t : R (List α)} {ts : R (α × Unit)} {n : Nat} [DecidableEq α] [h : EqE e n] (hn : n ≤ 8) (h1 : ER false Γ fe t (eL e)) (h2 : EA Γ fs ts (fun p => e p.1 :: (fun _ => []) p.2)) : ER false Γ (eBM "list" gIndex fe fs) (t.bind fun xs => ts.bind fun a => idxR e xs a.1) eI := ⟨fun ρ q => by
  refine (h1.run ρ q).bind fun d xs hd _ => ?_
  have h3 := h2.run ρ q
  obtain ⟨o, ys, rfl, h4⟩ := inv_lst hd
  rw [tyR_lst, if_pos (by rfl)]
  cases ts with
  | ok a =>
    obtain ⟨ds, e1, e2⟩ := h3
    rw [e1]
    obtain ⟨x, rfl, hh⟩ := one_frz e2
    · replace e2 := hh
      rw [R.bind_ok, R.bind_ok]
      unfold idxR
      have k1 : okN 9 x = true := by rw [← okN_frz, e2]; exact h.ok 9 _ (by omega)
      have k2 : okN 9 (.lst true ys) = true := by
        show okNL 8 ys = true
        rw [← okNL_frz, h4]
        exact okNL_map (n := n) (fun a => h.ok 8 a hn) xs
      have k3 : gIndex (.lst o ys) [x] = (posT e a.1 xs).map fun (j : Nat) => D.int (j : Int) := by
        show (if okN 9 x && okN 9 (.lst true ys) then (posD x ys).map fun (j : Nat) => D.int (j : Int) else none) = _
        rw [k1, k2, ← posD_frz, e2, h4, posD_map]
        rfl
      rw [k3]
      cases posT e a.1 xs with
      | none => trivial
      | some k => exact ref_ok rfl rfl
  | exc C fl => rw [show fs ρ = _ from h3]; exact rfl
  | stuck => trivial⟩
/-! chains -/
theorem er_ch {Γ : List Sl} {fa fb fc : En → R D} {g g' : D → D → Option D} {a b c : Int} {p q : Int → Int → Bool} (h1 : Op2 false g eI eI (fun i j => .ok (p i j)) eB) (h2 : Op2 false g' eI eI (fun i j => .ok (q i j)) eB) (ha : ER false Γ fa (.ok a) eI) (hb : ER false Γ fb (.ok b) eI) (hc : ER false Γ fc (.ok c) eI) : ER false Γ (eCh g g' fa fb fc) (.ok (p a b && q b c)) eB := ⟨fun ρ k => by
  obtain ⟨x, e1, e2, _⟩ := ha.run ρ k
  obtain ⟨y, e3, e4, _⟩ := hb.run ρ k
  obtain ⟨z, e5, e6, _⟩ := hc.run ρ k
  rw [eCh_app, e1, e3, R.bind_ok, R.bind_ok, inv_int e2, inv_int e4, chK_int]
  obtain ⟨d, e7, e8, _⟩ := h1 a b (.int a) (.int b) rfl rfl
  rw [e7, R.bind_ok, inv_bl e8, asB_bl, R.bind_ok]
  cases hp : p a b with
  | false => exact ref_ok rfl rfl
  | true =>
    rw [if_pos rfl, e5, R.bind_ok, inv_int e6]
    exact h2 b c (.int b) (.int c) rfl rfl⟩
theorem er_chM {Γ : List Sl} {fa fb fc : En → R D} {g g' : D → D → Option D} {ta tb tc : R Int} {p q : Int → Int → Bool} (h1 : Op2 false g eI eI (fun i j => .ok (p i j)) eB) (h2 : Op2 false g' eI eI (fun i j => .ok (q i j)) eB) (ha : ER false Γ fa ta eI) (hb : ER false Γ fb tb eI) (hc : ER false Γ fc tc eI) : ER false Γ (eCh g g' fa fb fc) (ta.bind fun a => tb.bind fun b => if p a b then tc.bind fun c => .ok (q b c) else .ok false) eB := ⟨fun ρ k => by
  refine (ha.run ρ k).bind fun x a e2 _ => (hb.run ρ k).bind fun y b e4 _ => ?_
  rw [inv_int e2, inv_int e4, chK_int]
  obtain ⟨d, e7, e8, _⟩ := h1 a b (.int a) (.int b) rfl rfl
  rw [e7, R.bind_ok, inv_bl e8, asB_bl, R.bind_ok]
  cases hp : p a b with
  | false => exact ref_ok rfl rfl
  | true =>
    rw [if_pos rfl, if_pos rfl]
    refine (hc.run ρ k).bind fun z c e6 _ => ?_
    rw [inv_int e6]
    exact h2 b c (.int b) (.int c) rfl rfl⟩
/-! changes -/
def appR (xs : List α) (p : α × Unit) : R (List α) := if xs.length < 16777216 then .ok (xs ++ [p.1]) else .stuck
theorem m_app : MutU gAppend (eL e) (fun p : α × Unit => e p.1 :: (fun _ => []) p.2) appR (eL e) := fun xs p x ys hx ho hy => by
  obtain ⟨y, rfl, hh⟩ := one_frz hy
  · replace hy := hh
    obtain ⟨o, zs, rfl, h2⟩ := inv_lst hx
    cases o with
    | false => cases ho
    | true =>
      have hl := frzL_len h2 (List.length_map ..)
      unfold appR
      split
      · rename_i h
        split at h
        · cases h
          refine ⟨_, _, gAppend_lst (by omega), ?_, rfl⟩
          show D.lst false _ = D.lst false ((xs ++ [p.1]).map e)
          rw [frzL_append, h2, frzL_cons, hy, List.map_append]
          rfl
        · cases h
      · rename_i h
        split at h <;> cases h
      · trivial
def insR (xs : List α) (p : Int × α × Unit) : R (List α) := if xs.length < 16777216 ∧ 0 ≤ p.1 ∧ p.1 < 2 ^ 62 then .ok (xs.take p.1.toNat ++ ([p.2.1] ++ xs.drop p.1.toNat)) else .stuck
theorem m_ins : MutU gInsert (eL e) (fun p : Int × α × Unit => eI p.1 :: (fun p : α × Unit => e p.1 :: (fun _ => []) p.2) p.2) insR (eL e) := fun xs p x ys hx ho hy => by
  obtain ⟨i, y, rfl, hi, hh⟩ := two_frz hy
  · replace hy := hh
    obtain ⟨o, zs, rfl, h2⟩ := inv_lst hx
    rw [inv_int hi]
    cases o with
    | false => cases ho
    | true =>
      have hl := frzL_len h2 (List.length_map ..)
      unfold insR
      split
      · rename_i h
        split at h
        · rename_i hc
          cases h
          refine ⟨.lst true (zs.take p.1.toNat ++ ([y] ++ zs.drop p.1.toNat)), _, if_pos ⟨by omega, hc.2⟩, ?_, rfl⟩
          rw [frz_lst, frzL_append, frzL_append, frzL_cons, hy]
          simp only [frzL_map, List.map_take, List.map_drop] at h2 ⊢
          rw [h2]
          simp [eL]
        · cases h
      · rename_i h
        split at h <;> cases h
      · trivial
def extR (xs : List α) (p : List α × Unit) : R (List α) := if xs.length + p.1.length ≤ 16777216 then .ok (xs ++ p.1) else .stuck
theorem m_ext : MutU gExtend (eL e) (fun p : List α × Unit => eL e p.1 :: (fun _ => []) p.2) extR (eL e) := fun xs p x ys hx ho hy => by
  obtain ⟨y, rfl, hh⟩ := one_frz hy
  · replace hy := hh
    obtain ⟨o, zs, rfl, h2⟩ := inv_lst hx
    obtain ⟨o', ws, rfl, h3⟩ := inv_lst hy
    cases o with
    | false => cases ho
    | true =>
      have hl := frzL_len h2 (List.length_map ..)
      have hl2 := frzL_len h3 (List.length_map ..)
      unfold extR
      split
      · rename_i h
        split at h
        · cases h
          refine ⟨.lst true (zs ++ ws), _, if_pos (by omega), ?_, rfl⟩
          rw [frz_lst, frzL_append, h2, h3, ← List.map_append]
          rfl
        · cases h
      · rename_i h
        split at h <;> cases h
      · trivial
theorem m_clear : MutU gClear (eL e) (fun _ : Unit => []) (fun _ _ => .ok ([] : List α)) (eL e) := fun xs p x ys hx ho hy => by
  obtain ⟨o, zs, rfl, h2⟩ := inv_lst hx
  match ys, hy with
  | [], _ =>
    cases o with
    | false => cases ho
    | true => exact ⟨.lst true [], .non, rfl, rfl, rfl⟩
theorem m_rev [hv : Vl e] : MutU gReverse (eL e) (fun _ : Unit => []) (fun xs _ => .ok xs.reverse) (eL e) := fun xs p x ys hx ho hy => by
  obtain ⟨o, zs, rfl, h2⟩ := inv_lst hx
  have := inv_valL h2
  subst this
  match ys, hy with
  | [], _ =>
    cases o with
    | false => cases ho
    | true => exact ⟨.lst true (xs.map e).reverse, .non, if_pos (valL_map xs), by rw [frz_lst, frzL_reverse, frzL_mapE, ← List.map_reverse]; rfl, rfl⟩
def popR (xs : List α) (_ : Unit) : R (List α × α) := match xs.getLast? with
  | some a => .ok (xs.dropLast, a)
  | none => .stuck
theorem m_pop : Mut gPop (eL e) (fun _ : Unit => []) popR (eL e) e := fun xs p x ys hx ho hy => by
  obtain ⟨o, zs, rfl, h2⟩ := inv_lst hx
  match ys, hy with
  | [], _ =>
    cases o with
    | false => cases ho
    | true =>
      unfold popR
      cases hg : xs.getLast? with
      | none => trivial
      | some a =>
        have hm : (zs.map D.frz).getLast? = (xs.map e).getLast? := by rw [← frzL_map, h2]
        rw [List.getLast?_map, List.getLast?_map, hg] at hm
        obtain ⟨d, h3, h4⟩ := Option.map_eq_some_iff.mp hm
        refine ⟨.lst true zs.dropLast, d, ?_, ?_, rfl, h4⟩
        · show (zs.getLast?).map _ = _
          rw [h3]
          rfl
        · show D.lst false _ = D.lst false (xs.dropLast.map e)
          rw [frzL_map, List.map_dropLast, ← frzL_map, h2, List.map_dropLast]
def setR (xs : List α) (p : α × Int × Unit) : R (List α) := ofO ((ixN xs.length p.2.1).map fun j => xs.set j p.1)
theorem m_set : MutU gStoreL (eL e) (fun p : α × Int × Unit => e p.1 :: (fun p : Int × Unit => eI p.1 :: (fun _ => []) p.2) p.2) setR (eL e) := fun xs p x ys hx ho hy => by
  obtain ⟨y, i, rfl, hh, hi⟩ := two_frz hy
  · replace hy := hh
    obtain ⟨o, zs, rfl, h2⟩ := inv_lst hx
    rw [inv_int hi]
    cases o with
    | false => cases ho
    | true =>
      have hl := frzL_len h2 (List.length_map ..)
      unfold setR
      cases hj : ixN xs.length p.2.1 with
      | none => trivial
      | some j =>
        refine ⟨.lst true (zs.set j y), .non, ?_, ?_, rfl⟩
        · show (ixN zs.length p.2.1).map _ = _
          rw [hl, hj]
          rfl
        · rw [frz_lst, frzL_map, List.map_set, ← frzL_map, h2, hy, ← List.map_set]
          rfl
end
/-- x.pop() with a name -/
theorem br_mutSet {α β γ δ τ : Type} {Z : Out → τ → Prop} {k : En → Out} {Γ : List Sl} {S : List Nat} {T : String} {j i : Nat} {m : D → List D → Option (D × D)} {fs : En → R (List D)} {ts : R β} {ea : α → D} {es : β → List D} {op : α → β → R (γ × δ)} {ec : γ → D} {ed : δ → D} {a : α} {tk : γ × δ → R τ} {Γ' : γ × δ → List Sl}
    (hm : Mut m ea es op ec ed) (hty : ∀ x : D, x.frz = ea a → ownT x = true → tyD T x = true) (hi : Γ[i]? = some (.o (ea a))) (hs : EA Γ fs ts es) (hv : ∀ b, valL (es b) = true) (hj : j < Γ.length) (hG : ∀ c, Γ' c = (Γ.set i (.o (ec c.1))).set j (.w (ed c.2))) (hk : ∀ c, BR (Γ' c) k (tk c) Z) :
    BR Γ (sSeq (sMutSet T j i S m fs) k) (ts.bind fun b => (op a b).bind tk) Z := ⟨fun ρ q => by
  obtain ⟨y, h1, h2, h3⟩ := q.getO hi
  have hq := hs.run ρ q
  have eM : sMutSet T j i S m fs ρ = mutAt T i S m fs (fun ρ d => if j < ρ.length then .nx (ρ.set j (some d)) else .stuck) ρ ρ[i]? := by
    unfold sMutSet sMutK mutAt mutRes
    cases ρ[i]? with | none => rfl | some x => cases x <;> rfl
  rw [sSeq_app, eM, h1, mutAt_some, if_pos (hty y h2 h3)]
  cases ts with
  | ok b =>
    obtain ⟨ds, e1, e2⟩ := hq
    have e2' : ds = es b := by rw [← e2]; exact (frzL_val (by rw [e2]; exact hv b)).symm
    have hc : cleanL ds = true := by rw [e2']; exact (valL_frz (hv b)).2
    rw [e1, lift_ok, hc]
    simp only [Bool.true_or, if_true]
    have := hm a b y ds h2 h3 e2
    show RefO _ ((op a b).bind _) Z
    cases eo : op a b with
    | ok c =>
      rw [eo] at this
      obtain ⟨x', r, e3, e4, e5, e6⟩ := this
      rw [e3]
      have q1 : Fits (Γ.set i (.o (ec c.1))) (ρ.set i (some x')) := q.set ⟨x', rfl, e4, e5⟩
      rw [mutRes_some, if_pos (by rw [← q1.len, List.length_set]; exact hj)]
      refine (hk c).run _ ?_
      rw [hG]
      exact q1.set ⟨r, rfl, e6⟩
    | exc C fs => rw [eo] at this; exact this.elim
    | stuck => trivial
  | exc C fl => rw [show fs ρ = _ from hq]; exact ⟨ρ, rfl⟩
  | stuck => trivial⟩
end TL
/-! Y4: the same rules in the shapes that ygen.py prints -/
namespace TL
open PySem PySem.Spec PyProof.Rows L2
section
variable {α β γ δ ε σ τ : Type} {o : Bool} {Γ : List Sl} {fa fb fc f : En → R D} {e ea : α → D} {eb : β → D} {ec : γ → D} {ed : δ → D} {ta : R α} {tb : R β} {a : α} {b : β}
theorem er_1m {g : D → Option D} {op : α → R β} (ho : Op1 o g ea op eb) (ha : ER false Γ fa (.ok a) ea) : ER o Γ (e1 g fa) (op a) eb := er_1 ho ha
theorem er_2m {g : D → D → Option D} {op : α → β → R γ} (ho : Op2 o g ea eb op ec) (ha : ER false Γ fa (.ok a) ea) (hb : ER false Γ fb (.ok b) eb) : ER o Γ (e2 g fa fb) (op a b) ec := er_2 ho ha hb
theorem er_2l {g : D → D → Option D} {op : α → β → R γ} (ho : Op2 o g ea eb op ec) (ha : ER false Γ fa ta ea) (hb : ER false Γ fb (.ok b) eb) : ER o Γ (e2 g fa fb) (ta.bind fun a => op a b) ec := er_2 ho ha hb
theorem er_2r {g : D → D → Option D} {op : α → β → R γ} (ho : Op2 o g ea eb op ec) (ha : ER false Γ fa (.ok a) ea) (hb : ER false Γ fb tb eb) : ER o Γ (e2 g fa fb) (tb.bind fun b => op a b) ec := er_2 ho ha hb
theorem er_Nm {g : List D → Option D} {fs : En → R (List D)} {es : α → List D} {op : α → R β} (ho : OpN o g es op eb) (ha : EA Γ fs (.ok a) es) : ER o Γ (eN g fs) (op a) eb := er_N ho ha
theorem ea_consl {fs : En → R (List D)} {es : β → List D} (ha : ER false Γ fa ta ea) (hb : EA Γ fs (.ok b) es) : EA Γ (eCons fa fs) (ta.bind fun a => .ok (a, b)) (fun p => ea p.1 :: es p.2) := ea_cons ha hb
theorem ea_consr {fs : En → R (List D)} {es : β → List D} (ha : ER false Γ fa (.ok a) ea) (hb : EA Γ fs tb es) : EA Γ (eCons fa fs) (tb.bind fun b => .ok (a, b)) (fun p => ea p.1 :: es p.2) := ea_cons ha hb
theorem er_unO {x : Option α} (h : ER o Γ f (.ok x) (eO ea)) : ER o Γ f (ofO x) ea := ER.unO h
theorem er_unOM {t : R (Option α)} (h : ER o Γ f t (eO ea)) : ER o Γ f (t.bind ofO) ea := ER.unO h
theorem er_ifT {c : En → R Bool} (hc : TR Γ c (.ok true)) (h1 : ER o Γ fa ta ea) : ER o Γ (eIf c fa fb) ta ea := ⟨fun ρ k => by
  unfold eIf
  rw [show c ρ = .ok true from hc.run ρ k]
  exact h1.run ρ k⟩
theorem er_ifF {c : En → R Bool} (hc : TR Γ c (.ok false)) (h1 : ER o Γ fb ta ea) : ER o Γ (eIf c fa fb) ta ea := ⟨fun ρ k => by
  unfold eIf
  rw [show c ρ = .ok false from hc.run ρ k]
  exact h1.run ρ k⟩
theorem tr_ff {c1 c2 : En → R Bool} {t2 : R Bool} (h1 : TR Γ c1 (.ok false)) : TR Γ (tAndC c1 c2) (.ok false) := ⟨fun ρ k => by
  unfold tAndC; rw [show c1 ρ = .ok false from h1.run ρ k]; exact rfl⟩
theorem tr_tt {c1 c2 : En → R Bool} {t2 : R Bool} (h1 : TR Γ c1 (.ok true)) : TR Γ (tOrC c1 c2) (.ok true) := ⟨fun ρ k => by
  unfold tOrC; rw [show c1 ρ = .ok true from h1.run ρ k]; exact rfl⟩
theorem tr_ft {c1 c2 : En → R Bool} {t2 : R Bool} (h1 : TR Γ c1 (.ok false)) (h2 : TR Γ c2 t2) : TR Γ (tOrC c1 c2) t2 := ⟨fun ρ k => by
  unfold tOrC; rw [show c1 ρ = .ok false from h1.run ρ k]; exact h2.run ρ k⟩
theorem tr_tf {c1 c2 : En → R Bool} {t2 : R Bool} (h1 : TR Γ c1 (.ok true)) (h2 : TR Γ c2 t2) : TR Γ (tAndC c1 c2) t2 := ⟨fun ρ k => by
  unfold tAndC; rw [show c1 ρ = .ok true from h1.run ρ k]; exact h2.run ρ k⟩
theorem er_ff (h1 : ER false Γ fa (.ok false) eB) : ER false Γ (eAnd fa fb) (.ok false) eB := ⟨fun ρ k => by
  obtain ⟨d, e1, e2, _⟩ := h1.run ρ k
  unfold eAnd; rw [e1, inv_bl e2]; exact ⟨_, rfl, rfl, fun z => nomatch z⟩⟩
theorem er_tt (h1 : ER false Γ fa (.ok true) eB) : ER false Γ (eOr fa fb) (.ok true) eB := ⟨fun ρ k => by
  obtain ⟨d, e1, e2, _⟩ := h1.run ρ k
  unfold eOr; rw [e1, inv_bl e2]; exact ⟨_, rfl, rfl, fun z => nomatch z⟩⟩
theorem er_tf {t : R Bool} (h1 : ER false Γ fa (.ok true) eB) (h2 : ER false Γ fb t eB) : ER false Γ (eAnd fa fb) t eB := ⟨fun ρ k => by
  obtain ⟨d, e1, e2, _⟩ := h1.run ρ k
  unfold eAnd; rw [e1, inv_bl e2]; exact h2.run ρ k⟩
theorem er_ft {t : R Bool} (h1 : ER false Γ fa (.ok false) eB) (h2 : ER false Γ fb t eB) : ER false Γ (eOr fa fb) t eB := ⟨fun ρ k => by
  obtain ⟨d, e1, e2, _⟩ := h1.run ρ k
  unfold eOr; rw [e1, inv_bl e2]; exact h2.run ρ k⟩
theorem er_repp {xs : List α} {k : Int} [hv : Vl e] (h1 : ER true Γ fa (.ok xs) (eL e)) (h2 : ER false Γ fb (.ok k) eI) : ER true Γ (e2 gMul fa fb) (repR xs k) (eL e) := er_rep h1 h2
theorem ir_r1p {fs : En → R (List D)} {j : Int} (h : EA Γ fs (.ok (j, ())) (fun p : Int × Unit => eI p.1 :: (fun _ => []) p.2)) : IR Γ (iR1 fs) (rngR j) eI := ir_r1 h
theorem ir_r2p {fs : En → R (List D)} {i j : Int} (h : EA Γ fs (.ok (i, (j, ()))) (fun p : Int × Int × Unit => eI p.1 :: (fun p : Int × Unit => eI p.1 :: (fun _ => []) p.2) p.2)) : IR Γ (iR2 fs) (rng2R i j) eI := ir_r2 h
theorem er_idxp {fe : En → R D} {fs : En → R (List D)} {xs : List α} {n : Nat} [DecidableEq α] [h : EqE e n] (hn : n ≤ 8) (h1 : ER false Γ fe (.ok xs) (eL e)) (h2 : EA Γ fs (.ok (a, ())) (fun p : α × Unit => e p.1 :: (fun _ => []) p.2)) : ER false Γ (eBM "list" gIndex fe fs) (idxR e xs a) eI := er_idx hn h1 h2
theorem er_lcm {vs Sv : List Nat} {fi : En → R (List D)} {g : D → En → Option En} [hz : Fz e] {fc' : En → R Bool} {fe : En → R D} {xs : List α} {tc : α → R Bool} {te : α → R β} {o : Bool} {Γv : List Sl} {Γb : α → List Sl}
    (hI : IR Γ fi (.ok xs) e) (hv : Γv = vis Sv vs 0 Γ) (hT : TG' Γv g e Γb) (hc : ∀ a, TR (Γb a) fc' (tc a)) (he : ∀ a, ER o (Γb a) fe (te a) eb) :
    ER true Γ (eLc vs Sv fi g fc' fe) (calmR (compR xs tc te)) (eL eb) := er_lc hI hv hT hc he
theorem er_ifP {c : En → R Bool} {bc : Bool} {ta ta' : R α} (hc : TR Γ c (.ok bc)) (h1 : ER false Γ fa ta ea) (h2 : ER false Γ fb ta' ea) : ER false Γ (eIf c fa fb) (if bc then ta else ta') ea := er_ifM hc h1 h2
theorem tr_andP {c1 c2 : En → R Bool} {b1 : Bool} {t2 : R Bool} (h1 : TR Γ c1 (.ok b1)) (h2 : TR Γ c2 t2) : TR Γ (tAndC c1 c2) (if b1 then t2 else .ok false) := tr_andM h1 h2
theorem tr_orP {c1 c2 : En → R Bool} {b1 : Bool} {t2 : R Bool} (h1 : TR Γ c1 (.ok b1)) (h2 : TR Γ c2 t2) : TR Γ (tOrC c1 c2) (if b1 then .ok true else t2) := tr_orM h1 h2
theorem er_andP {b1 : Bool} {t2 : R Bool} (h1 : ER false Γ fa (.ok b1) eB) (h2 : ER false Γ fb t2 eB) : ER false Γ (eAnd fa fb) (if b1 then t2 else .ok false) eB := er_andM h1 h2
theorem er_orP {b1 : Bool} {t2 : R Bool} (h1 : ER false Γ fa (.ok b1) eB) (h2 : ER false Γ fb t2 eB) : ER false Γ (eOr fa fb) (if b1 then .ok true else t2) eB := er_orM h1 h2
/-! targets -/
theorem tgn {i : Nat} {Γ' : α → List Sl} (hi : Nat.ble (i + 1) Γ.length = true) (hG : ∀ a, Γ' a = Γ.set i (.w (e a))) : TG' Γ (gSet i) e Γ' := tg_set (Nat.le_of_ble_eq_true hi) hG
theorem tg2 {g1 g2 : D → En → Option En} {c1 : α → β} {c2 : α → γ} {Γ1 : β → List Sl} {Γ2 : β → γ → List Sl} {Γ' : α → List Sl} (he : ∀ a, e a = .tup [eb (c1 a), ec (c2 a)]) (h1 : TG' Γ g1 eb Γ1) (h2 : ∀ x, TG' (Γ1 x) g2 ec (Γ2 x)) (hG : ∀ a, Γ' a = Γ2 (c1 a) (c2 a)) : TG' Γ (gTupD 2 (gsCons g1 (gsCons g2 gsNil))) e Γ' := ⟨fun ρ d a q h => by
  rw [he] at h
  obtain ⟨ys, rfl, h3⟩ := inv_tup h
  obtain ⟨x, y, rfl, hx, hy⟩ := two_frz h3
  obtain ⟨ρ1, e1, q1⟩ := h1.run ρ x _ q hx
  obtain ⟨ρ2, e2, q2⟩ := (h2 _).run ρ1 y _ q1 hy
  refine ⟨ρ2, ?_, by rw [hG]; exact q2⟩
  simp [e1, e2]⟩
theorem tg3 {g1 g2 g3 : D → En → Option En} {c1 : α → β} {c2 : α → γ} {c3 : α → δ} {Γ1 : β → List Sl} {Γ2 : β → γ → List Sl} {Γ3 : β → γ → δ → List Sl} {Γ' : α → List Sl} (he : ∀ a, e a = .tup [eb (c1 a), ec (c2 a), ed (c3 a)]) (h1 : TG' Γ g1 eb Γ1) (h2 : ∀ x, TG' (Γ1 x) g2 ec (Γ2 x)) (h3 : ∀ x y, TG' (Γ2 x y) g3 ed (Γ3 x y)) (hG : ∀ a, Γ' a = Γ3 (c1 a) (c2 a) (c3 a)) : TG' Γ (gTupD 3 (gsCons g1 (gsCons g2 (gsCons g3 gsNil)))) e Γ' := ⟨fun ρ d a q h => by
  rw [he] at h
  obtain ⟨ys, rfl, h4⟩ := inv_tup h
  obtain ⟨x, y, z, rfl⟩ := len_3 (frzL_len h4 rfl)
  simp only [frzL_cons, frzL_nil, List.cons.injEq, and_true] at h4
  obtain ⟨hx, hy, hz⟩ := h4
  obtain ⟨ρ1, e1, q1⟩ := h1.run ρ x _ q hx
  obtain ⟨ρ2, e2, q2⟩ := (h2 _).run ρ1 y _ q1 hy
  obtain ⟨ρ3, e3, q3⟩ := (h3 _ _).run ρ2 z _ q2 hz
  refine ⟨ρ3, ?_, by rw [hG]; exact q3⟩
  simp [e1, e2, e3]⟩
/-- a, b = a list -/
def twoR (xs : List α) : R (α × α) := match xs with
  | [a, b] => .ok (a, b)
  | _ => .stuck
theorem br_asg2 {S : List Nat} {o : Bool} {g1 g2 : D → En → Option En} {fe : En → R D} {te : R (List α)} {k : En → Out} {Z : Out → τ → Prop} {tk : α × α → R τ} {Γ1 : α → List Sl} {Γ2 : α → α → List Sl} {Γ' : α × α → List Sl} (hE : ER o Γ fe te (eL ea)) [hv : Vl ea] (h1 : TG' (wkn S Γ) g1 ea Γ1) (h2 : ∀ x, TG' (Γ1 x) g2 ea (Γ2 x)) (hG : ∀ a, Γ' a = Γ2 a.1 a.2) (hk : ∀ a, BR (Γ' a) k (tk a) Z) : BR Γ (sSeq (sAsg S (gLstD 2 (gsCons g1 (gsCons g2 gsNil))) fe) k) (te.bind fun xs => (twoR xs).bind tk) Z := ⟨fun ρ q => by
  have := hE.run ρ q
  rw [sSeq_app, sAsg_app]
  cases te with
  | ok xs =>
    obtain ⟨d, e1, e2, _⟩ := this
    obtain ⟨o', ys, rfl, h3⟩ := inv_lst e2
    have := inv_valL h3
    subst this
    rw [e1, lift_ok, R.bind_ok]
    have q2 : Fits (wkn S Γ) (if (D.lst o' (xs.map ea)).clean = true then ρ else frzAt S ρ) := by
      split
      · exact q.wkn
      · exact q.frzAt
    match xs with
    | [] => trivial
    | [_] => trivial
    | _ :: _ :: _ :: _ => trivial
    | [x, y] =>
      obtain ⟨ρ1, e3, q3⟩ := h1.run _ (ea x) x q2 (val_frz (hv.vl x)).1
      obtain ⟨ρ2, e4, q4⟩ := (h2 x).run ρ1 (ea y) y q3 (val_frz (hv.vl y)).1
      have fx := (val_frz (hv.vl x)).1
      have fy := (val_frz (hv.vl y)).1
      show RefO ((asgRes (gLstD 2 (gsCons g1 (gsCons g2 gsNil)) (.lst o' [ea x, ea y]) _)).seq k) (tk (x, y)) Z
      rw [gLstD_lst, if_pos (show [ea x, ea y].length = 2 from rfl), frzL_cons, frzL_cons, frzL_nil, fx, fy, gsCons_app, e3, Option.bind_some, gsCons_app, e4]
      refine (hk (x, y)).run ρ2 ?_
      rw [hG]
      exact q4
  | exc C fs => rw [show fe ρ = _ from this]; exact ⟨ρ, rfl⟩
  | stuck => trivial⟩
/-! loops, with the frame behind freezing told -/
theorem br_forR' {S : List Nat} {k : En → Out} {Z : Out → τ → Prop} {fi : En → R (List D)} {g : D → En → Option En} {fb : En → Out} {ti : R (List α)} [hz : Fz e] {s0 : σ} {body : σ → α → R σ} {tk : σ → R τ} {Γw : List Sl} {Γl : σ → List Sl} {Γb : σ → α → List Sl}
    (hI : IR Γ fi ti e) (hw : wkn S Γ = Γw) (hle : Sle Γw (Γl s0)) (hT : ∀ s, TG' (Γl s) g e (Γb s)) (hb : ∀ s a, BR (Γb s a) fb (body s a) (ZN Γl)) (hk : ∀ s, BR (Γl s) k (tk s) Z) :
    BR Γ (sSeq (sFor S fi g fb) k) (ti.bind fun xs => (foldR xs s0 body).bind tk) Z := br_forR hI (by rw [hw]; exact hle) hT hb hk
theorem br_forC' {S : List Nat} {k : En → Out} {Z : Out → τ → Prop} {fi : En → R (List D)} {g : D → En → Option En} {fb : En → Out} {ti : R (List α)} [hz : Fz e] {s0 : σ} {body : σ → α → R (Ct σ β)} {tk : σ → R τ} {tr : β → τ} {Γw : List Sl} {Γl : σ → List Sl} {Γb : σ → α → List Sl} {o : Bool} {er : β → D}
    (hI : IR Γ fi ti e) (hw : wkn S Γ = Γw) (hle : Sle Γw (Γl s0)) (hT : ∀ s, TG' (Γl s) g e (Γb s)) (hb : ∀ s a, BR (Γb s a) fb (body s a) (ZC Γl (ZR o er))) (hk : ∀ s, BR (Γl s) k (tk s) Z) (hr : ∀ x b, ZR o er x b → Z x (tr b)) :
    BR Γ (sSeq (sFor S fi g fb) k) (ti.bind fun xs => (foldC xs s0 body).bind (onC tk fun b => .ok (tr b))) Z := br_forC hI (by rw [hw]; exact hle) hT hb hk hr
end
@[simp] theorem R.bind_assoc {α β γ : Type} (x : R α) (f : α → R β) (g : β → R γ) : (x.bind f).bind g = x.bind fun a => (f a).bind g := by cases x <;> rfl
end TL
/-! Y5: typed dicts -/
namespace TL
open PySem PySem.Spec PyProof.Rows L2
section
variable {κ β γ σ τ α : Type}
def eDct (t : Bool) (ek : κ → D) (ev : β → D) : List (κ × β) → D := fun l => .dct false t (l.map fun p => (ek p.1, ev p.2))
def dget [DecidableEq κ] : List (κ × β) → κ → Option β
  | [], _ => none
  | p :: r, k => if p.1 = k then some p.2 else dget r k
def dhas [DecidableEq κ] (l : List (κ × β)) (k : κ) : Bool := l.any fun p => decide (p.1 = k)
def dput [DecidableEq κ] (l : List (κ × β)) (k : κ) (v : β) : List (κ × β) :=
  if dhas l k = true then l.map (fun p => if p.1 = k then (p.1, v) else p) else l ++ [(k, v)]
theorem dget_some [DecidableEq κ] (l : List (κ × β)) (k : κ) : (dget l k).isSome = dhas l k := by
  induction l with
  | nil => rfl
  | cons p r ih =>
    unfold dget dhas
    rw [List.any_cons]
    by_cases h : p.1 = k
    · rw [if_pos h]; simp [h]
    · rw [if_neg h, ih]; simp [h, dhas]
class KyT (t : outParam Bool) (e : κ → D) : Prop where
  ex : ∀ a, (t = true ∧ ∃ ks, keysD (e a) = some ks ∧ ktD ks = e a) ∨ (t = false ∧ ∃ k, keyD (e a) = some k ∧ kD k = e a)
  inj : ∀ a b, e a = e b → a = b
instance : KyT true pr := ⟨fun a => .inl ⟨rfl, kyP a, rfl, rfl⟩, fun a b h => by
  obtain ⟨a1, a2⟩ := a
  obtain ⟨b1, b2⟩ := b
  unfold pr at h
  injection h with h
  simp at h
  rw [h.1, h.2]⟩
instance : KyT true (eP3 eI eI eI) := ⟨fun a => .inl ⟨rfl, [.inl a.1, .inl a.2.1, .inl a.2.2], rfl, rfl⟩, fun a b h => by
  obtain ⟨a1, a2, a3⟩ := a
  obtain ⟨b1, b2, b3⟩ := b
  unfold eP3 eI at h
  injection h with h
  simp at h
  rw [h.1, h.2.1, h.2.2]⟩
instance : KyT false eI := ⟨fun a => .inr ⟨rfl, .inl a, rfl, rfl⟩, fun a b h => by injection h⟩
instance : KyT false eS := ⟨fun a => .inr ⟨rfl, .inr a, rfl, rfl⟩, fun a b h => by injection h⟩
theorem frzK_map {t : Bool} {ek : κ → D} {ev : β → D} [h : Fz ev] (l : List (κ × β)) : frzK (l.map fun p => (ek p.1, ev p.2)) = l.map fun p => (ek p.1, ev p.2) := by
  induction l with
  | nil => rfl
  | cons p r ih => show (ek p.1, (ev p.2).frz) :: frzK _ = _; rw [ih, h.fz]; rfl
instance fzT {t : Bool} {ek : κ → D} {ev : β → D} [h : Fz ev] : Fz (eDct t ek ev) := ⟨fun l => congrArg (D.dct false t) (frzK_map (t := t) l)⟩
instance {t : Bool} {ek : κ → D} {ev : β → D} : NN (eDct t ek ev) := ⟨fun _ h => nomatch h⟩
variable [DecidableEq κ] {t : Bool} {ek : κ → D} {ev : β → D}
theorem lookD_y [h : KyT t ek] (k : κ) : ∀ {ys : List (D × D)} {l : List (κ × β)}, frzK ys = l.map (fun p => (ek p.1, ev p.2)) → ∃ o, lookD t ys (ek k) = some o ∧ o.map D.frz = (dget l k).map ev
  | ys, l, hh => by
    rcases h.ex k with ⟨rfl, ks, h1, h2⟩ | ⟨rfl, ks, h1, h2⟩
    · refine ⟨lookT ys ks, by unfold lookD; rw [if_pos rfl, h1]; rfl, ?_⟩
      induction ys generalizing l with
      | nil =>
        cases l with
        | nil => rfl
        | cons _ _ => cases hh
      | cons y r ih =>
        cases l with
        | nil => cases hh
        | cons p q =>
          rw [List.map_cons] at hh
          obtain ⟨y1, y2⟩ := y
          injection hh with e1 e2
          injection e1 with e3 e4
          subst e3
          unfold lookT dget
          have ee : keysD (ek p.1) = some ks ↔ p.1 = k := by
            constructor
            · intro z
              refine h.inj _ _ ?_
              rcases h.ex p.1 with ⟨_, ks', h3, h4⟩ | ⟨q, _⟩
              · rw [h3] at z; cases z; rw [← h4, h2]
              · cases q
            · intro z; rw [z]; exact h1
          by_cases c : p.1 = k
          · rw [if_pos (ee.mpr c), if_pos c]
            show some y2.frz = some (ev p.2)
            rw [← e4]
          · rw [if_neg (fun z => c (ee.mp z)), if_neg c]
            exact ih q e2
    · refine ⟨lookK ys ks, by unfold lookD; rw [if_neg (by decide), h1]; rfl, ?_⟩
      induction ys generalizing l with
      | nil =>
        cases l with
        | nil => rfl
        | cons _ _ => cases hh
      | cons y r ih =>
        cases l with
        | nil => cases hh
        | cons p q =>
          rw [List.map_cons] at hh
          obtain ⟨y1, y2⟩ := y
          injection hh with e1 e2
          injection e1 with e3 e4
          subst e3
          unfold lookK dget
          have ee : keyD (ek p.1) = some ks ↔ p.1 = k := by
            constructor
            · intro z
              refine h.inj _ _ ?_
              rcases h.ex p.1 with ⟨q, _⟩ | ⟨_, ks', h3, h4⟩
              · cases q
              · rw [h3] at z; cases z; rw [← h4, h2]
            · intro z; rw [z]; exact h1
          by_cases c : p.1 = k
          · rw [if_pos (ee.mpr c), if_pos c]
            show some y2.frz = some (ev p.2)
            rw [← e4]
          · rw [if_neg (fun z => c (ee.mp z)), if_neg c]
            exact ih q e2
theorem o_inD [KyT t ek] [Vl ek] : Op2 false (gIn false) ek (eDct t ek ev) (fun k l => .ok (dhas l k)) eB := fun k l x y hx hy => by
  obtain ⟨o, ys, rfl, h2⟩ := inv_dct hy
  rw [inv_val hx]
  obtain ⟨o', h3, h4⟩ := lookD_y (ev := ev) k h2
  have h5 : o'.isSome = dhas l k := by
    rw [← dget_some]
    have := congrArg Option.isSome h4
    simpa using this
  refine ref_ok (d := .bl o'.isSome) ?_ (by rw [h5]; rfl)
  show ofO ((lookD t ys (ek k)).map _) = _
  rw [h3]
  rfl
theorem o_niD [KyT t ek] [Vl ek] : Op2 false (gIn true) ek (eDct t ek ev) (fun k l => .ok (!dhas l k)) eB := fun k l x y hx hy => by
  obtain ⟨o, ys, rfl, h2⟩ := inv_dct hy
  rw [inv_val hx]
  obtain ⟨o', h3, h4⟩ := lookD_y (ev := ev) k h2
  have h5 : o'.isSome = dhas l k := by
    rw [← dget_some]
    have := congrArg Option.isSome h4
    simpa using this
  refine ref_ok (d := .bl (!o'.isSome)) ?_ (by rw [h5]; rfl)
  show ofO ((lookD t ys (ek k)).map _) = _
  rw [h3]
  rfl
theorem o_ixD [KyT t ek] [Vl ek] : Op2 false gIxG (eDct t ek ev) ek (fun l k => ofO (dget l k)) ev := fun l k x y hx hy => by
  obtain ⟨o, ys, rfl, h2⟩ := inv_dct hx
  rw [inv_val hy]
  obtain ⟨o', h3, h4⟩ := lookD_y (ev := ev) k h2
  show RefE false (ofO ((lookD t ys (ek k)).bind fun o => o)) _ ev
  rw [h3]
  show RefE false (ofO o') (ofO (dget l k)) ev
  cases hd : dget l k with
  | none => trivial
  | some v =>
    rw [hd] at h4
    obtain ⟨d, h5, h6⟩ := Option.map_eq_some_iff.mp h4
    rw [h5]
    exact ref_ok rfl h6
theorem any_y [h : KyT true ek] {k : κ} {ks : List Key} (h1 : keysD (ek k) = some ks) (h2 : ktD ks = ek k) : ∀ {ys : List (D × D)} {l : List (κ × β)}, frzK ys = l.map (fun p => (ek p.1, ev p.2)) → (ys.any fun p => decide (keysD p.1 = some ks)) = dhas l k
  | [], [], _ => rfl
  | [], _ :: _, hh => nomatch hh
  | _ :: _, [], hh => nomatch hh
  | (y1, y2) :: r, p :: q, hh => by
    rw [List.map_cons] at hh
    injection hh with e1 e2
    injection e1 with e3 e4
    subst e3
    unfold dhas
    rw [List.any_cons, List.any_cons]
    have ih := any_y h1 h2 e2
    unfold dhas at ih
    rw [ih]
    have ee : keysD (ek p.1) = some ks ↔ p.1 = k := by
      constructor
      · intro z
        refine h.inj _ _ ?_
        rcases h.ex p.1 with ⟨_, ks', h3, h4⟩ | ⟨q, _⟩
        · rw [h3] at z; cases z; rw [← h4, h2]
        · cases q
      · intro z; rw [z]; exact h1
    congr 1
    rw [Bool.eq_iff_iff, decide_eq_true_iff, decide_eq_true_iff]
    exact ee
theorem anyK_y [h : KyT false ek] {k : κ} {ks : Key} (h1 : keyD (ek k) = some ks) (h2 : kD ks = ek k) : ∀ {ys : List (D × D)} {l : List (κ × β)}, frzK ys = l.map (fun p => (ek p.1, ev p.2)) → (ys.any fun p => decide (keyD p.1 = some ks)) = dhas l k
  | [], [], _ => rfl
  | [], _ :: _, hh => nomatch hh
  | _ :: _, [], hh => nomatch hh
  | (y1, y2) :: r, p :: q, hh => by
    rw [List.map_cons] at hh
    injection hh with e1 e2
    injection e1 with e3 e4
    subst e3
    unfold dhas
    rw [List.any_cons, List.any_cons]
    have ih := anyK_y h1 h2 e2
    unfold dhas at ih
    rw [ih]
    have ee : keyD (ek p.1) = some ks ↔ p.1 = k := by
      constructor
      · intro z
        refine h.inj _ _ ?_
        rcases h.ex p.1 with ⟨q, _⟩ | ⟨_, ks', h3, h4⟩
        · cases q
        · rw [h3] at z; cases z; rw [← h4, h2]
      · intro z; rw [z]; exact h1
    congr 1
    rw [Bool.eq_iff_iff, decide_eq_true_iff, decide_eq_true_iff]
    exact ee
theorem frzK_append (xs ys : List (D × D)) : frzK (xs ++ ys) = frzK xs ++ frzK ys := by
  induction xs with
  | nil => rfl
  | cons p r ih => obtain ⟨k, d⟩ := p; show (k, d.frz) :: frzK (r ++ ys) = _; rw [ih]; rfl
theorem store_y [h : KyT t ek] (k : κ) (v : β) {d : D} (hd : d.frz = ev v) {ys : List (D × D)} {l : List (κ × β)} (hh : frzK ys = l.map (fun p => (ek p.1, ev p.2))) (hv : dhas l k = true → d.val = true) : ∃ zs, storeD t ys (ek k) d = some zs ∧ frzK zs = (dput l k v).map fun p => (ek p.1, ev p.2) := by
  rcases h.ex k with ⟨rfl, ks, h1, h2⟩ | ⟨rfl, ks, h1, h2⟩
  · have ha := any_y (ev := ev) h1 h2 hh
    have st : storeD true ys (ek k) d = some (putTD ys ks d) := by
      unfold storeD
      rw [if_pos rfl, h1, Option.bind_some, ha]
      cases hc : dhas l k with
      | false => rfl
      | true => rw [hv hc]; rfl
    refine ⟨_, st, ?_⟩
    unfold putTD dput
    rw [ha]
    split
    · rename_i hcc
      clear ha hv st hcc
      induction ys generalizing l with
      | nil =>
        cases l with
        | nil => rfl
        | cons _ _ => cases hh
      | cons y r ih =>
        cases l with
        | nil => cases hh
        | cons p q =>
          rw [List.map_cons] at hh
          obtain ⟨y1, y2⟩ := y
          injection hh with e1 e2
          injection e1 with e3 e4
          subst e3
          have ee : keysD (ek p.1) = some ks ↔ p.1 = k := by
            constructor
            · intro z
              refine h.inj _ _ ?_
              rcases h.ex p.1 with ⟨_, ks', h3, h4⟩ | ⟨q, _⟩
              · rw [h3] at z; cases z; rw [← h4, h2]
              · cases q
            · intro z; rw [z]; exact h1
          have ih' := ih e2
          rw [List.map_cons, List.map_cons, List.map_cons]
          dsimp only
          by_cases c : p.1 = k
          · rw [if_pos (ee.mpr c), if_pos c]
            show (ek p.1, d.frz) :: frzK _ = _
            rw [ih', hd]
          · rw [if_neg (fun z => c (ee.mp z)), if_neg c]
            show (ek p.1, y2.frz) :: frzK _ = _
            rw [ih', e4]
    · rw [frzK_append, hh, List.map_append, h2]
      show _ ++ [(ek k, d.frz)] = _
      rw [hd]
      rfl
  · have ha := anyK_y (ev := ev) h1 h2 hh
    have st : storeD false ys (ek k) d = some (putKD ys ks d) := by
      unfold storeD
      rw [if_neg (by decide), h1, Option.bind_some, ha]
      cases hc : dhas l k with
      | false => rfl
      | true => rw [hv hc]; rfl
    refine ⟨_, st, ?_⟩
    unfold putKD dput
    rw [ha]
    split
    · rename_i hcc
      clear ha hv st hcc
      induction ys generalizing l with
      | nil =>
        cases l with
        | nil => rfl
        | cons _ _ => cases hh
      | cons y r ih =>
        cases l with
        | nil => cases hh
        | cons p q =>
          rw [List.map_cons] at hh
          obtain ⟨y1, y2⟩ := y
          injection hh with e1 e2
          injection e1 with e3 e4
          subst e3
          have ee : keyD (ek p.1) = some ks ↔ p.1 = k := by
            constructor
            · intro z
              refine h.inj _ _ ?_
              rcases h.ex p.1 with ⟨q, _⟩ | ⟨_, ks', h3, h4⟩
              · cases q
              · rw [h3] at z; cases z; rw [← h4, h2]
            · intro z; rw [z]; exact h1
          have ih' := ih e2
          rw [List.map_cons, List.map_cons, List.map_cons]
          dsimp only
          by_cases c : p.1 = k
          · rw [if_pos (ee.mpr c), if_pos c]
            show (ek p.1, d.frz) :: frzK _ = _
            rw [ih', hd]
          · rw [if_neg (fun z => c (ee.mp z)), if_neg c]
            show (ek p.1, y2.frz) :: frzK _ = _
            rw [ih', e4]
    · rw [frzK_append, hh, List.map_append, h2]
      show _ ++ [(ek k, d.frz)] = _
      rw [hd]
      rfl
theorem frzK_len {ys : List (D × D)} {l : List (κ × β)} (h : frzK ys = l.map (fun p => (ek p.1, ev p.2))) : ys.length = l.length := by
  have h1 : ∀ ys : List (D × D), (frzK ys).length = ys.length := by
    intro ys
    induction ys with
    | nil => rfl
    | cons p r ih => obtain ⟨k, d⟩ := p; exact congrArg (· + 1) ih
  have := congrArg List.length h
  rw [h1, List.length_map] at this
  exact this
/-- a store of a plain thing -/
def dputR (l : List (κ × β)) (p : β × κ × Unit) : R (List (κ × β)) := if l.length < 16777216 then .ok (dput l p.2.1 p.1) else .stuck
theorem m_dput [KyT t ek] [Vl ek] [hv : Vl ev] : MutU gStoreD (eDct t ek ev) (fun p : β × κ × Unit => ev p.1 :: (fun p : κ × Unit => ek p.1 :: (fun _ => []) p.2) p.2) dputR (eDct t ek ev) := fun l p x ys hx ho hy => by
  obtain ⟨y, z, rfl, h1, h2⟩ := two_frz hy
  obtain ⟨o, zs, rfl, h3⟩ := inv_dct hx
  rw [inv_val h2]
  cases o with
  | false => cases ho
  | true =>
    unfold dputR
    split
    · rename_i c hc
      split at hc
      · rename_i hl
        cases hc
        obtain ⟨ws, h4, h5⟩ := store_y (ev := ev) p.2.1 p.1 h1 h3 (fun _ => by rw [inv_val h1]; exact hv.vl _)
        refine ⟨.dct true t ws, .non, ?_, by rw [frz_dct, h5]; rfl, rfl⟩
        show (if zs.length < 16777216 then (storeD t zs (ek p.2.1) y).map fun l => (D.dct true t l, D.non) else none) = _
        rw [if_pos (by rw [frzK_len h3]; exact hl), h4]
        rfl
      · cases hc
    · rename_i hc
      split at hc <;> cases hc
    · trivial
/-- a store of anything under a new key -/
def dputN (l : List (κ × β)) (p : β × κ × Unit) : R (List (κ × β)) := if l.length < 16777216 ∧ dhas l p.2.1 = false then .ok (dput l p.2.1 p.1) else .stuck
theorem m_dputN [KyT t ek] [Vl ek] : MutU gStoreD (eDct t ek ev) (fun p : β × κ × Unit => ev p.1 :: (fun p : κ × Unit => ek p.1 :: (fun _ => []) p.2) p.2) dputN (eDct t ek ev) := fun l p x ys hx ho hy => by
  obtain ⟨y, z, rfl, h1, h2⟩ := two_frz hy
  obtain ⟨o, zs, rfl, h3⟩ := inv_dct hx
  rw [inv_val h2]
  cases o with
  | false => cases ho
  | true =>
    unfold dputN
    split
    · rename_i c hc
      split at hc
      · rename_i hl
        cases hc
        obtain ⟨ws, h4, h5⟩ := store_y (ev := ev) p.2.1 p.1 h1 h3 (fun z => by rw [hl.2] at z; cases z)
        refine ⟨.dct true t ws, .non, ?_, by rw [frz_dct, h5]; rfl, rfl⟩
        show (if zs.length < 16777216 then (storeD t zs (ek p.2.1) y).map fun l => (D.dct true t l, D.non) else none) = _
        rw [if_pos (by rw [frzK_len h3]; exact hl.1), h4]
        rfl
      · cases hc
    · rename_i hc
      split at hc <;> cases hc
    · trivial
theorem ty_dict {l : List (κ × β)} : ∀ x : D, x.frz = eDct t ek ev l → ownT x = true → tyD "dict" x = true := fun x h ho => by
  obtain ⟨o, ys, rfl, _⟩ := inv_dct h
  cases o with
  | true => rfl
  | false => cases ho
/-! comprehensions -/
def dcR (xs : List α) (c : α → R Bool) (k : α → R κ) (v : α → R β) (acc : List (κ × β)) : R (List (κ × β)) := match xs with
  | [] => .ok acc
  | a :: r => (c a).bind fun b => if b then (k a).bind fun x => (v a).bind fun y => if acc.length < 16777216 then dcR r c k v (dput acc x y) else .stuck
    else dcR r c k v acc
variable {Γ : List Sl}
theorem dc_R {g : D → En → Option En} {e : α → D} [hz : Fz e] {fc : En → R Bool} {fk fv : En → R D} {tc : α → R Bool} {tk : α → R κ} {tv : α → R β} {o1 o2 : Bool} {Γv : List Sl} {Γb : α → List Sl} [KyT t ek] [hvk : Vl ek] [hvv : Vl ev] (hT : TG' Γv g e Γb) (hc : ∀ a, TR (Γb a) fc (tc a)) (hk : ∀ a, ER o1 (Γb a) fk (tk a) ek) (hv : ∀ a, ER o2 (Γb a) fv (tv a) ev) (ρ : En) (q : Fits Γv ρ) :
    ∀ (xs : List α) (acc : List (κ × β)) (ds : List (D × D)), frzK ds = acc.map (fun p => (ek p.1, ev p.2)) → match dcR xs tc tk tv acc with
      | .ok l => ∃ zs, dcD t g fc fk fv ρ ds (xs.map e) = .ok zs ∧ frzK zs = l.map fun p => (ek p.1, ev p.2)
      | _ => True
  | [], acc, ds, hd => ⟨ds, rfl, hd⟩
  | a :: r, acc, ds, hd => by
    obtain ⟨ρ1, e1, q1⟩ := hT.run ρ (e a) a q (hz.fz a)
    have h1 := (hc a).run ρ1 q1
    have h2 := (hk a).run ρ1 q1
    have h3 := (hv a).run ρ1 q1
    rw [List.map_cons]
    unfold dcD dcR
    rw [e1]
    dsimp only
    cases ec : tc a with
    | ok b =>
      rw [ec] at h1
      rw [show fc ρ1 = .ok b from h1]
      cases b with
      | false => exact dc_R hT hc hk hv ρ q r acc ds hd
      | true =>
        dsimp only [R.bind_ok]
        rw [if_pos rfl]
        cases et : tk a with
        | ok x =>
          rw [et] at h2
          obtain ⟨d, h4, h5, _⟩ := h2
          rw [h4]
          dsimp only [R.bind_ok]
          cases ew : tv a with
          | ok y =>
            rw [ew] at h3
            obtain ⟨d', h6, h7, _⟩ := h3
            rw [h6]
            dsimp only [R.bind_ok]
            rw [inv_val h5]
            have hy := inv_val h7
            split
            · rename_i l hl
              split at hl
              · rename_i ha
                obtain ⟨zs, h8, h9⟩ := store_y (ev := ev) x y h7 hd (fun _ => by rw [hy]; exact hvv.vl _)
                have hs : dcStep t ds (ek x) d' = some zs := by
                  unfold dcStep
                  rw [hvk.vl x, hy, hvv.vl y, frzK_len hd, decide_eq_true ha, ← hy]
                  exact h8
                rw [hs]
                have ih := dc_R hT hc hk hv ρ q r (dput acc x y) zs h9
                rw [hl] at ih
                exact ih
              · cases hl
            · trivial
          | exc C fs => trivial
          | stuck => trivial
        | exc C fs => trivial
        | stuck => trivial
    | exc C fs => trivial
    | stuck => trivial
theorem er_dc {vs Sv : List Nat} {fi : En → R (List D)} {g : D → En → Option En} {e : α → D} [hz : Fz e] {fc : En → R Bool} {fk fv : En → R D} {ti : R (List α)} {tc : α → R Bool} {tk : α → R κ} {tv : α → R β} {o1 o2 : Bool} {Γv : List Sl} {Γb : α → List Sl} [KyT t ek] [Vl ek] [Vl ev]
    (hI : IR Γ fi ti e) (hv : Γv = vis Sv vs 0 Γ) (hT : TG' Γv g e Γb) (hc : ∀ a, TR (Γb a) fc (tc a)) (hk : ∀ a, ER o1 (Γb a) fk (tk a) ek) (hw : ∀ a, ER o2 (Γb a) fv (tv a) ev) :
    ER true Γ (eDc t vs Sv fi g fc fk fv) (ti.bind fun xs => calmR (dcR xs tc tk tv [])) (eDct t ek ev) := ⟨fun ρ q => by
  have h1 := hI.run ρ q
  rw [eDc_app]
  cases ti with
  | ok xs =>
    rw [show fi ρ = .ok (xs.map e) from h1]
    have := dc_R hT hc hk hw (visE Sv vs 0 ρ) (by rw [hv]; exact q.vis) xs [] [] rfl
    show RefE true _ (calmR (dcR xs tc tk tv [])) (eDct t ek ev)
    cases ec : dcR xs tc tk tv [] with
    | ok l =>
      rw [ec] at this
      obtain ⟨zs, h2, h3⟩ := this
      rw [R.bind_ok, h2]
      exact ⟨.dct true t zs, rfl, by rw [frz_dct, h3]; rfl, fun _ => rfl⟩
    | exc C fs => trivial
    | stuck => trivial
  | exc C fs => rw [show fi ρ = _ from h1]; exact rfl
  | stuck => trivial⟩
theorem br_setD {S : List Nat} {i : Nat} {k : En → Out} {Z : Out → τ → Prop} {fe : En → R D} {te : R (List (κ × β))} {tk : List (κ × β) → R τ} {Γ' : List (κ × β) → List Sl} (hE : ER true Γ fe te (eDct t ek ev)) [hv : Vl ev] (hG : ∀ a, Γ' a = Γ.set i (.o (eDct t ek ev a))) (hk : ∀ a, BR (Γ' a) k (tk a) Z) : BR Γ (sSeq (sSet i S fe) k) (te.bind tk) Z := ⟨fun ρ q => by
  have := hE.run ρ q
  rw [sSeq_app, sSet_app]
  cases te with
  | ok a =>
    obtain ⟨d, h1, h2, h3⟩ := this
    rw [h1]
    obtain ⟨o, ys, rfl, h4⟩ := inv_dct h2
    have hc : (D.dct o t ys).clean = true := by
      have ho := h3 rfl
      cases o with
      | false => cases ho
      | true =>
        show cleanK ys = true
        clear h1 h2 h3 ho
        revert h4
        generalize hA : (List.map (fun p => (ek p.1, ev p.2)) a) = A
        intro h4
        have : ∀ (ys : List (D × D)) (l : List (κ × β)), frzK ys = l.map (fun p => (ek p.1, ev p.2)) → cleanK ys = true := by
          intro ys
          induction ys with
          | nil => intro _ _; rfl
          | cons y r ih =>
            intro l hl
            cases l with
            | nil => cases hl
            | cons p q =>
              obtain ⟨y1, y2⟩ := y
              rw [List.map_cons] at hl
              injection hl with e1 e2
              injection e1 with e3 e4
              show (y2.clean && cleanK r) = true
              rw [ih q e2, inv_val e4, (val_frz (hv.vl p.2)).2]
              rfl
        exact this ys a (by rw [h4, ← hA])
    refine (hk a).run _ ?_
    rw [hG, hc]
    exact q.set ⟨_, rfl, h2, h3 rfl⟩
  | exc C fs => rw [show fe ρ = _ from this]; exact ⟨ρ, rfl⟩
  | stuck => trivial⟩
end
theorem keyPs_y : ∀ {ys : List (D × D)} {β : Type} {ev : β → D} {l : List ((Int × Int) × β)}, frzK ys = l.map (fun p => (pr p.1, ev p.2)) → keyPs ys = some (l.map (·.1))
  | [], _, _, [], _ => rfl
  | [], _, _, _ :: _, h => nomatch h
  | _ :: _, _, _, [], h => nomatch h
  | (y1, y2) :: r, _, ev, p :: q, h => by
    rw [List.map_cons] at h
    injection h with e1 e2
    injection e1 with e3 e4
    subst e3
    show ((keysD (pr p.1)).bind keyP).bind (fun z => (keyPs r).map (z :: ·)) = _
    rw [keyPs_y e2]
    rfl
theorem o_sortD {β : Type} {ev : β → D} : OpN true gSortedG (fun p : List ((Int × Int) × β) × Unit => eDct true pr ev p.1 :: (fun _ => []) p.2) (fun p => .ok (srtP (p.1.map (·.1)))) (eL pr) := fun a xs h => by
  obtain ⟨x, rfl, hh⟩ := one_frz h
  obtain ⟨o, ys, rfl, h2⟩ := inv_dct hh
  refine ref_own (d := .lst true ((srtP (a.1.map (·.1))).map pr)) ?_ (by rw [frz_lst, prs_frz]; rfl) rfl
  show ofO ((keyPs ys).map fun qs => D.lst true ((srtP qs).map prD)) = _
  rw [keyPs_y h2]
  rfl
end TL
/-! Y6: plain reasoning about typed functions -/
namespace TL
open PySem PySem.Spec PyProof.Rows L2
section
variable {α β γ σ : Type}
theorem foldR_ok {xs : List α} {s : σ} {f : σ → α → R σ} (I : Nat → σ → Prop) (h0 : I 0 s) (hs : ∀ k a s, xs[k]? = some a → I k s → ∃ s', f s a = .ok s' ∧ I (k + 1) s') : ∃ s', foldR xs s f = .ok s' ∧ I xs.length s' := by
  induction xs generalizing s I with
  | nil => exact ⟨s, rfl, h0⟩
  | cons a r ih =>
    obtain ⟨s1, e1, h1⟩ := hs 0 a s rfl h0
    obtain ⟨s2, e2, h2⟩ := ih (s := s1) (fun k => I (k + 1)) h1 fun k b t e => hs (k + 1) b t (by simpa using e)
    refine ⟨s2, ?_, h2⟩
    unfold foldR
    rw [e1]
    exact e2
/-- what is kept from turn to turn -/
theorem foldR_inv {xs : List α} {s : σ} {f : σ → α → R σ} (P : σ → Prop) (h0 : P s) (hs : ∀ a ∈ xs, ∀ s, P s → ∃ s', f s a = .ok s' ∧ P s') : ∃ s', foldR xs s f = .ok s' ∧ P s' :=
  foldR_ok (fun _ => P) h0 fun k a s e h => hs a (List.mem_of_getElem? e) s h
theorem foldR_eq {xs : List α} {s : σ} {f : σ → α → R σ} (g : σ → α → σ) (h : ∀ a ∈ xs, ∀ s, f s a = .ok (g s a)) : foldR xs s f = .ok (xs.foldl g s) := by
  induction xs generalizing s with
  | nil => rfl
  | cons a r ih =>
    unfold foldR
    rw [h a List.mem_cons_self]
    exact ih fun b m => h b (List.mem_cons_of_mem _ m)
theorem foldR_eqP {xs : List α} {s : σ} {f : σ → α → R σ} (g : σ → α → σ) (P : σ → Prop) (h0 : P s) (h : ∀ a ∈ xs, ∀ s, P s → f s a = .ok (g s a) ∧ P (g s a)) : foldR xs s f = .ok (xs.foldl g s) ∧ P (xs.foldl g s) := by
  induction xs generalizing s with
  | nil => exact ⟨rfl, h0⟩
  | cons a r ih =>
    unfold foldR
    obtain ⟨e, p⟩ := h a List.mem_cons_self s h0
    rw [e]
    exact ih p fun b m => h b (List.mem_cons_of_mem _ m)
theorem foldC_ok {xs : List α} {s : σ} {f : σ → α → R (Ct σ β)} (I : Nat → σ → Prop) (B : σ → Prop) (Rt : β → Prop) (h0 : I 0 s)
    (hs : ∀ k a s, xs[k]? = some a → I k s → (∃ s', f s a = .ok (.nx s') ∧ I (k + 1) s') ∨ (∃ s', f s a = .ok (.bk s') ∧ B s') ∨ ∃ b, f s a = .ok (.rt b) ∧ Rt b) :
    (∃ s', foldC xs s f = .ok (.inl s') ∧ (I xs.length s' ∨ B s')) ∨ ∃ b, foldC xs s f = .ok (.inr b) ∧ Rt b := by
  induction xs generalizing s I with
  | nil => exact .inl ⟨s, rfl, .inl h0⟩
  | cons a r ih =>
    unfold foldC
    rcases hs 0 a s rfl h0 with ⟨s1, e1, h1⟩ | ⟨s1, e1, h1⟩ | ⟨b, e1, h1⟩
    · rw [e1]
      exact ih (s := s1) (fun k => I (k + 1)) h1 fun k b t e => hs (k + 1) b t (by simpa using e)
    · rw [e1]; exact .inl ⟨s1, rfl, .inr h1⟩
    · rw [e1]; exact .inr ⟨b, rfl, h1⟩
/-- every turn goes on -/
theorem foldC_all {xs : List α} {s : σ} {f : σ → α → R (Ct σ β)} (h : ∀ a ∈ xs, f s a = .ok (.nx s)) : foldC xs s f = .ok (.inl s) := by
  induction xs with
  | nil => rfl
  | cons a r ih =>
    unfold foldC
    rw [h a List.mem_cons_self]
    exact ih fun b m => h b (List.mem_cons_of_mem _ m)
/-- a loop that answers at the first item with p -/
theorem foldC_find {xs : List α} {s : σ} {f : σ → α → R (Ct σ β)} (p : α → Bool) (g : α → β) (h : ∀ a ∈ xs, f s a = .ok (if p a then .rt (g a) else .nx s)) : foldC xs s f = .ok (match xs.find? p with
    | some a => .inr (g a)
    | none => .inl s) := by
  induction xs with
  | nil => rfl
  | cons a r ih =>
    unfold foldC
    rw [h a List.mem_cons_self]
    cases hp : p a with
    | true => simp [List.find?_cons, hp]
    | false =>
      simp only [hp, List.find?_cons, R.bind_ok, Bool.false_eq_true, if_false]
      exact ih fun b m => h b (List.mem_cons_of_mem _ m)
theorem compR_eq {xs : List α} {c : α → R Bool} {f : α → R β} (p : α → Bool) (g : α → β) (h : ∀ a ∈ xs, c a = .ok (p a) ∧ (p a = true → f a = .ok (g a))) : compR xs c f = .ok ((xs.filter p).map g) := by
  induction xs with
  | nil => rfl
  | cons a r ih =>
    obtain ⟨h1, h2⟩ := h a List.mem_cons_self
    have ih' := ih fun b m => h b (List.mem_cons_of_mem _ m)
    unfold compR
    rw [h1, ih']
    cases hp : p a with
    | true => rw [List.filter_cons_of_pos hp, h2 hp]; rfl
    | false => rw [List.filter_cons_of_neg (by rw [hp]; exact Bool.false_ne_true)]; rfl
/-- something is made of each item -/
theorem compR_all {xs : List α} {c : α → R Bool} {f : α → R β} (Q : α → β → Prop) (h : ∀ a ∈ xs, c a = .ok true ∧ ∃ b, f a = .ok b ∧ Q a b) : ∃ ys : List β, compR xs c f = .ok ys ∧ ys.length = xs.length ∧ ∀ (k : Nat) a, xs[k]? = some a → ∃ b, ys[k]? = some b ∧ Q a b := by
  induction xs with
  | nil => exact ⟨[], rfl, rfl, fun k a h => by simp at h⟩
  | cons a r ih =>
    obtain ⟨h1, b, h2, h3⟩ := h a List.mem_cons_self
    obtain ⟨ys, e, hl, hq⟩ := ih fun b m => h b (List.mem_cons_of_mem _ m)
    refine ⟨b :: ys, ?_, by simp [hl], fun k x hx => ?_⟩
    · unfold compR
      rw [h1, h2, e]
      rfl
    · cases k with
      | zero => simp at hx; subst hx; exact ⟨b, rfl, h3⟩
      | succ k => exact hq k x (by simpa using hx)
theorem rngR_ok {j : Int} (h : -(2 ^ 62) ≤ j ∧ j ≤ 2 ^ 24) : rngR j = .ok (uptoI 0 j.toNat) := if_pos h
theorem rngR_nat {n : Nat} (h : n ≤ 16777216) : rngR (n : Int) = .ok (uptoI 0 n) := by rw [rngR_ok (by omega)]; rfl
theorem rng2R_ok {i j : Int} (h : -(2 ^ 23) ≤ i ∧ i ≤ 2 ^ 23 ∧ -(2 ^ 23) ≤ j ∧ j ≤ 2 ^ 23) : rng2R i j = .ok (uptoI i (j - i).toNat) := if_pos h
@[simp] theorem uptoI_length (lo : Int) (n : Nat) : (uptoI lo n).length = n := by unfold uptoI; rw [List.length_map, List.length_range]
theorem uptoI_get {lo : Int} {n k : Nat} {x : Int} (h : (uptoI lo n)[k]? = some x) : k < n ∧ x = lo + k := by
  unfold uptoI at h
  rw [List.getElem?_map] at h
  obtain ⟨j, h1, h2⟩ := Option.map_eq_some_iff.mp h
  have hk : k < n := by
    have := (List.getElem?_eq_some_iff.mp h1).1
    rw [List.length_range] at this
    exact this
  rw [List.getElem?_range hk] at h1
  cases h1
  exact ⟨hk, h2.symm⟩
@[simp] theorem mem_uptoI {lo x : Int} {n : Nat} : x ∈ uptoI lo n ↔ lo ≤ x ∧ x < lo + n := by
  unfold uptoI
  rw [List.mem_map]
  constructor
  · rintro ⟨k, m, rfl⟩
    have := List.mem_range.mp m
    omega
  · intro h
    exact ⟨(x - lo).toNat, List.mem_range.mpr (by omega), by omega⟩
theorem uptoI_map (f : Int → β) (n : Nat) : (uptoI 0 n).map f = (List.range n).map fun (k : Nat) => f k := by
  unfold uptoI
  rw [List.map_map]
  exact List.map_congr_left fun k _ => by simp
theorem appR_ok {xs : List α} {a : α × Unit} (h : xs.length < 16777216) : appR xs a = .ok (xs ++ [a.1]) := if_pos h
theorem extR_ok {xs : List α} {a : List α × Unit} (h : xs.length + a.1.length ≤ 16777216) : extR xs a = .ok (xs ++ a.1) := if_pos h
theorem insR_ok {xs : List α} {p : Int × α × Unit} (h : xs.length < 16777216 ∧ 0 ≤ p.1 ∧ p.1 < 2 ^ 62) : insR xs p = .ok (xs.take p.1.toNat ++ ([p.2.1] ++ xs.drop p.1.toNat)) := if_pos h
theorem mulR_ok {i j : Int} (h : (-(2 ^ 62) < i ∧ i < 2 ^ 62) ∨ (-(2 ^ 62) < j ∧ j < 2 ^ 62)) : mulR i j = .ok (i * j) := if_pos h
theorem modR_ok {i j : Int} (h : 0 < j) : modR i j = .ok (i % j) := if_pos h
theorem divR_ok {i j : Int} (h : 0 < j ∧ j < 2 ^ 62) : divR i j = .ok (i / j) := if_pos h
theorem catR_ok {xs ys : List α} (h : xs.length + ys.length ≤ 16777216) : catR xs ys = .ok (xs ++ ys) := if_pos h
theorem repR_ok {xs : List α} {k : Int} (h : -(2 ^ 62) < k ∧ k < 2 ^ 62 ∧ xs.length * k.toNat ≤ 16777216) : repR xs k = .ok (List.replicate k.toNat xs).flatten := if_pos h
theorem flat_one (n : Nat) (a : α) : (List.replicate n [a]).flatten = List.replicate n a := by
  induction n with
  | zero => rfl
  | succ n ih => rw [List.replicate_succ, List.flatten_cons, ih, List.replicate_succ]; rfl
theorem repR_one {a : α} {k : Int} (h : 0 ≤ k ∧ k ≤ 16777216) : repR [a] k = .ok (List.replicate k.toNat a) := by
  rw [repR_ok (by simp; omega), flat_one]
theorem setR_ok {xs : List α} {p : α × Int × Unit} (h : 0 ≤ p.2.1 ∧ p.2.1 < xs.length) : setR xs p = .ok (xs.set p.2.1.toNat p.1) := by
  unfold setR ixN
  rw [if_pos h.1, if_pos h.2]
  rfl
theorem at_ok {xs : List α} {i : Int} {a : α} (h0 : 0 ≤ i) (h : xs[i.toNat]? = some a) : ofO (atI xs i) = .ok a := by
  have := (List.getElem?_eq_some_iff.mp h).1
  rw [atI_pos h0 (by omega), h]
  rfl
theorem at_nat {xs : List α} {k : Nat} {a : α} (h : xs[k]? = some a) : ofO (atI xs (k : Int)) = .ok a := at_ok (by omega) (by simpa using h)
theorem at_ex {xs : List α} {i : Int} (h : 0 ≤ i ∧ i < xs.length) : ∃ a, ofO (atI xs i) = .ok a ∧ xs[i.toNat]? = some a ∧ a ∈ xs := by
  have hl : i.toNat < xs.length := by omega
  refine ⟨xs[i.toNat], at_ok h.1 (List.getElem?_eq_getElem hl), List.getElem?_eq_getElem hl, List.getElem_mem hl⟩
theorem at_last {xs : List α} (h : xs ≠ []) : ofO (atI xs (-1)) = .ok (xs.getLast h) := by
  rw [atI_last (List.getLast?_eq_some_getLast h)]
  rfl
theorem dputR_ok {κ : Type} [DecidableEq κ] {l : List (κ × β)} {p : β × κ × Unit} (h : l.length < 16777216) : dputR l p = .ok (dput l p.2.1 p.1) := if_pos h
theorem dput_length {κ : Type} [DecidableEq κ] (l : List (κ × β)) (k : κ) (v : β) : (dput l k v).length ≤ l.length + 1 := by
  unfold dput
  split
  · simp
  · simp
/-- each drawn number below its size -/
def DB : List Int → List Int → Prop
  | [], [] => True
  | v :: d, s :: r => (0 ≤ v ∧ v < s) ∧ DB d r
  | _, _ => False
theorem DB.cons {d r : List Int} {s : Int} (h : DB d (s :: r)) : ∃ v d', d = v :: d' ∧ (0 ≤ v ∧ v < s) ∧ DB d' r := by
  cases d with
  | nil => exact h.elim
  | cons v d => exact ⟨v, d, rfl, h.1, h.2⟩
theorem DB.nil {d : List Int} (h : DB d []) : d = [] := by
  cases d with
  | nil => rfl
  | cons _ _ => exact h.elim
theorem DB.len : ∀ {d r : List Int}, DB d r → d.length = r.length
  | [], [], _ => rfl
  | _ :: _, _ :: _, h => congrArg (· + 1) (DB.len h.2)
  | [], _ :: _, h => h.elim
  | _ :: _, [], h => h.elim
theorem DB.get : ∀ {d r : List Int} {k : Nat} {s : Int}, DB d r → r[k]? = some s → ∃ v, d[k]? = some v ∧ 0 ≤ v ∧ v < s
  | [], [], _, _, _, e => nomatch e
  | v :: _, _ :: _, 0, _, h, e => by cases e; exact ⟨v, rfl, h.1⟩
  | _ :: d, _ :: r, k + 1, s, h, e => DB.get (d := d) (r := r) (k := k) h.2 (by simpa using e)
  | [], _ :: _, _, _, h, _ => h.elim
  | _ :: _, [], _, _, h, _ => h.elim
theorem DB.append : ∀ {d r d' r' : List Int}, DB d r → DB d' r' → DB (d ++ d') (r ++ r')
  | [], [], _, _, _, h => h
  | _ :: _, _ :: _, _, _, h, h' => ⟨h.1, DB.append h.2 h'⟩
  | [], _ :: _, _, _, h, _ => h.elim
  | _ :: _, [], _, _, h, _ => h.elim
theorem DB.split : ∀ {r r' d : List Int}, DB d (r ++ r') → ∃ d1 d2, d = d1 ++ d2 ∧ DB d1 r ∧ DB d2 r'
  | [], _, d, h => ⟨[], d, rfl, trivial, h⟩
  | s :: r, r', d, h => by
    obtain ⟨v, d', rfl, hv, h'⟩ := h.cons
    obtain ⟨d1, d2, rfl, h1, h2⟩ := DB.split (r := r) h'
    exact ⟨v :: d1, d2, rfl, ⟨hv, h1⟩, h2⟩
end
end TL
namespace TL
open PySem PySem.Spec PyProof.Rows L2
section
variable {κ β : Type} [DecidableEq κ]
/-- rows without doubles, in the order of first sight -/
def addK (l : List κ) (k : κ) : List κ := if k ∈ l then l else l ++ [k]
theorem addK_mem {l : List κ} {k x : κ} : x ∈ addK l k ↔ x ∈ l ∨ x = k := by
  unfold addK
  split
  · rename_i h
    exact ⟨.inl, fun z => z.elim id fun e => by rw [e]; exact h⟩
  · rw [List.mem_append, List.mem_singleton]
theorem addK_nodup {l : List κ} {k : κ} (h : l.Nodup) : (addK l k).Nodup := by
  unfold addK
  split
  · exact h
  · rename_i n
    refine List.nodup_append.mpr ⟨h, by simp, fun a ha b hb e => ?_⟩
    rw [List.mem_singleton.mp hb] at e
    exact n (by rw [← e]; exact ha)
theorem addK_length (l : List κ) (k : κ) : (addK l k).length ≤ l.length + 1 := by
  unfold addK
  split
  · omega
  · simp
def addAllK (l ks : List κ) : List κ := ks.foldl addK l
theorem addAllK_mem {x : κ} : ∀ {ks l : List κ}, x ∈ addAllK l ks ↔ x ∈ l ∨ x ∈ ks
  | [], _ => by simp [addAllK]
  | p :: r, l => by
    show x ∈ addAllK (addK l p) r ↔ _
    rw [addAllK_mem, addK_mem, List.mem_cons, or_assoc]
theorem addAllK_nodup : ∀ {ks l : List κ}, l.Nodup → (addAllK l ks).Nodup
  | [], _, h => h
  | _ :: r, _, h => addAllK_nodup (ks := r) (addK_nodup h)
theorem dhas_iff {l : List (κ × β)} {k : κ} : dhas l k = true ↔ k ∈ l.map (·.1) := by
  unfold dhas
  rw [List.any_eq_true, List.mem_map]
  constructor
  · rintro ⟨p, m, e⟩
    exact ⟨p, m, of_decide_eq_true e⟩
  · rintro ⟨p, m, e⟩
    exact ⟨p, m, decide_eq_true e⟩
theorem dput_keys (l : List (κ × β)) (k : κ) (v : β) : (dput l k v).map (·.1) = addK (l.map (·.1)) k := by
  unfold dput addK
  by_cases h : dhas l k = true
  · rw [if_pos h, if_pos (dhas_iff.mp h), List.map_map]
    refine List.map_congr_left fun p _ => ?_
    show (if p.1 = k then (p.1, v) else p).1 = p.1
    split <;> rfl
  · rw [if_neg h, if_neg (fun z => h (dhas_iff.mpr z)), List.map_append]
    rfl
theorem dget_dput (l : List (κ × β)) (k x : κ) (v : β) : dget (dput l k v) x = if x = k then some v else dget l x := by
  unfold dput
  by_cases h : dhas l k = true
  · rw [if_pos h]
    induction l with
    | nil => cases h
    | cons p r ih =>
      rw [List.map_cons]
      by_cases e : p.1 = k
      · rw [if_pos e]
        unfold dget
        by_cases ex : x = k
        · rw [if_pos ex, if_pos (by rw [ex]; exact e)]
        · rw [if_neg ex, if_neg (by rw [e]; exact fun z => ex z.symm)]
          rw [if_neg (by rw [e]; exact fun z => ex z.symm)]
          by_cases hr : dhas r k = true
          · rw [ih hr, if_neg ex]
          · have : r.map (fun p => if p.1 = k then (p.1, v) else p) = r := by
              rw [List.map_congr_left (g := id), List.map_id]
              intro q m
              exact if_neg fun z => hr (dhas_iff.mpr (List.mem_map.mpr ⟨q, m, z⟩))
            rw [this]
      · rw [if_neg e]
        have hr : dhas r k = true := by
          have := dhas_iff.mp h
          rw [List.map_cons, List.mem_cons] at this
          rcases this with z | z
          · exact absurd z.symm e
          · exact dhas_iff.mpr z
        unfold dget
        rw [ih hr]
        by_cases ex : x = k
        · rw [if_pos ex, if_pos ex, if_neg (by rw [ex]; exact e)]
        · simp only [if_neg ex]
  · rw [if_neg h]
    have hn : dget l k = none := by
      have := dget_some l k
      rw [Bool.eq_false_iff.mpr h] at this
      simpa using this
    induction l with
    | nil =>
      show (if k = x then some v else none) = _
      by_cases ex : x = k
      · rw [if_pos ex, if_pos ex.symm]
      · rw [if_neg ex, if_neg fun z => ex z.symm]
        rfl
    | cons p r ih =>
      have h1 : ¬ p.1 = k := fun z => h (dhas_iff.mpr (List.mem_map.mpr ⟨p, List.mem_cons_self, z⟩))
      have h2 : ¬ dhas r k = true := fun z => h (dhas_iff.mpr (List.mem_cons_of_mem _ (dhas_iff.mp z)))
      unfold dget at hn
      rw [if_neg h1] at hn
      rw [List.cons_append]
      unfold dget
      rw [ih h2 hn]
      by_cases ex : x = k
      · rw [if_pos ex, if_pos ex, if_neg (by rw [ex]; exact h1)]
      · simp only [if_neg ex]
end
theorem ddP_length : ∀ (l : List (Int × Int)), (ddP l).length ≤ l.length
  | [] => Nat.le_refl _
  | q :: r => by
    unfold ddP
    have := ddP_length r
    split
    · rw [List.length_cons]; omega
    · rw [List.length_cons, List.length_cons]; omega
/-- a dict of marks -/
theorem marks_ok {α : Type} [DecidableEq α] (xs : List α) : ∀ acc : List (α × Bool), acc.length + xs.length ≤ 16777216 → ∃ l, dcR xs (fun _ => R.ok true) (fun x => R.ok x) (fun _ => R.ok true) acc = .ok l ∧ l.map (·.1) = addAllK (acc.map (·.1)) xs := by
  induction xs with
  | nil => intro acc _; exact ⟨acc, rfl, rfl⟩
  | cons a r ih =>
    intro acc h
    rw [List.length_cons] at h
    have hl := dput_length acc a true
    obtain ⟨l, e, hk⟩ := ih (dput acc a true) (by omega)
    refine ⟨l, ?_, by rw [hk, dput_keys]; rfl⟩
    unfold dcR
    simp only [R.bind_ok, if_true]
    rw [if_pos (by omega)]
    exact e
end TL
/-! Y7: typed raise, exceptions within suites -/
namespace TL
open PySem PySem.Spec PyProof.Rows L2

def xfR (errs : Errs) (C : Str) (fs : List (Str × D)) (f : Str) : R D := if hasF errs C f then ofO (fs.lookup f) else .stuck
def isXR (errs : Errs) (C x : Str) : R Bool := if isErr errs C && (isErr errs x || x == "ValueError") then .ok (subX C x) else .stuck
theorem lookup_frzF (f : Str) : ∀ fs : List (Str × D), (frzF fs).lookup f = (fs.lookup f).map D.frz
  | [] => rfl
  | (k, d) :: r => by
    show List.lookup f ((k, d.frz) :: frzF r) = _
    rw [List.lookup_cons, List.lookup_cons]
    cases h : f == k with
    | true => rfl
    | false => exact lookup_frzF f r
theorem inv_xr {x : D} {C : Str} {zs : List (Str × D)} (h : x.frz = .xr C zs) : ∃ ys, x = .xr C ys ∧ frzF ys = zs := by
  cases x with
  | xr C' ys =>
    simp [D.frz] at h
    exact ⟨ys, by rw [h.1], h.2⟩
  | _ => simp [D.frz] at h
section
variable {α β τ : Type} {Γ : List Sl} {errs : Errs} {C : Str} {fs : List (Str × D)}
theorem er_xf (i : Nat) (f : Str) (h : Γ[i]? = some (.w (.xr C fs))) : ER false Γ (eXf errs i f) (xfR errs C fs f) eX := ⟨fun ρ k => by
  obtain ⟨y, h1, h2⟩ := k.getW h
  obtain ⟨ys, rfl, h3⟩ := inv_xr h2
  unfold eXf xfR
  rw [h1]
  dsimp only
  by_cases hh : hasF errs C f = true
  · rw [if_pos hh, if_pos hh, ← h3, lookup_frzF]
    cases ys.lookup f with
    | none => trivial
    | some d => exact ⟨d, rfl, (frz_frz d).symm, fun z => nomatch z⟩
  · rw [if_neg hh, if_neg hh]
    trivial⟩
theorem er_isX (i : Nat) (x : Str) (h : Γ[i]? = some (.w (.xr C fs))) : ER false Γ (eIsX errs i x) (isXR errs C x) eB := ⟨fun ρ k => by
  obtain ⟨y, h1, h2⟩ := k.getW h
  obtain ⟨ys, rfl, h3⟩ := inv_xr h2
  unfold eIsX isXR
  rw [h1]
  dsimp only
  split
  · exact ⟨_, rfl, rfl, fun z => nomatch z⟩
  · trivial⟩
def raiseR (x : Str) (names : List Str) (ds : List D) : R τ := if valL ds && (ds.length == names.length && decide (names.length ≤ 1000)) then .exc x (names.zip ds).reverse else .stuck
theorem br_raise {x : Str} {names : List Str} {fa : En → R (List D)} {t : R α} {e : α → List D} {Z : Out → τ → Prop} (h : EA Γ fa t e) : BR Γ (sRaise x names fa) (t.bind fun a => raiseR x names (e a)) Z := ⟨fun ρ k => by
  have := h.run ρ k
  unfold sRaise
  cases t with
  | ok a =>
    obtain ⟨ds, h1, h2⟩ := this
    rw [h1]
    show RefO _ (raiseR x names (e a)) Z
    unfold raiseR
    split
    · rename_i hc
      obtain ⟨hv, hl⟩ := Bool.and_eq_true_iff.mp hc
      have e1 : frzL ds = ds := frzL_val (by rw [h2]; exact hv)
      rw [lift_ok, ← e1, h2, if_pos hc]
      exact ⟨ρ, rfl⟩
    · trivial
  | exc C fs => rw [show fa ρ = _ from this]; exact ⟨ρ, rfl⟩
  | stuck => trivial⟩
/-! calls within suites -/
def hotR (ds : List D) (t : R β) : R β := if noxL ds then t else .stuck
theorem er_callH {o : Bool} {F : List D → R D} {fa : En → R (List D)} {ta : R α} {es : α → List D} {y : α → R β} {eb : β → D} (hf : RefF o F es y eb) (ha : EA Γ fa ta es) : ER o Γ (eCallH F fa) (ta.bind fun a => hotR (es a) (y a)) eb := ⟨fun ρ k => by
  have := ha.run ρ k
  unfold eCallH
  cases ta with
  | ok a =>
    obtain ⟨ds, h1, h2⟩ := this
    rw [h1]
    show RefE o (if noxL ds = true then F (frzL ds) else .stuck) (hotR (es a) (y a)) eb
    unfold hotR
    rw [← h2, noxL_frz]
    by_cases hx : noxL ds = true
    · rw [if_pos hx, if_pos hx, h2]
      exact (hf a).run
    · rw [if_neg hx, if_neg hx]
      trivial
  | exc C fl => rw [show fa ρ = _ from this]; exact rfl
  | stuck => trivial⟩
/-! bodies of try -/
/-- an exception leaves the frame as it was -/
structure Ex0 (f : En → Out) : Prop where
  eq : ∀ ρ ρ' C fs, f ρ = .exc ρ' C fs → ρ' = ρ
theorem lift_ex0 {α : Type} {x : R α} {ρ ρ' : En} {k : α → Out} {C : Str} {fs : List (Str × D)} (hk : ∀ a ρ' C fs, k a = .exc ρ' C fs → ρ' = ρ) (h : lift x ρ k = .exc ρ' C fs) : ρ' = ρ := by
  cases x with
  | ok a => exact hk a _ _ _ h
  | exc C fs => rw [lift_exc] at h; cases h; rfl
  | stuck => cases h
theorem ex0_set {i : Nat} {S : List Nat} {fe : En → R D} : Ex0 (sSet i S fe) := ⟨fun ρ ρ' C fs h => lift_ex0 (fun a _ _ _ z => by cases z) h⟩
theorem ex0_drop {fe : En → R D} : Ex0 (sDrop fe) := ⟨fun ρ ρ' C fs h => lift_ex0 (fun a _ _ _ z => by cases z) h⟩
theorem ex0_ret {fe : En → R D} : Ex0 (sRet fe) := ⟨fun ρ ρ' C fs h => lift_ex0 (fun a _ _ _ z => by cases z) h⟩
theorem ex0_nx : Ex0 sNx := ⟨fun ρ ρ' C fs h => by cases h⟩
theorem ex0_raise {x : Str} {names : List Str} {fa : En → R (List D)} : Ex0 (sRaise x names fa) := ⟨fun ρ ρ' C fs h => lift_ex0 (fun a ρ' C fs z => by
  split at z
  · cases z; rfl
  · cases z) h⟩
theorem ex0_if {c : En → R Bool} {f g : En → Out} (hf : Ex0 f) (hg : Ex0 g) : Ex0 (sIf c f g) := ⟨fun ρ ρ' C fs h => lift_ex0 (fun b ρ' C fs z => by
  cases b with
  | true => exact hf.eq _ _ _ _ z
  | false => exact hg.eq _ _ _ _ z) h⟩
/-- behind the suite: what stands is free of exceptions -/
def gdR (p : τ → Bool) (t : R τ) : R τ := match t with
  | .ok a => if p a then .ok a else .stuck
  | _ => .stuck
def Sl.nox : Sl → Bool
  | .any => true
  | .w d => d.nox
  | .o d => d.nox
theorem Fits.clr {i : Nat} {ρ : En} (h : Fits Γ ρ) (hx : Γ.all Sl.nox = true) (hi : Γ[i]? = some .any) : Fits Γ (clr (ρ.set i none)) := by
  have h1 : Fits (Γ.set i .any) (ρ.set i none) := h.set (i := i) (s := .any) (x := none) trivial
  rw [set_same hi] at h1
  generalize ρ.set i none = ρ1 at h1
  clear h hi
  induction Γ generalizing ρ1 with
  | nil =>
    cases ρ1 with
    | nil => trivial
    | cons _ _ => exact h1.elim
  | cons s Γ ih =>
    cases ρ1 with
    | nil => exact h1.elim
    | cons x q =>
      rw [List.all_cons] at hx
      obtain ⟨hs, hr⟩ := Bool.and_eq_true_iff.mp hx
      refine ⟨?_, ih hr q h1.2⟩
      have hf := h1.1
      cases s with
      | any => trivial
      | w d =>
        obtain ⟨y, rfl, e⟩ := hf
        have hn : y.nox = true := by rw [← nox_frz, e]; exact hs
        exact ⟨y, by dsimp only; rw [if_pos hn], e⟩
      | o d =>
        obtain ⟨y, rfl, e, ho⟩ := hf
        have hn : y.nox = true := by rw [← nox_frz, e]; exact hs
        exact ⟨y, by dsimp only; rw [if_pos hn], e, ho⟩
/-- how the ends of a suite pass -/
structure OutOk (i : Nat) (p : τ → Bool) (Z : Out → τ → Prop) : Prop where
  ok : ∀ x a, Z x a → p a = true → Z (outS (some i) x) a
theorem outok_ZF {o : Bool} {e : β → D} (i : Nat) : OutOk i (fun b => (e b).nox) (ZF o e) := ⟨fun x a ⟨d, h, h2, h3⟩ hp => by
  have hn : d.nox = true := by rw [← nox_frz, h2]; exact hp
  rcases h with rfl | ⟨rfl, ρ, rfl⟩
  · exact ⟨d, .inl (by show (if d.nox = true then Out.ret d else .stuck) = _; rw [if_pos hn]), h2, h3⟩
  · exact ⟨.non, .inr ⟨rfl, _, rfl⟩, h2, h3⟩⟩
theorem outok_ZJ {σ : Type} {Γl : σ → List Sl} (i : Nat) (hi : ∀ s, (Γl s)[i]? = some .any) : OutOk i (fun s => (Γl s).all Sl.nox) (ZJ Γl) := ⟨fun x s ⟨ρ, h, hf⟩ hp => by
  subst h
  exact ⟨_, rfl, hf.clr hp (hi s)⟩⟩
/-- the clauses -/
structure HR (errs : Errs) (Γ : List Sl) (hs : List Hd) (th : Str → List (Str × D) → R τ) (Z : Out → τ → Prop) : Prop where
  run : ∀ C fs ρ, Fits Γ ρ → RefO (tryH errs C fs ρ hs) (th C fs) Z
theorem hr_nil {Z : Out → τ → Prop} : HR errs Γ [] (fun C fs => .exc C fs) Z := ⟨fun C fs ρ _ => ⟨ρ, rfl⟩⟩
def clR (errs : Errs) (x : Str) (th rest : Str → List (Str × D) → R τ) : Str → List (Str × D) → R τ := fun C fs => if isErr errs x then (if subX C x then th C fs else rest C fs) else .stuck
theorem hr_as {Z : Out → τ → Prop} {x : Str} {i : Nat} {f : En → Out} {r : List Hd} {th rest : Str → List (Str × D) → R τ} {p : τ → Bool} (hi : i < Γ.length) (ho : OutOk i p Z)
    (h : ∀ C fs, BR (Γ.set i (.w (.xr C (frzF fs)))) f (th C fs) Z) (hr : HR errs Γ r rest Z) : HR errs Γ ((x, some i, f) :: r) (clR errs x (fun C fs => gdR p (th C fs)) rest) Z := ⟨fun C fs ρ k => by
  unfold tryH clR
  have hl : okI ρ (some i) = true := by
    unfold okI
    rw [← k.len]
    exact decide_eq_true hi
  rw [hl, Bool.and_true]
  by_cases hx : isErr errs x = true
  · rw [if_pos hx, if_pos hx]
    by_cases hs : subX C x = true
    · rw [if_pos hs, if_pos hs]
      have k2 : Fits (Γ.set i (.w (.xr C (frzF fs)))) (ρ.set i (some (.xr C fs))) := k.set ⟨_, rfl, rfl⟩
      have q := (h C fs).run _ k2
      show RefO (outS (some i) (f (ρ.set i (some (.xr C fs))))) (gdR p (th C fs)) Z
      generalize th C fs = tt at q
      cases tt with
      | ok a =>
        show RefO _ (if p a = true then .ok a else .stuck) Z
        by_cases hp : p a = true
        · rw [if_pos hp]
          exact ho.ok _ a q hp
        · rw [if_neg hp]
          trivial
      | exc C fs => trivial
      | stuck => trivial
    · rw [if_neg hs, if_neg hs]
      exact hr.run C fs ρ k
  · rw [if_neg hx, if_neg hx]
    trivial⟩
/-- try -/
def tryR (errs : Errs) (t : R τ) (th : Str → List (Str × D) → R τ) : R τ := match t with
  | .exc C fs => if isErr errs C then th C fs else .stuck
  | t => t
theorem br_try {Z : Out → τ → Prop} {fb : En → Out} {hs : List Hd} {t : R τ} {th : Str → List (Str × D) → R τ} (hb : BR Γ fb t Z) (hx : Ex0 fb) (hz : ∀ a ρ' C fs, ¬ Z (.exc ρ' C fs) a) (hh : HR errs Γ hs th Z) : BR Γ (sTry errs fb hs) (tryR errs t th) Z := ⟨fun ρ k => by
  have q := hb.run ρ k
  unfold sTry tryR
  cases t with
  | ok a =>
    have q' : Z (fb ρ) a := q
    show Z _ a
    cases e : fb ρ with
    | exc ρ' C fs => rw [e] at q'; exact (hz a ρ' C fs q').elim
    | nx _ => rw [e] at q'; exact q'
    | ret _ => rw [e] at q'; exact q'
    | bk _ => rw [e] at q'; exact q'
    | ct _ => rw [e] at q'; exact q'
    | stuck => rw [e] at q'; exact q'
  | exc C fs =>
    obtain ⟨ρ', e⟩ := q
    obtain rfl := hx.eq _ _ _ _ e
    rw [e]
    dsimp only
    by_cases hc : isErr errs C = true
    · rw [if_pos hc, if_pos hc]
      exact hh.run C fs _ k
    · rw [if_neg hc, if_neg hc]
      trivial
  | stuck => trivial⟩
end
end TL
/-! Y8: typed walks of texts and numbered lists, written dicts, signs in texts -/
namespace TL
open PySem PySem.Spec PyProof.Rows L2
section
variable {α β γ τ : Type} {Γ : List Sl} {ea : α → D} {eb : β → D}
def smallR (xs : List α) : R (List α) := if xs.length ≤ 16777216 then .ok xs else .stuck
def numT : Nat → List α → List (Int × α)
  | _, [] => []
  | k, a :: r => ((k : Int), a) :: numT (k + 1) r
theorem nums_map : ∀ (k : Nat) (xs : List α), nums k (xs.map ea) = (numT k xs).map (eP eI ea)
  | _, [] => rfl
  | k, a :: r => by
    show D.tup [.int k, ea a] :: nums (k + 1) (r.map ea) = _
    rw [nums_map (k + 1) r]
    rfl
theorem numT_len : ∀ (k : Nat) (xs : List α), (numT k xs).length = xs.length
  | _, [] => rfl
  | k, a :: r => congrArg (· + 1) (numT_len (k + 1) r)
theorem ir_en {fe : En → R D} {t : R (List α)} (h : ER false Γ fe t (eL ea)) : IR Γ (iEn (eCons fe eNil)) (t.bind fun xs => smallR (numT 0 xs)) (eP eI ea) := ⟨fun ρ q => by
  have := h.run ρ q
  unfold iEn eCons
  cases t with
  | ok a =>
    obtain ⟨d, h1, h2, h3⟩ := this
    obtain ⟨o, ys, rfl, h4⟩ := inv_lst h2
    rw [h1]
    show RefI (small (nums 0 (frzL ys))) (smallR (numT 0 a)) _
    unfold small smallR
    rw [h4, nums_map, List.length_map]
    split
    · exact rfl
    · trivial
  | exc C fs => rw [show fe ρ = _ from this]; exact rfl
  | stuck => trivial⟩
def signT (z : Str) : List Str := z.cps.toList.map fun c => ⟨#[c]⟩
theorem ir_str {fe : En → R D} {t : R Str} (h : ER false Γ fe t eS) : IR Γ (iSeq2 fe) (t.bind fun z => smallR (signT z)) eS := ⟨fun ρ q => by
  have := h.run ρ q
  unfold iSeq2
  cases t with
  | ok z =>
    obtain ⟨d, h1, h2, h3⟩ := this
    have hd : d = .str z := inv_str h2
    subst hd
    rw [h1]
    show RefI (small (signs z)) (smallR (signT z)) eS
    unfold small smallR signs signT
    rw [List.length_map, List.length_map]
    split
    · show R.ok _ = R.ok _
      rw [List.map_map]
      rfl
    · trivial
  | exc C fs => rw [show fe ρ = _ from this]; exact rfl
  | stuck => trivial⟩
/-! written dicts with texts -/
theorem o_kix {tab : List (Str × D)} {tt : List (Str × Str)} (h : tab = tt.map fun p => (p.1, D.str p.2)) : Op1 false (kixD tab) eS (fun z => ofO (tt.lookup z)) eS := fun z x hx => by
  have hd : x = .str z := inv_str hx
  subst hd h
  show RefE false (ofO ((tt.map fun p => (p.1, D.str p.2)).lookup z)) _ eS
  have e : (tt.map fun p => (p.1, D.str p.2)).lookup z = (tt.lookup z).map D.str := by
    induction tt with
    | nil => rfl
    | cons p r ih =>
      obtain ⟨k, v⟩ := p
      rw [List.map_cons, List.lookup_cons, List.lookup_cons]
      cases hk : z == k with
      | true => rfl
      | false => exact ih
  rw [e]
  show RefE false _ (ofO (tt.lookup z)) eS
  generalize tt.lookup z = oo
  cases oo with
  | none => exact True.intro
  | some v => exact ⟨.str v, rfl, rfl, fun z => nomatch z⟩
/-! signs in texts -/
def signIn (neg : Bool) (w z : Str) : R Bool := match w.cps.toList with
  | [c] => .ok (if neg then !decide (c ∈ z.cps.toList) else decide (c ∈ z.cps.toList))
  | _ => .stuck
theorem o_inW {neg : Bool} : Op2 false (gInG neg) eS eS (signIn neg) eB := fun w z x y hx hy => by
  have h1 : x = .str w := inv_str hx
  have h2 : y = .str z := inv_str hy
  subst h1 h2
  show RefE false (ofO (match w.cps.toList with
      | [c] => some (D.bl (if neg then !decide (c ∈ z.cps.toList) else decide (c ∈ z.cps.toList)))
      | _ => none)) (signIn neg w z) eB
  unfold signIn
  split
  · exact ⟨_, rfl, rfl, fun z => nomatch z⟩
  · trivial
/-! d.get(pair, x) of a written dict -/
def pairN (p : Int × Int) : NestedKey := .tup [.num p.1, .num p.2]
theorem o_kget {tab : List (NestedKey × D)} {tt : List ((Int × Int) × Str)} (h : tab = tt.map fun p => (pairN p.1, D.str p.2)) : Op2 false (kgetD tab) pr eS (fun p z => .ok ((tt.lookup p).getD z)) eS := fun p z x y hx hy => by
  have h1 : x = pr p := inv_val hx
  have h2 : y = .str z := inv_str hy
  subst h1 h2
  have hk : nkD (pr p) = some (pairN p) := by
    simp [pr, nkD, nkL, pairN]
  have hd : (pairN p).depth ≤ 8 := by
    simp [pairN, NestedKey.depth, NestedKey.depthAll]
  have e : lookN tab (pairN p) = (tt.lookup p).map D.str := by
    subst h
    unfold lookN
    induction tt with
    | nil => rfl
    | cons q r ih =>
      obtain ⟨k, v⟩ := q
      rw [List.map_cons, List.lookup_cons]
      by_cases hkp : p = k
      · subst hkp
        rw [List.find?_cons_of_pos (by simp)]
        simp
      · have hn : ¬ (pairN k = pairN p) := fun z => hkp (by
          unfold pairN at z
          injection z with z
          injection z with z1 z2
          injection z2 with z2 _
          injection z1 with z1
          injection z2 with z2
          exact Prod.ext z1.symm z2.symm)
        rw [List.find?_cons_of_neg (by simpa using hn)]
        have hb : (p == k) = false := by simpa using hkp
        rw [hb]
        exact ih
  have hp : isTup (pr p) = true := rfl
  show RefE false (ofO (kgetD tab (pr p) (.str z))) _ eS
  unfold kgetD
  rw [if_pos hp, hk]
  show RefE false (ofO (if (pairN p).depth ≤ 8 then some ((lookN tab (pairN p)).getD (.str z)) else none)) _ eS
  rw [if_pos hd, e]
  show RefE false _ (.ok ((tt.lookup p).getD z)) eS
  generalize tt.lookup p = oo
  cases oo with
  | none => exact ⟨.str z, rfl, rfl, fun z => nomatch z⟩
  | some v => exact ⟨.str v, rfl, rfl, fun z => nomatch z⟩
end
end TL
/-! Y9: the ends of a typed try -/
namespace TL
open PySem PySem.Spec PyProof.Rows L2
section
variable {α β γ σ τ : Type} {Γ : List Sl} {Γl : σ → List Sl} {o : Bool} {e : β → D} {f k : En → Out} {fe : En → R D}
/-- falls through with its frame, or gives an answer -/
def ZT (Γl : σ → List Sl) (o : Bool) (e : β → D) : Out → Ct σ β → Prop := fun x c => match c with
  | .nx s => ∃ ρ', x = .nx ρ' ∧ Fits (Γl s) ρ'
  | .bk _ => False
  | .rt b => ∃ d, x = .ret d ∧ d.frz = e b ∧ (o = true → ownT d = true)
theorem br_tn {s : σ} (h : Sle Γ (Γl s)) : BR Γ sNx (.ok (.nx s)) (ZT (β := β) Γl o e) := ⟨fun ρ q => ⟨ρ, rfl, q.le h⟩⟩
theorem br_tr {t : R β} (h : ER o Γ fe t e) : BR Γ (sRet fe) (t.bind fun b => .ok (.rt b)) (ZT Γl o e) := ⟨fun ρ q => by
  have := h.run ρ q
  rw [sRet_app]
  cases t with
  | ok a => obtain ⟨d, h1, h2, h3⟩ := this; rw [h1]; exact ⟨d, rfl, h2, h3⟩
  | exc C fs => rw [show fe ρ = _ from this]; exact ⟨ρ, rfl⟩
  | stuck => trivial⟩
theorem br_trp {b : β} (h : ER o Γ fe (.ok b) e) : BR Γ (sRet fe) (.ok (.rt b)) (ZT Γl o e) := br_tr h
theorem br_trV {i : Nat} {b : β} (h : Γ[i]? = some (if o then .o (e b) else .w (e b))) : BR Γ (sRetV i) (.ok (.rt b)) (ZT Γl o e) := ⟨fun ρ q => by
  rw [sRetV_app]
  cases o with
  | true => obtain ⟨y, h1, h2, h3⟩ := q.getO h; rw [h1]; exact ⟨y, rfl, h2, fun _ => h3⟩
  | false => obtain ⟨y, h1, h2⟩ := q.getW h; rw [h1]; exact ⟨y, rfl, h2, fun z => nomatch z⟩⟩
theorem br_trVw {i : Nat} {b : β} (h : Γ[i]? = some (.o (e b))) : BR Γ (sRetV i) (.ok (.rt b)) (ZT Γl false e) := ⟨fun ρ q => by
  rw [sRetV_app]
  obtain ⟨y, h1, h2, h3⟩ := q.getO h; rw [h1]; exact ⟨y, rfl, h2, fun z => nomatch z⟩⟩
theorem br_trN : BR Γ sRetN (.ok (.rt ())) (ZT Γl false eU) := ⟨fun ρ q => ⟨.non, rfl, rfl, fun z => nomatch z⟩⟩
theorem br_trNo : BR Γ sRetN (.ok (.rt none)) (ZT Γl false (eO e)) := ⟨fun ρ q => ⟨.non, rfl, rfl, fun z => nomatch z⟩⟩
theorem br_seqT {t : R (Ct σ β)} {Z : Out → τ → Prop} {tk : σ → R τ} {tr : β → R τ} (h : BR Γ f t (ZT Γl o e)) (hk : ∀ s, BR (Γl s) k (tk s) Z) (hr : ∀ d b, d.frz = e b → (o = true → ownT d = true) → RefO (.ret d) (tr b) Z) :
    BR Γ (sSeq f k) (t.bind (onT tk tr)) Z := ⟨fun ρ q => by
  have q1 := h.run ρ q
  rw [sSeq_app]
  cases t with
  | ok c =>
    cases c with
    | nx s =>
      obtain ⟨ρ', e1, hf⟩ := q1
      rw [e1]
      exact (hk s).run ρ' hf
    | bk s => exact q1.elim
    | rt b =>
      obtain ⟨d, e1, h2, h3⟩ := q1
      rw [e1]
      exact hr d b h2 h3
  | exc C fs =>
    obtain ⟨ρ', e1⟩ := q1
    rw [e1]
    exact ⟨ρ', rfl⟩
  | stuck => trivial⟩
theorem hr_fun : ∀ (d : D) (b : β), d.frz = e b → (o = true → ownT d = true) → RefO (.ret d) (.ok b) (ZF o e) := fun d b h1 h2 => ⟨d, .inl rfl, h1, h2⟩
theorem hr_loop {Γ2 : γ → List Sl} : ∀ (d : D) (b : β), d.frz = e b → (o = true → ownT d = true) → RefO (.ret d) (.ok (.rt b)) (ZC Γ2 (ZR o e)) := fun d b h1 h2 => ⟨d, rfl, h1, h2⟩
theorem hr_try {Γ2 : γ → List Sl} : ∀ (d : D) (b : β), d.frz = e b → (o = true → ownT d = true) → RefO (.ret d) (.ok (.rt b)) (ZT Γ2 o e) := fun d b h1 h2 => ⟨d, rfl, h1, h2⟩
def pT (Γl : σ → List Sl) (e : β → D) : Ct σ β → Bool
  | .nx s => (Γl s).all Sl.nox
  | .bk _ => true
  | .rt b => (e b).nox
theorem outok_ZT (i : Nat) (hi : ∀ s, (Γl s)[i]? = some .any) : OutOk i (pT Γl e) (ZT Γl o e) := ⟨fun x c h hp => by
  cases c with
  | nx s =>
    obtain ⟨ρ, rfl, hf⟩ := h
    exact ⟨_, rfl, hf.clr hp (hi s)⟩
  | bk s => exact h.elim
  | rt b =>
    obtain ⟨d, rfl, h2, h3⟩ := h
    have hn : d.nox = true := by rw [← nox_frz, h2]; exact hp
    exact ⟨d, by show (if d.nox = true then Out.ret d else .stuck) = _; rw [if_pos hn], h2, h3⟩⟩
theorem noexc_ZT : ∀ (c : Ct σ β) (ρ' : En) (C : Str) (fs : List (Str × D)), ¬ ZT Γl o e (.exc ρ' C fs) c := fun c ρ' C fs h => by
  cases c with
  | nx s => obtain ⟨_, z, _⟩ := h; cases z
  | bk s => exact h
  | rt b => obtain ⟨_, z, _⟩ := h; cases z
/-- the clause without a name -/
theorem hr_cons {errs : Errs} {Z : Out → τ → Prop} {x : Str} {f : En → Out} {r : List Hd} {th rest : Str → List (Str × D) → R τ} (hz : ∀ y a, Z y a → Z (outS none y) a)
    (h : ∀ C fs, BR Γ f (th C fs) Z) (hr : HR errs Γ r rest Z) : HR errs Γ ((x, none, f) :: r) (clR errs x (fun C fs => gdR (fun _ => true) (th C fs)) rest) Z := ⟨fun C fs ρ k => by
  unfold tryH clR
  rw [show okI ρ none = true from rfl, Bool.and_true]
  by_cases hx : isErr errs x = true
  · rw [if_pos hx, if_pos hx]
    by_cases hs : subX C x = true
    · rw [if_pos hs, if_pos hs]
      have q := (h C fs).run _ k
      show RefO (outS none (f ρ)) (gdR _ (th C fs)) Z
      generalize th C fs = tt at q
      cases tt with
      | ok a => exact hz _ a q
      | exc C fs => trivial
      | stuck => trivial
    · rw [if_neg hs, if_neg hs]
      exact hr.run C fs ρ k
  · rw [if_neg hx, if_neg hx]
    trivial⟩
theorem br_cutX {x : Str} {names : List Str} {fa : En → R (List D)} {t : R τ} {Z : Out → τ → Prop} (h : BR Γ (sRaise x names fa) t Z) : BR Γ (sSeq (sRaise x names fa) k) t Z := ⟨fun ρ q => by
  have := h.run ρ q
  have e : sSeq (sRaise x names fa) k ρ = sRaise x names fa ρ := by
    rw [sSeq_app]
    unfold sRaise
    cases fa ρ with
    | ok ds =>
      rw [lift_ok]
      split <;> rfl
    | exc C fs => rfl
    | stuck => rfl
  rw [e]; exact this⟩
def ixS (z : Str) (i : Int) : R Str := if z.length ≤ 16777216 then ofO ((atI z.cps.toList i).map fun c => ⟨#[c]⟩) else .stuck
theorem o_ixS : Op2 false gIxG eS eI ixS eS := fun z i x y hx hy => by
  have h1 : x = .str z := inv_str hx
  have h2 : y = .int i := inv_int hy
  subst h1 h2
  show RefE false (ofO (if z.length ≤ 16777216 then (atI z.cps.toList i).map fun c => D.str ⟨#[c]⟩ else none)) (ixS z i) eS
  unfold ixS
  split
  · cases atI z.cps.toList i with
    | none => exact True.intro
    | some c => exact ⟨_, rfl, rfl, fun z => nomatch z⟩
  · exact True.intro
end
end TL
/-! Y10: what may be asked of a thing of unknown type -/
namespace TL
open PySem PySem.Spec PyProof.Rows L2
section
theorem gIsiFz (c : String) (x : D) : gIsi c x.frz = gIsi c x := by cases x <;> rfl
def isiD (c : String) (d : D) : R Bool := match gIsi c d with
  | some (.bl b) => .ok b
  | _ => .stuck
theorem o_isiD {c : String} : Op1 false (gIsi c) eX (isiD c) eB := fun a x h => by
  have h' : x.frz = a.frz := h
  unfold isiD
  rw [← gIsiFz c a, ← h', gIsiFz c x]
  cases gIsi c x with
  | none => exact True.intro
  | some d =>
    cases d with
    | bl b => exact ⟨_, rfl, rfl, fun z => nomatch z⟩
    | _ => exact True.intro
def ixD (d : D) (i : Int) : R D := ofO ((gIx d (.int i)).map D.frz)
theorem atIFz (i : Int) : ∀ xs : List D, atI (frzL xs) i = (atI xs i).map D.frz := fun xs => by
  have hl : (frzL xs).length = xs.length := by rw [frzL_map, List.length_map]
  unfold atI
  rw [hl]
  cases ixN xs.length i with
  | none => rfl
  | some j =>
    show (frzL xs)[j]? = (xs[j]?).map D.frz
    rw [frzL_map, List.getElem?_map]
theorem gIx_frz (x : D) (i : Int) : (gIx x.frz (.int i)).map D.frz = (gIx x (.int i)).map D.frz := by
  have key : ∀ xs : List D, (atI (frzL xs) i).map D.frz = (atI xs i).map D.frz := fun xs => by
    rw [atIFz]
    cases atI xs i with
    | none => rfl
    | some d => exact congrArg some (frz_frz d)
  cases x with
  | lst o xs => exact key xs
  | tup xs => exact key xs
  | kl xs => exact key xs
  | kt xs => exact key xs
  | _ => rfl
theorem o_ixD' : Op2 false gIx eX eI ixD eX := fun a i x y hx hy => by
  have h' : x.frz = a.frz := hx
  have h2 : y = .int i := inv_int hy
  subst h2
  have q : (gIx x (.int i)).map D.frz = (gIx a (.int i)).map D.frz := by rw [← gIx_frz x, h', gIx_frz a]
  unfold ixD
  rw [← q]
  cases gIx x (.int i) with
  | none => exact True.intro
  | some d => exact ⟨d, rfl, (frz_frz d).symm, fun z => nomatch z⟩
theorem gLenFz (x : D) : gLen [x.frz] = gLen [x] := by
  cases x <;> simp [gLen, D.frz, frzL_map, frzK_len]
def lenD (d : D) : R Int := match gLen [d] with
  | some (.int n) => .ok n
  | _ => .stuck
theorem o_lenD : OpN false gLen (fun p : D × Unit => eX p.1 :: (fun _ => []) p.2) (fun p => lenD p.1) eI := fun a xs h => by
  cases xs with
  | nil => exact nomatch h
  | cons x r =>
    cases r with
    | cons _ _ => rw [frzL_cons, frzL_cons] at h; injection h with _ h; exact nomatch h
    | nil =>
      rw [frzL_cons] at h
      injection h with h _
      have h' : x.frz = a.1.frz := h
      show RefE false (ofO (gLen [x])) (lenD a.1) eI
      unfold lenD
      rw [← gLenFz a.1, ← h', gLenFz x]
      cases gLen [x] with
      | none => exact True.intro
      | some d =>
        cases d with
        | int n => exact ⟨_, rfl, rfl, fun z => nomatch z⟩
        | _ => exact True.intro
def isDct : D → Bool
  | .dct _ _ _ => true
  | _ => false
def ixE (d : D) (i : Int) : R D := if isDct d then .stuck else ixD d i
theorem isDct_frz (x : D) : isDct x.frz = isDct x := by cases x <;> rfl
theorem o_ixD2 : Op2 false gIxG eX eI ixE eX := fun a i x y hx hy => by
  have h' : x.frz = a.frz := hx
  unfold ixE
  rw [← isDct_frz a, ← h', isDct_frz x]
  cases hd : isDct x with
  | true => rw [if_pos rfl]; exact True.intro
  | false =>
    rw [if_neg Bool.false_ne_true]
    have e : gIxG x y = gIx x y := by
      cases x with
      | dct o t kvs => cases hd
      | _ => rfl
    rw [e]
    exact o_ixD' a i x y hx hy
end
end TL
/-! Y11: answers of unknown type that hold nothing changeable -/
namespace TL
open PySem PySem.Spec PyProof.Rows L2
mutual
theorem clean_frz : ∀ d : D, d.frz.clean = true → d.clean = true
  | .non, _ => rfl
  | .bl _, _ => rfl
  | .int _, _ => rfl
  | .str _, _ => rfl
  | .tup xs, h => cleanL_frz xs h
  | .kt xs, h => cleanL_frz xs h
  | .lst _ xs, h => nomatch h
  | .dct _ _ xs, h => nomatch h
  | .ins _ _ xs, h => nomatch h
  | .kl xs, h => nomatch h
  | .xr _ _, h => nomatch h
theorem cleanL_frz : ∀ xs : List D, cleanL (frzL xs) = true → cleanL xs = true
  | [], _ => rfl
  | d :: r, h => by
    have h' : (d.frz.clean && cleanL (frzL r)) = true := h
    obtain ⟨h1, h2⟩ := Bool.and_eq_true_iff.mp h'
    show (d.clean && cleanL r) = true
    rw [clean_frz d h1, cleanL_frz r h2]
    rfl
end
section
variable {α τ : Type} {Γ : List Sl} {S : List Nat} {k : En → Out} {Z : Out → τ → Prop}
theorem br_setG {o : Bool} {i : Nat} {fe : En → R D} {te : R α} {e : α → D} {tk : α → R τ} {Γ' : α → List Sl} (hE : ER o Γ fe te e) (hG : ∀ a, Γ' a = Γ.set i (.w (e a))) (hk : ∀ a, BR (Γ' a) k (tk a) Z) :
    BR Γ (sSeq (sSet i S fe) k) (te.bind fun a => if (e a).clean then tk a else .stuck) Z := ⟨fun ρ q => by
  have := hE.run ρ q
  rw [sSeq_app, sSet_app]
  cases te with
  | ok a =>
    obtain ⟨d, h1, h2, h3⟩ := this
    rw [h1]
    show RefO _ (if (e a).clean = true then tk a else .stuck) Z
    by_cases hc : (e a).clean = true
    · rw [if_pos hc]
      have hd : d.clean = true := clean_frz d (by rw [h2]; exact hc)
      refine (hk a).run _ ?_
      rw [hG, hd]
      exact q.set ⟨d, rfl, h2⟩
    · rw [if_neg hc]
      trivial
  | exc C fs => rw [show fe ρ = _ from this]; exact ⟨ρ, rfl⟩
  | stuck => trivial⟩
end
end TL
namespace GL
open PySem PySem.Spec PyProof.Rows L2 TL
def errsL : Errs := [("PlaneError", []), ("OffBoard", ["corner"]), ("NotAPath", ["index"])]
def tab_DIRECTIONS : List (NestedKey × D) := [((.tup [(.num (1)), (.num (0))]), (.str "E")), ((.tup [(.num (-1)), (.num (0))]), (.str "W")), ((.tup [(.num (0)), (.num (1))]), (.str "N")), ((.tup [(.num (0)), (.num (-1))]), (.str "S"))]
def tabv_DIRECTIONS : List (NestedKey × V) := [((.tup [(.num (1)), (.num (0))]), (.str "E")), ((.tup [(.num (-1)), (.num (0))]), (.str "W")), ((.tup [(.num (0)), (.num (1))]), (.str "N")), ((.tup [(.num (0)), (.num (-1))]), (.str "S"))]
def tab_OPPOSITES : List (Str × D) := [("E", (.str "W")), ("W", (.str "E")), ("N", (.str "S")), ("S", (.str "N"))]
def tabv_OPPOSITES : List (Str × V) := [("E", (.str "W")), ("W", (.str "E")), ("N", (.str "S")), ("S", (.str "N"))]
def b__law_draws : En → Out :=
    (sSeq (sSet 2 [] (eN mkLst eNil))
    (sSeq (sSet 3 ([0] ++ []) (eN gInt (eCons (eVar 0) eNil)))
    (sSeq (sSet 4 ([3] ++ ([] ++ [])) (e2 (gGe) (eVar 3) (e2 gPow (eC (.int 10)) (eC (.int 18)))))
    (sSeq (sFor (([1] ++ []) ++ []) (iR1 (eCons (eN gLen (eCons (eVar 1) eNil)) eNil)) (gSet 5)
    (sSeq (sSet 6 ([1] ++ [5]) (e2 gIxG (eVar 1) (eVar 5)))
    (sIf (tAndC (tV (eVar 4)) (tV (e2 (gGt) (eVar 3) (eC (.int 0)))))
    (sSeq (sMut "list" 2 ((([3] ++ []) ++ [6]) ++ []) gAppend (eCons (e2 gMod (eN gInt (eCons (eVar 3) eNil)) (eVar 6)) eNil))
    (sSet 3 ([3] ++ [6]) (e2 gDiv (eVar 3) (eVar 6))))
    (sSeq (sSet 7 (((([0] ++ ([] ++ [5])) ++ []) ++ []) ++ []) (e2 gMod (eN gInt (eCons (e2 gAdd (e2 gAdd (eVar 0) (e2 gMul (eC (.int 7919)) (eVar 5))) (eC (.int 13))) eNil)) (eC (.int 2147483647))))
    (sSeq (sSet 7 ((([7] ++ ([7] ++ [])) ++ []) ++ []) (e2 gMod (eN gInt (eCons (e2 gMul (eVar 7) (e2 gAdd (eVar 7) (eC (.int 48271)))) eNil)) (eC (.int 2147483629))))
    (sSeq (sSet 7 (((([7] ++ ([7] ++ [])) ++ ([] ++ [5])) ++ []) ++ []) (e2 gMod (eN gInt (eCons (e2 gAdd (e2 gMul (eVar 7) (e2 gAdd (eVar 7) (eC (.int 69621)))) (e2 gMul (eC (.int 31)) (eVar 5))) eNil)) (eC (.int 2147483647))))
    (sMut "list" 2 (((([7] ++ []) ++ []) ++ [6]) ++ []) gAppend (eCons (e2 gMod (eN gInt (eCons (e2 gDiv (eVar 7) (eC (.int 9))) eNil)) (eVar 6)) eNil))))))))
    (sRetV 2)))))
def F__law_draws : List D → R D := fn 8 b__law_draws
def b__law_board : En → Out :=
    (sSeq (sSet 2 ([0] ++ (([] ++ ([1] ++ ([1] ++ (([1] ++ []) ++ (([1] ++ []) ++ []))))) ++ [])) (eCall F__law_draws (eCons (eVar 0) (eCons (eN mkLst (eCons (eC (.int 8)) (eCons (eVar 1) (eCons (eVar 1) (eCons (e2 gAdd (eVar 1) (eC (.int 1))) (eCons (e2 gAdd (eVar 1) (eC (.int 1))) eNil)))))) eNil))))
    (sSeq (sIf (tV (e2 (gEq) (e2 gIxG (eVar 2) (eC (.int 0))) (eC (.int 0))))
    (sRet (eN mkTup (eCons (e2 gIxG (eVar 2) (eC (.int 3))) (eCons (e2 gIxG (eVar 2) (eC (.int 4))) eNil))))
    sNx)
    (sRet (eN mkTup (eCons (e2 gAdd (e2 gIxG (eVar 2) (eC (.int 1))) (eC (.int 1))) (eCons (e2 gAdd (e2 gIxG (eVar 2) (eC (.int 2))) (eC (.int 1))) eNil))))))
def F__law_board : List D → R D := fn 3 b__law_board
def b__law_stepped : En → Out :=
    (sSeq (sIf (tV (e2 (gEq) (eVar 1) (eC (.str "E"))))
    (sRet (eN mkTup (eCons (e2 gAdd (e2 gIxG (eVar 0) (eC (.int 0))) (eC (.int 1))) (eCons (e2 gIxG (eVar 0) (eC (.int 1))) eNil))))
    sNx)
    (sSeq (sIf (tV (e2 (gEq) (eVar 1) (eC (.str "W"))))
    (sRet (eN mkTup (eCons (e2 gSub (e2 gIxG (eVar 0) (eC (.int 0))) (eC (.int 1))) (eCons (e2 gIxG (eVar 0) (eC (.int 1))) eNil))))
    sNx)
    (sSeq (sIf (tV (e2 (gEq) (eVar 1) (eC (.str "N"))))
    (sRet (eN mkTup (eCons (e2 gIxG (eVar 0) (eC (.int 0))) (eCons (e2 gAdd (e2 gIxG (eVar 0) (eC (.int 1))) (eC (.int 1))) eNil))))
    sNx)
    (sRet (eN mkTup (eCons (e2 gIxG (eVar 0) (eC (.int 0))) (eCons (e2 gSub (e2 gIxG (eVar 0) (eC (.int 1))) (eC (.int 1))) eNil)))))))
def F__law_stepped : List D → R D := fn 2 b__law_stepped
def b__law_on_board : En → Out :=
    (sRet (eAnd (eCh (gLe) (gLe) (eC (.int 0)) (e2 gIxG (eVar 1) (eC (.int 0))) (e2 gIxG (eVar 0) (eC (.int 0)))) (eCh (gLe) (gLe) (eC (.int 0)) (e2 gIxG (eVar 1) (eC (.int 1))) (e2 gIxG (eVar 0) (eC (.int 1))))))
def F__law_on_board : List D → R D := fn 2 b__law_on_board
def b__law_walked : En → Out :=
    (sSeq (sSet 3 ([1] ++ (((([0] ++ []) ++ []) ++ ((([0] ++ []) ++ []) ++ ([] ++ ([] ++ ([] ++ []))))) ++ [])) (eCall F__law_draws (eCons (eVar 1) (eCons (eN mkLst (eCons (e2 gAdd (e2 gIxG (eVar 0) (eC (.int 0))) (eC (.int 1))) (eCons (e2 gAdd (e2 gIxG (eVar 0) (eC (.int 1))) (eC (.int 1))) (eCons (eC (.int 4)) (eCons (eC (.int 17)) (eCons (eC (.int 2)) eNil)))))) eNil))))
    (sSeq (sSet 4 (([] ++ ([] ++ ([] ++ ([] ++ [])))) ++ ([3] ++ [])) (e2 gIxG (eN mkLst (eCons (eC (.str "EN")) (eCons (eC (.str "WS")) (eCons (eC (.str "ES")) (eCons (eC (.str "WN")) eNil))))) (e2 gIxG (eVar 3) (eC (.int 2)))))
    (sSeq (sSet 5 ((([3] ++ []) ++ (([3] ++ []) ++ [])) ++ []) (eN mkLst (eCons (eN mkTup (eCons (e2 gIxG (eVar 3) (eC (.int 0))) (eCons (e2 gIxG (eVar 3) (eC (.int 1))) eNil))) eNil)))
    (sSeq (sIf (tV (e2 (gEq) (e2 gIxG (eVar 3) (eC (.int 4))) (eC (.int 1))))
    (sSet 5 (((([] ++ (([0] ++ []) ++ ([] ++ (([0] ++ []) ++ [])))) ++ ([3] ++ [])) ++ ((([] ++ (([0] ++ []) ++ (([0] ++ []) ++ ([] ++ [])))) ++ ([3] ++ [])) ++ [])) ++ []) (eN mkLst (eCons (eN mkTup (eCons (e2 gIxG (eN mkLst (eCons (eC (.int 0)) (eCons (e2 gIxG (eVar 0) (eC (.int 0))) (eCons (eC (.int 0)) (eCons (e2 gIxG (eVar 0) (eC (.int 0))) eNil))))) (e2 gIxG (eVar 3) (eC (.int 2)))) (eCons (e2 gIxG (eN mkLst (eCons (eC (.int 0)) (eCons (e2 gIxG (eVar 0) (eC (.int 1))) (eCons (e2 gIxG (eVar 0) (eC (.int 1))) (eCons (eC (.int 0)) eNil))))) (e2 gIxG (eVar 3) (eC (.int 2)))) eNil))) eNil)))
    sNx)
    (sSeq (sSet 6 ([2] ++ ((([] ++ []) ++ []) ++ [])) (eCall F__law_draws (eCons (eVar 2) (eCons (e2 gMul (eN mkLst (eCons (eC (.int 2)) eNil)) (eC (.int 16))) eNil))))
    (sSeq (sFor (([3] ++ []) ++ []) (iR1 (eCons (e2 gIxG (eVar 3) (eC (.int 3))) eNil)) (gSet 7)
    (sSeq (sSet 8 (([5] ++ []) ++ (([4] ++ ([6] ++ [7])) ++ [])) (eCall F__law_stepped (eCons (e2 gIxG (eVar 5) (e1 gNeg (eC (.int 1)))) (eCons (e2 gIxG (eVar 4) (e2 gIxG (eVar 6) (eVar 7))) eNil))))
    (sIf (tV (eCall F__law_on_board (eCons (eVar 0) (eCons (eVar 8) eNil))))
    (sMut "list" 5 ([8] ++ []) gAppend (eCons (eVar 8) eNil))
    sNx)))
    (sRetV 5)))))))
def F__law_walked : List D → R D := fn 9 b__law_walked
def b__law_cell : En → Out :=
    (sSeq (sIf (tV (e2 (gLt) (eVar 1) (eN gLen (eCons (eVar 0) eNil))))
    (sRet (eN gInt (eCons (e2 gIxG (eVar 0) (eVar 1)) eNil)))
    sNx)
    (sRet (eC (.int 0))))
def F__law_cell : List D → R D := fn 2 b__law_cell
def b__law_spoilt : En → Out :=
    (sSeq (sSet 3 ([2] ++ (([] ++ ([] ++ ([] ++ ([] ++ ((([0] ++ []) ++ []) ++ ((([0] ++ []) ++ []) ++ ([] ++ ([] ++ [])))))))) ++ [])) (eCall F__law_draws (eCons (eVar 2) (eCons (eN mkLst (eCons (eC (.int 12)) (eCons (eC (.int 40)) (eCons (eC (.int 5)) (eCons (eC (.int 5)) (eCons (e2 gAdd (e2 gIxG (eVar 0) (eC (.int 0))) (eC (.int 7))) (eCons (e2 gAdd (e2 gIxG (eVar 0) (eC (.int 1))) (eC (.int 7))) (eCons (eC (.int 4)) (eCons (eC (.int 4)) eNil))))))))) eNil))))
    (sSeq (sIf (tOrC (tV (e2 (gEq) (eN gLen (eCons (eVar 1) eNil)) (eC (.int 0)))) (tV (e2 (gEq) (e2 gIxG (eVar 3) (eC (.int 0))) (eC (.int 0)))))
    (sRet (eN mkLst eNil))
    sNx)
    (sSeq (sSet 4 ((([3] ++ []) ++ []) ++ ([1] ++ [])) (e2 gMod (eN gInt (eCons (e2 gIxG (eVar 3) (eC (.int 1))) eNil)) (eN gLen (eCons (eVar 1) eNil))))
    (sSeq (sSet 5 ([1] ++ [4]) (e2 gIxG (eVar 1) (eVar 4)))
    (sSeq (sSet 6 ([] ++ ([3] ++ [])) (e2 gIxG (eC (.str "EWNS")) (e2 gIxG (eVar 3) (eC (.int 6)))))
    (sSeq (sIf (tV (e2 (gLe) (e2 gIxG (eVar 3) (eC (.int 0))) (eC (.int 2))))
    (sRet (e2 gAdd (eSl (eVar 1) oNone (oSome (eVar 4))) (eLc [10] [1, 3, 4, 10] (iSeq (eSl (eVar 1) (oSome (eVar 4)) oNone)) (gSet 10) cYes (eN mkTup (eCons (e2 gSub (e2 gAdd (e2 gIxG (eVar 10) (eC (.int 0))) (e2 gIxG (eVar 3) (eC (.int 2)))) (eC (.int 2))) (eCons (e2 gSub (e2 gAdd (e2 gIxG (eVar 10) (eC (.int 1))) (e2 gIxG (eVar 3) (eC (.int 3)))) (eC (.int 2))) eNil))))))
    sNx)
    (sSeq (sIf (tV (e2 (gEq) (e2 gIxG (eVar 3) (eC (.int 0))) (eC (.int 3))))
    (sRet (e2 gAdd (e2 gAdd (eSl (eVar 1) oNone (oSome (eVar 4))) (eN mkLst (eCons (eN mkTup (eCons (e2 gSub (e2 gIxG (eVar 3) (eC (.int 4))) (eC (.int 3))) (eCons (e2 gSub (e2 gIxG (eVar 3) (eC (.int 5))) (eC (.int 3))) eNil))) eNil))) (eSl (eVar 1) (oSome (e2 gAdd (eVar 4) (eC (.int 1)))) oNone)))
    sNx)
    (sSeq (sIf (tV (e2 (gEq) (e2 gIxG (eVar 3) (eC (.int 0))) (eC (.int 4))))
    (sRet (e2 gAdd (e2 gAdd (eSl (eVar 1) oNone (oSome (eVar 4))) (eN mkLst (eCons (eN mkTup (eCons (e2 gSub (e2 gIxG (eVar 3) (eC (.int 4))) (eC (.int 3))) (eCons (e2 gSub (e2 gIxG (eVar 3) (eC (.int 5))) (eC (.int 3))) eNil))) eNil))) (eSl (eVar 1) (oSome (eVar 4)) oNone)))
    sNx)
    (sSeq (sIf (tV (e2 (gLe) (e2 gIxG (eVar 3) (eC (.int 0))) (eC (.int 6))))
    (sSeq (sSet 7 ([1] ++ []) (eN gListOf (eCons (eVar 1) eNil)))
    (sSeq (sFor ((([3] ++ []) ++ []) ++ []) (iR1 (eCons (e2 gAdd (e2 gIxG (eVar 3) (eC (.int 7))) (eC (.int 1))) eNil)) (gSet 8)
    (sMut "list" 7 ((([7] ++ []) ++ ([6] ++ [])) ++ []) gAppend (eCons (eCall F__law_stepped (eCons (e2 gIxG (eVar 7) (e1 gNeg (eC (.int 1)))) (eCons (eVar 6) eNil))) eNil)))
    (sRetV 7)))
    sNx)
    (sSeq (sIf (tV (e2 (gEq) (e2 gIxG (eVar 3) (eC (.int 0))) (eC (.int 7))))
    (sRet (e2 gAdd (eVar 1) (e1 gRevL (eSl (eVar 1) oNone (oSome (e1 gNeg (eC (.int 1))))))))
    sNx)
    (sSeq (sIf (tV (e2 (gEq) (e2 gIxG (eVar 3) (eC (.int 0))) (eC (.int 8))))
    (sRet (e2 gAdd (eSl (eVar 1) oNone (oSome (eVar 4))) (eSl (eVar 1) (oSome (e2 gAdd (eVar 4) (eC (.int 1)))) oNone)))
    sNx)
    (sSeq (sIf (tV (e2 (gEq) (e2 gIxG (eVar 3) (eC (.int 0))) (eC (.int 9))))
    (sRet (e2 gAdd (e2 gAdd (eSl (eVar 1) oNone (oSome (eVar 4))) (eN mkLst (eCons (eVar 5) eNil))) (eSl (eVar 1) (oSome (eVar 4)) oNone)))
    sNx)
    (sSeq (sIf (tV (e2 (gEq) (e2 gIxG (eVar 3) (eC (.int 0))) (eC (.int 10))))
    (sRet (e2 gAdd (e2 gAdd (eSl (eVar 1) oNone (oSome (eVar 4))) (eN mkLst (eCons (eVar 5) (eCons (eCall F__law_stepped (eCons (eVar 5) (eCons (eVar 6) eNil))) eNil)))) (eSl (eVar 1) (oSome (eVar 4)) oNone)))
    sNx)
    (sSeq (sSet 9 ((((([0] ++ []) ++ []) ++ ([3] ++ [])) ++ (([5] ++ []) ++ [])) ++ ((([] ++ ([3] ++ [])) ++ (([5] ++ []) ++ [])) ++ [])) (eN mkLst (eCons (eN mkTup (eCons (e2 gAdd (e2 gAdd (e2 gIxG (eVar 0) (eC (.int 0))) (eC (.int 1))) (e2 gIxG (eVar 3) (eC (.int 7)))) (eCons (e2 gIxG (eVar 5) (eC (.int 1))) eNil))) (eCons (eN mkTup (eCons (e2 gSub (e1 gNeg (eC (.int 1))) (e2 gIxG (eVar 3) (eC (.int 7)))) (eCons (e2 gIxG (eVar 5) (eC (.int 1))) eNil))) eNil))))
    (sSeq (sSet 9 ([9] ++ ((([5] ++ []) ++ (((([0] ++ []) ++ []) ++ ([3] ++ [])) ++ [])) ++ ((([5] ++ []) ++ (([] ++ ([3] ++ [])) ++ [])) ++ []))) (e2 gAdd (eVar 9) (eN mkLst (eCons (eN mkTup (eCons (e2 gIxG (eVar 5) (eC (.int 0))) (eCons (e2 gAdd (e2 gAdd (e2 gIxG (eVar 0) (eC (.int 1))) (eC (.int 1))) (e2 gIxG (eVar 3) (eC (.int 7)))) eNil))) (eCons (eN mkTup (eCons (e2 gIxG (eVar 5) (eC (.int 0))) (eCons (e2 gSub (e1 gNeg (eC (.int 1))) (e2 gIxG (eVar 3) (eC (.int 7)))) eNil))) eNil)))))
    (sRet (e2 gAdd (e2 gAdd (eSl (eVar 1) oNone (oSome (eVar 4))) (eN mkLst (eCons (e2 gIxG (eVar 9) (e2 gIxG (eVar 3) (eC (.int 6)))) eNil))) (eSl (eVar 1) (oSome (e2 gAdd (eVar 4) (eC (.int 1)))) oNone))))))))))))))))))
def F__law_spoilt : List D → R D := fn 11 b__law_spoilt
def b__law_any_row : En → Out :=
    (sSeq (sSet 2 ([1] ++ ((([] ++ []) ++ (((([0] ++ []) ++ []) ++ ((([0] ++ []) ++ []) ++ [])) ++ [])) ++ [])) (eCall F__law_draws (eCons (eVar 1) (eCons (e2 gAdd (eN mkLst (eCons (eC (.int 18)) eNil)) (e2 gMul (eN mkLst (eCons (e2 gAdd (e2 gIxG (eVar 0) (eC (.int 0))) (eC (.int 7))) (eCons (e2 gAdd (e2 gIxG (eVar 0) (eC (.int 1))) (eC (.int 7))) eNil))) (eC (.int 17)))) eNil))))
    (sRet (eLc [3] [2, 3] (iR1 (eCons (e2 gIxG (eVar 2) (eC (.int 0))) eNil)) (gSet 3) cYes (eN mkTup (eCons (e2 gSub (e2 gIxG (eVar 2) (e2 gAdd (e2 gMul (eC (.int 2)) (eVar 3)) (eC (.int 1)))) (eC (.int 3))) (eCons (e2 gSub (e2 gIxG (eVar 2) (e2 gAdd (e2 gMul (eC (.int 2)) (eVar 3)) (eC (.int 2)))) (eC (.int 3))) eNil))))))
def F__law_any_row : List D → R D := fn 4 b__law_any_row
def b_on_board : En → Out :=
    (sRet (eAnd (eCh (gLe) (gLe) (eC (.int 0)) (e2 gIxG (eVar 1) (eC (.int 0))) (e2 gIxG (eVar 0) (eC (.int 0)))) (eCh (gLe) (gLe) (eC (.int 0)) (e2 gIxG (eVar 1) (eC (.int 1))) (e2 gIxG (eVar 0) (eC (.int 1))))))
def F_on_board : List D → R D := fn 2 b_on_board
def b__law_direction : En → Out :=
    (sSeq (sFor ([] ++ ([] ++ ([] ++ ([] ++ [])))) (iSeq (eN mkLst (eCons (eC (.str "E")) (eCons (eC (.str "W")) (eCons (eC (.str "N")) (eCons (eC (.str "S")) eNil)))))) (gSet 2)
    (sIf (tV (e2 (gEq) (eCall F__law_stepped (eCons (eVar 0) (eCons (eVar 2) eNil))) (eVar 1)))
    (sRetV 2)
    sNx))
    (sRet (eC (.str ""))))
def F__law_direction : List D → R D := fn 3 b__law_direction
def b__law_within : En → Out :=
    (sRet (e2 (gEq) (eN gLen (eCons (eLc [2] [0, 1, 2] (iSeq2 (eVar 0)) (gSet 2) (tV (e2 (gInG true) (eVar 2) (eVar 1))) (eVar 2)) eNil)) (eC (.int 0))))
def F__law_within : List D → R D := fn 3 b__law_within
def b__law_due : En → Out :=
    (sSeq (sIf (tV (e2 (gEq) (eN gLen (eCons (eVar 1) eNil)) (eC (.int 0))))
    (sRet (eN mkTup (eCons (eC (.str "fault")) (eCons (eC (.int 0)) eNil))))
    sNx)
    (sSeq (sSet 2 [] (eC (.str "")))
    (sSeq (sFor (([1] ++ []) ++ []) (iR1 (eCons (eN gLen (eCons (eVar 1) eNil)) eNil)) (gSet 3)
    (sSeq (sIf (tNotC (tV (eCall F__law_on_board (eCons (eVar 0) (eCons (e2 gIxG (eVar 1) (eVar 3)) eNil)))))
    (sRet (eN mkTup (eCons (eC (.str "off")) (eCons (e2 gIxG (eVar 1) (eVar 3)) eNil))))
    sNx)
    (sIf (tV (e2 (gGt) (eVar 3) (eC (.int 0))))
    (sSeq (sSet 4 (([1] ++ ([3] ++ [])) ++ (([1] ++ [3]) ++ [])) (eCall F__law_direction (eCons (e2 gIxG (eVar 1) (e2 gSub (eVar 3) (eC (.int 1)))) (eCons (e2 gIxG (eVar 1) (eVar 3)) eNil))))
    (sSeq (sSet 2 ([2] ++ [4]) (e2 gAdd (eVar 2) (eVar 4)))
    (sSeq (sSet 5 [2, 6] (eLc [6] [2, 6] (iSeq (eN mkLst (eCons (eC (.str "EN")) (eCons (eC (.str "WS")) (eCons (eC (.str "ES")) (eCons (eC (.str "WN")) eNil)))))) (gSet 6) (tV (eCall F__law_within (eCons (eVar 2) (eCons (eVar 6) eNil)))) (eVar 6)))
    (sIf (tOrC (tV (e2 (gEq) (eVar 4) (eC (.str "")))) (tV (e2 (gEq) (eN gLen (eCons (eVar 5) eNil)) (eC (.int 0)))))
    (sRet (eN mkTup (eCons (eC (.str "fault")) (eCons (eVar 3) eNil))))
    sNx))))
    sNx)))
    (sSeq (sIf (tV (e2 (gLt) (e2 gIxG (eVar 1) (e1 gNeg (eC (.int 1)))) (e2 gIxG (eVar 1) (eC (.int 0)))))
    (sRet (eN mkTup (eCons (eC (.str "path")) (eCons (e1 gRevL (eVar 1)) eNil))))
    sNx)
    (sRet (eN mkTup (eCons (eC (.str "path")) (eCons (eVar 1) eNil))))))))
def F__law_due : List D → R D := fn 7 b__law_due
def b_normal_form : En → Out :=
    (sSeq (sIf (tV (e2 (gLt) (e2 gIxG (eVar 0) (e1 gNeg (eC (.int 1)))) (e2 gIxG (eVar 0) (eC (.int 0)))))
    (sRet (eN gTupOf (eCons (e1 gRevL (eVar 0)) eNil)))
    sNx)
    (sRet (eN gTupOf (eCons (eVar 0) eNil))))
def F_normal_form : List D → R D := fn 1 b_normal_form
def b_direction : En → Out :=
    (sRet (eKG tab_DIRECTIONS (eN mkTup (eCons (e2 gSub (e2 gIxG (eVar 1) (eC (.int 0))) (e2 gIxG (eVar 0) (eC (.int 0)))) (eCons (e2 gSub (e2 gIxG (eVar 1) (eC (.int 1))) (e2 gIxG (eVar 0) (eC (.int 1)))) eNil))) (eC (.str ""))))
def F_direction : List D → R D := fn 2 b_direction
def b_normal_path : En → Out :=
    (sSeq (sSet 2 ([1] ++ []) (eN gListOf (eCons (eVar 1) eNil)))
    (sSeq (sIf (tV (e2 (gEq) (eN gLen (eCons (eVar 2) eNil)) (eC (.int 0))))
    (sRaise "NotAPath" ["index"] (eCons (eC (.int 0)) eNil))
    sNx)
    (sSeq (sSet 3 [] (eC (.str "")))
    (sSeq (sFor ([2] ++ []) (iEn (eCons (eVar 2) eNil)) (gTupD 2 (gsCons (gSet 4) (gsCons (gSet 5) gsNil)))
    (sSeq (sIf (tNotC (tV (eCall F_on_board (eCons (eVar 0) (eCons (eVar 5) eNil)))))
    (sRaise "OffBoard" ["corner"] (eCons (eVar 5) eNil))
    sNx)
    (sIf (tV (e2 (gGt) (eVar 4) (eC (.int 0))))
    (sSeq (sSet 6 (([2] ++ ([4] ++ [])) ++ ([5] ++ [])) (eCall F_direction (eCons (e2 gIxG (eVar 2) (e2 gSub (eVar 4) (eC (.int 1)))) (eCons (eVar 5) eNil))))
    (sSeq (sIf (tOrC (tV (e2 (gEq) (eVar 6) (eC (.str "")))) (tV (e2 (gInG false) (eKI tab_OPPOSITES (eVar 6)) (eVar 3))))
    (sRaise "NotAPath" ["index"] (eCons (eVar 4) eNil))
    sNx)
    (sSet 3 ([3] ++ [6]) (e2 gAdd (eVar 3) (eVar 6)))))
    sNx)))
    (sRet (eCall F_normal_form (eCons (eVar 2) eNil)))))))
def F_normal_path : List D → R D := fn 7 b_normal_path
def b__law_is_integer : En → Out :=
    (sRet (eAnd (e1 (gIsi "int") (eVar 0)) (eNot (e1 (gIsi "bool") (eVar 0)))))
def F__law_is_integer : List D → R D := fn 1 b__law_is_integer
def b__law_is_corner : En → Out :=
    (sRet (eAnd (e1 (gIsi "tuple") (eVar 0)) (eAnd (e2 (gEq) (eN gLen (eCons (eVar 0) eNil)) (eC (.int 2))) (eAnd (eCall F__law_is_integer (eCons (e2 gIxG (eVar 0) (eC (.int 0))) eNil)) (eCall F__law_is_integer (eCons (e2 gIxG (eVar 0) (eC (.int 1))) eNil))))))
def F__law_is_corner : List D → R D := fn 1 b__law_is_corner
def b__law_told : En → Out :=
    (sSeq (sSet 2 [] (eC .non))
    (sSeq (sTry errsL
    (sSet 2 ([0] ++ ([1] ++ [])) (eCall F_normal_path (eCons (eVar 0) (eCons (eVar 1) eNil)))) [("OffBoard", some 3,
    (sSeq (sIf (tAndC (tV (eIsX errsL 3 "PlaneError")) (tAndC (tV (eIsX errsL 3 "ValueError")) (tNotC (tV (eIsX errsL 3 "NotAPath")))))
    (sIf (tV (eCallH F__law_is_corner (eCons (eXf errsL 3 "corner") eNil)))
    (sRet (eN mkTup (eCons (eC (.str "off")) (eCons (eXf errsL 3 "corner") eNil))))
    sNx)
    sNx)
    (sRet (eN mkTup (eCons (eC (.str "odd")) (eCons (eC .non) eNil)))))), ("NotAPath", some 3,
    (sSeq (sIf (tAndC (tV (eIsX errsL 3 "PlaneError")) (tAndC (tV (eIsX errsL 3 "ValueError")) (tNotC (tV (eIsX errsL 3 "OffBoard")))))
    (sIf (tV (eCallH F__law_is_integer (eCons (eXf errsL 3 "index") eNil)))
    (sRet (eN mkTup (eCons (eC (.str "fault")) (eCons (eXf errsL 3 "index") eNil))))
    sNx)
    sNx)
    (sRet (eN mkTup (eCons (eC (.str "odd")) (eCons (eC .non) eNil))))))])
    (sRet (eN mkTup (eCons (eC (.str "path")) (eCons (eVar 2) eNil))))))
def F__law_told : List D → R D := fn 4 b__law_told
def b__law_is_path : En → Out :=
    (sSeq (sIf (tOrC (tNotC (tV (e1 (gIsi "tuple") (eVar 0)))) (tV (e2 (gNe) (eN gLen (eCons (eVar 0) eNil)) (eN gLen (eCons (eVar 1) eNil)))))
    (sRet (eC (.bl false)))
    sNx)
    (sSeq (sFor (([1] ++ []) ++ []) (iR1 (eCons (eN gLen (eCons (eVar 1) eNil)) eNil)) (gSet 2)
    (sIf (tOrC (tNotC (tV (eCall F__law_is_corner (eCons (e2 gIxG (eVar 0) (eVar 2)) eNil)))) (tV (e2 (gNe) (e2 gIxG (eVar 0) (eVar 2)) (e2 gIxG (eVar 1) (eVar 2)))))
    (sRet (eC (.bl false)))
    sNx))
    (sRet (eC (.bl true)))))
def F__law_is_path : List D → R D := fn 3 b__law_is_path
def b__law_same : En → Out :=
    (sSeq (sIf (tV (e2 (gNe) (e2 gIxG (eVar 0) (eC (.int 0))) (e2 gIxG (eVar 1) (eC (.int 0)))))
    (sRet (eC (.bl false)))
    sNx)
    (sSeq (sIf (tV (e2 (gEq) (e2 gIxG (eVar 1) (eC (.int 0))) (eC (.str "path"))))
    (sRet (eCall F__law_is_path (eCons (e2 gIxG (eVar 0) (eC (.int 1))) (eCons (e2 gIxG (eVar 1) (eC (.int 1))) eNil))))
    sNx)
    (sRet (e2 (gEq) (e2 gIxG (eVar 0) (eC (.int 1))) (e2 gIxG (eVar 1) (eC (.int 1)))))))
def F__law_same : List D → R D := fn 2 b__law_same
def b__law_answers : En → Out :=
    (sSeq (sSet 3 ([0] ++ ([1] ++ [])) (eCall F__law_due (eCons (eVar 0) (eCons (eVar 1) eNil))))
    (sSeq (sIf (tAndC (tV (eVar 2)) (tNotC (tV (eCall F__law_same (eCons (eCall F__law_told (eCons (eVar 0) (eCons (eN gTupOf (eCons (eVar 1) eNil)) eNil))) (eCons (eVar 3) eNil))))))
    (sRet (eC (.bl false)))
    sNx)
    (sSeq (sSet 4 ([1] ++ []) (eN gListOf (eCons (eVar 1) eNil)))
    (sSeq (sSet 5 ([0] ++ ([4] ++ [])) (eCall F__law_told (eCons (eVar 0) (eCons (eVar 4) eNil))))
    (sSeq (sIf (tV (e2 (gNe) (eVar 4) (eVar 1)))
    (sRet (eC (.bl false)))
    sNx)
    (sSeq (sMut "list" 4 (([] ++ ([] ++ [])) ++ []) gAppend (eCons (eN mkTup (eCons (eC (.int 0)) (eCons (eC (.int 0)) eNil))) eNil))
    (sRet (eAnd (eCall F__law_same (eCons (eVar 5) (eCons (eVar 3) eNil))) (eCall F__law_same (eCons (eCall F__law_told (eCons (eVar 0) (eCons (eN gListOf (eCons (eVar 1) eNil)) eNil))) (eCons (eVar 3) eNil)))))))))))
def F__law_answers : List D → R D := fn 6 b__law_answers
def b_law : En → Out :=
    (sSeq (sSet 1 (([0] ++ ([] ++ [])) ++ ([] ++ [])) (eCall F__law_board (eCons (eCall F__law_cell (eCons (eVar 0) (eCons (eC (.int 0)) eNil))) (eCons (eC (.int 8)) eNil))))
    (sSeq (sSet 2 ([1] ++ (([0] ++ ([] ++ [])) ++ (([0] ++ ([] ++ [])) ++ []))) (eCall F__law_walked (eCons (eVar 1) (eCons (eCall F__law_cell (eCons (eVar 0) (eCons (eC (.int 1)) eNil))) (eCons (eCall F__law_cell (eCons (eVar 0) (eCons (eC (.int 2)) eNil))) eNil)))))
    (sSeq (sSet 3 (([0] ++ ([] ++ [])) ++ (([] ++ ([] ++ ([] ++ ([] ++ [])))) ++ [])) (eCall F__law_draws (eCons (eCall F__law_cell (eCons (eVar 0) (eCons (eC (.int 3)) eNil))) (eCons (eN mkLst (eCons (eC (.int 2)) (eCons (eC (.int 8)) (eCons (eC (.int 8)) (eCons (eC (.int 2)) eNil))))) eNil))))
    (sSeq (sIf (tV (e2 (gEq) (e2 gIxG (eVar 3) (eC (.int 0))) (eC (.int 1))))
    (sSet 2 ([1] ++ ([2] ++ (([0] ++ ([] ++ [])) ++ []))) (eCall F__law_spoilt (eCons (eVar 1) (eCons (eVar 2) (eCons (eCall F__law_cell (eCons (eVar 0) (eCons (eC (.int 4)) eNil))) eNil)))))
    sNx)
    (sSeq (sIf (tAndC (tV (e2 (gEq) (e2 gIxG (eVar 3) (eC (.int 0))) (eC (.int 1)))) (tV (e2 (gEq) (e2 gIxG (eVar 3) (eC (.int 1))) (eC (.int 0)))))
    (sSet 2 ([1] ++ ([2] ++ (([0] ++ ([] ++ [])) ++ []))) (eCall F__law_spoilt (eCons (eVar 1) (eCons (eVar 2) (eCons (eCall F__law_cell (eCons (eVar 0) (eCons (eC (.int 5)) eNil))) eNil)))))
    sNx)
    (sSeq (sIf (tV (e2 (gEq) (e2 gIxG (eVar 3) (eC (.int 2))) (eC (.int 0))))
    (sSet 2 ([1] ++ (([0] ++ ([] ++ [])) ++ [])) (eCall F__law_any_row (eCons (eVar 1) (eCons (eCall F__law_cell (eCons (eVar 0) (eCons (eC (.int 6)) eNil))) eNil))))
    sNx)
    (sSeq (sIf (tOrC (tNotC (tV (eCall F__law_answers (eCons (eVar 1) (eCons (eVar 2) (eCons (e2 (gEq) (e2 gIxG (eVar 3) (eC (.int 3))) (eC (.int 1))) eNil)))))) (tNotC (tV (eCall F__law_answers (eCons (eVar 1) (eCons (e1 gRevL (eVar 2)) (eCons (e2 (gEq) (e2 gIxG (eVar 3) (eC (.int 3))) (eC (.int 1))) eNil)))))))
    (sRet (eC (.bl false)))
    sNx)
    (sSeq (sSet 4 ([2] ++ []) (eN gListOf (eCons (eVar 2) eNil)))
    (sSeq (sFor ([] ++ ([] ++ (([1] ++ []) ++ ((([1] ++ []) ++ []) ++ [])))) (iSeq (eN mkLst (eCons (e1 gNeg (eC (.int 1))) (eCons (eC (.int 0)) (eCons (e2 gIxG (eVar 1) (eC (.int 0))) (eCons (e2 gAdd (e2 gIxG (eVar 1) (eC (.int 0))) (eC (.int 1))) eNil)))))) (gSet 5)
    (sFor ([] ++ ([] ++ (([1] ++ []) ++ ((([1] ++ []) ++ []) ++ [])))) (iSeq (eN mkLst (eCons (e1 gNeg (eC (.int 1))) (eCons (eC (.int 0)) (eCons (e2 gIxG (eVar 1) (eC (.int 1))) (eCons (e2 gAdd (e2 gIxG (eVar 1) (eC (.int 1))) (eC (.int 1))) eNil)))))) (gSet 6)
    (sMut "list" 4 (([5] ++ ([6] ++ [])) ++ []) gAppend (eCons (eN mkTup (eCons (eVar 5) (eCons (eVar 6) eNil))) eNil))))
    (sSeq (sFor [4] (iSeq (eVar 4)) (gSet 7)
    (sSeq (sSet 8 ([1] ++ ([7] ++ [])) (eCall F_on_board (eCons (eVar 1) (eCons (eVar 7) eNil))))
    (sIf (tOrC (tNotC (tV (e1 (gIsi "bool") (eVar 8)))) (tV (e2 (gNe) (eVar 8) (eCall F__law_on_board (eCons (eVar 1) (eCons (eVar 7) eNil))))))
    (sRet (eC (.bl false)))
    sNx)))
    (sRet (eC (.bl true)))))))))))))
def F_law : List D → R D := fn 9 b_law
def tt_DIRECTIONS : List ((Int × Int) × Str) := [((1, 0), "E"), ((-1, 0), "W"), ((0, 1), "N"), ((0, -1), "S")]
def tt_OPPOSITES : List (Str × Str) := [("E", "W"), ("W", "E"), ("N", "S"), ("S", "N")]
def y__law_cell (p_script : (List Int)) (p_k : Int) : R Int :=
  (if (decide (p_k < (List.length p_script : Int))) then
  (((ofO (atI p_script p_k)).bind fun v1 => .ok (v1, ())).bind fun v3 => .ok v3.1)
  else .ok (0 : Int))
theorem k__law_cell (p_script : (List Int)) (p_k : Int) : RF false (F__law_cell [eKl p_script, eI p_k]) (y__law_cell p_script p_k) eI :=
  fn_ref (n := 2) (bd := b__law_cell) (Γ := [.w (eKl p_script), .w (eI p_k)]) (br_ifp (tr_v (er_2p (a := p_k) (b := (List.length p_script : Int)) (op := fun (x : Int) (y : Int) => (decide (x < y))) o_lt (er_var (ea := eI) (a := p_k) 1 rfl) (er_Np (a := (p_script, ())) (op := fun p : (List Int) × Unit => (List.length p.1 : Int)) o_lenK (ea_consp (er_var (ea := eKl) (a := p_script) 0 rfl) ea_nil)))) (br_cutR ((br_ret (e := eI) (er_N o_int (ea_consl (er_2m (a := p_script) (b := p_k) (op := fun (x : (List Int)) (y : Int) => (ofO (atI x y))) o_ixK (er_var (ea := eKl) (a := p_script) 0 rfl) (er_var (ea := eI) (a := p_k) 1 rfl)) ea_nil))))) (br_nx ((br_ret (e := eI) (er_c (ea := eI) (a := 0) rfl))))) (fits_w (Fz.fz _) (fits_w (Fz.fz _) (trivial)))
theorem r__law_cell : RefF false F__law_cell (fun p : (List Int) × Int × Unit => eKl p.1 :: (fun p : Int × Unit => eI p.1 :: (fun _ => []) p.2) p.2) (fun p : (List Int) × Int × Unit => y__law_cell p.1 p.2.1) eI := fun p => k__law_cell p.1 p.2.1
def y__law_draws (p_cell : Int) (p_sizes : (List Int)) : R (List Int) :=
  ((R.ok ([] : List Int)).bind fun drawn1 : (List Int) =>
  ((R.ok p_cell).bind fun rest2 : Int =>
  ((R.ok (decide (rest2 ≥ (1000000000000000000 : Int)))).bind fun digits3 : Bool =>
  ((rngR (List.length p_sizes : Int)).bind fun xs53 => (foldR xs53 ((drawn1, rest2) : (List Int) × Int) (fun (s27 : (List Int) × Int) (a28 : Int) => ((ofO (atI p_sizes a28)).bind fun size29 : Int =>
  (if (digits3 && (decide (s27.2 > (0 : Int)))) then
  (((modR s27.2 size29).bind fun v30 => .ok (v30, ())).bind fun v34 => (appR s27.1 v34).bind fun drawn32 : (List Int) =>
  ((divR s27.2 size29).bind fun rest33 : Int =>
  .ok (drawn32, rest33)))
  else ((R.ok (((p_cell + ((7919 : Int) * a28)) + (13 : Int)) % (2147483647 : Int))).bind fun mixed35 : Int =>
  (((((mulR mixed35 (mixed35 + (48271 : Int))).bind fun v36 => .ok (v36, ())).bind fun v38 => .ok v38.1).bind fun v39 => .ok (v39 % (2147483629 : Int))).bind fun mixed40 : Int =>
  ((((((mulR mixed40 (mixed40 + (69621 : Int))).bind fun v41 => .ok (v41 + ((31 : Int) * a28))).bind fun v43 => .ok (v43, ())).bind fun v45 => .ok v45.1).bind fun v46 => .ok (v46 % (2147483647 : Int))).bind fun mixed47 : Int =>
  (((modR (mixed47 / (9 : Int)) size29).bind fun v48 => .ok (v48, ())).bind fun v51 => (appR s27.1 v51).bind fun drawn50 : (List Int) =>
  .ok (drawn50, s27.2))))))))).bind fun s52 =>
  .ok s52.1))))
theorem k__law_draws (p_cell : Int) (p_sizes : (List Int)) : RF true (F__law_draws [eI p_cell, (eL eI) p_sizes]) (y__law_draws p_cell p_sizes) (eL eI) :=
  fn_ref (n := 8) (bd := b__law_draws) (Γ := [.w (eI p_cell), .w ((eL eI) p_sizes), .any, .any, .any, .any, .any, .any]) (br_setL (e := eI) (Γ' := fun drawn1 => [.w (eI p_cell), .w ((eL eI) p_sizes), .o ((eL eI) drawn1), .any, .any, .any, .any, .any]) (er_Np (a := ()) (op := fun _ => ([] : List Int)) (o_lst (eb := (eL eI)) (es := fun _ => []) (c := fun _ => ([] : List Int)) 0 (fun _ => rfl) (by decide) (fun _ => rfl)) ea_nil) (fun _ => rfl) (fun drawn1 => br_setC (e := eI) (Γ' := fun rest2 => [.w (eI p_cell), .w ((eL eI) p_sizes), .o ((eL eI) drawn1), .w (eI rest2), .any, .any, .any, .any]) (er_Np (a := (p_cell, ())) (op := fun p : Int × Unit => p.1) o_int (ea_consp (er_var (ea := eI) (a := p_cell) 0 rfl) ea_nil)) (fun _ => rfl) (fun rest2 => br_setC (e := eB) (Γ' := fun digits3 => [.w (eI p_cell), .w ((eL eI) p_sizes), .o ((eL eI) drawn1), .w (eI rest2), .w (eB digits3), .any, .any, .any]) (er_2p (a := rest2) (b := (1000000000000000000 : Int)) (op := fun (x : Int) (y : Int) => (decide (x ≥ y))) o_ge (er_var (ea := eI) (a := rest2) 3 rfl) (er_pow (i := 10) (j := 18) (z := 1000000000000000000) (by decide) (by rfl))) (fun _ => rfl) (fun digits3 => br_forR' (σ := (List Int) × Int) (e := eI) (s0 := (drawn1, rest2)) (Γw := [.w (eI p_cell), .w ((eL eI) p_sizes), .o ((eL eI) drawn1), .w (eI rest2), .w (eB digits3), .any, .any, .any]) (Γl := fun s27 : (List Int) × Int => [.w (eI p_cell), .w ((eL eI) p_sizes), .o ((eL eI) s27.1), .w (eI s27.2), .w (eB digits3), .any, .any, .any]) (Γb := fun (s27 : (List Int) × Int) (a28 : Int) => [.w (eI p_cell), .w ((eL eI) p_sizes), .o ((eL eI) s27.1), .w (eI s27.2), .w (eB digits3), .w (eI a28), .any, .any]) (ir_r1p (ea_consp (er_Np (a := (p_sizes, ())) (op := fun p : (List Int) × Unit => (List.length p.1 : Int)) (o_lenL (e := eI)) (ea_consp (er_var (ea := (eL eI)) (a := p_sizes) 1 rfl) ea_nil)) ea_nil)) rfl (.same (.same (.same (.same (.same (.any (.any (.any (.nil))))))))) (fun s27 => (tgn (i := 5) (e := eI) rfl (fun _ => rfl))) (fun s27 a28 => br_setC (e := eI) (Γ' := fun size29 => [.w (eI p_cell), .w ((eL eI) p_sizes), .o ((eL eI) s27.1), .w (eI s27.2), .w (eB digits3), .w (eI a28), .w (eI size29), .any]) (er_2m (a := p_sizes) (b := a28) (op := fun (x : (List Int)) (y : Int) => (ofO (atI x y))) (o_ixL (e := eI)) (er_var (ea := (eL eI)) (a := p_sizes) 1 rfl) (er_var (ea := eI) (a := a28) 5 rfl)) (fun _ => rfl) (fun size29 => br_last (br_ifp (tr_and (tr_v (er_var (ea := eB) (a := digits3) 4 rfl)) (tr_v (er_2p (a := s27.2) (b := (0 : Int)) (op := fun (x : Int) (y : Int) => (decide (x > y))) o_gt (er_var (ea := eI) (a := s27.2) 3 rfl) (er_c (ea := eI) (a := 0) rfl)))) (br_assoc (br_mutC (a := s27.1) (ea := (eL eI)) (ec := (eL eI)) (Γ' := fun drawn32 => [.w (eI p_cell), .w ((eL eI) p_sizes), .o ((eL eI) drawn32), .w (eI s27.2), .w (eB digits3), .w (eI a28), .w (eI size29), .any]) (m_app (e := eI)) ty_list rfl (ea_consl (er_2m (a := s27.2) (b := size29) (op := fun (x : Int) (y : Int) => (modR x y)) o_mod (er_Np (a := (s27.2, ())) (op := fun p : Int × Unit => p.1) o_int (ea_consp (er_var (ea := eI) (a := s27.2) 3 rfl) ea_nil)) (er_var (ea := eI) (a := size29) 6 rfl)) ea_nil) (fun _ => rfl) (fun _ => rfl) (fun drawn32 => br_setC (e := eI) (Γ' := fun rest33 => [.w (eI p_cell), .w ((eL eI) p_sizes), .o ((eL eI) drawn32), .w (eI rest33), .w (eB digits3), .w (eI a28), .w (eI size29), .any]) (er_2m (a := s27.2) (b := size29) (op := fun (x : Int) (y : Int) => (divR x y)) o_div (er_var (ea := eI) (a := s27.2) 3 rfl) (er_var (ea := eI) (a := size29) 6 rfl)) (fun _ => rfl) (fun rest33 => (br_n (s := (drawn32, rest33)) (.same (.same (.same (.same (.same (.any (.any (.any (.nil)))))))))))))) (br_assoc (br_setC (e := eI) (Γ' := fun mixed35 => [.w (eI p_cell), .w ((eL eI) p_sizes), .o ((eL eI) s27.1), .w (eI s27.2), .w (eB digits3), .w (eI a28), .w (eI size29), .w (eI mixed35)]) (er_modL (by decide) (er_Np (a := (((p_cell + ((7919 : Int) * a28)) + (13 : Int)), ())) (op := fun p : Int × Unit => p.1) o_int (ea_consp (er_2p (a := (p_cell + ((7919 : Int) * a28))) (b := (13 : Int)) (op := fun (x : Int) (y : Int) => (x + y)) o_add (er_2p (a := p_cell) (b := ((7919 : Int) * a28)) (op := fun (x : Int) (y : Int) => (x + y)) o_add (er_var (ea := eI) (a := p_cell) 0 rfl) (er_mulL (by decide) (er_c (ea := eI) (a := 7919) rfl) (er_var (ea := eI) (a := a28) 5 rfl))) (er_c (ea := eI) (a := 13) rfl)) ea_nil)) (er_c (ea := eI) (a := 2147483647) rfl)) (fun _ => rfl) (fun mixed35 => br_assoc (br_setC (e := eI) (Γ' := fun mixed40 => [.w (eI p_cell), .w ((eL eI) p_sizes), .o ((eL eI) s27.1), .w (eI s27.2), .w (eB digits3), .w (eI a28), .w (eI size29), .w (eI mixed40)]) (er_modLM (by decide) (er_N o_int (ea_consl (er_2m (a := mixed35) (b := (mixed35 + (48271 : Int))) (op := fun (x : Int) (y : Int) => (mulR x y)) o_mul (er_var (ea := eI) (a := mixed35) 7 rfl) (er_2p (a := mixed35) (b := (48271 : Int)) (op := fun (x : Int) (y : Int) => (x + y)) o_add (er_var (ea := eI) (a := mixed35) 7 rfl) (er_c (ea := eI) (a := 48271) rfl))) ea_nil)) (er_c (ea := eI) (a := 2147483629) rfl)) (fun _ => rfl) (fun mixed40 => br_assoc (br_setC (e := eI) (Γ' := fun mixed47 => [.w (eI p_cell), .w ((eL eI) p_sizes), .o ((eL eI) s27.1), .w (eI s27.2), .w (eB digits3), .w (eI a28), .w (eI size29), .w (eI mixed47)]) (er_modLM (by decide) (er_N o_int (ea_consl (er_2l o_add (er_2m (a := mixed40) (b := (mixed40 + (69621 : Int))) (op := fun (x : Int) (y : Int) => (mulR x y)) o_mul (er_var (ea := eI) (a := mixed40) 7 rfl) (er_2p (a := mixed40) (b := (69621 : Int)) (op := fun (x : Int) (y : Int) => (x + y)) o_add (er_var (ea := eI) (a := mixed40) 7 rfl) (er_c (ea := eI) (a := 69621) rfl))) (er_mulL (by decide) (er_c (ea := eI) (a := 31) rfl) (er_var (ea := eI) (a := a28) 5 rfl))) ea_nil)) (er_c (ea := eI) (a := 2147483647) rfl)) (fun _ => rfl) (fun mixed47 => br_mutC (a := s27.1) (ea := (eL eI)) (ec := (eL eI)) (Γ' := fun drawn50 => [.w (eI p_cell), .w ((eL eI) p_sizes), .o ((eL eI) drawn50), .w (eI s27.2), .w (eB digits3), .w (eI a28), .w (eI size29), .w (eI mixed47)]) (m_app (e := eI)) ty_list rfl (ea_consl (er_2m (a := (mixed47 / (9 : Int))) (b := size29) (op := fun (x : Int) (y : Int) => (modR x y)) o_mod (er_Np (a := ((mixed47 / (9 : Int)), ())) (op := fun p : Int × Unit => p.1) o_int (ea_consp (er_divL (by decide) (er_var (ea := eI) (a := mixed47) 7 rfl) (er_c (ea := eI) (a := 9) rfl)) ea_nil)) (er_var (ea := eI) (a := size29) 6 rfl)) ea_nil) (fun _ => rfl) (fun _ => rfl) (fun drawn50 => (br_n (s := (drawn50, s27.2)) (.same (.same (.same (.same (.same (.any (.any (.any (.nil))))))))))))))))))))) (fun s52 => (br_retV (e := (eL eI)) (b := s52.1) (i := 2) (o := true) rfl)))))) (fits_w (Fz.fz _) (fits_w (Fz.fz _) (fits_a (fits_a (fits_a (fits_a (fits_a (fits_a (trivial)))))))))
theorem r__law_draws : RefF true F__law_draws (fun p : Int × (List Int) × Unit => eI p.1 :: (fun p : (List Int) × Unit => (eL eI) p.1 :: (fun _ => []) p.2) p.2) (fun p : Int × (List Int) × Unit => y__law_draws p.1 p.2.1) (eL eI) := fun p => k__law_draws p.1 p.2.1
def y__law_board (p_cell : Int) (p_most : Int) : R (Int × Int) :=
  ((y__law_draws p_cell [(8 : Int), p_most, p_most, (p_most + (1 : Int)), (p_most + (1 : Int))]).bind fun d1 : (List Int) =>
  (((ofO (atI d1 (0 : Int))).bind fun v2 => .ok (decide (v2 = (0 : Int)))).bind fun b18 => if b18 then
  (((ofO (atI d1 (3 : Int))).bind fun v6 => (((ofO (atI d1 (4 : Int))).bind fun v4 => .ok (v4, ())).bind fun v7 => .ok (v6, v7))).bind fun v8 => .ok (v8.1, v8.2.1))
  else ((((ofO (atI d1 (1 : Int))).bind fun v9 => .ok (v9 + (1 : Int))).bind fun v15 => ((((ofO (atI d1 (2 : Int))).bind fun v11 => .ok (v11 + (1 : Int))).bind fun v13 => .ok (v13, ())).bind fun v16 => .ok (v15, v16))).bind fun v17 => .ok (v17.1, v17.2.1))))
theorem k__law_board (p_cell : Int) (p_most : Int) : RF false (F__law_board [eI p_cell, eI p_most]) (y__law_board p_cell p_most) pr :=
  fn_ref (n := 3) (bd := b__law_board) (Γ := [.w (eI p_cell), .w (eI p_most), .any]) (br_setL (e := eI) (Γ' := fun d1 => [.w (eI p_cell), .w (eI p_most), .o ((eL eI) d1)]) (er_callp (a := (p_cell, ([(8 : Int), p_most, p_most, (p_most + (1 : Int)), (p_most + (1 : Int))], ()))) (y := (fun p : Int × (List Int) × Unit => y__law_draws p.1 p.2.1)) r__law_draws (ea_consp (er_var (ea := eI) (a := p_cell) 0 rfl) (ea_consp (ER.weak (er_Np (a := ((8 : Int), (p_most, (p_most, ((p_most + (1 : Int)), ((p_most + (1 : Int)), ())))))) (op := fun p : Int × Int × Int × Int × Int × Unit => [p.1, p.2.1, p.2.2.1, p.2.2.2.1, p.2.2.2.2.1]) (o_lst (eb := (eL eI)) (es := (fun p : Int × Int × Int × Int × Int × Unit => eI p.1 :: (fun p : Int × Int × Int × Int × Unit => eI p.1 :: (fun p : Int × Int × Int × Unit => eI p.1 :: (fun p : Int × Int × Unit => eI p.1 :: (fun p : Int × Unit => eI p.1 :: (fun _ => []) p.2) p.2) p.2) p.2) p.2)) (c := fun p => [p.1, p.2.1, p.2.2.1, p.2.2.2.1, p.2.2.2.2.1]) 5 (fun _ => rfl) (by decide) (fun _ => rfl)) (ea_consp (er_c (ea := eI) (a := 8) rfl) (ea_consp (er_var (ea := eI) (a := p_most) 1 rfl) (ea_consp (er_var (ea := eI) (a := p_most) 1 rfl) (ea_consp (er_2p (a := p_most) (b := (1 : Int)) (op := fun (x : Int) (y : Int) => (x + y)) o_add (er_var (ea := eI) (a := p_most) 1 rfl) (er_c (ea := eI) (a := 1) rfl)) (ea_consp (er_2p (a := p_most) (b := (1 : Int)) (op := fun (x : Int) (y : Int) => (x + y)) o_add (er_var (ea := eI) (a := p_most) 1 rfl) (er_c (ea := eI) (a := 1) rfl)) ea_nil))))))) ea_nil))) (fun _ => rfl) (fun d1 => br_if (tr_vM (er_2l (o_eq (e := eI) (by decide)) (er_2m (a := d1) (b := (0 : Int)) (op := fun (x : (List Int)) (y : Int) => (ofO (atI x y))) (o_ixL (e := eI)) (er_varO (ea := (eL eI)) (a := d1) 2 rfl) (er_c (ea := eI) (a := 0) rfl)) (er_c (ea := eI) (a := 0) rfl))) (br_cutR ((br_ret (e := pr) (er_N (o_tup (eb := pr) (es := (fun p : Int × Int × Unit => eI p.1 :: (fun p : Int × Unit => eI p.1 :: (fun _ => []) p.2) p.2)) (c := fun p => (p.1, p.2.1)) 2 (fun _ => rfl) (by decide) (fun _ => rfl)) (ea_cons (er_2m (a := d1) (b := (3 : Int)) (op := fun (x : (List Int)) (y : Int) => (ofO (atI x y))) (o_ixL (e := eI)) (er_varO (ea := (eL eI)) (a := d1) 2 rfl) (er_c (ea := eI) (a := 3) rfl)) (ea_consl (er_2m (a := d1) (b := (4 : Int)) (op := fun (x : (List Int)) (y : Int) => (ofO (atI x y))) (o_ixL (e := eI)) (er_varO (ea := (eL eI)) (a := d1) 2 rfl) (er_c (ea := eI) (a := 4) rfl)) ea_nil)))))) (br_nx ((br_ret (e := pr) (er_N (o_tup (eb := pr) (es := (fun p : Int × Int × Unit => eI p.1 :: (fun p : Int × Unit => eI p.1 :: (fun _ => []) p.2) p.2)) (c := fun p => (p.1, p.2.1)) 2 (fun _ => rfl) (by decide) (fun _ => rfl)) (ea_cons (er_2l o_add (er_2m (a := d1) (b := (1 : Int)) (op := fun (x : (List Int)) (y : Int) => (ofO (atI x y))) (o_ixL (e := eI)) (er_varO (ea := (eL eI)) (a := d1) 2 rfl) (er_c (ea := eI) (a := 1) rfl)) (er_c (ea := eI) (a := 1) rfl)) (ea_consl (er_2l o_add (er_2m (a := d1) (b := (2 : Int)) (op := fun (x : (List Int)) (y : Int) => (ofO (atI x y))) (o_ixL (e := eI)) (er_varO (ea := (eL eI)) (a := d1) 2 rfl) (er_c (ea := eI) (a := 2) rfl)) (er_c (ea := eI) (a := 1) rfl)) ea_nil)))))))) (fits_w (Fz.fz _) (fits_w (Fz.fz _) (fits_a (trivial))))
theorem r__law_board : RefF false F__law_board (fun p : Int × Int × Unit => eI p.1 :: (fun p : Int × Unit => eI p.1 :: (fun _ => []) p.2) p.2) (fun p : Int × Int × Unit => y__law_board p.1 p.2.1) pr := fun p => k__law_board p.1 p.2.1
def y__law_stepped (p_corner : (Int × Int)) (p_letter : Str) : R (Int × Int) :=
  ((eqR eS eS p_letter ("E" : Str)).bind fun b3 => if b3 then
  .ok ((p_corner.1 + (1 : Int)), p_corner.2)
  else ((eqR eS eS p_letter ("W" : Str)).bind fun b2 => if b2 then
  .ok ((p_corner.1 - (1 : Int)), p_corner.2)
  else ((eqR eS eS p_letter ("N" : Str)).bind fun b1 => if b1 then
  .ok (p_corner.1, (p_corner.2 + (1 : Int)))
  else .ok (p_corner.1, (p_corner.2 - (1 : Int))))))
theorem k__law_stepped (p_corner : (Int × Int)) (p_letter : Str) : RF false (F__law_stepped [pr p_corner, eS p_letter]) (y__law_stepped p_corner p_letter) pr :=
  fn_ref (n := 2) (bd := b__law_stepped) (Γ := [.w (pr p_corner), .w (eS p_letter)]) (br_if (tr_vM (er_2m (a := p_letter) (b := ("E" : Str)) (op := fun (x : Str) (y : Str) => (eqR eS eS x y)) (o_eqR (ea := eS) (eb := eS)) (er_var (ea := eS) (a := p_letter) 1 rfl) (er_c (ea := eS) (a := "E") rfl))) (br_cutR ((br_ret (e := pr) (er_Np (a := ((p_corner.1 + (1 : Int)), (p_corner.2, ()))) (op := fun p : Int × Int × Unit => (p.1, p.2.1)) (o_tup (eb := pr) (es := (fun p : Int × Int × Unit => eI p.1 :: (fun p : Int × Unit => eI p.1 :: (fun _ => []) p.2) p.2)) (c := fun p => (p.1, p.2.1)) 2 (fun _ => rfl) (by decide) (fun _ => rfl)) (ea_consp (er_2p (a := p_corner.1) (b := (1 : Int)) (op := fun (x : Int) (y : Int) => (x + y)) o_add (er_prj (ea := pr) (eb := eI) (c := fun p => p.1) (k := 0) (fun a => ⟨_, rfl, fun zs hz => by obtain ⟨x0, x1, rfl⟩ := len_2 hz; exact ⟨_, rfl, fun h => by simp only [List.map_cons, List.cons.injEq] at h; exact h.1⟩⟩) (er_var (ea := pr) (a := p_corner) 0 rfl) (er_c (ea := eI) (a := 0) rfl)) (er_c (ea := eI) (a := 1) rfl)) (ea_consp (er_prj (ea := pr) (eb := eI) (c := fun p => p.2) (k := 1) (fun a => ⟨_, rfl, fun zs hz => by obtain ⟨x0, x1, rfl⟩ := len_2 hz; exact ⟨_, rfl, fun h => by simp only [List.map_cons, List.cons.injEq] at h; exact h.2.1⟩⟩) (er_var (ea := pr) (a := p_corner) 0 rfl) (er_c (ea := eI) (a := 1) rfl)) ea_nil)))))) (br_nx (br_if (tr_vM (er_2m (a := p_letter) (b := ("W" : Str)) (op := fun (x : Str) (y : Str) => (eqR eS eS x y)) (o_eqR (ea := eS) (eb := eS)) (er_var (ea := eS) (a := p_letter) 1 rfl) (er_c (ea := eS) (a := "W") rfl))) (br_cutR ((br_ret (e := pr) (er_Np (a := ((p_corner.1 - (1 : Int)), (p_corner.2, ()))) (op := fun p : Int × Int × Unit => (p.1, p.2.1)) (o_tup (eb := pr) (es := (fun p : Int × Int × Unit => eI p.1 :: (fun p : Int × Unit => eI p.1 :: (fun _ => []) p.2) p.2)) (c := fun p => (p.1, p.2.1)) 2 (fun _ => rfl) (by decide) (fun _ => rfl)) (ea_consp (er_2p (a := p_corner.1) (b := (1 : Int)) (op := fun (x : Int) (y : Int) => (x - y)) o_sub (er_prj (ea := pr) (eb := eI) (c := fun p => p.1) (k := 0) (fun a => ⟨_, rfl, fun zs hz => by obtain ⟨x0, x1, rfl⟩ := len_2 hz; exact ⟨_, rfl, fun h => by simp only [List.map_cons, List.cons.injEq] at h; exact h.1⟩⟩) (er_var (ea := pr) (a := p_corner) 0 rfl) (er_c (ea := eI) (a := 0) rfl)) (er_c (ea := eI) (a := 1) rfl)) (ea_consp (er_prj (ea := pr) (eb := eI) (c := fun p => p.2) (k := 1) (fun a => ⟨_, rfl, fun zs hz => by obtain ⟨x0, x1, rfl⟩ := len_2 hz; exact ⟨_, rfl, fun h => by simp only [List.map_cons, List.cons.injEq] at h; exact h.2.1⟩⟩) (er_var (ea := pr) (a := p_corner) 0 rfl) (er_c (ea := eI) (a := 1) rfl)) ea_nil)))))) (br_nx (br_if (tr_vM (er_2m (a := p_letter) (b := ("N" : Str)) (op := fun (x : Str) (y : Str) => (eqR eS eS x y)) (o_eqR (ea := eS) (eb := eS)) (er_var (ea := eS) (a := p_letter) 1 rfl) (er_c (ea := eS) (a := "N") rfl))) (br_cutR ((br_ret (e := pr) (er_Np (a := (p_corner.1, ((p_corner.2 + (1 : Int)), ()))) (op := fun p : Int × Int × Unit => (p.1, p.2.1)) (o_tup (eb := pr) (es := (fun p : Int × Int × Unit => eI p.1 :: (fun p : Int × Unit => eI p.1 :: (fun _ => []) p.2) p.2)) (c := fun p => (p.1, p.2.1)) 2 (fun _ => rfl) (by decide) (fun _ => rfl)) (ea_consp (er_prj (ea := pr) (eb := eI) (c := fun p => p.1) (k := 0) (fun a => ⟨_, rfl, fun zs hz => by obtain ⟨x0, x1, rfl⟩ := len_2 hz; exact ⟨_, rfl, fun h => by simp only [List.map_cons, List.cons.injEq] at h; exact h.1⟩⟩) (er_var (ea := pr) (a := p_corner) 0 rfl) (er_c (ea := eI) (a := 0) rfl)) (ea_consp (er_2p (a := p_corner.2) (b := (1 : Int)) (op := fun (x : Int) (y : Int) => (x + y)) o_add (er_prj (ea := pr) (eb := eI) (c := fun p => p.2) (k := 1) (fun a => ⟨_, rfl, fun zs hz => by obtain ⟨x0, x1, rfl⟩ := len_2 hz; exact ⟨_, rfl, fun h => by simp only [List.map_cons, List.cons.injEq] at h; exact h.2.1⟩⟩) (er_var (ea := pr) (a := p_corner) 0 rfl) (er_c (ea := eI) (a := 1) rfl)) (er_c (ea := eI) (a := 1) rfl)) ea_nil)))))) (br_nx ((br_ret (e := pr) (er_Np (a := (p_corner.1, ((p_corner.2 - (1 : Int)), ()))) (op := fun p : Int × Int × Unit => (p.1, p.2.1)) (o_tup (eb := pr) (es := (fun p : Int × Int × Unit => eI p.1 :: (fun p : Int × Unit => eI p.1 :: (fun _ => []) p.2) p.2)) (c := fun p => (p.1, p.2.1)) 2 (fun _ => rfl) (by decide) (fun _ => rfl)) (ea_consp (er_prj (ea := pr) (eb := eI) (c := fun p => p.1) (k := 0) (fun a => ⟨_, rfl, fun zs hz => by obtain ⟨x0, x1, rfl⟩ := len_2 hz; exact ⟨_, rfl, fun h => by simp only [List.map_cons, List.cons.injEq] at h; exact h.1⟩⟩) (er_var (ea := pr) (a := p_corner) 0 rfl) (er_c (ea := eI) (a := 0) rfl)) (ea_consp (er_2p (a := p_corner.2) (b := (1 : Int)) (op := fun (x : Int) (y : Int) => (x - y)) o_sub (er_prj (ea := pr) (eb := eI) (c := fun p => p.2) (k := 1) (fun a => ⟨_, rfl, fun zs hz => by obtain ⟨x0, x1, rfl⟩ := len_2 hz; exact ⟨_, rfl, fun h => by simp only [List.map_cons, List.cons.injEq] at h; exact h.2.1⟩⟩) (er_var (ea := pr) (a := p_corner) 0 rfl) (er_c (ea := eI) (a := 1) rfl)) (er_c (ea := eI) (a := 1) rfl)) ea_nil))))))))))) (fits_w (Fz.fz _) (fits_w (Fz.fz _) (trivial)))
theorem r__law_stepped : RefF false F__law_stepped (fun p : (Int × Int) × Str × Unit => pr p.1 :: (fun p : Str × Unit => eS p.1 :: (fun _ => []) p.2) p.2) (fun p : (Int × Int) × Str × Unit => y__law_stepped p.1 p.2.1) pr := fun p => k__law_stepped p.1 p.2.1
def y__law_on_board (p_board : (Int × Int)) (p_corner : (Int × Int)) : R Bool :=
  .ok (((decide ((0 : Int) ≤ p_corner.1)) && (decide (p_corner.1 ≤ p_board.1))) && ((decide ((0 : Int) ≤ p_corner.2)) && (decide (p_corner.2 ≤ p_board.2))))
theorem k__law_on_board (p_board : (Int × Int)) (p_corner : (Int × Int)) : RF false (F__law_on_board [pr p_board, pr p_corner]) (y__law_on_board p_board p_corner) eB :=
  fn_ref (n := 2) (bd := b__law_on_board) (Γ := [.w (pr p_board), .w (pr p_corner)]) ((br_ret (e := eB) (er_and (er_ch (p := fun i j => decide (i ≤ j)) (q := fun i j => decide (i ≤ j)) o_le o_le (er_c (ea := eI) (a := 0) rfl) (er_prj (ea := pr) (eb := eI) (c := fun p => p.1) (k := 0) (fun a => ⟨_, rfl, fun zs hz => by obtain ⟨x0, x1, rfl⟩ := len_2 hz; exact ⟨_, rfl, fun h => by simp only [List.map_cons, List.cons.injEq] at h; exact h.1⟩⟩) (er_var (ea := pr) (a := p_corner) 1 rfl) (er_c (ea := eI) (a := 0) rfl)) (er_prj (ea := pr) (eb := eI) (c := fun p => p.1) (k := 0) (fun a => ⟨_, rfl, fun zs hz => by obtain ⟨x0, x1, rfl⟩ := len_2 hz; exact ⟨_, rfl, fun h => by simp only [List.map_cons, List.cons.injEq] at h; exact h.1⟩⟩) (er_var (ea := pr) (a := p_board) 0 rfl) (er_c (ea := eI) (a := 0) rfl))) (er_ch (p := fun i j => decide (i ≤ j)) (q := fun i j => decide (i ≤ j)) o_le o_le (er_c (ea := eI) (a := 0) rfl) (er_prj (ea := pr) (eb := eI) (c := fun p => p.2) (k := 1) (fun a => ⟨_, rfl, fun zs hz => by obtain ⟨x0, x1, rfl⟩ := len_2 hz; exact ⟨_, rfl, fun h => by simp only [List.map_cons, List.cons.injEq] at h; exact h.2.1⟩⟩) (er_var (ea := pr) (a := p_corner) 1 rfl) (er_c (ea := eI) (a := 1) rfl)) (er_prj (ea := pr) (eb := eI) (c := fun p => p.2) (k := 1) (fun a => ⟨_, rfl, fun zs hz => by obtain ⟨x0, x1, rfl⟩ := len_2 hz; exact ⟨_, rfl, fun h => by simp only [List.map_cons, List.cons.injEq] at h; exact h.2.1⟩⟩) (er_var (ea := pr) (a := p_board) 0 rfl) (er_c (ea := eI) (a := 1) rfl)))))) (fits_w (Fz.fz _) (fits_w (Fz.fz _) (trivial)))
theorem r__law_on_board : RefF false F__law_on_board (fun p : (Int × Int) × (Int × Int) × Unit => pr p.1 :: (fun p : (Int × Int) × Unit => pr p.1 :: (fun _ => []) p.2) p.2) (fun p : (Int × Int) × (Int × Int) × Unit => y__law_on_board p.1 p.2.1) eB := fun p => k__law_on_board p.1 p.2.1
def y__law_walked (p_board : (Int × Int)) (p_start_cell : Int) (p_step_cell : Int) : R (List (Int × Int)) :=
  ((y__law_draws p_start_cell [(p_board.1 + (1 : Int)), (p_board.2 + (1 : Int)), (4 : Int), (17 : Int), (2 : Int)]).bind fun d1 : (List Int) =>
  (((ofO (atI d1 (2 : Int))).bind fun v3 => (ofO (atI [("EN" : Str), ("WS" : Str), ("ES" : Str), ("WN" : Str)] v3))).bind fun letters4 : Str =>
  ((((((ofO (atI d1 (0 : Int))).bind fun v7 => (((ofO (atI d1 (1 : Int))).bind fun v5 => .ok (v5, ())).bind fun v8 => .ok (v7, v8))).bind fun v9 => .ok (v9.1, v9.2.1)).bind fun v10 => .ok (v10, ())).bind fun v12 => .ok [v12.1]).bind fun row13 : (List (Int × Int)) =>
  (((((ofO (atI d1 (4 : Int))).bind fun v14 => .ok (decide (v14 = (1 : Int)))).bind fun b78 => if b78 then (((((((ofO (atI d1 (2 : Int))).bind fun v30 => (ofO (atI [(0 : Int), p_board.1, (0 : Int), p_board.1] v30))).bind fun v35 => ((((ofO (atI d1 (2 : Int))).bind fun v32 => (ofO (atI [(0 : Int), p_board.2, p_board.2, (0 : Int)] v32))).bind fun v33 => .ok (v33, ())).bind fun v36 => .ok (v35, v36))).bind fun v37 => .ok (v37.1, v37.2.1)).bind fun v38 => .ok (v38, ())).bind fun v40 => .ok [v40.1]).bind fun row41 : (List (Int × Int)) =>
  .ok row41) else .ok row13) : R ((List (Int × Int)))).bind fun s42 =>
  (((((repR [(2 : Int)] (16 : Int)).bind fun v43 => .ok (v43, ())).bind fun v46 => .ok (p_step_cell, v46)).bind fun v47 => y__law_draws v47.1 v47.2.1).bind fun picks48 : (List Int) =>
  ((((ofO (atI d1 (3 : Int))).bind fun v49 => .ok (v49, ())).bind fun v51 => rngR v51.1).bind fun xs77 => (foldR xs77 (s42 : (List (Int × Int))) (fun (s63 : (List (Int × Int))) (a64 : Int) => ((((ofO (atI s63 (-(1 : Int)))).bind fun v69 => ((((ofO (atI picks48 a64)).bind fun v66 => (ixS letters4 v66)).bind fun v67 => .ok (v67, ())).bind fun v70 => .ok (v69, v70))).bind fun v71 => y__law_stepped v71.1 v71.2.1).bind fun corner72 : (Int × Int) =>
  ((y__law_on_board p_board corner72).bind fun b75 => if b75 then
  ((R.ok (corner72, ())).bind fun v74 => (appR s63 v74).bind fun row73 : (List (Int × Int)) =>
  .ok row73)
  else .ok s63)))).bind fun s76 =>
  .ok s76))))))
theorem k__law_walked (p_board : (Int × Int)) (p_start_cell : Int) (p_step_cell : Int) : RF true (F__law_walked [pr p_board, eI p_start_cell, eI p_step_cell]) (y__law_walked p_board p_start_cell p_step_cell) (eL pr) :=
  fn_ref (n := 9) (bd := b__law_walked) (Γ := [.w (pr p_board), .w (eI p_start_cell), .w (eI p_step_cell), .any, .any, .any, .any, .any, .any]) (br_setL (e := eI) (Γ' := fun d1 => [.w (pr p_board), .w (eI p_start_cell), .w (eI p_step_cell), .o ((eL eI) d1), .any, .any, .any, .any, .any]) (er_callp (a := (p_start_cell, ([(p_board.1 + (1 : Int)), (p_board.2 + (1 : Int)), (4 : Int), (17 : Int), (2 : Int)], ()))) (y := (fun p : Int × (List Int) × Unit => y__law_draws p.1 p.2.1)) r__law_draws (ea_consp (er_var (ea := eI) (a := p_start_cell) 1 rfl) (ea_consp (ER.weak (er_Np (a := ((p_board.1 + (1 : Int)), ((p_board.2 + (1 : Int)), ((4 : Int), ((17 : Int), ((2 : Int), ())))))) (op := fun p : Int × Int × Int × Int × Int × Unit => [p.1, p.2.1, p.2.2.1, p.2.2.2.1, p.2.2.2.2.1]) (o_lst (eb := (eL eI)) (es := (fun p : Int × Int × Int × Int × Int × Unit => eI p.1 :: (fun p : Int × Int × Int × Int × Unit => eI p.1 :: (fun p : Int × Int × Int × Unit => eI p.1 :: (fun p : Int × Int × Unit => eI p.1 :: (fun p : Int × Unit => eI p.1 :: (fun _ => []) p.2) p.2) p.2) p.2) p.2)) (c := fun p => [p.1, p.2.1, p.2.2.1, p.2.2.2.1, p.2.2.2.2.1]) 5 (fun _ => rfl) (by decide) (fun _ => rfl)) (ea_consp (er_2p (a := p_board.1) (b := (1 : Int)) (op := fun (x : Int) (y : Int) => (x + y)) o_add (er_prj (ea := pr) (eb := eI) (c := fun p => p.1) (k := 0) (fun a => ⟨_, rfl, fun zs hz => by obtain ⟨x0, x1, rfl⟩ := len_2 hz; exact ⟨_, rfl, fun h => by simp only [List.map_cons, List.cons.injEq] at h; exact h.1⟩⟩) (er_var (ea := pr) (a := p_board) 0 rfl) (er_c (ea := eI) (a := 0) rfl)) (er_c (ea := eI) (a := 1) rfl)) (ea_consp (er_2p (a := p_board.2) (b := (1 : Int)) (op := fun (x : Int) (y : Int) => (x + y)) o_add (er_prj (ea := pr) (eb := eI) (c := fun p => p.2) (k := 1) (fun a => ⟨_, rfl, fun zs hz => by obtain ⟨x0, x1, rfl⟩ := len_2 hz; exact ⟨_, rfl, fun h => by simp only [List.map_cons, List.cons.injEq] at h; exact h.2.1⟩⟩) (er_var (ea := pr) (a := p_board) 0 rfl) (er_c (ea := eI) (a := 1) rfl)) (er_c (ea := eI) (a := 1) rfl)) (ea_consp (er_c (ea := eI) (a := 4) rfl) (ea_consp (er_c (ea := eI) (a := 17) rfl) (ea_consp (er_c (ea := eI) (a := 2) rfl) ea_nil))))))) ea_nil))) (fun _ => rfl) (fun d1 => br_setC (e := eS) (Γ' := fun letters4 => [.w (pr p_board), .w (eI p_start_cell), .w (eI p_step_cell), .o ((eL eI) d1), .w (eS letters4), .any, .any, .any, .any]) (er_2r (o_ixL (e := eS)) (ER.weak (er_Np (a := (("EN" : Str), (("WS" : Str), (("ES" : Str), (("WN" : Str), ()))))) (op := fun p : Str × Str × Str × Str × Unit => [p.1, p.2.1, p.2.2.1, p.2.2.2.1]) (o_lst (eb := (eL eS)) (es := (fun p : Str × Str × Str × Str × Unit => eS p.1 :: (fun p : Str × Str × Str × Unit => eS p.1 :: (fun p : Str × Str × Unit => eS p.1 :: (fun p : Str × Unit => eS p.1 :: (fun _ => []) p.2) p.2) p.2) p.2)) (c := fun p => [p.1, p.2.1, p.2.2.1, p.2.2.2.1]) 4 (fun _ => rfl) (by decide) (fun _ => rfl)) (ea_consp (er_c (ea := eS) (a := "EN") rfl) (ea_consp (er_c (ea := eS) (a := "WS") rfl) (ea_consp (er_c (ea := eS) (a := "ES") rfl) (ea_consp (er_c (ea := eS) (a := "WN") rfl) ea_nil)))))) (er_2m (a := d1) (b := (2 : Int)) (op := fun (x : (List Int)) (y : Int) => (ofO (atI x y))) (o_ixL (e := eI)) (er_varO (ea := (eL eI)) (a := d1) 3 rfl) (er_c (ea := eI) (a := 2) rfl))) (fun _ => rfl) (fun letters4 => br_setL (e := pr) (Γ' := fun row13 => [.w (pr p_board), .w (eI p_start_cell), .w (eI p_step_cell), .o ((eL eI) d1), .w (eS letters4), .o ((eL pr) row13), .any, .any, .any]) (er_N (o_lst (eb := (eL pr)) (es := (fun p : (Int × Int) × Unit => pr p.1 :: (fun _ => []) p.2)) (c := fun p => [p.1]) 1 (fun _ => rfl) (by decide) (fun _ => rfl)) (ea_consl (er_N (o_tup (eb := pr) (es := (fun p : Int × Int × Unit => eI p.1 :: (fun p : Int × Unit => eI p.1 :: (fun _ => []) p.2) p.2)) (c := fun p => (p.1, p.2.1)) 2 (fun _ => rfl) (by decide) (fun _ => rfl)) (ea_cons (er_2m (a := d1) (b := (0 : Int)) (op := fun (x : (List Int)) (y : Int) => (ofO (atI x y))) (o_ixL (e := eI)) (er_varO (ea := (eL eI)) (a := d1) 3 rfl) (er_c (ea := eI) (a := 0) rfl)) (ea_consl (er_2m (a := d1) (b := (1 : Int)) (op := fun (x : (List Int)) (y : Int) => (ofO (atI x y))) (o_ixL (e := eI)) (er_varO (ea := (eL eI)) (a := d1) 3 rfl) (er_c (ea := eI) (a := 1) rfl)) ea_nil))) ea_nil)) (fun _ => rfl) (fun row13 => br_join (σ := (List (Int × Int))) (Γj := fun s42 : (List (Int × Int)) => [.w (pr p_board), .w (eI p_start_cell), .w (eI p_step_cell), .o ((eL eI) d1), .w (eS letters4), .o ((eL pr) s42), .any, .any, .any]) (br_last (br_if (tr_vM (er_2l (o_eq (e := eI) (by decide)) (er_2m (a := d1) (b := (4 : Int)) (op := fun (x : (List Int)) (y : Int) => (ofO (atI x y))) (o_ixL (e := eI)) (er_varO (ea := (eL eI)) (a := d1) 3 rfl) (er_c (ea := eI) (a := 4) rfl)) (er_c (ea := eI) (a := 1) rfl))) (br_setL (e := pr) (Γ' := fun row41 => [.w (pr p_board), .w (eI p_start_cell), .w (eI p_step_cell), .o ((eL eI) d1), .w (eS letters4), .o ((eL pr) row41), .any, .any, .any]) (er_N (o_lst (eb := (eL pr)) (es := (fun p : (Int × Int) × Unit => pr p.1 :: (fun _ => []) p.2)) (c := fun p => [p.1]) 1 (fun _ => rfl) (by decide) (fun _ => rfl)) (ea_consl (er_N (o_tup (eb := pr) (es := (fun p : Int × Int × Unit => eI p.1 :: (fun p : Int × Unit => eI p.1 :: (fun _ => []) p.2) p.2)) (c := fun p => (p.1, p.2.1)) 2 (fun _ => rfl) (by decide) (fun _ => rfl)) (ea_cons (er_2r (o_ixL (e := eI)) (ER.weak (er_Np (a := ((0 : Int), (p_board.1, ((0 : Int), (p_board.1, ()))))) (op := fun p : Int × Int × Int × Int × Unit => [p.1, p.2.1, p.2.2.1, p.2.2.2.1]) (o_lst (eb := (eL eI)) (es := (fun p : Int × Int × Int × Int × Unit => eI p.1 :: (fun p : Int × Int × Int × Unit => eI p.1 :: (fun p : Int × Int × Unit => eI p.1 :: (fun p : Int × Unit => eI p.1 :: (fun _ => []) p.2) p.2) p.2) p.2)) (c := fun p => [p.1, p.2.1, p.2.2.1, p.2.2.2.1]) 4 (fun _ => rfl) (by decide) (fun _ => rfl)) (ea_consp (er_c (ea := eI) (a := 0) rfl) (ea_consp (er_prj (ea := pr) (eb := eI) (c := fun p => p.1) (k := 0) (fun a => ⟨_, rfl, fun zs hz => by obtain ⟨x0, x1, rfl⟩ := len_2 hz; exact ⟨_, rfl, fun h => by simp only [List.map_cons, List.cons.injEq] at h; exact h.1⟩⟩) (er_var (ea := pr) (a := p_board) 0 rfl) (er_c (ea := eI) (a := 0) rfl)) (ea_consp (er_c (ea := eI) (a := 0) rfl) (ea_consp (er_prj (ea := pr) (eb := eI) (c := fun p => p.1) (k := 0) (fun a => ⟨_, rfl, fun zs hz => by obtain ⟨x0, x1, rfl⟩ := len_2 hz; exact ⟨_, rfl, fun h => by simp only [List.map_cons, List.cons.injEq] at h; exact h.1⟩⟩) (er_var (ea := pr) (a := p_board) 0 rfl) (er_c (ea := eI) (a := 0) rfl)) ea_nil)))))) (er_2m (a := d1) (b := (2 : Int)) (op := fun (x : (List Int)) (y : Int) => (ofO (atI x y))) (o_ixL (e := eI)) (er_varO (ea := (eL eI)) (a := d1) 3 rfl) (er_c (ea := eI) (a := 2) rfl))) (ea_consl (er_2r (o_ixL (e := eI)) (ER.weak (er_Np (a := ((0 : Int), (p_board.2, (p_board.2, ((0 : Int), ()))))) (op := fun p : Int × Int × Int × Int × Unit => [p.1, p.2.1, p.2.2.1, p.2.2.2.1]) (o_lst (eb := (eL eI)) (es := (fun p : Int × Int × Int × Int × Unit => eI p.1 :: (fun p : Int × Int × Int × Unit => eI p.1 :: (fun p : Int × Int × Unit => eI p.1 :: (fun p : Int × Unit => eI p.1 :: (fun _ => []) p.2) p.2) p.2) p.2)) (c := fun p => [p.1, p.2.1, p.2.2.1, p.2.2.2.1]) 4 (fun _ => rfl) (by decide) (fun _ => rfl)) (ea_consp (er_c (ea := eI) (a := 0) rfl) (ea_consp (er_prj (ea := pr) (eb := eI) (c := fun p => p.2) (k := 1) (fun a => ⟨_, rfl, fun zs hz => by obtain ⟨x0, x1, rfl⟩ := len_2 hz; exact ⟨_, rfl, fun h => by simp only [List.map_cons, List.cons.injEq] at h; exact h.2.1⟩⟩) (er_var (ea := pr) (a := p_board) 0 rfl) (er_c (ea := eI) (a := 1) rfl)) (ea_consp (er_prj (ea := pr) (eb := eI) (c := fun p => p.2) (k := 1) (fun a => ⟨_, rfl, fun zs hz => by obtain ⟨x0, x1, rfl⟩ := len_2 hz; exact ⟨_, rfl, fun h => by simp only [List.map_cons, List.cons.injEq] at h; exact h.2.1⟩⟩) (er_var (ea := pr) (a := p_board) 0 rfl) (er_c (ea := eI) (a := 1) rfl)) (ea_consp (er_c (ea := eI) (a := 0) rfl) ea_nil)))))) (er_2m (a := d1) (b := (2 : Int)) (op := fun (x : (List Int)) (y : Int) => (ofO (atI x y))) (o_ixL (e := eI)) (er_varO (ea := (eL eI)) (a := d1) 3 rfl) (er_c (ea := eI) (a := 2) rfl))) ea_nil))) ea_nil)) (fun _ => rfl) (fun row41 => (br_j (s := row41) (.same (.same (.same (.same (.same (.same (.any (.any (.any (.nil))))))))))))) (br_nx ((br_j (s := row13) (.same (.same (.same (.same (.same (.same (.any (.any (.any (.nil))))))))))))))) (fun s42 => br_setL (e := eI) (Γ' := fun picks48 => [.w (pr p_board), .w (eI p_start_cell), .w (eI p_step_cell), .o ((eL eI) d1), .w (eS letters4), .o ((eL pr) s42), .o ((eL eI) picks48), .any, .any]) (er_call (y := (fun p : Int × (List Int) × Unit => y__law_draws p.1 p.2.1)) r__law_draws (ea_consr (er_var (ea := eI) (a := p_step_cell) 2 rfl) (ea_consl (ER.weak (er_repp (er_Np (a := ((2 : Int), ())) (op := fun p : Int × Unit => [p.1]) (o_lst (eb := (eL eI)) (es := (fun p : Int × Unit => eI p.1 :: (fun _ => []) p.2)) (c := fun p => [p.1]) 1 (fun _ => rfl) (by decide) (fun _ => rfl)) (ea_consp (er_c (ea := eI) (a := 2) rfl) ea_nil)) (er_c (ea := eI) (a := 16) rfl))) ea_nil))) (fun _ => rfl) (fun picks48 => br_forR' (σ := (List (Int × Int))) (e := eI) (s0 := s42) (Γw := [.w (pr p_board), .w (eI p_start_cell), .w (eI p_step_cell), .w ((eL eI) d1), .w (eS letters4), .o ((eL pr) s42), .o ((eL eI) picks48), .any, .any]) (Γl := fun s63 : (List (Int × Int)) => [.w (pr p_board), .w (eI p_start_cell), .w (eI p_step_cell), .w ((eL eI) d1), .w (eS letters4), .o ((eL pr) s63), .o ((eL eI) picks48), .any, .any]) (Γb := fun (s63 : (List (Int × Int))) (a64 : Int) => [.w (pr p_board), .w (eI p_start_cell), .w (eI p_step_cell), .w ((eL eI) d1), .w (eS letters4), .o ((eL pr) s63), .o ((eL eI) picks48), .w (eI a64), .any]) (ir_r1 (ea_consl (er_2m (a := d1) (b := (3 : Int)) (op := fun (x : (List Int)) (y : Int) => (ofO (atI x y))) (o_ixL (e := eI)) (er_varO (ea := (eL eI)) (a := d1) 3 rfl) (er_c (ea := eI) (a := 3) rfl)) ea_nil)) rfl (.same (.same (.same (.same (.same (.same (.same (.any (.any (.nil)))))))))) (fun s63 => (tgn (i := 7) (e := eI) rfl (fun _ => rfl))) (fun s63 a64 => br_setC (e := pr) (Γ' := fun corner72 => [.w (pr p_board), .w (eI p_start_cell), .w (eI p_step_cell), .w ((eL eI) d1), .w (eS letters4), .o ((eL pr) s63), .o ((eL eI) picks48), .w (eI a64), .w (pr corner72)]) (er_call (y := (fun p : (Int × Int) × Str × Unit => y__law_stepped p.1 p.2.1)) r__law_stepped (ea_cons (er_2m (a := s63) (b := (-(1 : Int))) (op := fun (x : (List (Int × Int))) (y : Int) => (ofO (atI x y))) (o_ixL (e := pr)) (er_varO (ea := (eL pr)) (a := s63) 5 rfl) (er_1p (a := (1 : Int)) (op := fun x : Int => (-x)) o_neg (er_c (ea := eI) (a := 1) rfl))) (ea_consl (er_2r o_ixS (er_var (ea := eS) (a := letters4) 4 rfl) (er_2m (a := picks48) (b := a64) (op := fun (x : (List Int)) (y : Int) => (ofO (atI x y))) (o_ixL (e := eI)) (er_varO (ea := (eL eI)) (a := picks48) 6 rfl) (er_var (ea := eI) (a := a64) 7 rfl))) ea_nil))) (fun _ => rfl) (fun corner72 => br_last (br_if (tr_vM (er_callp (a := (p_board, (corner72, ()))) (y := (fun p : (Int × Int) × (Int × Int) × Unit => y__law_on_board p.1 p.2.1)) r__law_on_board (ea_consp (er_var (ea := pr) (a := p_board) 0 rfl) (ea_consp (er_var (ea := pr) (a := corner72) 8 rfl) ea_nil)))) (br_mutC (a := s63) (ea := (eL pr)) (ec := (eL pr)) (Γ' := fun row73 => [.w (pr p_board), .w (eI p_start_cell), .w (eI p_step_cell), .w ((eL eI) d1), .w (eS letters4), .o ((eL pr) row73), .o ((eL eI) picks48), .w (eI a64), .w (pr corner72)]) (m_app (e := pr)) ty_list rfl (ea_consp (er_var (ea := pr) (a := corner72) 8 rfl) ea_nil) (fun _ => rfl) (fun _ => rfl) (fun row73 => (br_n (s := row73) (.same (.same (.same (.same (.same (.same (.same (.any (.any (.nil))))))))))))) (br_nx ((br_n (s := s63) (.same (.same (.same (.same (.same (.same (.same (.any (.any (.nil)))))))))))))))) (fun s76 => (br_retV (e := (eL pr)) (b := s76) (i := 5) (o := true) rfl)))))))) (fits_w (Fz.fz _) (fits_w (Fz.fz _) (fits_w (Fz.fz _) (fits_a (fits_a (fits_a (fits_a (fits_a (fits_a (trivial))))))))))
theorem r__law_walked : RefF true F__law_walked (fun p : (Int × Int) × Int × Int × Unit => pr p.1 :: (fun p : Int × Int × Unit => eI p.1 :: (fun p : Int × Unit => eI p.1 :: (fun _ => []) p.2) p.2) p.2) (fun p : (Int × Int) × Int × Int × Unit => y__law_walked p.1 p.2.1 p.2.2.1) (eL pr) := fun p => k__law_walked p.1 p.2.1 p.2.2.1
def y__law_spoilt (p_board : (Int × Int)) (p_row : (List (Int × Int))) (p_cell : Int) : R (List (Int × Int)) :=
  ((y__law_draws p_cell [(12 : Int), (40 : Int), (5 : Int), (5 : Int), (p_board.1 + (7 : Int)), (p_board.2 + (7 : Int)), (4 : Int), (4 : Int)]).bind fun d1 : (List Int) =>
  ((if (decide ((List.length p_row : Int) = (0 : Int))) then .ok true else ((ofO (atI d1 (0 : Int))).bind fun v2 => .ok (decide (v2 = (0 : Int))))).bind fun b168 => if b168 then
  .ok ([] : List (Int × Int))
  else (((((ofO (atI d1 (1 : Int))).bind fun v4 => .ok (v4, ())).bind fun v6 => .ok v6.1).bind fun v7 => (modR v7 (List.length p_row : Int))).bind fun k9 : Int =>
  ((ofO (atI p_row k9)).bind fun corner10 : (Int × Int) =>
  (((ofO (atI d1 (6 : Int))).bind fun v12 => (ixS ("EWNS" : Str) v12)).bind fun letter13 : Str =>
  (((ofO (atI d1 (0 : Int))).bind fun v14 => .ok (decide (v14 ≤ (2 : Int)))).bind fun b167 => if b167 then
  ((calmR (compR (cutL p_row (some k9) none) (fun x16 : (Int × Int) => (R.ok true)) (fun x16 : (Int × Int) => (((((ofO (atI d1 (2 : Int))).bind fun v18 => .ok (x16.1 + v18)).bind fun v19 => .ok (v19 - (2 : Int))).bind fun v27 => (((((ofO (atI d1 (3 : Int))).bind fun v22 => .ok (x16.2 + v22)).bind fun v23 => .ok (v23 - (2 : Int))).bind fun v25 => .ok (v25, ())).bind fun v28 => .ok (v27, v28))).bind fun v29 => .ok (v29.1, v29.2.1))))).bind fun v31 => (catR (cutL p_row none (some k9)) v31))
  else (((ofO (atI d1 (0 : Int))).bind fun v32 => .ok (decide (v32 = (3 : Int)))).bind fun b166 => if b166 then
  ((((((((ofO (atI d1 (4 : Int))).bind fun v34 => .ok (v34 - (3 : Int))).bind fun v40 => ((((ofO (atI d1 (5 : Int))).bind fun v36 => .ok (v36 - (3 : Int))).bind fun v38 => .ok (v38, ())).bind fun v41 => .ok (v40, v41))).bind fun v42 => .ok (v42.1, v42.2.1)).bind fun v43 => .ok (v43, ())).bind fun v45 => .ok [v45.1]).bind fun v47 => (catR (cutL p_row none (some k9)) v47)).bind fun v48 => (catR v48 (cutL p_row (some (k9 + (1 : Int))) none)))
  else (((ofO (atI d1 (0 : Int))).bind fun v50 => .ok (decide (v50 = (4 : Int)))).bind fun b165 => if b165 then
  ((((((((ofO (atI d1 (4 : Int))).bind fun v52 => .ok (v52 - (3 : Int))).bind fun v58 => ((((ofO (atI d1 (5 : Int))).bind fun v54 => .ok (v54 - (3 : Int))).bind fun v56 => .ok (v56, ())).bind fun v59 => .ok (v58, v59))).bind fun v60 => .ok (v60.1, v60.2.1)).bind fun v61 => .ok (v61, ())).bind fun v63 => .ok [v63.1]).bind fun v65 => (catR (cutL p_row none (some k9)) v65)).bind fun v66 => (catR v66 (cutL p_row (some k9) none)))
  else (((ofO (atI d1 (0 : Int))).bind fun v68 => .ok (decide (v68 ≤ (6 : Int)))).bind fun b164 => if b164 then
  ((R.ok p_row).bind fun longer70 : (List (Int × Int)) =>
  (((((ofO (atI d1 (7 : Int))).bind fun v71 => .ok (v71 + (1 : Int))).bind fun v73 => .ok (v73, ())).bind fun v75 => rngR v75.1).bind fun xs93 => (foldR xs93 (longer70 : (List (Int × Int))) (fun (s83 : (List (Int × Int))) (a84 : Int) => (((((ofO (atI s83 (-(1 : Int)))).bind fun v85 => .ok (v85, (letter13, ()))).bind fun v87 => y__law_stepped v87.1 v87.2.1).bind fun v88 => .ok (v88, ())).bind fun v91 => (appR s83 v91).bind fun longer90 : (List (Int × Int)) =>
  .ok longer90))).bind fun s92 =>
  .ok s92))
  else (((ofO (atI d1 (0 : Int))).bind fun v94 => .ok (decide (v94 = (7 : Int)))).bind fun b163 => if b163 then
  (catR p_row (List.reverse (cutL p_row none (some (-(1 : Int))))))
  else (((ofO (atI d1 (0 : Int))).bind fun v96 => .ok (decide (v96 = (8 : Int)))).bind fun b162 => if b162 then
  (catR (cutL p_row none (some k9)) (cutL p_row (some (k9 + (1 : Int))) none))
  else (((ofO (atI d1 (0 : Int))).bind fun v98 => .ok (decide (v98 = (9 : Int)))).bind fun b161 => if b161 then
  ((catR (cutL p_row none (some k9)) [corner10]).bind fun v100 => (catR v100 (cutL p_row (some k9) none)))
  else (((ofO (atI d1 (0 : Int))).bind fun v102 => .ok (decide (v102 = (10 : Int)))).bind fun b160 => if b160 then
  ((((((y__law_stepped corner10 letter13).bind fun v104 => .ok (v104, ())).bind fun v107 => .ok (corner10, v107)).bind fun v108 => .ok [v108.1, v108.2.1]).bind fun v110 => (catR (cutL p_row none (some k9)) v110)).bind fun v111 => (catR v111 (cutL p_row (some k9) none)))
  else (((((((ofO (atI d1 (7 : Int))).bind fun v114 => .ok ((p_board.1 + (1 : Int)) + v114)).bind fun v115 => .ok (v115, (corner10.2, ()))).bind fun v117 => .ok (v117.1, v117.2.1)).bind fun v125 => ((((((ofO (atI d1 (7 : Int))).bind fun v119 => .ok ((-(1 : Int)) - v119)).bind fun v120 => .ok (v120, (corner10.2, ()))).bind fun v122 => .ok (v122.1, v122.2.1)).bind fun v123 => .ok (v123, ())).bind fun v126 => .ok (v125, v126))).bind fun v127 => .ok [v127.1, v127.2.1]).bind fun beside128 : (List (Int × Int)) =>
  (((((((((ofO (atI d1 (7 : Int))).bind fun v130 => .ok ((p_board.2 + (1 : Int)) + v130)).bind fun v131 => .ok (v131, ())).bind fun v134 => .ok (corner10.1, v134)).bind fun v135 => .ok (v135.1, v135.2.1)).bind fun v145 => (((((((ofO (atI d1 (7 : Int))).bind fun v137 => .ok ((-(1 : Int)) - v137)).bind fun v138 => .ok (v138, ())).bind fun v141 => .ok (corner10.1, v141)).bind fun v142 => .ok (v142.1, v142.2.1)).bind fun v143 => .ok (v143, ())).bind fun v146 => .ok (v145, v146))).bind fun v147 => .ok [v147.1, v147.2.1]).bind fun v149 => (catR beside128 v149)).bind fun beside150 : (List (Int × Int)) =>
  ((((((ofO (atI d1 (6 : Int))).bind fun v152 => (ofO (atI beside150 v152))).bind fun v153 => .ok (v153, ())).bind fun v155 => .ok [v155.1]).bind fun v157 => (catR (cutL p_row none (some k9)) v157)).bind fun v158 => (catR v158 (cutL p_row (some (k9 + (1 : Int))) none))))))))))))))))))
theorem k__law_spoilt (p_board : (Int × Int)) (p_row : (List (Int × Int))) (p_cell : Int) : RF true (F__law_spoilt [pr p_board, (eL pr) p_row, eI p_cell]) (y__law_spoilt p_board p_row p_cell) (eL pr) :=
  fn_ref (n := 11) (bd := b__law_spoilt) (Γ := [.w (pr p_board), .w ((eL pr) p_row), .w (eI p_cell), .any, .any, .any, .any, .any, .any, .any, .any]) (br_setL (e := eI) (Γ' := fun d1 => [.w (pr p_board), .w ((eL pr) p_row), .w (eI p_cell), .o ((eL eI) d1), .any, .any, .any, .any, .any, .any, .any]) (er_callp (a := (p_cell, ([(12 : Int), (40 : Int), (5 : Int), (5 : Int), (p_board.1 + (7 : Int)), (p_board.2 + (7 : Int)), (4 : Int), (4 : Int)], ()))) (y := (fun p : Int × (List Int) × Unit => y__law_draws p.1 p.2.1)) r__law_draws (ea_consp (er_var (ea := eI) (a := p_cell) 2 rfl) (ea_consp (ER.weak (er_Np (a := ((12 : Int), ((40 : Int), ((5 : Int), ((5 : Int), ((p_board.1 + (7 : Int)), ((p_board.2 + (7 : Int)), ((4 : Int), ((4 : Int), ()))))))))) (op := fun p : Int × Int × Int × Int × Int × Int × Int × Int × Unit => [p.1, p.2.1, p.2.2.1, p.2.2.2.1, p.2.2.2.2.1, p.2.2.2.2.2.1, p.2.2.2.2.2.2.1, p.2.2.2.2.2.2.2.1]) (o_lst (eb := (eL eI)) (es := (fun p : Int × Int × Int × Int × Int × Int × Int × Int × Unit => eI p.1 :: (fun p : Int × Int × Int × Int × Int × Int × Int × Unit => eI p.1 :: (fun p : Int × Int × Int × Int × Int × Int × Unit => eI p.1 :: (fun p : Int × Int × Int × Int × Int × Unit => eI p.1 :: (fun p : Int × Int × Int × Int × Unit => eI p.1 :: (fun p : Int × Int × Int × Unit => eI p.1 :: (fun p : Int × Int × Unit => eI p.1 :: (fun p : Int × Unit => eI p.1 :: (fun _ => []) p.2) p.2) p.2) p.2) p.2) p.2) p.2) p.2)) (c := fun p => [p.1, p.2.1, p.2.2.1, p.2.2.2.1, p.2.2.2.2.1, p.2.2.2.2.2.1, p.2.2.2.2.2.2.1, p.2.2.2.2.2.2.2.1]) 8 (fun _ => rfl) (by decide) (fun _ => rfl)) (ea_consp (er_c (ea := eI) (a := 12) rfl) (ea_consp (er_c (ea := eI) (a := 40) rfl) (ea_consp (er_c (ea := eI) (a := 5) rfl) (ea_consp (er_c (ea := eI) (a := 5) rfl) (ea_consp (er_2p (a := p_board.1) (b := (7 : Int)) (op := fun (x : Int) (y : Int) => (x + y)) o_add (er_prj (ea := pr) (eb := eI) (c := fun p => p.1) (k := 0) (fun a => ⟨_, rfl, fun zs hz => by obtain ⟨x0, x1, rfl⟩ := len_2 hz; exact ⟨_, rfl, fun h => by simp only [List.map_cons, List.cons.injEq] at h; exact h.1⟩⟩) (er_var (ea := pr) (a := p_board) 0 rfl) (er_c (ea := eI) (a := 0) rfl)) (er_c (ea := eI) (a := 7) rfl)) (ea_consp (er_2p (a := p_board.2) (b := (7 : Int)) (op := fun (x : Int) (y : Int) => (x + y)) o_add (er_prj (ea := pr) (eb := eI) (c := fun p => p.2) (k := 1) (fun a => ⟨_, rfl, fun zs hz => by obtain ⟨x0, x1, rfl⟩ := len_2 hz; exact ⟨_, rfl, fun h => by simp only [List.map_cons, List.cons.injEq] at h; exact h.2.1⟩⟩) (er_var (ea := pr) (a := p_board) 0 rfl) (er_c (ea := eI) (a := 1) rfl)) (er_c (ea := eI) (a := 7) rfl)) (ea_consp (er_c (ea := eI) (a := 4) rfl) (ea_consp (er_c (ea := eI) (a := 4) rfl) ea_nil)))))))))) ea_nil))) (fun _ => rfl) (fun d1 => br_if (tr_orP (tr_v (er_2p (a := (List.length p_row : Int)) (b := (0 : Int)) (op := fun (x : Int) (y : Int) => (decide (x = y))) (o_eq (e := eI) (by decide)) (er_Np (a := (p_row, ())) (op := fun p : (List (Int × Int)) × Unit => (List.length p.1 : Int)) (o_lenL (e := pr)) (ea_consp (er_var (ea := (eL pr)) (a := p_row) 1 rfl) ea_nil)) (er_c (ea := eI) (a := 0) rfl))) (tr_vM (er_2l (o_eq (e := eI) (by decide)) (er_2m (a := d1) (b := (0 : Int)) (op := fun (x : (List Int)) (y : Int) => (ofO (atI x y))) (o_ixL (e := eI)) (er_varO (ea := (eL eI)) (a := d1) 3 rfl) (er_c (ea := eI) (a := 0) rfl)) (er_c (ea := eI) (a := 0) rfl)))) (br_cutR ((br_ret (e := (eL pr)) (er_Np (a := ()) (op := fun _ => ([] : List (Int × Int))) (o_lst (eb := (eL pr)) (es := fun _ => []) (c := fun _ => ([] : List (Int × Int))) 0 (fun _ => rfl) (by decide) (fun _ => rfl)) ea_nil)))) (br_nx (br_setC (e := eI) (Γ' := fun k9 => [.w (pr p_board), .w ((eL pr) p_row), .w (eI p_cell), .o ((eL eI) d1), .w (eI k9), .any, .any, .any, .any, .any, .any]) (er_2l o_mod (er_N o_int (ea_consl (er_2m (a := d1) (b := (1 : Int)) (op := fun (x : (List Int)) (y : Int) => (ofO (atI x y))) (o_ixL (e := eI)) (er_varO (ea := (eL eI)) (a := d1) 3 rfl) (er_c (ea := eI) (a := 1) rfl)) ea_nil)) (er_Np (a := (p_row, ())) (op := fun p : (List (Int × Int)) × Unit => (List.length p.1 : Int)) (o_lenL (e := pr)) (ea_consp (er_var (ea := (eL pr)) (a := p_row) 1 rfl) ea_nil))) (fun _ => rfl) (fun k9 => br_setC (e := pr) (Γ' := fun corner10 => [.w (pr p_board), .w ((eL pr) p_row), .w (eI p_cell), .o ((eL eI) d1), .w (eI k9), .w (pr corner10), .any, .any, .any, .any, .any]) (er_2m (a := p_row) (b := k9) (op := fun (x : (List (Int × Int))) (y : Int) => (ofO (atI x y))) (o_ixL (e := pr)) (er_var (ea := (eL pr)) (a := p_row) 1 rfl) (er_var (ea := eI) (a := k9) 4 rfl)) (fun _ => rfl) (fun corner10 => br_setC (e := eS) (Γ' := fun letter13 => [.w (pr p_board), .w ((eL pr) p_row), .w (eI p_cell), .o ((eL eI) d1), .w (eI k9), .w (pr corner10), .w (eS letter13), .any, .any, .any, .any]) (er_2r o_ixS (er_c (ea := eS) (a := "EWNS") rfl) (er_2m (a := d1) (b := (6 : Int)) (op := fun (x : (List Int)) (y : Int) => (ofO (atI x y))) (o_ixL (e := eI)) (er_varO (ea := (eL eI)) (a := d1) 3 rfl) (er_c (ea := eI) (a := 6) rfl))) (fun _ => rfl) (fun letter13 => br_if (tr_vM (er_2l o_le (er_2m (a := d1) (b := (0 : Int)) (op := fun (x : (List Int)) (y : Int) => (ofO (atI x y))) (o_ixL (e := eI)) (er_varO (ea := (eL eI)) (a := d1) 3 rfl) (er_c (ea := eI) (a := 0) rfl)) (er_c (ea := eI) (a := 2) rfl))) (br_cutR ((br_ret (e := (eL pr)) (er_2r (o_cat (e := pr)) (ER.weak (er_slLp (er_var (ea := (eL pr)) (a := p_row) 1 rfl) or_none (or_some (er_var (ea := eI) (a := k9) 4 rfl)))) (ER.weak (er_lcm (tc := fun x16 => (R.ok true)) (te := fun x16 => (((((ofO (atI d1 (2 : Int))).bind fun v18 => .ok (x16.1 + v18)).bind fun v19 => .ok (v19 - (2 : Int))).bind fun v27 => (((((ofO (atI d1 (3 : Int))).bind fun v22 => .ok (x16.2 + v22)).bind fun v23 => .ok (v23 - (2 : Int))).bind fun v25 => .ok (v25, ())).bind fun v28 => .ok (v27, v28))).bind fun v29 => .ok (v29.1, v29.2.1))) (e := pr) (Γv := [.any, .w ((eL pr) p_row), .any, .w ((eL eI) d1), .w (eI k9), .any, .any, .any, .any, .any, .any]) (Γb := fun x16 => [.any, .w ((eL pr) p_row), .any, .w ((eL eI) d1), .w (eI k9), .any, .any, .any, .any, .any, .w (pr x16)]) (ir_lst (ER.weak (er_slLp (er_var (ea := (eL pr)) (a := p_row) 1 rfl) (or_some (er_var (ea := eI) (a := k9) 4 rfl)) or_none))) rfl (tgn (i := 10) (e := pr) rfl (fun _ => rfl)) (fun x16 => tr_yes) (fun x16 => (er_N (o_tup (eb := pr) (es := (fun p : Int × Int × Unit => eI p.1 :: (fun p : Int × Unit => eI p.1 :: (fun _ => []) p.2) p.2)) (c := fun p => (p.1, p.2.1)) 2 (fun _ => rfl) (by decide) (fun _ => rfl)) (ea_cons (er_2l o_sub (er_2r o_add (er_prj (ea := pr) (eb := eI) (c := fun p => p.1) (k := 0) (fun a => ⟨_, rfl, fun zs hz => by obtain ⟨x0, x1, rfl⟩ := len_2 hz; exact ⟨_, rfl, fun h => by simp only [List.map_cons, List.cons.injEq] at h; exact h.1⟩⟩) (er_var (ea := pr) (a := x16) 10 rfl) (er_c (ea := eI) (a := 0) rfl)) (er_2m (a := d1) (b := (2 : Int)) (op := fun (x : (List Int)) (y : Int) => (ofO (atI x y))) (o_ixL (e := eI)) (er_var (ea := (eL eI)) (a := d1) 3 rfl) (er_c (ea := eI) (a := 2) rfl))) (er_c (ea := eI) (a := 2) rfl)) (ea_consl (er_2l o_sub (er_2r o_add (er_prj (ea := pr) (eb := eI) (c := fun p => p.2) (k := 1) (fun a => ⟨_, rfl, fun zs hz => by obtain ⟨x0, x1, rfl⟩ := len_2 hz; exact ⟨_, rfl, fun h => by simp only [List.map_cons, List.cons.injEq] at h; exact h.2.1⟩⟩) (er_var (ea := pr) (a := x16) 10 rfl) (er_c (ea := eI) (a := 1) rfl)) (er_2m (a := d1) (b := (3 : Int)) (op := fun (x : (List Int)) (y : Int) => (ofO (atI x y))) (o_ixL (e := eI)) (er_var (ea := (eL eI)) (a := d1) 3 rfl) (er_c (ea := eI) (a := 3) rfl))) (er_c (ea := eI) (a := 2) rfl)) ea_nil)))))))))) (br_nx (br_if (tr_vM (er_2l (o_eq (e := eI) (by decide)) (er_2m (a := d1) (b := (0 : Int)) (op := fun (x : (List Int)) (y : Int) => (ofO (atI x y))) (o_ixL (e := eI)) (er_varO (ea := (eL eI)) (a := d1) 3 rfl) (er_c (ea := eI) (a := 0) rfl)) (er_c (ea := eI) (a := 3) rfl))) (br_cutR ((br_ret (e := (eL pr)) (er_2l (o_cat (e := pr)) (ER.weak (er_2r (o_cat (e := pr)) (ER.weak (er_slLp (er_var (ea := (eL pr)) (a := p_row) 1 rfl) or_none (or_some (er_var (ea := eI) (a := k9) 4 rfl)))) (ER.weak (er_N (o_lst (eb := (eL pr)) (es := (fun p : (Int × Int) × Unit => pr p.1 :: (fun _ => []) p.2)) (c := fun p => [p.1]) 1 (fun _ => rfl) (by decide) (fun _ => rfl)) (ea_consl (er_N (o_tup (eb := pr) (es := (fun p : Int × Int × Unit => eI p.1 :: (fun p : Int × Unit => eI p.1 :: (fun _ => []) p.2) p.2)) (c := fun p => (p.1, p.2.1)) 2 (fun _ => rfl) (by decide) (fun _ => rfl)) (ea_cons (er_2l o_sub (er_2m (a := d1) (b := (4 : Int)) (op := fun (x : (List Int)) (y : Int) => (ofO (atI x y))) (o_ixL (e := eI)) (er_varO (ea := (eL eI)) (a := d1) 3 rfl) (er_c (ea := eI) (a := 4) rfl)) (er_c (ea := eI) (a := 3) rfl)) (ea_consl (er_2l o_sub (er_2m (a := d1) (b := (5 : Int)) (op := fun (x : (List Int)) (y : Int) => (ofO (atI x y))) (o_ixL (e := eI)) (er_varO (ea := (eL eI)) (a := d1) 3 rfl) (er_c (ea := eI) (a := 5) rfl)) (er_c (ea := eI) (a := 3) rfl)) ea_nil))) ea_nil))))) (ER.weak (er_slLp (er_var (ea := (eL pr)) (a := p_row) 1 rfl) (or_some (er_2p (a := k9) (b := (1 : Int)) (op := fun (x : Int) (y : Int) => (x + y)) o_add (er_var (ea := eI) (a := k9) 4 rfl) (er_c (ea := eI) (a := 1) rfl))) or_none)))))) (br_nx (br_if (tr_vM (er_2l (o_eq (e := eI) (by decide)) (er_2m (a := d1) (b := (0 : Int)) (op := fun (x : (List Int)) (y : Int) => (ofO (atI x y))) (o_ixL (e := eI)) (er_varO (ea := (eL eI)) (a := d1) 3 rfl) (er_c (ea := eI) (a := 0) rfl)) (er_c (ea := eI) (a := 4) rfl))) (br_cutR ((br_ret (e := (eL pr)) (er_2l (o_cat (e := pr)) (ER.weak (er_2r (o_cat (e := pr)) (ER.weak (er_slLp (er_var (ea := (eL pr)) (a := p_row) 1 rfl) or_none (or_some (er_var (ea := eI) (a := k9) 4 rfl)))) (ER.weak (er_N (o_lst (eb := (eL pr)) (es := (fun p : (Int × Int) × Unit => pr p.1 :: (fun _ => []) p.2)) (c := fun p => [p.1]) 1 (fun _ => rfl) (by decide) (fun _ => rfl)) (ea_consl (er_N (o_tup (eb := pr) (es := (fun p : Int × Int × Unit => eI p.1 :: (fun p : Int × Unit => eI p.1 :: (fun _ => []) p.2) p.2)) (c := fun p => (p.1, p.2.1)) 2 (fun _ => rfl) (by decide) (fun _ => rfl)) (ea_cons (er_2l o_sub (er_2m (a := d1) (b := (4 : Int)) (op := fun (x : (List Int)) (y : Int) => (ofO (atI x y))) (o_ixL (e := eI)) (er_varO (ea := (eL eI)) (a := d1) 3 rfl) (er_c (ea := eI) (a := 4) rfl)) (er_c (ea := eI) (a := 3) rfl)) (ea_consl (er_2l o_sub (er_2m (a := d1) (b := (5 : Int)) (op := fun (x : (List Int)) (y : Int) => (ofO (atI x y))) (o_ixL (e := eI)) (er_varO (ea := (eL eI)) (a := d1) 3 rfl) (er_c (ea := eI) (a := 5) rfl)) (er_c (ea := eI) (a := 3) rfl)) ea_nil))) ea_nil))))) (ER.weak (er_slLp (er_var (ea := (eL pr)) (a := p_row) 1 rfl) (or_some (er_var (ea := eI) (a := k9) 4 rfl)) or_none)))))) (br_nx (br_if (tr_vM (er_2l o_le (er_2m (a := d1) (b := (0 : Int)) (op := fun (x : (List Int)) (y : Int) => (ofO (atI x y))) (o_ixL (e := eI)) (er_varO (ea := (eL eI)) (a := d1) 3 rfl) (er_c (ea := eI) (a := 0) rfl)) (er_c (ea := eI) (a := 6) rfl))) (br_assoc (br_setL (e := pr) (Γ' := fun longer70 => [.w (pr p_board), .w ((eL pr) p_row), .w (eI p_cell), .o ((eL eI) d1), .w (eI k9), .w (pr corner10), .w (eS letter13), .o ((eL pr) longer70), .any, .any, .any]) (er_Np (a := (p_row, ())) (op := fun p : (List (Int × Int)) × Unit => p.1) (o_listL (e := pr)) (ea_consp (er_var (ea := (eL pr)) (a := p_row) 1 rfl) ea_nil)) (fun _ => rfl) (fun longer70 => br_assoc (br_forR' (σ := (List (Int × Int))) (e := eI) (s0 := longer70) (Γw := [.w (pr p_board), .w ((eL pr) p_row), .w (eI p_cell), .w ((eL eI) d1), .w (eI k9), .w (pr corner10), .w (eS letter13), .o ((eL pr) longer70), .any, .any, .any]) (Γl := fun s83 : (List (Int × Int)) => [.w (pr p_board), .w ((eL pr) p_row), .w (eI p_cell), .w ((eL eI) d1), .w (eI k9), .w (pr corner10), .w (eS letter13), .o ((eL pr) s83), .any, .any, .any]) (Γb := fun (s83 : (List (Int × Int))) (a84 : Int) => [.w (pr p_board), .w ((eL pr) p_row), .w (eI p_cell), .w ((eL eI) d1), .w (eI k9), .w (pr corner10), .w (eS letter13), .o ((eL pr) s83), .w (eI a84), .any, .any]) (ir_r1 (ea_consl (er_2l o_add (er_2m (a := d1) (b := (7 : Int)) (op := fun (x : (List Int)) (y : Int) => (ofO (atI x y))) (o_ixL (e := eI)) (er_varO (ea := (eL eI)) (a := d1) 3 rfl) (er_c (ea := eI) (a := 7) rfl)) (er_c (ea := eI) (a := 1) rfl)) ea_nil)) rfl (.same (.same (.same (.same (.same (.same (.same (.same (.any (.any (.any (.nil)))))))))))) (fun s83 => (tgn (i := 8) (e := eI) rfl (fun _ => rfl))) (fun s83 a84 => br_last (br_mutC (a := s83) (ea := (eL pr)) (ec := (eL pr)) (Γ' := fun longer90 => [.w (pr p_board), .w ((eL pr) p_row), .w (eI p_cell), .w ((eL eI) d1), .w (eI k9), .w (pr corner10), .w (eS letter13), .o ((eL pr) longer90), .w (eI a84), .any, .any]) (m_app (e := pr)) ty_list rfl (ea_consl (er_call (y := (fun p : (Int × Int) × Str × Unit => y__law_stepped p.1 p.2.1)) r__law_stepped (ea_consl (er_2m (a := s83) (b := (-(1 : Int))) (op := fun (x : (List (Int × Int))) (y : Int) => (ofO (atI x y))) (o_ixL (e := pr)) (er_varO (ea := (eL pr)) (a := s83) 7 rfl) (er_1p (a := (1 : Int)) (op := fun x : Int => (-x)) o_neg (er_c (ea := eI) (a := 1) rfl))) (ea_consp (er_var (ea := eS) (a := letter13) 6 rfl) ea_nil))) ea_nil) (fun _ => rfl) (fun _ => rfl) (fun longer90 => (br_n (s := longer90) (.same (.same (.same (.same (.same (.same (.same (.same (.any (.any (.any (.nil)))))))))))))))) (fun s92 => br_cutV ((br_retV (e := (eL pr)) (b := s92) (i := 7) (o := true) rfl))))))) (br_nx (br_if (tr_vM (er_2l (o_eq (e := eI) (by decide)) (er_2m (a := d1) (b := (0 : Int)) (op := fun (x : (List Int)) (y : Int) => (ofO (atI x y))) (o_ixL (e := eI)) (er_varO (ea := (eL eI)) (a := d1) 3 rfl) (er_c (ea := eI) (a := 0) rfl)) (er_c (ea := eI) (a := 7) rfl))) (br_cutR ((br_ret (e := (eL pr)) (er_2m (a := p_row) (b := (List.reverse (cutL p_row none (some (-(1 : Int)))))) (op := fun (x : (List (Int × Int))) (y : (List (Int × Int))) => (catR x y)) (o_cat (e := pr)) (er_var (ea := (eL pr)) (a := p_row) 1 rfl) (ER.weak (er_1p (a := (cutL p_row none (some (-(1 : Int))))) (op := fun x : (List (Int × Int)) => (List.reverse x)) o_revL (ER.weak (er_slLp (er_var (ea := (eL pr)) (a := p_row) 1 rfl) or_none (or_some (er_1p (a := (1 : Int)) (op := fun x : Int => (-x)) o_neg (er_c (ea := eI) (a := 1) rfl))))))))))) (br_nx (br_if (tr_vM (er_2l (o_eq (e := eI) (by decide)) (er_2m (a := d1) (b := (0 : Int)) (op := fun (x : (List Int)) (y : Int) => (ofO (atI x y))) (o_ixL (e := eI)) (er_varO (ea := (eL eI)) (a := d1) 3 rfl) (er_c (ea := eI) (a := 0) rfl)) (er_c (ea := eI) (a := 8) rfl))) (br_cutR ((br_ret (e := (eL pr)) (er_2m (a := (cutL p_row none (some k9))) (b := (cutL p_row (some (k9 + (1 : Int))) none)) (op := fun (x : (List (Int × Int))) (y : (List (Int × Int))) => (catR x y)) (o_cat (e := pr)) (ER.weak (er_slLp (er_var (ea := (eL pr)) (a := p_row) 1 rfl) or_none (or_some (er_var (ea := eI) (a := k9) 4 rfl)))) (ER.weak (er_slLp (er_var (ea := (eL pr)) (a := p_row) 1 rfl) (or_some (er_2p (a := k9) (b := (1 : Int)) (op := fun (x : Int) (y : Int) => (x + y)) o_add (er_var (ea := eI) (a := k9) 4 rfl) (er_c (ea := eI) (a := 1) rfl))) or_none)))))) (br_nx (br_if (tr_vM (er_2l (o_eq (e := eI) (by decide)) (er_2m (a := d1) (b := (0 : Int)) (op := fun (x : (List Int)) (y : Int) => (ofO (atI x y))) (o_ixL (e := eI)) (er_varO (ea := (eL eI)) (a := d1) 3 rfl) (er_c (ea := eI) (a := 0) rfl)) (er_c (ea := eI) (a := 9) rfl))) (br_cutR ((br_ret (e := (eL pr)) (er_2l (o_cat (e := pr)) (ER.weak (er_2m (a := (cutL p_row none (some k9))) (b := [corner10]) (op := fun (x : (List (Int × Int))) (y : (List (Int × Int))) => (catR x y)) (o_cat (e := pr)) (ER.weak (er_slLp (er_var (ea := (eL pr)) (a := p_row) 1 rfl) or_none (or_some (er_var (ea := eI) (a := k9) 4 rfl)))) (ER.weak (er_Np (a := (corner10, ())) (op := fun p : (Int × Int) × Unit => [p.1]) (o_lst (eb := (eL pr)) (es := (fun p : (Int × Int) × Unit => pr p.1 :: (fun _ => []) p.2)) (c := fun p => [p.1]) 1 (fun _ => rfl) (by decide) (fun _ => rfl)) (ea_consp (er_var (ea := pr) (a := corner10) 5 rfl) ea_nil))))) (ER.weak (er_slLp (er_var (ea := (eL pr)) (a := p_row) 1 rfl) (or_some (er_var (ea := eI) (a := k9) 4 rfl)) or_none)))))) (br_nx (br_if (tr_vM (er_2l (o_eq (e := eI) (by decide)) (er_2m (a := d1) (b := (0 : Int)) (op := fun (x : (List Int)) (y : Int) => (ofO (atI x y))) (o_ixL (e := eI)) (er_varO (ea := (eL eI)) (a := d1) 3 rfl) (er_c (ea := eI) (a := 0) rfl)) (er_c (ea := eI) (a := 10) rfl))) (br_cutR ((br_ret (e := (eL pr)) (er_2l (o_cat (e := pr)) (ER.weak (er_2r (o_cat (e := pr)) (ER.weak (er_slLp (er_var (ea := (eL pr)) (a := p_row) 1 rfl) or_none (or_some (er_var (ea := eI) (a := k9) 4 rfl)))) (ER.weak (er_N (o_lst (eb := (eL pr)) (es := (fun p : (Int × Int) × (Int × Int) × Unit => pr p.1 :: (fun p : (Int × Int) × Unit => pr p.1 :: (fun _ => []) p.2) p.2)) (c := fun p => [p.1, p.2.1]) 2 (fun _ => rfl) (by decide) (fun _ => rfl)) (ea_consr (er_var (ea := pr) (a := corner10) 5 rfl) (ea_consl (er_callp (a := (corner10, (letter13, ()))) (y := (fun p : (Int × Int) × Str × Unit => y__law_stepped p.1 p.2.1)) r__law_stepped (ea_consp (er_var (ea := pr) (a := corner10) 5 rfl) (ea_consp (er_var (ea := eS) (a := letter13) 6 rfl) ea_nil))) ea_nil)))))) (ER.weak (er_slLp (er_var (ea := (eL pr)) (a := p_row) 1 rfl) (or_some (er_var (ea := eI) (a := k9) 4 rfl)) or_none)))))) (br_nx (br_setL (e := pr) (Γ' := fun beside128 => [.w (pr p_board), .w ((eL pr) p_row), .w (eI p_cell), .o ((eL eI) d1), .w (eI k9), .w (pr corner10), .w (eS letter13), .any, .any, .o ((eL pr) beside128), .any]) (er_N (o_lst (eb := (eL pr)) (es := (fun p : (Int × Int) × (Int × Int) × Unit => pr p.1 :: (fun p : (Int × Int) × Unit => pr p.1 :: (fun _ => []) p.2) p.2)) (c := fun p => [p.1, p.2.1]) 2 (fun _ => rfl) (by decide) (fun _ => rfl)) (ea_cons (er_N (o_tup (eb := pr) (es := (fun p : Int × Int × Unit => eI p.1 :: (fun p : Int × Unit => eI p.1 :: (fun _ => []) p.2) p.2)) (c := fun p => (p.1, p.2.1)) 2 (fun _ => rfl) (by decide) (fun _ => rfl)) (ea_consl (er_2r o_add (er_2p (a := p_board.1) (b := (1 : Int)) (op := fun (x : Int) (y : Int) => (x + y)) o_add (er_prj (ea := pr) (eb := eI) (c := fun p => p.1) (k := 0) (fun a => ⟨_, rfl, fun zs hz => by obtain ⟨x0, x1, rfl⟩ := len_2 hz; exact ⟨_, rfl, fun h => by simp only [List.map_cons, List.cons.injEq] at h; exact h.1⟩⟩) (er_var (ea := pr) (a := p_board) 0 rfl) (er_c (ea := eI) (a := 0) rfl)) (er_c (ea := eI) (a := 1) rfl)) (er_2m (a := d1) (b := (7 : Int)) (op := fun (x : (List Int)) (y : Int) => (ofO (atI x y))) (o_ixL (e := eI)) (er_varO (ea := (eL eI)) (a := d1) 3 rfl) (er_c (ea := eI) (a := 7) rfl))) (ea_consp (er_prj (ea := pr) (eb := eI) (c := fun p => p.2) (k := 1) (fun a => ⟨_, rfl, fun zs hz => by obtain ⟨x0, x1, rfl⟩ := len_2 hz; exact ⟨_, rfl, fun h => by simp only [List.map_cons, List.cons.injEq] at h; exact h.2.1⟩⟩) (er_var (ea := pr) (a := corner10) 5 rfl) (er_c (ea := eI) (a := 1) rfl)) ea_nil))) (ea_consl (er_N (o_tup (eb := pr) (es := (fun p : Int × Int × Unit => eI p.1 :: (fun p : Int × Unit => eI p.1 :: (fun _ => []) p.2) p.2)) (c := fun p => (p.1, p.2.1)) 2 (fun _ => rfl) (by decide) (fun _ => rfl)) (ea_consl (er_2r o_sub (er_1p (a := (1 : Int)) (op := fun x : Int => (-x)) o_neg (er_c (ea := eI) (a := 1) rfl)) (er_2m (a := d1) (b := (7 : Int)) (op := fun (x : (List Int)) (y : Int) => (ofO (atI x y))) (o_ixL (e := eI)) (er_varO (ea := (eL eI)) (a := d1) 3 rfl) (er_c (ea := eI) (a := 7) rfl))) (ea_consp (er_prj (ea := pr) (eb := eI) (c := fun p => p.2) (k := 1) (fun a => ⟨_, rfl, fun zs hz => by obtain ⟨x0, x1, rfl⟩ := len_2 hz; exact ⟨_, rfl, fun h => by simp only [List.map_cons, List.cons.injEq] at h; exact h.2.1⟩⟩) (er_var (ea := pr) (a := corner10) 5 rfl) (er_c (ea := eI) (a := 1) rfl)) ea_nil))) ea_nil))) (fun _ => rfl) (fun beside128 => br_setL (e := pr) (Γ' := fun beside150 => [.w (pr p_board), .w ((eL pr) p_row), .w (eI p_cell), .o ((eL eI) d1), .w (eI k9), .w (pr corner10), .w (eS letter13), .any, .any, .o ((eL pr) beside150), .any]) (er_2r (o_cat (e := pr)) (er_varO (ea := (eL pr)) (a := beside128) 9 rfl) (ER.weak (er_N (o_lst (eb := (eL pr)) (es := (fun p : (Int × Int) × (Int × Int) × Unit => pr p.1 :: (fun p : (Int × Int) × Unit => pr p.1 :: (fun _ => []) p.2) p.2)) (c := fun p => [p.1, p.2.1]) 2 (fun _ => rfl) (by decide) (fun _ => rfl)) (ea_cons (er_N (o_tup (eb := pr) (es := (fun p : Int × Int × Unit => eI p.1 :: (fun p : Int × Unit => eI p.1 :: (fun _ => []) p.2) p.2)) (c := fun p => (p.1, p.2.1)) 2 (fun _ => rfl) (by decide) (fun _ => rfl)) (ea_consr (er_prj (ea := pr) (eb := eI) (c := fun p => p.1) (k := 0) (fun a => ⟨_, rfl, fun zs hz => by obtain ⟨x0, x1, rfl⟩ := len_2 hz; exact ⟨_, rfl, fun h => by simp only [List.map_cons, List.cons.injEq] at h; exact h.1⟩⟩) (er_var (ea := pr) (a := corner10) 5 rfl) (er_c (ea := eI) (a := 0) rfl)) (ea_consl (er_2r o_add (er_2p (a := p_board.2) (b := (1 : Int)) (op := fun (x : Int) (y : Int) => (x + y)) o_add (er_prj (ea := pr) (eb := eI) (c := fun p => p.2) (k := 1) (fun a => ⟨_, rfl, fun zs hz => by obtain ⟨x0, x1, rfl⟩ := len_2 hz; exact ⟨_, rfl, fun h => by simp only [List.map_cons, List.cons.injEq] at h; exact h.2.1⟩⟩) (er_var (ea := pr) (a := p_board) 0 rfl) (er_c (ea := eI) (a := 1) rfl)) (er_c (ea := eI) (a := 1) rfl)) (er_2m (a := d1) (b := (7 : Int)) (op := fun (x : (List Int)) (y : Int) => (ofO (atI x y))) (o_ixL (e := eI)) (er_varO (ea := (eL eI)) (a := d1) 3 rfl) (er_c (ea := eI) (a := 7) rfl))) ea_nil))) (ea_consl (er_N (o_tup (eb := pr) (es := (fun p : Int × Int × Unit => eI p.1 :: (fun p : Int × Unit => eI p.1 :: (fun _ => []) p.2) p.2)) (c := fun p => (p.1, p.2.1)) 2 (fun _ => rfl) (by decide) (fun _ => rfl)) (ea_consr (er_prj (ea := pr) (eb := eI) (c := fun p => p.1) (k := 0) (fun a => ⟨_, rfl, fun zs hz => by obtain ⟨x0, x1, rfl⟩ := len_2 hz; exact ⟨_, rfl, fun h => by simp only [List.map_cons, List.cons.injEq] at h; exact h.1⟩⟩) (er_var (ea := pr) (a := corner10) 5 rfl) (er_c (ea := eI) (a := 0) rfl)) (ea_consl (er_2r o_sub (er_1p (a := (1 : Int)) (op := fun x : Int => (-x)) o_neg (er_c (ea := eI) (a := 1) rfl)) (er_2m (a := d1) (b := (7 : Int)) (op := fun (x : (List Int)) (y : Int) => (ofO (atI x y))) (o_ixL (e := eI)) (er_varO (ea := (eL eI)) (a := d1) 3 rfl) (er_c (ea := eI) (a := 7) rfl))) ea_nil))) ea_nil))))) (fun _ => rfl) (fun beside150 => (br_ret (e := (eL pr)) (er_2l (o_cat (e := pr)) (ER.weak (er_2r (o_cat (e := pr)) (ER.weak (er_slLp (er_var (ea := (eL pr)) (a := p_row) 1 rfl) or_none (or_some (er_var (ea := eI) (a := k9) 4 rfl)))) (ER.weak (er_N (o_lst (eb := (eL pr)) (es := (fun p : (Int × Int) × Unit => pr p.1 :: (fun _ => []) p.2)) (c := fun p => [p.1]) 1 (fun _ => rfl) (by decide) (fun _ => rfl)) (ea_consl (er_2r (o_ixL (e := pr)) (er_varO (ea := (eL pr)) (a := beside150) 9 rfl) (er_2m (a := d1) (b := (6 : Int)) (op := fun (x : (List Int)) (y : Int) => (ofO (atI x y))) (o_ixL (e := eI)) (er_varO (ea := (eL eI)) (a := d1) 3 rfl) (er_c (ea := eI) (a := 6) rfl))) ea_nil))))) (ER.weak (er_slLp (er_var (ea := (eL pr)) (a := p_row) 1 rfl) (or_some (er_2p (a := k9) (b := (1 : Int)) (op := fun (x : Int) (y : Int) => (x + y)) o_add (er_var (ea := eI) (a := k9) 4 rfl) (er_c (ea := eI) (a := 1) rfl))) or_none))))))))))))))))))))))))))))) (fits_w (Fz.fz _) (fits_w (Fz.fz _) (fits_w (Fz.fz _) (fits_a (fits_a (fits_a (fits_a (fits_a (fits_a (fits_a (fits_a (trivial))))))))))))
theorem r__law_spoilt : RefF true F__law_spoilt (fun p : (Int × Int) × (List (Int × Int)) × Int × Unit => pr p.1 :: (fun p : (List (Int × Int)) × Int × Unit => (eL pr) p.1 :: (fun p : Int × Unit => eI p.1 :: (fun _ => []) p.2) p.2) p.2) (fun p : (Int × Int) × (List (Int × Int)) × Int × Unit => y__law_spoilt p.1 p.2.1 p.2.2.1) (eL pr) := fun p => k__law_spoilt p.1 p.2.1 p.2.2.1
def y__law_any_row (p_board : (Int × Int)) (p_cell : Int) : R (List (Int × Int)) :=
  ((((((repR [(p_board.1 + (7 : Int)), (p_board.2 + (7 : Int))] (17 : Int)).bind fun v2 => (catR [(18 : Int)] v2)).bind fun v3 => .ok (v3, ())).bind fun v6 => .ok (p_cell, v6)).bind fun v7 => y__law_draws v7.1 v7.2.1).bind fun d8 : (List Int) =>
  ((((ofO (atI d8 (0 : Int))).bind fun v9 => .ok (v9, ())).bind fun v11 => rngR v11.1).bind fun xs22 => calmR (compR xs22 (fun x12 : Int => (R.ok true)) (fun x12 : Int => ((((ofO (atI d8 (((2 : Int) * x12) + (1 : Int)))).bind fun v13 => .ok (v13 - (3 : Int))).bind fun v19 => ((((ofO (atI d8 (((2 : Int) * x12) + (2 : Int)))).bind fun v15 => .ok (v15 - (3 : Int))).bind fun v17 => .ok (v17, ())).bind fun v20 => .ok (v19, v20))).bind fun v21 => .ok (v21.1, v21.2.1))))))
theorem k__law_any_row (p_board : (Int × Int)) (p_cell : Int) : RF true (F__law_any_row [pr p_board, eI p_cell]) (y__law_any_row p_board p_cell) (eL pr) :=
  fn_ref (n := 4) (bd := b__law_any_row) (Γ := [.w (pr p_board), .w (eI p_cell), .any, .any]) (br_setL (e := eI) (Γ' := fun d8 => [.w (pr p_board), .w (eI p_cell), .o ((eL eI) d8), .any]) (er_call (y := (fun p : Int × (List Int) × Unit => y__law_draws p.1 p.2.1)) r__law_draws (ea_consr (er_var (ea := eI) (a := p_cell) 1 rfl) (ea_consl (ER.weak (er_2r (o_cat (e := eI)) (ER.weak (er_Np (a := ((18 : Int), ())) (op := fun p : Int × Unit => [p.1]) (o_lst (eb := (eL eI)) (es := (fun p : Int × Unit => eI p.1 :: (fun _ => []) p.2)) (c := fun p => [p.1]) 1 (fun _ => rfl) (by decide) (fun _ => rfl)) (ea_consp (er_c (ea := eI) (a := 18) rfl) ea_nil))) (ER.weak (er_repp (er_Np (a := ((p_board.1 + (7 : Int)), ((p_board.2 + (7 : Int)), ()))) (op := fun p : Int × Int × Unit => [p.1, p.2.1]) (o_lst (eb := (eL eI)) (es := (fun p : Int × Int × Unit => eI p.1 :: (fun p : Int × Unit => eI p.1 :: (fun _ => []) p.2) p.2)) (c := fun p => [p.1, p.2.1]) 2 (fun _ => rfl) (by decide) (fun _ => rfl)) (ea_consp (er_2p (a := p_board.1) (b := (7 : Int)) (op := fun (x : Int) (y : Int) => (x + y)) o_add (er_prj (ea := pr) (eb := eI) (c := fun p => p.1) (k := 0) (fun a => ⟨_, rfl, fun zs hz => by obtain ⟨x0, x1, rfl⟩ := len_2 hz; exact ⟨_, rfl, fun h => by simp only [List.map_cons, List.cons.injEq] at h; exact h.1⟩⟩) (er_var (ea := pr) (a := p_board) 0 rfl) (er_c (ea := eI) (a := 0) rfl)) (er_c (ea := eI) (a := 7) rfl)) (ea_consp (er_2p (a := p_board.2) (b := (7 : Int)) (op := fun (x : Int) (y : Int) => (x + y)) o_add (er_prj (ea := pr) (eb := eI) (c := fun p => p.2) (k := 1) (fun a => ⟨_, rfl, fun zs hz => by obtain ⟨x0, x1, rfl⟩ := len_2 hz; exact ⟨_, rfl, fun h => by simp only [List.map_cons, List.cons.injEq] at h; exact h.2.1⟩⟩) (er_var (ea := pr) (a := p_board) 0 rfl) (er_c (ea := eI) (a := 1) rfl)) (er_c (ea := eI) (a := 7) rfl)) ea_nil))) (er_c (ea := eI) (a := 17) rfl))))) ea_nil))) (fun _ => rfl) (fun d8 => (br_ret (e := (eL pr)) (er_lc (tc := fun x12 => (R.ok true)) (te := fun x12 => ((((ofO (atI d8 (((2 : Int) * x12) + (1 : Int)))).bind fun v13 => .ok (v13 - (3 : Int))).bind fun v19 => ((((ofO (atI d8 (((2 : Int) * x12) + (2 : Int)))).bind fun v15 => .ok (v15 - (3 : Int))).bind fun v17 => .ok (v17, ())).bind fun v20 => .ok (v19, v20))).bind fun v21 => .ok (v21.1, v21.2.1))) (e := eI) (Γv := [.any, .any, .w ((eL eI) d8), .any]) (Γb := fun x12 => [.any, .any, .w ((eL eI) d8), .w (eI x12)]) (ir_r1 (ea_consl (er_2m (a := d8) (b := (0 : Int)) (op := fun (x : (List Int)) (y : Int) => (ofO (atI x y))) (o_ixL (e := eI)) (er_varO (ea := (eL eI)) (a := d8) 2 rfl) (er_c (ea := eI) (a := 0) rfl)) ea_nil)) rfl (tgn (i := 3) (e := eI) rfl (fun _ => rfl)) (fun x12 => tr_yes) (fun x12 => (er_N (o_tup (eb := pr) (es := (fun p : Int × Int × Unit => eI p.1 :: (fun p : Int × Unit => eI p.1 :: (fun _ => []) p.2) p.2)) (c := fun p => (p.1, p.2.1)) 2 (fun _ => rfl) (by decide) (fun _ => rfl)) (ea_cons (er_2l o_sub (er_2m (a := d8) (b := (((2 : Int) * x12) + (1 : Int))) (op := fun (x : (List Int)) (y : Int) => (ofO (atI x y))) (o_ixL (e := eI)) (er_var (ea := (eL eI)) (a := d8) 2 rfl) (er_2p (a := ((2 : Int) * x12)) (b := (1 : Int)) (op := fun (x : Int) (y : Int) => (x + y)) o_add (er_mulL (by decide) (er_c (ea := eI) (a := 2) rfl) (er_var (ea := eI) (a := x12) 3 rfl)) (er_c (ea := eI) (a := 1) rfl))) (er_c (ea := eI) (a := 3) rfl)) (ea_consl (er_2l o_sub (er_2m (a := d8) (b := (((2 : Int) * x12) + (2 : Int))) (op := fun (x : (List Int)) (y : Int) => (ofO (atI x y))) (o_ixL (e := eI)) (er_var (ea := (eL eI)) (a := d8) 2 rfl) (er_2p (a := ((2 : Int) * x12)) (b := (2 : Int)) (op := fun (x : Int) (y : Int) => (x + y)) o_add (er_mulL (by decide) (er_c (ea := eI) (a := 2) rfl) (er_var (ea := eI) (a := x12) 3 rfl)) (er_c (ea := eI) (a := 2) rfl))) (er_c (ea := eI) (a := 3) rfl)) ea_nil)))))))) (fits_w (Fz.fz _) (fits_w (Fz.fz _) (fits_a (fits_a (trivial)))))
theorem r__law_any_row : RefF true F__law_any_row (fun p : (Int × Int) × Int × Unit => pr p.1 :: (fun p : Int × Unit => eI p.1 :: (fun _ => []) p.2) p.2) (fun p : (Int × Int) × Int × Unit => y__law_any_row p.1 p.2.1) (eL pr) := fun p => k__law_any_row p.1 p.2.1
def y__law_direction (p_corner : (Int × Int)) (p_after : (Int × Int)) : R Str :=
  ((R.ok [("E" : Str), ("W" : Str), ("N" : Str), ("S" : Str)]).bind fun xs10 => (foldC xs10 (() : Unit) (fun (s4 : Unit) (a5 : Str) => (((y__law_stepped p_corner a5).bind fun v6 => .ok (decide (v6 = p_after))).bind fun b8 => if b8 then
  .ok (.rt a5)
  else .ok (.nx ()))) : R (Sum (Unit) (Str))).bind (onC (fun s9 =>
  .ok ("" : Str)) (fun z => .ok z)))
theorem k__law_direction (p_corner : (Int × Int)) (p_after : (Int × Int)) : RF false (F__law_direction [pr p_corner, pr p_after]) (y__law_direction p_corner p_after) eS :=
  fn_ref (n := 3) (bd := b__law_direction) (Γ := [.w (pr p_corner), .w (pr p_after), .any]) (br_forC' (tr := fun z => z) (σ := Unit) (e := eS) (s0 := ()) (Γw := [.w (pr p_corner), .w (pr p_after), .any]) (Γl := fun s4 : Unit => [.w (pr p_corner), .w (pr p_after), .any]) (Γb := fun (s4 : Unit) (a5 : Str) => [.w (pr p_corner), .w (pr p_after), .w (eS a5)]) (ir_lst (ER.weak (er_Np (a := (("E" : Str), (("W" : Str), (("N" : Str), (("S" : Str), ()))))) (op := fun p : Str × Str × Str × Str × Unit => [p.1, p.2.1, p.2.2.1, p.2.2.2.1]) (o_lst (eb := (eL eS)) (es := (fun p : Str × Str × Str × Str × Unit => eS p.1 :: (fun p : Str × Str × Str × Unit => eS p.1 :: (fun p : Str × Str × Unit => eS p.1 :: (fun p : Str × Unit => eS p.1 :: (fun _ => []) p.2) p.2) p.2) p.2)) (c := fun p => [p.1, p.2.1, p.2.2.1, p.2.2.2.1]) 4 (fun _ => rfl) (by decide) (fun _ => rfl)) (ea_consp (er_c (ea := eS) (a := "E") rfl) (ea_consp (er_c (ea := eS) (a := "W") rfl) (ea_consp (er_c (ea := eS) (a := "N") rfl) (ea_consp (er_c (ea := eS) (a := "S") rfl) ea_nil))))))) rfl (.same (.same (.any (.nil)))) (fun s4 => (tgn (i := 2) (e := eS) rfl (fun _ => rfl))) (fun s4 a5 => br_last (br_if (tr_vM (er_2l (o_eq (e := pr) (by decide)) (er_callp (a := (p_corner, (a5, ()))) (y := (fun p : (Int × Int) × Str × Unit => y__law_stepped p.1 p.2.1)) r__law_stepped (ea_consp (er_var (ea := pr) (a := p_corner) 0 rfl) (ea_consp (er_var (ea := eS) (a := a5) 2 rfl) ea_nil))) (er_var (ea := pr) (a := p_after) 1 rfl))) (br_cutV ((br_rtV (e := eS) (b := a5) (i := 2) (o := false) rfl))) (br_nx ((br_c (s := ()) (.same (.same (.any (.nil))))))))) (fun s9 => (br_ret (e := eS) (er_c (ea := eS) (a := "") rfl))) zr_f) (fits_w (Fz.fz _) (fits_w (Fz.fz _) (fits_a (trivial))))
theorem r__law_direction : RefF false F__law_direction (fun p : (Int × Int) × (Int × Int) × Unit => pr p.1 :: (fun p : (Int × Int) × Unit => pr p.1 :: (fun _ => []) p.2) p.2) (fun p : (Int × Int) × (Int × Int) × Unit => y__law_direction p.1 p.2.1) eS := fun p => k__law_direction p.1 p.2.1
def y__law_within (p_used : Str) (p_letters : Str) : R Bool :=
  ((((((R.ok p_used).bind fun v1 => smallR (signT v1)).bind fun xs3 => calmR (compR xs3 (fun x2 : Str => (signIn true x2 p_letters)) (fun x2 : Str => (R.ok x2)))).bind fun v4 => .ok (v4, ())).bind fun v6 => .ok (List.length v6.1 : Int)).bind fun v7 => .ok (decide (v7 = (0 : Int))))
theorem k__law_within (p_used : Str) (p_letters : Str) : RF false (F__law_within [eS p_used, eS p_letters]) (y__law_within p_used p_letters) eB :=
  fn_ref (n := 3) (bd := b__law_within) (Γ := [.w (eS p_used), .w (eS p_letters), .any]) ((br_ret (e := eB) (er_2l (o_eq (e := eI) (by decide)) (er_N (o_lenL (e := eS)) (ea_consl (ER.weak (er_lc (tc := fun x2 => (signIn true x2 p_letters)) (te := fun x2 => (R.ok x2)) (e := eS) (Γv := [.w (eS p_used), .w (eS p_letters), .any]) (Γb := fun x2 => [.w (eS p_used), .w (eS p_letters), .w (eS x2)]) (ir_str (er_var (ea := eS) (a := p_used) 0 rfl)) rfl (tgn (i := 2) (e := eS) rfl (fun _ => rfl)) (fun x2 => (tr_vM (er_2m (a := x2) (b := p_letters) (op := fun (x : Str) (y : Str) => (signIn true x y)) (o_inW (neg := true)) (er_var (ea := eS) (a := x2) 2 rfl) (er_var (ea := eS) (a := p_letters) 1 rfl)))) (fun x2 => (er_var (ea := eS) (a := x2) 2 rfl)))) ea_nil)) (er_c (ea := eI) (a := 0) rfl)))) (fits_w (Fz.fz _) (fits_w (Fz.fz _) (fits_a (trivial))))
theorem r__law_within : RefF false F__law_within (fun p : Str × Str × Unit => eS p.1 :: (fun p : Str × Unit => eS p.1 :: (fun _ => []) p.2) p.2) (fun p : Str × Str × Unit => y__law_within p.1 p.2.1) eB := fun p => k__law_within p.1 p.2.1
def y__law_due (p_board : (Int × Int)) (p_row : (List (Int × Int))) : R (Str × D) :=
  (if (decide ((List.length p_row : Int) = (0 : Int))) then
  .ok ((fun z => (z.1, (eI z.2))) (("fault" : Str), (0 : Int)))
  else ((R.ok ("" : Str)).bind fun used1 : Str =>
  ((rngR (List.length p_row : Int)).bind fun xs58 => (foldC xs58 (used1 : Str) (fun (s27 : Str) (a28 : Int) => ((((((ofO (atI p_row a28)).bind fun v29 => .ok (v29, ())).bind fun v32 => .ok (p_board, v32)).bind fun v33 => y__law_on_board v33.1 v33.2.1).bind fun b34 => .ok (!b34)).bind fun b53 => if b53 then
  ((((((ofO (atI p_row a28)).bind fun v35 => .ok (v35, ())).bind fun v38 => .ok (("off" : Str), v38)).bind fun v39 => .ok (v39.1, v39.2.1)).bind fun z40 => .ok ((fun z => (z.1, (pr z.2))) z40)).bind fun r41 => .ok (.rt r41))
  else (if (decide (a28 > (0 : Int))) then
  ((((ofO (atI p_row (a28 - (1 : Int)))).bind fun v44 => (((ofO (atI p_row a28)).bind fun v42 => .ok (v42, ())).bind fun v45 => .ok (v44, v45))).bind fun v46 => y__law_direction v46.1 v46.2.1).bind fun letter47 : Str =>
  ((catS s27 letter47).bind fun used48 : Str =>
  ((calmR (compR [("EN" : Str), ("WS" : Str), ("ES" : Str), ("WN" : Str)] (fun x49 : Str => (y__law_within used48 x49)) (fun x49 : Str => (R.ok x49)))).bind fun fitting50 : (List Str) =>
  (((eqR eS eS letter47 ("" : Str)).bind fun b51 => (if b51 then .ok true else (R.ok (decide ((List.length fitting50 : Int) = (0 : Int)))))).bind fun b52 => if b52 then
  .ok (.rt ((fun z => (z.1, (eI z.2))) (("fault" : Str), a28)))
  else .ok (.nx used48)))))
  else .ok (.nx s27)))) : R (Sum (Str) ((Str × D)))).bind (onC (fun s54 =>
  (((ofO (atI p_row (-(1 : Int)))).bind fun v55 => ((ofO (atI p_row (0 : Int))).bind fun v56 => .ok (ltP v55 v56))).bind fun b57 => if b57 then
  .ok ((fun z => (z.1, ((eL pr) z.2))) (("path" : Str), (List.reverse p_row)))
  else .ok ((fun z => (z.1, ((eL pr) z.2))) (("path" : Str), p_row)))) (fun z => .ok z)))))
theorem k__law_due (p_board : (Int × Int)) (p_row : (List (Int × Int))) : RF false (F__law_due [pr p_board, (eL pr) p_row]) (y__law_due p_board p_row) (eP eS eX) :=
  fn_ref (n := 7) (bd := b__law_due) (Γ := [.w (pr p_board), .w ((eL pr) p_row), .any, .any, .any, .any, .any]) (br_ifp (tr_v (er_2p (a := (List.length p_row : Int)) (b := (0 : Int)) (op := fun (x : Int) (y : Int) => (decide (x = y))) (o_eq (e := eI) (by decide)) (er_Np (a := (p_row, ())) (op := fun p : (List (Int × Int)) × Unit => (List.length p.1 : Int)) (o_lenL (e := pr)) (ea_consp (er_var (ea := (eL pr)) (a := p_row) 1 rfl) ea_nil)) (er_c (ea := eI) (a := 0) rfl))) (br_cutR ((br_ret (e := (eP eS eX)) (ER.coe (c := (fun z => (z.1, (eI z.2)))) (eb := (eP eS eX)) (er_Np (a := (("fault" : Str), ((0 : Int), ()))) (op := fun p : Str × Int × Unit => (p.1, p.2.1)) (o_tup (eb := (eP eS eI)) (es := (fun p : Str × Int × Unit => eS p.1 :: (fun p : Int × Unit => eI p.1 :: (fun _ => []) p.2) p.2)) (c := fun p => (p.1, p.2.1)) 2 (fun _ => rfl) (by decide) (fun _ => rfl)) (ea_consp (er_c (ea := eS) (a := "fault") rfl) (ea_consp (er_c (ea := eI) (a := 0) rfl) ea_nil))) (fun _ => by first | rfl | exact congrArg _ (Fz.fz _) | (simp only [eP, eP3, eX]; first | rfl | (simp [Fz.fz]))))))) (br_nx (br_setC (e := eS) (Γ' := fun used1 => [.w (pr p_board), .w ((eL pr) p_row), .w (eS used1), .any, .any, .any, .any]) (er_c (ea := eS) (a := "") rfl) (fun _ => rfl) (fun used1 => br_forC' (tr := fun z => z) (σ := Str) (e := eI) (s0 := used1) (Γw := [.w (pr p_board), .w ((eL pr) p_row), .w (eS used1), .any, .any, .any, .any]) (Γl := fun s27 : Str => [.w (pr p_board), .w ((eL pr) p_row), .w (eS s27), .any, .any, .any, .any]) (Γb := fun (s27 : Str) (a28 : Int) => [.w (pr p_board), .w ((eL pr) p_row), .w (eS s27), .w (eI a28), .any, .any, .any]) (ir_r1p (ea_consp (er_Np (a := (p_row, ())) (op := fun p : (List (Int × Int)) × Unit => (List.length p.1 : Int)) (o_lenL (e := pr)) (ea_consp (er_var (ea := (eL pr)) (a := p_row) 1 rfl) ea_nil)) ea_nil)) rfl (.same (.same (.same (.any (.any (.any (.any (.nil)))))))) (fun s27 => (tgn (i := 3) (e := eI) rfl (fun _ => rfl))) (fun s27 a28 => br_if (tr_notM (tr_vM (er_call (y := (fun p : (Int × Int) × (Int × Int) × Unit => y__law_on_board p.1 p.2.1)) r__law_on_board (ea_consr (er_var (ea := pr) (a := p_board) 0 rfl) (ea_consl (er_2m (a := p_row) (b := a28) (op := fun (x : (List (Int × Int))) (y : Int) => (ofO (atI x y))) (o_ixL (e := pr)) (er_var (ea := (eL pr)) (a := p_row) 1 rfl) (er_var (ea := eI) (a := a28) 3 rfl)) ea_nil))))) (br_cutR ((br_rt (e := (eP eS eX)) (ER.coeM (c := (fun z => (z.1, (pr z.2)))) (eb := (eP eS eX)) (er_N (o_tup (eb := (eP eS pr)) (es := (fun p : Str × (Int × Int) × Unit => eS p.1 :: (fun p : (Int × Int) × Unit => pr p.1 :: (fun _ => []) p.2) p.2)) (c := fun p => (p.1, p.2.1)) 2 (fun _ => rfl) (by decide) (fun _ => rfl)) (ea_consr (er_c (ea := eS) (a := "off") rfl) (ea_consl (er_2m (a := p_row) (b := a28) (op := fun (x : (List (Int × Int))) (y : Int) => (ofO (atI x y))) (o_ixL (e := pr)) (er_var (ea := (eL pr)) (a := p_row) 1 rfl) (er_var (ea := eI) (a := a28) 3 rfl)) ea_nil))) (fun _ => by first | rfl | exact congrArg _ (Fz.fz _) | (simp only [eP, eP3, eX]; first | rfl | (simp [Fz.fz]))))))) (br_nx (br_last (br_ifp (tr_v (er_2p (a := a28) (b := (0 : Int)) (op := fun (x : Int) (y : Int) => (decide (x > y))) o_gt (er_var (ea := eI) (a := a28) 3 rfl) (er_c (ea := eI) (a := 0) rfl))) (br_assoc (br_setC (e := eS) (Γ' := fun letter47 => [.w (pr p_board), .w ((eL pr) p_row), .w (eS s27), .w (eI a28), .w (eS letter47), .any, .any]) (er_call (y := (fun p : (Int × Int) × (Int × Int) × Unit => y__law_direction p.1 p.2.1)) r__law_direction (ea_cons (er_2m (a := p_row) (b := (a28 - (1 : Int))) (op := fun (x : (List (Int × Int))) (y : Int) => (ofO (atI x y))) (o_ixL (e := pr)) (er_var (ea := (eL pr)) (a := p_row) 1 rfl) (er_2p (a := a28) (b := (1 : Int)) (op := fun (x : Int) (y : Int) => (x - y)) o_sub (er_var (ea := eI) (a := a28) 3 rfl) (er_c (ea := eI) (a := 1) rfl))) (ea_consl (er_2m (a := p_row) (b := a28) (op := fun (x : (List (Int × Int))) (y : Int) => (ofO (atI x y))) (o_ixL (e := pr)) (er_var (ea := (eL pr)) (a := p_row) 1 rfl) (er_var (ea := eI) (a := a28) 3 rfl)) ea_nil))) (fun _ => rfl) (fun letter47 => br_assoc (br_setC (e := eS) (Γ' := fun used48 => [.w (pr p_board), .w ((eL pr) p_row), .w (eS used48), .w (eI a28), .w (eS letter47), .any, .any]) (er_2m (a := s27) (b := letter47) (op := fun (x : Str) (y : Str) => (catS x y)) o_catS (er_var (ea := eS) (a := s27) 2 rfl) (er_var (ea := eS) (a := letter47) 4 rfl)) (fun _ => rfl) (fun used48 => br_assoc (br_setL (e := eS) (Γ' := fun fitting50 => [.w (pr p_board), .w ((eL pr) p_row), .w (eS used48), .w (eI a28), .w (eS letter47), .o ((eL eS) fitting50), .any]) (er_lcm (tc := fun x49 => (y__law_within used48 x49)) (te := fun x49 => (R.ok x49)) (e := eS) (Γv := [.any, .any, .w (eS used48), .any, .any, .any, .any]) (Γb := fun x49 => [.any, .any, .w (eS used48), .any, .any, .any, .w (eS x49)]) (ir_lst (ER.weak (er_Np (a := (("EN" : Str), (("WS" : Str), (("ES" : Str), (("WN" : Str), ()))))) (op := fun p : Str × Str × Str × Str × Unit => [p.1, p.2.1, p.2.2.1, p.2.2.2.1]) (o_lst (eb := (eL eS)) (es := (fun p : Str × Str × Str × Str × Unit => eS p.1 :: (fun p : Str × Str × Str × Unit => eS p.1 :: (fun p : Str × Str × Unit => eS p.1 :: (fun p : Str × Unit => eS p.1 :: (fun _ => []) p.2) p.2) p.2) p.2)) (c := fun p => [p.1, p.2.1, p.2.2.1, p.2.2.2.1]) 4 (fun _ => rfl) (by decide) (fun _ => rfl)) (ea_consp (er_c (ea := eS) (a := "EN") rfl) (ea_consp (er_c (ea := eS) (a := "WS") rfl) (ea_consp (er_c (ea := eS) (a := "ES") rfl) (ea_consp (er_c (ea := eS) (a := "WN") rfl) ea_nil))))))) rfl (tgn (i := 6) (e := eS) rfl (fun _ => rfl)) (fun x49 => (tr_vM (er_callp (a := (used48, (x49, ()))) (y := (fun p : Str × Str × Unit => y__law_within p.1 p.2.1)) r__law_within (ea_consp (er_var (ea := eS) (a := used48) 2 rfl) (ea_consp (er_var (ea := eS) (a := x49) 6 rfl) ea_nil))))) (fun x49 => (er_var (ea := eS) (a := x49) 6 rfl))) (fun _ => rfl) (fun fitting50 => br_if (tr_orM (tr_vM (er_2m (a := letter47) (b := ("" : Str)) (op := fun (x : Str) (y : Str) => (eqR eS eS x y)) (o_eqR (ea := eS) (eb := eS)) (er_var (ea := eS) (a := letter47) 4 rfl) (er_c (ea := eS) (a := "") rfl))) (tr_v (er_2p (a := (List.length fitting50 : Int)) (b := (0 : Int)) (op := fun (x : Int) (y : Int) => (decide (x = y))) (o_eq (e := eI) (by decide)) (er_Np (a := (fitting50, ())) (op := fun p : (List Str) × Unit => (List.length p.1 : Int)) (o_lenL (e := eS)) (ea_consp (er_varO (ea := (eL eS)) (a := fitting50) 5 rfl) ea_nil)) (er_c (ea := eI) (a := 0) rfl)))) (br_cutR ((br_rtp (e := (eP eS eX)) (ER.coe (c := (fun z => (z.1, (eI z.2)))) (eb := (eP eS eX)) (er_Np (a := (("fault" : Str), (a28, ()))) (op := fun p : Str × Int × Unit => (p.1, p.2.1)) (o_tup (eb := (eP eS eI)) (es := (fun p : Str × Int × Unit => eS p.1 :: (fun p : Int × Unit => eI p.1 :: (fun _ => []) p.2) p.2)) (c := fun p => (p.1, p.2.1)) 2 (fun _ => rfl) (by decide) (fun _ => rfl)) (ea_consp (er_c (ea := eS) (a := "fault") rfl) (ea_consp (er_var (ea := eI) (a := a28) 3 rfl) ea_nil))) (fun _ => by first | rfl | exact congrArg _ (Fz.fz _) | (simp only [eP, eP3, eX]; first | rfl | (simp [Fz.fz]))))))) (br_nx ((br_c (s := used48) (.same (.same (.same (.any (.any (.any (.any (.nil)))))))))))))))))) (br_nx ((br_c (s := s27) (.same (.same (.same (.any (.any (.any (.any (.nil))))))))))))))) (fun s54 => br_if (tr_vM (er_2 o_ltP (er_2m (a := p_row) (b := (-(1 : Int))) (op := fun (x : (List (Int × Int))) (y : Int) => (ofO (atI x y))) (o_ixL (e := pr)) (er_var (ea := (eL pr)) (a := p_row) 1 rfl) (er_1p (a := (1 : Int)) (op := fun x : Int => (-x)) o_neg (er_c (ea := eI) (a := 1) rfl))) (er_2m (a := p_row) (b := (0 : Int)) (op := fun (x : (List (Int × Int))) (y : Int) => (ofO (atI x y))) (o_ixL (e := pr)) (er_var (ea := (eL pr)) (a := p_row) 1 rfl) (er_c (ea := eI) (a := 0) rfl)))) (br_cutR ((br_ret (e := (eP eS eX)) (ER.coe (c := (fun z => (z.1, ((eL pr) z.2)))) (eb := (eP eS eX)) (er_Np (a := (("path" : Str), ((List.reverse p_row), ()))) (op := fun p : Str × (List (Int × Int)) × Unit => (p.1, p.2.1)) (o_tup (eb := (eP eS (eL pr))) (es := (fun p : Str × (List (Int × Int)) × Unit => eS p.1 :: (fun p : (List (Int × Int)) × Unit => (eL pr) p.1 :: (fun _ => []) p.2) p.2)) (c := fun p => (p.1, p.2.1)) 2 (fun _ => rfl) (by decide) (fun _ => rfl)) (ea_consp (er_c (ea := eS) (a := "path") rfl) (ea_consp (ER.weak (er_1p (a := p_row) (op := fun x : (List (Int × Int)) => (List.reverse x)) o_revL (er_var (ea := (eL pr)) (a := p_row) 1 rfl))) ea_nil))) (fun _ => by first | rfl | exact congrArg _ (Fz.fz _) | (simp only [eP, eP3, eX]; first | rfl | (simp [Fz.fz]))))))) (br_nx ((br_ret (e := (eP eS eX)) (ER.coe (c := (fun z => (z.1, ((eL pr) z.2)))) (eb := (eP eS eX)) (er_Np (a := (("path" : Str), (p_row, ()))) (op := fun p : Str × (List (Int × Int)) × Unit => (p.1, p.2.1)) (o_tup (eb := (eP eS (eL pr))) (es := (fun p : Str × (List (Int × Int)) × Unit => eS p.1 :: (fun p : (List (Int × Int)) × Unit => (eL pr) p.1 :: (fun _ => []) p.2) p.2)) (c := fun p => (p.1, p.2.1)) 2 (fun _ => rfl) (by decide) (fun _ => rfl)) (ea_consp (er_c (ea := eS) (a := "path") rfl) (ea_consp (er_var (ea := (eL pr)) (a := p_row) 1 rfl) ea_nil))) (fun _ => by first | rfl | exact congrArg _ (Fz.fz _) | (simp only [eP, eP3, eX]; first | rfl | (simp [Fz.fz])))))))) zr_f)))) (fits_w (Fz.fz _) (fits_w (Fz.fz _) (fits_a (fits_a (fits_a (fits_a (fits_a (trivial))))))))
theorem r__law_due : RefF false F__law_due (fun p : (Int × Int) × (List (Int × Int)) × Unit => pr p.1 :: (fun p : (List (Int × Int)) × Unit => (eL pr) p.1 :: (fun _ => []) p.2) p.2) (fun p : (Int × Int) × (List (Int × Int)) × Unit => y__law_due p.1 p.2.1) (eP eS eX) := fun p => k__law_due p.1 p.2.1
def y_on_board (p_board : (Int × Int)) (p_corner : (Int × Int)) : R Bool :=
  .ok (((decide ((0 : Int) ≤ p_corner.1)) && (decide (p_corner.1 ≤ p_board.1))) && ((decide ((0 : Int) ≤ p_corner.2)) && (decide (p_corner.2 ≤ p_board.2))))
theorem k_on_board (p_board : (Int × Int)) (p_corner : (Int × Int)) : RF false (F_on_board [pr p_board, pr p_corner]) (y_on_board p_board p_corner) eB :=
  fn_ref (n := 2) (bd := b_on_board) (Γ := [.w (pr p_board), .w (pr p_corner)]) ((br_ret (e := eB) (er_and (er_ch (p := fun i j => decide (i ≤ j)) (q := fun i j => decide (i ≤ j)) o_le o_le (er_c (ea := eI) (a := 0) rfl) (er_prj (ea := pr) (eb := eI) (c := fun p => p.1) (k := 0) (fun a => ⟨_, rfl, fun zs hz => by obtain ⟨x0, x1, rfl⟩ := len_2 hz; exact ⟨_, rfl, fun h => by simp only [List.map_cons, List.cons.injEq] at h; exact h.1⟩⟩) (er_var (ea := pr) (a := p_corner) 1 rfl) (er_c (ea := eI) (a := 0) rfl)) (er_prj (ea := pr) (eb := eI) (c := fun p => p.1) (k := 0) (fun a => ⟨_, rfl, fun zs hz => by obtain ⟨x0, x1, rfl⟩ := len_2 hz; exact ⟨_, rfl, fun h => by simp only [List.map_cons, List.cons.injEq] at h; exact h.1⟩⟩) (er_var (ea := pr) (a := p_board) 0 rfl) (er_c (ea := eI) (a := 0) rfl))) (er_ch (p := fun i j => decide (i ≤ j)) (q := fun i j => decide (i ≤ j)) o_le o_le (er_c (ea := eI) (a := 0) rfl) (er_prj (ea := pr) (eb := eI) (c := fun p => p.2) (k := 1) (fun a => ⟨_, rfl, fun zs hz => by obtain ⟨x0, x1, rfl⟩ := len_2 hz; exact ⟨_, rfl, fun h => by simp only [List.map_cons, List.cons.injEq] at h; exact h.2.1⟩⟩) (er_var (ea := pr) (a := p_corner) 1 rfl) (er_c (ea := eI) (a := 1) rfl)) (er_prj (ea := pr) (eb := eI) (c := fun p => p.2) (k := 1) (fun a => ⟨_, rfl, fun zs hz => by obtain ⟨x0, x1, rfl⟩ := len_2 hz; exact ⟨_, rfl, fun h => by simp only [List.map_cons, List.cons.injEq] at h; exact h.2.1⟩⟩) (er_var (ea := pr) (a := p_board) 0 rfl) (er_c (ea := eI) (a := 1) rfl)))))) (fits_w (Fz.fz _) (fits_w (Fz.fz _) (trivial)))
theorem r_on_board : RefF false F_on_board (fun p : (Int × Int) × (Int × Int) × Unit => pr p.1 :: (fun p : (Int × Int) × Unit => pr p.1 :: (fun _ => []) p.2) p.2) (fun p : (Int × Int) × (Int × Int) × Unit => y_on_board p.1 p.2.1) eB := fun p => k_on_board p.1 p.2.1
def y_direction (p_corner : (Int × Int)) (p_other : (Int × Int)) : R Str :=
  .ok ((List.lookup ((p_other.1 - p_corner.1), (p_other.2 - p_corner.2)) tt_DIRECTIONS).getD ("" : Str))
theorem k_direction (p_corner : (Int × Int)) (p_other : (Int × Int)) : RF false (F_direction [pr p_corner, pr p_other]) (y_direction p_corner p_other) eS :=
  fn_ref (n := 2) (bd := b_direction) (Γ := [.w (pr p_corner), .w (pr p_other)]) ((br_ret (e := eS) (er_2p (a := ((p_other.1 - p_corner.1), (p_other.2 - p_corner.2))) (b := ("" : Str)) (op := fun (x : (Int × Int)) (y : Str) => ((List.lookup x tt_DIRECTIONS).getD y)) (o_kget (tt := tt_DIRECTIONS) rfl) (er_Np (a := ((p_other.1 - p_corner.1), ((p_other.2 - p_corner.2), ()))) (op := fun p : Int × Int × Unit => (p.1, p.2.1)) (o_tup (eb := pr) (es := (fun p : Int × Int × Unit => eI p.1 :: (fun p : Int × Unit => eI p.1 :: (fun _ => []) p.2) p.2)) (c := fun p => (p.1, p.2.1)) 2 (fun _ => rfl) (by decide) (fun _ => rfl)) (ea_consp (er_2p (a := p_other.1) (b := p_corner.1) (op := fun (x : Int) (y : Int) => (x - y)) o_sub (er_prj (ea := pr) (eb := eI) (c := fun p => p.1) (k := 0) (fun a => ⟨_, rfl, fun zs hz => by obtain ⟨x0, x1, rfl⟩ := len_2 hz; exact ⟨_, rfl, fun h => by simp only [List.map_cons, List.cons.injEq] at h; exact h.1⟩⟩) (er_var (ea := pr) (a := p_other) 1 rfl) (er_c (ea := eI) (a := 0) rfl)) (er_prj (ea := pr) (eb := eI) (c := fun p => p.1) (k := 0) (fun a => ⟨_, rfl, fun zs hz => by obtain ⟨x0, x1, rfl⟩ := len_2 hz; exact ⟨_, rfl, fun h => by simp only [List.map_cons, List.cons.injEq] at h; exact h.1⟩⟩) (er_var (ea := pr) (a := p_corner) 0 rfl) (er_c (ea := eI) (a := 0) rfl))) (ea_consp (er_2p (a := p_other.2) (b := p_corner.2) (op := fun (x : Int) (y : Int) => (x - y)) o_sub (er_prj (ea := pr) (eb := eI) (c := fun p => p.2) (k := 1) (fun a => ⟨_, rfl, fun zs hz => by obtain ⟨x0, x1, rfl⟩ := len_2 hz; exact ⟨_, rfl, fun h => by simp only [List.map_cons, List.cons.injEq] at h; exact h.2.1⟩⟩) (er_var (ea := pr) (a := p_other) 1 rfl) (er_c (ea := eI) (a := 1) rfl)) (er_prj (ea := pr) (eb := eI) (c := fun p => p.2) (k := 1) (fun a => ⟨_, rfl, fun zs hz => by obtain ⟨x0, x1, rfl⟩ := len_2 hz; exact ⟨_, rfl, fun h => by simp only [List.map_cons, List.cons.injEq] at h; exact h.2.1⟩⟩) (er_var (ea := pr) (a := p_corner) 0 rfl) (er_c (ea := eI) (a := 1) rfl))) ea_nil))) (er_c (ea := eS) (a := "") rfl)))) (fits_w (Fz.fz _) (fits_w (Fz.fz _) (trivial)))
theorem r_direction : RefF false F_direction (fun p : (Int × Int) × (Int × Int) × Unit => pr p.1 :: (fun p : (Int × Int) × Unit => pr p.1 :: (fun _ => []) p.2) p.2) (fun p : (Int × Int) × (Int × Int) × Unit => y_direction p.1 p.2.1) eS := fun p => k_direction p.1 p.2.1
def y_normal_form (p_row : (List (Int × Int))) : R (List (Int × Int)) :=
  (((ofO (atI p_row (-(1 : Int)))).bind fun v1 => ((ofO (atI p_row (0 : Int))).bind fun v2 => .ok (ltP v1 v2))).bind fun b3 => if b3 then
  .ok (List.reverse p_row)
  else .ok p_row)
theorem k_normal_form (p_row : (List (Int × Int))) : RF false (F_normal_form [(eL pr) p_row]) (y_normal_form p_row) (eV pr) :=
  fn_ref (n := 1) (bd := b_normal_form) (Γ := [.w ((eL pr) p_row)]) (br_if (tr_vM (er_2 o_ltP (er_2m (a := p_row) (b := (-(1 : Int))) (op := fun (x : (List (Int × Int))) (y : Int) => (ofO (atI x y))) (o_ixL (e := pr)) (er_var (ea := (eL pr)) (a := p_row) 0 rfl) (er_1p (a := (1 : Int)) (op := fun x : Int => (-x)) o_neg (er_c (ea := eI) (a := 1) rfl))) (er_2m (a := p_row) (b := (0 : Int)) (op := fun (x : (List (Int × Int))) (y : Int) => (ofO (atI x y))) (o_ixL (e := pr)) (er_var (ea := (eL pr)) (a := p_row) 0 rfl) (er_c (ea := eI) (a := 0) rfl)))) (br_cutR ((br_ret (e := (eV pr)) (er_Np (a := ((List.reverse p_row), ())) (op := fun p : (List (Int × Int)) × Unit => p.1) (o_tupL (e := pr)) (ea_consp (ER.weak (er_1p (a := p_row) (op := fun x : (List (Int × Int)) => (List.reverse x)) o_revL (er_var (ea := (eL pr)) (a := p_row) 0 rfl))) ea_nil))))) (br_nx ((br_ret (e := (eV pr)) (er_Np (a := (p_row, ())) (op := fun p : (List (Int × Int)) × Unit => p.1) (o_tupL (e := pr)) (ea_consp (er_var (ea := (eL pr)) (a := p_row) 0 rfl) ea_nil)))))) (fits_w (Fz.fz _) (trivial))
theorem r_normal_form : RefF false F_normal_form (fun p : (List (Int × Int)) × Unit => (eL pr) p.1 :: (fun _ => []) p.2) (fun p : (List (Int × Int)) × Unit => y_normal_form p.1) (eV pr) := fun p => k_normal_form p.1
def y_normal_path (p_board : (Int × Int)) (p_corners : (List (Int × Int))) : R (List (Int × Int)) :=
  ((R.ok p_corners).bind fun row1 : (List (Int × Int)) =>
  (if (decide ((List.length row1 : Int) = (0 : Int))) then
  ((R.ok ((0 : Int), ())).bind fun v2 => raiseR "NotAPath" ["index"] ((fun p : Int × Unit => eI p.1 :: (fun _ => []) p.2) v2))
  else ((R.ok ("" : Str)).bind fun used3 : Str =>
  (((R.ok row1).bind fun v4 => smallR (numT 0 v4)).bind fun xs38 => (foldR xs38 (used3 : Str) (fun (s20 : Str) (a21 : (Int × (Int × Int))) => (((y_on_board p_board a21.2).bind fun b24 => .ok (!b24)).bind fun b36 => if b36 then
  ((R.ok (a21.2, ())).bind fun v25 => raiseR "OffBoard" ["corner"] ((fun p : (Int × Int) × Unit => pr p.1 :: (fun _ => []) p.2) v25))
  else (if (decide (a21.1 > (0 : Int))) then
  ((((ofO (atI row1 (a21.1 - (1 : Int)))).bind fun v26 => .ok (v26, (a21.2, ()))).bind fun v28 => y_direction v28.1 v28.2.1).bind fun letter29 : Str =>
  (((eqR eS eS letter29 ("" : Str)).bind fun b32 => (if b32 then .ok true else ((ofO (List.lookup letter29 tt_OPPOSITES)).bind fun v30 => (signIn false v30 s20)))).bind fun b35 => if b35 then
  ((R.ok (a21.1, ())).bind fun v33 => raiseR "NotAPath" ["index"] ((fun p : Int × Unit => eI p.1 :: (fun _ => []) p.2) v33))
  else ((catS s20 letter29).bind fun used34 : Str =>
  .ok used34)))
  else .ok s20)))).bind fun s37 =>
  (y_normal_form row1)))))
theorem k_normal_path (p_board : (Int × Int)) (p_corners : (List (Int × Int))) : RF false (F_normal_path [pr p_board, (eV pr) p_corners]) (y_normal_path p_board p_corners) (eV pr) :=
  fn_ref (n := 7) (bd := b_normal_path) (Γ := [.w (pr p_board), .w ((eV pr) p_corners), .any, .any, .any, .any, .any]) (br_setL (e := pr) (Γ' := fun row1 => [.w (pr p_board), .w ((eV pr) p_corners), .o ((eL pr) row1), .any, .any, .any, .any]) (er_Np (a := (p_corners, ())) (op := fun p : (List (Int × Int)) × Unit => p.1) (o_listV (e := pr)) (ea_consp (er_var (ea := (eV pr)) (a := p_corners) 1 rfl) ea_nil)) (fun _ => rfl) (fun row1 => br_ifp (tr_v (er_2p (a := (List.length row1 : Int)) (b := (0 : Int)) (op := fun (x : Int) (y : Int) => (decide (x = y))) (o_eq (e := eI) (by decide)) (er_Np (a := (row1, ())) (op := fun p : (List (Int × Int)) × Unit => (List.length p.1 : Int)) (o_lenL (e := pr)) (ea_consp (er_varO (ea := (eL pr)) (a := row1) 2 rfl) ea_nil)) (er_c (ea := eI) (a := 0) rfl))) (br_cutX ((br_raise (e := (fun p : Int × Unit => eI p.1 :: (fun _ => []) p.2)) (ea_consp (er_c (ea := eI) (a := 0) rfl) ea_nil)))) (br_nx (br_setC (e := eS) (Γ' := fun used3 => [.w (pr p_board), .w ((eV pr) p_corners), .o ((eL pr) row1), .w (eS used3), .any, .any, .any]) (er_c (ea := eS) (a := "") rfl) (fun _ => rfl) (fun used3 => br_forR' (σ := Str) (e := (eP eI pr)) (s0 := used3) (Γw := [.w (pr p_board), .w ((eV pr) p_corners), .w ((eL pr) row1), .w (eS used3), .any, .any, .any]) (Γl := fun s20 : Str => [.w (pr p_board), .w ((eV pr) p_corners), .w ((eL pr) row1), .w (eS s20), .any, .any, .any]) (Γb := fun (s20 : Str) (a21 : (Int × (Int × Int))) => [.w (pr p_board), .w ((eV pr) p_corners), .w ((eL pr) row1), .w (eS s20), .w (eI a21.1), .w (pr a21.2), .any]) (ir_en (er_varO (ea := (eL pr)) (a := row1) 2 rfl)) rfl (.same (.same (.same (.same (.any (.any (.any (.nil)))))))) (fun s20 => (tg2 (e := (eP eI pr)) (c1 := fun p => p.1) (c2 := fun p => p.2) (eb := eI) (ec := pr) (Γ1 := fun q22 => [.w (pr p_board), .w ((eV pr) p_corners), .w ((eL pr) row1), .w (eS s20), .w (eI q22), .any, .any]) (Γ2 := fun q22 q23 => [.w (pr p_board), .w ((eV pr) p_corners), .w ((eL pr) row1), .w (eS s20), .w (eI q22), .w (pr q23), .any]) (fun _ => rfl) ((tgn (i := 4) (e := eI) rfl (fun _ => rfl))) (fun q22 => (tgn (i := 5) (e := pr) rfl (fun _ => rfl))) (fun _ => rfl))) (fun s20 a21 => br_if (tr_notM (tr_vM (er_callp (a := (p_board, (a21.2, ()))) (y := (fun p : (Int × Int) × (Int × Int) × Unit => y_on_board p.1 p.2.1)) r_on_board (ea_consp (er_var (ea := pr) (a := p_board) 0 rfl) (ea_consp (er_var (ea := pr) (a := a21.2) 5 rfl) ea_nil))))) (br_cutX ((br_raise (e := (fun p : (Int × Int) × Unit => pr p.1 :: (fun _ => []) p.2)) (ea_consp (er_var (ea := pr) (a := a21.2) 5 rfl) ea_nil)))) (br_nx (br_last (br_ifp (tr_v (er_2p (a := a21.1) (b := (0 : Int)) (op := fun (x : Int) (y : Int) => (decide (x > y))) o_gt (er_var (ea := eI) (a := a21.1) 4 rfl) (er_c (ea := eI) (a := 0) rfl))) (br_assoc (br_setC (e := eS) (Γ' := fun letter29 => [.w (pr p_board), .w ((eV pr) p_corners), .w ((eL pr) row1), .w (eS s20), .w (eI a21.1), .w (pr a21.2), .w (eS letter29)]) (er_call (y := (fun p : (Int × Int) × (Int × Int) × Unit => y_direction p.1 p.2.1)) r_direction (ea_consl (er_2m (a := row1) (b := (a21.1 - (1 : Int))) (op := fun (x : (List (Int × Int))) (y : Int) => (ofO (atI x y))) (o_ixL (e := pr)) (er_var (ea := (eL pr)) (a := row1) 2 rfl) (er_2p (a := a21.1) (b := (1 : Int)) (op := fun (x : Int) (y : Int) => (x - y)) o_sub (er_var (ea := eI) (a := a21.1) 4 rfl) (er_c (ea := eI) (a := 1) rfl))) (ea_consp (er_var (ea := pr) (a := a21.2) 5 rfl) ea_nil))) (fun _ => rfl) (fun letter29 => br_assoc (br_if (tr_orM (tr_vM (er_2m (a := letter29) (b := ("" : Str)) (op := fun (x : Str) (y : Str) => (eqR eS eS x y)) (o_eqR (ea := eS) (eb := eS)) (er_var (ea := eS) (a := letter29) 6 rfl) (er_c (ea := eS) (a := "") rfl))) (tr_vM (er_2l (o_inW (neg := false)) (er_1m (a := letter29) (op := fun x : Str => (ofO (List.lookup x tt_OPPOSITES))) (o_kix (tt := tt_OPPOSITES) rfl) (er_var (ea := eS) (a := letter29) 6 rfl)) (er_var (ea := eS) (a := s20) 3 rfl)))) (br_cutX ((br_raise (e := (fun p : Int × Unit => eI p.1 :: (fun _ => []) p.2)) (ea_consp (er_var (ea := eI) (a := a21.1) 4 rfl) ea_nil)))) (br_nx (br_setC (e := eS) (Γ' := fun used34 => [.w (pr p_board), .w ((eV pr) p_corners), .w ((eL pr) row1), .w (eS used34), .w (eI a21.1), .w (pr a21.2), .w (eS letter29)]) (er_2m (a := s20) (b := letter29) (op := fun (x : Str) (y : Str) => (catS x y)) o_catS (er_var (ea := eS) (a := s20) 3 rfl) (er_var (ea := eS) (a := letter29) 6 rfl)) (fun _ => rfl) (fun used34 => (br_n (s := used34) (.same (.same (.same (.same (.any (.any (.any (.nil)))))))))))))))) (br_nx ((br_n (s := s20) (.same (.same (.same (.same (.any (.any (.any (.nil))))))))))))))) (fun s37 => (br_ret (e := (eV pr)) (er_callp (a := (row1, ())) (y := (fun p : (List (Int × Int)) × Unit => y_normal_form p.1)) r_normal_form (ea_consp (er_var (ea := (eL pr)) (a := row1) 2 rfl) ea_nil))))))))) (fits_w (Fz.fz _) (fits_w (Fz.fz _) (fits_a (fits_a (fits_a (fits_a (fits_a (trivial))))))))
theorem r_normal_path : RefF false F_normal_path (fun p : (Int × Int) × (List (Int × Int)) × Unit => pr p.1 :: (fun p : (List (Int × Int)) × Unit => (eV pr) p.1 :: (fun _ => []) p.2) p.2) (fun p : (Int × Int) × (List (Int × Int)) × Unit => y_normal_path p.1 p.2.1) (eV pr) := fun p => k_normal_path p.1 p.2.1
def y__law_is_integer (p_told : D) : R Bool :=
  ((isiD "int" p_told).bind fun b2 => (if b2 then ((isiD "bool" p_told).bind fun b1 => .ok (!b1)) else .ok false))
theorem k__law_is_integer (p_told : D) : RF false (F__law_is_integer [eX p_told]) (y__law_is_integer p_told) eB :=
  fn_ref (n := 1) (bd := b__law_is_integer) (Γ := [.w (eX p_told)]) ((br_ret (e := eB) (er_andM (er_1m (a := p_told) (op := fun x : D => (isiD "int" x)) (o_isiD (c := "int")) (er_var (ea := eX) (a := p_told) 0 rfl)) (er_notM (er_1m (a := p_told) (op := fun x : D => (isiD "bool" x)) (o_isiD (c := "bool")) (er_var (ea := eX) (a := p_told) 0 rfl)))))) (fits_w (Fz.fz _) (trivial))
theorem r__law_is_integer : RefF false F__law_is_integer (fun p : D × Unit => eX p.1 :: (fun _ => []) p.2) (fun p : D × Unit => y__law_is_integer p.1) eB := fun p => k__law_is_integer p.1
def y__law_is_corner (p_told : D) : R Bool :=
  ((isiD "tuple" p_told).bind fun b11 => (if b11 then (((lenD p_told).bind fun v8 => .ok (decide (v8 = (2 : Int)))).bind fun b10 => (if b10 then ((((ixE p_told (0 : Int)).bind fun v4 => .ok (v4, ())).bind fun v6 => y__law_is_integer v6.1).bind fun b7 => (if b7 then (((ixE p_told (1 : Int)).bind fun v1 => .ok (v1, ())).bind fun v3 => y__law_is_integer v3.1) else .ok false)) else .ok false)) else .ok false))
theorem k__law_is_corner (p_told : D) : RF false (F__law_is_corner [eX p_told]) (y__law_is_corner p_told) eB :=
  fn_ref (n := 1) (bd := b__law_is_corner) (Γ := [.w (eX p_told)]) ((br_ret (e := eB) (er_andM (er_1m (a := p_told) (op := fun x : D => (isiD "tuple" x)) (o_isiD (c := "tuple")) (er_var (ea := eX) (a := p_told) 0 rfl)) (er_andM (er_2l (o_eq (e := eI) (by decide)) (er_Nm (a := (p_told, ())) (op := fun p : D × Unit => (lenD p.1)) o_lenD (ea_consp (er_var (ea := eX) (a := p_told) 0 rfl) ea_nil)) (er_c (ea := eI) (a := 2) rfl)) (er_andM (er_call (y := (fun p : D × Unit => y__law_is_integer p.1)) r__law_is_integer (ea_consl (er_2m (a := p_told) (b := (0 : Int)) (op := fun (x : D) (y : Int) => (ixE x y)) o_ixD2 (er_var (ea := eX) (a := p_told) 0 rfl) (er_c (ea := eI) (a := 0) rfl)) ea_nil)) (er_call (y := (fun p : D × Unit => y__law_is_integer p.1)) r__law_is_integer (ea_consl (er_2m (a := p_told) (b := (1 : Int)) (op := fun (x : D) (y : Int) => (ixE x y)) o_ixD2 (er_var (ea := eX) (a := p_told) 0 rfl) (er_c (ea := eI) (a := 1) rfl)) ea_nil))))))) (fits_w (Fz.fz _) (trivial))
theorem r__law_is_corner : RefF false F__law_is_corner (fun p : D × Unit => eX p.1 :: (fun _ => []) p.2) (fun p : D × Unit => y__law_is_corner p.1) eB := fun p => k__law_is_corner p.1
def y__law_told (p_board : (Int × Int)) (p_passed : (List (Int × Int))) : R (Str × D) :=
  ((R.ok ()).bind fun told1 : Unit =>
  ((tryR errsL (((y_normal_path p_board p_passed).bind fun told35 : (List (Int × Int)) =>
  .ok (.nx told35))) (clR errsL "OffBoard" (fun C36 F37 => gdR (pT (fun s68 : (List (Int × Int)) => [.w (pr p_board), .w ((eV pr) p_passed), .w ((eV pr) s68), .any]) (eP eS eX)) ((((isXR errsL C36 "PlaneError").bind fun b40 => (if b40 then ((isXR errsL C36 "ValueError").bind fun b39 => (if b39 then ((isXR errsL C36 "NotAPath").bind fun b38 => .ok (!b38)) else .ok false)) else .ok false)).bind fun b51 => if b51 then
  ((((xfR errsL C36 (frzF F37) "corner").bind fun v41 => .ok (v41, ())).bind fun v43 => hotR ((fun p : D × Unit => eX p.1 :: (fun _ => []) p.2) v43) (y__law_is_corner v43.1)).bind fun b50 => if b50 then
  (((((xfR errsL C36 (frzF F37) "corner").bind fun v44 => .ok (v44, ())).bind fun v47 => .ok (("off" : Str), v47)).bind fun v48 => .ok (v48.1, v48.2.1)).bind fun r49 => .ok (.rt r49))
  else .ok (.rt ((fun z => (z.1, (eU z.2))) (("odd" : Str), ()))))
  else .ok (.rt ((fun z => (z.1, (eU z.2))) (("odd" : Str), ())))))) (clR errsL "NotAPath" (fun C52 F53 => gdR (pT (fun s68 : (List (Int × Int)) => [.w (pr p_board), .w ((eV pr) p_passed), .w ((eV pr) s68), .any]) (eP eS eX)) ((((isXR errsL C52 "PlaneError").bind fun b56 => (if b56 then ((isXR errsL C52 "ValueError").bind fun b55 => (if b55 then ((isXR errsL C52 "OffBoard").bind fun b54 => .ok (!b54)) else .ok false)) else .ok false)).bind fun b67 => if b67 then
  ((((xfR errsL C52 (frzF F53) "index").bind fun v57 => .ok (v57, ())).bind fun v59 => hotR ((fun p : D × Unit => eX p.1 :: (fun _ => []) p.2) v59) (y__law_is_integer v59.1)).bind fun b66 => if b66 then
  (((((xfR errsL C52 (frzF F53) "index").bind fun v60 => .ok (v60, ())).bind fun v63 => .ok (("fault" : Str), v63)).bind fun v64 => .ok (v64.1, v64.2.1)).bind fun r65 => .ok (.rt r65))
  else .ok (.rt ((fun z => (z.1, (eU z.2))) (("odd" : Str), ()))))
  else .ok (.rt ((fun z => (z.1, (eU z.2))) (("odd" : Str), ())))))) (fun C fs => .exc C fs))) : R (Ct ((List (Int × Int))) ((Str × D)))).bind (onT (fun s68 =>
  .ok ((fun z => (z.1, ((eV pr) z.2))) (("path" : Str), s68))) (fun b => .ok b))))
theorem k__law_told (p_board : (Int × Int)) (p_passed : (List (Int × Int))) : RF false (F__law_told [pr p_board, (eV pr) p_passed]) (y__law_told p_board p_passed) (eP eS eX) :=
  fn_ref (n := 4) (bd := b__law_told) (Γ := [.w (pr p_board), .w ((eV pr) p_passed), .any, .any]) (br_setC (e := eU) (Γ' := fun told1 => [.w (pr p_board), .w ((eV pr) p_passed), .w (eU told1), .any]) (er_c (ea := eU) (a := ()) rfl) (fun _ => rfl) (fun told1 => br_seqT (Γl := (fun s68 : (List (Int × Int)) => [.w (pr p_board), .w ((eV pr) p_passed), .w ((eV pr) s68), .any])) (o := false) (e := (eP eS eX)) (br_try (br_last (br_setC (e := (eV pr)) (Γ' := fun told35 => [.w (pr p_board), .w ((eV pr) p_passed), .w ((eV pr) told35), .any]) (er_callp (a := (p_board, (p_passed, ()))) (y := (fun p : (Int × Int) × (List (Int × Int)) × Unit => y_normal_path p.1 p.2.1)) r_normal_path (ea_consp (er_var (ea := pr) (a := p_board) 0 rfl) (ea_consp (er_var (ea := (eV pr)) (a := p_passed) 1 rfl) ea_nil))) (fun _ => rfl) (fun told35 => (br_tn (s := told35) (.same (.same (.same (.any (.nil))))))))) ex0_set noexc_ZT (hr_as (i := 3) (Nat.le_of_ble_eq_true rfl) (outok_ZT 3 (fun _ => rfl)) (fun C36 F37 => br_last (br_assoc (br_if (tr_andM (tr_vM (er_isX 3 "PlaneError" rfl)) (tr_andM (tr_vM (er_isX 3 "ValueError" rfl)) (tr_notM (tr_vM (er_isX 3 "NotAPath" rfl))))) (br_if (tr_vM (er_callH (es := (fun p : D × Unit => eX p.1 :: (fun _ => []) p.2)) (y := (fun p : D × Unit => y__law_is_corner p.1)) r__law_is_corner (ea_consl (er_xf 3 "corner" rfl) ea_nil))) (br_cutR ((br_tr (e := (eP eS eX)) (er_N (o_tup (eb := (eP eS eX)) (es := (fun p : Str × D × Unit => eS p.1 :: (fun p : D × Unit => eX p.1 :: (fun _ => []) p.2) p.2)) (c := fun p => (p.1, p.2.1)) 2 (fun _ => rfl) (by decide) (fun _ => rfl)) (ea_consr (er_c (ea := eS) (a := "off") rfl) (ea_consl (er_xf 3 "corner" rfl) ea_nil)))))) (br_nx (br_cutR ((br_trp (e := (eP eS eX)) (ER.coe (c := (fun z => (z.1, (eU z.2)))) (eb := (eP eS eX)) (er_Np (a := (("odd" : Str), ((), ()))) (op := fun p : Str × Unit × Unit => (p.1, p.2.1)) (o_tup (eb := (eP eS eU)) (es := (fun p : Str × Unit × Unit => eS p.1 :: (fun p : Unit × Unit => eU p.1 :: (fun _ => []) p.2) p.2)) (c := fun p => (p.1, p.2.1)) 2 (fun _ => rfl) (by decide) (fun _ => rfl)) (ea_consp (er_c (ea := eS) (a := "odd") rfl) (ea_consp (er_c (ea := eU) (a := ()) rfl) ea_nil))) (fun _ => by first | rfl | exact congrArg _ (Fz.fz _) | (simp only [eP, eP3, eX]; first | rfl | (simp [Fz.fz]))))))))) (br_nx (br_cutR ((br_trp (e := (eP eS eX)) (ER.coe (c := (fun z => (z.1, (eU z.2)))) (eb := (eP eS eX)) (er_Np (a := (("odd" : Str), ((), ()))) (op := fun p : Str × Unit × Unit => (p.1, p.2.1)) (o_tup (eb := (eP eS eU)) (es := (fun p : Str × Unit × Unit => eS p.1 :: (fun p : Unit × Unit => eU p.1 :: (fun _ => []) p.2) p.2)) (c := fun p => (p.1, p.2.1)) 2 (fun _ => rfl) (by decide) (fun _ => rfl)) (ea_consp (er_c (ea := eS) (a := "odd") rfl) (ea_consp (er_c (ea := eU) (a := ()) rfl) ea_nil))) (fun _ => by first | rfl | exact congrArg _ (Fz.fz _) | (simp only [eP, eP3, eX]; first | rfl | (simp [Fz.fz]))))))))))) (hr_as (i := 3) (Nat.le_of_ble_eq_true rfl) (outok_ZT 3 (fun _ => rfl)) (fun C52 F53 => br_last (br_assoc (br_if (tr_andM (tr_vM (er_isX 3 "PlaneError" rfl)) (tr_andM (tr_vM (er_isX 3 "ValueError" rfl)) (tr_notM (tr_vM (er_isX 3 "OffBoard" rfl))))) (br_if (tr_vM (er_callH (es := (fun p : D × Unit => eX p.1 :: (fun _ => []) p.2)) (y := (fun p : D × Unit => y__law_is_integer p.1)) r__law_is_integer (ea_consl (er_xf 3 "index" rfl) ea_nil))) (br_cutR ((br_tr (e := (eP eS eX)) (er_N (o_tup (eb := (eP eS eX)) (es := (fun p : Str × D × Unit => eS p.1 :: (fun p : D × Unit => eX p.1 :: (fun _ => []) p.2) p.2)) (c := fun p => (p.1, p.2.1)) 2 (fun _ => rfl) (by decide) (fun _ => rfl)) (ea_consr (er_c (ea := eS) (a := "fault") rfl) (ea_consl (er_xf 3 "index" rfl) ea_nil)))))) (br_nx (br_cutR ((br_trp (e := (eP eS eX)) (ER.coe (c := (fun z => (z.1, (eU z.2)))) (eb := (eP eS eX)) (er_Np (a := (("odd" : Str), ((), ()))) (op := fun p : Str × Unit × Unit => (p.1, p.2.1)) (o_tup (eb := (eP eS eU)) (es := (fun p : Str × Unit × Unit => eS p.1 :: (fun p : Unit × Unit => eU p.1 :: (fun _ => []) p.2) p.2)) (c := fun p => (p.1, p.2.1)) 2 (fun _ => rfl) (by decide) (fun _ => rfl)) (ea_consp (er_c (ea := eS) (a := "odd") rfl) (ea_consp (er_c (ea := eU) (a := ()) rfl) ea_nil))) (fun _ => by first | rfl | exact congrArg _ (Fz.fz _) | (simp only [eP, eP3, eX]; first | rfl | (simp [Fz.fz]))))))))) (br_nx (br_cutR ((br_trp (e := (eP eS eX)) (ER.coe (c := (fun z => (z.1, (eU z.2)))) (eb := (eP eS eX)) (er_Np (a := (("odd" : Str), ((), ()))) (op := fun p : Str × Unit × Unit => (p.1, p.2.1)) (o_tup (eb := (eP eS eU)) (es := (fun p : Str × Unit × Unit => eS p.1 :: (fun p : Unit × Unit => eU p.1 :: (fun _ => []) p.2) p.2)) (c := fun p => (p.1, p.2.1)) 2 (fun _ => rfl) (by decide) (fun _ => rfl)) (ea_consp (er_c (ea := eS) (a := "odd") rfl) (ea_consp (er_c (ea := eU) (a := ()) rfl) ea_nil))) (fun _ => by first | rfl | exact congrArg _ (Fz.fz _) | (simp only [eP, eP3, eX]; first | rfl | (simp [Fz.fz]))))))))))) hr_nil))) (fun s68 => (br_ret (e := (eP eS eX)) (ER.coe (c := (fun z => (z.1, ((eV pr) z.2)))) (eb := (eP eS eX)) (er_Np (a := (("path" : Str), (s68, ()))) (op := fun p : Str × (List (Int × Int)) × Unit => (p.1, p.2.1)) (o_tup (eb := (eP eS (eV pr))) (es := (fun p : Str × (List (Int × Int)) × Unit => eS p.1 :: (fun p : (List (Int × Int)) × Unit => (eV pr) p.1 :: (fun _ => []) p.2) p.2)) (c := fun p => (p.1, p.2.1)) 2 (fun _ => rfl) (by decide) (fun _ => rfl)) (ea_consp (er_c (ea := eS) (a := "path") rfl) (ea_consp (er_var (ea := (eV pr)) (a := s68) 2 rfl) ea_nil))) (fun _ => by first | rfl | exact congrArg _ (Fz.fz _) | (simp only [eP, eP3, eX]; first | rfl | (simp [Fz.fz])))))) hr_fun)) (fits_w (Fz.fz _) (fits_w (Fz.fz _) (fits_a (fits_a (trivial)))))
theorem r__law_told : RefF false F__law_told (fun p : (Int × Int) × (List (Int × Int)) × Unit => pr p.1 :: (fun p : (List (Int × Int)) × Unit => (eV pr) p.1 :: (fun _ => []) p.2) p.2) (fun p : (Int × Int) × (List (Int × Int)) × Unit => y__law_told p.1 p.2.1) (eP eS eX) := fun p => k__law_told p.1 p.2.1
def y__law_is_path (p_told : D) (p_wanted : D) : R Bool :=
  ((((isiD "tuple" p_told).bind fun b3 => .ok (!b3)).bind fun b4 => (if b4 then .ok true else ((lenD p_told).bind fun v1 => ((lenD p_wanted).bind fun v2 => .ok (!decide (v1 = v2)))))).bind fun b28 => if b28 then
  .ok false
  else ((((lenD p_wanted).bind fun v5 => .ok (v5, ())).bind fun v7 => rngR v7.1).bind fun xs27 => (foldC xs27 (() : Unit) (fun (s16 : Unit) (a17 : Int) => ((((((ixE p_told a17).bind fun v20 => .ok (v20, ())).bind fun v22 => y__law_is_corner v22.1).bind fun b23 => .ok (!b23)).bind fun b24 => (if b24 then .ok true else ((ixE p_told a17).bind fun v18 => ((ixE p_wanted a17).bind fun v19 => (neR eX eX v18 v19))))).bind fun b25 => if b25 then
  .ok (.rt false)
  else .ok (.nx ()))) : R (Sum (Unit) (Bool))).bind (onC (fun s26 =>
  .ok true) (fun z => .ok z))))
theorem k__law_is_path (p_told : D) (p_wanted : D) : RF false (F__law_is_path [eX p_told, eX p_wanted]) (y__law_is_path p_told p_wanted) eB :=
  fn_ref (n := 3) (bd := b__law_is_path) (Γ := [.w (eX p_told), .w (eX p_wanted), .any]) (br_if (tr_orM (tr_notM (tr_vM (er_1m (a := p_told) (op := fun x : D => (isiD "tuple" x)) (o_isiD (c := "tuple")) (er_var (ea := eX) (a := p_told) 0 rfl)))) (tr_vM (er_2 (o_ne (e := eI) (by decide)) (er_Nm (a := (p_told, ())) (op := fun p : D × Unit => (lenD p.1)) o_lenD (ea_consp (er_var (ea := eX) (a := p_told) 0 rfl) ea_nil)) (er_Nm (a := (p_wanted, ())) (op := fun p : D × Unit => (lenD p.1)) o_lenD (ea_consp (er_var (ea := eX) (a := p_wanted) 1 rfl) ea_nil))))) (br_cutR ((br_ret (e := eB) (er_c (ea := eB) (a := false) rfl)))) (br_nx (br_forC' (tr := fun z => z) (σ := Unit) (e := eI) (s0 := ()) (Γw := [.w (eX p_told), .w (eX p_wanted), .any]) (Γl := fun s16 : Unit => [.w (eX p_told), .w (eX p_wanted), .any]) (Γb := fun (s16 : Unit) (a17 : Int) => [.w (eX p_told), .w (eX p_wanted), .w (eI a17)]) (ir_r1 (ea_consl (er_Nm (a := (p_wanted, ())) (op := fun p : D × Unit => (lenD p.1)) o_lenD (ea_consp (er_var (ea := eX) (a := p_wanted) 1 rfl) ea_nil)) ea_nil)) rfl (.same (.same (.any (.nil)))) (fun s16 => (tgn (i := 2) (e := eI) rfl (fun _ => rfl))) (fun s16 a17 => br_last (br_if (tr_orM (tr_notM (tr_vM (er_call (y := (fun p : D × Unit => y__law_is_corner p.1)) r__law_is_corner (ea_consl (er_2m (a := p_told) (b := a17) (op := fun (x : D) (y : Int) => (ixE x y)) o_ixD2 (er_var (ea := eX) (a := p_told) 0 rfl) (er_var (ea := eI) (a := a17) 2 rfl)) ea_nil)))) (tr_vM (er_2 (o_neR (ea := eX) (eb := eX)) (er_2m (a := p_told) (b := a17) (op := fun (x : D) (y : Int) => (ixE x y)) o_ixD2 (er_var (ea := eX) (a := p_told) 0 rfl) (er_var (ea := eI) (a := a17) 2 rfl)) (er_2m (a := p_wanted) (b := a17) (op := fun (x : D) (y : Int) => (ixE x y)) o_ixD2 (er_var (ea := eX) (a := p_wanted) 1 rfl) (er_var (ea := eI) (a := a17) 2 rfl))))) (br_cutR ((br_rtp (e := eB) (er_c (ea := eB) (a := false) rfl)))) (br_nx ((br_c (s := ()) (.same (.same (.any (.nil))))))))) (fun s26 => (br_ret (e := eB) (er_c (ea := eB) (a := true) rfl))) zr_f))) (fits_w (Fz.fz _) (fits_w (Fz.fz _) (fits_a (trivial))))
theorem r__law_is_path : RefF false F__law_is_path (fun p : D × D × Unit => eX p.1 :: (fun p : D × Unit => eX p.1 :: (fun _ => []) p.2) p.2) (fun p : D × D × Unit => y__law_is_path p.1 p.2.1) eB := fun p => k__law_is_path p.1 p.2.1
def y__law_same (p_told : (Str × D)) (p_due : (Str × D)) : R Bool :=
  ((neR eS eS p_told.1 p_due.1).bind fun b2 => if b2 then
  .ok false
  else ((eqR eS eS p_due.1 ("path" : Str)).bind fun b1 => if b1 then
  (y__law_is_path p_told.2 p_due.2)
  else (eqR eX eX p_told.2 p_due.2)))
theorem k__law_same (p_told : (Str × D)) (p_due : (Str × D)) : RF false (F__law_same [(eP eS eX) p_told, (eP eS eX) p_due]) (y__law_same p_told p_due) eB :=
  fn_ref (n := 2) (bd := b__law_same) (Γ := [.w ((eP eS eX) p_told), .w ((eP eS eX) p_due)]) (br_if (tr_vM (er_2m (a := p_told.1) (b := p_due.1) (op := fun (x : Str) (y : Str) => (neR eS eS x y)) (o_neR (ea := eS) (eb := eS)) (er_prj (ea := (eP eS eX)) (eb := eS) (c := fun p => p.1) (k := 0) (fun a => ⟨_, rfl, fun zs hz => by obtain ⟨x0, x1, rfl⟩ := len_2 hz; exact ⟨_, rfl, fun h => by simp only [List.map_cons, List.cons.injEq] at h; exact h.1⟩⟩) (er_var (ea := (eP eS eX)) (a := p_told) 0 rfl) (er_c (ea := eI) (a := 0) rfl)) (er_prj (ea := (eP eS eX)) (eb := eS) (c := fun p => p.1) (k := 0) (fun a => ⟨_, rfl, fun zs hz => by obtain ⟨x0, x1, rfl⟩ := len_2 hz; exact ⟨_, rfl, fun h => by simp only [List.map_cons, List.cons.injEq] at h; exact h.1⟩⟩) (er_var (ea := (eP eS eX)) (a := p_due) 1 rfl) (er_c (ea := eI) (a := 0) rfl)))) (br_cutR ((br_ret (e := eB) (er_c (ea := eB) (a := false) rfl)))) (br_nx (br_if (tr_vM (er_2m (a := p_due.1) (b := ("path" : Str)) (op := fun (x : Str) (y : Str) => (eqR eS eS x y)) (o_eqR (ea := eS) (eb := eS)) (er_prj (ea := (eP eS eX)) (eb := eS) (c := fun p => p.1) (k := 0) (fun a => ⟨_, rfl, fun zs hz => by obtain ⟨x0, x1, rfl⟩ := len_2 hz; exact ⟨_, rfl, fun h => by simp only [List.map_cons, List.cons.injEq] at h; exact h.1⟩⟩) (er_var (ea := (eP eS eX)) (a := p_due) 1 rfl) (er_c (ea := eI) (a := 0) rfl)) (er_c (ea := eS) (a := "path") rfl))) (br_cutR ((br_ret (e := eB) (er_callp (a := (p_told.2, (p_due.2, ()))) (y := (fun p : D × D × Unit => y__law_is_path p.1 p.2.1)) r__law_is_path (ea_consp (er_prj (ea := (eP eS eX)) (eb := eX) (c := fun p => p.2) (k := 1) (fun a => ⟨_, rfl, fun zs hz => by obtain ⟨x0, x1, rfl⟩ := len_2 hz; exact ⟨_, rfl, fun h => by simp only [List.map_cons, List.cons.injEq] at h; exact h.2.1⟩⟩) (er_var (ea := (eP eS eX)) (a := p_told) 0 rfl) (er_c (ea := eI) (a := 1) rfl)) (ea_consp (er_prj (ea := (eP eS eX)) (eb := eX) (c := fun p => p.2) (k := 1) (fun a => ⟨_, rfl, fun zs hz => by obtain ⟨x0, x1, rfl⟩ := len_2 hz; exact ⟨_, rfl, fun h => by simp only [List.map_cons, List.cons.injEq] at h; exact h.2.1⟩⟩) (er_var (ea := (eP eS eX)) (a := p_due) 1 rfl) (er_c (ea := eI) (a := 1) rfl)) ea_nil)))))) (br_nx ((br_ret (e := eB) (er_2m (a := p_told.2) (b := p_due.2) (op := fun (x : D) (y : D) => (eqR eX eX x y)) (o_eqR (ea := eX) (eb := eX)) (er_prj (ea := (eP eS eX)) (eb := eX) (c := fun p => p.2) (k := 1) (fun a => ⟨_, rfl, fun zs hz => by obtain ⟨x0, x1, rfl⟩ := len_2 hz; exact ⟨_, rfl, fun h => by simp only [List.map_cons, List.cons.injEq] at h; exact h.2.1⟩⟩) (er_var (ea := (eP eS eX)) (a := p_told) 0 rfl) (er_c (ea := eI) (a := 1) rfl)) (er_prj (ea := (eP eS eX)) (eb := eX) (c := fun p => p.2) (k := 1) (fun a => ⟨_, rfl, fun zs hz => by obtain ⟨x0, x1, rfl⟩ := len_2 hz; exact ⟨_, rfl, fun h => by simp only [List.map_cons, List.cons.injEq] at h; exact h.2.1⟩⟩) (er_var (ea := (eP eS eX)) (a := p_due) 1 rfl) (er_c (ea := eI) (a := 1) rfl))))))))) (fits_w (Fz.fz _) (fits_w (Fz.fz _) (trivial)))
theorem r__law_same : RefF false F__law_same (fun p : (Str × D) × (Str × D) × Unit => (eP eS eX) p.1 :: (fun p : (Str × D) × Unit => (eP eS eX) p.1 :: (fun _ => []) p.2) p.2) (fun p : (Str × D) × (Str × D) × Unit => y__law_same p.1 p.2.1) eB := fun p => k__law_same p.1 p.2.1

theorem k_normal_path_2 (p_board : (Int × Int)) (p_corners : (List (Int × Int))) : RF false (F_normal_path [pr p_board, (eL pr) p_corners]) (y_normal_path p_board p_corners) (eV pr) :=
  fn_ref (n := 7) (bd := b_normal_path) (Γ := [.w (pr p_board), .w ((eL pr) p_corners), .any, .any, .any, .any, .any]) (br_setL (e := pr) (Γ' := fun row1 => [.w (pr p_board), .w ((eL pr) p_corners), .o ((eL pr) row1), .any, .any, .any, .any]) (er_Np (a := (p_corners, ())) (op := fun p : (List (Int × Int)) × Unit => p.1) (o_listL (e := pr)) (ea_consp (er_var (ea := (eL pr)) (a := p_corners) 1 rfl) ea_nil)) (fun _ => rfl) (fun row1 => br_ifp (tr_v (er_2p (a := (List.length row1 : Int)) (b := (0 : Int)) (op := fun (x : Int) (y : Int) => (decide (x = y))) (o_eq (e := eI) (by decide)) (er_Np (a := (row1, ())) (op := fun p : (List (Int × Int)) × Unit => (List.length p.1 : Int)) (o_lenL (e := pr)) (ea_consp (er_varO (ea := (eL pr)) (a := row1) 2 rfl) ea_nil)) (er_c (ea := eI) (a := 0) rfl))) (br_cutX ((br_raise (e := (fun p : Int × Unit => eI p.1 :: (fun _ => []) p.2)) (ea_consp (er_c (ea := eI) (a := 0) rfl) ea_nil)))) (br_nx (br_setC (e := eS) (Γ' := fun used3 => [.w (pr p_board), .w ((eL pr) p_corners), .o ((eL pr) row1), .w (eS used3), .any, .any, .any]) (er_c (ea := eS) (a := "") rfl) (fun _ => rfl) (fun used3 => br_forR' (σ := Str) (e := (eP eI pr)) (s0 := used3) (Γw := [.w (pr p_board), .w ((eL pr) p_corners), .w ((eL pr) row1), .w (eS used3), .any, .any, .any]) (Γl := fun s20 : Str => [.w (pr p_board), .w ((eL pr) p_corners), .w ((eL pr) row1), .w (eS s20), .any, .any, .any]) (Γb := fun (s20 : Str) (a21 : (Int × (Int × Int))) => [.w (pr p_board), .w ((eL pr) p_corners), .w ((eL pr) row1), .w (eS s20), .w (eI a21.1), .w (pr a21.2), .any]) (ir_en (er_varO (ea := (eL pr)) (a := row1) 2 rfl)) rfl (.same (.same (.same (.same (.any (.any (.any (.nil)))))))) (fun s20 => (tg2 (e := (eP eI pr)) (c1 := fun p => p.1) (c2 := fun p => p.2) (eb := eI) (ec := pr) (Γ1 := fun q22 => [.w (pr p_board), .w ((eL pr) p_corners), .w ((eL pr) row1), .w (eS s20), .w (eI q22), .any, .any]) (Γ2 := fun q22 q23 => [.w (pr p_board), .w ((eL pr) p_corners), .w ((eL pr) row1), .w (eS s20), .w (eI q22), .w (pr q23), .any]) (fun _ => rfl) ((tgn (i := 4) (e := eI) rfl (fun _ => rfl))) (fun q22 => (tgn (i := 5) (e := pr) rfl (fun _ => rfl))) (fun _ => rfl))) (fun s20 a21 => br_if (tr_notM (tr_vM (er_callp (a := (p_board, (a21.2, ()))) (y := (fun p : (Int × Int) × (Int × Int) × Unit => y_on_board p.1 p.2.1)) r_on_board (ea_consp (er_var (ea := pr) (a := p_board) 0 rfl) (ea_consp (er_var (ea := pr) (a := a21.2) 5 rfl) ea_nil))))) (br_cutX ((br_raise (e := (fun p : (Int × Int) × Unit => pr p.1 :: (fun _ => []) p.2)) (ea_consp (er_var (ea := pr) (a := a21.2) 5 rfl) ea_nil)))) (br_nx (br_last (br_ifp (tr_v (er_2p (a := a21.1) (b := (0 : Int)) (op := fun (x : Int) (y : Int) => (decide (x > y))) o_gt (er_var (ea := eI) (a := a21.1) 4 rfl) (er_c (ea := eI) (a := 0) rfl))) (br_assoc (br_setC (e := eS) (Γ' := fun letter29 => [.w (pr p_board), .w ((eL pr) p_corners), .w ((eL pr) row1), .w (eS s20), .w (eI a21.1), .w (pr a21.2), .w (eS letter29)]) (er_call (y := (fun p : (Int × Int) × (Int × Int) × Unit => y_direction p.1 p.2.1)) r_direction (ea_consl (er_2m (a := row1) (b := (a21.1 - (1 : Int))) (op := fun (x : (List (Int × Int))) (y : Int) => (ofO (atI x y))) (o_ixL (e := pr)) (er_var (ea := (eL pr)) (a := row1) 2 rfl) (er_2p (a := a21.1) (b := (1 : Int)) (op := fun (x : Int) (y : Int) => (x - y)) o_sub (er_var (ea := eI) (a := a21.1) 4 rfl) (er_c (ea := eI) (a := 1) rfl))) (ea_consp (er_var (ea := pr) (a := a21.2) 5 rfl) ea_nil))) (fun _ => rfl) (fun letter29 => br_assoc (br_if (tr_orM (tr_vM (er_2m (a := letter29) (b := ("" : Str)) (op := fun (x : Str) (y : Str) => (eqR eS eS x y)) (o_eqR (ea := eS) (eb := eS)) (er_var (ea := eS) (a := letter29) 6 rfl) (er_c (ea := eS) (a := "") rfl))) (tr_vM (er_2l (o_inW (neg := false)) (er_1m (a := letter29) (op := fun x : Str => (ofO (List.lookup x tt_OPPOSITES))) (o_kix (tt := tt_OPPOSITES) rfl) (er_var (ea := eS) (a := letter29) 6 rfl)) (er_var (ea := eS) (a := s20) 3 rfl)))) (br_cutX ((br_raise (e := (fun p : Int × Unit => eI p.1 :: (fun _ => []) p.2)) (ea_consp (er_var (ea := eI) (a := a21.1) 4 rfl) ea_nil)))) (br_nx (br_setC (e := eS) (Γ' := fun used34 => [.w (pr p_board), .w ((eL pr) p_corners), .w ((eL pr) row1), .w (eS used34), .w (eI a21.1), .w (pr a21.2), .w (eS letter29)]) (er_2m (a := s20) (b := letter29) (op := fun (x : Str) (y : Str) => (catS x y)) o_catS (er_var (ea := eS) (a := s20) 3 rfl) (er_var (ea := eS) (a := letter29) 6 rfl)) (fun _ => rfl) (fun used34 => (br_n (s := used34) (.same (.same (.same (.same (.any (.any (.any (.nil)))))))))))))))) (br_nx ((br_n (s := s20) (.same (.same (.same (.same (.any (.any (.any (.nil))))))))))))))) (fun s37 => (br_ret (e := (eV pr)) (er_callp (a := (row1, ())) (y := (fun p : (List (Int × Int)) × Unit => y_normal_form p.1)) r_normal_form (ea_consp (er_var (ea := (eL pr)) (a := row1) 2 rfl) ea_nil))))))))) (fits_w (Fz.fz _) (fits_w (Fz.fz _) (fits_a (fits_a (fits_a (fits_a (fits_a (trivial))))))))
theorem r_normal_path_2 : RefF false F_normal_path (fun p : (Int × Int) × (List (Int × Int)) × Unit => pr p.1 :: (fun p : (List (Int × Int)) × Unit => (eL pr) p.1 :: (fun _ => []) p.2) p.2) (fun p : (Int × Int) × (List (Int × Int)) × Unit => y_normal_path p.1 p.2.1) (eV pr) := fun p => k_normal_path_2 p.1 p.2.1
def y__law_told_2 (p_board : (Int × Int)) (p_passed : (List (Int × Int))) : R (Str × D) :=
  ((R.ok ()).bind fun told1 : Unit =>
  ((tryR errsL (((y_normal_path p_board p_passed).bind fun told35 : (List (Int × Int)) =>
  .ok (.nx told35))) (clR errsL "OffBoard" (fun C36 F37 => gdR (pT (fun s68 : (List (Int × Int)) => [.w (pr p_board), .w ((eL pr) p_passed), .w ((eV pr) s68), .any]) (eP eS eX)) ((((isXR errsL C36 "PlaneError").bind fun b40 => (if b40 then ((isXR errsL C36 "ValueError").bind fun b39 => (if b39 then ((isXR errsL C36 "NotAPath").bind fun b38 => .ok (!b38)) else .ok false)) else .ok false)).bind fun b51 => if b51 then
  ((((xfR errsL C36 (frzF F37) "corner").bind fun v41 => .ok (v41, ())).bind fun v43 => hotR ((fun p : D × Unit => eX p.1 :: (fun _ => []) p.2) v43) (y__law_is_corner v43.1)).bind fun b50 => if b50 then
  (((((xfR errsL C36 (frzF F37) "corner").bind fun v44 => .ok (v44, ())).bind fun v47 => .ok (("off" : Str), v47)).bind fun v48 => .ok (v48.1, v48.2.1)).bind fun r49 => .ok (.rt r49))
  else .ok (.rt ((fun z => (z.1, (eU z.2))) (("odd" : Str), ()))))
  else .ok (.rt ((fun z => (z.1, (eU z.2))) (("odd" : Str), ())))))) (clR errsL "NotAPath" (fun C52 F53 => gdR (pT (fun s68 : (List (Int × Int)) => [.w (pr p_board), .w ((eL pr) p_passed), .w ((eV pr) s68), .any]) (eP eS eX)) ((((isXR errsL C52 "PlaneError").bind fun b56 => (if b56 then ((isXR errsL C52 "ValueError").bind fun b55 => (if b55 then ((isXR errsL C52 "OffBoard").bind fun b54 => .ok (!b54)) else .ok false)) else .ok false)).bind fun b67 => if b67 then
  ((((xfR errsL C52 (frzF F53) "index").bind fun v57 => .ok (v57, ())).bind fun v59 => hotR ((fun p : D × Unit => eX p.1 :: (fun _ => []) p.2) v59) (y__law_is_integer v59.1)).bind fun b66 => if b66 then
  (((((xfR errsL C52 (frzF F53) "index").bind fun v60 => .ok (v60, ())).bind fun v63 => .ok (("fault" : Str), v63)).bind fun v64 => .ok (v64.1, v64.2.1)).bind fun r65 => .ok (.rt r65))
  else .ok (.rt ((fun z => (z.1, (eU z.2))) (("odd" : Str), ()))))
  else .ok (.rt ((fun z => (z.1, (eU z.2))) (("odd" : Str), ())))))) (fun C fs => .exc C fs))) : R (Ct ((List (Int × Int))) ((Str × D)))).bind (onT (fun s68 =>
  .ok ((fun z => (z.1, ((eV pr) z.2))) (("path" : Str), s68))) (fun b => .ok b))))
theorem k__law_told_2 (p_board : (Int × Int)) (p_passed : (List (Int × Int))) : RF false (F__law_told [pr p_board, (eL pr) p_passed]) (y__law_told_2 p_board p_passed) (eP eS eX) :=
  fn_ref (n := 4) (bd := b__law_told) (Γ := [.w (pr p_board), .w ((eL pr) p_passed), .any, .any]) (br_setC (e := eU) (Γ' := fun told1 => [.w (pr p_board), .w ((eL pr) p_passed), .w (eU told1), .any]) (er_c (ea := eU) (a := ()) rfl) (fun _ => rfl) (fun told1 => br_seqT (Γl := (fun s68 : (List (Int × Int)) => [.w (pr p_board), .w ((eL pr) p_passed), .w ((eV pr) s68), .any])) (o := false) (e := (eP eS eX)) (br_try (br_last (br_setC (e := (eV pr)) (Γ' := fun told35 => [.w (pr p_board), .w ((eL pr) p_passed), .w ((eV pr) told35), .any]) (er_callp (a := (p_board, (p_passed, ()))) (y := (fun p : (Int × Int) × (List (Int × Int)) × Unit => y_normal_path p.1 p.2.1)) r_normal_path_2 (ea_consp (er_var (ea := pr) (a := p_board) 0 rfl) (ea_consp (er_var (ea := (eL pr)) (a := p_passed) 1 rfl) ea_nil))) (fun _ => rfl) (fun told35 => (br_tn (s := told35) (.same (.same (.same (.any (.nil))))))))) ex0_set noexc_ZT (hr_as (i := 3) (Nat.le_of_ble_eq_true rfl) (outok_ZT 3 (fun _ => rfl)) (fun C36 F37 => br_last (br_assoc (br_if (tr_andM (tr_vM (er_isX 3 "PlaneError" rfl)) (tr_andM (tr_vM (er_isX 3 "ValueError" rfl)) (tr_notM (tr_vM (er_isX 3 "NotAPath" rfl))))) (br_if (tr_vM (er_callH (es := (fun p : D × Unit => eX p.1 :: (fun _ => []) p.2)) (y := (fun p : D × Unit => y__law_is_corner p.1)) r__law_is_corner (ea_consl (er_xf 3 "corner" rfl) ea_nil))) (br_cutR ((br_tr (e := (eP eS eX)) (er_N (o_tup (eb := (eP eS eX)) (es := (fun p : Str × D × Unit => eS p.1 :: (fun p : D × Unit => eX p.1 :: (fun _ => []) p.2) p.2)) (c := fun p => (p.1, p.2.1)) 2 (fun _ => rfl) (by decide) (fun _ => rfl)) (ea_consr (er_c (ea := eS) (a := "off") rfl) (ea_consl (er_xf 3 "corner" rfl) ea_nil)))))) (br_nx (br_cutR ((br_trp (e := (eP eS eX)) (ER.coe (c := (fun z => (z.1, (eU z.2)))) (eb := (eP eS eX)) (er_Np (a := (("odd" : Str), ((), ()))) (op := fun p : Str × Unit × Unit => (p.1, p.2.1)) (o_tup (eb := (eP eS eU)) (es := (fun p : Str × Unit × Unit => eS p.1 :: (fun p : Unit × Unit => eU p.1 :: (fun _ => []) p.2) p.2)) (c := fun p => (p.1, p.2.1)) 2 (fun _ => rfl) (by decide) (fun _ => rfl)) (ea_consp (er_c (ea := eS) (a := "odd") rfl) (ea_consp (er_c (ea := eU) (a := ()) rfl) ea_nil))) (fun _ => by first | rfl | exact congrArg _ (Fz.fz _) | (simp only [eP, eP3, eX]; first | rfl | (simp [Fz.fz]))))))))) (br_nx (br_cutR ((br_trp (e := (eP eS eX)) (ER.coe (c := (fun z => (z.1, (eU z.2)))) (eb := (eP eS eX)) (er_Np (a := (("odd" : Str), ((), ()))) (op := fun p : Str × Unit × Unit => (p.1, p.2.1)) (o_tup (eb := (eP eS eU)) (es := (fun p : Str × Unit × Unit => eS p.1 :: (fun p : Unit × Unit => eU p.1 :: (fun _ => []) p.2) p.2)) (c := fun p => (p.1, p.2.1)) 2 (fun _ => rfl) (by decide) (fun _ => rfl)) (ea_consp (er_c (ea := eS) (a := "odd") rfl) (ea_consp (er_c (ea := eU) (a := ()) rfl) ea_nil))) (fun _ => by first | rfl | exact congrArg _ (Fz.fz _) | (simp only [eP, eP3, eX]; first | rfl | (simp [Fz.fz]))))))))))) (hr_as (i := 3) (Nat.le_of_ble_eq_true rfl) (outok_ZT 3 (fun _ => rfl)) (fun C52 F53 => br_last (br_assoc (br_if (tr_andM (tr_vM (er_isX 3 "PlaneError" rfl)) (tr_andM (tr_vM (er_isX 3 "ValueError" rfl)) (tr_notM (tr_vM (er_isX 3 "OffBoard" rfl))))) (br_if (tr_vM (er_callH (es := (fun p : D × Unit => eX p.1 :: (fun _ => []) p.2)) (y := (fun p : D × Unit => y__law_is_integer p.1)) r__law_is_integer (ea_consl (er_xf 3 "index" rfl) ea_nil))) (br_cutR ((br_tr (e := (eP eS eX)) (er_N (o_tup (eb := (eP eS eX)) (es := (fun p : Str × D × Unit => eS p.1 :: (fun p : D × Unit => eX p.1 :: (fun _ => []) p.2) p.2)) (c := fun p => (p.1, p.2.1)) 2 (fun _ => rfl) (by decide) (fun _ => rfl)) (ea_consr (er_c (ea := eS) (a := "fault") rfl) (ea_consl (er_xf 3 "index" rfl) ea_nil)))))) (br_nx (br_cutR ((br_trp (e := (eP eS eX)) (ER.coe (c := (fun z => (z.1, (eU z.2)))) (eb := (eP eS eX)) (er_Np (a := (("odd" : Str), ((), ()))) (op := fun p : Str × Unit × Unit => (p.1, p.2.1)) (o_tup (eb := (eP eS eU)) (es := (fun p : Str × Unit × Unit => eS p.1 :: (fun p : Unit × Unit => eU p.1 :: (fun _ => []) p.2) p.2)) (c := fun p => (p.1, p.2.1)) 2 (fun _ => rfl) (by decide) (fun _ => rfl)) (ea_consp (er_c (ea := eS) (a := "odd") rfl) (ea_consp (er_c (ea := eU) (a := ()) rfl) ea_nil))) (fun _ => by first | rfl | exact congrArg _ (Fz.fz _) | (simp only [eP, eP3, eX]; first | rfl | (simp [Fz.fz]))))))))) (br_nx (br_cutR ((br_trp (e := (eP eS eX)) (ER.coe (c := (fun z => (z.1, (eU z.2)))) (eb := (eP eS eX)) (er_Np (a := (("odd" : Str), ((), ()))) (op := fun p : Str × Unit × Unit => (p.1, p.2.1)) (o_tup (eb := (eP eS eU)) (es := (fun p : Str × Unit × Unit => eS p.1 :: (fun p : Unit × Unit => eU p.1 :: (fun _ => []) p.2) p.2)) (c := fun p => (p.1, p.2.1)) 2 (fun _ => rfl) (by decide) (fun _ => rfl)) (ea_consp (er_c (ea := eS) (a := "odd") rfl) (ea_consp (er_c (ea := eU) (a := ()) rfl) ea_nil))) (fun _ => by first | rfl | exact congrArg _ (Fz.fz _) | (simp only [eP, eP3, eX]; first | rfl | (simp [Fz.fz]))))))))))) hr_nil))) (fun s68 => (br_ret (e := (eP eS eX)) (ER.coe (c := (fun z => (z.1, ((eV pr) z.2)))) (eb := (eP eS eX)) (er_Np (a := (("path" : Str), (s68, ()))) (op := fun p : Str × (List (Int × Int)) × Unit => (p.1, p.2.1)) (o_tup (eb := (eP eS (eV pr))) (es := (fun p : Str × (List (Int × Int)) × Unit => eS p.1 :: (fun p : (List (Int × Int)) × Unit => (eV pr) p.1 :: (fun _ => []) p.2) p.2)) (c := fun p => (p.1, p.2.1)) 2 (fun _ => rfl) (by decide) (fun _ => rfl)) (ea_consp (er_c (ea := eS) (a := "path") rfl) (ea_consp (er_var (ea := (eV pr)) (a := s68) 2 rfl) ea_nil))) (fun _ => by first | rfl | exact congrArg _ (Fz.fz _) | (simp only [eP, eP3, eX]; first | rfl | (simp [Fz.fz])))))) hr_fun)) (fits_w (Fz.fz _) (fits_w (Fz.fz _) (fits_a (fits_a (trivial)))))
theorem r__law_told_2 : RefF false F__law_told (fun p : (Int × Int) × (List (Int × Int)) × Unit => pr p.1 :: (fun p : (List (Int × Int)) × Unit => (eL pr) p.1 :: (fun _ => []) p.2) p.2) (fun p : (Int × Int) × (List (Int × Int)) × Unit => y__law_told_2 p.1 p.2.1) (eP eS eX) := fun p => k__law_told_2 p.1 p.2.1
def y__law_answers (p_board : (Int × Int)) (p_row : (List (Int × Int))) (p_as_tuple : Bool) : R Bool :=
  ((y__law_due p_board p_row).bind fun due1 : (Str × D) =>
  ((if p_as_tuple then ((((y__law_told p_board p_row).bind fun v2 => .ok (v2, (due1, ()))).bind fun v4 => y__law_same v4.1 v4.2.1).bind fun b5 => .ok (!b5)) else .ok false).bind fun b14 => if b14 then
  .ok false
  else ((R.ok p_row).bind fun passed6 : (List (Int × Int)) =>
  ((y__law_told_2 p_board passed6).bind fun told7 : (Str × D) =>
  if ((eP eS eX) told7).clean then ((if (!decide (passed6 = p_row)) then
  .ok false
  else ((R.ok (((0 : Int), (0 : Int)), ())).bind fun v13 => (appR passed6 v13).bind fun passed8 : (List (Int × Int)) =>
  ((y__law_same told7 due1).bind fun b12 => (if b12 then (((y__law_told_2 p_board p_row).bind fun v9 => .ok (v9, (due1, ()))).bind fun v11 => y__law_same v11.1 v11.2.1) else .ok false))))) else .stuck))))
theorem k__law_answers (p_board : (Int × Int)) (p_row : (List (Int × Int))) (p_as_tuple : Bool) : RF false (F__law_answers [pr p_board, (eL pr) p_row, eB p_as_tuple]) (y__law_answers p_board p_row p_as_tuple) eB :=
  fn_ref (n := 6) (bd := b__law_answers) (Γ := [.w (pr p_board), .w ((eL pr) p_row), .w (eB p_as_tuple), .any, .any, .any]) (br_set (e := (eP eS eX)) (Γ' := fun due1 => [.w (pr p_board), .w ((eL pr) p_row), .w (eB p_as_tuple), .w ((eP eS eX) due1), .any, .any]) (er_callp (a := (p_board, (p_row, ()))) (y := (fun p : (Int × Int) × (List (Int × Int)) × Unit => y__law_due p.1 p.2.1)) r__law_due (ea_consp (er_var (ea := pr) (a := p_board) 0 rfl) (ea_consp (er_var (ea := (eL pr)) (a := p_row) 1 rfl) ea_nil))) (fun _ => rfl) (fun due1 => br_if (tr_andP (tr_v (er_var (ea := eB) (a := p_as_tuple) 2 rfl)) (tr_notM (tr_vM (er_call (y := (fun p : (Str × D) × (Str × D) × Unit => y__law_same p.1 p.2.1)) r__law_same (ea_consl (er_callp (a := (p_board, (p_row, ()))) (y := (fun p : (Int × Int) × (List (Int × Int)) × Unit => y__law_told p.1 p.2.1)) r__law_told (ea_consp (er_var (ea := pr) (a := p_board) 0 rfl) (ea_consp (er_Np (a := (p_row, ())) (op := fun p : (List (Int × Int)) × Unit => p.1) (o_tupL (e := pr)) (ea_consp (er_var (ea := (eL pr)) (a := p_row) 1 rfl) ea_nil)) ea_nil))) (ea_consp (er_var (ea := (eP eS eX)) (a := due1) 3 rfl) ea_nil)))))) (br_cutR ((br_ret (e := eB) (er_c (ea := eB) (a := false) rfl)))) (br_nx (br_setL (e := pr) (Γ' := fun passed6 => [.w (pr p_board), .w ((eL pr) p_row), .w (eB p_as_tuple), .w ((eP eS eX) due1), .o ((eL pr) passed6), .any]) (er_Np (a := (p_row, ())) (op := fun p : (List (Int × Int)) × Unit => p.1) (o_listL (e := pr)) (ea_consp (er_var (ea := (eL pr)) (a := p_row) 1 rfl) ea_nil)) (fun _ => rfl) (fun passed6 => br_setG (e := (eP eS eX)) (Γ' := fun told7 => [.w (pr p_board), .w ((eL pr) p_row), .w (eB p_as_tuple), .w ((eP eS eX) due1), .o ((eL pr) passed6), .w ((eP eS eX) told7)]) (er_callp (a := (p_board, (passed6, ()))) (y := (fun p : (Int × Int) × (List (Int × Int)) × Unit => y__law_told_2 p.1 p.2.1)) r__law_told_2 (ea_consp (er_var (ea := pr) (a := p_board) 0 rfl) (ea_consp (er_varO (ea := (eL pr)) (a := passed6) 4 rfl) ea_nil))) (fun _ => rfl) (fun told7 => br_ifp (tr_v (er_2p (a := passed6) (b := p_row) (op := fun (x : (List (Int × Int))) (y : (List (Int × Int))) => (!decide (x = y))) (o_ne (e := (eL pr)) (by decide)) (er_varO (ea := (eL pr)) (a := passed6) 4 rfl) (er_var (ea := (eL pr)) (a := p_row) 1 rfl))) (br_cutR ((br_ret (e := eB) (er_c (ea := eB) (a := false) rfl)))) (br_nx (br_mutC (a := passed6) (ea := (eL pr)) (ec := (eL pr)) (Γ' := fun passed8 => [.w (pr p_board), .w ((eL pr) p_row), .w (eB p_as_tuple), .w ((eP eS eX) due1), .o ((eL pr) passed8), .w ((eP eS eX) told7)]) (m_app (e := pr)) ty_list rfl (ea_consp (er_Np (a := ((0 : Int), ((0 : Int), ()))) (op := fun p : Int × Int × Unit => (p.1, p.2.1)) (o_tup (eb := pr) (es := (fun p : Int × Int × Unit => eI p.1 :: (fun p : Int × Unit => eI p.1 :: (fun _ => []) p.2) p.2)) (c := fun p => (p.1, p.2.1)) 2 (fun _ => rfl) (by decide) (fun _ => rfl)) (ea_consp (er_c (ea := eI) (a := 0) rfl) (ea_consp (er_c (ea := eI) (a := 0) rfl) ea_nil))) ea_nil) (fun _ => rfl) (fun _ => rfl) (fun passed8 => (br_ret (e := eB) (er_andM (er_callp (a := (told7, (due1, ()))) (y := (fun p : (Str × D) × (Str × D) × Unit => y__law_same p.1 p.2.1)) r__law_same (ea_consp (er_var (ea := (eP eS eX)) (a := told7) 5 rfl) (ea_consp (er_var (ea := (eP eS eX)) (a := due1) 3 rfl) ea_nil))) (er_call (y := (fun p : (Str × D) × (Str × D) × Unit => y__law_same p.1 p.2.1)) r__law_same (ea_consl (er_callp (a := (p_board, (p_row, ()))) (y := (fun p : (Int × Int) × (List (Int × Int)) × Unit => y__law_told_2 p.1 p.2.1)) r__law_told_2 (ea_consp (er_var (ea := pr) (a := p_board) 0 rfl) (ea_consp (ER.weak (er_Np (a := (p_row, ())) (op := fun p : (List (Int × Int)) × Unit => p.1) (o_listL (e := pr)) (ea_consp (er_var (ea := (eL pr)) (a := p_row) 1 rfl) ea_nil))) ea_nil))) (ea_consp (er_var (ea := (eP eS eX)) (a := due1) 3 rfl) ea_nil)))))))))))))) (fits_w (Fz.fz _) (fits_w (Fz.fz _) (fits_w (Fz.fz _) (fits_a (fits_a (fits_a (trivial)))))))
theorem r__law_answers : RefF false F__law_answers (fun p : (Int × Int) × (List (Int × Int)) × Bool × Unit => pr p.1 :: (fun p : (List (Int × Int)) × Bool × Unit => (eL pr) p.1 :: (fun p : Bool × Unit => eB p.1 :: (fun _ => []) p.2) p.2) p.2) (fun p : (Int × Int) × (List (Int × Int)) × Bool × Unit => y__law_answers p.1 p.2.1 p.2.2.1) eB := fun p => k__law_answers p.1 p.2.1 p.2.2.1
def y_law (p_script : (List Int)) : R Bool :=
  ((((y__law_cell p_script (0 : Int)).bind fun v1 => .ok (v1, ((8 : Int), ()))).bind fun v3 => y__law_board v3.1 v3.2.1).bind fun board4 : (Int × Int) =>
  (((((y__law_cell p_script (1 : Int)).bind fun v7 => (((y__law_cell p_script (2 : Int)).bind fun v5 => .ok (v5, ())).bind fun v8 => .ok (v7, v8))).bind fun v10 => .ok (board4, v10)).bind fun v11 => y__law_walked v11.1 v11.2.1 v11.2.2.1).bind fun row12 : (List (Int × Int)) =>
  ((((y__law_cell p_script (3 : Int)).bind fun v13 => .ok (v13, ([(2 : Int), (8 : Int), (8 : Int), (2 : Int)], ()))).bind fun v15 => y__law_draws v15.1 v15.2.1).bind fun d16 : (List Int) =>
  (((((ofO (atI d16 (0 : Int))).bind fun v17 => .ok (decide (v17 = (1 : Int)))).bind fun b130 => if b130 then ((((((y__law_cell p_script (4 : Int)).bind fun v27 => .ok (v27, ())).bind fun v30 => .ok (row12, v30)).bind fun v32 => .ok (board4, v32)).bind fun v33 => y__law_spoilt v33.1 v33.2.1 v33.2.2.1).bind fun row34 : (List (Int × Int)) =>
  .ok row34) else .ok row12) : R ((List (Int × Int)))).bind fun s35 =>
  ((((((ofO (atI d16 (0 : Int))).bind fun v38 => .ok (decide (v38 = (1 : Int)))).bind fun b40 => (if b40 then ((ofO (atI d16 (1 : Int))).bind fun v36 => .ok (decide (v36 = (0 : Int)))) else .ok false)).bind fun b129 => if b129 then ((((((y__law_cell p_script (5 : Int)).bind fun v49 => .ok (v49, ())).bind fun v52 => .ok (s35, v52)).bind fun v54 => .ok (board4, v54)).bind fun v55 => y__law_spoilt v55.1 v55.2.1 v55.2.2.1).bind fun row56 : (List (Int × Int)) =>
  .ok row56) else .ok s35) : R ((List (Int × Int)))).bind fun s57 =>
  (((((ofO (atI d16 (2 : Int))).bind fun v58 => .ok (decide (v58 = (0 : Int)))).bind fun b128 => if b128 then (((((y__law_cell p_script (6 : Int)).bind fun v66 => .ok (v66, ())).bind fun v69 => .ok (board4, v69)).bind fun v70 => y__law_any_row v70.1 v70.2.1).bind fun row71 : (List (Int × Int)) =>
  .ok row71) else .ok s57) : R ((List (Int × Int)))).bind fun s72 =>
  (((((((((ofO (atI d16 (3 : Int))).bind fun v83 => .ok (decide (v83 = (1 : Int)))).bind fun v85 => .ok (v85, ())).bind fun v88 => .ok (s72, v88)).bind fun v90 => .ok (board4, v90)).bind fun v91 => y__law_answers v91.1 v91.2.1 v91.2.2.1).bind fun b92 => .ok (!b92)).bind fun b93 => (if b93 then .ok true else (((((((ofO (atI d16 (3 : Int))).bind fun v73 => .ok (decide (v73 = (1 : Int)))).bind fun v75 => .ok (v75, ())).bind fun v78 => .ok ((List.reverse s72), v78)).bind fun v80 => .ok (board4, v80)).bind fun v81 => y__law_answers v81.1 v81.2.1 v81.2.2.1).bind fun b82 => .ok (!b82)))).bind fun b127 => if b127 then
  .ok false
  else ((R.ok s72).bind fun corners94 : (List (Int × Int)) =>
  ((R.ok [(-(1 : Int)), (0 : Int), board4.1, (board4.1 + (1 : Int))]).bind fun xs126 => (foldR xs126 (corners94 : (List (Int × Int))) (fun (s103 : (List (Int × Int))) (a104 : Int) => ((R.ok [(-(1 : Int)), (0 : Int), board4.2, (board4.2 + (1 : Int))]).bind fun xs112 => (foldR xs112 (s103 : (List (Int × Int))) (fun (s107 : (List (Int × Int))) (a108 : Int) => ((R.ok ((a104, a108), ())).bind fun v110 => (appR s107 v110).bind fun corners109 : (List (Int × Int)) =>
  .ok corners109))).bind fun s111 =>
  .ok s111))).bind fun s113 =>
  ((R.ok s113).bind fun xs125 => (foldC xs125 (() : Unit) (fun (s118 : Unit) (a119 : (Int × Int)) => ((y_on_board board4 a119).bind fun told120 : Bool =>
  (((y__law_on_board board4 a119).bind fun v122 => .ok (!decide (told120 = v122))).bind fun b123 => if b123 then
  .ok (.rt false)
  else .ok (.nx ())))) : R (Sum (Unit) (Bool))).bind (onC (fun s124 =>
  .ok true) (fun z => .ok z))))))))))))
theorem k_law (p_script : (List Int)) : RF false (F_law [eKl p_script]) (y_law p_script) eB :=
  fn_ref (n := 9) (bd := b_law) (Γ := [.w (eKl p_script), .any, .any, .any, .any, .any, .any, .any, .any]) (br_setC (e := pr) (Γ' := fun board4 => [.w (eKl p_script), .w (pr board4), .any, .any, .any, .any, .any, .any, .any]) (er_call (y := (fun p : Int × Int × Unit => y__law_board p.1 p.2.1)) r__law_board (ea_consl (er_callp (a := (p_script, ((0 : Int), ()))) (y := (fun p : (List Int) × Int × Unit => y__law_cell p.1 p.2.1)) r__law_cell (ea_consp (er_var (ea := eKl) (a := p_script) 0 rfl) (ea_consp (er_c (ea := eI) (a := 0) rfl) ea_nil))) (ea_consp (er_c (ea := eI) (a := 8) rfl) ea_nil))) (fun _ => rfl) (fun board4 => br_setL (e := pr) (Γ' := fun row12 => [.w (eKl p_script), .w (pr board4), .o ((eL pr) row12), .any, .any, .any, .any, .any, .any]) (er_call (y := (fun p : (Int × Int) × Int × Int × Unit => y__law_walked p.1 p.2.1 p.2.2.1)) r__law_walked (ea_consr (er_var (ea := pr) (a := board4) 1 rfl) (ea_cons (er_callp (a := (p_script, ((1 : Int), ()))) (y := (fun p : (List Int) × Int × Unit => y__law_cell p.1 p.2.1)) r__law_cell (ea_consp (er_var (ea := eKl) (a := p_script) 0 rfl) (ea_consp (er_c (ea := eI) (a := 1) rfl) ea_nil))) (ea_consl (er_callp (a := (p_script, ((2 : Int), ()))) (y := (fun p : (List Int) × Int × Unit => y__law_cell p.1 p.2.1)) r__law_cell (ea_consp (er_var (ea := eKl) (a := p_script) 0 rfl) (ea_consp (er_c (ea := eI) (a := 2) rfl) ea_nil))) ea_nil)))) (fun _ => rfl) (fun row12 => br_setL (e := eI) (Γ' := fun d16 => [.w (eKl p_script), .w (pr board4), .o ((eL pr) row12), .o ((eL eI) d16), .any, .any, .any, .any, .any]) (er_call (y := (fun p : Int × (List Int) × Unit => y__law_draws p.1 p.2.1)) r__law_draws (ea_consl (er_callp (a := (p_script, ((3 : Int), ()))) (y := (fun p : (List Int) × Int × Unit => y__law_cell p.1 p.2.1)) r__law_cell (ea_consp (er_var (ea := eKl) (a := p_script) 0 rfl) (ea_consp (er_c (ea := eI) (a := 3) rfl) ea_nil))) (ea_consp (ER.weak (er_Np (a := ((2 : Int), ((8 : Int), ((8 : Int), ((2 : Int), ()))))) (op := fun p : Int × Int × Int × Int × Unit => [p.1, p.2.1, p.2.2.1, p.2.2.2.1]) (o_lst (eb := (eL eI)) (es := (fun p : Int × Int × Int × Int × Unit => eI p.1 :: (fun p : Int × Int × Int × Unit => eI p.1 :: (fun p : Int × Int × Unit => eI p.1 :: (fun p : Int × Unit => eI p.1 :: (fun _ => []) p.2) p.2) p.2) p.2)) (c := fun p => [p.1, p.2.1, p.2.2.1, p.2.2.2.1]) 4 (fun _ => rfl) (by decide) (fun _ => rfl)) (ea_consp (er_c (ea := eI) (a := 2) rfl) (ea_consp (er_c (ea := eI) (a := 8) rfl) (ea_consp (er_c (ea := eI) (a := 8) rfl) (ea_consp (er_c (ea := eI) (a := 2) rfl) ea_nil)))))) ea_nil))) (fun _ => rfl) (fun d16 => br_join (σ := (List (Int × Int))) (Γj := fun s35 : (List (Int × Int)) => [.w (eKl p_script), .w (pr board4), .o ((eL pr) s35), .o ((eL eI) d16), .any, .any, .any, .any, .any]) (br_last (br_if (tr_vM (er_2l (o_eq (e := eI) (by decide)) (er_2m (a := d16) (b := (0 : Int)) (op := fun (x : (List Int)) (y : Int) => (ofO (atI x y))) (o_ixL (e := eI)) (er_varO (ea := (eL eI)) (a := d16) 3 rfl) (er_c (ea := eI) (a := 0) rfl)) (er_c (ea := eI) (a := 1) rfl))) (br_setL (e := pr) (Γ' := fun row34 => [.w (eKl p_script), .w (pr board4), .o ((eL pr) row34), .o ((eL eI) d16), .any, .any, .any, .any, .any]) (er_call (y := (fun p : (Int × Int) × (List (Int × Int)) × Int × Unit => y__law_spoilt p.1 p.2.1 p.2.2.1)) r__law_spoilt (ea_consr (er_var (ea := pr) (a := board4) 1 rfl) (ea_consr (er_varO (ea := (eL pr)) (a := row12) 2 rfl) (ea_consl (er_callp (a := (p_script, ((4 : Int), ()))) (y := (fun p : (List Int) × Int × Unit => y__law_cell p.1 p.2.1)) r__law_cell (ea_consp (er_var (ea := eKl) (a := p_script) 0 rfl) (ea_consp (er_c (ea := eI) (a := 4) rfl) ea_nil))) ea_nil)))) (fun _ => rfl) (fun row34 => (br_j (s := row34) (.same (.same (.same (.same (.any (.any (.any (.any (.any (.nil))))))))))))) (br_nx ((br_j (s := row12) (.same (.same (.same (.same (.any (.any (.any (.any (.any (.nil))))))))))))))) (fun s35 => br_join (σ := (List (Int × Int))) (Γj := fun s57 : (List (Int × Int)) => [.w (eKl p_script), .w (pr board4), .o ((eL pr) s57), .o ((eL eI) d16), .any, .any, .any, .any, .any]) (br_last (br_if (tr_andM (tr_vM (er_2l (o_eq (e := eI) (by decide)) (er_2m (a := d16) (b := (0 : Int)) (op := fun (x : (List Int)) (y : Int) => (ofO (atI x y))) (o_ixL (e := eI)) (er_varO (ea := (eL eI)) (a := d16) 3 rfl) (er_c (ea := eI) (a := 0) rfl)) (er_c (ea := eI) (a := 1) rfl))) (tr_vM (er_2l (o_eq (e := eI) (by decide)) (er_2m (a := d16) (b := (1 : Int)) (op := fun (x : (List Int)) (y : Int) => (ofO (atI x y))) (o_ixL (e := eI)) (er_varO (ea := (eL eI)) (a := d16) 3 rfl) (er_c (ea := eI) (a := 1) rfl)) (er_c (ea := eI) (a := 0) rfl)))) (br_setL (e := pr) (Γ' := fun row56 => [.w (eKl p_script), .w (pr board4), .o ((eL pr) row56), .o ((eL eI) d16), .any, .any, .any, .any, .any]) (er_call (y := (fun p : (Int × Int) × (List (Int × Int)) × Int × Unit => y__law_spoilt p.1 p.2.1 p.2.2.1)) r__law_spoilt (ea_consr (er_var (ea := pr) (a := board4) 1 rfl) (ea_consr (er_varO (ea := (eL pr)) (a := s35) 2 rfl) (ea_consl (er_callp (a := (p_script, ((5 : Int), ()))) (y := (fun p : (List Int) × Int × Unit => y__law_cell p.1 p.2.1)) r__law_cell (ea_consp (er_var (ea := eKl) (a := p_script) 0 rfl) (ea_consp (er_c (ea := eI) (a := 5) rfl) ea_nil))) ea_nil)))) (fun _ => rfl) (fun row56 => (br_j (s := row56) (.same (.same (.same (.same (.any (.any (.any (.any (.any (.nil))))))))))))) (br_nx ((br_j (s := s35) (.same (.same (.same (.same (.any (.any (.any (.any (.any (.nil))))))))))))))) (fun s57 => br_join (σ := (List (Int × Int))) (Γj := fun s72 : (List (Int × Int)) => [.w (eKl p_script), .w (pr board4), .o ((eL pr) s72), .o ((eL eI) d16), .any, .any, .any, .any, .any]) (br_last (br_if (tr_vM (er_2l (o_eq (e := eI) (by decide)) (er_2m (a := d16) (b := (2 : Int)) (op := fun (x : (List Int)) (y : Int) => (ofO (atI x y))) (o_ixL (e := eI)) (er_varO (ea := (eL eI)) (a := d16) 3 rfl) (er_c (ea := eI) (a := 2) rfl)) (er_c (ea := eI) (a := 0) rfl))) (br_setL (e := pr) (Γ' := fun row71 => [.w (eKl p_script), .w (pr board4), .o ((eL pr) row71), .o ((eL eI) d16), .any, .any, .any, .any, .any]) (er_call (y := (fun p : (Int × Int) × Int × Unit => y__law_any_row p.1 p.2.1)) r__law_any_row (ea_consr (er_var (ea := pr) (a := board4) 1 rfl) (ea_consl (er_callp (a := (p_script, ((6 : Int), ()))) (y := (fun p : (List Int) × Int × Unit => y__law_cell p.1 p.2.1)) r__law_cell (ea_consp (er_var (ea := eKl) (a := p_script) 0 rfl) (ea_consp (er_c (ea := eI) (a := 6) rfl) ea_nil))) ea_nil))) (fun _ => rfl) (fun row71 => (br_j (s := row71) (.same (.same (.same (.same (.any (.any (.any (.any (.any (.nil))))))))))))) (br_nx ((br_j (s := s57) (.same (.same (.same (.same (.any (.any (.any (.any (.any (.nil))))))))))))))) (fun s72 => br_if (tr_orM (tr_notM (tr_vM (er_call (y := (fun p : (Int × Int) × (List (Int × Int)) × Bool × Unit => y__law_answers p.1 p.2.1 p.2.2.1)) r__law_answers (ea_consr (er_var (ea := pr) (a := board4) 1 rfl) (ea_consr (er_varO (ea := (eL pr)) (a := s72) 2 rfl) (ea_consl (er_2l (o_eq (e := eI) (by decide)) (er_2m (a := d16) (b := (3 : Int)) (op := fun (x : (List Int)) (y : Int) => (ofO (atI x y))) (o_ixL (e := eI)) (er_varO (ea := (eL eI)) (a := d16) 3 rfl) (er_c (ea := eI) (a := 3) rfl)) (er_c (ea := eI) (a := 1) rfl)) ea_nil)))))) (tr_notM (tr_vM (er_call (y := (fun p : (Int × Int) × (List (Int × Int)) × Bool × Unit => y__law_answers p.1 p.2.1 p.2.2.1)) r__law_answers (ea_consr (er_var (ea := pr) (a := board4) 1 rfl) (ea_consr (ER.weak (er_1p (a := s72) (op := fun x : (List (Int × Int)) => (List.reverse x)) o_revL (er_varO (ea := (eL pr)) (a := s72) 2 rfl))) (ea_consl (er_2l (o_eq (e := eI) (by decide)) (er_2m (a := d16) (b := (3 : Int)) (op := fun (x : (List Int)) (y : Int) => (ofO (atI x y))) (o_ixL (e := eI)) (er_varO (ea := (eL eI)) (a := d16) 3 rfl) (er_c (ea := eI) (a := 3) rfl)) (er_c (ea := eI) (a := 1) rfl)) ea_nil))))))) (br_cutR ((br_ret (e := eB) (er_c (ea := eB) (a := false) rfl)))) (br_nx (br_setL (e := pr) (Γ' := fun corners94 => [.w (eKl p_script), .w (pr board4), .o ((eL pr) s72), .o ((eL eI) d16), .o ((eL pr) corners94), .any, .any, .any, .any]) (er_Np (a := (s72, ())) (op := fun p : (List (Int × Int)) × Unit => p.1) (o_listL (e := pr)) (ea_consp (er_varO (ea := (eL pr)) (a := s72) 2 rfl) ea_nil)) (fun _ => rfl) (fun corners94 => br_forR' (σ := (List (Int × Int))) (e := eI) (s0 := corners94) (Γw := [.w (eKl p_script), .w (pr board4), .o ((eL pr) s72), .o ((eL eI) d16), .o ((eL pr) corners94), .any, .any, .any, .any]) (Γl := fun s103 : (List (Int × Int)) => [.w (eKl p_script), .w (pr board4), .o ((eL pr) s72), .o ((eL eI) d16), .o ((eL pr) s103), .any, .any, .any, .any]) (Γb := fun (s103 : (List (Int × Int))) (a104 : Int) => [.w (eKl p_script), .w (pr board4), .o ((eL pr) s72), .o ((eL eI) d16), .o ((eL pr) s103), .w (eI a104), .any, .any, .any]) (ir_lst (ER.weak (er_Np (a := ((-(1 : Int)), ((0 : Int), (board4.1, ((board4.1 + (1 : Int)), ()))))) (op := fun p : Int × Int × Int × Int × Unit => [p.1, p.2.1, p.2.2.1, p.2.2.2.1]) (o_lst (eb := (eL eI)) (es := (fun p : Int × Int × Int × Int × Unit => eI p.1 :: (fun p : Int × Int × Int × Unit => eI p.1 :: (fun p : Int × Int × Unit => eI p.1 :: (fun p : Int × Unit => eI p.1 :: (fun _ => []) p.2) p.2) p.2) p.2)) (c := fun p => [p.1, p.2.1, p.2.2.1, p.2.2.2.1]) 4 (fun _ => rfl) (by decide) (fun _ => rfl)) (ea_consp (er_1p (a := (1 : Int)) (op := fun x : Int => (-x)) o_neg (er_c (ea := eI) (a := 1) rfl)) (ea_consp (er_c (ea := eI) (a := 0) rfl) (ea_consp (er_prj (ea := pr) (eb := eI) (c := fun p => p.1) (k := 0) (fun a => ⟨_, rfl, fun zs hz => by obtain ⟨x0, x1, rfl⟩ := len_2 hz; exact ⟨_, rfl, fun h => by simp only [List.map_cons, List.cons.injEq] at h; exact h.1⟩⟩) (er_var (ea := pr) (a := board4) 1 rfl) (er_c (ea := eI) (a := 0) rfl)) (ea_consp (er_2p (a := board4.1) (b := (1 : Int)) (op := fun (x : Int) (y : Int) => (x + y)) o_add (er_prj (ea := pr) (eb := eI) (c := fun p => p.1) (k := 0) (fun a => ⟨_, rfl, fun zs hz => by obtain ⟨x0, x1, rfl⟩ := len_2 hz; exact ⟨_, rfl, fun h => by simp only [List.map_cons, List.cons.injEq] at h; exact h.1⟩⟩) (er_var (ea := pr) (a := board4) 1 rfl) (er_c (ea := eI) (a := 0) rfl)) (er_c (ea := eI) (a := 1) rfl)) ea_nil))))))) rfl (.same (.same (.same (.same (.same (.any (.any (.any (.any (.nil)))))))))) (fun s103 => (tgn (i := 5) (e := eI) rfl (fun _ => rfl))) (fun s103 a104 => br_last (br_forR' (σ := (List (Int × Int))) (e := eI) (s0 := s103) (Γw := [.w (eKl p_script), .w (pr board4), .o ((eL pr) s72), .o ((eL eI) d16), .o ((eL pr) s103), .w (eI a104), .any, .any, .any]) (Γl := fun s107 : (List (Int × Int)) => [.w (eKl p_script), .w (pr board4), .o ((eL pr) s72), .o ((eL eI) d16), .o ((eL pr) s107), .w (eI a104), .any, .any, .any]) (Γb := fun (s107 : (List (Int × Int))) (a108 : Int) => [.w (eKl p_script), .w (pr board4), .o ((eL pr) s72), .o ((eL eI) d16), .o ((eL pr) s107), .w (eI a104), .w (eI a108), .any, .any]) (ir_lst (ER.weak (er_Np (a := ((-(1 : Int)), ((0 : Int), (board4.2, ((board4.2 + (1 : Int)), ()))))) (op := fun p : Int × Int × Int × Int × Unit => [p.1, p.2.1, p.2.2.1, p.2.2.2.1]) (o_lst (eb := (eL eI)) (es := (fun p : Int × Int × Int × Int × Unit => eI p.1 :: (fun p : Int × Int × Int × Unit => eI p.1 :: (fun p : Int × Int × Unit => eI p.1 :: (fun p : Int × Unit => eI p.1 :: (fun _ => []) p.2) p.2) p.2) p.2)) (c := fun p => [p.1, p.2.1, p.2.2.1, p.2.2.2.1]) 4 (fun _ => rfl) (by decide) (fun _ => rfl)) (ea_consp (er_1p (a := (1 : Int)) (op := fun x : Int => (-x)) o_neg (er_c (ea := eI) (a := 1) rfl)) (ea_consp (er_c (ea := eI) (a := 0) rfl) (ea_consp (er_prj (ea := pr) (eb := eI) (c := fun p => p.2) (k := 1) (fun a => ⟨_, rfl, fun zs hz => by obtain ⟨x0, x1, rfl⟩ := len_2 hz; exact ⟨_, rfl, fun h => by simp only [List.map_cons, List.cons.injEq] at h; exact h.2.1⟩⟩) (er_var (ea := pr) (a := board4) 1 rfl) (er_c (ea := eI) (a := 1) rfl)) (ea_consp (er_2p (a := board4.2) (b := (1 : Int)) (op := fun (x : Int) (y : Int) => (x + y)) o_add (er_prj (ea := pr) (eb := eI) (c := fun p => p.2) (k := 1) (fun a => ⟨_, rfl, fun zs hz => by obtain ⟨x0, x1, rfl⟩ := len_2 hz; exact ⟨_, rfl, fun h => by simp only [List.map_cons, List.cons.injEq] at h; exact h.2.1⟩⟩) (er_var (ea := pr) (a := board4) 1 rfl) (er_c (ea := eI) (a := 1) rfl)) (er_c (ea := eI) (a := 1) rfl)) ea_nil))))))) rfl (.same (.same (.same (.same (.same (.same (.any (.any (.any (.nil)))))))))) (fun s107 => (tgn (i := 6) (e := eI) rfl (fun _ => rfl))) (fun s107 a108 => br_last (br_mutC (a := s107) (ea := (eL pr)) (ec := (eL pr)) (Γ' := fun corners109 => [.w (eKl p_script), .w (pr board4), .o ((eL pr) s72), .o ((eL eI) d16), .o ((eL pr) corners109), .w (eI a104), .w (eI a108), .any, .any]) (m_app (e := pr)) ty_list rfl (ea_consp (er_Np (a := (a104, (a108, ()))) (op := fun p : Int × Int × Unit => (p.1, p.2.1)) (o_tup (eb := pr) (es := (fun p : Int × Int × Unit => eI p.1 :: (fun p : Int × Unit => eI p.1 :: (fun _ => []) p.2) p.2)) (c := fun p => (p.1, p.2.1)) 2 (fun _ => rfl) (by decide) (fun _ => rfl)) (ea_consp (er_var (ea := eI) (a := a104) 5 rfl) (ea_consp (er_var (ea := eI) (a := a108) 6 rfl) ea_nil))) ea_nil) (fun _ => rfl) (fun _ => rfl) (fun corners109 => (br_n (s := corners109) (.same (.same (.same (.same (.same (.same (.any (.any (.any (.nil)))))))))))))) (fun s111 => (br_n (s := s111) (.same (.same (.same (.same (.same (.any (.any (.any (.any (.nil)))))))))))))) (fun s113 => br_forC' (tr := fun z => z) (σ := Unit) (e := pr) (s0 := ()) (Γw := [.w (eKl p_script), .w (pr board4), .o ((eL pr) s72), .o ((eL eI) d16), .w ((eL pr) s113), .any, .any, .any, .any]) (Γl := fun s118 : Unit => [.w (eKl p_script), .w (pr board4), .o ((eL pr) s72), .o ((eL eI) d16), .w ((eL pr) s113), .any, .any, .any, .any]) (Γb := fun (s118 : Unit) (a119 : (Int × Int)) => [.w (eKl p_script), .w (pr board4), .o ((eL pr) s72), .o ((eL eI) d16), .w ((eL pr) s113), .any, .any, .w (pr a119), .any]) (ir_lst (er_varO (ea := (eL pr)) (a := s113) 4 rfl)) rfl (.same (.same (.same (.same (.same (.any (.any (.any (.any (.nil)))))))))) (fun s118 => (tgn (i := 7) (e := pr) rfl (fun _ => rfl))) (fun s118 a119 => br_setC (e := eB) (Γ' := fun told120 => [.w (eKl p_script), .w (pr board4), .o ((eL pr) s72), .o ((eL eI) d16), .w ((eL pr) s113), .any, .any, .w (pr a119), .w (eB told120)]) (er_callp (a := (board4, (a119, ()))) (y := (fun p : (Int × Int) × (Int × Int) × Unit => y_on_board p.1 p.2.1)) r_on_board (ea_consp (er_var (ea := pr) (a := board4) 1 rfl) (ea_consp (er_var (ea := pr) (a := a119) 7 rfl) ea_nil))) (fun _ => rfl) (fun told120 => br_last (br_if (tr_ft (tr_not (tr_v (er_1p (a := told120) (op := fun x : Bool => true) (o_isi (e := eB) (c := "bool") (b := true) (fun _ => rfl)) (er_var (ea := eB) (a := told120) 8 rfl)))) (tr_vM (er_2r (o_ne (e := eB) (by decide)) (er_var (ea := eB) (a := told120) 8 rfl) (er_callp (a := (board4, (a119, ()))) (y := (fun p : (Int × Int) × (Int × Int) × Unit => y__law_on_board p.1 p.2.1)) r__law_on_board (ea_consp (er_var (ea := pr) (a := board4) 1 rfl) (ea_consp (er_var (ea := pr) (a := a119) 7 rfl) ea_nil)))))) (br_cutR ((br_rtp (e := eB) (er_c (ea := eB) (a := false) rfl)))) (br_nx ((br_c (s := ()) (.same (.same (.same (.same (.same (.any (.any (.any (.any (.nil)))))))))))))))) (fun s124 => (br_ret (e := eB) (er_c (ea := eB) (a := true) rfl))) zr_f))))))))))) (fits_w (Fz.fz _) (fits_a (fits_a (fits_a (fits_a (fits_a (fits_a (fits_a (fits_a (trivial))))))))))
theorem r_law : RefF false F_law (fun p : (List Int) × Unit => eKl p.1 :: (fun _ => []) p.2) (fun p : (List Int) × Unit => y_law p.1) eB := fun p => k_law p.1
/-! ### cell, draws -/
theorem ycell_ok (ns : List Int) (k : Int) (hk : 0 ≤ k) : ∃ c, y__law_cell ns k = .ok c := by
  unfold y__law_cell
  by_cases h : k < ns.length
  · obtain ⟨a, h1, -, -⟩ := at_ex (xs := ns) ⟨hk, h⟩
    simp [h, h1]
  · simp [h]
theorem ydraws_ok (c : Int) (sizes : List Int) (hs : ∀ s ∈ sizes, 0 < s ∧ s < 2 ^ 62) (hl : sizes.length ≤ 1000000) : ∃ d, y__law_draws c sizes = .ok d ∧ DB d sizes := by
  unfold y__law_draws
  simp only [R.bnd, rngR_nat (show sizes.length ≤ 16777216 by omega)]
  have key := foldR_ok (xs := uptoI 0 sizes.length) (s := (([] : List Int), c)) (f := fun (s : List Int × Int) (a : Int) => (ofO (atI sizes a)).bind fun size => if (decide (c ≥ 1000000000000000000) && decide (s.2 > 0)) = true then (((modR s.2 size).bind fun v => .ok (v, ())).bind fun v => (appR s.1 v).bind fun d => (divR s.2 size).bind fun r => .ok (d, r)) else
      (R.ok ((c + 7919 * a + 13) % 2147483647)).bind fun m => ((((mulR m (m + 48271)).bind fun v => .ok (v, ())).bind fun v => .ok v.1).bind fun v => .ok (v % 2147483629)).bind fun m => (((((mulR m (m + 69621)).bind fun v => .ok (v + 31 * a)).bind fun v => .ok (v, ())).bind fun v => .ok v.1).bind fun v => .ok (v % 2147483647)).bind fun m => ((modR (m / 9) size).bind fun v => .ok (v, ())).bind fun v => (appR s.1 v).bind fun d => .ok (d, s.2))
    (fun k s => DB s.1 (sizes.take k)) (by simp [DB]) (by
      rintro k a ⟨acc, rest⟩ ha hb
      obtain ⟨hk, rfl⟩ := uptoI_get ha
      have hg := List.getElem?_eq_getElem hk
      obtain ⟨h0, h1⟩ := hs _ (List.getElem_mem hk)
      have ht : sizes.take (k + 1) = sizes.take k ++ [sizes[k]] := by rw [List.take_add_one, hg]; rfl
      generalize sizes[k] = s at hg h0 h1 ht
      have e1 : ofO (atI sizes (0 + (k : Int))) = .ok s := by rw [Int.zero_add]; exact at_nat hg
      have hl2 : acc.length < 16777216 := by
        have : acc.length = (sizes.take k).length := hb.len
        rw [List.length_take] at this
        omega
      have bd : ∀ v : Int, DB (acc ++ [v % s]) (sizes.take (k + 1)) := fun v => by
        rw [ht]
        exact hb.append ⟨⟨Int.emod_nonneg _ (by omega), Int.emod_lt_of_pos _ h0⟩, trivial⟩
      have mm : ∀ i j : Int, mulR (i % 2147483647) j = .ok (i % 2147483647 * j) := fun i j => mulR_ok (by omega)
      have mm2 : ∀ i j : Int, mulR (i % 2147483629) j = .ok (i % 2147483629 * j) := fun i j => mulR_ok (by omega)
      simp only [e1, R.bind_ok, modR_ok h0, divR_ok ⟨h0, h1⟩, appR_ok hl2, mm, mm2]
      split
      · exact ⟨_, rfl, bd _⟩
      · exact ⟨_, rfl, bd _⟩)
  obtain ⟨s, e, h⟩ := key
  refine ⟨s.1, ?_, by rw [uptoI_length, List.take_length] at h; exact h⟩
  show (foldR _ _ _).bind _ = _
  refine Eq.trans (congrArg (fun z => R.bind z _) e) rfl
theorem ydraws1 (c : Int) {s0 : Int} (h0 : 0 < s0 ∧ s0 < 2 ^ 62) : ∃ x0, y__law_draws c [s0] = .ok [x0] ∧ (0 ≤ x0 ∧ x0 < s0) := by
  obtain ⟨d, e, h⟩ := ydraws_ok c [s0] (by
    intro s m
    simp only [List.mem_cons, List.not_mem_nil, or_false] at m
    rcases m with rfl <;> assumption) (by simp)
  obtain ⟨x0, d, rfl, b0, h⟩ := h.cons
  cases h.nil
  exact ⟨x0, e, b0⟩
theorem ydraws2 (c : Int) {s0 s1 : Int} (h0 : 0 < s0 ∧ s0 < 2 ^ 62) (h1 : 0 < s1 ∧ s1 < 2 ^ 62) : ∃ x0 x1, y__law_draws c [s0, s1] = .ok [x0, x1] ∧ (0 ≤ x0 ∧ x0 < s0) ∧ (0 ≤ x1 ∧ x1 < s1) := by
  obtain ⟨d, e, h⟩ := ydraws_ok c [s0, s1] (by
    intro s m
    simp only [List.mem_cons, List.not_mem_nil, or_false] at m
    rcases m with rfl | rfl <;> assumption) (by simp)
  obtain ⟨x0, d, rfl, b0, h⟩ := h.cons
  obtain ⟨x1, d, rfl, b1, h⟩ := h.cons
  cases h.nil
  exact ⟨x0, x1, e, b0, b1⟩
theorem ydraws3 (c : Int) {s0 s1 s2 : Int} (h0 : 0 < s0 ∧ s0 < 2 ^ 62) (h1 : 0 < s1 ∧ s1 < 2 ^ 62) (h2 : 0 < s2 ∧ s2 < 2 ^ 62) : ∃ x0 x1 x2, y__law_draws c [s0, s1, s2] = .ok [x0, x1, x2] ∧ (0 ≤ x0 ∧ x0 < s0) ∧ (0 ≤ x1 ∧ x1 < s1) ∧ (0 ≤ x2 ∧ x2 < s2) := by
  obtain ⟨d, e, h⟩ := ydraws_ok c [s0, s1, s2] (by
    intro s m
    simp only [List.mem_cons, List.not_mem_nil, or_false] at m
    rcases m with rfl | rfl | rfl <;> assumption) (by simp)
  obtain ⟨x0, d, rfl, b0, h⟩ := h.cons
  obtain ⟨x1, d, rfl, b1, h⟩ := h.cons
  obtain ⟨x2, d, rfl, b2, h⟩ := h.cons
  cases h.nil
  exact ⟨x0, x1, x2, e, b0, b1, b2⟩
theorem ydraws4 (c : Int) {s0 s1 s2 s3 : Int} (h0 : 0 < s0 ∧ s0 < 2 ^ 62) (h1 : 0 < s1 ∧ s1 < 2 ^ 62) (h2 : 0 < s2 ∧ s2 < 2 ^ 62) (h3 : 0 < s3 ∧ s3 < 2 ^ 62) : ∃ x0 x1 x2 x3, y__law_draws c [s0, s1, s2, s3] = .ok [x0, x1, x2, x3] ∧ (0 ≤ x0 ∧ x0 < s0) ∧ (0 ≤ x1 ∧ x1 < s1) ∧ (0 ≤ x2 ∧ x2 < s2) ∧ (0 ≤ x3 ∧ x3 < s3) := by
  obtain ⟨d, e, h⟩ := ydraws_ok c [s0, s1, s2, s3] (by
    intro s m
    simp only [List.mem_cons, List.not_mem_nil, or_false] at m
    rcases m with rfl | rfl | rfl | rfl <;> assumption) (by simp)
  obtain ⟨x0, d, rfl, b0, h⟩ := h.cons
  obtain ⟨x1, d, rfl, b1, h⟩ := h.cons
  obtain ⟨x2, d, rfl, b2, h⟩ := h.cons
  obtain ⟨x3, d, rfl, b3, h⟩ := h.cons
  cases h.nil
  exact ⟨x0, x1, x2, x3, e, b0, b1, b2, b3⟩
theorem ydraws5 (c : Int) {s0 s1 s2 s3 s4 : Int} (h0 : 0 < s0 ∧ s0 < 2 ^ 62) (h1 : 0 < s1 ∧ s1 < 2 ^ 62) (h2 : 0 < s2 ∧ s2 < 2 ^ 62) (h3 : 0 < s3 ∧ s3 < 2 ^ 62) (h4 : 0 < s4 ∧ s4 < 2 ^ 62) : ∃ x0 x1 x2 x3 x4, y__law_draws c [s0, s1, s2, s3, s4] = .ok [x0, x1, x2, x3, x4] ∧ (0 ≤ x0 ∧ x0 < s0) ∧ (0 ≤ x1 ∧ x1 < s1) ∧ (0 ≤ x2 ∧ x2 < s2) ∧ (0 ≤ x3 ∧ x3 < s3) ∧ (0 ≤ x4 ∧ x4 < s4) := by
  obtain ⟨d, e, h⟩ := ydraws_ok c [s0, s1, s2, s3, s4] (by
    intro s m
    simp only [List.mem_cons, List.not_mem_nil, or_false] at m
    rcases m with rfl | rfl | rfl | rfl | rfl <;> assumption) (by simp)
  obtain ⟨x0, d, rfl, b0, h⟩ := h.cons
  obtain ⟨x1, d, rfl, b1, h⟩ := h.cons
  obtain ⟨x2, d, rfl, b2, h⟩ := h.cons
  obtain ⟨x3, d, rfl, b3, h⟩ := h.cons
  obtain ⟨x4, d, rfl, b4, h⟩ := h.cons
  cases h.nil
  exact ⟨x0, x1, x2, x3, x4, e, b0, b1, b2, b3, b4⟩
theorem ydraws6 (c : Int) {s0 s1 s2 s3 s4 s5 : Int} (h0 : 0 < s0 ∧ s0 < 2 ^ 62) (h1 : 0 < s1 ∧ s1 < 2 ^ 62) (h2 : 0 < s2 ∧ s2 < 2 ^ 62) (h3 : 0 < s3 ∧ s3 < 2 ^ 62) (h4 : 0 < s4 ∧ s4 < 2 ^ 62) (h5 : 0 < s5 ∧ s5 < 2 ^ 62) : ∃ x0 x1 x2 x3 x4 x5, y__law_draws c [s0, s1, s2, s3, s4, s5] = .ok [x0, x1, x2, x3, x4, x5] ∧ (0 ≤ x0 ∧ x0 < s0) ∧ (0 ≤ x1 ∧ x1 < s1) ∧ (0 ≤ x2 ∧ x2 < s2) ∧ (0 ≤ x3 ∧ x3 < s3) ∧ (0 ≤ x4 ∧ x4 < s4) ∧ (0 ≤ x5 ∧ x5 < s5) := by
  obtain ⟨d, e, h⟩ := ydraws_ok c [s0, s1, s2, s3, s4, s5] (by
    intro s m
    simp only [List.mem_cons, List.not_mem_nil, or_false] at m
    rcases m with rfl | rfl | rfl | rfl | rfl | rfl <;> assumption) (by simp)
  obtain ⟨x0, d, rfl, b0, h⟩ := h.cons
  obtain ⟨x1, d, rfl, b1, h⟩ := h.cons
  obtain ⟨x2, d, rfl, b2, h⟩ := h.cons
  obtain ⟨x3, d, rfl, b3, h⟩ := h.cons
  obtain ⟨x4, d, rfl, b4, h⟩ := h.cons
  obtain ⟨x5, d, rfl, b5, h⟩ := h.cons
  cases h.nil
  exact ⟨x0, x1, x2, x3, x4, x5, e, b0, b1, b2, b3, b4, b5⟩
theorem ydraws7 (c : Int) {s0 s1 s2 s3 s4 s5 s6 : Int} (h0 : 0 < s0 ∧ s0 < 2 ^ 62) (h1 : 0 < s1 ∧ s1 < 2 ^ 62) (h2 : 0 < s2 ∧ s2 < 2 ^ 62) (h3 : 0 < s3 ∧ s3 < 2 ^ 62) (h4 : 0 < s4 ∧ s4 < 2 ^ 62) (h5 : 0 < s5 ∧ s5 < 2 ^ 62) (h6 : 0 < s6 ∧ s6 < 2 ^ 62) : ∃ x0 x1 x2 x3 x4 x5 x6, y__law_draws c [s0, s1, s2, s3, s4, s5, s6] = .ok [x0, x1, x2, x3, x4, x5, x6] ∧ (0 ≤ x0 ∧ x0 < s0) ∧ (0 ≤ x1 ∧ x1 < s1) ∧ (0 ≤ x2 ∧ x2 < s2) ∧ (0 ≤ x3 ∧ x3 < s3) ∧ (0 ≤ x4 ∧ x4 < s4) ∧ (0 ≤ x5 ∧ x5 < s5) ∧ (0 ≤ x6 ∧ x6 < s6) := by
  obtain ⟨d, e, h⟩ := ydraws_ok c [s0, s1, s2, s3, s4, s5, s6] (by
    intro s m
    simp only [List.mem_cons, List.not_mem_nil, or_false] at m
    rcases m with rfl | rfl | rfl | rfl | rfl | rfl | rfl <;> assumption) (by simp)
  obtain ⟨x0, d, rfl, b0, h⟩ := h.cons
  obtain ⟨x1, d, rfl, b1, h⟩ := h.cons
  obtain ⟨x2, d, rfl, b2, h⟩ := h.cons
  obtain ⟨x3, d, rfl, b3, h⟩ := h.cons
  obtain ⟨x4, d, rfl, b4, h⟩ := h.cons
  obtain ⟨x5, d, rfl, b5, h⟩ := h.cons
  obtain ⟨x6, d, rfl, b6, h⟩ := h.cons
  cases h.nil
  exact ⟨x0, x1, x2, x3, x4, x5, x6, e, b0, b1, b2, b3, b4, b5, b6⟩
theorem ydraws8 (c : Int) {s0 s1 s2 s3 s4 s5 s6 s7 : Int} (h0 : 0 < s0 ∧ s0 < 2 ^ 62) (h1 : 0 < s1 ∧ s1 < 2 ^ 62) (h2 : 0 < s2 ∧ s2 < 2 ^ 62) (h3 : 0 < s3 ∧ s3 < 2 ^ 62) (h4 : 0 < s4 ∧ s4 < 2 ^ 62) (h5 : 0 < s5 ∧ s5 < 2 ^ 62) (h6 : 0 < s6 ∧ s6 < 2 ^ 62) (h7 : 0 < s7 ∧ s7 < 2 ^ 62) : ∃ x0 x1 x2 x3 x4 x5 x6 x7, y__law_draws c [s0, s1, s2, s3, s4, s5, s6, s7] = .ok [x0, x1, x2, x3, x4, x5, x6, x7] ∧ (0 ≤ x0 ∧ x0 < s0) ∧ (0 ≤ x1 ∧ x1 < s1) ∧ (0 ≤ x2 ∧ x2 < s2) ∧ (0 ≤ x3 ∧ x3 < s3) ∧ (0 ≤ x4 ∧ x4 < s4) ∧ (0 ≤ x5 ∧ x5 < s5) ∧ (0 ≤ x6 ∧ x6 < s6) ∧ (0 ≤ x7 ∧ x7 < s7) := by
  obtain ⟨d, e, h⟩ := ydraws_ok c [s0, s1, s2, s3, s4, s5, s6, s7] (by
    intro s m
    simp only [List.mem_cons, List.not_mem_nil, or_false] at m
    rcases m with rfl | rfl | rfl | rfl | rfl | rfl | rfl | rfl <;> assumption) (by simp)
  obtain ⟨x0, d, rfl, b0, h⟩ := h.cons
  obtain ⟨x1, d, rfl, b1, h⟩ := h.cons
  obtain ⟨x2, d, rfl, b2, h⟩ := h.cons
  obtain ⟨x3, d, rfl, b3, h⟩ := h.cons
  obtain ⟨x4, d, rfl, b4, h⟩ := h.cons
  obtain ⟨x5, d, rfl, b5, h⟩ := h.cons
  obtain ⟨x6, d, rfl, b6, h⟩ := h.cons
  obtain ⟨x7, d, rfl, b7, h⟩ := h.cons
  cases h.nil
  exact ⟨x0, x1, x2, x3, x4, x5, x6, x7, e, b0, b1, b2, b3, b4, b5, b6, b7⟩
theorem ydraws9 (c : Int) {s0 s1 s2 s3 s4 s5 s6 s7 s8 : Int} (h0 : 0 < s0 ∧ s0 < 2 ^ 62) (h1 : 0 < s1 ∧ s1 < 2 ^ 62) (h2 : 0 < s2 ∧ s2 < 2 ^ 62) (h3 : 0 < s3 ∧ s3 < 2 ^ 62) (h4 : 0 < s4 ∧ s4 < 2 ^ 62) (h5 : 0 < s5 ∧ s5 < 2 ^ 62) (h6 : 0 < s6 ∧ s6 < 2 ^ 62) (h7 : 0 < s7 ∧ s7 < 2 ^ 62) (h8 : 0 < s8 ∧ s8 < 2 ^ 62) : ∃ x0 x1 x2 x3 x4 x5 x6 x7 x8, y__law_draws c [s0, s1, s2, s3, s4, s5, s6, s7, s8] = .ok [x0, x1, x2, x3, x4, x5, x6, x7, x8] ∧ (0 ≤ x0 ∧ x0 < s0) ∧ (0 ≤ x1 ∧ x1 < s1) ∧ (0 ≤ x2 ∧ x2 < s2) ∧ (0 ≤ x3 ∧ x3 < s3) ∧ (0 ≤ x4 ∧ x4 < s4) ∧ (0 ≤ x5 ∧ x5 < s5) ∧ (0 ≤ x6 ∧ x6 < s6) ∧ (0 ≤ x7 ∧ x7 < s7) ∧ (0 ≤ x8 ∧ x8 < s8) := by
  obtain ⟨d, e, h⟩ := ydraws_ok c [s0, s1, s2, s3, s4, s5, s6, s7, s8] (by
    intro s m
    simp only [List.mem_cons, List.not_mem_nil, or_false] at m
    rcases m with rfl | rfl | rfl | rfl | rfl | rfl | rfl | rfl | rfl <;> assumption) (by simp)
  obtain ⟨x0, d, rfl, b0, h⟩ := h.cons
  obtain ⟨x1, d, rfl, b1, h⟩ := h.cons
  obtain ⟨x2, d, rfl, b2, h⟩ := h.cons
  obtain ⟨x3, d, rfl, b3, h⟩ := h.cons
  obtain ⟨x4, d, rfl, b4, h⟩ := h.cons
  obtain ⟨x5, d, rfl, b5, h⟩ := h.cons
  obtain ⟨x6, d, rfl, b6, h⟩ := h.cons
  obtain ⟨x7, d, rfl, b7, h⟩ := h.cons
  obtain ⟨x8, d, rfl, b8, h⟩ := h.cons
  cases h.nil
  exact ⟨x0, x1, x2, x3, x4, x5, x6, x7, x8, e, b0, b1, b2, b3, b4, b5, b6, b7, b8⟩
theorem ydraws10 (c : Int) {s0 s1 s2 s3 s4 s5 s6 s7 s8 s9 : Int} (h0 : 0 < s0 ∧ s0 < 2 ^ 62) (h1 : 0 < s1 ∧ s1 < 2 ^ 62) (h2 : 0 < s2 ∧ s2 < 2 ^ 62) (h3 : 0 < s3 ∧ s3 < 2 ^ 62) (h4 : 0 < s4 ∧ s4 < 2 ^ 62) (h5 : 0 < s5 ∧ s5 < 2 ^ 62) (h6 : 0 < s6 ∧ s6 < 2 ^ 62) (h7 : 0 < s7 ∧ s7 < 2 ^ 62) (h8 : 0 < s8 ∧ s8 < 2 ^ 62) (h9 : 0 < s9 ∧ s9 < 2 ^ 62) : ∃ x0 x1 x2 x3 x4 x5 x6 x7 x8 x9, y__law_draws c [s0, s1, s2, s3, s4, s5, s6, s7, s8, s9] = .ok [x0, x1, x2, x3, x4, x5, x6, x7, x8, x9] ∧ (0 ≤ x0 ∧ x0 < s0) ∧ (0 ≤ x1 ∧ x1 < s1) ∧ (0 ≤ x2 ∧ x2 < s2) ∧ (0 ≤ x3 ∧ x3 < s3) ∧ (0 ≤ x4 ∧ x4 < s4) ∧ (0 ≤ x5 ∧ x5 < s5) ∧ (0 ≤ x6 ∧ x6 < s6) ∧ (0 ≤ x7 ∧ x7 < s7) ∧ (0 ≤ x8 ∧ x8 < s8) ∧ (0 ≤ x9 ∧ x9 < s9) := by
  obtain ⟨d, e, h⟩ := ydraws_ok c [s0, s1, s2, s3, s4, s5, s6, s7, s8, s9] (by
    intro s m
    simp only [List.mem_cons, List.not_mem_nil, or_false] at m
    rcases m with rfl | rfl | rfl | rfl | rfl | rfl | rfl | rfl | rfl | rfl <;> assumption) (by simp)
  obtain ⟨x0, d, rfl, b0, h⟩ := h.cons
  obtain ⟨x1, d, rfl, b1, h⟩ := h.cons
  obtain ⟨x2, d, rfl, b2, h⟩ := h.cons
  obtain ⟨x3, d, rfl, b3, h⟩ := h.cons
  obtain ⟨x4, d, rfl, b4, h⟩ := h.cons
  obtain ⟨x5, d, rfl, b5, h⟩ := h.cons
  obtain ⟨x6, d, rfl, b6, h⟩ := h.cons
  obtain ⟨x7, d, rfl, b7, h⟩ := h.cons
  obtain ⟨x8, d, rfl, b8, h⟩ := h.cons
  obtain ⟨x9, d, rfl, b9, h⟩ := h.cons
  cases h.nil
  exact ⟨x0, x1, x2, x3, x4, x5, x6, x7, x8, x9, e, b0, b1, b2, b3, b4, b5, b6, b7, b8, b9⟩
theorem ydraws11 (c : Int) {s0 s1 s2 s3 s4 s5 s6 s7 s8 s9 s10 : Int} (h0 : 0 < s0 ∧ s0 < 2 ^ 62) (h1 : 0 < s1 ∧ s1 < 2 ^ 62) (h2 : 0 < s2 ∧ s2 < 2 ^ 62) (h3 : 0 < s3 ∧ s3 < 2 ^ 62) (h4 : 0 < s4 ∧ s4 < 2 ^ 62) (h5 : 0 < s5 ∧ s5 < 2 ^ 62) (h6 : 0 < s6 ∧ s6 < 2 ^ 62) (h7 : 0 < s7 ∧ s7 < 2 ^ 62) (h8 : 0 < s8 ∧ s8 < 2 ^ 62) (h9 : 0 < s9 ∧ s9 < 2 ^ 62) (h10 : 0 < s10 ∧ s10 < 2 ^ 62) : ∃ x0 x1 x2 x3 x4 x5 x6 x7 x8 x9 x10, y__law_draws c [s0, s1, s2, s3, s4, s5, s6, s7, s8, s9, s10] = .ok [x0, x1, x2, x3, x4, x5, x6, x7, x8, x9, x10] ∧ (0 ≤ x0 ∧ x0 < s0) ∧ (0 ≤ x1 ∧ x1 < s1) ∧ (0 ≤ x2 ∧ x2 < s2) ∧ (0 ≤ x3 ∧ x3 < s3) ∧ (0 ≤ x4 ∧ x4 < s4) ∧ (0 ≤ x5 ∧ x5 < s5) ∧ (0 ≤ x6 ∧ x6 < s6) ∧ (0 ≤ x7 ∧ x7 < s7) ∧ (0 ≤ x8 ∧ x8 < s8) ∧ (0 ≤ x9 ∧ x9 < s9) ∧ (0 ≤ x10 ∧ x10 < s10) := by
  obtain ⟨d, e, h⟩ := ydraws_ok c [s0, s1, s2, s3, s4, s5, s6, s7, s8, s9, s10] (by
    intro s m
    simp only [List.mem_cons, List.not_mem_nil, or_false] at m
    rcases m with rfl | rfl | rfl | rfl | rfl | rfl | rfl | rfl | rfl | rfl | rfl <;> assumption) (by simp)
  obtain ⟨x0, d, rfl, b0, h⟩ := h.cons
  obtain ⟨x1, d, rfl, b1, h⟩ := h.cons
  obtain ⟨x2, d, rfl, b2, h⟩ := h.cons
  obtain ⟨x3, d, rfl, b3, h⟩ := h.cons
  obtain ⟨x4, d, rfl, b4, h⟩ := h.cons
  obtain ⟨x5, d, rfl, b5, h⟩ := h.cons
  obtain ⟨x6, d, rfl, b6, h⟩ := h.cons
  obtain ⟨x7, d, rfl, b7, h⟩ := h.cons
  obtain ⟨x8, d, rfl, b8, h⟩ := h.cons
  obtain ⟨x9, d, rfl, b9, h⟩ := h.cons
  obtain ⟨x10, d, rfl, b10, h⟩ := h.cons
  cases h.nil
  exact ⟨x0, x1, x2, x3, x4, x5, x6, x7, x8, x9, x10, e, b0, b1, b2, b3, b4, b5, b6, b7, b8, b9, b10⟩
theorem ydraws12 (c : Int) {s0 s1 s2 s3 s4 s5 s6 s7 s8 s9 s10 s11 : Int} (h0 : 0 < s0 ∧ s0 < 2 ^ 62) (h1 : 0 < s1 ∧ s1 < 2 ^ 62) (h2 : 0 < s2 ∧ s2 < 2 ^ 62) (h3 : 0 < s3 ∧ s3 < 2 ^ 62) (h4 : 0 < s4 ∧ s4 < 2 ^ 62) (h5 : 0 < s5 ∧ s5 < 2 ^ 62) (h6 : 0 < s6 ∧ s6 < 2 ^ 62) (h7 : 0 < s7 ∧ s7 < 2 ^ 62) (h8 : 0 < s8 ∧ s8 < 2 ^ 62) (h9 : 0 < s9 ∧ s9 < 2 ^ 62) (h10 : 0 < s10 ∧ s10 < 2 ^ 62) (h11 : 0 < s11 ∧ s11 < 2 ^ 62) : ∃ x0 x1 x2 x3 x4 x5 x6 x7 x8 x9 x10 x11, y__law_draws c [s0, s1, s2, s3, s4, s5, s6, s7, s8, s9, s10, s11] = .ok [x0, x1, x2, x3, x4, x5, x6, x7, x8, x9, x10, x11] ∧ (0 ≤ x0 ∧ x0 < s0) ∧ (0 ≤ x1 ∧ x1 < s1) ∧ (0 ≤ x2 ∧ x2 < s2) ∧ (0 ≤ x3 ∧ x3 < s3) ∧ (0 ≤ x4 ∧ x4 < s4) ∧ (0 ≤ x5 ∧ x5 < s5) ∧ (0 ≤ x6 ∧ x6 < s6) ∧ (0 ≤ x7 ∧ x7 < s7) ∧ (0 ≤ x8 ∧ x8 < s8) ∧ (0 ≤ x9 ∧ x9 < s9) ∧ (0 ≤ x10 ∧ x10 < s10) ∧ (0 ≤ x11 ∧ x11 < s11) := by
  obtain ⟨d, e, h⟩ := ydraws_ok c [s0, s1, s2, s3, s4, s5, s6, s7, s8, s9, s10, s11] (by
    intro s m
    simp only [List.mem_cons, List.not_mem_nil, or_false] at m
    rcases m with rfl | rfl | rfl | rfl | rfl | rfl | rfl | rfl | rfl | rfl | rfl | rfl <;> assumption) (by simp)
  obtain ⟨x0, d, rfl, b0, h⟩ := h.cons
  obtain ⟨x1, d, rfl, b1, h⟩ := h.cons
  obtain ⟨x2, d, rfl, b2, h⟩ := h.cons
  obtain ⟨x3, d, rfl, b3, h⟩ := h.cons
  obtain ⟨x4, d, rfl, b4, h⟩ := h.cons
  obtain ⟨x5, d, rfl, b5, h⟩ := h.cons
  obtain ⟨x6, d, rfl, b6, h⟩ := h.cons
  obtain ⟨x7, d, rfl, b7, h⟩ := h.cons
  obtain ⟨x8, d, rfl, b8, h⟩ := h.cons
  obtain ⟨x9, d, rfl, b9, h⟩ := h.cons
  obtain ⟨x10, d, rfl, b10, h⟩ := h.cons
  obtain ⟨x11, d, rfl, b11, h⟩ := h.cons
  cases h.nil
  exact ⟨x0, x1, x2, x3, x4, x5, x6, x7, x8, x9, x10, x11, e, b0, b1, b2, b3, b4, b5, b6, b7, b8, b9, b10, b11⟩
/-! ### boards, corners -/
theorem yboard_ok (c most : Int) (hm : 0 < most ∧ most ≤ 8) : ∃ b : Int × Int, y__law_board c most = .ok b ∧ (0 ≤ b.1 ∧ b.1 ≤ most) ∧ 0 ≤ b.2 ∧ b.2 ≤ most := by
  obtain ⟨x0, x1, x2, x3, x4, e, h0, h1, h2, h3, h4⟩ := ydraws5 c (s0 := 8) (s1 := most) (s2 := most) (s3 := most + 1) (s4 := most + 1) (by omega) (by omega) (by omega) (by omega) (by omega)
  unfold y__law_board
  rw [e]
  by_cases c0 : x0 = 0
  · exact ⟨(x3, x4), by simp [c0], by dsimp only; omega, by dsimp only; omega⟩
  · exact ⟨(x1 + 1, x2 + 1), by simp [c0], by dsimp only; omega, by dsimp only; omega⟩
/-! ### texts -/
theorem eqS_ok {a b : Str} (ha : PyData.strOk a = true) (hb : PyData.strOk b = true) : eqR eS eS a b = .ok (decide (a = b)) := by
  have h1 : okN 9 (eS a) = true := ha
  have h2 : okN 9 (eS b) = true := hb
  unfold eqR
  rw [h1, h2]
  refine congrArg R.ok ?_
  show (a == b) = _
  rw [Bool.eq_iff_iff]
  simp
theorem neS_ok {a b : Str} (ha : PyData.strOk a = true) (hb : PyData.strOk b = true) : neR eS eS a b = .ok (!decide (a = b)) := by
  have h1 : okN 9 (eS a) = true := ha
  have h2 : okN 9 (eS b) = true := hb
  unfold neR
  rw [h1, h2]
  refine congrArg R.ok ?_
  show (!(a == b)) = _
  rw [Bool.eq_iff_iff]
  simp
/-- a letter of a step -/
def isL (l : Str) : Prop := l = ("E" : Str) ∨ l = ("W" : Str) ∨ l = ("N" : Str) ∨ l = ("S" : Str)
theorem sE : ("E" : Str) = ⟨#[69]⟩ := by decide +kernel
theorem sW : ("W" : Str) = ⟨#[87]⟩ := by decide +kernel
theorem sN : ("N" : Str) = ⟨#[78]⟩ := by decide +kernel
theorem sS : ("S" : Str) = ⟨#[83]⟩ := by decide +kernel
theorem s0 : ("" : Str) = ⟨#[]⟩ := by decide +kernel
theorem isL.ok {l : Str} (h : isL l) : PyData.strOk l = true := by
  rcases h with rfl | rfl | rfl | rfl
  · decide +kernel
  · decide +kernel
  · decide +kernel
  · decide +kernel
def stp (c : Int × Int) (l : Str) : Int × Int :=
  if l = ("E" : Str) then (c.1 + 1, c.2) else if l = ("W" : Str) then (c.1 - 1, c.2) else if l = ("N" : Str) then (c.1, c.2 + 1) else (c.1, c.2 - 1)
theorem ystepped {c : Int × Int} {l : Str} (h : isL l) : y__law_stepped c l = .ok (stp c l) := by
  unfold y__law_stepped stp
  rw [eqS_ok h.ok (isL.ok (.inl rfl)), eqS_ok h.ok (isL.ok (.inr (.inl rfl))), eqS_ok h.ok (isL.ok (.inr (.inr (.inl rfl))))]
  simp only [R.bnd, decide_eq_true_eq]
  split
  · rfl
  · split
    · rfl
    · split <;> rfl
def on (b c : Int × Int) : Bool := (decide (0 ≤ c.1) && decide (c.1 ≤ b.1)) && (decide (0 ≤ c.2) && decide (c.2 ≤ b.2))
theorem yon (b c : Int × Int) : y__law_on_board b c = .ok (on b c) := rfl
theorem yon2 (b c : Int × Int) : y_on_board b c = .ok (on b c) := rfl
theorem four_sets {v w : Int} (hv : 0 ≤ v ∧ v < 4) (hw : 0 ≤ w ∧ w < 2) : ∃ L l, ofO (atI [("EN" : Str), ("WS" : Str), ("ES" : Str), ("WN" : Str)] v) = .ok L ∧ ixS L w = .ok l ∧ isL l := by
  have e1 : v = 0 ∨ v = 1 ∨ v = 2 ∨ v = 3 := by omega
  have e2 : w = 0 ∨ w = 1 := by omega
  rcases e1 with rfl | rfl | rfl | rfl <;> rcases e2 with rfl | rfl
  · exact ⟨_, _, rfl, rfl, .inl rfl⟩
  · exact ⟨_, _, rfl, rfl, .inr (.inr (.inl rfl))⟩
  · exact ⟨_, _, rfl, rfl, .inr (.inl rfl)⟩
  · exact ⟨_, _, rfl, rfl, .inr (.inr (.inr rfl))⟩
  · exact ⟨_, _, rfl, rfl, .inl rfl⟩
  · exact ⟨_, _, rfl, rfl, .inr (.inr (.inr rfl))⟩
  · exact ⟨_, _, rfl, rfl, .inr (.inl rfl)⟩
  · exact ⟨_, _, rfl, rfl, .inr (.inr (.inl rfl))⟩
theorem of_four {v : Int} (hv : 0 ≤ v ∧ v < 4) : ∃ l, ixS ("EWNS" : Str) v = .ok l ∧ isL l := by
  have e1 : v = 0 ∨ v = 1 ∨ v = 2 ∨ v = 3 := by omega
  rcases e1 with rfl | rfl | rfl | rfl
  · exact ⟨_, rfl, .inl rfl⟩
  · exact ⟨_, rfl, .inr (.inl rfl)⟩
  · exact ⟨_, rfl, .inr (.inr (.inl rfl))⟩
  · exact ⟨_, rfl, .inr (.inr (.inr rfl))⟩
theorem at4 {α : Type} (a b c d : α) {v : Int} (hv : 0 ≤ v ∧ v < 4) : ∃ x, ofO (atI [a, b, c, d] v) = .ok x := by
  obtain ⟨x, h, _⟩ := at_ex (xs := [a, b, c, d]) (i := v) (by simp; omega)
  exact ⟨x, h⟩
/-! ### the drawn rows -/
theorem ywalked {b : Int × Int} (h1 : 0 ≤ b.1 ∧ b.1 ≤ 8) (h2 : 0 ≤ b.2 ∧ b.2 ≤ 8) (s t : Int) : ∃ row, y__law_walked b s t = .ok row ∧ row ≠ [] ∧ row.length ≤ 17 := by
  obtain ⟨x0, x1, x2, x3, x4, e, b0, b1, b2, b3, b4⟩ := ydraws5 s (s0 := b.1 + 1) (s1 := b.2 + 1) (s2 := 4) (s3 := 17) (s4 := 2) (by omega) (by omega) (by omega) (by omega) (by omega)
  have hr : repR [(2 : Int)] 16 = .ok (List.replicate 16 2) := repR_one (by omega)
  obtain ⟨ps, ep, hp⟩ := ydraws_ok t (List.replicate 16 2) (by intro s m; rw [List.eq_of_mem_replicate m]; omega) (by simp)
  unfold y__law_walked
  simp only [e, R.bnd, R.bind_assoc, show ofO (atI [x0, x1, x2, x3, x4] 2) = .ok x2 from rfl, show ofO (atI [x0, x1, x2, x3, x4] 0) = .ok x0 from rfl, show ofO (atI [x0, x1, x2, x3, x4] 1) = .ok x1 from rfl, show ofO (atI [x0, x1, x2, x3, x4] 3) = .ok x3 from rfl, show ofO (atI [x0, x1, x2, x3, x4] 4) = .ok x4 from rfl, hr, ep]
  obtain ⟨L, _, eL, -, -⟩ := four_sets b2 (show (0 : Int) ≤ 0 ∧ (0 : Int) < 2 by omega)
  obtain ⟨u, eu⟩ := at4 0 b.1 0 b.1 b2
  obtain ⟨v, ev⟩ := at4 0 b.2 b.2 0 b2
  simp only [eL, eu, ev, R.bnd]
  have key : ∀ r0 : Int × Int, ∃ row, ((rngR x3).bind fun xs => (foldR xs [r0] (fun s a => (ofO (atI s (-1))).bind fun v69 => (ofO (atI ps a)).bind fun v66 => (ixS L v66).bind fun v67 => (y__law_stepped v69 v67).bind fun c => (y__law_on_board b c).bind fun b75 => if b75 = true then (appR s (c, ())).bind fun r => .ok r else .ok s)).bind fun s => .ok s) = .ok row ∧ row ≠ [] ∧ row.length ≤ 17 := by
    intro r0
    rw [rngR_ok (by omega)]
    simp only [R.bnd]
    obtain ⟨row, er, h1, h2⟩ := foldR_ok (xs := uptoI 0 x3.toNat) (s := [r0]) (f := fun s a => (ofO (atI s (-1))).bind fun v69 => (ofO (atI ps a)).bind fun v66 => (ixS L v66).bind fun v67 => (y__law_stepped v69 v67).bind fun c => (y__law_on_board b c).bind fun b75 => if b75 = true then (appR s (c, ())).bind fun r => .ok r else .ok s)
      (fun k s => s ≠ [] ∧ s.length ≤ k + 1) ⟨by simp, by simp⟩ (by
        rintro k a s ha ⟨n1, n2⟩
        obtain ⟨hk, rfl⟩ := uptoI_get ha
        obtain ⟨w, ew, w0, w1⟩ := hp.get (k := k) (s := 2) (by rw [List.getElem?_replicate]; rw [if_pos (by omega)])
        obtain ⟨L', l, eL', el, hl⟩ := four_sets b2 (show (0 : Int) ≤ w ∧ w < 2 by omega)
        have : L' = L := by rw [eL] at eL'; cases eL'; rfl
        subst this
        rw [Int.zero_add, at_last n1, at_nat ew]
        simp only [R.bnd, el, ystepped hl, yon]
        split
        · rw [appR_ok (by omega)]
          exact ⟨_, rfl, by simp, by simp; omega⟩
        · exact ⟨_, rfl, n1, by omega⟩)
    rw [er]
    refine ⟨row, rfl, h1, ?_⟩
    rw [uptoI_length] at h2
    omega
  split
  · exact key _
  · exact key _
theorem cut_len {α : Type} (xs : List α) (lo hi : Option Int) : (cutL xs lo hi).length ≤ xs.length := by
  unfold cutL
  rw [List.length_take, List.length_drop]
  omega
def Lok {α : Type} (n : Nat) (x : R (List α)) : Prop := ∃ r, x = .ok r ∧ r.length ≤ n
theorem Lok.cat {α : Type} {xs ys : List α} {n : Nat} (h : xs.length + ys.length ≤ n) (hn : n ≤ 16777216) : Lok n (catR xs ys) := ⟨_, catR_ok (by omega), by simpa using h⟩
theorem Lok.cat2 {α : Type} {xs ys zs : List α} {n : Nat} (h : xs.length + ys.length + zs.length ≤ n) (hn : n ≤ 16777216) : Lok n ((catR xs ys).bind fun v => catR v zs) := by
  rw [catR_ok (by omega)]
  exact .cat (by simp; omega) hn
theorem yspoilt {b : Int × Int} (h1 : 0 ≤ b.1 ∧ b.1 ≤ 8) (h2 : 0 ≤ b.2 ∧ b.2 ≤ 8) {row : List (Int × Int)} (hl : row.length ≤ 60) (s : Int) : Lok (2 * row.length + 4) (y__law_spoilt b row s) := by
  obtain ⟨x0, x1, x2, x3, x4, x5, x6, x7, e, b0, b1, b2, b3, b4, b5, b6, b7⟩ := ydraws8 s (s0 := 12) (s1 := 40) (s2 := 5) (s3 := 5) (s4 := b.1 + 7) (s5 := b.2 + 7) (s6 := 4) (s7 := 4) (by omega) (by omega) (by omega) (by omega) (by omega) (by omega) (by omega) (by omega)
  unfold y__law_spoilt
  have ix : ∀ {i x : Int}, atI [x0, x1, x2, x3, x4, x5, x6, x7] i = some x → ofO (atI [x0, x1, x2, x3, x4, x5, x6, x7] i) = .ok x := fun h => by rw [h]; rfl
  simp only [e, R.bnd, R.bind_assoc, ix (i := 0) (x := x0) rfl, ix (i := 1) (x := x1) rfl, ix (i := 2) (x := x2) rfl, ix (i := 3) (x := x3) rfl, ix (i := 4) (x := x4) rfl, ix (i := 5) (x := x5) rfl, ix (i := 6) (x := x6) rfl, ix (i := 7) (x := x7) rfl]
  by_cases h0 : row = []
  · subst h0
    exact ⟨[], rfl, by simp⟩
  have hp : 0 < row.length := List.length_pos_iff.mpr h0
  obtain ⟨l, el, hlt⟩ := of_four b6
  have hk : 0 ≤ x1 % (row.length : Int) ∧ x1 % (row.length : Int) < row.length := ⟨Int.emod_nonneg _ (by omega), Int.emod_lt_of_pos _ (by omega)⟩
  obtain ⟨c, ec, -, -⟩ := at_ex hk
  rw [if_neg (by simp; omega)]
  simp only [modR_ok (show (0 : Int) < row.length by omega), R.bnd, ec, el]
  have q1 := cut_len row none (some (x1 % (row.length : Int)))
  have q2 := cut_len row (some (x1 % (row.length : Int))) none
  have q3 := cut_len row (some (x1 % (row.length : Int) + 1)) none
  have q4 := cut_len row none (some (-1))
  have mp : ∀ (m : Option Int) (f : Int × Int → R (Int × Int)) (g : Int × Int → Int × Int), (∀ a, f a = .ok (g a)) → calmR (compR (cutL row m none) (fun _ => R.ok true) f) = .ok ((cutL row m none).map g) := fun m f g h => by
    rw [compR_eq (fun _ => true) g (fun a _ => ⟨rfl, fun _ => h a⟩), List.filter_eq_self.mpr (fun _ _ => rfl)]
    rfl
  have big : ∀ k : Nat, k ≤ 2 * row.length + 4 → k ≤ 16777216 := fun k h => by omega
  split
  · exact ⟨[], rfl, by simp⟩
  split
  · rw [mp _ _ (fun a => (a.1 + x2 - 2, a.2 + x3 - 2)) (fun a => rfl)]
    exact .cat (by rw [List.length_map]; omega) (by omega)
  split
  · exact .cat2 (by simp; omega) (by omega)
  split
  · exact .cat2 (by simp; omega) (by omega)
  split
  · rw [rngR_ok (by omega)]
    simp only [R.bnd]
    obtain ⟨r, er, n1, n2⟩ := foldR_ok (xs := uptoI 0 (x7 + 1).toNat) (s := row) (f := fun s a => (ofO (atI s (-1))).bind fun v => (y__law_stepped v l).bind fun v => (appR s (v, ())).bind fun r => .ok r)
      (fun k s => s ≠ [] ∧ s.length ≤ row.length + k) ⟨h0, by omega⟩ (by
        rintro k a s ha ⟨n1, n2⟩
        obtain ⟨hk, rfl⟩ := uptoI_get ha
        rw [at_last n1]
        simp only [R.bnd, ystepped hlt]
        rw [appR_ok (by omega)]
        exact ⟨_, rfl, by simp, by simp; omega⟩)
    rw [er]
    refine ⟨r, rfl, ?_⟩
    rw [uptoI_length] at n2
    omega
  split
  · exact .cat (by rw [List.length_reverse]; omega) (by omega)
  split
  · exact .cat (by omega) (by omega)
  split
  · exact .cat2 (by simp; omega) (by omega)
  split
  · simp only [ystepped hlt, R.bnd]
    exact .cat2 (by simp; omega) (by omega)
  · rw [catR_ok (by simp)]
    simp only [R.bnd]
    obtain ⟨w, ew⟩ := at4 (b.1 + 1 + x7, c.2) (-1 - x7, c.2) (c.1, b.2 + 1 + x7) (c.1, -1 - x7) b6
    simp only [List.cons_append, List.nil_append, ew, R.bnd]
    exact .cat2 (by simp; omega) (by omega)
theorem yany {b : Int × Int} (h1 : 0 ≤ b.1 ∧ b.1 ≤ 8) (h2 : 0 ≤ b.2 ∧ b.2 ≤ 8) (s : Int) : Lok 17 (y__law_any_row b s) := by
  unfold y__law_any_row
  have hr : repR [b.1 + 7, b.2 + 7] 17 = .ok (List.replicate 17 [b.1 + 7, b.2 + 7]).flatten := repR_ok (by simp)
  have hc : catR [(18 : Int)] (List.replicate 17 [b.1 + 7, b.2 + 7]).flatten = .ok (18 :: (List.replicate 17 [b.1 + 7, b.2 + 7]).flatten) := catR_ok (by simp)
  obtain ⟨d, ed, hd⟩ := ydraws_ok s (18 :: (List.replicate 17 [b.1 + 7, b.2 + 7]).flatten) (by
    intro z m
    rcases List.mem_cons.mp m with rfl | m
    · omega
    · obtain ⟨q, hq, m⟩ := List.mem_flatten.mp m
      rw [List.eq_of_mem_replicate hq] at m
      rcases List.mem_cons.mp m with rfl | m
      · omega
      · rcases List.mem_cons.mp m with rfl | m
        · omega
        · cases m) (by simp)
  simp only [hr, hc, ed, R.bnd, R.bind_assoc]
  have hlen : d.length = 35 := by rw [hd.len]; simp
  obtain ⟨v, d', rfl, hv, -⟩ := hd.cons
  rw [show ofO (atI (v :: d') 0) = .ok v from at_ok (by omega) (by simp)]
  simp only [R.bnd]
  rw [rngR_ok (by omega)]
  simp only [R.bnd]
  obtain ⟨ys, e, hl, -⟩ := compR_all (xs := uptoI 0 v.toNat) (c := fun _ => R.ok true) (f := fun x => (ofO (atI (v :: d') (2 * x + 1))).bind fun v13 => (ofO (atI (v :: d') (2 * x + 2))).bind fun v15 => .ok (v13 - 3, v15 - 3)) (fun _ _ => True) (by
    intro a m
    rw [mem_uptoI] at m
    obtain ⟨p, ep, -, -⟩ := at_ex (xs := v :: d') (i := 2 * a + 1) (by omega)
    obtain ⟨q, eq, -, -⟩ := at_ex (xs := v :: d') (i := 2 * a + 2) (by omega)
    refine ⟨rfl, (p - 3, q - 3), ?_, trivial⟩
    rw [ep, eq]
    rfl)
  rw [e]
  refine ⟨ys, rfl, ?_⟩
  rw [hl, uptoI_length]
  omega
/-! ### the letter between two corners -/
def dirS (c a : Int × Int) : Str :=
  if a = (c.1 + 1, c.2) then ("E" : Str) else if a = (c.1 - 1, c.2) then ("W" : Str) else if a = (c.1, c.2 + 1) then ("N" : Str) else if a = (c.1, c.2 - 1) then ("S" : Str) else ("" : Str)
theorem sEW : ¬ ("W" : Str) = ("E" : Str) := by decide +kernel
theorem sEN : ¬ ("N" : Str) = ("E" : Str) := by decide +kernel
theorem sES : ¬ ("S" : Str) = ("E" : Str) := by decide +kernel
theorem sWN : ¬ ("N" : Str) = ("W" : Str) := by decide +kernel
theorem sWS : ¬ ("S" : Str) = ("W" : Str) := by decide +kernel
theorem sNS : ¬ ("S" : Str) = ("N" : Str) := by decide +kernel
theorem yst1 (c : Int × Int) : y__law_stepped c ("E" : Str) = .ok (c.1 + 1, c.2) := by rw [ystepped (.inl rfl)]; unfold stp; rw [if_pos rfl]
theorem yst2 (c : Int × Int) : y__law_stepped c ("W" : Str) = .ok (c.1 - 1, c.2) := by rw [ystepped (.inr (.inl rfl))]; unfold stp; rw [if_neg sEW, if_pos rfl]
theorem yst3 (c : Int × Int) : y__law_stepped c ("N" : Str) = .ok (c.1, c.2 + 1) := by rw [ystepped (.inr (.inr (.inl rfl)))]; unfold stp; rw [if_neg sEN, if_neg sWN, if_pos rfl]
theorem yst4 (c : Int × Int) : y__law_stepped c ("S" : Str) = .ok (c.1, c.2 - 1) := by rw [ystepped (.inr (.inr (.inr rfl)))]; unfold stp; rw [if_neg sES, if_neg sWS, if_neg sNS]
theorem ylawdir (c a : Int × Int) : y__law_direction c a = .ok (dirS c a) := by
  unfold y__law_direction dirS
  simp only [R.bnd, foldC, yst1, yst2, yst3, yst4, eq_comm (a := a), decide_eq_true_eq]
  split
  · rfl
  simp only [R.bnd]
  split
  · rfl
  simp only [R.bnd]
  split
  · rfl
  simp only [R.bnd]
  split
  · rfl
  · rfl
theorem dkey (c a : Int × Int) (u v : Int) : ((a.1 - c.1, a.2 - c.2) == (u, v)) = decide (a = (c.1 + u, c.2 + v)) := by
  obtain ⟨x, y⟩ := a
  rw [Bool.eq_iff_iff]
  simp only [beq_iff_eq, Prod.mk.injEq, decide_eq_true_eq]
  omega
theorem ydir (c a : Int × Int) : y_direction c a = .ok (dirS c a) := by
  unfold y_direction dirS tt_DIRECTIONS
  congr 1
  simp only [List.lookup_cons, dkey, Int.add_zero, ← Int.sub_eq_add_neg, List.lookup_nil]
  by_cases h1 : a = (c.1 + 1, c.2)
  · simp [h1]
  · rw [if_neg h1, decide_eq_false h1]
    by_cases h2 : a = (c.1 - 1, c.2)
    · simp [h2]
    · rw [if_neg h2, decide_eq_false h2]
      by_cases h3 : a = (c.1, c.2 + 1)
      · simp [h3]
      · rw [if_neg h3, decide_eq_false h3]
        by_cases h4 : a = (c.1, c.2 - 1)
        · simp [h4]
        · rw [if_neg h4, decide_eq_false h4]
          rfl
/-! ### texts as rows of signs -/
def mkS (u : List Nat) : Str := ⟨u.toArray⟩
def L4 (u : List Nat) : Prop := ∀ c ∈ u, c = 69 ∨ c = 87 ∨ c = 78 ∨ c = 83
def nop (u : List Nat) : Bool := !(decide (69 ∈ u) && decide (87 ∈ u)) && !(decide (78 ∈ u) && decide (83 ∈ u))
theorem mkS_len (u : List Nat) : (mkS u).length = u.length := by simp [mkS, Str.length]
theorem mkS_cps (u : List Nat) : (mkS u).cps.toList = u := by simp [mkS]
theorem mkS_app (u v : List Nat) : mkS u ++ mkS v = mkS (u ++ v) := by
  show Str.append _ _ = _
  simp [mkS, Str.append]
theorem mkS_ok {u : List Nat} (h : L4 u) : PyData.strOk (mkS u) = true := by
  show (mkS u).cps.all (· < 0x110000) = true
  rw [← Array.all_toList, mkS_cps, List.all_eq_true]
  intro c m
  rcases h c m with rfl | rfl | rfl | rfl <;> rfl
theorem dirS_or (c a : Int × Int) : dirS c a = mkS [] ∨ ∃ n, dirS c a = mkS [n] ∧ (n = 69 ∨ n = 87 ∨ n = 78 ∨ n = 83) := by
  unfold dirS
  split
  · exact .inr ⟨69, sE, .inl rfl⟩
  split
  · exact .inr ⟨87, sW, .inr (.inl rfl)⟩
  split
  · exact .inr ⟨78, sN, .inr (.inr (.inl rfl))⟩
  split
  · exact .inr ⟨83, sS, .inr (.inr (.inr rfl))⟩
  · exact .inl s0
theorem ywithin {u v : List Nat} (h : u.length ≤ 1000) : y__law_within (mkS u) (mkS v) = .ok (u.all fun c => decide (c ∈ v)) := by
  unfold y__law_within
  have h1 : signT (mkS u) = u.map fun c => mkS [c] := by unfold signT; rw [mkS_cps]; rfl
  have h2 : smallR (signT (mkS u)) = .ok (u.map fun c => mkS [c]) := by
    unfold smallR
    rw [h1, List.length_map, if_pos (by omega)]
  simp only [R.bnd, h2, R.bind_assoc]
  rw [compR_eq (fun x => match x.cps.toList with | [c] => !decide (c ∈ v) | _ => false) id (by
    intro x m
    obtain ⟨c, hc, rfl⟩ := List.mem_map.mp m
    refine ⟨?_, fun _ => rfl⟩
    unfold signIn
    rw [mkS_cps, mkS_cps]
    rfl)]
  simp only [calmR_ok, R.bnd, List.map_id]
  congr 1
  rw [Bool.eq_iff_iff, decide_eq_true_eq, List.all_eq_true]
  rw [Int.natCast_eq_zero, List.length_eq_zero_iff, List.filter_eq_nil_iff]
  constructor
  · intro z c m
    have := z (mkS [c]) (List.mem_map_of_mem m)
    rw [mkS_cps] at this
    simpa using this
  · intro z x m
    obtain ⟨c, hc, rfl⟩ := List.mem_map.mp m
    rw [mkS_cps]
    simpa using z c hc
def fit (u : List Nat) : Bool := (u.all fun c => decide (c ∈ [69, 78])) || ((u.all fun c => decide (c ∈ [87, 83])) || ((u.all fun c => decide (c ∈ [69, 83])) || (u.all fun c => decide (c ∈ [87, 78]))))
theorem yfitting {u : List Nat} (h : u.length ≤ 1000) : ∃ l, compR [("EN" : Str), ("WS" : Str), ("ES" : Str), ("WN" : Str)] (fun x => y__law_within (mkS u) x) (fun x => R.ok x) = .ok l ∧ decide ((l.length : Int) = 0) = !fit u := by
  have e1 : ("EN" : Str) = mkS [69, 78] := by decide +kernel
  have e2 : ("WS" : Str) = mkS [87, 83] := by decide +kernel
  have e3 : ("ES" : Str) = mkS [69, 83] := by decide +kernel
  have e4 : ("WN" : Str) = mkS [87, 78] := by decide +kernel
  rw [e1, e2, e3, e4]
  unfold fit
  simp only [compR, ywithin h, R.bnd]
  cases (u.all fun c => decide (c ∈ [69, 78])) <;> cases (u.all fun c => decide (c ∈ [87, 83])) <;> cases (u.all fun c => decide (c ∈ [69, 83])) <;> cases (u.all fun c => decide (c ∈ [87, 78])) <;> exact ⟨_, rfl, rfl⟩
theorem all_two {u : List Nat} (h : L4 u) (a b c d : Nat) (ha : ∀ x, (x = 69 ∨ x = 87 ∨ x = 78 ∨ x = 83) → (x = a ∨ x = b ∨ x = c ∨ x = d)) (n1 : c ≠ a) (n2 : c ≠ b) (n3 : d ≠ a) (n4 : d ≠ b) : (u.all fun x => decide (x ∈ [a, b])) = (!decide (c ∈ u) && !decide (d ∈ u)) := by
  rw [Bool.eq_iff_iff, List.all_eq_true]
  simp only [Bool.and_eq_true, Bool.not_eq_true', decide_eq_false_iff_not, decide_eq_true_eq, List.mem_cons, List.not_mem_nil, or_false]
  constructor
  · intro z
    refine ⟨fun m => ?_, fun m => ?_⟩
    · rcases z _ m with e | e
      · exact n1 e
      · exact n2 e
    · rcases z _ m with e | e
      · exact n3 e
      · exact n4 e
  · rintro ⟨z1, z2⟩ x m
    rcases ha x (h x m) with e | e | e | e
    · exact .inl e
    · exact .inr e
    · exact absurd (e ▸ m) z1
    · exact absurd (e ▸ m) z2
theorem fit_nop {u : List Nat} (h : L4 u) : fit u = nop u := by
  unfold fit nop
  rw [all_two h 69 78 87 83 (by omega) (by decide) (by decide) (by decide) (by decide), all_two h 87 83 69 78 (by omega) (by decide) (by decide) (by decide) (by decide),
    all_two h 69 83 87 78 (by omega) (by decide) (by decide) (by decide) (by decide), all_two h 87 78 69 83 (by omega) (by decide) (by decide) (by decide) (by decide)]
  cases decide (69 ∈ u) <;> cases decide (87 ∈ u) <;> cases decide (78 ∈ u) <;> cases decide (83 ∈ u) <;> rfl
theorem opp_ok {n : Nat} (hn : n = 69 ∨ n = 87 ∨ n = 78 ∨ n = 83) {u : List Nat} (h : L4 u) (hp : nop u = true) : ∃ w, ofO (List.lookup (mkS [n]) tt_OPPOSITES) = .ok w ∧ signIn false w (mkS u) = .ok (!nop (u ++ [n])) := by
  have tt : tt_OPPOSITES = [(mkS [69], mkS [87]), (mkS [87], mkS [69]), (mkS [78], mkS [83]), (mkS [83], mkS [78])] := by
    unfold tt_OPPOSITES
    rw [sE, sW, sN, sS]
    rfl
  have si : ∀ c, signIn false (mkS [c]) (mkS u) = .ok (decide (c ∈ u)) := fun c => by unfold signIn; rw [mkS_cps, mkS_cps]; rfl
  have q : nop (u ++ [n]) = (!((decide (69 ∈ u) || decide (n = 69)) && (decide (87 ∈ u) || decide (n = 87))) && !((decide (78 ∈ u) || decide (n = 78)) && (decide (83 ∈ u) || decide (n = 83)))) := by
    unfold nop
    simp only [List.mem_append, List.mem_singleton, eq_comm (b := n), Bool.decide_or]
  unfold nop at hp
  rw [q, tt]
  rcases hn with rfl | rfl | rfl | rfl
  · exact ⟨mkS [87], congrArg ofO (show List.lookup (mkS [69]) [(mkS [69], mkS [87]), (mkS [87], mkS [69]), (mkS [78], mkS [83]), (mkS [83], mkS [78])] = some (mkS [87]) by decide +kernel), by rw [si]; congr 1; revert hp; cases decide (69 ∈ u) <;> cases decide (87 ∈ u) <;> cases decide (78 ∈ u) <;> cases decide (83 ∈ u) <;> decide⟩
  · exact ⟨mkS [69], congrArg ofO (show List.lookup (mkS [87]) [(mkS [69], mkS [87]), (mkS [87], mkS [69]), (mkS [78], mkS [83]), (mkS [83], mkS [78])] = some (mkS [69]) by decide +kernel), by rw [si]; congr 1; revert hp; cases decide (69 ∈ u) <;> cases decide (87 ∈ u) <;> cases decide (78 ∈ u) <;> cases decide (83 ∈ u) <;> decide⟩
  · exact ⟨mkS [83], congrArg ofO (show List.lookup (mkS [78]) [(mkS [69], mkS [87]), (mkS [87], mkS [69]), (mkS [78], mkS [83]), (mkS [83], mkS [78])] = some (mkS [83]) by decide +kernel), by rw [si]; congr 1; revert hp; cases decide (69 ∈ u) <;> cases decide (87 ∈ u) <;> cases decide (78 ∈ u) <;> cases decide (83 ∈ u) <;> decide⟩
  · exact ⟨mkS [78], congrArg ofO (show List.lookup (mkS [83]) [(mkS [69], mkS [87]), (mkS [87], mkS [69]), (mkS [78], mkS [83]), (mkS [83], mkS [78])] = some (mkS [78]) by decide +kernel), by rw [si]; congr 1; revert hp; cases decide (69 ∈ u) <;> cases decide (87 ∈ u) <;> cases decide (78 ∈ u) <;> cases decide (83 ∈ u) <;> decide⟩
/-! ### the two walks along a row -/
theorem uptoI_cons (lo : Int) (n : Nat) : uptoI lo (n + 1) = lo :: uptoI (lo + 1) n := by
  unfold uptoI
  rw [List.range_succ_eq_map, List.map_cons, List.map_map]
  simp only [Int.natCast_zero, Int.add_zero, List.cons.injEq, true_and]
  refine List.map_congr_left fun k _ => ?_
  simp only [Function.comp, Int.natCast_succ]
  omega
def fdue (b : Int × Int) (row : List (Int × Int)) (s27 : Str) (a28 : Int) : R (Ct Str (Str × D)) :=
  (ofO (atI row a28)).bind fun a =>
    if (!on b a) = true then (ofO (atI row a28)).bind fun a => R.ok (Ct.rt (Str.ofString "off", pr a))
    else
      if decide (a28 > 0) = true then
        (ofO (atI row (a28 - 1))).bind fun a =>
          (ofO (atI row a28)).bind fun a_1 =>
            (catS s27 (dirS a a_1)).bind fun used48 =>
              (calmR
                    (compR [Str.ofString "EN", Str.ofString "WS", Str.ofString "ES", Str.ofString "WN"]
                      (fun x49 => y__law_within used48 x49) fun x49 => R.ok x49)).bind
                fun fitting50 =>
                (eqR eS eS (dirS a a_1) (Str.ofString "")).bind fun a =>
                  (if a = true then R.ok true else R.ok (decide ((fitting50.length : Int) = 0))).bind fun b52 =>
                    if b52 = true then R.ok (Ct.rt (Str.ofString "fault", eI a28)) else R.ok (Ct.nx used48)
      else R.ok (Ct.nx s27)
def fnp (b : Int × Int) (row : List (Int × Int)) (s20 : Str) (a21 : Int × (Int × Int)) : R Str :=
  if (!on b a21.snd) = true then raiseR (Str.ofString "OffBoard") [Str.ofString "corner"] [pr a21.snd]
  else
    if decide (a21.fst > 0) = true then
      (ofO (atI row (a21.fst - 1))).bind fun a =>
        (eqR eS eS (dirS a a21.snd) (Str.ofString "")).bind fun a_1 =>
          (if a_1 = true then R.ok true
              else
                (ofO (List.lookup (dirS a a21.snd) tt_OPPOSITES)).bind fun v30 => signIn false v30 s20).bind
            fun b35 =>
            if b35 = true then raiseR (Str.ofString "NotAPath") [Str.ofString "index"] [eI a21.fst]
            else (catS s20 (dirS a a21.snd)).bind fun used34 => R.ok used34
    else R.ok s20
theorem raise_one {τ : Type} {x f : Str} {d : D} (h : d.val = true) : (raiseR x [f] [d] : R τ) = .exc x [(f, d)] := by
  unfold raiseR
  rw [if_pos (by simp [valL, h])]
  rfl
theorem pr_val (c : Int × Int) : (pr c).val = true := rfl
def Tw (X : R (Sum Str (Str × D))) (Y : R Str) : Prop :=
    (∃ s s', X = .ok (.inl s) ∧ Y = .ok s') ∨ (∃ c, X = .ok (.inr (("off" : Str), pr c)) ∧ Y = .exc ("OffBoard" : Str) [(("corner" : Str), pr c)]) ∨
    (∃ i : Int, X = .ok (.inr (("fault" : Str), D.int i)) ∧ Y = .exc ("NotAPath" : Str) [(("index" : Str), D.int i)])
theorem twin (b : Int × Int) (row : List (Int × Int)) (hl : row.length ≤ 200) : ∀ (m k : Nat) (u : List Nat), k + m = row.length → L4 u → nop u = true → u.length ≤ k →
    Tw (foldC (uptoI k m) (mkS u) (fdue b row)) (foldR (numT k (row.drop k)) (mkS u) (fnp b row))
  | 0, k, u, hk, _, _, _ => .inl ⟨mkS u, mkS u, rfl, by rw [List.drop_eq_nil_iff.mpr (by omega)]; rfl⟩
  | m + 1, k, u, hk, h4, hn, hu => by
    have hk' : k < row.length := by omega
    have hd : row.drop k = row[k] :: row.drop (k + 1) := List.drop_eq_getElem_cons hk'
    have hg : ofO (atI row (k : Int)) = .ok row[k] := at_nat (List.getElem?_eq_getElem hk')
    rw [uptoI_cons, hd]
    unfold numT
    have ih := twin b row hl m (k + 1)
    rw [Int.natCast_succ] at ih
    have go : ∀ {x : R (Ct Str (Str × D))} {y : R Str}, fdue b row (mkS u) (k : Int) = x → fnp b row (mkS u) ((k : Int), row[k]) = y →
        ((∃ v, x = .ok (.nx (mkS v)) ∧ y = .ok (mkS v) ∧ L4 v ∧ nop v = true ∧ v.length ≤ k + 1) ∨ (∃ c, x = .ok (.rt (("off" : Str), pr c)) ∧ y = .exc ("OffBoard" : Str) [(("corner" : Str), pr c)]) ∨ (∃ i : Int, x = .ok (.rt (("fault" : Str), D.int i)) ∧ y = .exc ("NotAPath" : Str) [(("index" : Str), D.int i)])) →
        Tw (foldC ((k : Int) :: uptoI (k + 1) m) (mkS u) (fdue b row)) (foldR (((k : Int), row[k]) :: numT (k + 1) (row.drop (k + 1))) (mkS u) (fnp b row)) := fun {x y} hx hy h => by
      unfold foldC foldR
      rw [hx, hy]
      rcases h with ⟨v, rfl, rfl, a1, a2, a3⟩ | ⟨c, rfl, rfl⟩ | ⟨i, rfl, rfl⟩
      · exact ih v (by omega) a1 a2 a3
      · exact .inr (.inl ⟨c, rfl, rfl⟩)
      · exact .inr (.inr ⟨i, rfl, rfl⟩)
    cases ho : on b row[k] with
    | false =>
      refine go (x := .ok (.rt (("off" : Str), pr row[k]))) (y := .exc ("OffBoard" : Str) [(("corner" : Str), pr row[k])]) ?_ ?_ (.inr (.inl ⟨_, rfl, rfl⟩))
      · unfold fdue
        simp only [hg, R.bnd, ho, Bool.not_false, if_true]
      · unfold fnp
        simp only [ho, Bool.not_false, if_true]
        exact raise_one (pr_val _)
    | true =>
      by_cases hk0 : k = 0
      · subst hk0
        refine go (x := .ok (.nx (mkS u))) (y := .ok (mkS u)) ?_ ?_ (.inl ⟨u, rfl, rfl, h4, hn, by omega⟩)
        · unfold fdue
          simp only [hg, R.bnd, ho, Bool.not_true, Bool.false_eq_true, if_false]
          rw [if_neg (by simp)]
        · unfold fnp
          simp only [ho, Bool.not_true, Bool.false_eq_true, if_false]
          rw [if_neg (by simp)]
      · obtain ⟨p, hp, -, -⟩ := at_ex (xs := row) (i := (k : Int) - 1) (by omega)
        have hd0 : decide ((k : Int) > 0) = true := by simp; omega
        have e0 : ("" : Str) = mkS [] := s0
        have z0 : PyData.strOk (mkS []) = true := mkS_ok (fun _ z => nomatch z)
        rcases dirS_or p row[k] with e | ⟨n, e, hn4⟩
        · have hc : catS (mkS u) (mkS []) = .ok (mkS u) := by
            unfold catS
            rw [mkS_len, mkS_len, if_pos (by simp; omega), mkS_app, List.append_nil]
          obtain ⟨l, el, -⟩ := yfitting (u := u) (by omega)
          refine go (x := .ok (.rt (("fault" : Str), D.int k))) (y := .exc ("NotAPath" : Str) [(("index" : Str), D.int k)]) ?_ ?_ (.inr (.inr ⟨k, rfl, rfl⟩))
          · unfold fdue
            simp only [hg, R.bnd, ho, Bool.not_true, Bool.false_eq_true, if_false, hd0, if_true, hp, e, e0, hc, el, calmR_ok, eqS_ok z0 z0, decide_true]
            rfl
          · unfold fnp
            simp only [hg, R.bnd, ho, Bool.not_true, Bool.false_eq_true, if_false, hd0, if_true, hp, e, e0, eqS_ok z0 z0, decide_true]
            exact raise_one rfl
        · have hL : L4 (u ++ [n]) := fun c m => by
            rcases List.mem_append.mp m with m | m
            · exact h4 c m
            · rw [List.mem_singleton.mp m]; exact hn4
          have hc : catS (mkS u) (mkS [n]) = .ok (mkS (u ++ [n])) := by
            unfold catS
            rw [mkS_len, mkS_len, if_pos (by simp; omega), mkS_app]
          obtain ⟨l, el, e2⟩ := yfitting (u := u ++ [n]) (by simp; omega)
          obtain ⟨w, ew, es⟩ := opp_ok hn4 h4 hn
          have z1 : PyData.strOk (mkS [n]) = true := mkS_ok (fun c m => by rw [List.mem_singleton.mp m]; exact hn4)
          have ne : ¬ mkS [n] = mkS [] := by unfold mkS; simp
          cases hq : nop (u ++ [n]) with
          | false =>
            refine go (x := .ok (.rt (("fault" : Str), D.int k))) (y := .exc ("NotAPath" : Str) [(("index" : Str), D.int k)]) ?_ ?_ (.inr (.inr ⟨k, rfl, rfl⟩))
            · unfold fdue
              simp only [hg, R.bnd, ho, Bool.not_true, Bool.false_eq_true, if_false, hd0, if_true, hp, e, e0, hc, el, calmR_ok, eqS_ok z1 z0, decide_eq_false ne, e2, fit_nop hL, hq, Bool.not_false]
              rfl
            · unfold fnp
              simp only [hg, R.bnd, ho, Bool.not_true, Bool.false_eq_true, if_false, hd0, if_true, hp, e, e0, eqS_ok z1 z0, decide_eq_false ne, ew, es, hq, Bool.not_false]
              exact raise_one rfl
          | true =>
            refine go (x := .ok (.nx (mkS (u ++ [n])))) (y := .ok (mkS (u ++ [n]))) ?_ ?_ (.inl ⟨_, rfl, rfl, hL, hq, by simp; omega⟩)
            · unfold fdue
              simp only [hg, R.bnd, ho, Bool.not_true, Bool.false_eq_true, if_false, hd0, if_true, hp, e, e0, hc, el, calmR_ok, eqS_ok z1 z0, decide_eq_false ne, e2, fit_nop hL, hq]
            · unfold fnp
              simp only [hg, R.bnd, ho, Bool.not_true, Bool.false_eq_true, if_false, hd0, if_true, hp, e, e0, eqS_ok z1 z0, decide_eq_false ne, ew, es, hq, hc]
def nf (row : List (Int × Int)) (h : row ≠ []) : List (Int × Int) := if ltP (row.getLast h) (row.head h) = true then row.reverse else row
theorem at_head {α : Type} {xs : List α} (h : xs ≠ []) : ofO (atI xs 0) = .ok (xs.head h) := by
  cases xs with
  | nil => exact absurd rfl h
  | cons a r => exact at_ok (by omega) rfl
theorem ynf {row : List (Int × Int)} (h : row ≠ []) : y_normal_form row = .ok (nf row h) := by
  unfold y_normal_form nf
  rw [at_last h, at_head h]
  simp only [R.bnd]
  split <;> rfl
/-- what is due, and what the program answers -/
inductive Pair (b : Int × Int) (row : List (Int × Int)) : Prop
  | path (p : List (Int × Int)) (h1 : y__law_due b row = .ok (("path" : Str), eL pr p)) (h2 : y_normal_path b row = .ok p) (hl : p.length ≤ 200)
  | off (c : Int × Int) (h1 : y__law_due b row = .ok (("off" : Str), pr c)) (h2 : y_normal_path b row = .exc ("OffBoard" : Str) [(("corner" : Str), pr c)])
  | fault (i : Int) (h1 : y__law_due b row = .ok (("fault" : Str), D.int i)) (h2 : y_normal_path b row = .exc ("NotAPath" : Str) [(("index" : Str), D.int i)])
theorem pairs (b : Int × Int) (row : List (Int × Int)) (hl : row.length ≤ 200) : Pair b row := by
  by_cases h0 : row = []
  · subst h0
    refine .fault 0 rfl ?_
    unfold y_normal_path
    simp only [R.bnd, List.length_nil, Int.natCast_zero, decide_true, if_true]
    exact raise_one rfl
  have hp : 0 < row.length := List.length_pos_iff.mpr h0
  have D1 : y__law_due b row = (foldC (uptoI 0 row.length) (mkS []) (fdue b row)).bind (onC (fun _ => if ltP (row.getLast h0) (row.head h0) = true then .ok (("path" : Str), eL pr row.reverse) else .ok (("path" : Str), eL pr row)) (fun z => R.ok z)) := by
    unfold y__law_due
    simp only [R.bnd, R.bind_assoc, yon, ylawdir]
    rw [if_neg (by simp; omega), rngR_nat (by omega), at_last h0, at_head h0, show ("" : Str) = mkS [] from s0]
    rfl
  have D2 : y_normal_path b row = (foldR (numT 0 row) (mkS []) (fnp b row)).bind fun _ => .ok (nf row h0) := by
    unfold y_normal_path
    simp only [R.bnd, R.bind_assoc, yon2, ydir, ynf h0]
    rw [if_neg (by simp; omega)]
    unfold smallR
    rw [numT_len, if_pos (by omega), show ("" : Str) = mkS [] from s0]
    rfl
  rcases twin b row hl row.length 0 [] (by omega) (fun _ z => nomatch z) rfl (by simp) with ⟨s, s', e1, e2⟩ | ⟨c, e1, e2⟩ | ⟨i, e1, e2⟩
  · rw [Int.natCast_zero] at e1
    rw [List.drop_zero] at e2
    refine .path (nf row h0) ?_ (by rw [D2, e2]; rfl) (by unfold nf; split <;> (try rw [List.length_reverse]) <;> exact hl)
    rw [D1, e1]
    simp only [R.bnd, onC_inl]
    unfold nf
    split <;> rfl
  · rw [Int.natCast_zero] at e1
    rw [List.drop_zero] at e2
    exact .off c (by rw [D1, e1]; rfl) (by rw [D2, e2]; rfl)
  · rw [Int.natCast_zero] at e1
    rw [List.drop_zero] at e2
    exact .fault i (by rw [D1, e1]; rfl) (by rw [D2, e2]; rfl)
/-! ### what is told -/
theorem told_off {b : Int × Int} {row : List (Int × Int)} {c : Int × Int} (h : y_normal_path b row = .exc ("OffBoard" : Str) [(("corner" : Str), pr c)]) : y__law_told_2 b row = .ok (("off" : Str), pr c) := by
  unfold y__law_told_2
  simp only [R.bnd, h, R.bind_exc]
  kernel_rfl
theorem told_off' {b : Int × Int} {row : List (Int × Int)} {c : Int × Int} (h : y_normal_path b row = .exc ("OffBoard" : Str) [(("corner" : Str), pr c)]) : y__law_told b row = .ok (("off" : Str), pr c) := by
  unfold y__law_told
  simp only [R.bnd, h, R.bind_exc]
  kernel_rfl
theorem told_fault {b : Int × Int} {row : List (Int × Int)} {c : Int} (h : y_normal_path b row = .exc ("NotAPath" : Str) [(("index" : Str), .int c)]) : y__law_told_2 b row = .ok (("fault" : Str), .int c) := by
  unfold y__law_told_2
  simp only [R.bnd, h, R.bind_exc]
  kernel_rfl
theorem told_fault' {b : Int × Int} {row : List (Int × Int)} {c : Int} (h : y_normal_path b row = .exc ("NotAPath" : Str) [(("index" : Str), .int c)]) : y__law_told b row = .ok (("fault" : Str), .int c) := by
  unfold y__law_told
  simp only [R.bnd, h, R.bind_exc]
  kernel_rfl
theorem told_path {b : Int × Int} {row p : List (Int × Int)} (h : y_normal_path b row = .ok p) : y__law_told_2 b row = .ok (("path" : Str), eV pr p) := by
  unfold y__law_told_2
  simp only [R.bnd, h]
  kernel_rfl
theorem told_path' {b : Int × Int} {row p : List (Int × Int)} (h : y_normal_path b row = .ok p) : y__law_told b row = .ok (("path" : Str), eV pr p) := by
  unfold y__law_told
  simp only [R.bnd, h]
  kernel_rfl
theorem same_off (c : Int × Int) : y__law_same (("off" : Str), pr c) (("off" : Str), pr c) = .ok true := by
  have e : y__law_same (("off" : Str), pr c) (("off" : Str), pr c) = eqR eX eX (pr c) (pr c) := by kernel_rfl
  rw [e]
  unfold eqR
  rw [if_pos (by kernel_rfl)]
  exact congrArg R.ok ((eqD_pr c c).trans (decide_eq_true rfl))
theorem same_fault (c : Int) : y__law_same (("fault" : Str), .int c) (("fault" : Str), .int c) = .ok true := by
  have e : y__law_same (("fault" : Str), .int c) (("fault" : Str), .int c) = eqR eX eX (.int c) (.int c) := by kernel_rfl
  rw [e]
  unfold eqR
  rw [if_pos (by kernel_rfl)]
  refine congrArg R.ok ?_
  show (c == c) = true
  simp
theorem ix_pr (xs : List (Int × Int)) (k : Nat) (p : Int × Int) (h : xs[k]? = some p) : ixE (eV pr xs) (k : Int) = .ok (pr p) ∧ ixE (eL pr xs) (k : Int) = .ok (pr p) := by
  have e : atI (xs.map pr) (k : Int) = some (pr p) := by
    have := at_nat (xs := xs.map pr) (k := k) (a := pr p) (by rw [List.getElem?_map, h]; rfl)
    cases q : atI (xs.map pr) (k : Int) with
    | none => rw [q] at this; cases this
    | some z => rw [q] at this; cases this; rfl
  have e1 : (gIx (eV pr xs) (.int (k : Int))) = some (pr p) := e
  have e2 : (gIx (eL pr xs) (.int (k : Int))) = some (pr p) := e
  unfold ixE ixD
  rw [e1, e2]
  exact ⟨rfl, rfl⟩
theorem ypath (xs : List (Int × Int)) (hl : xs.length ≤ 200) : y__law_is_path (eV pr xs) (eL pr xs) = .ok true := by
  have l1 : lenD (eV pr xs) = .ok (xs.length : Int) := by
    have : gLen [eV pr xs] = some (.int (xs.map pr).length) := by
      show gLen [.tup (xs.map pr)] = _
      unfold gLen
      rfl
    unfold lenD
    rw [this, List.length_map]
  have l2 : lenD (eL pr xs) = .ok (xs.length : Int) := by
    have : gLen [eL pr xs] = some (.int (xs.map pr).length) := by
      show gLen [.lst false (xs.map pr)] = _
      unfold gLen
      rfl
    unfold lenD
    rw [this, List.length_map]
  unfold y__law_is_path
  simp only [l1, l2, R.bnd, R.bind_assoc, rngR_nat (show xs.length ≤ 16777216 by omega)]
  rw [show isiD "tuple" (eV pr xs) = .ok true from rfl]
  simp only [R.bnd, Bool.not_true, Bool.false_eq_true, if_false, decide_true]
  rw [foldC_all (fun a m => ?_)]
  · rfl
  · rw [mem_uptoI] at m
    obtain ⟨k, rfl⟩ : ∃ k : Nat, a = k := ⟨a.toNat, by omega⟩
    obtain ⟨p, hp⟩ : ∃ p, xs[k]? = some p := ⟨xs[k]'(by omega), List.getElem?_eq_getElem (by omega)⟩
    obtain ⟨e1, e2⟩ := ix_pr xs k p hp
    simp only [e1, e2, R.bnd]
    have e3 : y__law_is_corner (pr p) = .ok true := by kernel_rfl
    have e4 : neR eX eX (pr p) (pr p) = .ok false := by
      unfold neR
      rw [if_pos (by kernel_rfl)]
      refine congrArg R.ok ?_
      show (!eqD (pr p) (pr p)) = false
      rw [eqD_pr]
      simp
    simp only [e3, e4, R.bnd, Bool.not_true, Bool.false_eq_true, if_false]
theorem same_path (xs : List (Int × Int)) (hl : xs.length ≤ 200) : y__law_same (("path" : Str), eV pr xs) (("path" : Str), eL pr xs) = .ok true := by
  have e : y__law_same (("path" : Str), eV pr xs) (("path" : Str), eL pr xs) = y__law_is_path (eV pr xs) (eL pr xs) := by kernel_rfl
  rw [e, ypath xs hl]
theorem cleanL_pr : ∀ xs : List (Int × Int), cleanL (xs.map pr) = true
  | [] => rfl
  | p :: r => by
    show ((pr p).clean && cleanL (r.map pr)) = true
    rw [cleanL_pr r]
    rfl
theorem yanswers (b : Int × Int) (row : List (Int × Int)) (hl : row.length ≤ 200) (as : Bool) : y__law_answers b row as = .ok true := by
  have key : ∀ due told : Str × D, y__law_due b row = .ok due → y__law_told b row = .ok told → y__law_told_2 b row = .ok told → y__law_same told due = .ok true → (eP eS eX told).clean = true → y__law_answers b row as = .ok true := by
    intro due told h1 h2 h3 h4 h6
    unfold y__law_answers
    simp only [R.bnd, R.bind_assoc, h1, h2, h3, h4, if_pos h6, appR_ok (show row.length < 16777216 by omega), decide_true, Bool.not_true, Bool.false_eq_true, if_false, if_true]
    cases as <;> rfl
  cases pairs b row hl with
  | path p h1 h2 h3 =>
    refine key _ _ h1 (told_path' h2) (told_path h2) (same_path p h3) ?_
    show (true && (cleanL (frzL (p.map pr)) && true)) = true
    rw [frzL_mapE, cleanL_pr]
    rfl
  | off c h1 h2 => exact key _ _ h1 (told_off' h2) (told_off h2) (same_off c) rfl
  | fault c h1 h2 => exact key _ _ h1 (told_fault' h2) (told_fault h2) (same_fault c) rfl
/-! ### the law -/
theorem ylaw (ns : List Int) : y_law ns = .ok true := by
  obtain ⟨c0, e0⟩ := ycell_ok ns 0 (by omega)
  obtain ⟨c1, e1⟩ := ycell_ok ns 1 (by omega)
  obtain ⟨c2, e2⟩ := ycell_ok ns 2 (by omega)
  obtain ⟨c3, e3⟩ := ycell_ok ns 3 (by omega)
  obtain ⟨c4, e4⟩ := ycell_ok ns 4 (by omega)
  obtain ⟨c5, e5⟩ := ycell_ok ns 5 (by omega)
  obtain ⟨c6, e6⟩ := ycell_ok ns 6 (by omega)
  obtain ⟨b, eb, hb1, hb2⟩ := yboard_ok c0 (most := 8) (by omega)
  have hb1 : 0 ≤ b.1 ∧ b.1 ≤ 8 := hb1
  have hb2 : 0 ≤ b.2 ∧ b.2 ≤ 8 := hb2
  obtain ⟨row, er, hne, hl⟩ := ywalked hb1 hb2 c1 c2
  obtain ⟨x0, x1, x2, x3, ed, b0, b1, b2, b3⟩ := ydraws4 c3 (s0 := 2) (s1 := 8) (s2 := 8) (s3 := 2) (by omega) (by omega) (by omega) (by omega)
  obtain ⟨r1, s1, l1⟩ := yspoilt hb1 hb2 (row := row) (by omega) c4
  obtain ⟨r2, s2, l2⟩ := yspoilt hb1 hb2 (row := r1) (by omega) c5
  obtain ⟨r2', s2', l2'⟩ := yspoilt hb1 hb2 (row := row) (by omega) c5
  obtain ⟨r3, s3, l3⟩ := yany hb1 hb2 c6
  unfold y_law
  have ix : ∀ {i x : Int}, atI [x0, x1, x2, x3] i = some x → ofO (atI [x0, x1, x2, x3] i) = .ok x := fun h => by rw [h]; rfl
  simp only [e0, e1, e2, e3, e4, e5, e6, eb, er, ed, R.bnd, R.bind_assoc, ix (i := 0) (x := x0) rfl, ix (i := 1) (x := x1) rfl, ix (i := 2) (x := x2) rfl, ix (i := 3) (x := x3) rfl, s1]
  have tail : ∀ s72 : List (Int × Int), s72.length ≤ 150 → ((y__law_answers b s72 (decide (x3 = 1))).bind fun a =>
              (if (!a) = true then R.ok true
                  else (y__law_answers b s72.reverse (decide (x3 = 1))).bind fun b92 => R.ok !b92).bind
                fun b127 =>
                if b127 = true then R.ok false
                else
                  (foldR [-1, 0, b.fst, b.fst + 1] s72 fun s103 a104 =>
                        (foldR [-1, 0, b.snd, b.snd + 1] s103 fun s107 a108 =>
                              (appR s107 ((a104, a108), ())).bind fun row34 => R.ok row34).bind
                          fun row34 => R.ok row34).bind
                    fun xs125 =>
                    (foldC xs125 () fun s118 a119 =>
                          (y_on_board b a119).bind fun told120 =>
                            (y__law_on_board b a119).bind fun a =>
                              if (!decide (told120 = a)) = true then R.ok (Ct.rt false) else R.ok (Ct.nx ())).bind
                      (onC (fun s124 => R.ok true) fun z => R.ok z)) =
    (R.ok true : R Bool) := by
    intro s72 h72
    rw [yanswers b s72 (by omega), R.bnd]
    simp only [Bool.not_true, Bool.false_eq_true, if_false]
    rw [yanswers b s72.reverse (by rw [List.length_reverse]; omega)]
    simp only [R.bnd, Bool.not_true, Bool.false_eq_true, if_false]
    obtain ⟨xs, ex, lx⟩ := foldR_ok (xs := [-1, 0, b.fst, b.fst + 1]) (s := s72) (f := fun s103 a104 =>
                        (foldR [-1, 0, b.snd, b.snd + 1] s103 fun s107 a108 =>
                              (appR s107 ((a104, a108), ())).bind fun row34 => R.ok row34).bind
                          fun row34 => R.ok row34) (fun k s => s.length ≤ 150 + 4 * k) (by omega) (by
      intro k a s ha hs
      have hk := (List.getElem?_eq_some_iff.mp ha).1
      simp only [List.length_cons, List.length_nil] at hk
      obtain ⟨ys, ey, ly⟩ := foldR_ok (xs := [-1, 0, b.snd, b.snd + 1]) (s := s) (f := fun s107 a108 => (appR s107 ((a, a108), ())).bind fun row34 => R.ok row34) (fun j s => s.length ≤ 150 + 4 * k + j) (by omega) (by
        intro j c s hc hs
        have hj := (List.getElem?_eq_some_iff.mp hc).1
        simp only [List.length_cons, List.length_nil] at hj
        rw [appR_ok (by omega)]
        exact ⟨_, rfl, by simp; omega⟩)
      rw [ey]
      simp only [List.length_cons, List.length_nil] at ly
      exact ⟨ys, rfl, by omega⟩)
    rw [ex]
    simp only [R.bnd]
    rw [foldC_all (fun a m => ?_)]
    · rfl
    · rw [yon, yon2]
      simp only [R.bnd, decide_true, Bool.not_true, Bool.false_eq_true, if_false]
  by_cases q0 : x0 = 1
  · simp only [q0, decide_true, if_true, R.bnd]
    by_cases q1 : x1 = 0
    · simp only [q1, decide_true, if_true, R.bnd, s2]
      by_cases q2 : x2 = 0
      · simp only [q2, decide_true, if_true, R.bnd, s3]
        exact tail _ (by omega)
      · simp only [q2, decide_false, Bool.false_eq_true, if_false, R.bnd]
        exact tail _ (by omega)
    · simp only [q1, decide_false, Bool.false_eq_true, if_false, R.bnd]
      by_cases q2 : x2 = 0
      · simp only [q2, decide_true, if_true, R.bnd, s3]
        exact tail _ (by omega)
      · simp only [q2, decide_false, Bool.false_eq_true, if_false, R.bnd]
        exact tail _ (by omega)
  · simp only [q0, decide_false, Bool.false_eq_true, if_false, R.bnd]
    by_cases q2 : x2 = 0
    · simp only [q2, decide_true, if_true, R.bnd, s3]
      exact tail _ (by omega)
    · simp only [q2, decide_false, Bool.false_eq_true, if_false, R.bnd]
      exact tail _ (by omega)
theorem ylaw_true (ns : List Int) (hn : ns.length ≤ 63) : y_law ns = .ok true := ylaw ns
theorem law_true (ns : List Int) (hn : ns.length ≤ 63) (hb : ∀ z ∈ ns, Builtin.Int.intBits z ≤ 1048576) : F_law [.kl (ns.map D.int)] = .ok (.bl true) := by
  have h := (k_law ns).run
  rw [ylaw_true ns hn] at h
  obtain ⟨d, h1, h2, _⟩ := h
  rw [inv_bl h2] at h1
  exact h1
def topS (i : Nat) : Stmt := PySem.Challenge.pw_cornerworld_k01_normal_path_or_first_fau.main.body.getD i (.Pass ⟨0, 0, 0, 0⟩)
abbrev st__law_draws : Stmt := topS 14
theorem sc__law_draws : FnScope ["cell", "sizes", "drawn", "rest", "digits", "k", "size", "mixed"] ["cell", "sizes"] (defScope st__law_draws) := ⟨rfl, rfl, rfl, by decide +kernel, rfl, by decide +kernel, by decide +kernel⟩
abbrev st__law_board : Stmt := topS 15
theorem sc__law_board : FnScope ["cell", "most", "d"] ["cell", "most"] (defScope st__law_board) := ⟨rfl, rfl, rfl, by decide +kernel, rfl, by decide +kernel, by decide +kernel⟩
abbrev st__law_stepped : Stmt := topS 20
theorem sc__law_stepped : FnScope ["corner", "letter"] ["corner", "letter"] (defScope st__law_stepped) := ⟨rfl, rfl, rfl, by decide +kernel, rfl, by decide +kernel, by decide +kernel⟩
abbrev st__law_on_board : Stmt := topS 16
theorem sc__law_on_board : FnScope ["board", "corner"] ["board", "corner"] (defScope st__law_on_board) := ⟨rfl, rfl, rfl, by decide +kernel, rfl, by decide +kernel, by decide +kernel⟩
abbrev st__law_walked : Stmt := topS 21
theorem sc__law_walked : FnScope ["board", "start_cell", "step_cell", "d", "letters", "row", "picks", "k", "corner"] ["board", "start_cell", "step_cell"] (defScope st__law_walked) := ⟨rfl, rfl, rfl, by decide +kernel, rfl, by decide +kernel, by decide +kernel⟩
abbrev st__law_cell : Stmt := topS 13
theorem sc__law_cell : FnScope ["script", "k"] ["script", "k"] (defScope st__law_cell) := ⟨rfl, rfl, rfl, by decide +kernel, rfl, by decide +kernel, by decide +kernel⟩
abbrev st__law_spoilt : Stmt := topS 22
theorem sc__law_spoilt : FnScope ["board", "row", "cell", "d", "k", "corner", "letter", "longer", "m", "beside", "spot"] ["board", "row", "cell"] (defScope st__law_spoilt) := ⟨rfl, rfl, rfl, by decide +kernel, rfl, by decide +kernel, by decide +kernel⟩
abbrev st__law_any_row : Stmt := topS 23
theorem sc__law_any_row : FnScope ["board", "cell", "d", "k"] ["board", "cell"] (defScope st__law_any_row) := ⟨rfl, rfl, rfl, by decide +kernel, rfl, by decide +kernel, by decide +kernel⟩
abbrev st_on_board : Stmt := topS 5
theorem sc_on_board : FnScope ["board", "corner"] ["board", "corner"] (defScope st_on_board) := ⟨rfl, rfl, rfl, by decide +kernel, rfl, by decide +kernel, by decide +kernel⟩
abbrev st__law_direction : Stmt := topS 24
theorem sc__law_direction : FnScope ["corner", "after", "letter"] ["corner", "after"] (defScope st__law_direction) := ⟨rfl, rfl, rfl, by decide +kernel, rfl, by decide +kernel, by decide +kernel⟩
abbrev st__law_within : Stmt := topS 25
theorem sc__law_within : FnScope ["used", "letters", "letter"] ["used", "letters"] (defScope st__law_within) := ⟨rfl, rfl, rfl, by decide +kernel, rfl, by decide +kernel, by decide +kernel⟩
abbrev st__law_due : Stmt := topS 26
theorem sc__law_due : FnScope ["board", "row", "used", "k", "letter", "fitting", "letters"] ["board", "row"] (defScope st__law_due) := ⟨rfl, rfl, rfl, by decide +kernel, rfl, by decide +kernel, by decide +kernel⟩
abbrev st_normal_form : Stmt := topS 10
theorem sc_normal_form : FnScope ["row"] ["row"] (defScope st_normal_form) := ⟨rfl, rfl, rfl, by decide +kernel, rfl, by decide +kernel, by decide +kernel⟩
abbrev st_direction : Stmt := topS 9
theorem sc_direction : FnScope ["corner", "other"] ["corner", "other"] (defScope st_direction) := ⟨rfl, rfl, rfl, by decide +kernel, rfl, by decide +kernel, by decide +kernel⟩
abbrev st_normal_path : Stmt := topS 11
theorem sc_normal_path : FnScope ["board", "corners", "row", "used", "index", "corner", "letter"] ["board", "corners"] (defScope st_normal_path) := ⟨rfl, rfl, rfl, by decide +kernel, rfl, by decide +kernel, by decide +kernel⟩
abbrev st__law_is_integer : Stmt := topS 17
theorem sc__law_is_integer : FnScope ["told"] ["told"] (defScope st__law_is_integer) := ⟨rfl, rfl, rfl, by decide +kernel, rfl, by decide +kernel, by decide +kernel⟩
abbrev st__law_is_corner : Stmt := topS 18
theorem sc__law_is_corner : FnScope ["told"] ["told"] (defScope st__law_is_corner) := ⟨rfl, rfl, rfl, by decide +kernel, rfl, by decide +kernel, by decide +kernel⟩
abbrev st__law_told : Stmt := topS 27
theorem sc__law_told : FnScope ["board", "passed", "told", "e"] ["board", "passed"] (defScope st__law_told) := ⟨rfl, rfl, rfl, by decide +kernel, rfl, by decide +kernel, by decide +kernel⟩
abbrev st__law_is_path : Stmt := topS 19
theorem sc__law_is_path : FnScope ["told", "wanted", "k"] ["told", "wanted"] (defScope st__law_is_path) := ⟨rfl, rfl, rfl, by decide +kernel, rfl, by decide +kernel, by decide +kernel⟩
abbrev st__law_same : Stmt := topS 28
theorem sc__law_same : FnScope ["told", "due"] ["told", "due"] (defScope st__law_same) := ⟨rfl, rfl, rfl, by decide +kernel, rfl, by decide +kernel, by decide +kernel⟩
abbrev st__law_answers : Stmt := topS 29
theorem sc__law_answers : FnScope ["board", "row", "as_tuple", "due", "passed", "told"] ["board", "row", "as_tuple"] (defScope st__law_answers) := ⟨rfl, rfl, rfl, by decide +kernel, rfl, by decide +kernel, by decide +kernel⟩
abbrev st_law : Stmt := topS 30
theorem sc_law : FnScope ["script", "board", "row", "d", "corners", "x", "y", "corner", "told"] ["script"] (defScope st_law) := ⟨rfl, rfl, rfl, by decide +kernel, rfl, by decide +kernel, by decide +kernel⟩
structure Facts (P : Program) (w : World) (K : PySem.W.Frag) (mg : Str → Option Value) where
  a__law_draws : Addr
  d__law_draws : FuncData
  F__law_draws : Fun K "_law_draws" "_law_draws" st__law_draws a__law_draws d__law_draws
  m__law_draws : mg "_law_draws" = some (.ref a__law_draws)
  b__law_draws : Binds K d__law_draws ["cell", "sizes"] []
  a__law_board : Addr
  d__law_board : FuncData
  F__law_board : Fun K "_law_board" "_law_board" st__law_board a__law_board d__law_board
  m__law_board : mg "_law_board" = some (.ref a__law_board)
  b__law_board : Binds K d__law_board ["cell", "most"] []
  a__law_stepped : Addr
  d__law_stepped : FuncData
  F__law_stepped : Fun K "_law_stepped" "_law_stepped" st__law_stepped a__law_stepped d__law_stepped
  m__law_stepped : mg "_law_stepped" = some (.ref a__law_stepped)
  b__law_stepped : Binds K d__law_stepped ["corner", "letter"] []
  a__law_on_board : Addr
  d__law_on_board : FuncData
  F__law_on_board : Fun K "_law_on_board" "_law_on_board" st__law_on_board a__law_on_board d__law_on_board
  m__law_on_board : mg "_law_on_board" = some (.ref a__law_on_board)
  b__law_on_board : Binds K d__law_on_board ["board", "corner"] []
  a__law_walked : Addr
  d__law_walked : FuncData
  F__law_walked : Fun K "_law_walked" "_law_walked" st__law_walked a__law_walked d__law_walked
  m__law_walked : mg "_law_walked" = some (.ref a__law_walked)
  b__law_walked : Binds K d__law_walked ["board", "start_cell", "step_cell"] []
  a__law_cell : Addr
  d__law_cell : FuncData
  F__law_cell : Fun K "_law_cell" "_law_cell" st__law_cell a__law_cell d__law_cell
  m__law_cell : mg "_law_cell" = some (.ref a__law_cell)
  b__law_cell : Binds K d__law_cell ["script", "k"] []
  a__law_spoilt : Addr
  d__law_spoilt : FuncData
  F__law_spoilt : Fun K "_law_spoilt" "_law_spoilt" st__law_spoilt a__law_spoilt d__law_spoilt
  m__law_spoilt : mg "_law_spoilt" = some (.ref a__law_spoilt)
  b__law_spoilt : Binds K d__law_spoilt ["board", "row", "cell"] []
  a__law_any_row : Addr
  d__law_any_row : FuncData
  F__law_any_row : Fun K "_law_any_row" "_law_any_row" st__law_any_row a__law_any_row d__law_any_row
  m__law_any_row : mg "_law_any_row" = some (.ref a__law_any_row)
  b__law_any_row : Binds K d__law_any_row ["board", "cell"] []
  a_on_board : Addr
  d_on_board : FuncData
  F_on_board : Fun K "on_board" "on_board" st_on_board a_on_board d_on_board
  m_on_board : mg "on_board" = some (.ref a_on_board)
  b_on_board : Binds K d_on_board ["board", "corner"] []
  a__law_direction : Addr
  d__law_direction : FuncData
  F__law_direction : Fun K "_law_direction" "_law_direction" st__law_direction a__law_direction d__law_direction
  m__law_direction : mg "_law_direction" = some (.ref a__law_direction)
  b__law_direction : Binds K d__law_direction ["corner", "after"] []
  a__law_within : Addr
  d__law_within : FuncData
  F__law_within : Fun K "_law_within" "_law_within" st__law_within a__law_within d__law_within
  m__law_within : mg "_law_within" = some (.ref a__law_within)
  b__law_within : Binds K d__law_within ["used", "letters"] []
  a__law_due : Addr
  d__law_due : FuncData
  F__law_due : Fun K "_law_due" "_law_due" st__law_due a__law_due d__law_due
  m__law_due : mg "_law_due" = some (.ref a__law_due)
  b__law_due : Binds K d__law_due ["board", "row"] []
  a_normal_form : Addr
  d_normal_form : FuncData
  F_normal_form : Fun K "normal_form" "normal_form" st_normal_form a_normal_form d_normal_form
  m_normal_form : mg "normal_form" = some (.ref a_normal_form)
  b_normal_form : Binds K d_normal_form ["row"] []
  a_direction : Addr
  d_direction : FuncData
  F_direction : Fun K "direction" "direction" st_direction a_direction d_direction
  m_direction : mg "direction" = some (.ref a_direction)
  b_direction : Binds K d_direction ["corner", "other"] []
  a_normal_path : Addr
  d_normal_path : FuncData
  F_normal_path : Fun K "normal_path" "normal_path" st_normal_path a_normal_path d_normal_path
  m_normal_path : mg "normal_path" = some (.ref a_normal_path)
  b_normal_path : Binds K d_normal_path ["board", "corners"] []
  a__law_is_integer : Addr
  d__law_is_integer : FuncData
  F__law_is_integer : Fun K "_law_is_integer" "_law_is_integer" st__law_is_integer a__law_is_integer d__law_is_integer
  m__law_is_integer : mg "_law_is_integer" = some (.ref a__law_is_integer)
  b__law_is_integer : Binds K d__law_is_integer ["told"] []
  a__law_is_corner : Addr
  d__law_is_corner : FuncData
  F__law_is_corner : Fun K "_law_is_corner" "_law_is_corner" st__law_is_corner a__law_is_corner d__law_is_corner
  m__law_is_corner : mg "_law_is_corner" = some (.ref a__law_is_corner)
  b__law_is_corner : Binds K d__law_is_corner ["told"] []
  a__law_told : Addr
  d__law_told : FuncData
  F__law_told : Fun K "_law_told" "_law_told" st__law_told a__law_told d__law_told
  m__law_told : mg "_law_told" = some (.ref a__law_told)
  b__law_told : Binds K d__law_told ["board", "passed"] []
  a__law_is_path : Addr
  d__law_is_path : FuncData
  F__law_is_path : Fun K "_law_is_path" "_law_is_path" st__law_is_path a__law_is_path d__law_is_path
  m__law_is_path : mg "_law_is_path" = some (.ref a__law_is_path)
  b__law_is_path : Binds K d__law_is_path ["told", "wanted"] []
  a__law_same : Addr
  d__law_same : FuncData
  F__law_same : Fun K "_law_same" "_law_same" st__law_same a__law_same d__law_same
  m__law_same : mg "_law_same" = some (.ref a__law_same)
  b__law_same : Binds K d__law_same ["told", "due"] []
  a__law_answers : Addr
  d__law_answers : FuncData
  F__law_answers : Fun K "_law_answers" "_law_answers" st__law_answers a__law_answers d__law_answers
  m__law_answers : mg "_law_answers" = some (.ref a__law_answers)
  b__law_answers : Binds K d__law_answers ["board", "row", "as_tuple"] []
  a_law : Addr
  d_law : FuncData
  F_law : Fun K "law" "law" st_law a_law d_law
  m_law : mg "law" = some (.ref a_law)
  b_law : Binds K d_law ["script"] []
  n_ValueError : mg "ValueError" = none
  n_bool : mg "bool" = none
  n_enumerate : mg "enumerate" = none
  n_int : mg "int" = none
  n_isinstance : mg "isinstance" = none
  n_len : mg "len" = none
  n_list : mg "list" = none
  n_range : mg "range" = none
  n_tuple : mg "tuple" = none
  a_DIRECTIONS : Addr
  c_DIRECTIONS : mg "DIRECTIONS" = some (.ref a_DIRECTIONS)
  k_DIRECTIONS : KDN P w K a_DIRECTIONS tabv_DIRECTIONS
  a_OPPOSITES : Addr
  c_OPPOSITES : mg "OPPOSITES" = some (.ref a_OPPOSITES)
  k_OPPOSITES : KDS w K a_OPPOSITES tabv_OPPOSITES
  c_PlaneError : Addr
  m_PlaneError : mg "PlaneError" = some (.ref c_PlaneError)
  v_PlaneError : exV K "PlaneError" = .ref c_PlaneError
  c_OffBoard : Addr
  m_OffBoard : mg "OffBoard" = some (.ref c_OffBoard)
  v_OffBoard : exV K "OffBoard" = .ref c_OffBoard
  c_NotAPath : Addr
  m_NotAPath : mg "NotAPath" = some (.ref c_NotAPath)
  v_NotAPath : exV K "NotAPath" = .ref c_NotAPath
  E : ErrOk K errsL
  i_NotAPath : ∀ (base : Heap), Exc1 P w K mg base "NotAPath" ["index"] 1
  i_OffBoard : ∀ (base : Heap), Exc1 P w K mg base "OffBoard" ["corner"] 1
section
variable {P : Program} {w : World} {K : PySem.W.Frag} {mg : Str → Option Value} {base : Heap}
theorem ok__law_draws (Z : Facts P w K mg) : FnOk P w K mg base (L2N.CX P w) 1 Z.a__law_draws Z.d__law_draws ["cell", "sizes"] (spD K 2 F__law_draws) :=
  fn_ok (k := 0) Z.F__law_draws sc__law_draws (by decide) fun cdv A outer s H E hr =>
    (dss_cons (ds_set (i := 2) sc__law_draws.nd rfl (by first | exact .inl rfl | exact .inr rfl) (de_lst da_nil))
    (dss_cons (ds_set (i := 3) sc__law_draws.nd rfl (by first | exact .inl rfl | exact .inr rfl) (de_callTy call_int1 fits_int Z.n_int boot_int (da_cons (de_name 0) da_nil)))
    (dss_cons (ds_set (i := 4) sc__law_draws.nd rfl (by first | exact .inl rfl | exact .inr rfl) (de_cmp op_ge fits_ge (de_name 3) (de_bin op_pow fits_pow de_int de_int) (by first | exact nomark _ | rfl)))
    (dss_cons (ds_for PassesOwn.leaving rfl (di_range1 (by rfl) Z.n_range (da_cons (de_callB call_len fits_len Z.n_len boot_len (da_cons (de_name 1) da_nil)) da_nil)) (dg_name (i := 5) sc__law_draws.nd rfl (by first | exact .inl rfl | exact .inr rfl))
    (dss_cons (ds_set (i := 6) sc__law_draws.nd rfl (by first | exact .inl rfl | exact .inr rfl) (de_ix (ix_all hr) fits_ixG (de_name 1) (de_name 5) (fun _ _ => rfl)))
    (dss_one (ds_if (dt_w (dw_and (dt_val (de_name 4)) (dw_and1 (dt_cmp op_gt fits_gt (de_name 3) de_int (by first | exact nomark _ | rfl)))))
    (dss_cons (ds_mut (i := 2) PySem.F.plainAttrs_list PySem.F.slot_list_append PySem.F.type_list_append mt_append mut_append rfl (by first | exact .inl rfl | exact .inr (.inl rfl) | exact .inr (.inr rfl)) (da_cons (de_bin op_mod fits_mod (de_callTy call_int1 fits_int Z.n_int boot_int (da_cons (de_name 3) da_nil)) (de_name 6)) da_nil))
    (dss_one (ds_set (i := 3) sc__law_draws.nd rfl (by first | exact .inl rfl | exact .inr rfl) (de_bin op_fdivW fits_div (de_name 3) (de_name 6)))))
    (dss_cons (ds_set (i := 7) sc__law_draws.nd rfl (by first | exact .inl rfl | exact .inr rfl) (de_bin op_mod fits_mod (de_callTy call_int1 fits_int Z.n_int boot_int (da_cons (de_bin op_addG fits_add (de_bin op_addG fits_add (de_name 0) (de_bin op_mulG fits_mul de_int (de_name 5))) de_int) da_nil)) de_int))
    (dss_cons (ds_set (i := 7) sc__law_draws.nd rfl (by first | exact .inl rfl | exact .inr rfl) (de_bin op_mod fits_mod (de_callTy call_int1 fits_int Z.n_int boot_int (da_cons (de_bin op_mulG fits_mul (de_name 7) (de_bin op_addG fits_add (de_name 7) de_int)) da_nil)) de_int))
    (dss_cons (ds_set (i := 7) sc__law_draws.nd rfl (by first | exact .inl rfl | exact .inr rfl) (de_bin op_mod fits_mod (de_callTy call_int1 fits_int Z.n_int boot_int (da_cons (de_bin op_addG fits_add (de_bin op_mulG fits_mul (de_name 7) (de_bin op_addG fits_add (de_name 7) de_int)) (de_bin op_mulG fits_mul de_int (de_name 5))) da_nil)) de_int))
    (dss_one (ds_mut (i := 2) PySem.F.plainAttrs_list PySem.F.slot_list_append PySem.F.type_list_append mt_append mut_append rfl (by first | exact .inl rfl | exact .inr (.inl rfl) | exact .inr (.inr rfl)) (da_cons (de_bin op_mod fits_mod (de_callTy call_int1 fits_int Z.n_int boot_int (da_cons (de_bin op_fdivW fits_div (de_name 7) de_int) da_nil)) (de_name 6)) da_nil))))))))))
    (dss_one (ds_retV 2))))))
theorem ok__law_board (Z : Facts P w K mg) : FnOk P w K mg base (L2N.CX P w) 2 Z.a__law_board Z.d__law_board ["cell", "most"] (spD K 2 F__law_board) :=
  fn_ok (k := 1) Z.F__law_board sc__law_board (by decide) fun cdv A outer s H E hr =>
    (dss_cons (ds_set (i := 2) sc__law_board.nd rfl (by first | exact .inl rfl | exact .inr rfl) (de_call (n := 2) (L2N.takes_of rfl rfl rfl rfl) (ok__law_draws Z) (hr.mono (by decide)) Z.m__law_draws Z.F__law_draws.kp Z.b__law_draws (da_cons (de_name 0) (da_cons (de_lst (da_cons de_int (da_cons (de_name 1) (da_cons (de_name 1) (da_cons (de_bin op_addG fits_add (de_name 1) de_int) (da_cons (de_bin op_addG fits_add (de_name 1) de_int) da_nil)))))) da_nil)) (eCons_len (eCons_len (fun _ _ h => eNil_len h)))))
    (dss_cons (ds_if (dt_cmp (op_eqD hr.units) fits_eq (de_ix (ix_all hr) fits_ixG (de_name 2) de_int (fun _ _ => rfl)) de_int (by first | exact nomark _ | rfl))
    (dss_one (ds_ret (de_tup (da_cons (de_ix (ix_all hr) fits_ixG (de_name 2) de_int (fun _ _ => rfl)) (da_cons (de_ix (ix_all hr) fits_ixG (de_name 2) de_int (fun _ _ => rfl)) da_nil)))))
    dss_nil)
    (dss_one (ds_ret (de_tup (da_cons (de_bin op_addG fits_add (de_ix (ix_all hr) fits_ixG (de_name 2) de_int (fun _ _ => rfl)) de_int) (da_cons (de_bin op_addG fits_add (de_ix (ix_all hr) fits_ixG (de_name 2) de_int (fun _ _ => rfl)) de_int) da_nil)))))))
theorem ok__law_stepped (Z : Facts P w K mg) : FnOk P w K mg base (L2N.CX P w) 1 Z.a__law_stepped Z.d__law_stepped ["corner", "letter"] (spD K 2 F__law_stepped) :=
  fn_ok (k := 0) Z.F__law_stepped sc__law_stepped (by decide) fun cdv A outer s H E hr =>
    (dss_cons (ds_if (dt_cmp (op_eqD hr.units) fits_eq (de_name 1) de_str (by first | exact nomark _ | rfl))
    (dss_one (ds_ret (de_tup (da_cons (de_bin op_addG fits_add (de_ix (ix_all hr) fits_ixG (de_name 0) de_int (fun _ _ => rfl)) de_int) (da_cons (de_ix (ix_all hr) fits_ixG (de_name 0) de_int (fun _ _ => rfl)) da_nil)))))
    dss_nil)
    (dss_cons (ds_if (dt_cmp (op_eqD hr.units) fits_eq (de_name 1) de_str (by first | exact nomark _ | rfl))
    (dss_one (ds_ret (de_tup (da_cons (de_bin op_sub fits_sub (de_ix (ix_all hr) fits_ixG (de_name 0) de_int (fun _ _ => rfl)) de_int) (da_cons (de_ix (ix_all hr) fits_ixG (de_name 0) de_int (fun _ _ => rfl)) da_nil)))))
    dss_nil)
    (dss_cons (ds_if (dt_cmp (op_eqD hr.units) fits_eq (de_name 1) de_str (by first | exact nomark _ | rfl))
    (dss_one (ds_ret (de_tup (da_cons (de_ix (ix_all hr) fits_ixG (de_name 0) de_int (fun _ _ => rfl)) (da_cons (de_bin op_addG fits_add (de_ix (ix_all hr) fits_ixG (de_name 0) de_int (fun _ _ => rfl)) de_int) da_nil)))))
    dss_nil)
    (dss_one (ds_ret (de_tup (da_cons (de_ix (ix_all hr) fits_ixG (de_name 0) de_int (fun _ _ => rfl)) (da_cons (de_bin op_sub fits_sub (de_ix (ix_all hr) fits_ixG (de_name 0) de_int (fun _ _ => rfl)) de_int) da_nil))))))))
theorem ok__law_on_board (Z : Facts P w K mg) : FnOk P w K mg base (L2N.CX P w) 1 Z.a__law_on_board Z.d__law_on_board ["board", "corner"] (spD K 2 F__law_on_board) :=
  fn_ok (k := 0) Z.F__law_on_board sc__law_on_board (by decide) fun cdv A outer s H E hr =>
    (dss_one (ds_ret (de_and (de_chain op_le fits_le op_le fits_le de_int (de_ix (ix_all hr) fits_ixG (de_name 1) de_int (fun _ _ => rfl)) (de_ix (ix_all hr) fits_ixG (de_name 0) de_int (fun _ _ => rfl))) (de_one (de_chain op_le fits_le op_le fits_le de_int (de_ix (ix_all hr) fits_ixG (de_name 1) de_int (fun _ _ => rfl)) (de_ix (ix_all hr) fits_ixG (de_name 0) de_int (fun _ _ => rfl)))))))
theorem ok__law_walked (Z : Facts P w K mg) : FnOk P w K mg base (L2N.CX P w) 2 Z.a__law_walked Z.d__law_walked ["board", "start_cell", "step_cell"] (spD K 3 F__law_walked) :=
  fn_ok (k := 1) Z.F__law_walked sc__law_walked (by decide) fun cdv A outer s H E hr =>
    (dss_cons (ds_set (i := 3) sc__law_walked.nd rfl (by first | exact .inl rfl | exact .inr rfl) (de_call (n := 2) (L2N.takes_of rfl rfl rfl rfl) (ok__law_draws Z) (hr.mono (by decide)) Z.m__law_draws Z.F__law_draws.kp Z.b__law_draws (da_cons (de_name 1) (da_cons (de_lst (da_cons (de_bin op_addG fits_add (de_ix (ix_all hr) fits_ixG (de_name 0) de_int (fun _ _ => rfl)) de_int) (da_cons (de_bin op_addG fits_add (de_ix (ix_all hr) fits_ixG (de_name 0) de_int (fun _ _ => rfl)) de_int) (da_cons de_int (da_cons de_int (da_cons de_int da_nil)))))) da_nil)) (eCons_len (eCons_len (fun _ _ h => eNil_len h)))))
    (dss_cons (ds_set (i := 4) sc__law_walked.nd rfl (by first | exact .inl rfl | exact .inr rfl) (de_ix (ix_all hr) fits_ixG (de_lst (da_cons de_str (da_cons de_str (da_cons de_str (da_cons de_str da_nil))))) (de_ix (ix_all hr) fits_ixG (de_name 3) de_int (fun _ _ => rfl)) (fun _ _ => rfl)))
    (dss_cons (ds_set (i := 5) sc__law_walked.nd rfl (by first | exact .inl rfl | exact .inr rfl) (de_lst (da_cons (de_tup (da_cons (de_ix (ix_all hr) fits_ixG (de_name 3) de_int (fun _ _ => rfl)) (da_cons (de_ix (ix_all hr) fits_ixG (de_name 3) de_int (fun _ _ => rfl)) da_nil))) da_nil)))
    (dss_cons (ds_if (dt_cmp (op_eqD hr.units) fits_eq (de_ix (ix_all hr) fits_ixG (de_name 3) de_int (fun _ _ => rfl)) de_int (by first | exact nomark _ | rfl))
    (dss_one (ds_set (i := 5) sc__law_walked.nd rfl (by first | exact .inl rfl | exact .inr rfl) (de_lst (da_cons (de_tup (da_cons (de_ix (ix_all hr) fits_ixG (de_lst (da_cons de_int (da_cons (de_ix (ix_all hr) fits_ixG (de_name 0) de_int (fun _ _ => rfl)) (da_cons de_int (da_cons (de_ix (ix_all hr) fits_ixG (de_name 0) de_int (fun _ _ => rfl)) da_nil))))) (de_ix (ix_all hr) fits_ixG (de_name 3) de_int (fun _ _ => rfl)) (fun _ _ => rfl)) (da_cons (de_ix (ix_all hr) fits_ixG (de_lst (da_cons de_int (da_cons (de_ix (ix_all hr) fits_ixG (de_name 0) de_int (fun _ _ => rfl)) (da_cons (de_ix (ix_all hr) fits_ixG (de_name 0) de_int (fun _ _ => rfl)) (da_cons de_int da_nil))))) (de_ix (ix_all hr) fits_ixG (de_name 3) de_int (fun _ _ => rfl)) (fun _ _ => rfl)) da_nil))) da_nil))))
    dss_nil)
    (dss_cons (ds_set (i := 6) sc__law_walked.nd rfl (by first | exact .inl rfl | exact .inr rfl) (de_call (n := 2) (L2N.takes_of rfl rfl rfl rfl) (ok__law_draws Z) (hr.mono (by decide)) Z.m__law_draws Z.F__law_draws.kp Z.b__law_draws (da_cons (de_name 2) (da_cons (de_bin op_mulG fits_mul (de_lst (da_cons de_int da_nil)) de_int) da_nil)) (eCons_len (eCons_len (fun _ _ h => eNil_len h)))))
    (dss_cons (ds_for PassesOwn.leaving rfl (di_range1 (by rfl) Z.n_range (da_cons (de_ix (ix_all hr) fits_ixG (de_name 3) de_int (fun _ _ => rfl)) da_nil)) (dg_name (i := 7) sc__law_walked.nd rfl (by first | exact .inl rfl | exact .inr rfl))
    (dss_cons (ds_set (i := 8) sc__law_walked.nd rfl (by first | exact .inl rfl | exact .inr rfl) (de_call (n := 2) (L2N.takes_of rfl rfl rfl rfl) (ok__law_stepped Z) (hr.mono (by decide)) Z.m__law_stepped Z.F__law_stepped.kp Z.b__law_stepped (da_cons (de_ix (ix_all hr) fits_ixG (de_name 5) (de_un un_neg fits_neg de_int) (fun _ _ => rfl)) (da_cons (de_ix (ix_all hr) fits_ixG (de_name 4) (de_ix (ix_all hr) fits_ixG (de_name 6) (de_name 7) (fun _ _ => rfl)) (fun _ _ => rfl)) da_nil)) (eCons_len (eCons_len (fun _ _ h => eNil_len h)))))
    (dss_one (ds_if (dt_val (de_call (n := 2) (L2N.takes_of rfl rfl rfl rfl) (ok__law_on_board Z) (hr.mono (by decide)) Z.m__law_on_board Z.F__law_on_board.kp Z.b__law_on_board (da_cons (de_name 0) (da_cons (de_name 8) da_nil)) (eCons_len (eCons_len (fun _ _ h => eNil_len h)))))
    (dss_one (ds_mut (i := 5) PySem.F.plainAttrs_list PySem.F.slot_list_append PySem.F.type_list_append mt_append mut_append rfl (by first | exact .inl rfl | exact .inr (.inl rfl) | exact .inr (.inr rfl)) (da_cons (de_name 8) da_nil)))
    dss_nil))))
    (dss_one (ds_retV 5))))))))
theorem ok__law_cell (Z : Facts P w K mg) : FnOk P w K mg base (L2N.CX P w) 1 Z.a__law_cell Z.d__law_cell ["script", "k"] (spD K 2 F__law_cell) :=
  fn_ok (k := 0) Z.F__law_cell sc__law_cell (by decide) fun cdv A outer s H E hr =>
    (dss_cons (ds_if (dt_cmp (op_ltG hr.units0) fits_lt (de_name 1) (de_callB call_len fits_len Z.n_len boot_len (da_cons (de_name 0) da_nil)) (by first | exact nomark _ | rfl))
    (dss_one (ds_ret (de_callTy call_int1 fits_int Z.n_int boot_int (da_cons (de_ix (ix_all hr) fits_ixG (de_name 0) (de_name 1) (fun _ _ => rfl)) da_nil))))
    dss_nil)
    (dss_one (ds_ret de_int)))
theorem ok__law_spoilt (Z : Facts P w K mg) : FnOk P w K mg base (L2N.CX P w) 2 Z.a__law_spoilt Z.d__law_spoilt ["board", "row", "cell"] (spD K 3 F__law_spoilt) :=
  fn_ok (k := 1) Z.F__law_spoilt sc__law_spoilt (by decide) fun cdv A outer s H E hr =>
    (dss_cons (ds_set (i := 3) sc__law_spoilt.nd rfl (by first | exact .inl rfl | exact .inr rfl) (de_call (n := 2) (L2N.takes_of rfl rfl rfl rfl) (ok__law_draws Z) (hr.mono (by decide)) Z.m__law_draws Z.F__law_draws.kp Z.b__law_draws (da_cons (de_name 2) (da_cons (de_lst (da_cons de_int (da_cons de_int (da_cons de_int (da_cons de_int (da_cons (de_bin op_addG fits_add (de_ix (ix_all hr) fits_ixG (de_name 0) de_int (fun _ _ => rfl)) de_int) (da_cons (de_bin op_addG fits_add (de_ix (ix_all hr) fits_ixG (de_name 0) de_int (fun _ _ => rfl)) de_int) (da_cons de_int (da_cons de_int da_nil))))))))) da_nil)) (eCons_len (eCons_len (fun _ _ h => eNil_len h)))))
    (dss_cons (ds_if (dt_w (dw_or (dt_cmp (op_eqD hr.units) fits_eq (de_callB call_len fits_len Z.n_len boot_len (da_cons (de_name 1) da_nil)) de_int (by first | exact nomark _ | rfl)) (dw_or1 (dt_cmp (op_eqD hr.units) fits_eq (de_ix (ix_all hr) fits_ixG (de_name 3) de_int (fun _ _ => rfl)) de_int (by first | exact nomark _ | rfl)))))
    (dss_one (ds_ret (de_lst da_nil)))
    dss_nil)
    (dss_cons (ds_set (i := 4) sc__law_spoilt.nd rfl (by first | exact .inl rfl | exact .inr rfl) (de_bin op_mod fits_mod (de_callTy call_int1 fits_int Z.n_int boot_int (da_cons (de_ix (ix_all hr) fits_ixG (de_name 3) de_int (fun _ _ => rfl)) da_nil)) (de_callB call_len fits_len Z.n_len boot_len (da_cons (de_name 1) da_nil))))
    (dss_cons (ds_set (i := 5) sc__law_spoilt.nd rfl (by first | exact .inl rfl | exact .inr rfl) (de_ix (ix_all hr) fits_ixG (de_name 1) (de_name 4) (fun _ _ => rfl)))
    (dss_cons (ds_set (i := 6) sc__law_spoilt.nd rfl (by first | exact .inl rfl | exact .inr rfl) (de_ix (ix_all hr) fits_ixG de_str (de_ix (ix_all hr) fits_ixG (de_name 3) de_int (fun _ _ => rfl)) (fun _ _ => rfl)))
    (dss_cons (ds_if (dt_cmp op_le fits_le (de_ix (ix_all hr) fits_ixG (de_name 3) de_int (fun _ _ => rfl)) de_int (by first | exact nomark _ | rfl))
    (dss_one (ds_ret (de_bin op_addG fits_add (de_slice (de_name 1) do_none (do_some (de_name 4))) (de_lc rfl sc__law_spoilt.nd (di_seq (de_slice (de_name 1) (do_some (de_name 4)) do_none)) (blkOk_by (own := [("spot", 10)]) (by kernel_rfl)) rfl (fun s H C cl fp => (dg_name (i := 10) sc__law_spoilt.nd rfl (by first | exact .inl rfl | exact .inr rfl))) (fun s H C cl fp => dts_nil) (fun s H C cl fp => (de_tup (da_cons (de_bin op_sub fits_sub (de_bin op_addG fits_add (de_ix (ix_all hr) fits_ixG (de_name 10) de_int (fun _ _ => rfl)) (de_ix (ix_all hr) fits_ixG (de_name 3) de_int (fun _ _ => rfl))) de_int) (da_cons (de_bin op_sub fits_sub (de_bin op_addG fits_add (de_ix (ix_all hr) fits_ixG (de_name 10) de_int (fun _ _ => rfl)) (de_ix (ix_all hr) fits_ixG (de_name 3) de_int (fun _ _ => rfl))) de_int) da_nil))))))))
    dss_nil)
    (dss_cons (ds_if (dt_cmp (op_eqD hr.units) fits_eq (de_ix (ix_all hr) fits_ixG (de_name 3) de_int (fun _ _ => rfl)) de_int (by first | exact nomark _ | rfl))
    (dss_one (ds_ret (de_bin op_addG fits_add (de_bin op_addG fits_add (de_slice (de_name 1) do_none (do_some (de_name 4))) (de_lst (da_cons (de_tup (da_cons (de_bin op_sub fits_sub (de_ix (ix_all hr) fits_ixG (de_name 3) de_int (fun _ _ => rfl)) de_int) (da_cons (de_bin op_sub fits_sub (de_ix (ix_all hr) fits_ixG (de_name 3) de_int (fun _ _ => rfl)) de_int) da_nil))) da_nil))) (de_slice (de_name 1) (do_some (de_bin op_addG fits_add (de_name 4) de_int)) do_none))))
    dss_nil)
    (dss_cons (ds_if (dt_cmp (op_eqD hr.units) fits_eq (de_ix (ix_all hr) fits_ixG (de_name 3) de_int (fun _ _ => rfl)) de_int (by first | exact nomark _ | rfl))
    (dss_one (ds_ret (de_bin op_addG fits_add (de_bin op_addG fits_add (de_slice (de_name 1) do_none (do_some (de_name 4))) (de_lst (da_cons (de_tup (da_cons (de_bin op_sub fits_sub (de_ix (ix_all hr) fits_ixG (de_name 3) de_int (fun _ _ => rfl)) de_int) (da_cons (de_bin op_sub fits_sub (de_ix (ix_all hr) fits_ixG (de_name 3) de_int (fun _ _ => rfl)) de_int) da_nil))) da_nil))) (de_slice (de_name 1) (do_some (de_name 4)) do_none))))
    dss_nil)
    (dss_cons (ds_if (dt_cmp op_le fits_le (de_ix (ix_all hr) fits_ixG (de_name 3) de_int (fun _ _ => rfl)) de_int (by first | exact nomark _ | rfl))
    (dss_cons (ds_set (i := 7) sc__law_spoilt.nd rfl (by first | exact .inl rfl | exact .inr rfl) (de_callTy call_list_of fits_listOf Z.n_list boot_list (da_cons (de_name 1) da_nil)))
    (dss_cons (ds_for PassesOwn.leaving rfl (di_range1 (by rfl) Z.n_range (da_cons (de_bin op_addG fits_add (de_ix (ix_all hr) fits_ixG (de_name 3) de_int (fun _ _ => rfl)) de_int) da_nil)) (dg_name (i := 8) sc__law_spoilt.nd rfl (by first | exact .inl rfl | exact .inr rfl))
    (dss_one (ds_mut (i := 7) PySem.F.plainAttrs_list PySem.F.slot_list_append PySem.F.type_list_append mt_append mut_append rfl (by first | exact .inl rfl | exact .inr (.inl rfl) | exact .inr (.inr rfl)) (da_cons (de_call (n := 2) (L2N.takes_of rfl rfl rfl rfl) (ok__law_stepped Z) (hr.mono (by decide)) Z.m__law_stepped Z.F__law_stepped.kp Z.b__law_stepped (da_cons (de_ix (ix_all hr) fits_ixG (de_name 7) (de_un un_neg fits_neg de_int) (fun _ _ => rfl)) (da_cons (de_name 6) da_nil)) (eCons_len (eCons_len (fun _ _ h => eNil_len h)))) da_nil))))
    (dss_one (ds_retV 7))))
    dss_nil)
    (dss_cons (ds_if (dt_cmp (op_eqD hr.units) fits_eq (de_ix (ix_all hr) fits_ixG (de_name 3) de_int (fun _ _ => rfl)) de_int (by first | exact nomark _ | rfl))
    (dss_one (ds_ret (de_bin op_addG fits_add (de_name 1) (de_revL (de_slice (de_name 1) do_none (do_some (de_un un_neg fits_neg de_int)))))))
    dss_nil)
    (dss_cons (ds_if (dt_cmp (op_eqD hr.units) fits_eq (de_ix (ix_all hr) fits_ixG (de_name 3) de_int (fun _ _ => rfl)) de_int (by first | exact nomark _ | rfl))
    (dss_one (ds_ret (de_bin op_addG fits_add (de_slice (de_name 1) do_none (do_some (de_name 4))) (de_slice (de_name 1) (do_some (de_bin op_addG fits_add (de_name 4) de_int)) do_none))))
    dss_nil)
    (dss_cons (ds_if (dt_cmp (op_eqD hr.units) fits_eq (de_ix (ix_all hr) fits_ixG (de_name 3) de_int (fun _ _ => rfl)) de_int (by first | exact nomark _ | rfl))
    (dss_one (ds_ret (de_bin op_addG fits_add (de_bin op_addG fits_add (de_slice (de_name 1) do_none (do_some (de_name 4))) (de_lst (da_cons (de_name 5) da_nil))) (de_slice (de_name 1) (do_some (de_name 4)) do_none))))
    dss_nil)
    (dss_cons (ds_if (dt_cmp (op_eqD hr.units) fits_eq (de_ix (ix_all hr) fits_ixG (de_name 3) de_int (fun _ _ => rfl)) de_int (by first | exact nomark _ | rfl))
    (dss_one (ds_ret (de_bin op_addG fits_add (de_bin op_addG fits_add (de_slice (de_name 1) do_none (do_some (de_name 4))) (de_lst (da_cons (de_name 5) (da_cons (de_call (n := 2) (L2N.takes_of rfl rfl rfl rfl) (ok__law_stepped Z) (hr.mono (by decide)) Z.m__law_stepped Z.F__law_stepped.kp Z.b__law_stepped (da_cons (de_name 5) (da_cons (de_name 6) da_nil)) (eCons_len (eCons_len (fun _ _ h => eNil_len h)))) da_nil)))) (de_slice (de_name 1) (do_some (de_name 4)) do_none))))
    dss_nil)
    (dss_cons (ds_set (i := 9) sc__law_spoilt.nd rfl (by first | exact .inl rfl | exact .inr rfl) (de_lst (da_cons (de_tup (da_cons (de_bin op_addG fits_add (de_bin op_addG fits_add (de_ix (ix_all hr) fits_ixG (de_name 0) de_int (fun _ _ => rfl)) de_int) (de_ix (ix_all hr) fits_ixG (de_name 3) de_int (fun _ _ => rfl))) (da_cons (de_ix (ix_all hr) fits_ixG (de_name 5) de_int (fun _ _ => rfl)) da_nil))) (da_cons (de_tup (da_cons (de_bin op_sub fits_sub (de_un un_neg fits_neg de_int) (de_ix (ix_all hr) fits_ixG (de_name 3) de_int (fun _ _ => rfl))) (da_cons (de_ix (ix_all hr) fits_ixG (de_name 5) de_int (fun _ _ => rfl)) da_nil))) da_nil))))
    (dss_cons (ds_set (i := 9) sc__law_spoilt.nd rfl (by first | exact .inl rfl | exact .inr rfl) (de_bin op_addG fits_add (de_name 9) (de_lst (da_cons (de_tup (da_cons (de_ix (ix_all hr) fits_ixG (de_name 5) de_int (fun _ _ => rfl)) (da_cons (de_bin op_addG fits_add (de_bin op_addG fits_add (de_ix (ix_all hr) fits_ixG (de_name 0) de_int (fun _ _ => rfl)) de_int) (de_ix (ix_all hr) fits_ixG (de_name 3) de_int (fun _ _ => rfl))) da_nil))) (da_cons (de_tup (da_cons (de_ix (ix_all hr) fits_ixG (de_name 5) de_int (fun _ _ => rfl)) (da_cons (de_bin op_sub fits_sub (de_un un_neg fits_neg de_int) (de_ix (ix_all hr) fits_ixG (de_name 3) de_int (fun _ _ => rfl))) da_nil))) da_nil)))))
    (dss_one (ds_ret (de_bin op_addG fits_add (de_bin op_addG fits_add (de_slice (de_name 1) do_none (do_some (de_name 4))) (de_lst (da_cons (de_ix (ix_all hr) fits_ixG (de_name 9) (de_ix (ix_all hr) fits_ixG (de_name 3) de_int (fun _ _ => rfl)) (fun _ _ => rfl)) da_nil))) (de_slice (de_name 1) (do_some (de_bin op_addG fits_add (de_name 4) de_int)) do_none)))))))))))))))))))
theorem ok__law_any_row (Z : Facts P w K mg) : FnOk P w K mg base (L2N.CX P w) 2 Z.a__law_any_row Z.d__law_any_row ["board", "cell"] (spD K 2 F__law_any_row) :=
  fn_ok (k := 1) Z.F__law_any_row sc__law_any_row (by decide) fun cdv A outer s H E hr =>
    (dss_cons (ds_set (i := 2) sc__law_any_row.nd rfl (by first | exact .inl rfl | exact .inr rfl) (de_call (n := 2) (L2N.takes_of rfl rfl rfl rfl) (ok__law_draws Z) (hr.mono (by decide)) Z.m__law_draws Z.F__law_draws.kp Z.b__law_draws (da_cons (de_name 1) (da_cons (de_bin op_addG fits_add (de_lst (da_cons de_int da_nil)) (de_bin op_mulG fits_mul (de_lst (da_cons (de_bin op_addG fits_add (de_ix (ix_all hr) fits_ixG (de_name 0) de_int (fun _ _ => rfl)) de_int) (da_cons (de_bin op_addG fits_add (de_ix (ix_all hr) fits_ixG (de_name 0) de_int (fun _ _ => rfl)) de_int) da_nil))) de_int)) da_nil)) (eCons_len (eCons_len (fun _ _ h => eNil_len h)))))
    (dss_one (ds_ret (de_lc rfl sc__law_any_row.nd (di_range1 (by rfl) Z.n_range (da_cons (de_ix (ix_all hr) fits_ixG (de_name 2) de_int (fun _ _ => rfl)) da_nil)) (blkOk_by (own := [("k", 3)]) (by kernel_rfl)) rfl (fun s H C cl fp => (dg_name (i := 3) sc__law_any_row.nd rfl (by first | exact .inl rfl | exact .inr rfl))) (fun s H C cl fp => dts_nil) (fun s H C cl fp => (de_tup (da_cons (de_bin op_sub fits_sub (de_ix (ix_all hr) fits_ixG (de_name 2) (de_bin op_addG fits_add (de_bin op_mulG fits_mul de_int (de_name 3)) de_int) (fun _ _ => rfl)) de_int) (da_cons (de_bin op_sub fits_sub (de_ix (ix_all hr) fits_ixG (de_name 2) (de_bin op_addG fits_add (de_bin op_mulG fits_mul de_int (de_name 3)) de_int) (fun _ _ => rfl)) de_int) da_nil))))))))
theorem ok_on_board (Z : Facts P w K mg) : FnOk P w K mg base (L2N.CX P w) 1 Z.a_on_board Z.d_on_board ["board", "corner"] (spD K 2 F_on_board) :=
  fn_ok (k := 0) Z.F_on_board sc_on_board (by decide) fun cdv A outer s H E hr =>
    (dss_one (ds_ret (de_and (de_chain op_le fits_le op_le fits_le de_int (de_ix (ix_all hr) fits_ixG (de_name 1) de_int (fun _ _ => rfl)) (de_ix (ix_all hr) fits_ixG (de_name 0) de_int (fun _ _ => rfl))) (de_one (de_chain op_le fits_le op_le fits_le de_int (de_ix (ix_all hr) fits_ixG (de_name 1) de_int (fun _ _ => rfl)) (de_ix (ix_all hr) fits_ixG (de_name 0) de_int (fun _ _ => rfl)))))))
theorem ok__law_direction (Z : Facts P w K mg) : FnOk P w K mg base (L2N.CX P w) 2 Z.a__law_direction Z.d__law_direction ["corner", "after"] (spD K 2 F__law_direction) :=
  fn_ok (k := 1) Z.F__law_direction sc__law_direction (by decide) fun cdv A outer s H E hr =>
    (dss_cons (ds_for PassesOwn.leaving rfl (di_seq (de_lst (da_cons de_str (da_cons de_str (da_cons de_str (da_cons de_str da_nil)))))) (dg_name (i := 2) sc__law_direction.nd rfl (by first | exact .inl rfl | exact .inr rfl))
    (dss_one (ds_if (dt_cmp (op_eqD hr.units) fits_eq (de_call (n := 2) (L2N.takes_of rfl rfl rfl rfl) (ok__law_stepped Z) (hr.mono (by decide)) Z.m__law_stepped Z.F__law_stepped.kp Z.b__law_stepped (da_cons (de_name 0) (da_cons (de_name 2) da_nil)) (eCons_len (eCons_len (fun _ _ h => eNil_len h)))) (de_name 1) (by first | exact nomark _ | rfl))
    (dss_one (ds_retV 2))
    dss_nil)))
    (dss_one (ds_ret de_str)))
theorem ok__law_within (Z : Facts P w K mg) : FnOk P w K mg base (L2N.CX P w) 1 Z.a__law_within Z.d__law_within ["used", "letters"] (spD K 2 F__law_within) :=
  fn_ok (k := 0) Z.F__law_within sc__law_within (by decide) fun cdv A outer s H E hr =>
    (dss_one (ds_ret (de_cmp (op_eqD hr.units) fits_eq (de_callB call_len fits_len Z.n_len boot_len (da_cons (de_lc rfl sc__law_within.nd (di_seq2 (de_name 0)) (blkOk_by (own := [("letter", 2)]) (by kernel_rfl)) rfl (fun s H C cl fp => (dg_name (i := 2) sc__law_within.nd rfl (by first | exact .inl rfl | exact .inr rfl))) (fun s H C cl fp => (dts_one (dt_cmp (op_niW (hu65 hr)) fits_inW (de_name 2) (de_name 1) (by first | exact nomark _ | rfl)))) (fun s H C cl fp => (de_name 2))) da_nil)) de_int (by first | exact nomark _ | rfl))))
theorem ok__law_due (Z : Facts P w K mg) : FnOk P w K mg base (L2N.CX P w) 3 Z.a__law_due Z.d__law_due ["board", "row"] (spD K 2 F__law_due) :=
  fn_ok (k := 2) Z.F__law_due sc__law_due (by decide) fun cdv A outer s H E hr =>
    (dss_cons (ds_if (dt_cmp (op_eqD hr.units) fits_eq (de_callB call_len fits_len Z.n_len boot_len (da_cons (de_name 1) da_nil)) de_int (by first | exact nomark _ | rfl))
    (dss_one (ds_ret (de_tup (da_cons de_str (da_cons de_int da_nil)))))
    dss_nil)
    (dss_cons (ds_set (i := 2) sc__law_due.nd rfl (by first | exact .inl rfl | exact .inr rfl) de_str)
    (dss_cons (ds_for PassesOwn.leaving rfl (di_range1 (by rfl) Z.n_range (da_cons (de_callB call_len fits_len Z.n_len boot_len (da_cons (de_name 1) da_nil)) da_nil)) (dg_name (i := 3) sc__law_due.nd rfl (by first | exact .inl rfl | exact .inr rfl))
    (dss_cons (ds_if (dt_not (dt_val (de_call (n := 2) (L2N.takes_of rfl rfl rfl rfl) (ok__law_on_board Z) (hr.mono (by decide)) Z.m__law_on_board Z.F__law_on_board.kp Z.b__law_on_board (da_cons (de_name 0) (da_cons (de_ix (ix_all hr) fits_ixG (de_name 1) (de_name 3) (fun _ _ => rfl)) da_nil)) (eCons_len (eCons_len (fun _ _ h => eNil_len h))))))
    (dss_one (ds_ret (de_tup (da_cons de_str (da_cons (de_ix (ix_all hr) fits_ixG (de_name 1) (de_name 3) (fun _ _ => rfl)) da_nil)))))
    dss_nil)
    (dss_one (ds_if (dt_cmp op_gt fits_gt (de_name 3) de_int (by first | exact nomark _ | rfl))
    (dss_cons (ds_set (i := 4) sc__law_due.nd rfl (by first | exact .inl rfl | exact .inr rfl) (de_call (n := 2) (L2N.takes_of rfl rfl rfl rfl) (ok__law_direction Z) (hr.mono (by decide)) Z.m__law_direction Z.F__law_direction.kp Z.b__law_direction (da_cons (de_ix (ix_all hr) fits_ixG (de_name 1) (de_bin op_sub fits_sub (de_name 3) de_int) (fun _ _ => rfl)) (da_cons (de_ix (ix_all hr) fits_ixG (de_name 1) (de_name 3) (fun _ _ => rfl)) da_nil)) (eCons_len (eCons_len (fun _ _ h => eNil_len h)))))
    (dss_cons (ds_set (i := 2) sc__law_due.nd rfl (by first | exact .inl rfl | exact .inr rfl) (de_bin op_addG fits_add (de_name 2) (de_name 4)))
    (dss_cons (by first
    | exact ds_setLc (i := 5) rfl sc__law_due.nd rfl rfl rfl (di_seq (de_lst (da_cons de_str (da_cons de_str (da_cons de_str (da_cons de_str da_nil)))))) (blkOk_by (own := [("letters", 6)]) (by kernel_rfl)) rfl (fun s H C cl fp => (dg_name (i := 6) sc__law_due.nd rfl (by first | exact .inl rfl | exact .inr rfl))) (fun s H C cl fp => (dts_one (dt_val (de_call (n := 2) tk0 (ok__law_within Z) (hr.mono (by decide)) Z.m__law_within Z.F__law_within.kp Z.b__law_within (da_cons (de_name 2) (da_cons (de_name 6) da_nil)) (eCons_len (eCons_len (fun _ _ h => eNil_len h))))))) (fun s H C cl fp => (de_name 6))
    | exact ds_set (i := 5) sc__law_due.nd rfl (by first | exact .inl rfl | exact .inr rfl) (de_lc rfl sc__law_due.nd (di_seq (de_lst (da_cons de_str (da_cons de_str (da_cons de_str (da_cons de_str da_nil)))))) (blkOk_by (own := [("letters", 6)]) (by kernel_rfl)) rfl (fun s H C cl fp => (dg_name (i := 6) sc__law_due.nd rfl (by first | exact .inl rfl | exact .inr rfl))) (fun s H C cl fp => (dts_one (dt_val (de_call (n := 2) tk0 (ok__law_within Z) (hr.mono (by decide)) Z.m__law_within Z.F__law_within.kp Z.b__law_within (da_cons (de_name 2) (da_cons (de_name 6) da_nil)) (eCons_len (eCons_len (fun _ _ h => eNil_len h))))))) (fun s H C cl fp => (de_name 6))))
    (dss_one (ds_if (dt_w (dw_or (dt_cmp (op_eqD hr.units) fits_eq (de_name 4) de_str (by first | exact nomark _ | rfl)) (dw_or1 (dt_cmp (op_eqD hr.units) fits_eq (de_callB call_len fits_len Z.n_len boot_len (da_cons (de_name 5) da_nil)) de_int (by first | exact nomark _ | rfl)))))
    (dss_one (ds_ret (de_tup (da_cons de_str (da_cons (de_name 3) da_nil)))))
    dss_nil)))))
    dss_nil))))
    (dss_cons (ds_if (dt_cmp (op_ltG hr.units0) fits_lt (de_ix (ix_all hr) fits_ixG (de_name 1) (de_un un_neg fits_neg de_int) (fun _ _ => rfl)) (de_ix (ix_all hr) fits_ixG (de_name 1) de_int (fun _ _ => rfl)) (by first | exact nomark _ | rfl))
    (dss_one (ds_ret (de_tup (da_cons de_str (da_cons (de_revL (de_name 1)) da_nil)))))
    dss_nil)
    (dss_one (ds_ret (de_tup (da_cons de_str (da_cons (de_name 1) da_nil)))))))))
theorem ok_normal_form (Z : Facts P w K mg) : FnOk P w K mg base (L2N.CX P w) 1 Z.a_normal_form Z.d_normal_form ["row"] (spD K 1 F_normal_form) :=
  fn_ok (k := 0) Z.F_normal_form sc_normal_form (by decide) fun cdv A outer s H E hr =>
    (dss_cons (ds_if (dt_cmp (op_ltG hr.units0) fits_lt (de_ix (ix_all hr) fits_ixG (de_name 0) (de_un un_neg fits_neg de_int) (fun _ _ => rfl)) (de_ix (ix_all hr) fits_ixG (de_name 0) de_int (fun _ _ => rfl)) (by first | exact nomark _ | rfl))
    (dss_one (ds_ret (de_callTy call_tuple_of fits_tupOf Z.n_tuple boot_tuple (da_cons (de_revL (de_name 0)) da_nil))))
    dss_nil)
    (dss_one (ds_ret (de_callTy call_tuple_of fits_tupOf Z.n_tuple boot_tuple (da_cons (de_name 0) da_nil)))))
theorem ok_direction (Z : Facts P w K mg) : FnOk P w K mg base (L2N.CX P w) 1 Z.a_direction Z.d_direction ["corner", "other"] (spD K 2 F_direction) :=
  fn_ok (k := 0) Z.F_direction sc_direction (by decide) fun cdv A outer s H E hr =>
    (dss_one (ds_ret (de_kget Z.k_DIRECTIONS rfl (hu65 hr) Z.c_DIRECTIONS (de_tup (da_cons (de_bin op_sub fits_sub (de_ix (ix_all hr) fits_ixG (de_name 1) de_int (fun _ _ => rfl)) (de_ix (ix_all hr) fits_ixG (de_name 0) de_int (fun _ _ => rfl))) (da_cons (de_bin op_sub fits_sub (de_ix (ix_all hr) fits_ixG (de_name 1) de_int (fun _ _ => rfl)) (de_ix (ix_all hr) fits_ixG (de_name 0) de_int (fun _ _ => rfl))) da_nil))) de_str)))
theorem ok_normal_path (Z : Facts P w K mg) : FnOk P w K mg base (L2N.CX P w) 3 Z.a_normal_path Z.d_normal_path ["board", "corners"] (spD K 2 F_normal_path) :=
  fn_ok (k := 2) Z.F_normal_path sc_normal_path (by decide) fun cdv A outer s H E hr =>
    (dss_cons (ds_set (i := 2) sc_normal_path.nd rfl (by first | exact .inl rfl | exact .inr rfl) (de_callTy call_list_of fits_listOf Z.n_list boot_list (da_cons (de_name 1) da_nil)))
    (dss_cons (ds_if (dt_cmp (op_eqD hr.units) fits_eq (de_callB call_len fits_len Z.n_len boot_len (da_cons (de_name 2) da_nil)) de_int (by first | exact nomark _ | rfl))
    (dss_one (ds_raise rfl (L2N.takes_of rfl rfl rfl rfl) (Z.i_NotAPath _) (hr.mono (by decide)) (da_cons de_int da_nil)))
    dss_nil)
    (dss_cons (ds_set (i := 3) sc_normal_path.nd rfl (by first | exact .inl rfl | exact .inr rfl) de_str)
    (dss_cons (ds_for PassesOwn.leaving rfl (di_enum (by rfl) Z.n_enumerate (da_cons (de_name 2) da_nil)) (dg_tup (n := 2) rfl (dgs_cons (dg_name (i := 4) sc_normal_path.nd rfl (by first | exact .inl rfl | exact .inr rfl)) (dgs_cons (dg_name (i := 5) sc_normal_path.nd rfl (by first | exact .inl rfl | exact .inr rfl)) dgs_nil)))
    (dss_cons (ds_if (dt_not (dt_val (de_call (n := 2) (L2N.takes_of rfl rfl rfl rfl) (ok_on_board Z) (hr.mono (by decide)) Z.m_on_board Z.F_on_board.kp Z.b_on_board (da_cons (de_name 0) (da_cons (de_name 5) da_nil)) (eCons_len (eCons_len (fun _ _ h => eNil_len h))))))
    (dss_one (ds_raise rfl (L2N.takes_of rfl rfl rfl rfl) (Z.i_OffBoard _) (hr.mono (by decide)) (da_cons (de_name 5) da_nil)))
    dss_nil)
    (dss_one (ds_if (dt_cmp op_gt fits_gt (de_name 4) de_int (by first | exact nomark _ | rfl))
    (dss_cons (ds_set (i := 6) sc_normal_path.nd rfl (by first | exact .inl rfl | exact .inr rfl) (de_call (n := 2) (L2N.takes_of rfl rfl rfl rfl) (ok_direction Z) (hr.mono (by decide)) Z.m_direction Z.F_direction.kp Z.b_direction (da_cons (de_ix (ix_all hr) fits_ixG (de_name 2) (de_bin op_sub fits_sub (de_name 4) de_int) (fun _ _ => rfl)) (da_cons (de_name 5) da_nil)) (eCons_len (eCons_len (fun _ _ h => eNil_len h)))))
    (dss_cons (ds_if (dt_w (dw_or (dt_cmp (op_eqD hr.units) fits_eq (de_name 6) de_str (by first | exact nomark _ | rfl)) (dw_or1 (dt_cmp (op_inW (hu65 hr)) fits_inW (de_kix Z.k_OPPOSITES rfl Z.c_OPPOSITES (de_name 6) (fun _ _ => rfl)) (de_name 3) (by first | exact nomark _ | rfl)))))
    (dss_one (ds_raise rfl (L2N.takes_of rfl rfl rfl rfl) (Z.i_NotAPath _) (hr.mono (by decide)) (da_cons (de_name 4) da_nil)))
    dss_nil)
    (dss_one (ds_set (i := 3) sc_normal_path.nd rfl (by first | exact .inl rfl | exact .inr rfl) (de_bin op_addG fits_add (de_name 3) (de_name 6))))))
    dss_nil))))
    (dss_one (ds_ret (de_call (n := 1) (L2N.takes_of rfl rfl rfl rfl) (ok_normal_form Z) (hr.mono (by decide)) Z.m_normal_form Z.F_normal_form.kp Z.b_normal_form (da_cons (de_name 2) da_nil) (eCons_len (fun _ _ h => eNil_len h)))))))))
theorem ok__law_is_integer (Z : Facts P w K mg) : FnOk P w K mg base (L2N.CX P w) 1 Z.a__law_is_integer Z.d__law_is_integer ["told"] (spD K 1 F__law_is_integer) :=
  fn_ok (k := 0) Z.F__law_is_integer sc__law_is_integer (by decide) fun cdv A outer s H E hr =>
    (dss_one (ds_ret (de_and (de_isi Z.n_isinstance boot_isinstance Z.n_int boot_int (by decide) (de_name 0)) (de_one (de_not (de_isi Z.n_isinstance boot_isinstance Z.n_bool boot_bool (by decide) (de_name 0)))))))
theorem okH__law_is_integer (Z : Facts P w K mg) : FnHot P w K mg base 1 Z.a__law_is_integer Z.d__law_is_integer ["told"] (spD K 1 F__law_is_integer) :=
  fn_okH (k := 0) Z.F__law_is_integer sc__law_is_integer (by decide) fun cdv A outer s H E p hot hr =>
    (dss_one (ds_ret (de_and (de_isi Z.n_isinstance boot_isinstance Z.n_int boot_int (by decide) (de_name 0)) (de_one (de_not (de_isi Z.n_isinstance boot_isinstance Z.n_bool boot_bool (by decide) (de_name 0)))))))
theorem ok__law_is_corner (Z : Facts P w K mg) : FnOk P w K mg base (L2N.CX P w) 2 Z.a__law_is_corner Z.d__law_is_corner ["told"] (spD K 1 F__law_is_corner) :=
  fn_ok (k := 1) Z.F__law_is_corner sc__law_is_corner (by decide) fun cdv A outer s H E hr =>
    (dss_one (ds_ret (de_and (de_isi Z.n_isinstance boot_isinstance Z.n_tuple boot_tuple (by decide) (de_name 0)) (de_and (de_cmp (op_eqD hr.units) fits_eq (de_callB call_len fits_len Z.n_len boot_len (da_cons (de_name 0) da_nil)) de_int (by first | exact nomark _ | rfl)) (de_and (de_call (n := 1) (L2N.takes_of rfl rfl rfl rfl) (ok__law_is_integer Z) (hr.mono (by decide)) Z.m__law_is_integer Z.F__law_is_integer.kp Z.b__law_is_integer (da_cons (de_ix (ix_all hr) fits_ixG (de_name 0) de_int (fun _ _ => rfl)) da_nil) (eCons_len (fun _ _ h => eNil_len h))) (de_one (de_call (n := 1) (L2N.takes_of rfl rfl rfl rfl) (ok__law_is_integer Z) (hr.mono (by decide)) Z.m__law_is_integer Z.F__law_is_integer.kp Z.b__law_is_integer (da_cons (de_ix (ix_all hr) fits_ixG (de_name 0) de_int (fun _ _ => rfl)) da_nil) (eCons_len (fun _ _ h => eNil_len h)))))))))
theorem okH__law_is_corner (Z : Facts P w K mg) : FnHot P w K mg base 2 Z.a__law_is_corner Z.d__law_is_corner ["told"] (spD K 1 F__law_is_corner) :=
  fn_okH (k := 1) Z.F__law_is_corner sc__law_is_corner (by decide) fun cdv A outer s H E p hot hr =>
    (dss_one (ds_ret (de_and (de_isi Z.n_isinstance boot_isinstance Z.n_tuple boot_tuple (by decide) (de_name 0)) (de_and (de_cmp (op_eqD hr.units) fits_eq (de_callB call_len fits_len Z.n_len boot_len (da_cons (de_name 0) da_nil)) de_int (by first | exact nomark _ | rfl)) (de_and (de_callH (n := 1) (L2.takes_of rfl rfl rfl rfl) (okH__law_is_integer Z) (hr.mono (by decide)) hot Z.m__law_is_integer Z.F__law_is_integer.kp Z.b__law_is_integer (da_cons (de_ix (ix_allH hr) fits_ixG (de_name 0) de_int (fun _ _ => rfl)) da_nil) (eCons_len (fun _ _ h => eNil_len h))) (de_one (de_callH (n := 1) (L2.takes_of rfl rfl rfl rfl) (okH__law_is_integer Z) (hr.mono (by decide)) hot Z.m__law_is_integer Z.F__law_is_integer.kp Z.b__law_is_integer (da_cons (de_ix (ix_allH hr) fits_ixG (de_name 0) de_int (fun _ _ => rfl)) da_nil) (eCons_len (fun _ _ h => eNil_len h)))))))))
theorem ok__law_told (Z : Facts P w K mg) : FnOk P w K mg base (L2N.CX P w) 4 Z.a__law_told Z.d__law_told ["board", "passed"] (spD K 2 F__law_told) :=
  fn_ok (k := 3) Z.F__law_told sc__law_told (by decide) fun cdv A outer s H E hr =>
    (dss_cons (ds_set (i := 2) sc__law_told.nd rfl (by first | exact .inl rfl | exact .inr rfl) de_non)
    (dss_cons (ds_try rfl rfl rfl sc__law_told.nd (L2N.takes_of rfl rfl rfl rfl) Z.E (fun W1 pn xe hpn tk hps =>
    (dss_one (ds_set (i := 2) sc__law_told.nd rfl (by first | exact .inl rfl | exact .inr rfl) (de_call (n := 2) tk (ok_normal_path Z) (hr.mono (by decide)) Z.m_normal_path Z.F_normal_path.kp Z.b_normal_path (da_cons (de_name 0) (da_cons (de_name 1) da_nil)) (eCons_len (eCons_len (fun _ _ h => eNil_len h))))))) (.as (names_mk Z.m_OffBoard Z.v_OffBoard) rfl rfl (fun a oe cls dd pn hz hf =>
    (dss_cons (ds_if (dt_w (dw_and (dt_val (de_isX Z.E hz.zc hf 3 Z.n_isinstance boot_isinstance (clsN_mk Z.m_PlaneError Z.v_PlaneError))) (dw_and (dt_val (de_isX Z.E hz.zc hf 3 Z.n_isinstance boot_isinstance (.inr ⟨rfl, Z.n_ValueError⟩))) (dw_and1 (dt_not (dt_val (de_isX Z.E hz.zc hf 3 Z.n_isinstance boot_isinstance (clsN_mk Z.m_NotAPath Z.v_NotAPath))))))))
    (dss_one (ds_if (dt_val (de_callS (n := 1) tkS0 (okH__law_is_corner Z) ((hrS hr).mono (by decide)) (hotS hz hf) Z.m__law_is_corner Z.F__law_is_corner.kp Z.b__law_is_corner (da_cons (de_xf Z.E hz.zc hf 3) da_nil) (eCons_len (fun _ _ h => eNil_len h))))
    (dss_one (ds_ret (de_tup (da_cons de_str (da_cons (de_xf Z.E hz.zc hf 3) da_nil)))))
    dss_nil))
    dss_nil)
    (dss_one (ds_ret (de_tup (da_cons de_str (da_cons de_non da_nil))))))) (.as (names_mk Z.m_NotAPath Z.v_NotAPath) rfl rfl (fun a oe cls dd pn hz hf =>
    (dss_cons (ds_if (dt_w (dw_and (dt_val (de_isX Z.E hz.zc hf 3 Z.n_isinstance boot_isinstance (clsN_mk Z.m_PlaneError Z.v_PlaneError))) (dw_and (dt_val (de_isX Z.E hz.zc hf 3 Z.n_isinstance boot_isinstance (.inr ⟨rfl, Z.n_ValueError⟩))) (dw_and1 (dt_not (dt_val (de_isX Z.E hz.zc hf 3 Z.n_isinstance boot_isinstance (clsN_mk Z.m_OffBoard Z.v_OffBoard))))))))
    (dss_one (ds_if (dt_val (de_callS (n := 1) tkS0 (okH__law_is_integer Z) ((hrS hr).mono (by decide)) (hotS hz hf) Z.m__law_is_integer Z.F__law_is_integer.kp Z.b__law_is_integer (da_cons (de_xf Z.E hz.zc hf 3) da_nil) (eCons_len (fun _ _ h => eNil_len h))))
    (dss_one (ds_ret (de_tup (da_cons de_str (da_cons (de_xf Z.E hz.zc hf 3) da_nil)))))
    dss_nil))
    dss_nil)
    (dss_one (ds_ret (de_tup (da_cons de_str (da_cons de_non da_nil))))))) .nil)))
    (dss_one (ds_ret (de_tup (da_cons de_str (da_cons (de_name 2) da_nil)))))))
theorem ok__law_is_path (Z : Facts P w K mg) : FnOk P w K mg base (L2N.CX P w) 3 Z.a__law_is_path Z.d__law_is_path ["told", "wanted"] (spD K 2 F__law_is_path) :=
  fn_ok (k := 2) Z.F__law_is_path sc__law_is_path (by decide) fun cdv A outer s H E hr =>
    (dss_cons (ds_if (dt_w (dw_or (dt_not (dt_val (de_isi Z.n_isinstance boot_isinstance Z.n_tuple boot_tuple (by decide) (de_name 0)))) (dw_or1 (dt_cmp (op_neD hr.units) fits_ne (de_callB call_len fits_len Z.n_len boot_len (da_cons (de_name 0) da_nil)) (de_callB call_len fits_len Z.n_len boot_len (da_cons (de_name 1) da_nil)) (by first | exact nomark _ | rfl)))))
    (dss_one (ds_ret de_bl))
    dss_nil)
    (dss_cons (ds_for PassesOwn.leaving rfl (di_range1 (by rfl) Z.n_range (da_cons (de_callB call_len fits_len Z.n_len boot_len (da_cons (de_name 1) da_nil)) da_nil)) (dg_name (i := 2) sc__law_is_path.nd rfl (by first | exact .inl rfl | exact .inr rfl))
    (dss_one (ds_if (dt_w (dw_or (dt_not (dt_val (de_call (n := 1) (L2N.takes_of rfl rfl rfl rfl) (ok__law_is_corner Z) (hr.mono (by decide)) Z.m__law_is_corner Z.F__law_is_corner.kp Z.b__law_is_corner (da_cons (de_ix (ix_all hr) fits_ixG (de_name 0) (de_name 2) (fun _ _ => rfl)) da_nil) (eCons_len (fun _ _ h => eNil_len h))))) (dw_or1 (dt_cmp (op_neD hr.units) fits_ne (de_ix (ix_all hr) fits_ixG (de_name 0) (de_name 2) (fun _ _ => rfl)) (de_ix (ix_all hr) fits_ixG (de_name 1) (de_name 2) (fun _ _ => rfl)) (by first | exact nomark _ | rfl)))))
    (dss_one (ds_ret de_bl))
    dss_nil)))
    (dss_one (ds_ret de_bl))))
theorem ok__law_same (Z : Facts P w K mg) : FnOk P w K mg base (L2N.CX P w) 4 Z.a__law_same Z.d__law_same ["told", "due"] (spD K 2 F__law_same) :=
  fn_ok (k := 3) Z.F__law_same sc__law_same (by decide) fun cdv A outer s H E hr =>
    (dss_cons (ds_if (dt_cmp (op_neD hr.units) fits_ne (de_ix (ix_all hr) fits_ixG (de_name 0) de_int (fun _ _ => rfl)) (de_ix (ix_all hr) fits_ixG (de_name 1) de_int (fun _ _ => rfl)) (by first | exact nomark _ | rfl))
    (dss_one (ds_ret de_bl))
    dss_nil)
    (dss_cons (ds_if (dt_cmp (op_eqD hr.units) fits_eq (de_ix (ix_all hr) fits_ixG (de_name 1) de_int (fun _ _ => rfl)) de_str (by first | exact nomark _ | rfl))
    (dss_one (ds_ret (de_call (n := 2) (L2N.takes_of rfl rfl rfl rfl) (ok__law_is_path Z) (hr.mono (by decide)) Z.m__law_is_path Z.F__law_is_path.kp Z.b__law_is_path (da_cons (de_ix (ix_all hr) fits_ixG (de_name 0) de_int (fun _ _ => rfl)) (da_cons (de_ix (ix_all hr) fits_ixG (de_name 1) de_int (fun _ _ => rfl)) da_nil)) (eCons_len (eCons_len (fun _ _ h => eNil_len h))))))
    dss_nil)
    (dss_one (ds_ret (de_cmp (op_eqD hr.units) fits_eq (de_ix (ix_all hr) fits_ixG (de_name 0) de_int (fun _ _ => rfl)) (de_ix (ix_all hr) fits_ixG (de_name 1) de_int (fun _ _ => rfl)) (by first | exact nomark _ | rfl))))))
theorem ok__law_answers (Z : Facts P w K mg) : FnOk P w K mg base (L2N.CX P w) 5 Z.a__law_answers Z.d__law_answers ["board", "row", "as_tuple"] (spD K 3 F__law_answers) :=
  fn_ok (k := 4) Z.F__law_answers sc__law_answers (by decide) fun cdv A outer s H E hr =>
    (dss_cons (ds_set (i := 3) sc__law_answers.nd rfl (by first | exact .inl rfl | exact .inr rfl) (de_call (n := 2) (L2N.takes_of rfl rfl rfl rfl) (ok__law_due Z) (hr.mono (by decide)) Z.m__law_due Z.F__law_due.kp Z.b__law_due (da_cons (de_name 0) (da_cons (de_name 1) da_nil)) (eCons_len (eCons_len (fun _ _ h => eNil_len h)))))
    (dss_cons (ds_if (dt_w (dw_and (dt_val (de_name 2)) (dw_and1 (dt_not (dt_val (de_call (n := 2) (L2N.takes_of rfl rfl rfl rfl) (ok__law_same Z) (hr.mono (by decide)) Z.m__law_same Z.F__law_same.kp Z.b__law_same (da_cons (de_call (n := 2) (L2N.takes_of rfl rfl rfl rfl) (ok__law_told Z) (hr.mono (by decide)) Z.m__law_told Z.F__law_told.kp Z.b__law_told (da_cons (de_name 0) (da_cons (de_callTy call_tuple_of fits_tupOf Z.n_tuple boot_tuple (da_cons (de_name 1) da_nil)) da_nil)) (eCons_len (eCons_len (fun _ _ h => eNil_len h)))) (da_cons (de_name 3) da_nil)) (eCons_len (eCons_len (fun _ _ h => eNil_len h)))))))))
    (dss_one (ds_ret de_bl))
    dss_nil)
    (dss_cons (ds_set (i := 4) sc__law_answers.nd rfl (by first | exact .inl rfl | exact .inr rfl) (de_callTy call_list_of fits_listOf Z.n_list boot_list (da_cons (de_name 1) da_nil)))
    (dss_cons (ds_set (i := 5) sc__law_answers.nd rfl (by first | exact .inl rfl | exact .inr rfl) (de_call (n := 2) (L2N.takes_of rfl rfl rfl rfl) (ok__law_told Z) (hr.mono (by decide)) Z.m__law_told Z.F__law_told.kp Z.b__law_told (da_cons (de_name 0) (da_cons (de_name 4) da_nil)) (eCons_len (eCons_len (fun _ _ h => eNil_len h)))))
    (dss_cons (ds_if (dt_cmp (op_neD hr.units) fits_ne (de_name 4) (de_name 1) (by first | exact nomark _ | rfl))
    (dss_one (ds_ret de_bl))
    dss_nil)
    (dss_cons (ds_mut (i := 4) PySem.F.plainAttrs_list PySem.F.slot_list_append PySem.F.type_list_append mt_append mut_append rfl (by first | exact .inl rfl | exact .inr (.inl rfl) | exact .inr (.inr rfl)) (da_cons (de_tup (da_cons de_int (da_cons de_int da_nil))) da_nil))
    (dss_one (ds_ret (de_and (de_call (n := 2) (L2N.takes_of rfl rfl rfl rfl) (ok__law_same Z) (hr.mono (by decide)) Z.m__law_same Z.F__law_same.kp Z.b__law_same (da_cons (de_name 5) (da_cons (de_name 3) da_nil)) (eCons_len (eCons_len (fun _ _ h => eNil_len h)))) (de_one (de_call (n := 2) (L2N.takes_of rfl rfl rfl rfl) (ok__law_same Z) (hr.mono (by decide)) Z.m__law_same Z.F__law_same.kp Z.b__law_same (da_cons (de_call (n := 2) (L2N.takes_of rfl rfl rfl rfl) (ok__law_told Z) (hr.mono (by decide)) Z.m__law_told Z.F__law_told.kp Z.b__law_told (da_cons (de_name 0) (da_cons (de_callTy call_list_of fits_listOf Z.n_list boot_list (da_cons (de_name 1) da_nil)) da_nil)) (eCons_len (eCons_len (fun _ _ h => eNil_len h)))) (da_cons (de_name 3) da_nil)) (eCons_len (eCons_len (fun _ _ h => eNil_len h))))))))))))))
theorem ok_law (Z : Facts P w K mg) : FnOk P w K mg base (L2N.CX P w) 6 Z.a_law Z.d_law ["script"] (spD K 1 F_law) :=
  fn_ok (k := 5) Z.F_law sc_law (by decide) fun cdv A outer s H E hr =>
    (dss_cons (ds_set (i := 1) sc_law.nd rfl (by first | exact .inl rfl | exact .inr rfl) (de_call (n := 2) (L2N.takes_of rfl rfl rfl rfl) (ok__law_board Z) (hr.mono (by decide)) Z.m__law_board Z.F__law_board.kp Z.b__law_board (da_cons (de_call (n := 2) (L2N.takes_of rfl rfl rfl rfl) (ok__law_cell Z) (hr.mono (by decide)) Z.m__law_cell Z.F__law_cell.kp Z.b__law_cell (da_cons (de_name 0) (da_cons de_int da_nil)) (eCons_len (eCons_len (fun _ _ h => eNil_len h)))) (da_cons de_int da_nil)) (eCons_len (eCons_len (fun _ _ h => eNil_len h)))))
    (dss_cons (ds_set (i := 2) sc_law.nd rfl (by first | exact .inl rfl | exact .inr rfl) (de_call (n := 3) (L2N.takes_of rfl rfl rfl rfl) (ok__law_walked Z) (hr.mono (by decide)) Z.m__law_walked Z.F__law_walked.kp Z.b__law_walked (da_cons (de_name 1) (da_cons (de_call (n := 2) (L2N.takes_of rfl rfl rfl rfl) (ok__law_cell Z) (hr.mono (by decide)) Z.m__law_cell Z.F__law_cell.kp Z.b__law_cell (da_cons (de_name 0) (da_cons de_int da_nil)) (eCons_len (eCons_len (fun _ _ h => eNil_len h)))) (da_cons (de_call (n := 2) (L2N.takes_of rfl rfl rfl rfl) (ok__law_cell Z) (hr.mono (by decide)) Z.m__law_cell Z.F__law_cell.kp Z.b__law_cell (da_cons (de_name 0) (da_cons de_int da_nil)) (eCons_len (eCons_len (fun _ _ h => eNil_len h)))) da_nil))) (eCons_len (eCons_len (eCons_len (fun _ _ h => eNil_len h))))))
    (dss_cons (ds_set (i := 3) sc_law.nd rfl (by first | exact .inl rfl | exact .inr rfl) (de_call (n := 2) (L2N.takes_of rfl rfl rfl rfl) (ok__law_draws Z) (hr.mono (by decide)) Z.m__law_draws Z.F__law_draws.kp Z.b__law_draws (da_cons (de_call (n := 2) (L2N.takes_of rfl rfl rfl rfl) (ok__law_cell Z) (hr.mono (by decide)) Z.m__law_cell Z.F__law_cell.kp Z.b__law_cell (da_cons (de_name 0) (da_cons de_int da_nil)) (eCons_len (eCons_len (fun _ _ h => eNil_len h)))) (da_cons (de_lst (da_cons de_int (da_cons de_int (da_cons de_int (da_cons de_int da_nil))))) da_nil)) (eCons_len (eCons_len (fun _ _ h => eNil_len h)))))
    (dss_cons (ds_if (dt_cmp (op_eqD hr.units) fits_eq (de_ix (ix_all hr) fits_ixG (de_name 3) de_int (fun _ _ => rfl)) de_int (by first | exact nomark _ | rfl))
    (dss_one (ds_set (i := 2) sc_law.nd rfl (by first | exact .inl rfl | exact .inr rfl) (de_call (n := 3) (L2N.takes_of rfl rfl rfl rfl) (ok__law_spoilt Z) (hr.mono (by decide)) Z.m__law_spoilt Z.F__law_spoilt.kp Z.b__law_spoilt (da_cons (de_name 1) (da_cons (de_name 2) (da_cons (de_call (n := 2) (L2N.takes_of rfl rfl rfl rfl) (ok__law_cell Z) (hr.mono (by decide)) Z.m__law_cell Z.F__law_cell.kp Z.b__law_cell (da_cons (de_name 0) (da_cons de_int da_nil)) (eCons_len (eCons_len (fun _ _ h => eNil_len h)))) da_nil))) (eCons_len (eCons_len (eCons_len (fun _ _ h => eNil_len h)))))))
    dss_nil)
    (dss_cons (ds_if (dt_w (dw_and (dt_cmp (op_eqD hr.units) fits_eq (de_ix (ix_all hr) fits_ixG (de_name 3) de_int (fun _ _ => rfl)) de_int (by first | exact nomark _ | rfl)) (dw_and1 (dt_cmp (op_eqD hr.units) fits_eq (de_ix (ix_all hr) fits_ixG (de_name 3) de_int (fun _ _ => rfl)) de_int (by first | exact nomark _ | rfl)))))
    (dss_one (ds_set (i := 2) sc_law.nd rfl (by first | exact .inl rfl | exact .inr rfl) (de_call (n := 3) (L2N.takes_of rfl rfl rfl rfl) (ok__law_spoilt Z) (hr.mono (by decide)) Z.m__law_spoilt Z.F__law_spoilt.kp Z.b__law_spoilt (da_cons (de_name 1) (da_cons (de_name 2) (da_cons (de_call (n := 2) (L2N.takes_of rfl rfl rfl rfl) (ok__law_cell Z) (hr.mono (by decide)) Z.m__law_cell Z.F__law_cell.kp Z.b__law_cell (da_cons (de_name 0) (da_cons de_int da_nil)) (eCons_len (eCons_len (fun _ _ h => eNil_len h)))) da_nil))) (eCons_len (eCons_len (eCons_len (fun _ _ h => eNil_len h)))))))
    dss_nil)
    (dss_cons (ds_if (dt_cmp (op_eqD hr.units) fits_eq (de_ix (ix_all hr) fits_ixG (de_name 3) de_int (fun _ _ => rfl)) de_int (by first | exact nomark _ | rfl))
    (dss_one (ds_set (i := 2) sc_law.nd rfl (by first | exact .inl rfl | exact .inr rfl) (de_call (n := 2) (L2N.takes_of rfl rfl rfl rfl) (ok__law_any_row Z) (hr.mono (by decide)) Z.m__law_any_row Z.F__law_any_row.kp Z.b__law_any_row (da_cons (de_name 1) (da_cons (de_call (n := 2) (L2N.takes_of rfl rfl rfl rfl) (ok__law_cell Z) (hr.mono (by decide)) Z.m__law_cell Z.F__law_cell.kp Z.b__law_cell (da_cons (de_name 0) (da_cons de_int da_nil)) (eCons_len (eCons_len (fun _ _ h => eNil_len h)))) da_nil)) (eCons_len (eCons_len (fun _ _ h => eNil_len h))))))
    dss_nil)
    (dss_cons (ds_if (dt_w (dw_or (dt_not (dt_val (de_call (n := 3) (L2N.takes_of rfl rfl rfl rfl) (ok__law_answers Z) (hr.mono (by decide)) Z.m__law_answers Z.F__law_answers.kp Z.b__law_answers (da_cons (de_name 1) (da_cons (de_name 2) (da_cons (de_cmp (op_eqD hr.units) fits_eq (de_ix (ix_all hr) fits_ixG (de_name 3) de_int (fun _ _ => rfl)) de_int (by first | exact nomark _ | rfl)) da_nil))) (eCons_len (eCons_len (eCons_len (fun _ _ h => eNil_len h))))))) (dw_or1 (dt_not (dt_val (de_call (n := 3) (L2N.takes_of rfl rfl rfl rfl) (ok__law_answers Z) (hr.mono (by decide)) Z.m__law_answers Z.F__law_answers.kp Z.b__law_answers (da_cons (de_name 1) (da_cons (de_revL (de_name 2)) (da_cons (de_cmp (op_eqD hr.units) fits_eq (de_ix (ix_all hr) fits_ixG (de_name 3) de_int (fun _ _ => rfl)) de_int (by first | exact nomark _ | rfl)) da_nil))) (eCons_len (eCons_len (eCons_len (fun _ _ h => eNil_len h))))))))))
    (dss_one (ds_ret de_bl))
    dss_nil)
    (dss_cons (ds_set (i := 4) sc_law.nd rfl (by first | exact .inl rfl | exact .inr rfl) (de_callTy call_list_of fits_listOf Z.n_list boot_list (da_cons (de_name 2) da_nil)))
    (dss_cons (ds_for PassesOwn.leaving rfl (di_seq (de_lst (da_cons (de_un un_neg fits_neg de_int) (da_cons de_int (da_cons (de_ix (ix_all hr) fits_ixG (de_name 1) de_int (fun _ _ => rfl)) (da_cons (de_bin op_addG fits_add (de_ix (ix_all hr) fits_ixG (de_name 1) de_int (fun _ _ => rfl)) de_int) da_nil)))))) (dg_name (i := 5) sc_law.nd rfl (by first | exact .inl rfl | exact .inr rfl))
    (dss_one (ds_for PassesOwn.leaving rfl (di_seq (de_lst (da_cons (de_un un_neg fits_neg de_int) (da_cons de_int (da_cons (de_ix (ix_all hr) fits_ixG (de_name 1) de_int (fun _ _ => rfl)) (da_cons (de_bin op_addG fits_add (de_ix (ix_all hr) fits_ixG (de_name 1) de_int (fun _ _ => rfl)) de_int) da_nil)))))) (dg_name (i := 6) sc_law.nd rfl (by first | exact .inl rfl | exact .inr rfl))
    (dss_one (ds_mut (i := 4) PySem.F.plainAttrs_list PySem.F.slot_list_append PySem.F.type_list_append mt_append mut_append rfl (by first | exact .inl rfl | exact .inr (.inl rfl) | exact .inr (.inr rfl)) (da_cons (de_tup (da_cons (de_name 5) (da_cons (de_name 6) da_nil))) da_nil))))))
    (dss_cons (ds_for PassesOwn.leaving rfl (di_seq (de_name 4)) (dg_name (i := 7) sc_law.nd rfl (by first | exact .inl rfl | exact .inr rfl))
    (dss_cons (ds_set (i := 8) sc_law.nd rfl (by first | exact .inl rfl | exact .inr rfl) (de_call (n := 2) (L2N.takes_of rfl rfl rfl rfl) (ok_on_board Z) (hr.mono (by decide)) Z.m_on_board Z.F_on_board.kp Z.b_on_board (da_cons (de_name 1) (da_cons (de_name 7) da_nil)) (eCons_len (eCons_len (fun _ _ h => eNil_len h)))))
    (dss_one (ds_if (dt_w (dw_or (dt_not (dt_val (de_isi Z.n_isinstance boot_isinstance Z.n_bool boot_bool (by decide) (de_name 8)))) (dw_or1 (dt_cmp (op_neD hr.units) fits_ne (de_name 8) (de_call (n := 2) (L2N.takes_of rfl rfl rfl rfl) (ok__law_on_board Z) (hr.mono (by decide)) Z.m__law_on_board Z.F__law_on_board.kp Z.b__law_on_board (da_cons (de_name 1) (da_cons (de_name 7) da_nil)) (eCons_len (eCons_len (fun _ _ h => eNil_len h)))) (by first | exact nomark _ | rfl)))))
    (dss_one (ds_ret de_bl))
    dss_nil))))
    (dss_one (ds_ret de_bl))))))))))))
end
set_option maxHeartbeats 0 in
theorem all_mk {P : Program} {w : World} {K : PySem.W.Frag} {h : Heap} {mg : Str → Option Value} {fa : Addr} (X : K.In h) (G : h.Ns mainGlobals mg) (hfa : mg "law" = some (.ref fa))
    {f0 : Addr} {od0 an0 : Option Addr} {sl0 : Array (Option Value)} {oc0 kV0 dc0 pm0 cd0 ct0 : Value}
    (a0 : PySem.W.nsIn K mainGlobals "_law_draws" = some (some (.ref f0))) (l0 : K.lookup f0 = some ⟨oc0, od0, .func (PySem.W.fnOf "_law_draws" "_law_draws" (defArgs st__law_draws) (defBody st__law_draws) (defScope st__law_draws) .none kV0 dc0 pm0 an0 cd0 ct0), sl0⟩) (c0 : PySem.W.codeIn K cd0 "_law_draws" = true) (k0 : PySem.W.keepIn K (.ref f0) = true)
    {f1 : Addr} {od1 an1 : Option Addr} {sl1 : Array (Option Value)} {oc1 kV1 dc1 pm1 cd1 ct1 : Value}
    (a1 : PySem.W.nsIn K mainGlobals "_law_board" = some (some (.ref f1))) (l1 : K.lookup f1 = some ⟨oc1, od1, .func (PySem.W.fnOf "_law_board" "_law_board" (defArgs st__law_board) (defBody st__law_board) (defScope st__law_board) .none kV1 dc1 pm1 an1 cd1 ct1), sl1⟩) (c1 : PySem.W.codeIn K cd1 "_law_board" = true) (k1 : PySem.W.keepIn K (.ref f1) = true)
    {f2 : Addr} {od2 an2 : Option Addr} {sl2 : Array (Option Value)} {oc2 kV2 dc2 pm2 cd2 ct2 : Value}
    (a2 : PySem.W.nsIn K mainGlobals "_law_stepped" = some (some (.ref f2))) (l2 : K.lookup f2 = some ⟨oc2, od2, .func (PySem.W.fnOf "_law_stepped" "_law_stepped" (defArgs st__law_stepped) (defBody st__law_stepped) (defScope st__law_stepped) .none kV2 dc2 pm2 an2 cd2 ct2), sl2⟩) (c2 : PySem.W.codeIn K cd2 "_law_stepped" = true) (k2 : PySem.W.keepIn K (.ref f2) = true)
    {f3 : Addr} {od3 an3 : Option Addr} {sl3 : Array (Option Value)} {oc3 kV3 dc3 pm3 cd3 ct3 : Value}
    (a3 : PySem.W.nsIn K mainGlobals "_law_on_board" = some (some (.ref f3))) (l3 : K.lookup f3 = some ⟨oc3, od3, .func (PySem.W.fnOf "_law_on_board" "_law_on_board" (defArgs st__law_on_board) (defBody st__law_on_board) (defScope st__law_on_board) .none kV3 dc3 pm3 an3 cd3 ct3), sl3⟩) (c3 : PySem.W.codeIn K cd3 "_law_on_board" = true) (k3 : PySem.W.keepIn K (.ref f3) = true)
    {f4 : Addr} {od4 an4 : Option Addr} {sl4 : Array (Option Value)} {oc4 kV4 dc4 pm4 cd4 ct4 : Value}
    (a4 : PySem.W.nsIn K mainGlobals "_law_walked" = some (some (.ref f4))) (l4 : K.lookup f4 = some ⟨oc4, od4, .func (PySem.W.fnOf "_law_walked" "_law_walked" (defArgs st__law_walked) (defBody st__law_walked) (defScope st__law_walked) .none kV4 dc4 pm4 an4 cd4 ct4), sl4⟩) (c4 : PySem.W.codeIn K cd4 "_law_walked" = true) (k4 : PySem.W.keepIn K (.ref f4) = true)
    {f5 : Addr} {od5 an5 : Option Addr} {sl5 : Array (Option Value)} {oc5 kV5 dc5 pm5 cd5 ct5 : Value}
    (a5 : PySem.W.nsIn K mainGlobals "_law_cell" = some (some (.ref f5))) (l5 : K.lookup f5 = some ⟨oc5, od5, .func (PySem.W.fnOf "_law_cell" "_law_cell" (defArgs st__law_cell) (defBody st__law_cell) (defScope st__law_cell) .none kV5 dc5 pm5 an5 cd5 ct5), sl5⟩) (c5 : PySem.W.codeIn K cd5 "_law_cell" = true) (k5 : PySem.W.keepIn K (.ref f5) = true)
    {f6 : Addr} {od6 an6 : Option Addr} {sl6 : Array (Option Value)} {oc6 kV6 dc6 pm6 cd6 ct6 : Value}
    (a6 : PySem.W.nsIn K mainGlobals "_law_spoilt" = some (some (.ref f6))) (l6 : K.lookup f6 = some ⟨oc6, od6, .func (PySem.W.fnOf "_law_spoilt" "_law_spoilt" (defArgs st__law_spoilt) (defBody st__law_spoilt) (defScope st__law_spoilt) .none kV6 dc6 pm6 an6 cd6 ct6), sl6⟩) (c6 : PySem.W.codeIn K cd6 "_law_spoilt" = true) (k6 : PySem.W.keepIn K (.ref f6) = true)
    {f7 : Addr} {od7 an7 : Option Addr} {sl7 : Array (Option Value)} {oc7 kV7 dc7 pm7 cd7 ct7 : Value}
    (a7 : PySem.W.nsIn K mainGlobals "_law_any_row" = some (some (.ref f7))) (l7 : K.lookup f7 = some ⟨oc7, od7, .func (PySem.W.fnOf "_law_any_row" "_law_any_row" (defArgs st__law_any_row) (defBody st__law_any_row) (defScope st__law_any_row) .none kV7 dc7 pm7 an7 cd7 ct7), sl7⟩) (c7 : PySem.W.codeIn K cd7 "_law_any_row" = true) (k7 : PySem.W.keepIn K (.ref f7) = true)
    {f8 : Addr} {od8 an8 : Option Addr} {sl8 : Array (Option Value)} {oc8 kV8 dc8 pm8 cd8 ct8 : Value}
    (a8 : PySem.W.nsIn K mainGlobals "on_board" = some (some (.ref f8))) (l8 : K.lookup f8 = some ⟨oc8, od8, .func (PySem.W.fnOf "on_board" "on_board" (defArgs st_on_board) (defBody st_on_board) (defScope st_on_board) .none kV8 dc8 pm8 an8 cd8 ct8), sl8⟩) (c8 : PySem.W.codeIn K cd8 "on_board" = true) (k8 : PySem.W.keepIn K (.ref f8) = true)
    {f9 : Addr} {od9 an9 : Option Addr} {sl9 : Array (Option Value)} {oc9 kV9 dc9 pm9 cd9 ct9 : Value}
    (a9 : PySem.W.nsIn K mainGlobals "_law_direction" = some (some (.ref f9))) (l9 : K.lookup f9 = some ⟨oc9, od9, .func (PySem.W.fnOf "_law_direction" "_law_direction" (defArgs st__law_direction) (defBody st__law_direction) (defScope st__law_direction) .none kV9 dc9 pm9 an9 cd9 ct9), sl9⟩) (c9 : PySem.W.codeIn K cd9 "_law_direction" = true) (k9 : PySem.W.keepIn K (.ref f9) = true)
    {f10 : Addr} {od10 an10 : Option Addr} {sl10 : Array (Option Value)} {oc10 kV10 dc10 pm10 cd10 ct10 : Value}
    (a10 : PySem.W.nsIn K mainGlobals "_law_within" = some (some (.ref f10))) (l10 : K.lookup f10 = some ⟨oc10, od10, .func (PySem.W.fnOf "_law_within" "_law_within" (defArgs st__law_within) (defBody st__law_within) (defScope st__law_within) .none kV10 dc10 pm10 an10 cd10 ct10), sl10⟩) (c10 : PySem.W.codeIn K cd10 "_law_within" = true) (k10 : PySem.W.keepIn K (.ref f10) = true)
    {f11 : Addr} {od11 an11 : Option Addr} {sl11 : Array (Option Value)} {oc11 kV11 dc11 pm11 cd11 ct11 : Value}
    (a11 : PySem.W.nsIn K mainGlobals "_law_due" = some (some (.ref f11))) (l11 : K.lookup f11 = some ⟨oc11, od11, .func (PySem.W.fnOf "_law_due" "_law_due" (defArgs st__law_due) (defBody st__law_due) (defScope st__law_due) .none kV11 dc11 pm11 an11 cd11 ct11), sl11⟩) (c11 : PySem.W.codeIn K cd11 "_law_due" = true) (k11 : PySem.W.keepIn K (.ref f11) = true)
    {f12 : Addr} {od12 an12 : Option Addr} {sl12 : Array (Option Value)} {oc12 kV12 dc12 pm12 cd12 ct12 : Value}
    (a12 : PySem.W.nsIn K mainGlobals "normal_form" = some (some (.ref f12))) (l12 : K.lookup f12 = some ⟨oc12, od12, .func (PySem.W.fnOf "normal_form" "normal_form" (defArgs st_normal_form) (defBody st_normal_form) (defScope st_normal_form) .none kV12 dc12 pm12 an12 cd12 ct12), sl12⟩) (c12 : PySem.W.codeIn K cd12 "normal_form" = true) (k12 : PySem.W.keepIn K (.ref f12) = true)
    {f13 : Addr} {od13 an13 : Option Addr} {sl13 : Array (Option Value)} {oc13 kV13 dc13 pm13 cd13 ct13 : Value}
    (a13 : PySem.W.nsIn K mainGlobals "direction" = some (some (.ref f13))) (l13 : K.lookup f13 = some ⟨oc13, od13, .func (PySem.W.fnOf "direction" "direction" (defArgs st_direction) (defBody st_direction) (defScope st_direction) .none kV13 dc13 pm13 an13 cd13 ct13), sl13⟩) (c13 : PySem.W.codeIn K cd13 "direction" = true) (k13 : PySem.W.keepIn K (.ref f13) = true)
    {f14 : Addr} {od14 an14 : Option Addr} {sl14 : Array (Option Value)} {oc14 kV14 dc14 pm14 cd14 ct14 : Value}
    (a14 : PySem.W.nsIn K mainGlobals "normal_path" = some (some (.ref f14))) (l14 : K.lookup f14 = some ⟨oc14, od14, .func (PySem.W.fnOf "normal_path" "normal_path" (defArgs st_normal_path) (defBody st_normal_path) (defScope st_normal_path) .none kV14 dc14 pm14 an14 cd14 ct14), sl14⟩) (c14 : PySem.W.codeIn K cd14 "normal_path" = true) (k14 : PySem.W.keepIn K (.ref f14) = true)
    {f15 : Addr} {od15 an15 : Option Addr} {sl15 : Array (Option Value)} {oc15 kV15 dc15 pm15 cd15 ct15 : Value}
    (a15 : PySem.W.nsIn K mainGlobals "_law_is_integer" = some (some (.ref f15))) (l15 : K.lookup f15 = some ⟨oc15, od15, .func (PySem.W.fnOf "_law_is_integer" "_law_is_integer" (defArgs st__law_is_integer) (defBody st__law_is_integer) (defScope st__law_is_integer) .none kV15 dc15 pm15 an15 cd15 ct15), sl15⟩) (c15 : PySem.W.codeIn K cd15 "_law_is_integer" = true) (k15 : PySem.W.keepIn K (.ref f15) = true)
    {f16 : Addr} {od16 an16 : Option Addr} {sl16 : Array (Option Value)} {oc16 kV16 dc16 pm16 cd16 ct16 : Value}
    (a16 : PySem.W.nsIn K mainGlobals "_law_is_corner" = some (some (.ref f16))) (l16 : K.lookup f16 = some ⟨oc16, od16, .func (PySem.W.fnOf "_law_is_corner" "_law_is_corner" (defArgs st__law_is_corner) (defBody st__law_is_corner) (defScope st__law_is_corner) .none kV16 dc16 pm16 an16 cd16 ct16), sl16⟩) (c16 : PySem.W.codeIn K cd16 "_law_is_corner" = true) (k16 : PySem.W.keepIn K (.ref f16) = true)
    {f17 : Addr} {od17 an17 : Option Addr} {sl17 : Array (Option Value)} {oc17 kV17 dc17 pm17 cd17 ct17 : Value}
    (a17 : PySem.W.nsIn K mainGlobals "_law_told" = some (some (.ref f17))) (l17 : K.lookup f17 = some ⟨oc17, od17, .func (PySem.W.fnOf "_law_told" "_law_told" (defArgs st__law_told) (defBody st__law_told) (defScope st__law_told) .none kV17 dc17 pm17 an17 cd17 ct17), sl17⟩) (c17 : PySem.W.codeIn K cd17 "_law_told" = true) (k17 : PySem.W.keepIn K (.ref f17) = true)
    {f18 : Addr} {od18 an18 : Option Addr} {sl18 : Array (Option Value)} {oc18 kV18 dc18 pm18 cd18 ct18 : Value}
    (a18 : PySem.W.nsIn K mainGlobals "_law_is_path" = some (some (.ref f18))) (l18 : K.lookup f18 = some ⟨oc18, od18, .func (PySem.W.fnOf "_law_is_path" "_law_is_path" (defArgs st__law_is_path) (defBody st__law_is_path) (defScope st__law_is_path) .none kV18 dc18 pm18 an18 cd18 ct18), sl18⟩) (c18 : PySem.W.codeIn K cd18 "_law_is_path" = true) (k18 : PySem.W.keepIn K (.ref f18) = true)
    {f19 : Addr} {od19 an19 : Option Addr} {sl19 : Array (Option Value)} {oc19 kV19 dc19 pm19 cd19 ct19 : Value}
    (a19 : PySem.W.nsIn K mainGlobals "_law_same" = some (some (.ref f19))) (l19 : K.lookup f19 = some ⟨oc19, od19, .func (PySem.W.fnOf "_law_same" "_law_same" (defArgs st__law_same) (defBody st__law_same) (defScope st__law_same) .none kV19 dc19 pm19 an19 cd19 ct19), sl19⟩) (c19 : PySem.W.codeIn K cd19 "_law_same" = true) (k19 : PySem.W.keepIn K (.ref f19) = true)
    {f20 : Addr} {od20 an20 : Option Addr} {sl20 : Array (Option Value)} {oc20 kV20 dc20 pm20 cd20 ct20 : Value}
    (a20 : PySem.W.nsIn K mainGlobals "_law_answers" = some (some (.ref f20))) (l20 : K.lookup f20 = some ⟨oc20, od20, .func (PySem.W.fnOf "_law_answers" "_law_answers" (defArgs st__law_answers) (defBody st__law_answers) (defScope st__law_answers) .none kV20 dc20 pm20 an20 cd20 ct20), sl20⟩) (c20 : PySem.W.codeIn K cd20 "_law_answers" = true) (k20 : PySem.W.keepIn K (.ref f20) = true)
    {f21 : Addr} {od21 an21 : Option Addr} {sl21 : Array (Option Value)} {oc21 kV21 dc21 pm21 cd21 ct21 : Value}
    (a21 : PySem.W.nsIn K mainGlobals "law" = some (some (.ref f21))) (l21 : K.lookup f21 = some ⟨oc21, od21, .func (PySem.W.fnOf "law" "law" (defArgs st_law) (defBody st_law) (defScope st_law) .none kV21 dc21 pm21 an21 cd21 ct21), sl21⟩) (c21 : PySem.W.codeIn K cd21 "law" = true) (k21 : PySem.W.keepIn K (.ref f21) = true)
    (z_ValueError : PySem.W.nsIn K mainGlobals "ValueError" = some none)
    (z_bool : PySem.W.nsIn K mainGlobals "bool" = some none)
    (z_enumerate : PySem.W.nsIn K mainGlobals "enumerate" = some none)
    (z_int : PySem.W.nsIn K mainGlobals "int" = some none)
    (z_isinstance : PySem.W.nsIn K mainGlobals "isinstance" = some none)
    (z_len : PySem.W.nsIn K mainGlobals "len" = some none)
    (z_list : PySem.W.nsIn K mainGlobals "list" = some none)
    (z_range : PySem.W.nsIn K mainGlobals "range" = some none)
    (z_tuple : PySem.W.nsIn K mainGlobals "tuple" = some none)
    {a_DIRECTIONS : Addr} {es_DIRECTIONS : Array DictEntry} {n_DIRECTIONS : Nat} (x_DIRECTIONS : PySem.W.nsIn K mainGlobals "DIRECTIONS" = some (some (.ref a_DIRECTIONS))) (l_DIRECTIONS : K.lookup a_DIRECTIONS = some ⟨.type "dict", none, .dict es_DIRECTIONS n_DIRECTIONS, #[]⟩) (s_DIRECTIONS : (a_DIRECTIONS == sysModules) = false) (b_DIRECTIONS : entB P w K es_DIRECTIONS.toList tabv_DIRECTIONS = true)
    {a_OPPOSITES : Addr} {es_OPPOSITES : Array DictEntry} {n_OPPOSITES : Nat} (x_OPPOSITES : PySem.W.nsIn K mainGlobals "OPPOSITES" = some (some (.ref a_OPPOSITES))) (l_OPPOSITES : K.lookup a_OPPOSITES = some ⟨.type "dict", none, .dict es_OPPOSITES n_OPPOSITES, #[]⟩) (s_OPPOSITES : PySem.W.KeysLit w.params es_OPPOSITES.toList) (b_OPPOSITES : kdsB K a_OPPOSITES tabv_OPPOSITES = true)
    {C_PlaneError : Addr} (e_PlaneError : PySem.W.nsIn K mainGlobals "PlaneError" = some (some (.ref C_PlaneError)))
    {C_OffBoard : Addr} (e_OffBoard : PySem.W.nsIn K mainGlobals "OffBoard" = some (some (.ref C_OffBoard)))
    {C_NotAPath : Addr} (e_NotAPath : PySem.W.nsIn K mainGlobals "NotAPath" = some (some (.ref C_NotAPath)))
    (eB : errB K errsL = true)
    {nm_NotAPath : Str} {q_NotAPath : Str} {Nn_NotAPath : Addr} {bs_NotAPath : List Value} {bm_NotAPath : List Value} {sn_NotAPath : List Str} {sub_NotAPath : List Value} {ab_NotAPath : Bool} {col_NotAPath : Option Bool} {dd_NotAPath : Option Addr} {k0_NotAPath : Option Value} {k1_NotAPath : Option Value} {k2_NotAPath : Option Value} {k3_NotAPath : Option Value} {k5_NotAPath : Option Value} {f_NotAPath : Addr} {cda_NotAPath : Addr} {cc_NotAPath : Addr} {oc_NotAPath : Value} {kV_NotAPath : Value} {doc_NotAPath : Value} {pm_NotAPath : Value} {ct_NotAPath : Value} {od_NotAPath : Option Addr} {an_NotAPath : Option Addr} {osl_NotAPath : Array (Option Value)} {ccl_NotAPath : Value} {cdd_NotAPath : Option Addr} {vs_NotAPath : Array Value} {ccs_NotAPath : Array (Option Value)} {file_NotAPath : Str} {tf_NotAPath : Tok} {cl_NotAPath : Value} {cld_NotAPath : Option Addr} {csl_NotAPath : Array (Option Value)}
    (g1_NotAPath : K.lookup C_NotAPath = some (excClassObj nm_NotAPath q_NotAPath C_NotAPath Nn_NotAPath bs_NotAPath bm_NotAPath true sn_NotAPath sub_NotAPath ab_NotAPath col_NotAPath dd_NotAPath k0_NotAPath k1_NotAPath k2_NotAPath k3_NotAPath k5_NotAPath "ValueError.__new__"))
    (g2_NotAPath : PySem.HandSPX.refsVE bm_NotAPath = true)
    (g0_NotAPath : PySem.W.findIn K (.ref C_NotAPath) "__init__" = some (some (.ref f_NotAPath)))
    (g3_NotAPath : K.lookup f_NotAPath = some ⟨oc_NotAPath, od_NotAPath, .func (PySem.W.ksFn "__init__" "NotAPath.__init__" (defArgs (clsS (topS 3) 0)) (defBody (clsS (topS 3) 0)) (defScope (clsS (topS 3) 0)) .none kV_NotAPath doc_NotAPath pm_NotAPath an_NotAPath (.ref cda_NotAPath) ct_NotAPath cc_NotAPath), osl_NotAPath⟩)
    (g4_NotAPath : PySem.W.codeIn K (.ref cda_NotAPath) "NotAPath.__init__" = true)
    (g5_NotAPath : K.lookup cda_NotAPath = some ⟨ccl_NotAPath, cdd_NotAPath, .fields vs_NotAPath, ccs_NotAPath⟩)
    (g6_NotAPath : vs_NotAPath[2]? = some (.str file_NotAPath tf_NotAPath)) (g7_NotAPath : codB file_NotAPath P = true)
    (g8_NotAPath : K.lookup cc_NotAPath = some ⟨cl_NotAPath, cld_NotAPath, .cell (some (.ref C_NotAPath)), csl_NotAPath⟩)
    (g9_NotAPath : initB K C_NotAPath f_NotAPath ["index"] = true)
    {nm_OffBoard : Str} {q_OffBoard : Str} {Nn_OffBoard : Addr} {bs_OffBoard : List Value} {bm_OffBoard : List Value} {sn_OffBoard : List Str} {sub_OffBoard : List Value} {ab_OffBoard : Bool} {col_OffBoard : Option Bool} {dd_OffBoard : Option Addr} {k0_OffBoard : Option Value} {k1_OffBoard : Option Value} {k2_OffBoard : Option Value} {k3_OffBoard : Option Value} {k5_OffBoard : Option Value} {f_OffBoard : Addr} {cda_OffBoard : Addr} {cc_OffBoard : Addr} {oc_OffBoard : Value} {kV_OffBoard : Value} {doc_OffBoard : Value} {pm_OffBoard : Value} {ct_OffBoard : Value} {od_OffBoard : Option Addr} {an_OffBoard : Option Addr} {osl_OffBoard : Array (Option Value)} {ccl_OffBoard : Value} {cdd_OffBoard : Option Addr} {vs_OffBoard : Array Value} {ccs_OffBoard : Array (Option Value)} {file_OffBoard : Str} {tf_OffBoard : Tok} {cl_OffBoard : Value} {cld_OffBoard : Option Addr} {csl_OffBoard : Array (Option Value)}
    (g1_OffBoard : K.lookup C_OffBoard = some (excClassObj nm_OffBoard q_OffBoard C_OffBoard Nn_OffBoard bs_OffBoard bm_OffBoard true sn_OffBoard sub_OffBoard ab_OffBoard col_OffBoard dd_OffBoard k0_OffBoard k1_OffBoard k2_OffBoard k3_OffBoard k5_OffBoard "ValueError.__new__"))
    (g2_OffBoard : PySem.HandSPX.refsVE bm_OffBoard = true)
    (g0_OffBoard : PySem.W.findIn K (.ref C_OffBoard) "__init__" = some (some (.ref f_OffBoard)))
    (g3_OffBoard : K.lookup f_OffBoard = some ⟨oc_OffBoard, od_OffBoard, .func (PySem.W.ksFn "__init__" "OffBoard.__init__" (defArgs (clsS (topS 2) 0)) (defBody (clsS (topS 2) 0)) (defScope (clsS (topS 2) 0)) .none kV_OffBoard doc_OffBoard pm_OffBoard an_OffBoard (.ref cda_OffBoard) ct_OffBoard cc_OffBoard), osl_OffBoard⟩)
    (g4_OffBoard : PySem.W.codeIn K (.ref cda_OffBoard) "OffBoard.__init__" = true)
    (g5_OffBoard : K.lookup cda_OffBoard = some ⟨ccl_OffBoard, cdd_OffBoard, .fields vs_OffBoard, ccs_OffBoard⟩)
    (g6_OffBoard : vs_OffBoard[2]? = some (.str file_OffBoard tf_OffBoard)) (g7_OffBoard : codB file_OffBoard P = true)
    (g8_OffBoard : K.lookup cc_OffBoard = some ⟨cl_OffBoard, cld_OffBoard, .cell (some (.ref C_OffBoard)), csl_OffBoard⟩)
    (g9_OffBoard : initB K C_OffBoard f_OffBoard ["corner"] = true) :
    ∃ fd : FuncData, (∀ (s : Shared) (v : Value), BindsTo s fd ⟨[v], []⟩ [("script", v)]) ∧ ∀ base : Heap, K.In base → base.Ns mainGlobals mg → FnOk P w K mg base (L2N.CX P w) 6 fa fd ["script"] (spD K 1 F_law) := by
  have e := hfa.symm.trans (PySem.W.mg_of X G a21)
  cases e
  exact ⟨PySem.W.fnOf "law" "law" (defArgs st_law) (defBody st_law) (defScope st_law) .none kV21 dc21 pm21 an21 cd21 ct21, fun s v => .of_eq rfl, fun base _ _ => ok_law {
    a__law_draws := f0, d__law_draws := PySem.W.fnOf "_law_draws" "_law_draws" (defArgs st__law_draws) (defBody st__law_draws) (defScope st__law_draws) .none kV0 dc0 pm0 an0 cd0 ct0, F__law_draws := fun_mk (st := st__law_draws) l0 c0 k0, m__law_draws := PySem.W.mg_of X G a0, b__law_draws := (fun_mk (st := st__law_draws) l0 c0 k0).binds fun _ _ _ _ _ _ us hl => match us, hl with | [_, _], _ => rfl,
    a__law_board := f1, d__law_board := PySem.W.fnOf "_law_board" "_law_board" (defArgs st__law_board) (defBody st__law_board) (defScope st__law_board) .none kV1 dc1 pm1 an1 cd1 ct1, F__law_board := fun_mk (st := st__law_board) l1 c1 k1, m__law_board := PySem.W.mg_of X G a1, b__law_board := (fun_mk (st := st__law_board) l1 c1 k1).binds fun _ _ _ _ _ _ us hl => match us, hl with | [_, _], _ => rfl,
    a__law_stepped := f2, d__law_stepped := PySem.W.fnOf "_law_stepped" "_law_stepped" (defArgs st__law_stepped) (defBody st__law_stepped) (defScope st__law_stepped) .none kV2 dc2 pm2 an2 cd2 ct2, F__law_stepped := fun_mk (st := st__law_stepped) l2 c2 k2, m__law_stepped := PySem.W.mg_of X G a2, b__law_stepped := (fun_mk (st := st__law_stepped) l2 c2 k2).binds fun _ _ _ _ _ _ us hl => match us, hl with | [_, _], _ => rfl,
    a__law_on_board := f3, d__law_on_board := PySem.W.fnOf "_law_on_board" "_law_on_board" (defArgs st__law_on_board) (defBody st__law_on_board) (defScope st__law_on_board) .none kV3 dc3 pm3 an3 cd3 ct3, F__law_on_board := fun_mk (st := st__law_on_board) l3 c3 k3, m__law_on_board := PySem.W.mg_of X G a3, b__law_on_board := (fun_mk (st := st__law_on_board) l3 c3 k3).binds fun _ _ _ _ _ _ us hl => match us, hl with | [_, _], _ => rfl,
    a__law_walked := f4, d__law_walked := PySem.W.fnOf "_law_walked" "_law_walked" (defArgs st__law_walked) (defBody st__law_walked) (defScope st__law_walked) .none kV4 dc4 pm4 an4 cd4 ct4, F__law_walked := fun_mk (st := st__law_walked) l4 c4 k4, m__law_walked := PySem.W.mg_of X G a4, b__law_walked := (fun_mk (st := st__law_walked) l4 c4 k4).binds fun _ _ _ _ _ _ us hl => match us, hl with | [_, _, _], _ => rfl,
    a__law_cell := f5, d__law_cell := PySem.W.fnOf "_law_cell" "_law_cell" (defArgs st__law_cell) (defBody st__law_cell) (defScope st__law_cell) .none kV5 dc5 pm5 an5 cd5 ct5, F__law_cell := fun_mk (st := st__law_cell) l5 c5 k5, m__law_cell := PySem.W.mg_of X G a5, b__law_cell := (fun_mk (st := st__law_cell) l5 c5 k5).binds fun _ _ _ _ _ _ us hl => match us, hl with | [_, _], _ => rfl,
    a__law_spoilt := f6, d__law_spoilt := PySem.W.fnOf "_law_spoilt" "_law_spoilt" (defArgs st__law_spoilt) (defBody st__law_spoilt) (defScope st__law_spoilt) .none kV6 dc6 pm6 an6 cd6 ct6, F__law_spoilt := fun_mk (st := st__law_spoilt) l6 c6 k6, m__law_spoilt := PySem.W.mg_of X G a6, b__law_spoilt := (fun_mk (st := st__law_spoilt) l6 c6 k6).binds fun _ _ _ _ _ _ us hl => match us, hl with | [_, _, _], _ => rfl,
    a__law_any_row := f7, d__law_any_row := PySem.W.fnOf "_law_any_row" "_law_any_row" (defArgs st__law_any_row) (defBody st__law_any_row) (defScope st__law_any_row) .none kV7 dc7 pm7 an7 cd7 ct7, F__law_any_row := fun_mk (st := st__law_any_row) l7 c7 k7, m__law_any_row := PySem.W.mg_of X G a7, b__law_any_row := (fun_mk (st := st__law_any_row) l7 c7 k7).binds fun _ _ _ _ _ _ us hl => match us, hl with | [_, _], _ => rfl,
    a_on_board := f8, d_on_board := PySem.W.fnOf "on_board" "on_board" (defArgs st_on_board) (defBody st_on_board) (defScope st_on_board) .none kV8 dc8 pm8 an8 cd8 ct8, F_on_board := fun_mk (st := st_on_board) l8 c8 k8, m_on_board := PySem.W.mg_of X G a8, b_on_board := (fun_mk (st := st_on_board) l8 c8 k8).binds fun _ _ _ _ _ _ us hl => match us, hl with | [_, _], _ => rfl,
    a__law_direction := f9, d__law_direction := PySem.W.fnOf "_law_direction" "_law_direction" (defArgs st__law_direction) (defBody st__law_direction) (defScope st__law_direction) .none kV9 dc9 pm9 an9 cd9 ct9, F__law_direction := fun_mk (st := st__law_direction) l9 c9 k9, m__law_direction := PySem.W.mg_of X G a9, b__law_direction := (fun_mk (st := st__law_direction) l9 c9 k9).binds fun _ _ _ _ _ _ us hl => match us, hl with | [_, _], _ => rfl,
    a__law_within := f10, d__law_within := PySem.W.fnOf "_law_within" "_law_within" (defArgs st__law_within) (defBody st__law_within) (defScope st__law_within) .none kV10 dc10 pm10 an10 cd10 ct10, F__law_within := fun_mk (st := st__law_within) l10 c10 k10, m__law_within := PySem.W.mg_of X G a10, b__law_within := (fun_mk (st := st__law_within) l10 c10 k10).binds fun _ _ _ _ _ _ us hl => match us, hl with | [_, _], _ => rfl,
    a__law_due := f11, d__law_due := PySem.W.fnOf "_law_due" "_law_due" (defArgs st__law_due) (defBody st__law_due) (defScope st__law_due) .none kV11 dc11 pm11 an11 cd11 ct11, F__law_due := fun_mk (st := st__law_due) l11 c11 k11, m__law_due := PySem.W.mg_of X G a11, b__law_due := (fun_mk (st := st__law_due) l11 c11 k11).binds fun _ _ _ _ _ _ us hl => match us, hl with | [_, _], _ => rfl,
    a_normal_form := f12, d_normal_form := PySem.W.fnOf "normal_form" "normal_form" (defArgs st_normal_form) (defBody st_normal_form) (defScope st_normal_form) .none kV12 dc12 pm12 an12 cd12 ct12, F_normal_form := fun_mk (st := st_normal_form) l12 c12 k12, m_normal_form := PySem.W.mg_of X G a12, b_normal_form := (fun_mk (st := st_normal_form) l12 c12 k12).binds fun _ _ _ _ _ _ us hl => match us, hl with | [_], _ => rfl,
    a_direction := f13, d_direction := PySem.W.fnOf "direction" "direction" (defArgs st_direction) (defBody st_direction) (defScope st_direction) .none kV13 dc13 pm13 an13 cd13 ct13, F_direction := fun_mk (st := st_direction) l13 c13 k13, m_direction := PySem.W.mg_of X G a13, b_direction := (fun_mk (st := st_direction) l13 c13 k13).binds fun _ _ _ _ _ _ us hl => match us, hl with | [_, _], _ => rfl,
    a_normal_path := f14, d_normal_path := PySem.W.fnOf "normal_path" "normal_path" (defArgs st_normal_path) (defBody st_normal_path) (defScope st_normal_path) .none kV14 dc14 pm14 an14 cd14 ct14, F_normal_path := fun_mk (st := st_normal_path) l14 c14 k14, m_normal_path := PySem.W.mg_of X G a14, b_normal_path := (fun_mk (st := st_normal_path) l14 c14 k14).binds fun _ _ _ _ _ _ us hl => match us, hl with | [_, _], _ => rfl,
    a__law_is_integer := f15, d__law_is_integer := PySem.W.fnOf "_law_is_integer" "_law_is_integer" (defArgs st__law_is_integer) (defBody st__law_is_integer) (defScope st__law_is_integer) .none kV15 dc15 pm15 an15 cd15 ct15, F__law_is_integer := fun_mk (st := st__law_is_integer) l15 c15 k15, m__law_is_integer := PySem.W.mg_of X G a15, b__law_is_integer := (fun_mk (st := st__law_is_integer) l15 c15 k15).binds fun _ _ _ _ _ _ us hl => match us, hl with | [_], _ => rfl,
    a__law_is_corner := f16, d__law_is_corner := PySem.W.fnOf "_law_is_corner" "_law_is_corner" (defArgs st__law_is_corner) (defBody st__law_is_corner) (defScope st__law_is_corner) .none kV16 dc16 pm16 an16 cd16 ct16, F__law_is_corner := fun_mk (st := st__law_is_corner) l16 c16 k16, m__law_is_corner := PySem.W.mg_of X G a16, b__law_is_corner := (fun_mk (st := st__law_is_corner) l16 c16 k16).binds fun _ _ _ _ _ _ us hl => match us, hl with | [_], _ => rfl,
    a__law_told := f17, d__law_told := PySem.W.fnOf "_law_told" "_law_told" (defArgs st__law_told) (defBody st__law_told) (defScope st__law_told) .none kV17 dc17 pm17 an17 cd17 ct17, F__law_told := fun_mk (st := st__law_told) l17 c17 k17, m__law_told := PySem.W.mg_of X G a17, b__law_told := (fun_mk (st := st__law_told) l17 c17 k17).binds fun _ _ _ _ _ _ us hl => match us, hl with | [_, _], _ => rfl,
    a__law_is_path := f18, d__law_is_path := PySem.W.fnOf "_law_is_path" "_law_is_path" (defArgs st__law_is_path) (defBody st__law_is_path) (defScope st__law_is_path) .none kV18 dc18 pm18 an18 cd18 ct18, F__law_is_path := fun_mk (st := st__law_is_path) l18 c18 k18, m__law_is_path := PySem.W.mg_of X G a18, b__law_is_path := (fun_mk (st := st__law_is_path) l18 c18 k18).binds fun _ _ _ _ _ _ us hl => match us, hl with | [_, _], _ => rfl,
    a__law_same := f19, d__law_same := PySem.W.fnOf "_law_same" "_law_same" (defArgs st__law_same) (defBody st__law_same) (defScope st__law_same) .none kV19 dc19 pm19 an19 cd19 ct19, F__law_same := fun_mk (st := st__law_same) l19 c19 k19, m__law_same := PySem.W.mg_of X G a19, b__law_same := (fun_mk (st := st__law_same) l19 c19 k19).binds fun _ _ _ _ _ _ us hl => match us, hl with | [_, _], _ => rfl,
    a__law_answers := f20, d__law_answers := PySem.W.fnOf "_law_answers" "_law_answers" (defArgs st__law_answers) (defBody st__law_answers) (defScope st__law_answers) .none kV20 dc20 pm20 an20 cd20 ct20, F__law_answers := fun_mk (st := st__law_answers) l20 c20 k20, m__law_answers := PySem.W.mg_of X G a20, b__law_answers := (fun_mk (st := st__law_answers) l20 c20 k20).binds fun _ _ _ _ _ _ us hl => match us, hl with | [_, _, _], _ => rfl,
    a_law := _, d_law := PySem.W.fnOf "law" "law" (defArgs st_law) (defBody st_law) (defScope st_law) .none kV21 dc21 pm21 an21 cd21 ct21, F_law := fun_mk (st := st_law) l21 c21 k21, m_law := PySem.W.mg_of X G a21, b_law := (fun_mk (st := st_law) l21 c21 k21).binds fun _ _ _ _ _ _ us hl => match us, hl with | [_], _ => rfl,
    n_ValueError := PySem.W.mg_none_of X G z_ValueError,
    n_bool := PySem.W.mg_none_of X G z_bool,
    n_enumerate := PySem.W.mg_none_of X G z_enumerate,
    n_int := PySem.W.mg_none_of X G z_int,
    n_isinstance := PySem.W.mg_none_of X G z_isinstance,
    n_len := PySem.W.mg_none_of X G z_len,
    n_list := PySem.W.mg_none_of X G z_list,
    n_range := PySem.W.mg_none_of X G z_range,
    n_tuple := PySem.W.mg_none_of X G z_tuple,
    a_DIRECTIONS := a_DIRECTIONS, c_DIRECTIONS := PySem.W.mg_of X G x_DIRECTIONS, k_DIRECTIONS := kdn_mk l_DIRECTIONS s_DIRECTIONS b_DIRECTIONS (by decide +kernel),
    a_OPPOSITES := a_OPPOSITES, c_OPPOSITES := PySem.W.mg_of X G x_OPPOSITES, k_OPPOSITES := kds_mk l_OPPOSITES s_OPPOSITES b_OPPOSITES,
    c_PlaneError := C_PlaneError, m_PlaneError := PySem.W.mg_of X G e_PlaneError, v_PlaneError := exV_of e_PlaneError,
    c_OffBoard := C_OffBoard, m_OffBoard := PySem.W.mg_of X G e_OffBoard, v_OffBoard := exV_of e_OffBoard,
    c_NotAPath := C_NotAPath, m_NotAPath := PySem.W.mg_of X G e_NotAPath, v_NotAPath := exV_of e_NotAPath,
    E := errB_ok eB,
    i_NotAPath := fun base => exc1_mk (l := []) (N := ["self", "index"]) (ps := ["self", "index"]) (PySem.W.mg_of X G e_NotAPath) (exV_of e_NotAPath) g1_NotAPath g2_NotAPath g3_NotAPath g4_NotAPath g5_NotAPath g6_NotAPath g7_NotAPath g8_NotAPath g9_NotAPath (fun _ => rfl) ⟨rfl, rfl, rfl, rfl, by decide +kernel, ⟨_, rfl, rfl⟩, rfl, by decide +kernel, by decide +kernel, by decide +kernel, rfl, rfl⟩ rfl (.cons rfl rfl rfl .nil) rfl (fun k q h => by rcases k with _ | _ | _ | _ | k <;> simp at h <;> (try (subst h; rfl))) (by decide) (by decide) (by decide) (fun us hl => match us, hl with | [_, _], _ => rfl),
    i_OffBoard := fun base => exc1_mk (l := []) (N := ["self", "corner"]) (ps := ["self", "corner"]) (PySem.W.mg_of X G e_OffBoard) (exV_of e_OffBoard) g1_OffBoard g2_OffBoard g3_OffBoard g4_OffBoard g5_OffBoard g6_OffBoard g7_OffBoard g8_OffBoard g9_OffBoard (fun _ => rfl) ⟨rfl, rfl, rfl, rfl, by decide +kernel, ⟨_, rfl, rfl⟩, rfl, by decide +kernel, by decide +kernel, by decide +kernel, rfl, rfl⟩ rfl (.cons rfl rfl rfl .nil) rfl (fun k q h => by rcases k with _ | _ | _ | _ | k <;> simp at h <;> (try (subst h; rfl))) (by decide) (by decide) (by decide) (fun us hl => match us, hl with | [_, _], _ => rfl) }⟩
end GL
open PySem PySem.W PyProof.Rows
set_option maxHeartbeats 0 in
theorem PySem.Challenge.cw_cornerworld_k01_normal_path_or_first_fau_holds : PySem.Challenge.rw_cornerworld_k01_normal_path_or_first_fau.Holds := by
  w_on; o_law; k_head; (case hw => w_witness2)
  k_fill
  refine L2.walk_ofB (l := PySem.Challenge.rw_cornerworld_k01_normal_path_or_first_fau) (n := 63) (k := 6) (x := "script") (CX := fun w => L2N.CX PySem.Challenge.rw_cornerworld_k01_normal_path_or_first_fau.prog w) (sp := fun w => TL.spD _ 1 GL.F_law) rfl (by decide) rfl ⟨rfl, by decide, by decide⟩ (fun w h Y => PySem.W.kIn_of Y) ?F (fun w H a ns hl hb hO hS => TL.end_sp GL.law_true hl hb hS) (fun w H s e s' z => TL.end_cx z)
  case F =>
    intro w mg fa h KX G hmg
    refine' GL.all_mk KX G hmg ?a0 ?l0 ?c0 ?k0 ?a1 ?l1 ?c1 ?k1 ?a2 ?l2 ?c2 ?k2 ?a3 ?l3 ?c3 ?k3 ?a4 ?l4 ?c4 ?k4 ?a5 ?l5 ?c5 ?k5 ?a6 ?l6 ?c6 ?k6 ?a7 ?l7 ?c7 ?k7 ?a8 ?l8 ?c8 ?k8 ?a9 ?l9 ?c9 ?k9 ?a10 ?l10 ?c10 ?k10 ?a11 ?l11 ?c11 ?k11 ?a12 ?l12 ?c12 ?k12 ?a13 ?l13 ?c13 ?k13 ?a14 ?l14 ?c14 ?k14 ?a15 ?l15 ?c15 ?k15 ?a16 ?l16 ?c16 ?k16 ?a17 ?l17 ?c17 ?k17 ?a18 ?l18 ?c18 ?k18 ?a19 ?l19 ?c19 ?k19 ?a20 ?l20 ?c20 ?k20 ?a21 ?l21 ?c21 ?k21 ?z_ValueError ?z_bool ?z_enumerate ?z_int ?z_isinstance ?z_len ?z_list ?z_range ?z_tuple ?x_DIRECTIONS ?l_DIRECTIONS ?s_DIRECTIONS ?b_DIRECTIONS ?x_OPPOSITES ?l_OPPOSITES ?s_OPPOSITES ?b_OPPOSITES ?e_PlaneError ?e_OffBoard ?e_NotAPath ?eB ?g1_NotAPath ?g2_NotAPath ?g0_NotAPath ?g3_NotAPath ?g4_NotAPath ?g5_NotAPath ?g6_NotAPath ?g7_NotAPath ?g8_NotAPath ?g9_NotAPath ?g1_OffBoard ?g2_OffBoard ?g0_OffBoard ?g3_OffBoard ?g4_OffBoard ?g5_OffBoard ?g6_OffBoard ?g7_OffBoard ?g8_OffBoard ?g9_OffBoard
    (case a0 => k_is)
    (case l0 => k_is)
    (case c0 => k_is)
    (case k0 => k_is)
    (case a1 => k_is)
    (case l1 => k_is)
    (case c1 => k_is)
    (case k1 => k_is)
    (case a2 => k_is)
    (case l2 => k_is)
    (case c2 => k_is)
    (case k2 => k_is)
    (case a3 => k_is)
    (case l3 => k_is)
    (case c3 => k_is)
    (case k3 => k_is)
    (case a4 => k_is)
    (case l4 => k_is)
    (case c4 => k_is)
    (case k4 => k_is)
    (case a5 => k_is)
    (case l5 => k_is)
    (case c5 => k_is)
    (case k5 => k_is)
    (case a6 => k_is)
    (case l6 => k_is)
    (case c6 => k_is)
    (case k6 => k_is)
    (case a7 => k_is)
    (case l7 => k_is)
    (case c7 => k_is)
    (case k7 => k_is)
    (case a8 => k_is)
    (case l8 => k_is)
    (case c8 => k_is)
    (case k8 => k_is)
    (case a9 => k_is)
    (case l9 => k_is)
    (case c9 => k_is)
    (case k9 => k_is)
    (case a10 => k_is)
    (case l10 => k_is)
    (case c10 => k_is)
    (case k10 => k_is)
    (case a11 => k_is)
    (case l11 => k_is)
    (case c11 => k_is)
    (case k11 => k_is)
    (case a12 => k_is)
    (case l12 => k_is)
    (case c12 => k_is)
    (case k12 => k_is)
    (case a13 => k_is)
    (case l13 => k_is)
    (case c13 => k_is)
    (case k13 => k_is)
    (case a14 => k_is)
    (case l14 => k_is)
    (case c14 => k_is)
    (case k14 => k_is)
    (case a15 => k_is)
    (case l15 => k_is)
    (case c15 => k_is)
    (case k15 => k_is)
    (case a16 => k_is)
    (case l16 => k_is)
    (case c16 => k_is)
    (case k16 => k_is)
    (case a17 => k_is)
    (case l17 => k_is)
    (case c17 => k_is)
    (case k17 => k_is)
    (case a18 => k_is)
    (case l18 => k_is)
    (case c18 => k_is)
    (case k18 => k_is)
    (case a19 => k_is)
    (case l19 => k_is)
    (case c19 => k_is)
    (case k19 => k_is)
    (case a20 => k_is)
    (case l20 => k_is)
    (case c20 => k_is)
    (case k20 => k_is)
    (case a21 => k_is)
    (case l21 => k_is)
    (case c21 => k_is)
    (case k21 => k_is)
    (case z_ValueError => k_is)
    (case z_bool => k_is)
    (case z_enumerate => k_is)
    (case z_int => k_is)
    (case z_isinstance => k_is)
    (case z_len => k_is)
    (case z_list => k_is)
    (case z_range => k_is)
    (case z_tuple => k_is)
    (case x_DIRECTIONS => k_is)
    (case l_DIRECTIONS => k_is)
    (case s_DIRECTIONS => rfl)
    (case b_DIRECTIONS => kernel_rfl)
    (case x_OPPOSITES => k_is)
    (case l_OPPOSITES => k_is)
    (case s_OPPOSITES => exact ⟨⟨_, _, rfl, rfl⟩, ⟨_, _, rfl, rfl⟩, ⟨_, _, rfl, rfl⟩, ⟨_, _, rfl, rfl⟩, True.intro⟩)
    (case b_OPPOSITES => kernel_rfl)
    (case e_PlaneError => k_is)
    (case e_OffBoard => k_is)
    (case e_NotAPath => k_is)
    (case eB => kernel_rfl)
    (case g1_NotAPath => k_is)
    (case g2_NotAPath => kernel_rfl)
    (case g0_NotAPath => k_is)
    (case g3_NotAPath => k_is)
    (case g4_NotAPath => k_is)
    (case g5_NotAPath => k_is)
    (case g6_NotAPath => rfl)
    (case g7_NotAPath => kernel_rfl)
    (case g8_NotAPath => k_is)
    (case g9_NotAPath => kernel_rfl)
    (case g1_OffBoard => k_is)
    (case g2_OffBoard => kernel_rfl)
    (case g0_OffBoard => k_is)
    (case g3_OffBoard => k_is)
    (case g4_OffBoard => k_is)
    (case g5_OffBoard => k_is)
    (case g6_OffBoard => rfl)
    (case g7_OffBoard => kernel_rfl)
    (case g8_OffBoard => k_is)
    (case g9_OffBoard => kernel_rfl)
