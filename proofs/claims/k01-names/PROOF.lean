import PyProof.Rows.All
import Wide.All
import OpenK.AllK
import Wide.FinOn
import HandS.ForMost
import HandS.ForExc
import HandS.IsInst
import HandS.Walk
import PySem.Challenge.RW_knownlate_k01_names_and_states
set_option Elab.async false
set_option linter.all false
set_option maxRecDepth 100000
set_option maxHeartbeats 4000000
namespace Mir
open PySem PySem.Spec PyProof.Rows L2

/-! ## plain data -/
inductive D where
  | non | bl (b : Bool) | int (i : Int) | str (x : Str) | ty (n : String)
  | tup (xs : List D) | lst (xs : List D) | frl (xs : List D) | dic (kvs : List (Key × D)) | dct (kvs : List (List Key × D)) | ins (C : Addr) (fs : List (Str × D))
instance : Inhabited D := ⟨.non⟩

/-! ## heaps -/
def isDict : HO → Bool
  | .dK _ => true
  | .dT _ => true
  | _ => false
def core : HO → HO
  | .frz o u => if isDict u = true then u else .frz o u
  | u => u
/-- all of G stands in H (a dict may be locked or not) -/
def Sub (G H : Hp) : Prop := ∀ a u, G a = some u → ∃ u', H a = some u' ∧ core u' = core u
theorem Sub.refl (G : Hp) : Sub G G := fun _ u h => ⟨u, h, rfl⟩
theorem Sub.trans {A B C : Hp} (h : Sub A B) (k : Sub B C) : Sub A C := fun a u e => by
  obtain ⟨u1, e1, c1⟩ := h a u e
  obtain ⟨u2, e2, c2⟩ := k a u1 e1
  exact ⟨u2, e2, c2.trans c1⟩
theorem core_lst {u : HO} {xs : List V} (h : core u = .lst xs) : u = .lst xs := by
  cases u <;> simp only [core] at h <;> try (exact h)
  split at h
  · rename_i ob v hd
    rw [h] at hd; cases hd
  · cases h
theorem core_tup {u : HO} {xs : List V} (h : core u = .tup xs) : u = .tup xs := by
  cases u <;> simp only [core] at h <;> try (exact h)
  split at h
  · rename_i ob v hd
    rw [h] at hd; cases hd
  · cases h
theorem core_ins {u : HO} {C dx : Addr} {fs : List (Str × V)} (h : core u = .ins C dx fs) : u = .ins C dx fs := by
  cases u <;> simp only [core] at h <;> try (exact h)
  split at h
  · rename_i ob v hd
    rw [h] at hd; cases hd
  · cases h
theorem core_own {u : HO} {x : Addr} (h : core u = .own x) : u = .own x := by
  cases u <;> simp only [core] at h <;> try (exact h)
  split at h
  · rename_i ob v hd
    rw [h] at hd; cases hd
  · cases h
theorem core_dK {u : HO} {kvs : List (Key × V)} (h : core u = .dK kvs) : u = .dK kvs ∨ ∃ o, u = .frz o (.dK kvs) := by
  cases u <;> simp only [core] at h <;> try (exact .inl h)
  split at h
  · rename_i ob v hd
    exact .inr ⟨ob, by rw [h]⟩
  · cases h
theorem core_dT {u : HO} {kvs : List (List Key × V)} (h : core u = .dT kvs) : u = .dT kvs ∨ ∃ o, u = .frz o (.dT kvs) := by
  cases u <;> simp only [core] at h <;> try (exact .inl h)
  split at h
  · rename_i ob v hd
    exact .inr ⟨ob, by rw [h]⟩
  · cases h
theorem core_frz {u : HO} {o : Obj} {v : HO} (hv : isDict v = false) (h : core u = .frz o v) : u = .frz o v := by
  cases u <;> simp only [core] at h <;> try (cases h)
  split at h
  · rename_i ob v' hd
    rw [h] at hd; cases hd
  · exact h
theorem Sub.rd_lst {G H : Hp} (s : Sub G H) {a : Addr} {xs : List V} (h : Rd G a (.lst xs)) : Rd H a (.lst xs) := by
  rcases h with h | ⟨o, h⟩
  · obtain ⟨u, e, c⟩ := s a _ h
    rw [core_lst c] at e; exact .inl e
  · obtain ⟨u, e, c⟩ := s a _ h
    have c' : core u = .frz o (.lst xs) := by rw [c]; rfl
    rw [core_frz rfl c'] at e; exact .inr ⟨o, e⟩
theorem Sub.rd_tup {G H : Hp} (s : Sub G H) {a : Addr} {xs : List V} (h : Rd G a (.tup xs)) : Rd H a (.tup xs) := by
  rcases h with h | ⟨o, h⟩
  · obtain ⟨u, e, c⟩ := s a _ h
    rw [core_tup c] at e; exact .inl e
  · obtain ⟨u, e, c⟩ := s a _ h
    have c' : core u = .frz o (.tup xs) := by rw [c]; rfl
    rw [core_frz rfl c'] at e; exact .inr ⟨o, e⟩
theorem Sub.rd_dK {G H : Hp} (s : Sub G H) {a : Addr} {xs : List (Key × V)} (h : Rd G a (.dK xs)) : Rd H a (.dK xs) := by
  rcases h with h | ⟨o, h⟩ <;> (obtain ⟨u, e, c⟩ := s a _ h; rcases core_dK (u := u) (by rw [c]; rfl) with r | ⟨o', r⟩ <;> rw [r] at e)
  · exact .inl e
  · exact .inr ⟨_, e⟩
  · exact .inl e
  · exact .inr ⟨_, e⟩
theorem Sub.rd_dT {G H : Hp} (s : Sub G H) {a : Addr} {xs : List (List Key × V)} (h : Rd G a (.dT xs)) : Rd H a (.dT xs) := by
  rcases h with h | ⟨o, h⟩ <;> (obtain ⟨u, e, c⟩ := s a _ h; rcases core_dT (u := u) (by rw [c]; rfl) with r | ⟨o', r⟩ <;> rw [r] at e)
  · exact .inl e
  · exact .inr ⟨_, e⟩
  · exact .inl e
  · exact .inr ⟨_, e⟩
theorem Sub.ins {G H : Hp} (s : Sub G H) {a C dx : Addr} {fs : List (Str × V)} (h : G a = some (.ins C dx fs)) : H a = some (.ins C dx fs) := by
  obtain ⟨u, e, c⟩ := s a _ h
  rw [core_ins c] at e; exact e
theorem Sub.lst {G H : Hp} (s : Sub G H) {a : Addr} {xs : List V} (h : G a = some (.lst xs)) : H a = some (.lst xs) := by
  obtain ⟨u, e, c⟩ := s a _ h
  rw [core_lst c] at e; exact e
theorem Sub.tup {G H : Hp} (s : Sub G H) {a : Addr} {xs : List V} (h : G a = some (.tup xs)) : H a = some (.tup xs) := by
  obtain ⟨u, e, c⟩ := s a _ h
  rw [core_tup c] at e; exact e
theorem Sub.sqL {K : PySem.W.Frag} {G H : Hp} (s : Sub G H) {a : Addr} {xs : List V} (h : SqL K G a xs) : SqL K H a xs := h.elim (fun h => .inl (s.rd_lst h)) .inr
theorem Sub.sqT {K : PySem.W.Frag} {G H : Hp} (s : Sub G H) {a : Addr} {xs : List V} (h : SqT K G a xs) : SqT K H a xs := h.elim (fun h => .inl (s.rd_tup h)) .inr
theorem Sub.is {G H : Hp} (s : Sub G H) {a : Addr} {u : HO} (h : G a = some u) : H a ≠ none := by
  obtain ⟨u', e, _⟩ := s a u h
  rw [e]; simp
theorem Sub.no {G H : Hp} (s : Sub G H) {a : Addr} (h : H a = none) : G a = none := by
  cases e : G a with
  | none => rfl
  | some u => exact absurd h (s.is e)
theorem Sub.new {H : Hp} {p : Addr} {o : HO} (h : H p = none) : Sub H (upd H p o) := fun a u e => ⟨u, by rw [upd_ne (ne_of_none e h)]; exact e, rfl⟩
theorem Sub.both {G H : Hp} (s : Sub G H) {p : Addr} {o : HO} : Sub (upd G p o) (upd H p o) := fun a u e => by
  by_cases h : a = p
  · subst h; rw [upd_same] at e; cases e; exact ⟨_, upd_same, rfl⟩
  · rw [upd_ne h] at e ⊢; exact s a u e
/-- what G does not know may change -/
theorem Sub.mut {G H : Hp} (s : Sub G H) {p : Addr} {o : HO} (h : G p = none) : Sub G (upd H p o) := fun a u e => by
  rw [upd_ne (ne_of_none e h)]; exact s a u e
theorem Sub.cover {G H : Hp} (s : Sub G H) {p : Addr} {o : HO} (h : H p = some o) : Sub (upd G p o) H := fun a u e => by
  by_cases h' : a = p
  · subst h'; rw [upd_same] at e; cases e; exact ⟨_, h, rfl⟩
  · rw [upd_ne h'] at e; exact s a u e

/-! ## data at a value -/
mutual
def RepD (K : PySem.W.Frag) (G : Hp) : D → V → Prop
  | .non, v => v = .non
  | .bl b, v => v = .bl b
  | .int i, v => v = .int i
  | .str x, v => v = .str x
  | .ty n, v => v = .ty n
  | .tup ds, v => ∃ a vs, v = .ref a ∧ G a = some (.tup vs) ∧ RepL K G ds vs
  | .lst ds, v => ∃ a vs, v = .ref a ∧ G a = some (.lst vs) ∧ RepL K G ds vs
  | .frl ds, v => ∃ a vs, v = .ref a ∧ SqL K G a vs ∧ RepL K G ds vs
  | .dic kvs, v => ∃ a us, v = .ref a ∧ Rd G a (.dK us) ∧ RepK K G kvs us
  | .dct kvs, v => ∃ a us, v = .ref a ∧ Rd G a (.dT us) ∧ RepKT K G kvs us
  | .ins C fs, v => ∃ a dx us, v = .ref a ∧ G a = some (.ins C dx us) ∧ RepF K G fs us
def RepL (K : PySem.W.Frag) (G : Hp) : List D → List V → Prop
  | [], vs => vs = []
  | d :: ds, vs => ∃ v us, vs = v :: us ∧ RepD K G d v ∧ RepL K G ds us
def RepK (K : PySem.W.Frag) (G : Hp) : List (Key × D) → List (Key × V) → Prop
  | [], vs => vs = []
  | (k, d) :: ds, vs => ∃ v us, vs = (k, v) :: us ∧ RepD K G d v ∧ RepK K G ds us
def RepKT (K : PySem.W.Frag) (G : Hp) : List (List Key × D) → List (List Key × V) → Prop
  | [], vs => vs = []
  | (k, d) :: ds, vs => ∃ v us, vs = (k, v) :: us ∧ RepD K G d v ∧ RepKT K G ds us
def RepF (K : PySem.W.Frag) (G : Hp) : List (Str × D) → List (Str × V) → Prop
  | [], vs => vs = []
  | (k, d) :: ds, vs => ∃ v us, vs = (k, v) :: us ∧ RepD K G d v ∧ RepF K G ds us
end

section mono
variable {K : PySem.W.Frag} {G H : Hp}
mutual
theorem RepD.mono (s : Sub G H) : ∀ {d : D} {v : V}, RepD K G d v → RepD K H d v
  | .non, v, h => by simpa only [RepD] using h
  | .bl b, v, h => by simpa only [RepD] using h
  | .int i, v, h => by simpa only [RepD] using h
  | .str x, v, h => by simpa only [RepD] using h
  | .ty n, v, h => by simpa only [RepD] using h
  | .tup ds, v, h => by
    simp only [RepD] at h ⊢
    obtain ⟨a, vs, e, q, r⟩ := h
    exact ⟨a, vs, e, s.tup q, RepL.mono s r⟩
  | .lst ds, v, h => by
    simp only [RepD] at h ⊢
    obtain ⟨a, vs, e, q, r⟩ := h
    exact ⟨a, vs, e, s.lst q, RepL.mono s r⟩
  | .frl ds, v, h => by
    simp only [RepD] at h ⊢
    obtain ⟨a, vs, e, q, r⟩ := h
    exact ⟨a, vs, e, s.sqL q, RepL.mono s r⟩
  | .dic ds, v, h => by
    simp only [RepD] at h ⊢
    obtain ⟨a, vs, e, q, r⟩ := h
    exact ⟨a, vs, e, s.rd_dK q, RepK.mono s r⟩
  | .dct ds, v, h => by
    simp only [RepD] at h ⊢
    obtain ⟨a, vs, e, q, r⟩ := h
    exact ⟨a, vs, e, s.rd_dT q, RepKT.mono s r⟩
  | .ins C fs, v, h => by
    simp only [RepD] at h ⊢
    obtain ⟨a, dx, us, e, q, r⟩ := h
    exact ⟨a, dx, us, e, s.ins q, RepF.mono s r⟩
theorem RepL.mono (s : Sub G H) : ∀ {d : List D} {v : List V}, RepL K G d v → RepL K H d v
  | [], v, h => by simpa only [RepL] using h
  | d :: ds, v, h => by
    simp only [RepL] at h ⊢
    obtain ⟨x, us, e, q, r⟩ := h
    exact ⟨x, us, e, RepD.mono s q, RepL.mono s r⟩
theorem RepK.mono (s : Sub G H) : ∀ {d : List (Key × D)} {v : List (Key × V)}, RepK K G d v → RepK K H d v
  | [], v, h => by simpa only [RepK] using h
  | (k, d) :: ds, v, h => by
    simp only [RepK] at h ⊢
    obtain ⟨x, us, e, q, r⟩ := h
    exact ⟨x, us, e, RepD.mono s q, RepK.mono s r⟩
theorem RepKT.mono (s : Sub G H) : ∀ {d : List (List Key × D)} {v : List (List Key × V)}, RepKT K G d v → RepKT K H d v
  | [], v, h => by simpa only [RepKT] using h
  | (k, d) :: ds, v, h => by
    simp only [RepKT] at h ⊢
    obtain ⟨x, us, e, q, r⟩ := h
    exact ⟨x, us, e, RepD.mono s q, RepKT.mono s r⟩
theorem RepF.mono (s : Sub G H) : ∀ {d : List (Str × D)} {v : List (Str × V)}, RepF K G d v → RepF K H d v
  | [], v, h => by simpa only [RepF] using h
  | (k, d) :: ds, v, h => by
    simp only [RepF] at h ⊢
    obtain ⟨x, us, e, q, r⟩ := h
    exact ⟨x, us, e, RepD.mono s q, RepF.mono s r⟩
end
end mono
end Mir

set_option maxHeartbeats 4000000
namespace Mir
open PySem PySem.Spec PyProof.Rows L2

/-! ## what a mirror gives -/
structure Exn where
  cls : Addr
  fs : List (Str × D)
inductive Out (α : Type) where
  | ok (a : α)
  | exc (x : Exn)
  | stuck
def Out.bnd {α β : Type} (m : Out α) (f : α → Out β) : Out β := match m with
  | .ok a => f a
  | .exc x => .exc x
  | .stuck => .stuck
@[simp] theorem bnd_ok {α β : Type} (a : α) (f : α → Out β) : Out.bnd (.ok a) f = f a := rfl
@[simp] theorem bnd_exc {α β : Type} (x : Exn) (f : α → Out β) : Out.bnd (.exc x) f = .exc x := rfl
@[simp] theorem bnd_stuck {α β : Type} (f : α → Out β) : Out.bnd .stuck f = .stuck := rfl
abbrev RE := List (Option D)

/-! ## owned things -/
def Own (K : PySem.W.Frag) (H G : Hp) : D → V → Prop
  | .lst ds, v => ∃ a vs, v = .ref a ∧ H a = some (.lst vs) ∧ RepL K G ds vs
  | .dic kvs, v => ∃ a us, v = .ref a ∧ H a = some (.dK us) ∧ RepK K G kvs us
  | .dct kvs, v => ∃ a us, v = .ref a ∧ H a = some (.dT us) ∧ RepKT K G kvs us
  | .ins C fs, v => ∃ a dx us, v = .ref a ∧ H a = some (.ins C dx us) ∧ RepF K G fs us
  | _, _ => False
/-- as an operand: its own object as it stands in H, its parts in G -/
def RepT (K : PySem.W.Frag) (H G : Hp) : D → V → Prop
  | .tup ds, v => ∃ a vs, v = .ref a ∧ H a = some (.tup vs) ∧ RepL K G ds vs
  | .lst ds, v => ∃ a vs, v = .ref a ∧ H a = some (.lst vs) ∧ RepL K G ds vs
  | .frl ds, v => ∃ a vs, v = .ref a ∧ SqL K H a vs ∧ RepL K G ds vs
  | .dic kvs, v => ∃ a us, v = .ref a ∧ Rd H a (.dK us) ∧ RepK K G kvs us
  | .dct kvs, v => ∃ a us, v = .ref a ∧ Rd H a (.dT us) ∧ RepKT K G kvs us
  | .ins C fs, v => ∃ a dx us, v = .ref a ∧ H a = some (.ins C dx us) ∧ RepF K G fs us
  | d, v => RepD K G d v
theorem RepT.of {K : PySem.W.Frag} {H G : Hp} (s : Sub G H) : ∀ {d : D} {v : V}, RepD K G d v → RepT K H G d v
  | .non, v, h => h
  | .bl b, v, h => h
  | .int i, v, h => h
  | .str x, v, h => h
  | .ty n, v, h => h
  | .tup ds, v, h => by
    simp only [RepD] at h
    obtain ⟨a, vs, e, q, r⟩ := h
    exact ⟨a, vs, e, s.tup q, r⟩
  | .lst ds, v, h => by
    simp only [RepD] at h
    obtain ⟨a, vs, e, q, r⟩ := h
    exact ⟨a, vs, e, s.lst q, r⟩
  | .frl ds, v, h => by
    simp only [RepD] at h
    obtain ⟨a, vs, e, q, r⟩ := h
    exact ⟨a, vs, e, s.sqL q, r⟩
  | .dic ds, v, h => by
    simp only [RepD] at h
    obtain ⟨a, vs, e, q, r⟩ := h
    exact ⟨a, vs, e, s.rd_dK q, r⟩
  | .dct ds, v, h => by
    simp only [RepD] at h
    obtain ⟨a, vs, e, q, r⟩ := h
    exact ⟨a, vs, e, s.rd_dT q, r⟩
  | .ins C fs, v, h => by
    simp only [RepD] at h
    obtain ⟨a, dx, us, e, q, r⟩ := h
    exact ⟨a, dx, us, e, s.ins q, r⟩
theorem RepT.own {K : PySem.W.Frag} {H G : Hp} : ∀ {d : D} {v : V}, Own K H G d v → RepT K H G d v
  | .lst ds, v, ⟨a, vs, e, q, r⟩ => ⟨a, vs, e, q, r⟩
  | .dic ds, v, ⟨a, vs, e, q, r⟩ => ⟨a, vs, e, .inl q, r⟩
  | .dct ds, v, ⟨a, vs, e, q, r⟩ => ⟨a, vs, e, .inl q, r⟩
  | .ins C ds, v, ⟨a, dx, vs, e, q, r⟩ => ⟨a, dx, vs, e, q, r⟩
  | .non, _, h => h.elim
  | .bl _, _, h => h.elim
  | .int _, _, h => h.elim
  | .str _, _, h => h.elim
  | .ty _, _, h => h.elim
  | .tup _, _, h => h.elim
  | .frl _, _, h => h.elim
theorem Own.mono {K : PySem.W.Frag} {H H' G G' : Hp} (s : Sub G G') (k : ∀ a u, G a = none → H a = some u → H' a = some u) : ∀ {d : D} {v : V}, (∀ a, v = .ref a → G a = none) → Own K H G d v → Own K H' G' d v
  | .lst ds, v, n, ⟨a, vs, e, q, r⟩ => ⟨a, vs, e, k _ _ (n a e) q, r.mono s⟩
  | .dic ds, v, n, ⟨a, vs, e, q, r⟩ => ⟨a, vs, e, k _ _ (n a e) q, r.mono s⟩
  | .dct ds, v, n, ⟨a, vs, e, q, r⟩ => ⟨a, vs, e, k _ _ (n a e) q, r.mono s⟩
  | .ins C ds, v, n, ⟨a, dx, vs, e, q, r⟩ => ⟨a, dx, vs, e, k _ _ (n a e) q, r.mono s⟩
  | .non, _, _, h => h.elim
  | .bl _, _, _, h => h.elim
  | .int _, _, _, h => h.elim
  | .str _, _, _, h => h.elim
  | .ty _, _, _, h => h.elim
  | .tup _, _, _, h => h.elim
  | .frl _, _, _, h => h.elim
theorem Own.ref {K : PySem.W.Frag} {H G : Hp} : ∀ {d : D} {v : V}, Own K H G d v → ∃ a u, v = .ref a ∧ H a = some u
  | .lst ds, v, ⟨a, vs, e, q, r⟩ => ⟨a, _, e, q⟩
  | .dic ds, v, ⟨a, vs, e, q, r⟩ => ⟨a, _, e, q⟩
  | .dct ds, v, ⟨a, vs, e, q, r⟩ => ⟨a, _, e, q⟩
  | .ins C ds, v, ⟨a, dx, vs, e, q, r⟩ => ⟨a, _, e, q⟩
  | .non, _, h => h.elim
  | .bl _, _, h => h.elim
  | .int _, _, h => h.elim
  | .str _, _, h => h.elim
  | .ty _, _, h => h.elim
  | .tup _, _, h => h.elim
  | .frl _, _, h => h.elim
/-- an owned thing, once its object is known to G -/
theorem Own.frozen {K : PySem.W.Frag} {H G : Hp} {a : Addr} {u : HO} (hn : G a = none) (hu : H a = some u) : ∀ {d : D}, Own K H G d (.ref a) → RepD K (upd G a u) d (.ref a)
  | .lst ds, ⟨b, vs, e, q, r⟩ => by
    cases e; rw [hu] at q; cases q
    simp only [RepD]; exact ⟨a, vs, rfl, upd_same, r.mono (Sub.new hn)⟩
  | .dic ds, ⟨b, vs, e, q, r⟩ => by
    cases e; rw [hu] at q; cases q
    simp only [RepD]; exact ⟨a, vs, rfl, .inl upd_same, r.mono (Sub.new hn)⟩
  | .dct ds, ⟨b, vs, e, q, r⟩ => by
    cases e; rw [hu] at q; cases q
    simp only [RepD]; exact ⟨a, vs, rfl, .inl upd_same, r.mono (Sub.new hn)⟩
  | .ins C ds, ⟨b, dx, vs, e, q, r⟩ => by
    cases e; rw [hu] at q; cases q
    simp only [RepD]; exact ⟨a, dx, vs, rfl, upd_same, r.mono (Sub.new hn)⟩
  | .non, h => h.elim
  | .bl _, h => h.elim
  | .int _, h => h.elim
  | .str _, h => h.elim
  | .ty _, h => h.elim
  | .tup _, h => h.elim
  | .frl _, h => h.elim

/-! ## the relation of a frame -/
structure Fm where
  He : Hp
  G0 : Hp
  ex : List Addr
  /-- what is locked just now -/
  lk : List (Addr × Obj × HO)
/-- H as it may stand behind the entry He -/
def Kept (c : Fm) (H : Hp) : Prop := ∀ a u, c.He a = some u → a ∉ c.ex → (∃ u', H a = some u' ∧ core u' = core u) ∧ (c.G0 a = none → H a = some u) ∧ ∀ o v, u = .frz o v → H a = some u
structure RR (K : PySem.W.Frag) (c : Fm) (I O : List Nat) (σ : L2.St) (H G : Hp) (r : RE) : Prop where
  gh : Sub G H
  g0 : Sub c.G0 G
  gr : ∀ a u, G a = some u → c.G0 a ≠ none ∨ c.He a = none
  ke : Kept c H
  xk : ∀ a ∈ c.ex, H a ≠ none
  len : σ.length = r.length
  sl : ∀ (i : Nat) (d : D), r[i]? = some (some d) → ∃ v, σ[i]? = some (some v) ∧ (i ∈ O → Own K H G d v) ∧ (i ∉ O → RepD K G d v)
  ow : ∀ (i : Nat) (a : Addr), i ∈ O → σ[i]? = some (some (.ref a)) → G a = none ∧ (i ∈ I → a ∈ c.ex) ∧ (i ∉ I → c.He a = none) ∧ H a ≠ none
  nj : ∀ (i j : Nat) (a : Addr), i ∈ O → j ∈ O → σ[i]? = some (some (.ref a)) → σ[j]? = some (some (.ref a)) → i = j
  io : ∀ i ∈ I, i ∈ O
  lk : ∀ p ∈ c.lk, H p.1 = some (.frz p.2.1 p.2.2) ∧ G p.1 ≠ none

/-- a pure step: new objects alone -/
structure Ext (H G H' G' : Hp) : Prop where
  keep : ∀ a u, H a = some u → H' a = some u
  sub : Sub G G'
  in_ : Sub G' H'
  new : ∀ a u, G' a = some u → G a ≠ none ∨ H a = none
theorem Ext.refl {H G : Hp} (s : Sub G H) : Ext H G H G := ⟨fun _ _ h => h, Sub.refl G, s, fun _ _ h => .inl (by rw [h]; simp)⟩
theorem Ext.trans {H G H1 G1 H2 G2 : Hp} (a : Ext H G H1 G1) (b : Ext H1 G1 H2 G2) : Ext H G H2 G2 :=
  ⟨fun x u h => b.keep x u (a.keep x u h), a.sub.trans b.sub, b.in_, fun x u h => by
    rcases b.new x u h with h1 | h1
    · cases e : G1 x with
      | none => exact absurd e h1
      | some u1 => exact a.new x u1 e
    · cases e : H x with
      | none => exact .inr rfl
      | some u1 => rw [a.keep x u1 e] at h1; cases h1⟩
/-- a new object, known to G -/
theorem Ext.alloc {H G : Hp} (s : Sub G H) {p : Addr} {o : HO} (h : H p = none) : Ext H G (upd H p o) (upd G p o) :=
  ⟨fun a u e => by rw [upd_ne (ne_of_none e h)]; exact e, Sub.new (s.no h), s.both, fun a u e => by
    by_cases q : a = p
    · exact .inr (by rw [q]; exact h)
    · rw [upd_ne q] at e; exact .inl (by rw [e]; simp)⟩
/-- a new object, not known to G -/
theorem Ext.alloc0 {H G : Hp} (s : Sub G H) {p : Addr} {o : HO} (h : H p = none) : Ext H G (upd H p o) G :=
  ⟨fun a u e => by rw [upd_ne (ne_of_none e h)]; exact e, Sub.refl G, s.mut (s.no h), fun a u e => .inl (by rw [e]; simp)⟩

section
variable {K : PySem.W.Frag} {c : Fm} {I O : List Nat} {σ : L2.St} {H G H' G' : Hp} {r : RE}
theorem RR.ext (R : RR K c I O σ H G r) (x : Ext H G H' G') : RR K c I O σ H' G' r where
  gh := x.in_
  g0 := R.g0.trans x.sub
  gr := fun a u h => by
    rcases x.new a u h with h1 | h1
    · cases e : G a with
      | none => exact absurd e h1
      | some u1 => exact R.gr a u1 e
    · cases e : c.He a with
      | none => exact .inr rfl
      | some u1 =>
        by_cases ha : a ∈ c.ex
        · exact absurd h1 (R.xk a ha)
        · obtain ⟨⟨u', e', _⟩, _⟩ := R.ke a u1 e ha
          rw [h1] at e'; cases e'
  ke := fun a u h ha => by
    obtain ⟨⟨u', e', q⟩, k, k2⟩ := R.ke a u h ha
    exact ⟨⟨u', x.keep a u' e', q⟩, fun z => x.keep a u (k z), fun o v z => x.keep a u (k2 o v z)⟩
  xk := fun a ha e => by
    cases q : H a with
    | none => exact R.xk a ha q
    | some u => rw [x.keep a u q] at e; cases e
  len := R.len
  sl := fun i d h => by
    obtain ⟨v, hv, ho, hr⟩ := R.sl i d h
    exact ⟨v, hv, fun z => (ho z).mono x.sub (fun a u _ q => x.keep a u q) (fun a e => (R.ow i a z (e ▸ hv)).1), fun z => (hr z).mono x.sub⟩
  ow := fun i a ho hs => by
    obtain ⟨h1, h2, h2', h3⟩ := R.ow i a ho hs
    refine ⟨?_, h2, h2', fun e => ?_⟩
    · cases q : G' a with
      | none => rfl
      | some u =>
        rcases x.new a u q with z | z
        · exact absurd h1 z
        · exact absurd z h3
    · cases q : H a with
      | none => exact h3 q
      | some u => rw [x.keep a u q] at e; cases e
  nj := R.nj
  io := R.io
  lk := fun p hp => ⟨x.keep _ _ (R.lk p hp).1, fun e => by
    have h1 := (R.lk p hp).2
    cases q : G p.1 with
    | none => exact h1 q
    | some u => exact x.sub.is q e⟩
theorem get_set_self {α : Type} {l : List (Option α)} {i : Nat} {x y : Option α} (h : (l.set i x)[i]? = some y) : y = x := by
  by_cases hi : i < l.length
  · rw [List.getElem?_set_self hi] at h; exact (Option.some.inj h).symm
  · rw [List.getElem?_eq_none (by rw [List.length_set]; omega)] at h; cases h
def odel (O : List Nat) (i : Nat) : List Nat := O.filter fun j => j != i
theorem mem_odel {i j : Nat} : j ∈ odel O i ↔ j ∈ O ∧ j ≠ i := by
  unfold odel; rw [List.mem_filter]; simp
theorem odel_self {i : Nat} : i ∉ odel O i := fun h => (mem_odel.mp h).2 rfl
theorem odel_ne {i j : Nat} (h : i ≠ j) : j ∈ odel O i ↔ j ∈ O := ⟨fun z => (mem_odel.mp z).1, fun z => mem_odel.mpr ⟨z, Ne.symm h⟩⟩
theorem oadd_ne {i j : Nat} (h : i ≠ j) : j ∈ i :: O ↔ j ∈ O := ⟨fun z => (List.mem_cons.mp z).elim (fun e => absurd e.symm h) id, fun z => List.mem_cons_of_mem _ z⟩
/-- a clean value is stored -/
theorem RR.set (R : RR K c I O σ H G r) {i : Nat} {d : D} {v : V} (hI : i ∉ I) (h : RepD K G d v) : RR K c I (odel O i) (σ.set i (some v)) H G (r.set i (some d)) where
  gh := R.gh
  g0 := R.g0
  gr := R.gr
  ke := R.ke
  xk := R.xk
  len := by rw [List.length_set, List.length_set]; exact R.len
  sl := fun j e q => by
    by_cases hj : i = j
    · subst hj
      have hi : i < r.length := by
        by_cases hi : i < r.length
        · exact hi
        · rw [List.getElem?_eq_none (by rw [List.length_set]; omega)] at q; cases q
      have e' := get_set_self q
      cases e'
      exact ⟨v, List.getElem?_set_self (by rw [R.len]; exact hi), fun z => absurd z odel_self, fun _ => h⟩
    · rw [List.getElem?_set_ne hj] at q
      obtain ⟨u, h1, h2, h3⟩ := R.sl j e q
      refine ⟨u, by rw [List.getElem?_set_ne hj]; exact h1, ?_, ?_⟩
      · rw [odel_ne hj]; exact h2
      · rw [odel_ne hj]; exact h3
  ow := fun j a ho hs => by
    by_cases hj : i = j
    · subst hj; exact absurd ho odel_self
    · rw [odel_ne hj] at ho; rw [List.getElem?_set_ne hj] at hs
      exact R.ow j a ho hs
  nj := fun j k a h1 h2 h3 h4 => by
    by_cases hj : i = j
    · subst hj; exact absurd h1 odel_self
    · by_cases hk : i = k
      · subst hk; exact absurd h2 odel_self
      · rw [odel_ne hj] at h1; rw [odel_ne hk] at h2
        rw [List.getElem?_set_ne hj] at h3; rw [List.getElem?_set_ne hk] at h4
        exact R.nj j k a h1 h2 h3 h4
  io := fun j hj => mem_odel.mpr ⟨R.io j hj, fun e => hI (e ▸ hj)⟩
  lk := R.lk
/-- a slot is forgotten -/
theorem RR.drop (R : RR K c I O σ H G r) {i : Nat} {x : Option V} (hI : i ∉ I) : RR K c I (odel O i) (σ.set i x) H G (r.set i none) where
  gh := R.gh
  g0 := R.g0
  gr := R.gr
  ke := R.ke
  xk := R.xk
  len := by rw [List.length_set, List.length_set]; exact R.len
  sl := fun j e q => by
    by_cases hj : i = j
    · subst hj
      have e' := get_set_self q
      cases e'
    · rw [List.getElem?_set_ne hj] at q
      obtain ⟨u, h1, h2, h3⟩ := R.sl j e q
      refine ⟨u, by rw [List.getElem?_set_ne hj]; exact h1, ?_, ?_⟩
      · rw [odel_ne hj]; exact h2
      · rw [odel_ne hj]; exact h3
  ow := fun j a ho hs => by
    by_cases hj : i = j
    · subst hj; exact absurd ho odel_self
    · rw [odel_ne hj] at ho; rw [List.getElem?_set_ne hj] at hs
      exact R.ow j a ho hs
  nj := fun j k a h1 h2 h3 h4 => by
    by_cases hj : i = j
    · subst hj; exact absurd h1 odel_self
    · by_cases hk : i = k
      · subst hk; exact absurd h2 odel_self
      · rw [odel_ne hj] at h1; rw [odel_ne hk] at h2
        rw [List.getElem?_set_ne hj] at h3; rw [List.getElem?_set_ne hk] at h4
        exact R.nj j k a h1 h2 h3 h4
  io := fun j hj => mem_odel.mpr ⟨R.io j hj, fun e => hI (e ▸ hj)⟩
  lk := R.lk
/-- a new own thing is stored -/
structure Fresh (K : PySem.W.Frag) (c : Fm) (O : List Nat) (σ : L2.St) (H G : Hp) (d : D) (p : Addr) : Prop where
  g : G p = none
  e : c.He p = none
  n : ∀ (i : Nat), i ∈ O → σ[i]? ≠ some (some (.ref p))
  o : Own K H G d (.ref p)
theorem RR.setOwn (R : RR K c I O σ H G r) {i : Nat} {d : D} {p : Addr} (hI : i ∉ I) (f : Fresh K c O σ H G d p) : RR K c I (i :: O) (σ.set i (some (.ref p))) H G (r.set i (some d)) where
  gh := R.gh
  g0 := R.g0
  gr := R.gr
  ke := R.ke
  xk := R.xk
  len := by rw [List.length_set, List.length_set]; exact R.len
  sl := fun j e q => by
    by_cases hj : i = j
    · subst hj
      have hi : i < r.length := by
        by_cases hi : i < r.length
        · exact hi
        · rw [List.getElem?_eq_none (by rw [List.length_set]; omega)] at q; cases q
      have e' := get_set_self q
      cases e'
      exact ⟨.ref p, List.getElem?_set_self (by rw [R.len]; exact hi), fun z => f.o, fun z => absurd List.mem_cons_self z⟩
    · rw [List.getElem?_set_ne hj] at q
      obtain ⟨u, h1, h2, h3⟩ := R.sl j e q
      refine ⟨u, by rw [List.getElem?_set_ne hj]; exact h1, ?_, ?_⟩
      · rw [oadd_ne hj]; exact h2
      · rw [oadd_ne hj]; exact h3
  ow := fun j a ho hs => by
    by_cases hj : i = j
    · subst hj
      have e' := get_set_self hs
      cases e'
      obtain ⟨b, u, eb, hu⟩ := f.o.ref
      cases eb
      exact ⟨f.g, fun z => absurd z hI, fun _ => f.e, by rw [hu]; simp⟩
    · rw [oadd_ne hj] at ho; rw [List.getElem?_set_ne hj] at hs
      exact R.ow j a ho hs
  nj := fun j k a h1 h2 h3 h4 => by
    by_cases hj : i = j
    · by_cases hk : i = k
      · exact hj.symm.trans hk
      · subst hj
        have e' := get_set_self h3
        cases e'
        rw [oadd_ne hk] at h2; rw [List.getElem?_set_ne hk] at h4
        exact absurd h4 (f.n k h2)
    · by_cases hk : i = k
      · subst hk
        have e' := get_set_self h4
        cases e'
        rw [oadd_ne hj] at h1; rw [List.getElem?_set_ne hj] at h3
        exact absurd h3 (f.n j h1)
      · rw [oadd_ne hj] at h1; rw [oadd_ne hk] at h2
        rw [List.getElem?_set_ne hj] at h3; rw [List.getElem?_set_ne hk] at h4
        exact R.nj j k a h1 h2 h3 h4
  io := fun j hj => List.mem_cons_of_mem _ (R.io j hj)
  lk := R.lk
/-- an own thing changes -/
theorem RR.mut (R : RR K c I O σ H G r) {i : Nat} {a : Addr} {d' : D} {o : HO} (ho : i ∈ O) (hs : σ[i]? = some (some (.ref a))) (new : Own K (upd H a o) G d' (.ref a)) : RR K c I O σ (upd H a o) G (r.set i (some d')) := by
  obtain ⟨ga, hx, hy, ha⟩ := R.ow i a ho hs
  refine ⟨R.gh.mut ga, R.g0, R.gr, fun b u hb hbx => ?_, fun b hb => ?_, by rw [List.length_set]; exact R.len, fun j e q => ?_, fun j b hj hsj => ?_, R.nj, R.io, fun p hp => ⟨by rw [upd_ne (show p.1 ≠ a from fun e => (R.lk p hp).2 (by rw [e]; exact ga))]; exact (R.lk p hp).1, (R.lk p hp).2⟩⟩
  · have hne : b ≠ a := fun z => by
      by_cases hi : i ∈ I
      · exact hbx (z ▸ hx hi)
      · have := hy hi; rw [← z, hb] at this; cases this
    rw [upd_ne hne]
    exact R.ke b u hb hbx
  · by_cases z : b = a
    · rw [z, upd_same]; simp
    · rw [upd_ne z]; exact R.xk b hb
  · by_cases hj : i = j
    · subst hj
      have e' := get_set_self q
      cases e'
      exact ⟨.ref a, hs, fun _ => new, fun z => absurd ho z⟩
    · rw [List.getElem?_set_ne hj] at q
      obtain ⟨u, h1, h2, h3⟩ := R.sl j e q
      refine ⟨u, h1, fun z => ?_, h3⟩
      have h2' := h2 z
      obtain ⟨b, ub, eb, hub⟩ := h2'.ref
      have hba : b ≠ a := fun q => by
        subst eb; subst q
        exact hj (R.nj i j b ho z hs h1)
      subst eb
      cases e with
      | lst ds => obtain ⟨b', vs, e1, e2, e3⟩ := h2'; cases e1; exact ⟨b, vs, rfl, by rw [upd_ne hba]; exact e2, e3⟩
      | dic ds => obtain ⟨b', vs, e1, e2, e3⟩ := h2'; cases e1; exact ⟨b, vs, rfl, by rw [upd_ne hba]; exact e2, e3⟩
      | dct ds => obtain ⟨b', vs, e1, e2, e3⟩ := h2'; cases e1; exact ⟨b, vs, rfl, by rw [upd_ne hba]; exact e2, e3⟩
      | ins C ds => obtain ⟨b', dx, vs, e1, e2, e3⟩ := h2'; cases e1; exact ⟨b, dx, vs, rfl, by rw [upd_ne hba]; exact e2, e3⟩
      | _ => exact h2'.elim
  · obtain ⟨h1, h2, h3, h4⟩ := R.ow j b hj hsj
    refine ⟨h1, h2, h3, ?_⟩
    by_cases z : b = a
    · rw [z, upd_same]; simp
    · rw [upd_ne z]; exact h4
theorem Own.at {d : D} {a : Addr} {u : HO} (s : Sub G G') (hu : H a = some u) (hg : G' a = some u) : Own K H G d (.ref a) → RepD K G' d (.ref a) := fun h => by
  cases d with
  | lst ds => obtain ⟨b', vs, e1, e2, e3⟩ := h; cases e1; rw [hu] at e2; cases e2; simp only [RepD]; exact ⟨a, vs, rfl, hg, e3.mono s⟩
  | dic ds => obtain ⟨b', vs, e1, e2, e3⟩ := h; cases e1; rw [hu] at e2; cases e2; simp only [RepD]; exact ⟨a, vs, rfl, .inl hg, e3.mono s⟩
  | dct ds => obtain ⟨b', vs, e1, e2, e3⟩ := h; cases e1; rw [hu] at e2; cases e2; simp only [RepD]; exact ⟨a, vs, rfl, .inl hg, e3.mono s⟩
  | ins C ds => obtain ⟨b', dx, vs, e1, e2, e3⟩ := h; cases e1; rw [hu] at e2; cases e2; simp only [RepD]; exact ⟨a, dx, vs, rfl, hg, e3.mono s⟩
  | _ => exact h.elim
/-- fewer own slots: the others' things are frozen -/
theorem RR.weak {O' : List Nat} (R : RR K c I O σ H G r) (hO : ∀ i ∈ O', i ∈ O) (hI : ∀ i ∈ I, i ∈ O') : ∃ G', Sub G G' ∧ RR K c I O' σ H G' r ∧ ∀ a, G' a ≠ none → G a ≠ none ∨ ∃ i : Nat, i ∈ O ∧ i ∉ O' ∧ σ[i]? = some (some (.ref a)) := by
  classical
  let B : Addr → Prop := fun a => ∃ i : Nat, i ∈ O ∧ i ∉ O' ∧ σ[i]? = some (some (.ref a))
  let G' : Hp := fun a => if B a then H a else G a
  have gB : ∀ a, B a → G' a = H a := fun a h => if_pos h
  have gN : ∀ a, ¬ B a → G' a = G a := fun a h => if_neg h
  have sub : Sub G G' := fun a u h => by
    by_cases b : B a
    · rw [gB a b]; exact R.gh a u h
    · rw [gN a b]; exact ⟨u, h, rfl⟩
  refine ⟨G', sub, ⟨fun a u h => ?_, R.g0.trans sub, fun a u h => ?_, R.ke, R.xk, R.len, fun i d h => ?_, fun i a hi hs => ?_, fun i j a hi hj => R.nj i j a (hO i hi) (hO j hj), hI, fun p hp => ⟨(R.lk p hp).1, fun e => by
    have h1 := (R.lk p hp).2
    cases q : G p.1 with
    | none => exact h1 q
    | some u => exact sub.is q e⟩⟩, fun a h => by
    by_cases b : B a
    · exact .inr b
    · rw [gN a b] at h; exact .inl h⟩
  · by_cases b : B a
    · rw [gB a b] at h; exact ⟨u, h, rfl⟩
    · rw [gN a b] at h; exact R.gh a u h
  · by_cases b : B a
    · obtain ⟨i, h1, h2, h3⟩ := b
      exact .inr ((R.ow i a h1 h3).2.2.1 fun z => h2 (hI i z))
    · rw [gN a b] at h; exact R.gr a u h
  · obtain ⟨v, h1, h2, h3⟩ := R.sl i d h
    refine ⟨v, h1, fun z => ?_, fun z => ?_⟩
    · refine (h2 (hO i z)).mono sub (fun a u _ q => q) fun a e => (R.ow i a (hO i z) (e ▸ h1)).1
    · by_cases hi : i ∈ O
      · have ho := h2 hi
        obtain ⟨a, u, e, hu⟩ := ho.ref
        subst e
        exact ho.at sub hu (by rw [gB a ⟨i, hi, z, h1⟩]; exact hu)
      · exact (h3 hi).mono sub
  · obtain ⟨h1, h2, h3, h4⟩ := R.ow i a (hO i hi) hs
    refine ⟨?_, h2, h3, h4⟩
    have nb : ¬ B a := fun ⟨j, j1, j2, j3⟩ => by
      have := R.nj i j a (hO i hi) j1 hs j3
      exact j2 (this ▸ hi)
    rw [gN a nb]; exact h1
theorem RR.same {O' : List Nat} (R : RR K c I O σ H G r) (h : ∀ i, i ∈ O ↔ i ∈ O') : RR K c I O' σ H G r :=
  ⟨R.gh, R.g0, R.gr, R.ke, R.xk, R.len, fun i d e => by
    obtain ⟨v, h1, h2, h3⟩ := R.sl i d e
    exact ⟨v, h1, fun z => h2 ((h i).mpr z), fun z => h3 fun q => z ((h i).mp q)⟩, fun i a hi => R.ow i a ((h i).mpr hi), fun i j a hi hj => R.nj i j a ((h i).mpr hi) ((h j).mpr hj), fun i hi => (h i).mp (R.io i hi), R.lk⟩
/-- a slot's data is not asked any more -/
theorem RR.forget (R : RR K c I O σ H G r) {i : Nat} (hI : i ∉ I) : RR K c I (odel O i) σ H G (r.set i none) :=
  ⟨R.gh, R.g0, R.gr, R.ke, R.xk, by rw [List.length_set]; exact R.len, fun j e q => by
    by_cases hj : i = j
    · subst hj
      have e' := get_set_self q
      cases e'
    · rw [List.getElem?_set_ne hj] at q
      obtain ⟨u, h1, h2, h3⟩ := R.sl j e q
      refine ⟨u, h1, ?_, ?_⟩
      · rw [odel_ne hj]; exact h2
      · rw [odel_ne hj]; exact h3, fun j a hj => R.ow j a (mem_odel.mp hj).1, fun j k a hj hk => R.nj j k a (mem_odel.mp hj).1 (mem_odel.mp hk).1, fun j hj => mem_odel.mpr ⟨R.io j hj, fun e => hI (e ▸ hj)⟩, R.lk⟩
end
end Mir

set_option maxHeartbeats 4000000
namespace Mir
open PySem PySem.Spec PyProof.Rows L2

theorem lim_le {n : Nat} (h : n ≤ 1000000) : n ≤ sizeLine := Nat.le_trans h (by decide)
theorem lim_lt {n : Nat} (h : n < 1000000) : n < sizeLine := Nat.lt_of_lt_of_le h (by decide)
def Wp {α : Type} (o : Out α) (P : α → Prop) (X : Exn → Prop) : Prop := match o with
  | .ok a => P a
  | .exc x => X x
  | .stuck => False
theorem Wp.bnd {α β : Type} {o : Out α} {f : α → Out β} {P : β → Prop} {X : Exn → Prop} (h : Wp (o.bnd f) P X) : Wp o (fun a => Wp (f a) P X) X := by
  cases o <;> exact h
theorem Wp.mono {α : Type} {o : Out α} {P P' : α → Prop} {X X' : Exn → Prop} (h : Wp o P X) (k : ∀ a, P a → P' a) (k' : ∀ x, X x → X' x) : Wp o P' X' := by
  cases o
  · exact k _ h
  · exact k' _ h
  · exact h

/-! ## the judgements -/
/-- c: the frame's entry; I: the slots of things that the caller owns; E: what is wanted of an exception -/
structure Cf where
  I : List Nat
  E : XK
  fr : Bool
def XP (K : PySem.W.Frag) (c : Fm) (E : XK) (x : Exn) : Prop := ∀ dx H' G' us, Sub G' H' → Sub c.G0 G' → (∀ a u, G' a = some u → c.G0 a ≠ none ∨ c.He a = none) → Kept c H' → H' dx = some (.xd us) → RepF K G' x.fs us → E (.ref x.cls) (some dx) H'
inductive Opd where
  | val (d : D)
  | slot (i : Nat)
@[simp] def deref (r : RE) : Opd → Option D
  | .val d => some d
  | .slot i => (r[i]?).join
@[simp] def derefs (r : RE) : List Opd → Option (List D)
  | [] => some []
  | o :: os => match deref r o, derefs r os with
    | some d, some ds => some (d :: ds)
    | _, _ => none
section defs
variable (K : PySem.W.Frag) (C : Cf) (O : List Nat)
def RepO (σ : L2.St) (G : Hp) : Opd → V → Prop
  | .val d, v => RepD K G d v
  | .slot i, v => i ∈ O ∧ σ[i]? = some (some v)
def RepOL (σ : L2.St) (G : Hp) : List Opd → List V → Prop
  | [], vs => vs = []
  | o :: os, vs => ∃ v us, vs = v :: us ∧ RepO K O σ G o v ∧ RepOL σ G os us
def Snd (te : TE) (m : RE → Out (D × RE)) : Prop := ∀ (c : Fm) (σ : L2.St) (H G : Hp) (r : RE) (Q : VK), RR K c C.I O σ H G r →
  Wp (m r) (fun p => ∀ v H' G', RR K c C.I O σ H' G' p.2 → Sub G G' → RepD K G' p.1 v → Q v H') (XP K c C.E) → te σ H Q
def SndF (te : TE) (m : RE → Out (D × RE)) : Prop := ∀ (c : Fm) (σ : L2.St) (H G : Hp) (r : RE) (Q : VK), RR K c C.I O σ H G r →
  Wp (m r) (fun p => ∀ a H' G', RR K c C.I O σ H' G' p.2 → Sub G G' → Fresh K c O σ H' G' p.1 a → Q (.ref a) H') (XP K c C.E) → te σ H Q
def SndO (te : TE) (m : RE → Out (Opd × RE)) : Prop := ∀ (c : Fm) (σ : L2.St) (H G : Hp) (r : RE) (Q : VK), RR K c C.I O σ H G r →
  Wp (m r) (fun p => ∀ v H' G', RR K c C.I O σ H' G' p.2 → Sub G G' → RepO K O σ G' p.1 v → Q v H') (XP K c C.E) → te σ H Q
def SndT (te : TT) (m : RE → Out (Bool × RE)) : Prop := ∀ (c : Fm) (σ : L2.St) (H G : Hp) (r : RE) (Q : Bool → Hp → Prop), RR K c C.I O σ H G r →
  Wp (m r) (fun p => ∀ H' G', RR K c C.I O σ H' G' p.2 → Sub G G' → Q p.1 H') (XP K c C.E) → te σ H Q
def SndA (te : TA) (m : RE → Out (List Opd × RE)) : Prop := ∀ (c : Fm) (σ : L2.St) (H G : Hp) (r : RE) (Q : List V → Hp → Prop), RR K c C.I O σ H G r →
  Wp (m r) (fun p => ∀ vs H' G', RR K c C.I O σ H' G' p.2 → Sub G G' → RepOL K O σ G' p.1 vs → Q vs H') (XP K c C.E) → te σ H Q
inductive Fl where
  | nx (r : RE)
  | rt (d : D) (r : RE)
  | bk (r : RE)
  | ct (r : RE)
/-- what a return wants: a clean value, or (fr) a new thing of one's own -/
def RetP (c : Fm) (G : Hp) (d : D) (r' : RE) (Q : VK) : Prop :=
  if C.fr = true then ∀ a σ' H' G', RR K c C.I C.I σ' H' G' r' → Sub G G' → Fresh K c C.I σ' H' G' d a → Q (.ref a) H'
  else ∀ v σ' H' G', RR K c C.I C.I σ' H' G' r' → Sub G G' → RepD K G' d v → Q v H'
def FlP (c : Fm) (O' Ol : List Nat) (G : Hp) (Dd : Ends) : Fl → Prop
  | .nx r' => ∀ σ' H' G', RR K c C.I O' σ' H' G' r' → Sub G G' → Dd.nx σ' H'
  | .rt d r' => RetP K C c G d r' Dd.rt
  | .bk r' => ∀ σ' H' G', RR K c C.I Ol σ' H' G' r' → Sub G G' → Dd.bk σ' H'
  | .ct r' => ∀ σ' H' G', RR K c C.I Ol σ' H' G' r' → Sub G G' → Dd.ct σ' H'
def SndS (O' Ol : List Nat) (ts : TS) (m : RE → Out Fl) : Prop := ∀ (c : Fm) (σ : L2.St) (H G : Hp) (r : RE) (Dd : Ends), RR K c C.I O σ H G r →
  Wp (m r) (FlP K C c O' Ol G Dd) (XP K c C.E) → ts Dd σ H
end defs
def EM (X : Cx) (C : Cf) (O : List Nat) (e : PySem.Expr) (m : RE → Out (D × RE)) : Prop := ∃ te, PE X e te ∧ Snd X.K C O te m
def FM (X : Cx) (C : Cf) (O : List Nat) (e : PySem.Expr) (m : RE → Out (D × RE)) : Prop := ∃ te, PE X e te ∧ SndF X.K C O te m
def OM (X : Cx) (C : Cf) (O : List Nat) (e : PySem.Expr) (m : RE → Out (Opd × RE)) : Prop := ∃ te, PE X e te ∧ SndO X.K C O te m
def TM (X : Cx) (C : Cf) (O : List Nat) (e : PySem.Expr) (m : RE → Out (Bool × RE)) : Prop := ∃ te, PT X e te ∧ SndT X.K C O te m
def WM (X : Cx) (C : Cf) (O : List Nat) (e : PySem.Expr) (m : RE → Out (Bool × RE)) : Prop := ∃ te, PW X e te ∧ SndT X.K C O te m
def AM (X : Cx) (C : Cf) (O : List Nat) (es : List PySem.Expr) (m : RE → Out (List Opd × RE)) : Prop := ∃ te, PA X es te ∧ SndA X.K C O te m
def SM (X : Cx) (C : Cf) (O O' Ol : List Nat) (s : Stmt) (m : RE → Out Fl) : Prop := ∃ ts, PS X s ts ∧ SndS X.K C O O' Ol ts m
def BM (X : Cx) (C : Cf) (O O' Ol : List Nat) (s : List Stmt) (m : RE → Out Fl) : Prop := ∃ ts, PSs X s ts ∧ SndS X.K C O O' Ol ts m

/-! ## mirrors of expressions -/
@[simp] def mVar (i : Nat) : RE → Out (D × RE) := fun r => match r[i]? with
  | some (some d) => .ok (d, r)
  | _ => .stuck
@[simp] def mSlot (i : Nat) : RE → Out (Opd × RE) := fun r => match r[i]? with
  | some (some _) => .ok (.slot i, r)
  | _ => .stuck
@[simp] def mC (d : D) : RE → Out (D × RE) := fun r => .ok (d, r)
@[simp] def mVal (m : RE → Out (D × RE)) : RE → Out (Opd × RE) := fun r => (m r).bnd fun p => .ok (.val p.1, p.2)
@[simp] def mOp2 (f : D → D → Out D) (ma mb : RE → Out (Opd × RE)) : RE → Out (D × RE) := fun r => (ma r).bnd fun x => (mb x.2).bnd fun y => match deref y.2 x.1, deref y.2 y.1 with
  | some dx, some dy => (f dx dy).bnd fun d => .ok (d, y.2)
  | _, _ => .stuck
@[simp] def mOp1 (f : D → Out D) (ma : RE → Out (Opd × RE)) : RE → Out (D × RE) := fun r => (ma r).bnd fun x => match deref x.2 x.1 with
  | some dx => (f dx).bnd fun d => .ok (d, x.2)
  | _ => .stuck
@[simp] def mNil : RE → Out (List Opd × RE) := fun r => .ok ([], r)
@[simp] def mCons (m : RE → Out (Opd × RE)) (ms : RE → Out (List Opd × RE)) : RE → Out (List Opd × RE) := fun r => (m r).bnd fun p => (ms p.2).bnd fun q => .ok (p.1 :: q.1, q.2)
@[simp] def mArgs (f : List D → Out D) (ms : RE → Out (List Opd × RE)) : RE → Out (D × RE) := fun r => (ms r).bnd fun p => match derefs p.2 p.1 with
  | some ds => (f ds).bnd fun d => .ok (d, p.2)
  | none => .stuck
@[simp] def truth : D → Out Bool
  | .non => .ok false
  | .bl b => .ok b
  | .int i => .ok (i != 0)
  | .str x => if x.length ≤ 1000000 then .ok ((x.length : Int) != 0) else .stuck
  | .lst xs => .ok (!xs.isEmpty)
  | .tup xs => .ok (!xs.isEmpty)
  | _ => .stuck
@[simp] def mTruth (m : RE → Out (Opd × RE)) : RE → Out (Bool × RE) := fun r => (m r).bnd fun p => match deref p.2 p.1 with
  | some d => (truth d).bnd fun b => .ok (b, p.2)
  | none => .stuck
@[simp] def asB : D → Out Bool
  | .bl b => .ok b
  | _ => .stuck
@[simp] def mBool (m : RE → Out (D × RE)) : RE → Out (Bool × RE) := fun r => (m r).bnd fun p => (asB p.1).bnd fun b => .ok (b, p.2)
@[simp] def mTAnd (a b : RE → Out (Bool × RE)) : RE → Out (Bool × RE) := fun r => (a r).bnd fun p => if p.1 = true then b p.2 else .ok (false, p.2)
@[simp] def mTOr (a b : RE → Out (Bool × RE)) : RE → Out (Bool × RE) := fun r => (a r).bnd fun p => if p.1 = true then .ok (true, p.2) else b p.2
@[simp] def mTNot (a : RE → Out (Bool × RE)) : RE → Out (Bool × RE) := fun r => (a r).bnd fun p => .ok (!p.1, p.2)
@[simp] def mAnd (a b : RE → Out (D × RE)) : RE → Out (D × RE) := fun r => (a r).bnd fun p => (asB p.1).bnd fun c => if c = true then b p.2 else .ok (.bl false, p.2)
@[simp] def mOr (a b : RE → Out (D × RE)) : RE → Out (D × RE) := fun r => (a r).bnd fun p => (asB p.1).bnd fun c => if c = true then .ok (.bl true, p.2) else b p.2
@[simp] def mNot (a : RE → Out (D × RE)) : RE → Out (D × RE) := fun r => (a r).bnd fun p => (asB p.1).bnd fun c => .ok (.bl (!c), p.2)
@[simp] def mIfE (t : RE → Out (Bool × RE)) (a b : RE → Out (D × RE)) : RE → Out (D × RE) := fun r => (t r).bnd fun p => if p.1 = true then a p.2 else b p.2

/-! ## mirrors of statements -/
@[simp] def mNext : RE → Out Fl := fun r => .ok (.nx r)
@[simp] def mBrk : RE → Out Fl := fun r => .ok (.bk r)
@[simp] def mCnt : RE → Out Fl := fun r => .ok (.ct r)
def mNever : RE → Out Fl := fun _ => .stuck
@[simp] def mSeq (a b : RE → Out Fl) : RE → Out Fl := fun r => (a r).bnd fun f => match f with
  | .nx r' => b r'
  | f => .ok f
@[simp] def mDrop (m : RE → Out (D × RE)) : RE → Out Fl := fun r => (m r).bnd fun p => .ok (.nx p.2)
@[simp] def mRet (m : RE → Out (D × RE)) : RE → Out Fl := fun r => (m r).bnd fun p => .ok (.rt p.1 p.2)
@[simp] def mIf (t : RE → Out (Bool × RE)) (a b : RE → Out Fl) : RE → Out Fl := fun r => (t r).bnd fun p => if p.1 = true then a p.2 else b p.2
@[simp] def mSet (i : Nat) (m : RE → Out (D × RE)) : RE → Out Fl := fun r => (m r).bnd fun p => .ok (.nx (p.2.set i (some p.1)))
/-- a loop over the data xs; st stores an item -/
def mLoop (st : D → RE → Option RE) (b : RE → Out Fl) : List D → RE → Out Fl
  | [], r => .ok (.nx r)
  | x :: xs, r => match st x r with
    | none => .stuck
    | some r1 => (b r1).bnd fun f => match f with
      | .nx r2 => mLoop st b xs r2
      | .ct r2 => mLoop st b xs r2
      | .bk r2 => .ok (.nx r2)
      | .rt d r2 => .ok (.rt d r2)
def mWhile (t : RE → Out (Bool × RE)) (b : RE → Out Fl) : Nat → RE → Out Fl
  | 0, _ => .stuck
  | n + 1, r => (t r).bnd fun p => if p.1 = true then (b p.2).bnd fun f => match f with
      | .nx r2 => mWhile t b n r2
      | .ct r2 => mWhile t b n r2
      | .bk r2 => .ok (.nx r2)
      | .rt d r2 => .ok (.rt d r2)
    else .ok (.nx p.2)

section
variable {K : PySem.W.Frag} {C : Cf} {O : List Nat} {c : Fm} {σ : L2.St} {H G H' G' : Hp} {r : RE}
theorem RepO.mono {o : Opd} {v : V} (s : Sub G G') (h : RepO K O σ G o v) : RepO K O σ G' o v := by
  cases o with
  | val d => exact RepD.mono s h
  | slot i => exact h
theorem RepOL.mono (s : Sub G G') : ∀ {os : List Opd} {vs : List V}, RepOL K O σ G os vs → RepOL K O σ G' os vs
  | [], _, h => h
  | o :: os, _, ⟨v, us, e, h, t⟩ => ⟨v, us, e, h.mono s, RepOL.mono s t⟩
theorem RepO.at {o : Opd} {v : V} {d : D} (R : RR K c C.I O σ H G r) (h : RepO K O σ G o v) (e : deref r o = some d) : RepT K H G d v := by
  cases o with
  | val d' => cases e; exact RepT.of R.gh h
  | slot i =>
    obtain ⟨hi, hs⟩ := h
    have e' : r[i]? = some (some d) := by
      show r[i]? = some (some d)
      have : (r[i]?).join = some d := e
      cases q : r[i]? with
      | none => rw [q] at this; cases this
      | some x => rw [q] at this; cases x with
        | none => cases this
        | some y => exact congrArg some this
    obtain ⟨u, h1, h2, _⟩ := R.sl i d e'
    rw [hs] at h1; cases h1
    exact RepT.own (h2 hi)
inductive RepTL (K : PySem.W.Frag) (H G : Hp) : List D → List V → Prop
  | nil : RepTL K H G [] []
  | cons {d : D} {v : V} {ds : List D} {vs : List V} : RepT K H G d v → RepTL K H G ds vs → RepTL K H G (d :: ds) (v :: vs)
theorem RepOL.at (R : RR K c C.I O σ H G r) : ∀ {os : List Opd} {vs : List V} {ds : List D}, RepOL K O σ G os vs → derefs r os = some ds → RepTL K H G ds vs
  | [], _, _, h, e => by cases e; cases h; exact .nil
  | o :: os, _, ds, ⟨v, us, ev, h, t⟩, e => by
    subst ev
    simp only [derefs] at e
    cases q : deref r o with
    | none => rw [q] at e; cases e
    | some d =>
      cases q2 : derefs r os with
      | none => rw [q, q2] at e; cases e
      | some ds' =>
        rw [q, q2] at e; cases e
        exact .cons (h.at R q) (RepOL.at R t q2)

/-! ## soundness of the parts -/
variable {ta tb te : TE} {ma mb m : RE → Out (D × RE)} {oa ob : RE → Out (Opd × RE)} {t u : TT} {mt mu : RE → Out (Bool × RE)}
theorem snd_var {i : Nat} (hO : i ∉ O) : Snd K C O (tVar i) (mVar i) := fun c σ H G r Q R h => by
  unfold mVar at h
  split at h
  · rename_i d e
    obtain ⟨v, h1, _, h3⟩ := R.sl i d e
    exact ⟨v, h1, h v H G R (Sub.refl G) (h3 hO)⟩
  · exact h.elim
theorem snd_slot {i : Nat} (hO : i ∈ O) : SndO K C O (tVar i) (mSlot i) := fun c σ H G r Q R h => by
  unfold mSlot at h
  split at h
  · rename_i d e
    obtain ⟨v, h1, _, h3⟩ := R.sl i d e
    exact ⟨v, h1, h v H G R (Sub.refl G) ⟨hO, h1⟩⟩
  · exact h.elim
theorem snd_val (h : Snd K C O te m) : SndO K C O te (mVal m) := fun c σ H G r Q R w => by
  refine h c σ H G r Q R ?_
  refine (Wp.bnd w).mono (fun p q => ?_) fun _ x => x
  exact q
theorem snd_c {d : D} {v : V} (h : ∀ G, RepD K G d v) : Snd K C O (tC v) (mC d) := fun c σ H G r Q R w => w v H G R (Sub.refl G) (h G)
/-- a new thing, frozen -/
theorem snd_of_f (h : SndF K C O te m) : Snd K C O te m := fun c σ H G r Q R w => by
  refine h c σ H G r Q R (w.mono (fun p q a H' G' R' s f => ?_) fun _ x => x)
  obtain ⟨b, u, eb, hu⟩ := f.o.ref
  cases eb
  refine q (.ref a) H' (upd G' a u) ?_ (s.trans (Sub.new f.g)) (f.o.frozen f.g hu)
  refine ⟨R'.gh.cover hu, R'.g0.trans (Sub.new f.g), fun b v e => ?_, R'.ke, R'.xk, R'.len, fun i d hi => ?_, fun i b hi hs => ?_, R'.nj, R'.io, fun p hp => ⟨(R'.lk p hp).1, fun e => by
    have h1 := (R'.lk p hp).2
    cases q : G' p.1 with
    | none => exact h1 q
    | some u => exact (Sub.new f.g).is q e⟩⟩
  · by_cases z : b = a
    · exact .inr (z ▸ f.e)
    · rw [upd_ne z] at e; exact R'.gr b v e
  · obtain ⟨v, h1, h2, h3⟩ := R'.sl i d hi
    exact ⟨v, h1, fun z => (h2 z).mono (Sub.new f.g) (fun _ _ _ q => q) fun b e => (R'.ow i b z (e ▸ h1)).1, fun z => (h3 z).mono (Sub.new f.g)⟩
  · obtain ⟨h1, h2, h3, h4⟩ := R'.ow i b hi hs
    refine ⟨?_, h2, h3, h4⟩
    have : b ≠ a := fun z => f.n i hi (z ▸ hs)
    rw [upd_ne this]; exact h1
/-- an operation on two values -/
def OpS (K : PySem.W.Frag) (rr : R2) (f : D → D → Out D) : Prop := ∀ (x y : V) (H G : Hp) (dx dy : D) (Q : VK), Sub G H → RepT K H G dx x → RepT K H G dy y → ∀ d, f dx dy = .ok d →
  (∀ v H' G', Ext H G H' G' → RepD K G' d v → Q v H') → rr x y H Q
def OpF (K : PySem.W.Frag) (rr : R2) (f : D → D → Out D) : Prop := ∀ (x y : V) (H G : Hp) (dx dy : D) (Q : VK), Sub G H → RepT K H G dx x → RepT K H G dy y → ∀ d, f dx dy = .ok d →
  (∀ p o, H p = none → Own K (upd H p o) G d (.ref p) → Q (.ref p) (upd H p o)) → rr x y H Q
/-- f raises nothing -/
def NoX1 {α : Type} (f : α → Out D) : Prop := ∀ a x, f a ≠ .exc x
def NoX2 (f : D → D → Out D) : Prop := ∀ a b x, f a b ≠ .exc x
theorem wp_f2 {f : D → D → Out D} (nx : NoX2 f) {dx dy : D} {r' : RE} {P : D × RE → Prop} {X : Exn → Prop} (h : Wp ((f dx dy).bnd fun d => .ok (d, r')) P X) : ∃ d, f dx dy = .ok d ∧ P (d, r') := by
  cases e : f dx dy with
  | ok d => rw [e] at h; exact ⟨d, rfl, h⟩
  | exc x => exact absurd e (nx _ _ _)
  | stuck => rw [e] at h; exact h.elim
theorem wp_f1 {α : Type} {f : α → Out D} (nx : NoX1 f) {a : α} {r' : RE} {P : D × RE → Prop} {X : Exn → Prop} (h : Wp ((f a).bnd fun d => .ok (d, r')) P X) : ∃ d, f a = .ok d ∧ P (d, r') := by
  cases e : f a with
  | ok d => rw [e] at h; exact ⟨d, rfl, h⟩
  | exc x => exact absurd e (nx _ _)
  | stuck => rw [e] at h; exact h.elim
theorem fresh_of {a : Addr} {o : HO} {d : D} (R : RR K c C.I O σ H G r) (h : H a = none) (w : Own K (upd H a o) G d (.ref a)) : RR K c C.I O σ (upd H a o) G r ∧ Fresh K c O σ (upd H a o) G d a := by
  refine ⟨R.ext (Ext.alloc0 R.gh h), R.gh.no h, ?_, fun i hi hs => (R.ow i a hi hs).2.2.2 h, w⟩
  cases e : c.He a with
  | none => rfl
  | some u =>
    by_cases hx : a ∈ c.ex
    · exact absurd h (R.xk a hx)
    · obtain ⟨⟨u', e', _⟩, _⟩ := R.ke a u e hx
      rw [h] at e'; cases e'
theorem snd_op2 {rr : R2} {f : D → D → Out D} (ho : OpS K rr f) (nx : NoX2 f) (ha : SndO K C O ta oa) (hb : SndO K C O tb ob) : Snd K C O (tOp rr ta tb) (mOp2 f oa ob) := fun c σ H G r Q R w => by
  refine ha c σ H G r _ R ((Wp.bnd w).mono (fun p q v1 H1 G1 R1 s1 h1 => ?_) fun _ x => x)
  refine hb c σ H1 G1 p.2 _ R1 ((Wp.bnd q).mono (fun p2 q2 v2 H2 G2 R2 s2 h2 => ?_) fun _ x => x)
  cases e1 : deref p2.2 p.1 with
  | none => simp only [e1] at q2; exact q2.elim
  | some dx =>
    cases e2 : deref p2.2 p2.1 with
    | none => simp only [e1, e2] at q2; exact q2.elim
    | some dy =>
      simp only [e1, e2] at q2
      obtain ⟨d, hd, q3⟩ := wp_f2 nx q2
      exact ho v1 v2 H2 G2 dx dy Q R2.gh ((h1.mono s2).at R2 e1) (h2.at R2 e2) d hd fun v H' G' x rep => q3 v H' G' (R2.ext x) ((s1.trans s2).trans x.sub) rep
theorem sndf_op2 {rr : R2} {f : D → D → Out D} (ho : OpF K rr f) (nx : NoX2 f) (ha : SndO K C O ta oa) (hb : SndO K C O tb ob) : SndF K C O (tOp rr ta tb) (mOp2 f oa ob) := fun c σ H G r Q R w => by
  refine ha c σ H G r _ R ((Wp.bnd w).mono (fun p q v1 H1 G1 R1 s1 h1 => ?_) fun _ x => x)
  refine hb c σ H1 G1 p.2 _ R1 ((Wp.bnd q).mono (fun p2 q2 v2 H2 G2 R2 s2 h2 => ?_) fun _ x => x)
  cases e1 : deref p2.2 p.1 with
  | none => simp only [e1] at q2; exact q2.elim
  | some dx =>
    cases e2 : deref p2.2 p2.1 with
    | none => simp only [e1, e2] at q2; exact q2.elim
    | some dy =>
      simp only [e1, e2] at q2
      obtain ⟨d, hd, q3⟩ := wp_f2 nx q2
      refine ho v1 v2 H2 G2 dx dy Q R2.gh ((h1.mono s2).at R2 e1) (h2.at R2 e2) d hd fun a o ha w => ?_
      obtain ⟨R3, f3⟩ := fresh_of R2 ha w
      exact q3 a _ G2 R3 (s1.trans s2) f3
/-- arguments -/
theorem snd_nil : SndA K C O tNil mNil := fun c σ H G r Q R w => w [] H G R (Sub.refl G) rfl
theorem snd_cons {tr : TA} {ms : RE → Out (List Opd × RE)} (ha : SndO K C O ta oa) (hr : SndA K C O tr ms) : SndA K C O (tCons ta tr) (mCons oa ms) := fun c σ H G r Q R w => by
  refine ha c σ H G r _ R ((Wp.bnd w).mono (fun p q v1 H1 G1 R1 s1 h1 => ?_) fun _ x => x)
  refine hr c σ H1 G1 p.2 _ R1 ((Wp.bnd q).mono (fun p2 q2 v2 H2 G2 R2 s2 h2 => ?_) fun _ x => x)
  exact q2 (v1 :: v2) H2 G2 R2 (s1.trans s2) ⟨v1, v2, rfl, h1.mono s2, h2⟩
def CallS (K : PySem.W.Frag) (rr : List V → Hp → VK → Prop) (f : List D → Out D) : Prop := ∀ (xs : List V) (H G : Hp) (ds : List D) (Q : VK), Sub G H → RepTL K H G ds xs → ∀ d, f ds = .ok d →
  (∀ v H' G', Ext H G H' G' → RepD K G' d v → Q v H') → rr xs H Q
def CallF (K : PySem.W.Frag) (rr : List V → Hp → VK → Prop) (f : List D → Out D) : Prop := ∀ (xs : List V) (H G : Hp) (ds : List D) (Q : VK), Sub G H → RepTL K H G ds xs → ∀ d, f ds = .ok d →
  (∀ p o, H p = none → Own K (upd H p o) G d (.ref p) → Q (.ref p) (upd H p o)) → rr xs H Q
theorem snd_cb {rr : List V → Hp → VK → Prop} {f : List D → Out D} {tr : TA} {ms : RE → Out (List Opd × RE)} (ho : CallS K rr f) (nx : NoX1 f) (ha : SndA K C O tr ms) : Snd K C O (tCB rr tr) (mArgs f ms) := fun c σ H G r Q R w => by
  refine ha c σ H G r _ R ((Wp.bnd w).mono (fun p q vs H1 G1 R1 s1 h1 => ?_) fun _ x => x)
  cases e1 : derefs p.2 p.1 with
  | none => simp only [e1] at q; exact q.elim
  | some ds =>
    simp only [e1] at q
    obtain ⟨d, hd, q3⟩ := wp_f1 nx q
    exact ho vs H1 G1 ds Q R1.gh (h1.at R1 e1) d hd fun v H' G' x rep => q3 v H' G' (R1.ext x) (s1.trans x.sub) rep
theorem sndf_cb {rr : List V → Hp → VK → Prop} {f : List D → Out D} {tr : TA} {ms : RE → Out (List Opd × RE)} (ho : CallF K rr f) (nx : NoX1 f) (ha : SndA K C O tr ms) : SndF K C O (tCB rr tr) (mArgs f ms) := fun c σ H G r Q R w => by
  refine ha c σ H G r _ R ((Wp.bnd w).mono (fun p q vs H1 G1 R1 s1 h1 => ?_) fun _ x => x)
  cases e1 : derefs p.2 p.1 with
  | none => simp only [e1] at q; exact q.elim
  | some ds =>
    simp only [e1] at q
    obtain ⟨d, hd, q3⟩ := wp_f1 nx q
    refine ho vs H1 G1 ds Q R1.gh (h1.at R1 e1) d hd fun a o ha w => ?_
    obtain ⟨R3, f3⟩ := fresh_of R1 ha w
    exact q3 a _ G1 R3 s1 f3
/-! tests -/
theorem snd_bool (h : Snd K C O te m) : SndT K C O (tB te) (mBool m) := fun c σ H G r Q R w => by
  refine h c σ H G r _ R ((Wp.bnd w).mono (fun p q v H1 G1 R1 s1 h1 => ?_) fun _ x => x)
  obtain ⟨d, r'⟩ := p
  cases d <;> simp only [asB, bnd_ok, bnd_stuck, Wp] at q <;> try exact q.elim
  rename_i b
  simp only [RepD] at h1
  exact ⟨b, h1, q H1 G1 R1 s1⟩
theorem snd_test (h : Snd K C O te m) : SndT K C O (tTest te) (mBool m) := snd_bool h
theorem snd_truth (h : SndO K C O te oa) : SndT K C O (fun σ H Q => te σ H fun x H' => ∃ k, TruV K x H' k ∧ Q k H') (mTruth oa) := fun c σ H G r Q R w => by
  refine h c σ H G r _ R ((Wp.bnd w).mono (fun p q v H1 G1 R1 s1 h1 => ?_) fun _ x => x)
  cases e1 : deref p.2 p.1 with
  | none => simp only [e1] at q; exact q.elim
  | some d =>
    simp only [e1] at q
    have ht := h1.at R1 e1
    cases d <;> simp only [truth, bnd_ok, bnd_stuck, Wp] at q <;> try exact q.elim
    · simp only [RepT, RepD] at ht; subst ht; exact ⟨_, rfl, q H1 G1 R1 s1⟩
    · simp only [RepT, RepD] at ht; subst ht; exact ⟨_, rfl, q H1 G1 R1 s1⟩
    · simp only [RepT, RepD] at ht; subst ht; exact ⟨_, rfl, q H1 G1 R1 s1⟩
    · simp only [RepT, RepD] at ht; subst ht
      rename_i x
      by_cases hz : x.length ≤ 1000000
      · rw [if_pos hz] at q
        exact ⟨_, ⟨lim_le hz, rfl⟩, q H1 G1 R1 s1⟩
      · rw [if_neg hz] at q
        exact q.elim
    · rename_i xs
      obtain ⟨a, vs, e, hq, hl⟩ := ht
      subst e
      refine ⟨_, .inr (.inl ⟨vs, SqT.of hq, ?_⟩), q H1 G1 R1 s1⟩
      cases xs with
      | nil => simp only [RepL] at hl; subst hl; rfl
      | cons x xs => simp only [RepL] at hl; obtain ⟨_, _, e, _⟩ := hl; subst e; rfl
    · rename_i xs
      obtain ⟨a, vs, e, hq, hl⟩ := ht
      subst e
      refine ⟨_, .inl ⟨vs, SqL.of hq, ?_⟩, q H1 G1 R1 s1⟩
      cases xs with
      | nil => simp only [RepL] at hl; subst hl; rfl
      | cons x xs => simp only [RepL] at hl; obtain ⟨_, _, e, _⟩ := hl; subst e; rfl
theorem snd_tand (h : SndT K C O t mt) (k : SndT K C O u mu) : SndT K C O (tAnd t u) (mTAnd mt mu) := fun c σ H G r Q R w => by
  refine h c σ H G r _ R ((Wp.bnd w).mono (fun p q H1 G1 R1 s1 => ?_) fun _ x => x)
  by_cases e : p.1 = true
  · rw [if_pos e] at q ⊢
    exact k c σ H1 G1 p.2 Q R1 (q.mono (fun p2 q2 H2 G2 R2 s2 => q2 H2 G2 R2 (s1.trans s2)) fun _ x => x)
  · rw [if_neg e] at q ⊢
    exact q H1 G1 R1 s1
theorem snd_tor (h : SndT K C O t mt) (k : SndT K C O u mu) : SndT K C O (tOr t u) (mTOr mt mu) := fun c σ H G r Q R w => by
  refine h c σ H G r _ R ((Wp.bnd w).mono (fun p q H1 G1 R1 s1 => ?_) fun _ x => x)
  by_cases e : p.1 = true
  · rw [if_pos e] at q ⊢
    exact q H1 G1 R1 s1
  · rw [if_neg e] at q ⊢
    exact k c σ H1 G1 p.2 Q R1 (q.mono (fun p2 q2 H2 G2 R2 s2 => q2 H2 G2 R2 (s1.trans s2)) fun _ x => x)
theorem snd_tnot (h : SndT K C O t mt) : SndT K C O (tNot t) (mTNot mt) := fun c σ H G r Q R w => by
  refine h c σ H G r _ R ((Wp.bnd w).mono (fun p q H1 G1 R1 s1 => ?_) fun _ x => x)
  exact q H1 G1 R1 s1
theorem snd_and (h : Snd K C O ta ma) (k : Snd K C O tb mb) : Snd K C O (tAndV ta tb) (mAnd ma mb) := fun c σ H G r Q R w => by
  refine h c σ H G r _ R ((Wp.bnd w).mono (fun p q v H1 G1 R1 s1 h1 => ?_) fun _ x => x)
  obtain ⟨d, r'⟩ := p
  cases d <;> simp only [asB, bnd_ok, bnd_stuck] at q <;> try exact q.elim
  rename_i b
  simp only [RepD] at h1
  refine ⟨b, h1, ?_⟩
  by_cases e : b = true
  · rw [if_pos e] at q ⊢
    exact k c σ H1 G1 r' Q R1 (q.mono (fun p2 q2 v2 H2 G2 R2 s2 => q2 v2 H2 G2 R2 (s1.trans s2)) fun _ x => x)
  · rw [if_neg e] at q ⊢
    exact q _ H1 G1 R1 s1 (by simp only [RepD])
theorem snd_or (h : Snd K C O ta ma) (k : Snd K C O tb mb) : Snd K C O (tOrV ta tb) (mOr ma mb) := fun c σ H G r Q R w => by
  refine h c σ H G r _ R ((Wp.bnd w).mono (fun p q v H1 G1 R1 s1 h1 => ?_) fun _ x => x)
  obtain ⟨d, r'⟩ := p
  cases d <;> simp only [asB, bnd_ok, bnd_stuck] at q <;> try exact q.elim
  rename_i b
  simp only [RepD] at h1
  refine ⟨b, h1, ?_⟩
  by_cases e : b = true
  · rw [if_pos e] at q ⊢
    exact q _ H1 G1 R1 s1 (by simp only [RepD])
  · rw [if_neg e] at q ⊢
    exact k c σ H1 G1 r' Q R1 (q.mono (fun p2 q2 v2 H2 G2 R2 s2 => q2 v2 H2 G2 R2 (s1.trans s2)) fun _ x => x)
theorem snd_not (h : Snd K C O ta ma) : Snd K C O (tNotV ta) (mNot ma) := fun c σ H G r Q R w => by
  refine h c σ H G r _ R ((Wp.bnd w).mono (fun p q v H1 G1 R1 s1 h1 => ?_) fun _ x => x)
  obtain ⟨d, r'⟩ := p
  cases d <;> simp only [asB, bnd_ok, bnd_stuck] at q <;> try exact q.elim
  rename_i b
  simp only [RepD] at h1
  exact ⟨b, h1, q _ H1 G1 R1 s1 (by simp only [RepD])⟩
theorem snd_ife (h : SndT K C O t mt) (k : Snd K C O ta ma) (l : Snd K C O tb mb) : Snd K C O (tIf t ta tb) (mIfE mt ma mb) := fun c σ H G r Q R w => by
  refine h c σ H G r _ R ((Wp.bnd w).mono (fun p q H1 G1 R1 s1 => ?_) fun _ x => x)
  by_cases e : p.1 = true
  · rw [if_pos e] at q ⊢
    exact k c σ H1 G1 p.2 Q R1 (q.mono (fun p2 q2 v2 H2 G2 R2 s2 => q2 v2 H2 G2 R2 (s1.trans s2)) fun _ x => x)
  · rw [if_neg e] at q ⊢
    exact l c σ H1 G1 p.2 Q R1 (q.mono (fun p2 q2 v2 H2 G2 R2 s2 => q2 v2 H2 G2 R2 (s1.trans s2)) fun _ x => x)
end
end Mir

set_option maxHeartbeats 4000000
namespace Mir
open PySem PySem.Spec PyProof.Rows L2

theorem repL_len {K : PySem.W.Frag} {G : Hp} : ∀ {ds : List D} {vs : List V}, RepL K G ds vs → ds.length = vs.length
  | [], vs, h => by simp only [RepL] at h; rw [h]; rfl
  | d :: ds, vs, h => by
    simp only [RepL] at h
    obtain ⟨v, us, e, _, t⟩ := h
    rw [e, List.length_cons, List.length_cons, repL_len t]
theorem repL_get {K : PySem.W.Frag} {G : Hp} : ∀ {ds : List D} {vs : List V} {i : Nat} {v : V}, RepL K G ds vs → vs[i]? = some v → ∃ d, ds[i]? = some d ∧ RepD K G d v
  | [], vs, i, v, h, e => by simp only [RepL] at h; rw [h] at e; simp at e
  | d :: ds, vs, 0, v, h, e => by
    simp only [RepL] at h
    obtain ⟨v', us, e', q, t⟩ := h
    rw [e'] at e; simp at e; subst e
    exact ⟨d, rfl, q⟩
  | d :: ds, vs, i + 1, v, h, e => by
    simp only [RepL] at h
    obtain ⟨v', us, e', q, t⟩ := h
    rw [e'] at e; simp at e
    obtain ⟨d', h1, h2⟩ := repL_get (i := i) t e
    exact ⟨d', by simpa using h1, h2⟩
theorem repL_get2 {K : PySem.W.Frag} {G : Hp} {ds : List D} {vs : List V} {i : Nat} {d : D} (h : RepL K G ds vs) (e : ds[i]? = some d) : ∃ v, vs[i]? = some v ∧ RepD K G d v := by
  have hl := repL_len h
  obtain ⟨hi, he⟩ := List.getElem?_eq_some_iff.mp e
  have hv : vs[i]? = some (vs[i]'(by omega)) := List.getElem?_eq_getElem (by omega)
  obtain ⟨d', e', q⟩ := repL_get h hv
  rw [e] at e'; cases e'
  exact ⟨_, hv, q⟩
theorem repL_app {K : PySem.W.Frag} {G : Hp} : ∀ {ds es : List D} {vs us : List V}, RepL K G ds vs → RepL K G es us → RepL K G (ds ++ es) (vs ++ us)
  | [], es, vs, us, h, k => by simp only [RepL] at h; subst h; exact k
  | d :: ds, es, vs, us, h, k => by
    simp only [RepL] at h
    obtain ⟨v, ws, e, q, t⟩ := h
    subst e
    show RepL K G (d :: (ds ++ es)) (v :: (ws ++ us))
    simp only [RepL]
    exact ⟨v, ws ++ us, rfl, q, repL_app t k⟩
theorem repL_one {K : PySem.W.Frag} {G : Hp} {d : D} {v : V} (h : RepD K G d v) : RepL K G [d] [v] := by
  simp only [RepL]; exact ⟨v, [], rfl, h, rfl⟩

section
variable {K : PySem.W.Frag} {C : Cf} {O O' O1 O2 Ol Oq : List Nat} {c : Fm} {σ : L2.St} {H G H' G' : Hp} {r : RE}
variable {ta tb te : TE} {ma mb m : RE → Out (D × RE)} {oa ob : RE → Out (Opd × RE)} {t u : TT} {mt mu : RE → Out (Bool × RE)} {ts us : TS} {ms mz : RE → Out Fl}
theorem RetP.mono {d : D} {r' : RE} {Q : VK} (s : Sub G G') (h : RetP K C c G d r' Q) : RetP K C c G' d r' Q := by
  unfold RetP at h ⊢
  split at h
  · rename_i e
    rw [if_pos e]
    exact fun a σ' H' G2 R s2 f => h a σ' H' G2 R (s.trans s2) f
  · rename_i e
    rw [if_neg e]
    exact fun a σ' H' G2 R s2 f => h a σ' H' G2 R (s.trans s2) f
theorem FlP.mono {Dd : Ends} {f : Fl} (s : Sub G G') (h : FlP K C c O' Ol G Dd f) : FlP K C c O' Ol G' Dd f := by
  cases f with
  | nx r' => exact fun σ' H' G2 R s2 => h σ' H' G2 R (s.trans s2)
  | rt d r' => exact RetP.mono s h
  | bk r' => exact fun σ' H' G2 R s2 => h σ' H' G2 R (s.trans s2)
  | ct r' => exact fun σ' H' G2 R s2 => h σ' H' G2 R (s.trans s2)
theorem snds_next : SndS K C O O Ol tNext mNext := fun c σ H G r Dd R w => w σ H G R (Sub.refl G)
theorem snds_never : SndS K C O O' Ol tNever mNever := fun c σ H G r Dd R w => w
theorem snds_seq (h : SndS K C O O1 Ol ts ms) (k : SndS K C O1 O2 Ol us mz) : SndS K C O O2 Ol (tSeq ts us) (mSeq ms mz) := fun c σ H G r Dd R w => by
  refine h c σ H G r _ R ((Wp.bnd w).mono (fun f q => ?_) fun _ x => x)
  cases f with
  | nx r' => exact fun σ' H' G' R' s => k c σ' H' G' r' Dd R' (Wp.mono q (fun f z => FlP.mono s z) fun _ x => x)
  | rt d r' => exact q
  | bk r' => exact q
  | ct r' => exact q
theorem snds_drop (h : Snd K C O te m) : SndS K C O O Ol (tDrop te) (mDrop m) := fun c σ H G r Dd R w => by
  refine h c σ H G r _ R ((Wp.bnd w).mono (fun p q v H1 G1 R1 s1 _ => ?_) fun _ x => x)
  exact q σ H1 G1 R1 s1
theorem snds_ret (hf : C.fr = false) (h : Snd K C O te m) : SndS K C O O' Ol (tRet te) (mRet m) := fun c σ H G r Dd R w => by
  refine h c σ H G r _ R ((Wp.bnd w).mono (fun p q v H1 G1 R1 s1 h1 => ?_) fun _ x => x)
  have q' : RetP K C c G p.1 p.2 Dd.rt := q
  unfold RetP at q'
  rw [hf, if_neg Bool.false_ne_true] at q'
  obtain ⟨G2, s2, R2, _⟩ := RR.weak (O' := C.I) R1 (fun i hi => R1.io i hi) (fun i hi => hi)
  exact q' v σ H1 G2 R2 (s1.trans s2) (h1.mono s2)
theorem snds_retF (hf : C.fr = true) (h : SndF K C O te m) : SndS K C O O' Ol (tRet te) (mRet m) := fun c σ H G r Dd R w => by
  refine h c σ H G r _ R ((Wp.bnd w).mono (fun p q a H1 G1 R1 s1 f1 => ?_) fun _ x => x)
  have q' : RetP K C c G p.1 p.2 Dd.rt := q
  unfold RetP at q'
  rw [hf, if_pos rfl] at q'
  obtain ⟨G2, s2, R2, n2⟩ := RR.weak (O' := C.I) R1 (fun i hi => R1.io i hi) (fun i hi => hi)
  have g2 : G2 a = none := by
    cases e : G2 a with
    | none => rfl
    | some u =>
      rcases n2 a (by rw [e]; simp) with z | ⟨i, hi, _, hs⟩
      · exact absurd f1.g z
      · exact absurd hs (f1.n i hi)
  exact q' a σ H1 G2 R2 (s1.trans s2) ⟨g2, f1.e, fun i hi => f1.n i (R1.io i hi), f1.o.mono s2 (fun _ _ _ z => z) fun b e => by cases e; exact f1.g⟩
@[simp] def mRetOwn (i : Nat) : RE → Out Fl := fun r => match r[i]? with
  | some (some d) => .ok (.rt d (r.set i none))
  | _ => .stuck
theorem snds_retOwn {i : Nat} (hf : C.fr = true) (hO : i ∈ O) (hI : i ∉ C.I) : SndS K C O O' Ol (tRet (tVar i)) (mRetOwn i) := fun c σ H G r Dd R w => by
  unfold mRetOwn at w
  split at w
  · rename_i d e
    obtain ⟨v, h1, h2, _⟩ := R.sl i d e
    have ho := h2 hO
    obtain ⟨a, u, ea, hu⟩ := ho.ref
    subst ea
    have R1 := R.forget hI
    have q' : RetP K C c G d (r.set i none) Dd.rt := w
    unfold RetP at q'
    rw [hf, if_pos rfl] at q'
    obtain ⟨ga, _, he, _⟩ := R.ow i a hO h1
    obtain ⟨G2, s2, R2, n2⟩ := RR.weak (O' := C.I) R1 (fun i hi => R1.io i hi) (fun i hi => hi)
    have nO : ∀ j, j ∈ odel O i → σ[j]? ≠ some (some (.ref a)) := fun j hj hs => by
      have := R.nj i j a hO (mem_odel.mp hj).1 h1 hs
      exact (mem_odel.mp hj).2 this.symm
    have g2 : G2 a = none := by
      cases e : G2 a with
      | none => rfl
      | some u =>
        rcases n2 a (by rw [e]; simp) with z | ⟨j, hj, _, hs⟩
        · exact absurd ga z
        · exact absurd hs (nO j hj)
    exact ⟨.ref a, h1, q' a σ H G2 R2 s2 ⟨g2, he hI, fun j hj => nO j (R1.io j hj), ho.mono s2 (fun _ _ _ z => z) fun b e => by cases e; exact ga⟩⟩
  · exact w.elim
theorem snds_if (h : SndT K C O t mt) (k : SndS K C O O' Ol ts ms) (l : SndS K C O O' Ol us mz) : SndS K C O O' Ol (tIfS t ts us) (mIf mt ms mz) := fun c σ H G r Dd R w => by
  refine h c σ H G r _ R ((Wp.bnd w).mono (fun p q H1 G1 R1 s1 => ?_) fun _ x => x)
  by_cases e : p.1 = true
  · rw [if_pos e] at q ⊢
    exact k c σ H1 G1 p.2 Dd R1 (q.mono (fun f z => FlP.mono s1 z) fun _ x => x)
  · rw [if_neg e] at q ⊢
    exact l c σ H1 G1 p.2 Dd R1 (q.mono (fun f z => FlP.mono s1 z) fun _ x => x)
theorem snds_weak (h : SndS K C O O1 Ol ts ms) (hs : ∀ i ∈ O2, i ∈ O1) (hI : ∀ i ∈ C.I, i ∈ O2) : SndS K C O O2 Ol ts ms := fun c σ H G r Dd R w => by
  refine h c σ H G r Dd R (w.mono (fun f q => ?_) fun _ x => x)
  cases f with
  | nx r' =>
    refine fun σ' H' G1 R1 s1 => ?_
    obtain ⟨G2, s2, R2, _⟩ := RR.weak (O' := O2) R1 hs hI
    exact q σ' H' G2 R2 (s1.trans s2)
  | rt d r' => exact q
  | bk r' => exact q
  | ct r' => exact q
/-- ahead of a statement -/
theorem snds_weak0 (h : SndS K C O1 O' Ol ts ms) (hs : ∀ i ∈ O1, i ∈ O) (hI : ∀ i ∈ C.I, i ∈ O1) : SndS K C O O' Ol ts ms := fun c σ H G r Dd R w => by
  obtain ⟨G2, s2, R2, _⟩ := RR.weak (O' := O1) R hs hI
  exact h c σ H G2 r Dd R2 (w.mono (fun f z => FlP.mono s2 z) fun _ x => x)
theorem snds_brk (hs : ∀ i ∈ Ol, i ∈ O) (hI : ∀ i ∈ C.I, i ∈ Ol) : SndS K C O O' Ol tBreak mBrk := fun c σ H G r Dd R w => by
  obtain ⟨G2, s2, R2, _⟩ := RR.weak (O' := Ol) R hs hI
  exact w σ H G2 R2 s2
theorem snds_cnt (hs : ∀ i ∈ Ol, i ∈ O) (hI : ∀ i ∈ C.I, i ∈ Ol) : SndS K C O O' Ol tCont mCnt := fun c σ H G r Dd R w => by
  obtain ⟨G2, s2, R2, _⟩ := RR.weak (O' := Ol) R hs hI
  exact w σ H G2 R2 s2
theorem snds_set {i : Nat} (hI : i ∉ C.I) (h : Snd K C O te m) : SndS K C O (odel O i) Ol (tAsg te (gName i)) (mSet i m) := fun c σ H G r Dd R w => by
  refine h c σ H G r _ R ((Wp.bnd w).mono (fun p q v H1 G1 R1 s1 h1 => ?_) fun _ x => x)
  exact q _ H1 G1 (R1.set hI h1) s1
def oins (O : List Nat) (i : Nat) : List Nat := i :: odel O i
theorem mem_oins {i j : Nat} : j ∈ oins O i ↔ j = i ∨ j ∈ O := by
  unfold oins
  rw [List.mem_cons, mem_odel]
  constructor
  · rintro (h | h)
    · exact .inl h
    · exact .inr h.1
  · rintro (h | h)
    · exact .inl h
    · by_cases e : j = i
      · exact .inl e
      · exact .inr ⟨h, e⟩
theorem snds_setF {i : Nat} (hI : i ∉ C.I) (h : SndF K C O te m) : SndS K C O (oins O i) Ol (tAsg te (gName i)) (mSet i m) := fun c σ H G r Dd R w => by
  refine h c σ H G r _ R ((Wp.bnd w).mono (fun p q a H1 G1 R1 s1 f1 => ?_) fun _ x => x)
  refine q _ H1 G1 (RR.same (R1.setOwn hI f1) fun j => ?_) s1
  rw [mem_oins, List.mem_cons]

/-! ### targets -/
def GS (K : PySem.W.Frag) (C : Cf) (O : List Nat) (g : TG) (st : D → RE → Option RE) : Prop := ∀ (c : Fm) (v : V) (d : D) (σ : L2.St) (H G : Hp) (r r' : RE) (Q : L2.St → Hp → Prop), RR K c C.I O σ H G r → RepD K G d v → st d r = some r' →
  (∀ σ', RR K c C.I O σ' H G r' → Q σ' H) → g v σ H Q
@[simp] def stName (i : Nat) : D → RE → Option RE := fun d r => some (r.set i (some d))
theorem gs_name {i : Nat} (hI : i ∉ C.I) (hO : i ∉ O) : GS K C O (gName i) (stName i) := fun c v d σ H G r r' Q R h e k => by
  cases e
  refine k _ (RR.same (R.set hI h) fun j => ?_)
  rw [mem_odel]
  exact ⟨fun z => z.1, fun z => ⟨z, fun e => hO (e ▸ z)⟩⟩
def GSs (K : PySem.W.Frag) (C : Cf) (O : List Nat) (g : TGs) (st : List D → RE → Option RE) : Prop := ∀ (c : Fm) (v : List V) (d : List D) (σ : L2.St) (H G : Hp) (r r' : RE) (Q : L2.St → Hp → Prop), RR K c C.I O σ H G r → RepL K G d v → st d r = some r' →
  (∀ σ', RR K c C.I O σ' H G r' → Q σ' H) → g v σ H Q
@[simp] def stNil : List D → RE → Option RE := fun ds r => match ds with
  | [] => some r
  | _ => none
@[simp] def stCons (s : D → RE → Option RE) (ss : List D → RE → Option RE) : List D → RE → Option RE := fun ds r => match ds with
  | d :: ds => (s d r).bind (ss ds)
  | [] => none
@[simp] def stTup (n : Nat) (ss : List D → RE → Option RE) : D → RE → Option RE := fun d r => match d with
  | .tup ds => if ds.length = n then ss ds r else none
  | _ => none
theorem gss_nil : GSs K C O gNil stNil := fun c v d σ H G r r' Q R h e k => by
  cases d with
  | nil => cases e; simp only [RepL] at h; exact ⟨h, k σ R⟩
  | cons _ _ => cases e
theorem gss_cons {g : TG} {gs : TGs} {s : D → RE → Option RE} {ss : List D → RE → Option RE} (h1 : GS K C O g s) (h2 : GSs K C O gs ss) : GSs K C O (gCons g gs) (stCons s ss) := fun c v d σ H G r r' Q R h e k => by
  cases d with
  | nil => cases e
  | cons d ds =>
    simp only [RepL] at h
    obtain ⟨v1, us, ev, q, t⟩ := h
    obtain ⟨r1, e1, e2⟩ := Option.bind_eq_some_iff.mp (show (s d r).bind (ss ds) = some r' from e)
    refine ⟨v1, us, ev, h1 c v1 d σ H G r r1 _ R q e1 fun σ' R' => ?_⟩
    exact h2 c us ds σ' H G r1 r' Q R' t e2 k
theorem gs_tup {n : Nat} {gs : TGs} {ss : List D → RE → Option RE} (h2 : GSs K C O gs ss) : GS K C O (gTup K n gs) (stTup n ss) := fun c v d σ H G r r' Q R h e k => by
  cases d <;> try (cases e)
  rename_i ds
  simp only [stTup] at e
  split at e
  · rename_i hn
    simp only [RepD] at h
    obtain ⟨a, vs, ev, q, t⟩ := h
    exact ⟨a, vs, ev, SqT.of (R.gh.tup q), by rw [← repL_len t]; exact hn, h2 c vs ds σ H G r r' Q R t e k⟩
  · cases e
/-- x, y = e -/
@[simp] def mAsg (st : D → RE → Option RE) (m : RE → Out (D × RE)) : RE → Out Fl := fun r => (m r).bnd fun p => match st p.1 p.2 with
  | some r' => .ok (.nx r')
  | none => .stuck
theorem snds_asg {g : TG} {st : D → RE → Option RE} (h : Snd K C O te m) (hg : GS K C O g st) : SndS K C O O Ol (tAsg te g) (mAsg st m) := fun c σ H G r Dd R w => by
  refine h c σ H G r _ R ((Wp.bnd w).mono (fun p q v H1 G1 R1 s1 h1 => ?_) fun _ x => x)
  cases e : st p.1 p.2 with
  | none => simp only [e] at q; exact q.elim
  | some r' =>
    simp only [e] at q
    exact hg c v p.1 σ H1 G1 p.2 r' _ R1 h1 e fun σ' R' => q σ' H1 G1 R' s1

/-! ### loops -/
/-- what is walked, as data -/
def SndI (K : PySem.W.Frag) (C : Cf) (O : List Nat) (wi : TI) (m : RE → Out (List D × RE)) : Prop := ∀ (c : Fm) (σ : L2.St) (H G : Hp) (r : RE) (R : It → Hp → Prop), RR K c C.I O σ H G r →
  Wp (m r) (fun p => ∀ (J : It) (H' G' : Hp) (Gp : Hp → Prop) (Y : Nat → Hp → V → Hp → Prop), RR K c C.I O σ H' G' p.2 → Sub G G' → Walk J p.1.length Gp Y →
    (∀ (O2 : List Nat) (σ2 : L2.St) (H2 G2 : Hp) (r2 : RE), RR K c C.I O2 σ2 H2 G2 r2 → Sub G' G2 → Gp H2) →
    (∀ (i : Nat) (H2 G2 : Hp) (x : V) (H3 : Hp), Sub G2 H2 → Sub G' G2 → i < p.1.length → Y i H2 x H3 → ∃ G3 d, Ext H2 G2 H3 G3 ∧ p.1[i]? = some d ∧ RepD K G3 d x) → R J H') (XP K c C.E) → wi σ H R
@[simp] def mFor (mi : RE → Out (List D × RE)) (st : D → RE → Option RE) (b : RE → Out Fl) : RE → Out Fl := fun r => (mi r).bnd fun p => mLoop st b p.1 p.2
theorem snds_for {wi : TI} {mi : RE → Out (List D × RE)} {g : TG} {st : D → RE → Option RE} (hi : SndI K C O wi mi) (hg : GS K C O g st) (hb : SndS K C O O O ts ms) : SndS K C O O Oq (tFor wi g ts) (mFor mi st ms) := fun c σ H G r Dd R w => by
  refine hi c σ H G r _ R ((Wp.bnd w).mono (fun p q J H1 G1 Gp Y R1 s1 wk hG hY => ?_) fun _ x => x)
  obtain ⟨ds, r1⟩ := p
  refine for_it wk (fun i σ2 H2 => ∃ G2 r2, RR K c C.I O σ2 H2 G2 r2 ∧ Sub G1 G2 ∧ Wp (mLoop st ms (ds.drop i) r2) (FlP K C c O Oq G Dd) (XP K c C.E)) ⟨G1, r1, R1, Sub.refl G1, q⟩ (fun i σ2 H2 _ ⟨G2, r2, R2, s2, _⟩ => hG O σ2 H2 G2 r2 R2 s2) ?_ ?_
  · rintro i x σ2 H2 H3 hlt ⟨G2, r2, R2, s2, q2⟩ y
    obtain ⟨G3, d, x3, e3, h3⟩ := hY i H2 G2 x H3 R2.gh s2 hlt y
    have R3 := R2.ext x3
    have ed : ds.drop i = d :: ds.drop (i + 1) := by
      obtain ⟨hi', he⟩ := List.getElem?_eq_some_iff.mp e3
      rw [← he]
      exact List.drop_eq_getElem_cons hi'
    rw [ed] at q2
    simp only [mLoop] at q2
    cases e4 : st d r2 with
    | none => simp only [e4] at q2; exact q2.elim
    | some r3 =>
      simp only [e4] at q2
      refine hg c x d σ2 H3 G3 r2 r3 _ R3 h3 e4 fun σ3 R4 => ?_
      have s3 : Sub G1 G3 := s2.trans x3.sub
      refine hb c σ3 H3 G3 r3 _ R4 ((Wp.bnd q2).mono (fun f q3 => ?_) fun _ x => x)
      cases f with
      | nx r4 => exact fun σ4 H4 G4 R5 s4 => ⟨G4, r4, R5, s3.trans s4, q3⟩
      | ct r4 => exact fun σ4 H4 G4 R5 s4 => ⟨G4, r4, R5, s3.trans s4, q3⟩
      | bk r4 => exact fun σ4 H4 G4 R5 s4 => q3 σ4 H4 G4 R5 ((s1.trans s3).trans s4)
      | rt d4 r4 => exact RetP.mono (s1.trans s3) q3
  · rintro σ2 H2 ⟨G2, r2, R2, s2, q2⟩
    rw [List.drop_length] at q2
    exact q2 σ2 H2 G2 R2 (s1.trans s2)
theorem snds_while {n : Nat} (ht : SndT K C O t mt) (hb : SndS K C O O O ts ms) : SndS K C O O Oq (tWhile t ts) (mWhile mt ms n) := fun c σ H G r Dd R w => by
  refine ⟨fun k σ2 H2 => ∃ G2 r2, RR K c C.I O σ2 H2 G2 r2 ∧ Sub G G2 ∧ Wp (mWhile mt ms k r2) (FlP K C c O Oq G Dd) (XP K c C.E), ⟨n, G, r, R, Sub.refl G, w⟩, ?_⟩
  rintro k σ2 H2 ⟨G2, r2, R2, s2, q2⟩
  cases k with
  | zero => exact q2.elim
  | succ k =>
    simp only [mWhile] at q2
    refine ht c σ2 H2 G2 r2 _ R2 ((Wp.bnd q2).mono (fun p q3 H3 G3 R3 s3 => ?_) fun _ x => x)
    by_cases e : p.1 = true
    · rw [if_pos e] at q3 ⊢
      refine ⟨fun σ4 H4 => ∃ G4 r4, RR K c C.I O σ4 H4 G4 r4 ∧ Sub G G4 ∧ Wp (mWhile mt ms k r4) (FlP K C c O Oq G Dd) (XP K c C.E), fun σ4 H4 h4 => ⟨k, Nat.lt_succ_self k, h4⟩, ?_⟩
      refine hb c σ2 H3 G3 p.2 _ R3 ((Wp.bnd q3).mono (fun f q4 => ?_) fun _ x => x)
      cases f with
      | nx r4 => exact fun σ4 H4 G4 R5 s4 => ⟨G4, r4, R5, (s2.trans s3).trans s4, q4⟩
      | ct r4 => exact fun σ4 H4 G4 R5 s4 => ⟨G4, r4, R5, (s2.trans s3).trans s4, q4⟩
      | bk r4 => exact fun σ4 H4 G4 R5 s4 => q4 σ4 H4 G4 R5 ((s2.trans s3).trans s4)
      | rt d4 r4 => exact RetP.mono (s2.trans s3) q4
    · rw [if_neg e] at q3 ⊢
      exact q3 σ2 H3 G3 R3 (s2.trans s3)
/-! what can be walked -/
@[simp] def asL : D → Out (List D)
  | .lst xs => .ok xs
  | .frl xs => .ok xs
  | _ => .stuck
@[simp] def asT : D → Out (List D)
  | .tup xs => .ok xs
  | _ => .stuck
@[simp] def mItem (f : D → Out (List D)) (m : RE → Out (D × RE)) : RE → Out (List D × RE) := fun r => (m r).bnd fun p => (f p.1).bnd fun ds => .ok (ds, p.2)
theorem repD_sqL {d : D} {ds : List D} {v : V} (e : asL d = .ok ds) (h : RepD K G d v) : ∃ a vs, v = .ref a ∧ SqL K G a vs ∧ RepL K G ds vs := by
  cases d <;> simp only [asL, Out.ok.injEq, reduceCtorEq] at e
  · subst e; simp only [RepD] at h; obtain ⟨a, vs, ev, hq, hl⟩ := h; exact ⟨a, vs, ev, SqL.of hq, hl⟩
  · subst e; simp only [RepD] at h; exact h
theorem sndi_list (h : Snd K C O te m) : SndI K C O (iList K te) (mItem asL m) := fun c σ H G r R R0 w => by
  refine h c σ H G r _ R0 ((Wp.bnd w).mono (fun p q v H1 G1 R1 s1 h1 => ?_) fun _ x => x)
  obtain ⟨d, r'⟩ := p
  cases e : asL d with
  | exc x => cases d <;> simp [asL] at e
  | stuck => simp only [e, bnd_stuck] at q; exact q.elim
  | ok ds =>
    simp only [e, bnd_ok] at q
    obtain ⟨a, vs, ev, hq, hl⟩ := repD_sqL e h1
    refine ⟨a, ev, ⟨vs, R1.gh.sqL hq⟩, q _ H1 G1 _ _ R1 s1 (by rw [repL_len hl]; exact walk_list (xs := vs)) (fun O2 σ2 H2 G2 r2 R2 s2 => R2.gh.sqL (s2.sqL hq)) ?_⟩
    rintro i H2 G2 x H3 s2 s3 hi ⟨rfl, hx⟩
    obtain ⟨d, e, hd⟩ := repL_get hl hx
    exact ⟨G2, d, Ext.refl s2, e, hd.mono s3⟩
theorem sndi_tup (h : Snd K C O te m) : SndI K C O (iTup K te) (mItem asT m) := fun c σ H G r R R0 w => by
  refine h c σ H G r _ R0 ((Wp.bnd w).mono (fun p q v H1 G1 R1 s1 h1 => ?_) fun _ x => x)
  obtain ⟨d, r'⟩ := p
  cases d <;> simp only [asT, bnd_ok, bnd_stuck] at q <;> try exact q.elim
  rename_i ds
  simp only [RepD] at h1
  obtain ⟨a, vs, ev, hq, hl⟩ := h1
  refine ⟨a, ev, ⟨vs, SqT.of (R1.gh.tup hq)⟩, q _ H1 G1 _ _ R1 s1 (by rw [repL_len hl]; exact walk_tup (xs := vs)) (fun O2 σ2 H2 G2 r2 R2 s2 => SqT.of (R2.gh.tup (s2.tup hq))) ?_⟩
  rintro i H2 G2 x H3 s2 s3 hi ⟨rfl, hx⟩
  obtain ⟨d, e, hd⟩ := repL_get hl hx
  exact ⟨G2, d, Ext.refl s2, e, hd.mono s3⟩
def chars (x : Str) : List D := x.cps.toList.map fun c => D.str ⟨#[c]⟩
@[simp] def asS : D → Out (List D)
  | .str x => .ok (chars x)
  | _ => .stuck
theorem sndi_str (h : Snd K C O te m) : SndI K C O (iStr te) (mItem asS m) := fun c σ H G r R R0 w => by
  refine h c σ H G r _ R0 ((Wp.bnd w).mono (fun p q v H1 G1 R1 s1 h1 => ?_) fun _ x => x)
  obtain ⟨d, r'⟩ := p
  cases d <;> simp only [asS, bnd_ok, bnd_stuck] at q <;> try exact q.elim
  rename_i x
  simp only [RepD] at h1
  refine ⟨x, h1, q _ H1 G1 _ _ R1 s1 (by unfold chars; rw [List.length_map, Array.length_toList]; exact walk_str) (fun O2 σ2 H2 G2 r2 R2 s2 => trivial) ?_⟩
  rintro i H2 G2 y H3 s2 s3 hi ⟨rfl, c, hc, hy⟩
  refine ⟨G2, .str ⟨#[c]⟩, Ext.refl s2, ?_, by simp only [RepD]; exact hy⟩
  show (chars x)[i]? = _
  unfold chars
  rw [List.getElem?_map, Array.getElem?_toList, hc]
  rfl
/-- range(n), range(a, b) -/
def rangeD (lo : Int) (n : Nat) : List D := (List.range n).map fun (i : Nat) => D.int (lo + i)
theorem rangeD_get {lo : Int} {n i : Nat} (h : i < n) : (rangeD lo n)[i]? = some (.int (lo + i)) := by
  unfold rangeD
  rw [List.getElem?_map, List.getElem?_range h]
  rfl
theorem rangeD_len {lo : Int} {n : Nat} : (rangeD lo n).length = n := by unfold rangeD; rw [List.length_map, List.length_range]
theorem walked_range {lo : Int} {n : Nat} {p2 : RE} {R : It → Hp → Prop} {H1 G1 : Hp} (R1 : RR K c C.I O σ H1 G1 p2) (s1 : Sub G G1)
    (q : ∀ (J : It) (H' G' : Hp) (Gp : Hp → Prop) (Y : Nat → Hp → V → Hp → Prop), RR K c C.I O σ H' G' p2 → Sub G G' → Walk J (rangeD lo n).length Gp Y →
    (∀ (O2 : List Nat) (σ2 : L2.St) (H2 G2 : Hp) (r2 : RE), RR K c C.I O2 σ2 H2 G2 r2 → Sub G' G2 → Gp H2) →
    (∀ (i : Nat) (H2 G2 : Hp) (x : V) (H3 : Hp), Sub G2 H2 → Sub G' G2 → i < (rangeD lo n).length → Y i H2 x H3 → ∃ G3 d, Ext H2 G2 H3 G3 ∧ (rangeD lo n)[i]? = some d ∧ RepD K G3 d x) → R J H') : R (Itr lo n) H1 := by
  refine q _ H1 G1 _ _ R1 s1 (by rw [rangeD_len]; exact walk_range) (fun _ _ _ _ _ _ _ => trivial) ?_
  rintro i H2 G2 x H3 s2 s3 hi ⟨rfl, hx⟩
  rw [rangeD_len] at hi
  exact ⟨G2, _, Ext.refl s2, rangeD_get hi, by simp only [RepD]; exact hx⟩
theorem sndi_rng1 {ta : TA} {ms : RE → Out (List Opd × RE)} (h : SndA K C O ta ms) : SndI K C O (iRng1 ta) (fun r => (ms r).bnd fun p => match derefs p.2 p.1 with
  | some [.int j] => if -1000000 ≤ j ∧ j ≤ 1000000 then .ok (rangeD 0 j.toNat, p.2) else .stuck
  | _ => .stuck) := fun c σ H G r R R0 w => by
  refine h c σ H G r _ R0 ((Wp.bnd w).mono (fun p q vs H1 G1 R1 s1 h1 => ?_) fun _ x => x)
  split at q
  · rename_i j e
    split at q
    · rename_i hj
      have ht := h1.at R1 e
      cases ht with
      | cons h2 h3 =>
        cases h3
        simp only [RepT, RepD] at h2
        exact ⟨j, by rw [h2], by omega, by omega, walked_range R1 s1 q⟩
    · exact q.elim
  · exact q.elim
theorem sndi_rng2 {ta : TA} {ms : RE → Out (List Opd × RE)} (h : SndA K C O ta ms) : SndI K C O (iRng2 ta) (fun r => (ms r).bnd fun p => match derefs p.2 p.1 with
  | some [.int i, .int j] => if -1000000 ≤ i ∧ i ≤ 1000000 ∧ -1000000 ≤ j ∧ j ≤ 1000000 then .ok (rangeD i (j - i).toNat, p.2) else .stuck
  | _ => .stuck) := fun c σ H G r R R0 w => by
  refine h c σ H G r _ R0 ((Wp.bnd w).mono (fun p q vs H1 G1 R1 s1 h1 => ?_) fun _ x => x)
  split at q
  · rename_i i j e
    split at q
    · rename_i hj
      have ht := h1.at R1 e
      cases ht with
      | cons h2 h3 =>
        cases h3 with
        | cons h4 h5 =>
          cases h5
          simp only [RepT, RepD] at h2 h4
          exact ⟨i, j, by rw [h2, h4], ⟨by omega, by omega, by omega, by omega⟩, walked_range R1 s1 q⟩
    · exact q.elim
  · exact q.elim
end
end Mir

set_option maxHeartbeats 4000000
namespace Mir
open PySem PySem.Spec PyProof.Rows L2

/-! ## defs without things of the caller's own -/
abbrev fm0 (H G : Hp) : Fm := ⟨H, G, [], []⟩
structure After (H G H' G' : Hp) : Prop where
  sub : Sub G G'
  in_ : Sub G' H'
  new : ∀ a u, G' a = some u → G a ≠ none ∨ H a = none
  kept : Kept (fm0 H G) H'
def PostP (K : PySem.W.Frag) (fr : Bool) (H G : Hp) (Q : VK) (d : D) : Prop :=
  if fr = true then ∀ a H' G', After H G H' G' → G' a = none → H a = none → Own K H' G' d (.ref a) → Q (.ref a) H'
  else ∀ v H' G', After H G H' G' → RepD K G' d v → Q v H'
/-- the promise: n arguments; the answer is m's -/
def spP (K : PySem.W.Frag) (n : Nat) (fr : Bool) (m : List D → Out D) : Sp := fun vs H Q E => vs.length = n ∧ ∃ ds G, Sub G H ∧ RepL K G ds vs ∧ Wp (m ds) (PostP K fr H G Q) (XP K (fm0 H G) E)
@[simp] def startR (N : Nat) (ds : List D) : RE := ds.map some ++ List.replicate (N - ds.length) none
@[simp] def runB (fr : Bool) (mb : RE → Out Fl) (r : RE) : Out D := (mb r).bnd fun f => match f with
  | .nx _ => if fr = true then .stuck else .ok .non
  | .rt d _ => .ok d
  | _ => .stuck
theorem rr_start {K : PySem.W.Frag} {H G : Hp} {N : List Str} {ds : List D} {vs : List V} (s : Sub G H) (h : RepL K G ds vs) : RR K (fm0 H G) [] [] (L2.start N vs) H G (startR N.length ds) := by
  have hl := repL_len h
  refine ⟨s, Sub.refl G, fun a u e => .inl (by show G a ≠ none; rw [e]; simp), fun a u e _ => ⟨⟨u, e, rfl⟩, fun _ => e, fun _ _ _ => e⟩, fun a z => absurd z (by simp), ?_, fun i d e => ?_, fun i a z => absurd z (by simp), fun i j a z => absurd z (by simp), fun i z => absurd z (by simp), fun p z => absurd z (by simp)⟩
  · unfold L2.start startR
    rw [List.length_append, List.length_append, List.length_map, List.length_map, List.length_replicate, List.length_replicate, hl]
  · unfold startR at e
    have hi : i < ds.length := by
      by_cases hi : i < ds.length
      · exact hi
      · rw [List.getElem?_append_right (by simpa using hi), List.getElem?_replicate] at e
        split at e <;> cases e
    rw [List.getElem?_append_left (by simpa using hi), List.getElem?_map] at e
    have e' : ds[i]? = some d := by
      cases q : ds[i]? with
      | none => rw [q] at e; cases e
      | some x => rw [q] at e; cases e; rfl
    obtain ⟨v, hv, hd⟩ := repL_get2 h e'
    refine ⟨v, ?_, fun z => absurd z (by simp), fun _ => hd⟩
    unfold L2.start
    rw [List.getElem?_append_left (by rw [List.length_map, ← hl]; exact hi), List.getElem?_map, hv]
    rfl
theorem RR.after {K : PySem.W.Frag} {H G H' G' : Hp} {I O : List Nat} {σ : L2.St} {r : RE} (R : RR K (fm0 H G) I O σ H' G' r) : After H G H' G' := ⟨R.g0, R.gh, R.gr, R.ke⟩
/-- from a body's mirror to what the promise wants -/
theorem body_post {K : PySem.W.Frag} {fr : Bool} {H G : Hp} {mb : RE → Out Fl} {r : RE} {Q : VK} {E : XK} (w : Wp (runB fr mb r) (PostP K fr H G Q) (XP K (fm0 H G) E)) (O' Ol : List Nat) :
    Wp (mb r) (FlP K ⟨[], E, fr⟩ (fm0 H G) O' Ol G { nx := fun _ H' => Q .non H', rt := Q }) (XP K (fm0 H G) E) := by
  refine (Wp.bnd w).mono (fun f q => ?_) fun _ x => x
  cases f with
  | nx r' =>
    intro σ' H' G' R s
    by_cases e : fr = true
    · simp only [e, if_true] at q; exact q.elim
    · simp only [if_neg e] at q
      have q' : PostP K fr H G Q .non := q
      unfold PostP at q'
      rw [if_neg e] at q'
      exact q' .non H' G' R.after (by simp only [RepD])
  | rt d r' =>
    have q' : PostP K fr H G Q d := q
    show RetP K ⟨[], E, fr⟩ (fm0 H G) G d r' Q
    unfold PostP at q'
    unfold RetP
    by_cases e : fr = true
    · rw [if_pos e] at q'
      rw [if_pos (show fr = true from e)]
      exact fun a σ' H' G' R s f => q' a H' G' R.after f.g f.e f.o
    · rw [if_neg e] at q'
      rw [if_neg (show ¬ fr = true from e)]
      exact fun v σ' H' G' R s h => q' v H' G' R.after h
  | bk r' => exact q.elim
  | ct r' => exact q.elim
section
variable {P : Program} {w : World} {K : PySem.W.Frag} {mg : Str → Option Value} {base : Heap}
/-- a def that raises nothing -/
theorem fn_pure {x qual : Str} {st : Stmt} {f : Addr} {fd : FuncData} {N ps : List Str} {k n : Nat} {fr : Bool} {mb : RE → Out Fl} {O' : List Nat} (F : Fun K x qual st f fd) (S : FnScope N ps (defScope st)) (hn : ps.length = n)
    (hb : ∀ (cdv : Value) (A : Around) (outer : List PySem.Env) (s : Shared) (H : Hp) (E : XK), Room k (A.deeper (envOfC qual (defScope st) s.heap.objs.size f cdv)) →
      BM (cxOf CX0 P w K mg base N qual (defScope st) f cdv A outer s H E).nox ⟨[], E, fr⟩ [] O' [] (defBody st) mb) :
    FnOk P w K mg base CX0 (k + 1) f fd ps (spP K n fr fun ds => runB fr mb (startR N.length ds)) := by
  refine F.ok S (fun vs H Q E h => by rw [h.1, hn]) (fun cdv A outer s H vs Q E hr h => ?_)
  obtain ⟨hl, ds, G, sub, rep, wp⟩ := h
  obtain ⟨ts, hp, hs⟩ := hb cdv A outer s H E hr
  exact ⟨ts, hp, hs _ _ _ _ _ _ (rr_start sub rep) (body_post wp _ _)⟩
/-- a def that may raise -/
theorem fn_pureX {x qual : Str} {st : Stmt} {f : Addr} {fd : FuncData} {N ps : List Str} {k n : Nat} {fr : Bool} {mb : RE → Out Fl} {O' : List Nat} (F : Fun K x qual st f fd) (S : FnScope N ps (defScope st)) (hn : ps.length = n)
    (hb : ∀ (cdv : Value) (A : Around) (outer : List PySem.Env) (s : Shared) (H : Hp) (E : XK), Room k (A.deeper (envOfC qual (defScope st) s.heap.objs.size f cdv)) →
      BM (cxOf (L2.CX P w) P w K mg base N qual (defScope st) f cdv A outer s H E) ⟨[], E, fr⟩ [] O' [] (defBody st) mb) :
    FnOk P w K mg base (L2.CX P w) (k + 1) f fd ps (spP K n fr fun ds => runB fr mb (startR N.length ds)) := by
  refine F.okX S (fun vs H Q E h => by rw [h.1, hn]) (fun cdv A outer s H vs Q E hr h => ?_)
  obtain ⟨hl, ds, G, sub, rep, wp⟩ := h
  obtain ⟨ts, hp, hs⟩ := hb cdv A outer s H E hr
  exact ⟨ts, hp, hs _ _ _ _ _ _ (rr_start sub rep) (body_post wp _ _)⟩
end

/-! ## calls -/
section
variable {K : PySem.W.Frag} {C : Cf} {O O' O1 O2 Ol Oq : List Nat} {c : Fm} {σ : L2.St} {H G H' G' : Hp} {r : RE}
theorem RR.call (R : RR K c C.I O σ H G r) (a : After H G H' G') : RR K c C.I O σ H' G' r where
  gh := a.in_
  g0 := R.g0.trans a.sub
  gr := fun b u h => by
    rcases a.new b u h with h1 | h1
    · cases e : G b with
      | none => exact absurd e h1
      | some u1 => exact R.gr b u1 e
    · cases e : c.He b with
      | none => exact .inr rfl
      | some u1 =>
        by_cases hb : b ∈ c.ex
        · exact absurd h1 (R.xk b hb)
        · obtain ⟨⟨u', e', _⟩, _⟩ := R.ke b u1 e hb
          rw [h1] at e'; cases e'
  ke := fun b u h hb => by
    obtain ⟨⟨u', e', q⟩, k, k2⟩ := R.ke b u h hb
    obtain ⟨⟨u2, e2, q2⟩, k3, k4⟩ := a.kept b u' e' (by simp)
    refine ⟨⟨u2, e2, q2.trans q⟩, fun z => ?_, fun o v z => ?_⟩
    · have h1 := k z
      rw [h1] at e'; cases e'
      refine k3 ?_
      show G b = none
      cases e : G b with
      | none => rfl
      | some v =>
        rcases R.gr b v e with y | y
        · exact absurd z y
        · rw [h] at y; cases y
    · have h1 := k2 o v z
      rw [h1] at e'; cases e'
      exact k4 o v z
  xk := fun b hb e => by
    cases q : H b with
    | none => exact R.xk b hb q
    | some u =>
      obtain ⟨⟨u2, e2, _⟩, _⟩ := a.kept b u q (by simp)
      rw [e] at e2; cases e2
  len := R.len
  sl := fun i d h => by
    obtain ⟨v, hv, ho, hr⟩ := R.sl i d h
    refine ⟨v, hv, fun z => ?_, fun z => (hr z).mono a.sub⟩
    exact (ho z).mono a.sub (fun b u gb q => (a.kept b u q (by simp)).2.1 gb) (fun b e => (R.ow i b z (e ▸ hv)).1)
  ow := fun i b ho hs => by
    obtain ⟨h1, h2, h3, h4⟩ := R.ow i b ho hs
    refine ⟨?_, h2, h3, fun e => ?_⟩
    · cases q : G' b with
      | none => rfl
      | some u =>
        rcases a.new b u q with z | z
        · exact absurd h1 z
        · exact absurd z h4
    · cases q : H b with
      | none => exact h4 q
      | some u =>
        obtain ⟨⟨u2, e2, _⟩, _⟩ := a.kept b u q (by simp)
        rw [e] at e2; cases e2
  nj := R.nj
  io := R.io
  lk := fun p hp => by
    obtain ⟨h1, h2⟩ := R.lk p hp
    cases q : G p.1 with
    | none => exact absurd q h2
    | some u =>
      exact ⟨(a.kept p.1 _ h1 (by simp)).2.2 _ _ rfl, a.sub.is q⟩
theorem RR.heNone (R : RR K c C.I O σ H G r) {a : Addr} (h : H a = none) : c.He a = none := by
  cases e : c.He a with
  | none => rfl
  | some u =>
    by_cases hx : a ∈ c.ex
    · exact absurd h (R.xk a hx)
    · obtain ⟨⟨u', e', _⟩, _⟩ := R.ke a u e hx
      rw [h] at e'; cases e'
theorem XP.call {x : Exn} (R : RR K c C.I O σ H G r) (h : XP K c C.E x) : XP K (fm0 H G) C.E x := fun dx H' G' us s1 s2 g k hx rf =>
  let R' := RR.call R (⟨s2, s1, g, k⟩ : After H G H' G')
  h dx H' G' us s1 R'.g0 R'.gr R'.ke hx rf
@[simp] def valsO : List Opd → Option (List D)
  | [] => some []
  | .val d :: os => (valsO os).map (d :: ·)
  | .slot _ :: _ => none
theorem RepOL.vals : ∀ {os : List Opd} {vs : List V} {ds : List D}, RepOL K O σ G os vs → valsO os = some ds → RepL K G ds vs
  | [], _, _, h, e => by cases e; cases h; simp only [RepL]
  | .slot _ :: _, _, _, _, e => by cases e
  | .val d :: os, _, ds, ⟨v, us, ev, h, t⟩, e => by
    subst ev
    cases q : valsO os with
    | none => simp only [valsO, q] at e; cases e
    | some ds' =>
      simp only [valsO, q] at e
      cases e
      simp only [RepL]
      exact ⟨v, us, rfl, h, RepOL.vals t q⟩
/-- f(..), the arguments' values, then the defaults dd -/
@[simp] def mCall (m : List D → Out D) (dd : List D) (ms : RE → Out (List Opd × RE)) : RE → Out (D × RE) := fun r => (ms r).bnd fun p => match valsO p.1 with
  | some ds => (m (ds ++ dd)).bnd fun d => .ok (d, p.2)
  | none => .stuck
theorem repOL_len : ∀ {os : List Opd} {vs : List V}, RepOL K O σ G os vs → os.length = vs.length
  | [], _, h => by cases h; rfl
  | o :: os, _, ⟨v, us, ev, h, t⟩ => by subst ev; rw [List.length_cons, List.length_cons, repOL_len t]
theorem snd_call {ta : TA} {ms : RE → Out (List Opd × RE)} {n : Nat} {m : List D → Out D} {dd : List D} {dvs : List V} (hn : ∀ ds, m ds ≠ .stuck → ds.length = n) (hd : ∀ G, RepL K G dd dvs) (h : SndA K C O ta ms) : Snd K C O (tCall (spP K n false m) dvs C.E ta) (mCall m dd ms) := fun c σ H G r Q R w => by
  refine h c σ H G r _ R ((Wp.bnd w).mono (fun p q vs H1 G1 R1 s1 h1 => ?_) fun _ x => x)
  cases e : valsO p.1 with
  | none => simp only [e] at q; exact q.elim
  | some ds =>
    simp only [e] at q
    have rl := repL_app (h1.vals e) (hd G1)
    refine ⟨?_, ds ++ dd, G1, R1.gh, rl, ?_⟩
    · rw [← repL_len rl]
      refine hn _ fun z => ?_
      rw [z] at q; exact q
    · refine (Wp.bnd q).mono (fun d q2 => ?_) fun x hx => XP.call R1 hx
      show PostP K false H1 G1 Q d
      unfold PostP
      rw [if_neg Bool.false_ne_true]
      exact fun v H' G' a hv => q2 v H' G' (RR.call R1 a) (s1.trans a.sub) hv
theorem sndf_call {ta : TA} {ms : RE → Out (List Opd × RE)} {n : Nat} {m : List D → Out D} {dd : List D} {dvs : List V} (hn : ∀ ds, m ds ≠ .stuck → ds.length = n) (hd : ∀ G, RepL K G dd dvs) (h : SndA K C O ta ms) : SndF K C O (tCall (spP K n true m) dvs C.E ta) (mCall m dd ms) := fun c σ H G r Q R w => by
  refine h c σ H G r _ R ((Wp.bnd w).mono (fun p q vs H1 G1 R1 s1 h1 => ?_) fun _ x => x)
  cases e : valsO p.1 with
  | none => simp only [e] at q; exact q.elim
  | some ds =>
    simp only [e] at q
    have rl := repL_app (h1.vals e) (hd G1)
    refine ⟨?_, ds ++ dd, G1, R1.gh, rl, ?_⟩
    · rw [← repL_len rl]
      refine hn _ fun z => ?_
      rw [z] at q; exact q
    · refine (Wp.bnd q).mono (fun d q2 => ?_) fun x hx => XP.call R1 hx
      show PostP K true H1 G1 Q d
      unfold PostP
      rw [if_pos rfl]
      exact fun b H' G' a g1 h2 o => q2 b H' G' (RR.call R1 a) (s1.trans a.sub) ⟨g1, RR.heNone R1 h2, fun i hi hs => (R1.ow i b hi hs).2.2.2 h2, o⟩
end
end Mir

set_option maxHeartbeats 4000000
namespace Mir
open PySem PySem.Spec PyProof.Rows L2

/-! ## operations on data -/
@[simp] def dAdd : D → D → Out D
  | .int i, .int j => .ok (.int (i + j))
  | .str a, .str b => if a.length + b.length ≤ 1000000 then .ok (.str (a ++ b)) else .stuck
  | .lst a, .lst b => if a.length + b.length ≤ 1000000 then .ok (.lst (a ++ b)) else .stuck
  | .tup a, .tup b => if a ≠ [] ∧ b ≠ [] ∧ a.length + b.length ≤ 1000000 then .ok (.tup (a ++ b)) else .stuck
  | _, _ => .stuck
@[simp] def dSub : D → D → Out D
  | .int i, .int j => .ok (.int (i - j))
  | _, _ => .stuck
@[simp] def dMul : D → D → Out D
  | .int i, .int j => if (-10000000000000000000 < i ∧ i < 10000000000000000000) ∨ (-10000000000000000000 < j ∧ j < 10000000000000000000) then .ok (.int (i * j)) else .stuck
  | .lst a, .int k => if -1000000 ≤ k ∧ k ≤ 1000000 ∧ a.length * k.toNat ≤ 1000000 then .ok (.lst (List.replicate k.toNat a).flatten) else .stuck
  | _, _ => .stuck
@[simp] def dMod : D → D → Out D
  | .int i, .int j => if 0 < j then .ok (.int (i % j)) else .stuck
  | _, _ => .stuck
@[simp] def dDiv : D → D → Out D
  | .int i, .int j => if 0 < j ∧ j < 1073741824 then .ok (.int (i / j)) else .stuck
  | _, _ => .stuck
@[simp] def dPow : D → D → Out D
  | .int i, .int j => if 0 ≤ j ∧ j ≤ 1000000 ∧ i.natAbs < 10000000000000000000 then .ok (.int (i ^ j.toNat)) else .stuck
  | _, _ => .stuck
@[simp] def dLt : D → D → Out D
  | .int i, .int j => .ok (.bl (decide (i < j)))
  | .str a, .str b => .ok (.bl (decide (a.cps.toList < b.cps.toList)))
  | _, _ => .stuck
@[simp] def dLe : D → D → Out D
  | .int i, .int j => .ok (.bl (decide (i ≤ j)))
  | _, _ => .stuck
@[simp] def dGt : D → D → Out D
  | .int i, .int j => .ok (.bl (decide (j < i)))
  | _, _ => .stuck
@[simp] def dGe : D → D → Out D
  | .int i, .int j => .ok (.bl (decide (j ≤ i)))
  | _, _ => .stuck
@[simp] def dNeg : D → Out D
  | .int i => .ok (.int (-i))
  | _ => .stuck
@[simp] def scalD : D → Option V
  | .non => some .non
  | .bl b => some (.bl b)
  | .int i => some (.int i)
  | .str x => some (.str x)
  | _ => none
@[simp] def dEqS : D → D → Out D := fun a b => match scalD a, scalD b with
  | some x, some y => if scal x y = true then .ok (.bl (decide (x = y))) else .stuck
  | _, _ => .stuck
@[simp] def dNeS : D → D → Out D := fun a b => match scalD a, scalD b with
  | some x, some y => if scal x y = true then .ok (.bl (!decide (x = y))) else .stuck
  | _, _ => .stuck
@[simp] def isNon : D → Bool
  | .non => true
  | _ => false
@[simp] def dIs : D → D → Out D
  | a, .non => .ok (.bl (isNon a))
  | _, _ => .stuck
@[simp] def dIsNot : D → D → Out D
  | a, .non => .ok (.bl (!isNon a))
  | _, _ => .stuck
/-- one sign in a text -/
@[simp] def dInS : D → D → Out D
  | .str c, .str z => if c.cps.size = 1 then .ok (.bl (decide (c.cps.getD 0 0 ∈ z.cps.toList))) else .stuck
  | _, _ => .stuck
@[simp] def dNotInS : D → D → Out D
  | .str c, .str z => if c.cps.size = 1 then .ok (.bl (!decide (c.cps.getD 0 0 ∈ z.cps.toList))) else .stuck
  | _, _ => .stuck
@[simp] def dIx : D → D → Out D
  | .lst xs, .int i => match atI xs i with
    | some d => .ok d
    | none => .stuck
  | .frl xs, .int i => match atI xs i with
    | some d => .ok d
    | none => .stuck
  | .tup xs, .int i => match atI xs i with
    | some d => .ok d
    | none => .stuck
  | .str z, .int i => if z.length ≤ 1000000 then (match atI z.cps.toList i with
    | some c => .ok (.str ⟨#[c]⟩)
    | none => .stuck) else .stuck
  | _, _ => .stuck
def d1 (f : D → Out D) : List D → Out D
  | [a] => f a
  | _ => .stuck
def d2 (f : D → D → Out D) : List D → Out D
  | [a, b] => f a b
  | _ => .stuck
@[simp] theorem d1_one (f : D → Out D) (a : D) : d1 f [a] = f a := rfl
@[simp] theorem d2_two (f : D → D → Out D) (a b : D) : d2 f [a, b] = f a b := rfl
@[simp] def dLen : D → Out D
  | .str x => if x.length ≤ 1000000 then .ok (.int x.length) else .stuck
  | .lst xs => .ok (.int xs.length)
  | .frl xs => .ok (.int xs.length)
  | .tup xs => .ok (.int xs.length)
  | _ => .stuck
@[simp] def dInt : D → Out D
  | .int i => .ok (.int i)
  | .bl b => .ok (.int (if b then 1 else 0))
  | _ => .stuck
@[simp] def tyName : D → Option String
  | .non => some "NoneType"
  | .bl _ => some "bool"
  | .int _ => some "int"
  | .str _ => some "str"
  | .tup _ => some "tuple"
  | .lst _ => some "list"
  | .frl _ => some "list"
  | .dic _ => some "dict"
  | _ => none
@[simp] def isSub (a b : String) : Bool := a == b || (a == "bool" && b == "int")
@[simp] def tyList : List String := ["int", "bool", "str", "tuple", "list", "dict"]
/-- isinstance(x, T), T a built-in class -/
@[simp] def dIsi : D → D → Out D
  | d, .ty n => match tyName d with
    | some t => if n ∈ tyList then .ok (.bl (isSub t n)) else .stuck
    | none => .stuck
  | _, _ => .stuck

@[simp] theorem scal_ii (i j : Int) : scal (.int i) (.int j) = true := rfl
@[simp] theorem scal_bb (i j : Bool) : scal (.bl i) (.bl j) = true := rfl
@[simp] theorem scal_ss (i j : Str) : scal (.str i) (.str j) = true := rfl
@[simp] theorem scal_nn : scal .non .non = true := rfl
@[simp] theorem scal_ni (i : Int) : scal .non (.int i) = true := rfl
@[simp] theorem scal_in (i : Int) : scal (.int i) .non = true := rfl
@[simp] theorem scal_ns (i : Str) : scal .non (.str i) = true := rfl
@[simp] theorem scal_sn (i : Str) : scal (.str i) .non = true := rfl
theorem repT_int {K : PySem.W.Frag} {H G : Hp} {i : Int} {v : V} (h : RepT K H G (.int i) v) : v = .int i := by simpa only [RepT, RepD] using h
theorem repT_str {K : PySem.W.Frag} {H G : Hp} {i : Str} {v : V} (h : RepT K H G (.str i) v) : v = .str i := by simpa only [RepT, RepD] using h
theorem repT_bl {K : PySem.W.Frag} {H G : Hp} {i : Bool} {v : V} (h : RepT K H G (.bl i) v) : v = .bl i := by simpa only [RepT, RepD] using h
theorem repT_non {K : PySem.W.Frag} {H G : Hp} {v : V} (h : RepT K H G .non v) : v = .non := by simpa only [RepT, RepD] using h
theorem repD_int {K : PySem.W.Frag} {G : Hp} {i : Int} : RepD K G (.int i) (.int i) := by simp only [RepD]
theorem repD_str {K : PySem.W.Frag} {G : Hp} {i : Str} : RepD K G (.str i) (.str i) := by simp only [RepD]
theorem repD_bl {K : PySem.W.Frag} {G : Hp} {i : Bool} : RepD K G (.bl i) (.bl i) := by simp only [RepD]
theorem repD_non {K : PySem.W.Frag} {G : Hp} : RepD K G .non .non := by simp only [RepD]

section
variable {K : PySem.W.Frag}
/-- closes the goals of an operation on two ints -/
theorem opS_I0 {g : Int → Int → V} {f : D → D → Out D} {e : Int → Int → D} (hf : ∀ a b d, f a b = .ok d → ∃ i j, a = .int i ∧ b = .int j ∧ d = e i j) (hg : ∀ i j G, RepD K G (e i j) (g i j)) : OpS K (rI0 g) f := fun x y H G dx dy Q s hx hy d hd k => by
  obtain ⟨i, j, rfl, rfl, rfl⟩ := hf dx dy d hd
  exact ⟨i, j, repT_int hx, repT_int hy, k _ _ _ (Ext.refl s) (hg i j G)⟩
theorem opS_I {Cn : Int → Int → Prop} {g : Int → Int → V} {f : D → D → Out D} {e : Int → Int → D} (hf : ∀ a b d, f a b = .ok d → ∃ i j, a = .int i ∧ b = .int j ∧ Cn i j ∧ d = e i j) (hg : ∀ i j G, RepD K G (e i j) (g i j)) : OpS K (rI Cn g) f := fun x y H G dx dy Q s hx hy d hd k => by
  obtain ⟨i, j, rfl, rfl, hc, rfl⟩ := hf dx dy d hd
  exact ⟨i, j, repT_int hx, repT_int hy, hc, k _ _ _ (Ext.refl s) (hg i j G)⟩
theorem OpS.or {r r' : R2} {f : D → D → Out D} (h : ∀ (x y : V) (H G : Hp) (dx dy : D) (Q : VK), Sub G H → RepT K H G dx x → RepT K H G dy y → ∀ d, f dx dy = .ok d → (∀ v H' G', Ext H G H' G' → RepD K G' d v → Q v H') → r x y H Q ∨ r' x y H Q) : OpS K (fun x y H Q => r x y H Q ∨ r' x y H Q) f := h
theorem ops_sub : OpS K (rI0 fun i j => .int (i - j)) dSub := opS_I0 (e := fun i j => .int (i - j)) (fun a b d h => by
  cases a <;> cases b <;> simp only [dSub, reduceCtorEq, Out.ok.injEq] at h
  exact ⟨_, _, rfl, rfl, h.symm⟩) fun _ _ _ => repD_int
theorem ops_mod : OpS K (rI (fun _ j => 0 < j) fun i j => .int (i % j)) dMod := opS_I (e := fun i j => .int (i % j)) (fun a b d h => by
  cases a <;> cases b <;> simp only [dMod, reduceCtorEq] at h
  split at h
  · cases h; exact ⟨_, _, rfl, rfl, by assumption, rfl⟩
  · cases h) fun _ _ _ => repD_int
theorem ops_div : OpS K (rI CDiv fun i j => .int (i / j)) dDiv := opS_I (e := fun i j => .int (i / j)) (fun a b d h => by
  cases a <;> cases b <;> simp only [dDiv, reduceCtorEq] at h
  split at h
  · cases h; exact ⟨_, _, rfl, rfl, by assumption, rfl⟩
  · cases h) fun _ _ _ => repD_int
theorem ops_pow : OpS K (rI CPow fun i j => .int (i ^ j.toNat)) dPow := opS_I (e := fun i j => .int (i ^ j.toNat)) (fun a b d h => by
  cases a <;> cases b <;> simp only [dPow, reduceCtorEq] at h
  split at h
  · cases h; exact ⟨_, _, rfl, rfl, by (rename_i hz; exact ⟨hz.1, hz.2.1, Nat.lt_of_lt_of_le hz.2.2 (by decide)⟩), rfl⟩
  · cases h) fun _ _ _ => repD_int
theorem ops_le : OpS K (rI0 fun i j => .bl (decide (i ≤ j))) dLe := opS_I0 (e := fun i j => .bl (decide (i ≤ j))) (fun a b d h => by
  cases a <;> cases b <;> simp only [dLe, reduceCtorEq, Out.ok.injEq] at h
  exact ⟨_, _, rfl, rfl, h.symm⟩) fun _ _ _ => repD_bl
theorem ops_gt : OpS K (rI0 fun i j => .bl (decide (j < i))) dGt := opS_I0 (e := fun i j => .bl (decide (j < i))) (fun a b d h => by
  cases a <;> cases b <;> simp only [dGt, reduceCtorEq, Out.ok.injEq] at h
  exact ⟨_, _, rfl, rfl, h.symm⟩) fun _ _ _ => repD_bl
theorem ops_ge : OpS K (rI0 fun i j => .bl (decide (j ≤ i))) dGe := opS_I0 (e := fun i j => .bl (decide (j ≤ i))) (fun a b d h => by
  cases a <;> cases b <;> simp only [dGe, reduceCtorEq, Out.ok.injEq] at h
  exact ⟨_, _, rfl, rfl, h.symm⟩) fun _ _ _ => repD_bl
abbrev rLtA : R2 := fun x y H Q => (rI0 fun i j => .bl (decide (i < j))) x y H Q ∨ (∃ i j, x = .str i ∧ y = .str j ∧ Q (.bl (decide (i.cps.toList < j.cps.toList))) H)
theorem ops_lt : OpS K rLtA dLt := fun x y H G dx dy Q s hx hy d hd k => by
  cases dx <;> cases dy <;> simp only [dLt, reduceCtorEq, Out.ok.injEq] at hd
  · subst hd; exact .inl ⟨_, _, repT_int hx, repT_int hy, k _ _ _ (Ext.refl s) repD_bl⟩
  · subst hd; exact .inr ⟨_, _, repT_str hx, repT_str hy, k _ _ _ (Ext.refl s) repD_bl⟩
theorem scalD_rep {H G : Hp} {d : D} {x v : V} (e : scalD d = some x) (h : RepT K H G d v) : v = x := by
  cases d <;> simp only [scalD, reduceCtorEq, Option.some.injEq] at e <;> subst e <;> simpa only [RepT, RepD] using h
theorem ops_eqS : OpS K rEq dEqS := fun x y H G dx dy Q s hx hy d hd k => by
  unfold dEqS at hd
  split at hd
  · rename_i u v e1 e2
    split at hd
    · rename_i hs
      cases hd
      rw [scalD_rep e1 hx, scalD_rep e2 hy]
      exact ⟨hs, k _ _ _ (Ext.refl s) repD_bl⟩
    · cases hd
  · cases hd
theorem ops_neS : OpS K rNe dNeS := fun x y H G dx dy Q s hx hy d hd k => by
  unfold dNeS at hd
  split at hd
  · rename_i u v e1 e2
    split at hd
    · rename_i hs
      cases hd
      rw [scalD_rep e1 hx, scalD_rep e2 hy]
      exact ⟨hs, k _ _ _ (Ext.refl s) repD_bl⟩
    · cases hd
  · cases hd
theorem isNon_rep {H G : Hp} {d : D} {v : V} (h : RepT K H G d v) : isNon d = decide (v = .non) := by
  cases d <;> simp only [RepT, RepD] at h
  · subst h; rfl
  · subst h; rfl
  · subst h; rfl
  · subst h; rfl
  · subst h; rfl
  all_goals first
    | (obtain ⟨a, vs, rfl, _⟩ := h; rfl)
    | (obtain ⟨a, dx, vs, rfl, _⟩ := h; rfl)
abbrev rIs0 : R2 := fun x y H Q => y = .non ∧ Q (.bl (decide (x = .non))) H
abbrev rIsNot0 : R2 := fun x y H Q => y = .non ∧ Q (.bl (!decide (x = .non))) H
theorem ops_is : OpS K rIs0 dIs := fun x y H G dx dy Q s hx hy d hd k => by
  cases dy <;> simp only [dIs, reduceCtorEq, Out.ok.injEq] at hd
  subst hd
  refine ⟨repT_non hy, ?_⟩
  rw [← isNon_rep hx]
  exact k _ _ _ (Ext.refl s) repD_bl
theorem ops_isNot : OpS K rIsNot0 dIsNot := fun x y H G dx dy Q s hx hy d hd k => by
  cases dy <;> simp only [dIsNot, reduceCtorEq, Out.ok.injEq] at hd
  subst hd
  refine ⟨repT_non hy, ?_⟩
  rw [← isNon_rep hx]
  exact k _ _ _ (Ext.refl s) repD_bl
abbrev rAddA : R2 := fun x y H Q => (rI0 fun i j => .int (i + j)) x y H Q ∨ ((∃ i j, x = .str i ∧ y = .str j ∧ i.length + j.length ≤ sizeLine ∧ Q (.str (i ++ j)) H) ∨ (rCat x y H Q ∨ rCatT K x y H Q))
theorem ops_add : OpS K (rAddA (K := K)) dAdd := fun x y H G dx dy Q s hx hy d hd k => by
  cases dx <;> cases dy <;> simp only [dAdd, reduceCtorEq, Out.ok.injEq] at hd
  · subst hd; exact .inl ⟨_, _, repT_int hx, repT_int hy, k _ _ _ (Ext.refl s) repD_int⟩
  · split at hd
    · cases hd; exact .inr (.inl ⟨_, _, repT_str hx, repT_str hy, lim_le (by assumption), k _ _ _ (Ext.refl s) repD_str⟩)
    · cases hd
  · split at hd
    · rename_i hz
      cases hd
      obtain ⟨a, vs, ea, ha, la⟩ := hx
      obtain ⟨b, us, eb, hb, lb⟩ := hy
      refine .inr (.inr (.inr ⟨a, b, vs, us, ea, eb, SqT.of ha, SqT.of hb, ?_, ?_, fun z => ?_, fun _ p hp => ?_⟩))
      · intro z; subst z
        have := repL_len la
        exact hz.1 (List.eq_nil_of_length_eq_zero this)
      · rw [← repL_len la, ← repL_len lb]; exact lim_le hz.2.2
      · subst z
        have := repL_len lb
        exact absurd (List.eq_nil_of_length_eq_zero this) hz.2.1
      · refine k _ _ _ (Ext.alloc s hp) ?_
        simp only [RepD]
        exact ⟨p, vs ++ us, rfl, upd_same, (repL_app la lb).mono (Sub.new (s.no hp))⟩
    · cases hd
  · split at hd
    · rename_i hz
      cases hd
      obtain ⟨a, vs, ea, ha, la⟩ := hx
      obtain ⟨b, us, eb, hb, lb⟩ := hy
      refine .inr (.inr (.inl ⟨a, b, vs, us, ea, eb, ha, hb, ?_, fun p hp => ?_⟩))
      · rw [← repL_len la, ← repL_len lb]; exact lim_le hz
      · refine k _ _ _ (Ext.alloc s hp) ?_
        simp only [RepD]
        exact ⟨p, vs ++ us, rfl, upd_same, (repL_app la lb).mono (Sub.new (s.no hp))⟩
    · cases hd
theorem repL_rep {G : Hp} {ds : List D} {vs : List V} (h : RepL K G ds vs) : ∀ n : Nat, RepL K G (List.replicate n ds).flatten (List.replicate n vs).flatten
  | 0 => by simp only [List.replicate_zero, List.flatten_nil, RepL]
  | n + 1 => by
    rw [List.replicate_succ, List.replicate_succ, List.flatten_cons, List.flatten_cons]
    exact repL_app h (repL_rep h n)
abbrev rMulA : R2 := fun x y H Q => (rI CMul fun i j => .int (i * j)) x y H Q ∨ rRep x y H Q
theorem ops_mul : OpS K rMulA dMul := fun x y H G dx dy Q s hx hy d hd k => by
  cases dx <;> cases dy <;> simp only [dMul, reduceCtorEq, Out.ok.injEq] at hd
  · split at hd
    · rename_i hz; cases hd; exact .inl ⟨_, _, repT_int hx, repT_int hy, hz.elim (fun z => .inl ⟨by omega, by omega⟩) (fun z => .inr ⟨by omega, by omega⟩), k _ _ _ (Ext.refl s) repD_int⟩
    · cases hd
  · split at hd
    · rename_i hz
      cases hd
      obtain ⟨a, vs, ea, ha, la⟩ := hx
      refine .inr ⟨a, _, vs, ea, repT_int hy, ha, by omega, by omega, by rw [← repL_len la]; exact lim_le hz.2.2, fun p hp => ?_⟩
      refine k _ _ _ (Ext.alloc s hp) ?_
      simp only [RepD]
      exact ⟨p, _, rfl, upd_same, (repL_rep la _).mono (Sub.new (s.no hp))⟩
    · cases hd
theorem chr_eta {c : Str} (h : c.cps.size = 1) : c = ⟨#[c.cps.getD 0 0]⟩ := by
  obtain ⟨⟨l⟩⟩ := c
  match l, h with
  | [a], _ => rfl
theorem ops_inS : OpS K (fun x y H Q => ∃ (c : Nat) (z : Str), x = .str ⟨#[c]⟩ ∧ y = .str z ∧ Q (.bl (decide (c ∈ z.cps.toList))) H) dInS := fun x y H G dx dy Q s hx hy d hd k => by
  cases dx <;> cases dy <;> simp only [dInS, reduceCtorEq, Out.ok.injEq] at hd
  split at hd
  · rename_i hc
    cases hd
    exact ⟨_, _, (repT_str hx).trans (congrArg V.str (chr_eta hc)), repT_str hy, k _ _ _ (Ext.refl s) repD_bl⟩
  · cases hd
theorem ops_notInS : OpS K (fun x y H Q => ∃ (c : Nat) (z : Str), x = .str ⟨#[c]⟩ ∧ y = .str z ∧ Q (.bl (!decide (c ∈ z.cps.toList))) H) dNotInS := fun x y H G dx dy Q s hx hy d hd k => by
  cases dx <;> cases dy <;> simp only [dNotInS, reduceCtorEq, Out.ok.injEq] at hd
  split at hd
  · rename_i hc
    cases hd
    exact ⟨_, _, (repT_str hx).trans (congrArg V.str (chr_eta hc)), repT_str hy, k _ _ _ (Ext.refl s) repD_bl⟩
  · cases hd
theorem atI_rep {G : Hp} {ds : List D} {vs : List V} {i : Int} {d : D} (h : RepL K G ds vs) (e : atI ds i = some d) : ∃ v, atI vs i = some v ∧ RepD K G d v := by
  unfold atI at e ⊢
  rw [← repL_len h]
  cases q : ixN ds.length i with
  | none => rw [q] at e; cases e
  | some j =>
    rw [q] at e
    exact repL_get2 h e
abbrev rIxA (K : PySem.W.Frag) : R2 := fun x y H Q => rIxL K x y H Q ∨ (rIxT K x y H Q ∨ rIxS x y H Q)
theorem IxR.or {X : Cx} {r r' : R2} (h : IxR X r) (h' : IxR X r') : IxR X (fun x y H Q => r x y H Q ∨ r' x y H Q) := fun a b pins s σ H x y v u Q I rx ry hq hp => by
  rcases hq with q | q
  · exact h a b pins s σ H x y v u Q I rx ry q hp
  · exact h' a b pins s σ H x y v u Q I rx ry q hp
theorem ops_ix : OpS K (rIxA K) dIx := fun x y H G dx dy Q s hx hy d hd k => by
  cases dx <;> cases dy <;> simp only [dIx, reduceCtorEq, Out.ok.injEq] at hd
  · split at hd
    · rename_i hz
      split at hd
      · rename_i c hc
        cases hd
        exact .inr (.inr ⟨_, _, _, repT_str hx, repT_int hy, lim_le hz, hc, k _ _ _ (Ext.refl s) repD_str⟩)
      · cases hd
    · cases hd
  · split at hd
    · rename_i hc
      cases hd
      obtain ⟨a, vs, ea, ha, la⟩ := hx
      obtain ⟨v, hv, hd⟩ := atI_rep la hc
      exact .inr (.inl ⟨a, vs, _, v, ea, repT_int hy, SqT.of ha, hv, k _ _ _ (Ext.refl s) hd⟩)
    · cases hd
  · split at hd
    · rename_i hc
      cases hd
      obtain ⟨a, vs, ea, ha, la⟩ := hx
      obtain ⟨v, hv, hd⟩ := atI_rep la hc
      exact .inl ⟨a, vs, _, v, ea, repT_int hy, SqL.of ha, hv, k _ _ _ (Ext.refl s) hd⟩
    · cases hd
  · split at hd
    · rename_i hc
      cases hd
      obtain ⟨a, vs, ea, ha, la⟩ := hx
      obtain ⟨v, hv, hd⟩ := atI_rep la hc
      exact .inl ⟨a, vs, _, v, ea, repT_int hy, ha, hv, k _ _ _ (Ext.refl s) hd⟩
    · cases hd
theorem calls_1 {rr : List V → Hp → VK → Prop} {f : D → Out D} (h : ∀ (x : V) (H G : Hp) (dx : D) (Q : VK), Sub G H → RepT K H G dx x → ∀ d, f dx = .ok d → (∀ v H' G', Ext H G H' G' → RepD K G' d v → Q v H') → rr [x] H Q) : CallS K rr (d1 f) := fun xs H G ds Q s hx d hd k => by
  match ds, hx, hd with
  | [_], .cons h1 .nil, hd => exact h _ H G _ Q s h1 d hd k
theorem calls_2 {rr : List V → Hp → VK → Prop} {f : D → D → Out D} (h : ∀ (x y : V) (H G : Hp) (dx dy : D) (Q : VK), Sub G H → RepT K H G dx x → RepT K H G dy y → ∀ d, f dx dy = .ok d → (∀ v H' G', Ext H G H' G' → RepD K G' d v → Q v H') → rr [x, y] H Q) : CallS K rr (d2 f) := fun xs H G ds Q s hx d hd k => by
  match ds, hx, hd with
  | [_, _], .cons h1 (.cons h2 .nil), hd => exact h _ _ H G _ _ Q s h1 h2 d hd k
theorem callf_1 {rr : List V → Hp → VK → Prop} {f : D → Out D} (h : ∀ (x : V) (H G : Hp) (dx : D) (Q : VK), Sub G H → RepT K H G dx x → ∀ d, f dx = .ok d → (∀ p o, H p = none → Own K (upd H p o) G d (.ref p) → Q (.ref p) (upd H p o)) → rr [x] H Q) : CallF K rr (d1 f) := fun xs H G ds Q s hx d hd k => by
  match ds, hx, hd with
  | [_], .cons h1 .nil, hd => exact h _ H G _ Q s h1 d hd k
theorem nox_d1 {f : D → Out D} (h : NoX1 f) : NoX1 (d1 f) := fun ds x e => by
  match ds, e with
  | [a], e => exact h a x e
theorem nox_d2 {f : D → D → Out D} (h : NoX2 f) : NoX1 (d2 f) := fun ds x e => by
  match ds, e with
  | [a, b], e => exact h a b x e
theorem calls_len : CallS K (fun xs H Q => ∃ x n, xs = [x] ∧ LenV K x H n ∧ Q (.int n) H) (d1 dLen) := calls_1 fun x H G dx Q s h1 d hd k => by
  cases dx <;> simp only [dLen, reduceCtorEq, Out.ok.injEq] at hd
  · split at hd
    · rename_i hz
      cases hd
      rw [repT_str h1]
      exact ⟨_, _, rfl, ⟨lim_le hz, rfl⟩, k _ _ _ (Ext.refl s) repD_int⟩
    · cases hd
  · subst hd
    obtain ⟨a, vs, ea, ha, la⟩ := h1
    subst ea
    exact ⟨_, _, rfl, .inr ⟨vs, SqT.of ha, rfl⟩, k _ _ _ (Ext.refl s) (by rw [repL_len la]; exact repD_int)⟩
  · subst hd
    obtain ⟨a, vs, ea, ha, la⟩ := h1
    subst ea
    exact ⟨_, _, rfl, .inl ⟨vs, SqL.of ha, rfl⟩, k _ _ _ (Ext.refl s) (by rw [repL_len la]; exact repD_int)⟩
  · subst hd
    obtain ⟨a, vs, ea, ha, la⟩ := h1
    subst ea
    exact ⟨_, _, rfl, .inl ⟨vs, ha, rfl⟩, k _ _ _ (Ext.refl s) (by rw [repL_len la]; exact repD_int)⟩
theorem calls_int : CallS K (fun xs H Q => (∃ i, xs = [.int i] ∧ Q (.int i) H) ∨ ∃ k, xs = [.bl k] ∧ Q (.int (if k then 1 else 0)) H) (d1 dInt) := calls_1 fun x H G dx Q s h1 d hd k => by
  cases dx <;> simp only [dInt, reduceCtorEq, Out.ok.injEq] at hd
  · subst hd; rw [repT_bl h1]; exact .inr ⟨_, rfl, k _ _ _ (Ext.refl s) repD_int⟩
  · subst hd; rw [repT_int h1]; exact .inl ⟨_, rfl, k _ _ _ (Ext.refl s) repD_int⟩
theorem tyName_ok {H G : Hp} {d : D} {v : V} {t : String} (e : tyName d = some t) (h : RepT K H G d v) : TyX K H v (.type t) := by
  cases d <;> simp only [tyName, reduceCtorEq, Option.some.injEq] at e <;> subst e
  · rw [repT_non h]; exact .base .non
  · rw [repT_bl h]; exact .base (.bl _)
  · rw [repT_int h]; exact .base (.int _)
  · rw [repT_str h]; exact .base (.str _)
  · obtain ⟨a, vs, ea, ha, la⟩ := h; subst ea; exact .base (.tup ha)
  · obtain ⟨a, vs, ea, ha, la⟩ := h; subst ea; exact .base (.lst ha)
  · obtain ⟨a, vs, ea, ha, la⟩ := h
    subst ea
    rcases ha with (ha | ⟨o, ha⟩) | ⟨o, its, n, hk, hc, _⟩
    · exact .base (.lst ha)
    · exact .base (.frz ha)
    · exact .kList hk hc
  · obtain ⟨a, vs, ea, ha, la⟩ := h
    subst ea
    rcases ha with ha | ⟨o, ha⟩
    · exact .base (.dK ha)
    · exact .fDict ha
theorem kit_all {t n : String} (ht : t ∈ ["NoneType", "bool", "int", "str", "tuple", "list", "dict"]) (hn : n ∈ tyList) : PySem.W.kitOne K (.type t) (.type n) = some (isSub t n) := by
  refine kit_ty ?_
  have all : ∀ t ∈ ["NoneType", "bool", "int", "str", "tuple", "list", "dict"], ∀ n ∈ tyList, kitB t n = some (isSub t n) := by decide +kernel
  exact all t ht n hn
theorem tyName_mem {d : D} {t : String} (e : tyName d = some t) : t ∈ ["NoneType", "bool", "int", "str", "tuple", "list", "dict"] := by
  cases d <;> simp only [tyName, reduceCtorEq, Option.some.injEq] at e <;> subst e <;> decide
theorem calls_isi : CallS K (rIsi K) (d2 dIsi) := calls_2 fun x y H G dx dy Q s hx hy d hd k => by
  cases dy <;> simp only [dIsi, reduceCtorEq] at hd
  rename_i n
  split at hd
  · rename_i t ht
    split at hd
    · rename_i hn
      cases hd
      have hy' : y = .ty n := by simpa only [RepT, RepD] using hy
      subst hy'
      exact ⟨x, .ty n, .type t, .type n, _, rfl, .ty n, tyName_ok ht hx, kit_all (tyName_mem ht) hn, k _ _ _ (Ext.refl s) repD_bl⟩
    · cases hd
  · cases hd
/-! none of these raises -/
theorem nx_add : NoX2 dAdd := fun a b x h => by cases a <;> cases b <;> simp only [dAdd, reduceCtorEq] at h <;> split at h <;> cases h
theorem nx_sub : NoX2 dSub := fun a b x h => by cases a <;> cases b <;> simp only [dSub, reduceCtorEq] at h
theorem nx_mul : NoX2 dMul := fun a b x h => by cases a <;> cases b <;> simp only [dMul, reduceCtorEq] at h <;> split at h <;> cases h
theorem nx_mod : NoX2 dMod := fun a b x h => by cases a <;> cases b <;> simp only [dMod, reduceCtorEq] at h <;> split at h <;> cases h
theorem nx_div : NoX2 dDiv := fun a b x h => by cases a <;> cases b <;> simp only [dDiv, reduceCtorEq] at h <;> split at h <;> cases h
theorem nx_pow : NoX2 dPow := fun a b x h => by cases a <;> cases b <;> simp only [dPow, reduceCtorEq] at h <;> split at h <;> cases h
theorem nx_lt : NoX2 dLt := fun a b x h => by cases a <;> cases b <;> simp only [dLt, reduceCtorEq] at h
theorem nx_le : NoX2 dLe := fun a b x h => by cases a <;> cases b <;> simp only [dLe, reduceCtorEq] at h
theorem nx_gt : NoX2 dGt := fun a b x h => by cases a <;> cases b <;> simp only [dGt, reduceCtorEq] at h
theorem nx_ge : NoX2 dGe := fun a b x h => by cases a <;> cases b <;> simp only [dGe, reduceCtorEq] at h
theorem nx_eqS : NoX2 dEqS := fun a b x h => by unfold dEqS at h; split at h <;> (try split at h) <;> cases h
theorem nx_neS : NoX2 dNeS := fun a b x h => by unfold dNeS at h; split at h <;> (try split at h) <;> cases h
theorem nx_is : NoX2 dIs := fun a b x h => by cases b <;> simp only [dIs, reduceCtorEq] at h
theorem nx_isNot : NoX2 dIsNot := fun a b x h => by cases b <;> simp only [dIsNot, reduceCtorEq] at h
theorem nx_inS : NoX2 dInS := fun a b x h => by cases a <;> cases b <;> simp only [dInS, reduceCtorEq] at h <;> split at h <;> cases h
theorem nx_notInS : NoX2 dNotInS := fun a b x h => by cases a <;> cases b <;> simp only [dNotInS, reduceCtorEq] at h <;> split at h <;> cases h
theorem nx_ix : NoX2 dIx := fun a b x h => by cases a <;> cases b <;> simp only [dIx, reduceCtorEq] at h <;> split at h <;> (try split at h) <;> cases h
theorem nx_len : NoX1 dLen := fun a x h => by cases a <;> simp only [dLen, reduceCtorEq] at h <;> split at h <;> cases h
theorem nx_int : NoX1 dInt := fun a x h => by cases a <;> simp only [dInt, reduceCtorEq] at h
theorem nx_isi : NoX2 dIsi := fun a b x h => by cases b <;> simp only [dIsi, reduceCtorEq] at h <;> split at h <;> (try split at h) <;> cases h
end
end Mir

set_option maxHeartbeats 4000000
namespace Mir
open PySem PySem.Spec PyProof.Rows L2

/-! ## a frame within a frame -/
def exO (O : List Nat) (σ : L2.St) : List Addr := O.filterMap fun (i : Nat) => match (σ[i]? : Option (Option V)) with
  | some (some (.ref a)) => some a
  | _ => none
theorem mem_exO {O : List Nat} {σ : L2.St} {a : Addr} : a ∈ exO O σ ↔ ∃ i : Nat, i ∈ O ∧ σ[i]? = some (some (.ref a)) := by
  unfold exO
  rw [List.mem_filterMap]
  constructor
  · rintro ⟨i, hi, h⟩
    refine ⟨i, hi, ?_⟩
    split at h
    · rename_i b e
      cases h; exact e
    · cases h
  · rintro ⟨i, hi, h⟩
    exact ⟨i, hi, by rw [h]⟩
def nest (c : Fm) (H G : Hp) (ex : List Addr) : Fm := ⟨H, G, ex, c.lk⟩
section
variable {K : PySem.W.Frag} {C : Cf} {c : Fm} {I O O' O1 O2 Ol Oq : List Nat} {σ σ' : L2.St} {H G H' G' : Hp} {r r' : RE}
theorem RR.enter (R : RR K c I O σ H G r) : RR K (nest c H G (exO O σ)) O O σ H G r where
  gh := R.gh
  g0 := Sub.refl G
  gr := fun a u e => .inl (by show G a ≠ none; rw [e]; simp)
  ke := fun a u e _ => ⟨⟨u, e, rfl⟩, fun _ => e, fun _ _ _ => e⟩
  xk := fun a ha => by
    obtain ⟨i, hi, hs⟩ := mem_exO.mp ha
    exact (R.ow i a hi hs).2.2.2
  len := R.len
  sl := R.sl
  ow := fun i a hi hs => by
    obtain ⟨h1, h2, h3, h4⟩ := R.ow i a hi hs
    exact ⟨h1, fun _ => mem_exO.mpr ⟨i, hi, hs⟩, fun z => absurd hi z, h4⟩
  nj := R.nj
  io := fun i hi => hi
  lk := R.lk
theorem RR.leave (R : RR K c I O σ H G r) (R' : RR K (nest c H G (exO O σ)) O O σ' H' G' r') (hs : ∀ i ∈ O, σ'[i]? = σ[i]?) : RR K c I O σ' H' G' r' where
  gh := R'.gh
  g0 := R.g0.trans R'.g0
  gr := fun a u e => by
    rcases R'.gr a u e with z | z
    · have z' : G a ≠ none := z
      cases q : G a with
      | none => exact absurd q z'
      | some u1 => exact R.gr a u1 q
    · have z' : H a = none := z
      cases q : c.He a with
      | none => exact .inr rfl
      | some u1 =>
        by_cases ha : a ∈ c.ex
        · exact absurd z' (R.xk a ha)
        · obtain ⟨⟨u', e', _⟩, _⟩ := R.ke a u1 q ha
          rw [z'] at e'; cases e'
  ke := fun a u e ha => by
    obtain ⟨⟨u', e', q⟩, k, k2⟩ := R.ke a u e ha
    have nx : a ∉ exO O σ := fun z => by
      obtain ⟨i, hi, hsi⟩ := mem_exO.mp z
      obtain ⟨_, h2, h3, _⟩ := R.ow i a hi hsi
      by_cases hI : i ∈ I
      · exact ha (h2 hI)
      · rw [h3 hI] at e; cases e
    obtain ⟨⟨u2, e2, q2⟩, k3, k4⟩ := R'.ke a u' e' nx
    refine ⟨⟨u2, e2, q2.trans q⟩, fun z => ?_, fun o v z => ?_⟩
    · have h1 := k z
      rw [h1] at e'; cases e'
      refine k3 ?_
      show G a = none
      cases e5 : G a with
      | none => rfl
      | some v =>
        rcases R.gr a v e5 with y | y
        · exact absurd z y
        · rw [e] at y; cases y
    · have h1 := k2 o v z
      rw [h1] at e'; cases e'
      exact k4 o v z
  xk := fun a ha e => by
    by_cases hx : a ∈ exO O σ
    · exact R'.xk a hx e
    · cases q : H a with
      | none => exact R.xk a ha q
      | some u =>
        obtain ⟨⟨u2, e2, _⟩, _⟩ := R'.ke a u q hx
        rw [e] at e2; cases e2
  len := R'.len
  sl := R'.sl
  ow := fun i a hi hsi => by
    obtain ⟨h1, _, _, h4⟩ := R'.ow i a hi hsi
    rw [hs i hi] at hsi
    obtain ⟨_, h2, h3, _⟩ := R.ow i a hi hsi
    exact ⟨h1, h2, h3, h4⟩
  nj := R'.nj
  io := R.io
  lk := R'.lk
theorem XP.nest {x : Exn} {E : XK} (R : RR K c I O σ H G r) (h : XP K c E x) : XP K (nest c H G (exO O σ)) E x := fun dx H' G' us s1 s2 g k hx rf => by
  refine h dx H' G' us s1 (R.g0.trans s2) (fun a u e => ?_) (fun a u e ha => ?_) hx rf
  · rcases g a u e with z | z
    · have z' : G a ≠ none := z
      cases q : G a with
      | none => exact absurd q z'
      | some u1 => exact R.gr a u1 q
    · have z' : H a = none := z
      cases q : c.He a with
      | none => exact .inr rfl
      | some u1 =>
        by_cases ha : a ∈ c.ex
        · exact absurd z' (R.xk a ha)
        · obtain ⟨⟨u', e', _⟩, _⟩ := R.ke a u1 q ha
          rw [z'] at e'; cases e'
  · obtain ⟨⟨u', e', q⟩, k1, k2⟩ := R.ke a u e ha
    have nx : a ∉ exO O σ := fun z => by
      obtain ⟨i, hi, hsi⟩ := mem_exO.mp z
      obtain ⟨_, h2, h3, _⟩ := R.ow i a hi hsi
      by_cases hI : i ∈ I
      · exact ha (h2 hI)
      · rw [h3 hI] at e; cases e
    obtain ⟨⟨u2, e2, q2⟩, k3, k4⟩ := k a u' e' nx
    refine ⟨⟨u2, e2, q2.trans q⟩, fun z => ?_, fun o v z => ?_⟩
    · have h1 := k1 z
      rw [h1] at e'; cases e'
      refine k3 ?_
      show G a = none
      cases e5 : G a with
      | none => rfl
      | some v =>
        rcases R.gr a v e5 with y | y
        · exact absurd z y
        · rw [e] at y; cases y
    · have h1 := k2 o v z
      rw [h1] at e'; cases e'
      exact k4 o v z
/-- an object that is no slot's and not known to G changes -/
theorem RR.other (R : RR K c I O σ H G r) {p : Addr} {o : HO} (hg : G p = none) (he : c.He p = none) (hx : p ∉ c.ex) (hn : ∀ i : Nat, i ∈ O → σ[i]? ≠ some (some (.ref p))) : RR K c I O σ (upd H p o) G r where
  gh := R.gh.mut hg
  g0 := R.g0
  gr := R.gr
  ke := fun a u e ha => by
    have : a ≠ p := fun z => by rw [z, he] at e; cases e
    rw [upd_ne this]; exact R.ke a u e ha
  xk := fun a ha => by
    rw [upd_ne (show a ≠ p from fun z => hx (z ▸ ha))]; exact R.xk a ha
  len := R.len
  sl := fun i d e => by
    obtain ⟨v, h1, h2, h3⟩ := R.sl i d e
    refine ⟨v, h1, fun z => ?_, h3⟩
    have h2' := h2 z
    obtain ⟨b, ub, eb, hub⟩ := h2'.ref
    subst eb
    have hba : b ≠ p := fun q => hn i z (q ▸ h1)
    cases d with
    | lst ds => obtain ⟨b', vs, e1, e2, e3⟩ := h2'; cases e1; exact ⟨b, vs, rfl, by rw [upd_ne hba]; exact e2, e3⟩
    | dic ds => obtain ⟨b', vs, e1, e2, e3⟩ := h2'; cases e1; exact ⟨b, vs, rfl, by rw [upd_ne hba]; exact e2, e3⟩
    | dct ds => obtain ⟨b', vs, e1, e2, e3⟩ := h2'; cases e1; exact ⟨b, vs, rfl, by rw [upd_ne hba]; exact e2, e3⟩
    | ins C ds => obtain ⟨b', dx, vs, e1, e2, e3⟩ := h2'; cases e1; exact ⟨b, dx, vs, rfl, by rw [upd_ne hba]; exact e2, e3⟩
    | _ => exact h2'.elim
  ow := fun i a hi hs => by
    obtain ⟨h1, h2, h3, h4⟩ := R.ow i a hi hs
    exact ⟨h1, h2, h3, by rw [upd_ne (show a ≠ p from fun z => hn i hi (z ▸ hs))]; exact h4⟩
  nj := R.nj
  io := R.io
  lk := fun q hq => ⟨by rw [upd_ne (show q.1 ≠ p from fun e => (R.lk q hq).2 (by rw [e]; exact hg))]; exact (R.lk q hq).1, (R.lk q hq).2⟩
/-! ## comprehensions -/
@[simp] def wipeR (r : RE) : List Nat → RE
  | [] => r
  | v :: vs => (wipeR r vs).set v none
/-- the slots vs as they stand in r0 -/
@[simp] def backR (r0 r : RE) : List Nat → RE
  | [] => r
  | v :: vs => (backR r0 r vs).set v (r0[v]?).join
theorem RR.wipe (R : RR K c I O σ H G r) : ∀ (vs : List Nat), (∀ v ∈ vs, v ∉ I ∧ v ∉ O) → RR K c I O (L2.wipe σ vs) H G (wipeR r vs)
  | [], _ => R
  | v :: vs, h => by
    have R1 := RR.wipe R vs fun x hx => h x (List.mem_cons_of_mem _ hx)
    obtain ⟨h1, h2⟩ := h v List.mem_cons_self
    refine RR.same (R1.drop (x := none) h1) fun j => ?_
    rw [mem_odel]
    exact ⟨fun z => z.1, fun z => ⟨z, fun e => h2 (e ▸ z)⟩⟩
theorem wipe_get {σ : L2.St} : ∀ {vs : List Nat} {i : Nat}, i ∉ vs → (L2.wipe σ vs)[i]? = σ[i]?
  | [], i, _ => rfl
  | v :: vs, i, h => by
    show ((L2.wipe σ vs).set v none)[i]? = _
    rw [List.getElem?_set_ne (show v ≠ i from fun e => h (by rw [e]; exact List.mem_cons_self))]
    exact wipe_get fun z => h (List.mem_cons_of_mem _ z)
theorem wipe_none {σ : L2.St} : ∀ {vs : List Nat} {i : Nat} {x : V}, i ∈ vs → (L2.wipe σ vs)[i]? ≠ some (some x)
  | v :: vs, i, x, h => by
    show ((L2.wipe σ vs).set v none)[i]? ≠ _
    by_cases e : v = i
    · subst e
      intro z
      have := get_set_self z
      cases this
    · rw [List.getElem?_set_ne e]
      exact wipe_none ((List.mem_cons.mp h).elim (fun z => absurd z.symm e) id)
theorem backR_get {r0 r : RE} : ∀ {vs : List Nat} {i : Nat} {d : D}, (backR r0 r vs)[i]? = some (some d) → (i ∈ vs ∧ r0[i]? = some (some d)) ∨ (i ∉ vs ∧ r[i]? = some (some d))
  | [], i, d, h => .inr ⟨by simp, h⟩
  | v :: vs, i, d, h => by
    have h' : ((backR r0 r vs).set v (r0[v]?).join)[i]? = some (some d) := h
    by_cases e : v = i
    · subst e
      have := get_set_self h'
      refine .inl ⟨List.mem_cons_self, ?_⟩
      cases q : r0[v]? with
      | none => rw [q] at this; cases this
      | some x => rw [q] at this; cases x with
        | none => cases this
        | some y => cases this; rfl
    · rw [List.getElem?_set_ne e] at h'
      rcases backR_get h' with ⟨h1, h2⟩ | ⟨h1, h2⟩
      · exact .inl ⟨List.mem_cons_of_mem _ h1, h2⟩
      · exact .inr ⟨fun z => (List.mem_cons.mp z).elim (fun q => e q.symm) h1, h2⟩
theorem backR_length {r0 r : RE} : ∀ {vs : List Nat}, (backR r0 r vs).length = r.length
  | [] => rfl
  | v :: vs => by show ((backR r0 r vs).set v _).length = _; rw [List.length_set]; exact backR_length
theorem wipe_len {σ : L2.St} : ∀ {vs : List Nat}, (L2.wipe σ vs).length = σ.length
  | [] => rfl
  | v :: vs => by show ((L2.wipe σ vs).set v _).length = _; rw [List.length_set]; exact wipe_len
theorem RR.unwipe {r0 : RE} {H0 G0 : Hp} (R0 : RR K c I O σ H0 G0 r0) (s : Sub G0 G) {vs : List Nat} (hv : ∀ v ∈ vs, v ∉ O) (R : RR K c I O (L2.wipe σ vs) H G r) : RR K c I O σ H G (backR r0 r vs) where
  gh := R.gh
  g0 := R.g0
  gr := R.gr
  ke := R.ke
  xk := R.xk
  len := by rw [backR_length, ← R.len, wipe_len]
  sl := fun i d e => by
    rcases backR_get e with ⟨h1, h2⟩ | ⟨h1, h2⟩
    · obtain ⟨v, a1, a2, a3⟩ := R0.sl i d h2
      exact ⟨v, a1, fun z => absurd z (hv i h1), fun z => (a3 z).mono s⟩
    · obtain ⟨v, a1, a2, a3⟩ := R.sl i d h2
      rw [wipe_get h1] at a1
      exact ⟨v, a1, a2, a3⟩
  ow := fun i a hi hs => R.ow i a hi (by rw [wipe_get (fun z => hv i z hi)]; exact hs)
  nj := fun i j a hi hj h1 h2 => R.nj i j a hi hj (by rw [wipe_get (fun z => hv i z hi)]; exact h1) (by rw [wipe_get (fun z => hv j z hj)]; exact h2)
  io := R.io
  lk := R.lk
def mCompL (vs : List Nat) (st : D → RE → Option RE) (mt : RE → Out (Bool × RE)) (me : RE → Out (D × RE)) : List D → RE → List D → Out (List D × RE)
  | [], r, acc => .ok (acc, r)
  | x :: xs, r, acc => match st x r with
    | none => .stuck
    | some r1 => (mt r1).bnd fun p => if p.1 = true then (me p.2).bnd fun q => if acc.length < 1000000 then mCompL vs st mt me xs (wipeR q.2 vs) (acc ++ [q.1]) else .stuck
      else mCompL vs st mt me xs (wipeR p.2 vs) acc
@[simp] def mComp (vs : List Nat) (mi : RE → Out (List D × RE)) (st : D → RE → Option RE) (mt : RE → Out (Bool × RE)) (me : RE → Out (D × RE)) : RE → Out (D × RE) := fun r => (mi r).bnd fun p => (mCompL vs st mt me p.1 (wipeR p.2 vs) []).bnd fun q => .ok (.lst q.1, backR p.2 q.2 vs)
/-- a target sets its slots alone -/
def GV (g : TG) (vs : List Nat) : Prop := ∀ (v : V) (σ : L2.St) (H : Hp) (Q Q' : L2.St → Hp → Prop), (∀ σ' H', Q σ' H' → L2.wipe σ' vs = L2.wipe σ vs → Q' σ' H') → g v σ H Q → g v σ H Q'
theorem gv_name {i : Nat} : GV (gName i) [i] := fun v σ H Q Q' h k => h _ _ k (by show (σ.set i (some v)).set i none = σ.set i none; rw [List.set_set])
theorem sndf_comp {wi : TI} {g : TG} {tt : TT} {te : TE} {vs : List Nat} {mi : RE → Out (List D × RE)} {st : D → RE → Option RE} {mt : RE → Out (Bool × RE)} {me : RE → Out (D × RE)}
    (hv : ∀ v ∈ vs, v ∉ O) (hI : ∀ i ∈ C.I, i ∈ O) (hgv : GV g vs) (hi : SndI K C O wi mi) (hg : GS K ⟨O, C.E, C.fr⟩ O g st) (ht : SndT K ⟨O, C.E, C.fr⟩ O tt mt) (he : Snd K ⟨O, C.E, C.fr⟩ O te me) : SndF K C O (tLc wi g tt te vs) (mComp vs mi st mt me) := fun c σ H G r Q R w => by
  refine hi c σ H G r _ R ((Wp.bnd w).mono (fun p q J H1 G1 Gp Y R1 s1 wk hG hY => ?_) fun _ x => x)
  obtain ⟨ds, r1⟩ := p
  intro Dn hDn
  have hvI : ∀ v ∈ vs, v ∉ C.I ∧ v ∉ O := fun v h => ⟨fun z => hv v h (hI v z), hv v h⟩
  have heD : c.He Dn = none := RR.heNone R1 hDn
  have hxD : Dn ∉ c.ex := fun z => R1.xk Dn z hDn
  have hoD : ∀ i : Nat, i ∈ O → σ[i]? ≠ some (some (.ref Dn)) := fun i hi hs => (R1.ow i Dn hi hs).2.2.2 hDn
  have wO : ∀ i ∈ O, (L2.wipe σ vs)[i]? = σ[i]? := fun i hi => wipe_get fun z => hv i z hi
  refine lc_it wk (fun i H2 => ∃ G2 r2 acc av, RR K c C.I O (L2.wipe σ vs) H2 G2 r2 ∧ Sub G1 G2 ∧ H2 Dn = some (.lst av) ∧ G2 Dn = none ∧ RepL K G2 acc av ∧
    Wp (mCompL vs st mt me (ds.drop i) r2 acc) (fun q => ∀ a H' G', RR K c C.I O σ H' G' (backR r1 q.2 vs) → Sub G G' → Fresh K c O σ H' G' (.lst q.1) a → Q (.ref a) H') (XP K c C.E)) ?_ ?_ ?_ ?_
  · refine ⟨G1, wipeR r1 vs, [], [], RR.other (R1.wipe vs hvI) (R1.gh.no hDn) heD hxD (fun i hi => by rw [wO i hi]; exact hoD i hi), Sub.refl G1, upd_same, R1.gh.no hDn, by simp only [RepL], ?_⟩
    rw [List.drop_zero]
    exact (Wp.bnd q).mono (fun q2 h2 => h2) fun _ x => x
  · rintro i H2 hin ⟨G2, r2, acc, av, R2, s2, _⟩
    exact hG O _ H2 G2 r2 R2 s2
  · rintro i x H2 H3 hlt ⟨G2, r2, acc, av, R2, s2, hD, hGD, hacc, q2⟩ y
    obtain ⟨G3, d, x3, e3, h3⟩ := hY i H2 G2 x H3 R2.gh s2 hlt y
    have R3 := R2.ext x3
    have hD3 : H3 Dn = some (.lst av) := x3.keep _ _ hD
    have hGD3 : G3 Dn = none := by
      cases q : G3 Dn with
      | none => rfl
      | some u =>
        rcases x3.new Dn u q with z | z
        · exact absurd hGD z
        · rw [hD] at z; cases z
    have ed : ds.drop i = d :: ds.drop (i + 1) := by
      obtain ⟨hi', he⟩ := List.getElem?_eq_some_iff.mp e3
      rw [← he]
      exact List.drop_eq_getElem_cons hi'
    rw [ed] at q2
    simp only [mCompL] at q2
    cases e4 : st d r2 with
    | none => simp only [e4] at q2; exact q2.elim
    | some r3 =>
      simp only [e4] at q2
      have RE3 := R3.enter
      refine hgv x (L2.wipe σ vs) H3 (fun σ2 H' => H' = H3 ∧ RR K (nest c H3 G3 (exO O (L2.wipe σ vs))) O O σ2 H3 G3 r3) _ (fun σ2 H' ⟨eH, R4⟩ eσ => ?_) (hg _ x d _ H3 G3 r2 r3 _ RE3 h3 e4 fun σ2 R4 => ⟨rfl, R4⟩)
      subst eH
      have eσ' : L2.wipe σ2 vs = L2.wipe σ vs := eσ.trans (by
        have : ∀ (us : List Nat) (τ : L2.St), L2.wipe (L2.wipe τ us) us = L2.wipe τ us := by
          intro us τ
          refine List.ext_getElem? fun j => ?_
          by_cases hj : j ∈ us
          · by_cases hl : j < τ.length
            · have h1 : ∀ τ' : L2.St, τ'.length = τ.length → (L2.wipe τ' us)[j]? = some none := fun τ' hl' => by
                have hlt : j < (L2.wipe τ' us).length := by rw [wipe_len, hl']; exact hl
                cases e : (L2.wipe τ' us)[j]? with
                | none => rw [List.getElem?_eq_none_iff] at e; omega
                | some z => cases z with
                  | none => rfl
                  | some w => exact absurd e (wipe_none hj)
              rw [h1 _ wipe_len, h1 _ rfl]
            · rw [List.getElem?_eq_none (by rw [wipe_len, wipe_len]; omega), List.getElem?_eq_none (by rw [wipe_len]; omega)]
          · rw [wipe_get hj]
        exact this vs σ)
      refine ⟨eσ', ?_⟩
      have sO : ∀ i ∈ O, σ2[i]? = (L2.wipe σ vs)[i]? := fun i hi => by
        rw [← eσ', wipe_get (fun z => hv i z hi)]
      refine ht _ σ2 H' G3 r3 _ R4 ((Wp.bnd q2).mono (fun p2 q3 H4 G4 R5 s4 => ?_) fun x hx => XP.nest R3 hx)
      have nD : Dn ∉ exO O (L2.wipe σ vs) := fun z => by
        obtain ⟨i, hi, hs⟩ := mem_exO.mp z
        rw [wO i hi] at hs
        exact hoD i hi hs
      have wipeBack : ∀ {H5 G5 : Hp} {r5 : RE}, RR K (nest c H' G3 (exO O (L2.wipe σ vs))) O O σ2 H5 G5 r5 → RR K c C.I O (L2.wipe σ vs) H5 G5 (wipeR r5 vs) ∧ H5 Dn = some (.lst av) ∧ G5 Dn = none := fun {H5 G5 r5} R6 => by
        have R7 := RR.leave R3 R6 sO
        have R8 := R7.wipe vs hvI
        rw [eσ'] at R8
        obtain ⟨_, k3, _⟩ := R6.ke Dn _ hD3 nD
        refine ⟨R8, k3 hGD3, ?_⟩
        cases q : G5 Dn with
        | none => rfl
        | some u =>
          rcases R6.gr Dn u q with z | z
          · exact absurd hGD3 z
          · have z' : H' Dn = none := z
            rw [hD3] at z'; cases z'
      by_cases hb : p2.1 = true
      · rw [if_pos hb] at q3 ⊢
        refine he _ σ2 H4 G4 p2.2 _ R5 ((Wp.bnd q3).mono (fun p3 q4 v H5 G5 R6 s5 h5 => ?_) fun x hx => XP.nest R3 hx)
        obtain ⟨R8, hD5, hG5⟩ := wipeBack R6
        by_cases hz : acc.length < 1000000
        · rw [if_pos hz] at q4
          refine ⟨av, hD5, lim_lt (by rw [← repL_len hacc]; exact hz), G5, wipeR p3.2 vs, acc ++ [p3.1], av ++ [v], ?_, ((s2.trans x3.sub).trans s4).trans s5, upd_same, hG5, repL_app (hacc.mono ((x3.sub.trans s4).trans s5)) (repL_one h5), q4⟩
          exact RR.other R8 hG5 heD hxD (fun i hi => by rw [wO i hi]; exact hoD i hi)
        · rw [if_neg hz] at q4; exact q4.elim
      · rw [if_neg hb] at q3 ⊢
        obtain ⟨R8, hD5, hG5⟩ := wipeBack R5
        exact ⟨G4, wipeR p2.2 vs, acc, av, R8, (s2.trans x3.sub).trans s4, hD5, hG5, hacc.mono (x3.sub.trans s4), q3⟩
  · rintro H2 ⟨G2, r2, acc, av, R2, s2, hD, hGD, hacc, q2⟩
    rw [List.drop_length] at q2
    exact q2 Dn H2 G2 (RR.unwipe R1 s2 hv R2) (s1.trans s2) ⟨hGD, heD, hoD, ⟨Dn, av, rfl, hD, hacc⟩⟩
end
end Mir

set_option maxHeartbeats 4000000
namespace Mir
open PySem PySem.Spec PyProof.Rows L2

section
variable {K : PySem.W.Frag} {C : Cf} {c : Fm} {I O O' O1 O2 Ol Oq : List Nat} {σ σ' : L2.St} {H G H' G' : Hp} {r r' : RE}
/-! ## methods that change an own thing -/
@[simp] def tyD : D → Option String
  | .lst _ => some "list"
  | .dic _ => some "dict"
  | .dct _ => some "dict"
  | _ => none
theorem tyD_ok {d : D} {v : V} {T : String} (e : tyD d = some T) (h : Own K H G d v) : tyV K T v H := by
  cases d <;> simp only [tyD, reduceCtorEq, Option.some.injEq] at e <;> subst e
  · obtain ⟨a, vs, ea, ha, _⟩ := h; subst ea; exact .inl ⟨rfl, vs, SqL.of ha⟩
  · obtain ⟨a, vs, ea, ha, _⟩ := h; subst ea; exact .inr (.inr (.inl ⟨rfl, .inl ⟨_, ha⟩⟩))
  · obtain ⟨a, vs, ea, ha, _⟩ := h; subst ea; exact .inr (.inr (.inl ⟨rfl, .inr ⟨_, ha⟩⟩))
def MutS (K : PySem.W.Frag) (rr : V → List V → Hp → VK → Prop) (f : D → List D → Out (D × D)) : Prop := ∀ (a : Addr) (H G : Hp) (d res d' : D) (ds : List D) (vs : List V) (Q : VK), Sub G H → G a = none → Own K H G d (.ref a) → RepL K G ds vs → f d ds = .ok (res, d') →
  (∀ o v, Own K (upd H a o) G d' (.ref a) → RepD K G res v → Q v (upd H a o)) → rr (.ref a) vs H Q
@[simp] def mMut (i : Nat) (T : String) (f : D → List D → Out (D × D)) (ms : RE → Out (List Opd × RE)) : RE → Out (D × RE) := fun r => match r[i]? with
  | some (some d0) => if tyD d0 = some T then (ms r).bnd fun p => match p.2[i]?, valsO p.1 with
      | some (some d), some ds => (f d ds).bnd fun x => .ok (x.1, p.2.set i (some x.2))
      | _, _ => .stuck
    else .stuck
  | _ => .stuck
def NoXM (f : D → List D → Out (D × D)) : Prop := ∀ a b x, f a b ≠ .exc x
theorem snd_mut {rr : V → List V → Hp → VK → Prop} {f : D → List D → Out (D × D)} {ta : TA} {ms : RE → Out (List Opd × RE)} {i : Nat} {T : String} (hi : i ∈ O) (hm : MutS K rr f) (nx : NoXM f) (h : SndA K C O ta ms) : Snd K C O (tBM K T rr (tVar i) ta) (mMut i T f ms) := fun c σ H G r Q R w => by
  unfold mMut at w
  split at w
  · rename_i d0 e0
    split at w
    · rename_i hT
      obtain ⟨v, hv, ho, _⟩ := R.sl i d0 e0
      refine ⟨v, hv, tyD_ok hT (ho hi), ?_⟩
      refine h c σ H G r _ R ((Wp.bnd w).mono (fun p q vs H1 G1 R1 s1 h1 => ?_) fun _ x => x)
      split at q
      · rename_i d ds e1 e2
        obtain ⟨v', hv', ho', _⟩ := R1.sl i d e1
        rw [hv] at hv'; cases hv'
        obtain ⟨a, u, ea, hu⟩ := (ho' hi).ref
        subst ea
        cases e : f d ds with
        | ok x =>
          rw [e] at q
          obtain ⟨res, d'⟩ := x
          refine hm a H1 G1 d res d' ds vs Q R1.gh (R1.ow i a hi hv).1 (ho' hi) (h1.vals e2) e fun o v own rep => ?_
          exact q v _ G1 (R1.mut hi hv own) s1 rep
        | exc x => exact absurd e (nx _ _ _)
        | stuck => rw [e] at q; exact q.elim
      · exact q.elim
    · exact w.elim
  · exact w.elim
theorem snd_mut0 {rr : V → List V → Hp → VK → Prop} {f : D → List D → Out (D × D)} {i : Nat} {T : String} (hi : i ∈ O) (hm : MutS K rr f) (nx : NoXM f) : Snd K C O (tBM0 K T rr (tVar i)) (mMut i T f mNil) := fun c σ H G r Q R w => by
  have := snd_mut (T := T) hi hm nx (snd_nil (K := K) (C := C) (O := O)) c σ H G r Q R w
  exact this
@[simp] def fAppend : D → List D → Out (D × D)
  | .lst xs, [d] => if xs.length < 1000000 then .ok (.non, .lst (xs ++ [d])) else .stuck
  | _, _ => .stuck
theorem mut_append : MutS K rAppend fAppend := fun a H G d res d' ds vs Q s ga ho hl e k => by
  cases d <;> simp only [fAppend, reduceCtorEq] at e
  match ds, hl, e with
  | [x], hl, e =>
    simp only at e
    split at e
    · rename_i hz
      cases e
      obtain ⟨a', us, ea, ha, la⟩ := ho
      cases ea
      simp only [RepL] at hl
      obtain ⟨v, _, rfl, hv, rfl⟩ := hl
      refine ⟨a, us, v, rfl, rfl, ha, lim_lt (by rw [← repL_len la]; exact hz), k _ .non ⟨a, _, rfl, upd_same, repL_app la (repL_one hv)⟩ repD_non⟩
    · cases e
theorem nx_append : NoXM fAppend := fun a b x h => by
  unfold fAppend at h
  split at h
  · split at h <;> cases h
  · cases h
@[simp] def fPop : D → List D → Out (D × D)
  | .lst xs, [] => match xs.getLast? with
    | some d => .ok (d, .lst xs.dropLast)
    | none => .stuck
  | _, _ => .stuck
theorem repL_dropLast : ∀ {ds : List D} {vs : List V}, RepL K G ds vs → RepL K G ds.dropLast vs.dropLast
  | [], vs, h => by simp only [RepL] at h; subst h; simp only [List.dropLast_nil, RepL]
  | [d], vs, h => by
    simp only [RepL] at h
    obtain ⟨v, us, e, q, t⟩ := h
    subst e; subst t
    show RepL K G [] []
    simp only [RepL]
  | d :: d2 :: ds, vs, h => by
    simp only [RepL] at h
    obtain ⟨v, us, e, q, v2, us2, e2, q2, t⟩ := h
    subst e; subst e2
    show RepL K G (d :: (d2 :: ds).dropLast) (v :: (v2 :: us2).dropLast)
    have := repL_dropLast (ds := d2 :: ds) (vs := v2 :: us2) (by simp only [RepL]; exact ⟨v2, us2, rfl, q2, t⟩)
    simp only [RepL]
    exact ⟨v, _, rfl, q, this⟩
theorem mut_pop : MutS K rPop fPop := fun a H G d res d' ds vs Q s ga ho hl e k => by
  cases d <;> simp only [fPop, reduceCtorEq] at e
  match ds, hl, e with
  | [], hl, e =>
    simp only at e
    split at e
    · rename_i x hx
      cases e
      obtain ⟨a', us, ea, ha, la⟩ := ho
      cases ea
      simp only [RepL] at hl
      subst hl
      rename_i xs
      rw [List.getLast?_eq_getElem?] at hx
      obtain ⟨v, hv, hd⟩ := repL_get2 la hx
      rw [repL_len la] at hv
      exact ⟨a, us, v, rfl, rfl, ha, hv, k _ v ⟨a, _, rfl, upd_same, repL_dropLast la⟩ hd⟩
    · cases e
theorem nx_pop : NoXM fPop := fun a b x h => by
  unfold fPop at h
  split at h
  · split at h <;> cases h
  · cases h

/-! ## displays -/
@[simp] def mLst (ms : RE → Out (List Opd × RE)) : RE → Out (D × RE) := fun r => (ms r).bnd fun p => match valsO p.1 with
  | some ds => if ds.length ≤ 1000000 then .ok (.lst ds, p.2) else .stuck
  | none => .stuck
@[simp] def mTup (ms : RE → Out (List Opd × RE)) : RE → Out (D × RE) := fun r => (ms r).bnd fun p => match valsO p.1 with
  | some ds => if ds.length ≤ 1000000 then .ok (.tup ds, p.2) else .stuck
  | none => .stuck
theorem sndf_lst {ta : TA} {ms : RE → Out (List Opd × RE)} (h : SndA K C O ta ms) : SndF K C O (tLst ta) (mLst ms) := fun c σ H G r Q R w => by
  refine h c σ H G r _ R ((Wp.bnd w).mono (fun p q vs H1 G1 R1 s1 h1 => ?_) fun _ x => x)
  cases e : valsO p.1 with
  | none => simp only [e] at q; exact q.elim
  | some ds =>
    simp only [e] at q
    split at q
    · rename_i hz
      have rl := h1.vals e
      refine ⟨lim_le (by rw [← repL_len rl]; exact hz), fun a ha => ?_⟩
      obtain ⟨R2, f2⟩ := fresh_of (o := .lst vs) (d := .lst ds) R1 ha ⟨a, vs, rfl, upd_same, rl⟩
      exact q a _ G1 R2 s1 f2
    · exact q.elim
theorem snd_tup {ta : TA} {ms : RE → Out (List Opd × RE)} (h : SndA K C O ta ms) : Snd K C O (tTup ta) (mTup ms) := fun c σ H G r Q R w => by
  refine h c σ H G r _ R ((Wp.bnd w).mono (fun p q vs H1 G1 R1 s1 h1 => ?_) fun _ x => x)
  cases e : valsO p.1 with
  | none => simp only [e] at q; exact q.elim
  | some ds =>
    simp only [e] at q
    split at q
    · rename_i hz
      have rl := h1.vals e
      refine ⟨lim_le (by rw [← repL_len rl]; exact hz), fun a ha => ?_⟩
      have x := Ext.alloc (o := .tup vs) R1.gh ha
      refine q (.ref a) _ _ (R1.ext x) (s1.trans x.sub) ?_
      simp only [RepD]
      exact ⟨a, vs, rfl, upd_same, rl.mono x.sub⟩
    · exact q.elim
/-! ## slices -/
@[simp] def mNoP : RE → Out (Option Int × RE) := fun r => .ok (none, r)
@[simp] def mPart (m : RE → Out (D × RE)) : RE → Out (Option Int × RE) := fun r => (m r).bnd fun p => match p.1 with
  | .int i => .ok (some i, p.2)
  | _ => .stuck
def SndP (K : PySem.W.Frag) (C : Cf) (O : List Nat) (tp : TO) (m : RE → Out (Option Int × RE)) : Prop := ∀ (c : Fm) (σ : L2.St) (H G : Hp) (r : RE) (Q : Option Int → Hp → Prop), RR K c C.I O σ H G r →
  Wp (m r) (fun p => ∀ H' G', RR K c C.I O σ H' G' p.2 → Sub G G' → Q p.1 H') (XP K c C.E) → tp σ H Q
theorem sndp_none : SndP K C O tNoPart mNoP := fun c σ H G r Q R w => w H G R (Sub.refl G)
theorem sndp_some {te : TE} {m : RE → Out (D × RE)} (h : Snd K C O te m) : SndP K C O (tPart te) (mPart m) := fun c σ H G r Q R w => by
  refine h c σ H G r _ R ((Wp.bnd w).mono (fun p q v H1 G1 R1 s1 h1 => ?_) fun _ x => x)
  obtain ⟨d, r'⟩ := p
  cases d <;> simp only at q <;> try exact q.elim
  simp only [RepD] at h1
  exact ⟨_, h1, q H1 G1 R1 s1⟩
def cutD (xs : List D) (lo hi : Option Int) : List D := (xs.drop (HT.sIx xs.length 0 lo)).take (HT.sIx xs.length xs.length hi - HT.sIx xs.length 0 lo)
theorem repL_drop : ∀ {ds : List D} {vs : List V} (n : Nat), RepL K G ds vs → RepL K G (ds.drop n) (vs.drop n)
  | _, _, 0, h => h
  | [], vs, n + 1, h => by simp only [RepL] at h; subst h; simp only [List.drop_nil, RepL]
  | d :: ds, vs, n + 1, h => by
    simp only [RepL] at h
    obtain ⟨v, us, e, _, t⟩ := h
    subst e
    exact repL_drop n t
theorem repL_take : ∀ {ds : List D} {vs : List V} (n : Nat), RepL K G ds vs → RepL K G (ds.take n) (vs.take n)
  | _, _, 0, h => by simp only [List.take_zero, RepL]
  | [], vs, n + 1, h => by simp only [RepL] at h; subst h; simp only [List.take_nil, RepL]
  | d :: ds, vs, n + 1, h => by
    simp only [RepL] at h
    obtain ⟨v, us, e, q, t⟩ := h
    subst e
    show RepL K G (d :: ds.take n) (v :: us.take n)
    simp only [RepL]
    exact ⟨v, _, rfl, q, repL_take n t⟩
theorem repL_cut {ds : List D} {vs : List V} (lo hi : Option Int) (h : RepL K G ds vs) : RepL K G (cutD ds lo hi) (cutV vs lo hi) := by
  unfold cutD cutV
  rw [repL_len h]
  exact repL_take _ (repL_drop _ h)
@[simp] def dCut : D → Option Int → Option Int → Out D
  | .lst xs, lo, hi => .ok (.lst (cutD xs lo hi))
  | .frl xs, lo, hi => .ok (.lst (cutD xs lo hi))
  | _, _, _ => .stuck
@[simp] def dCutS : D → Option Int → Option Int → Out D
  | .str z, lo, hi => if z.length ≤ 1000000 then .ok (.str (cutS z lo hi)) else .stuck
  | .tup xs, lo, hi => if HT.sIx xs.length 0 lo = 0 ∧ HT.sIx xs.length xs.length hi = xs.length then .stuck else .ok (.tup (cutD xs lo hi))
  | _, _, _ => .stuck
@[simp] def mCut (f : D → Option Int → Option Int → Out D) (m : RE → Out (Opd × RE)) (ml mh : RE → Out (Option Int × RE)) : RE → Out (D × RE) := fun r => (m r).bnd fun p => (ml p.2).bnd fun l => (mh l.2).bnd fun h => match deref h.2 p.1 with
  | some d => (f d l.1 h.1).bnd fun x => .ok (x, h.2)
  | none => .stuck
theorem sndf_cut {te : TE} {tl th : TO} {m : RE → Out (Opd × RE)} {ml mh : RE → Out (Option Int × RE)} (h : SndO K C O te m) (hl : SndP K C O tl ml) (hh : SndP K C O th mh) : SndF K C O (tSl (rSlL K) te tl th) (mCut dCut m ml mh) := fun c σ H G r Q R w => by
  refine h c σ H G r _ R ((Wp.bnd w).mono (fun p q v H1 G1 R1 s1 h1 => ?_) fun _ x => x)
  refine hl c σ H1 G1 p.2 _ R1 ((Wp.bnd q).mono (fun l q H2 G2 R2 s2 => ?_) fun _ x => x)
  refine hh c σ H2 G2 l.2 _ R2 ((Wp.bnd q).mono (fun u q H3 G3 R3 s3 => ?_) fun _ x => x)
  cases e : deref u.2 p.1 with
  | none => simp only [e] at q; exact q.elim
  | some d =>
    simp only [e] at q
    have ht := (h1.mono (s2.trans s3)).at R3 e
    have s : Sub G G3 := (s1.trans s2).trans s3
    have fin : ∀ (a : Addr) (xs : List D) (vs : List V), RepL K G3 xs vs → Wp (Out.ok (D.lst (cutD xs l.1 u.1), u.2)) (fun p => ∀ a H' G', RR K c C.I O σ H' G' p.2 → Sub G G' → Fresh K c O σ H' G' p.1 a → Q (.ref a) H') (XP K c C.E) → H3 a = none → Q (.ref a) (upd H3 a (.lst (cutV vs l.1 u.1))) := fun a xs vs rl q ha => by
      obtain ⟨R4, f4⟩ := fresh_of (o := .lst (cutV vs l.1 u.1)) (d := .lst (cutD xs l.1 u.1)) R3 ha ⟨a, _, rfl, upd_same, repL_cut _ _ rl⟩
      exact q a _ G3 R4 s f4
    cases d <;> simp only [dCut, bnd_ok, bnd_stuck] at q <;> try exact q.elim
    · obtain ⟨a, vs, ea, ha, rl⟩ := ht
      exact ⟨a, vs, ea, SqL.of ha, fun b hb => fin b _ _ rl q hb⟩
    · obtain ⟨a, vs, ea, ha, rl⟩ := ht
      exact ⟨a, vs, ea, ha, fun b hb => fin b _ _ rl q hb⟩
abbrev rSlA (K : PySem.W.Frag) : V → Option Int → Option Int → Hp → VK → Prop := fun x lo hi H Q => rSlS x lo hi H Q ∨ rSlT K x lo hi H Q
theorem SlR.or {X : Cx} {r r' : V → Option Int → Option Int → Hp → VK → Prop} (h : SlR X r) (h' : SlR X r') : SlR X (fun x lo hi H Q => r x lo hi H Q ∨ r' x lo hi H Q) := fun pins s σ H x v vl vu lo hi sl Q I rx hs pl pu hq => by
  rcases hq with q | q
  · exact h pins s σ H x v vl vu lo hi sl Q I rx hs pl pu q
  · exact h' pins s σ H x v vl vu lo hi sl Q I rx hs pl pu q
theorem snd_cutS {te : TE} {tl th : TO} {m : RE → Out (Opd × RE)} {ml mh : RE → Out (Option Int × RE)} (h : SndO K C O te m) (hl : SndP K C O tl ml) (hh : SndP K C O th mh) : Snd K C O (tSl (rSlA K) te tl th) (mCut dCutS m ml mh) := fun c σ H G r Q R w => by
  refine h c σ H G r _ R ((Wp.bnd w).mono (fun p q v H1 G1 R1 s1 h1 => ?_) fun _ x => x)
  refine hl c σ H1 G1 p.2 _ R1 ((Wp.bnd q).mono (fun l q H2 G2 R2 s2 => ?_) fun _ x => x)
  refine hh c σ H2 G2 l.2 _ R2 ((Wp.bnd q).mono (fun u q H3 G3 R3 s3 => ?_) fun _ x => x)
  cases e : deref u.2 p.1 with
  | none => simp only [e] at q; exact q.elim
  | some d =>
    simp only [e] at q
    have ht := (h1.mono (s2.trans s3)).at R3 e
    have s : Sub G G3 := (s1.trans s2).trans s3
    cases d <;> simp only [dCutS, bnd_stuck] at q <;> try exact q.elim
    · split at q
      · rename_i hz
        exact .inl ⟨_, repT_str ht, lim_le hz, q _ H3 G3 R3 s repD_str⟩
      · exact q.elim
    · obtain ⟨a, vs, ea, ha, rl⟩ := ht
      split at q
      · exact q.elim
      · rename_i hz
        rw [repL_len rl] at hz
        refine .inr ⟨a, vs, ea, SqT.of ha, hz, fun b hb => ?_⟩
        have x := Ext.alloc (o := .tup (cutV vs l.1 u.1)) R3.gh hb
        refine q (.ref b) _ _ (R3.ext x) (s.trans x.sub) ?_
        simp only [RepD]
        exact ⟨b, _, rfl, upd_same, (repL_cut _ _ rl).mono x.sub⟩
/-! ## join -/
@[simp] def strsD : List D → Option (List Str)
  | [] => some []
  | .str x :: ds => (strsD ds).map (x :: ·)
  | _ :: _ => none
theorem strsD_rep : ∀ {ds : List D} {ys : List Str} {vs : List V}, strsD ds = some ys → RepL K G ds vs → vs = ys.map V.str
  | [], _, _, e, h => by cases e; simp only [RepL] at h; subst h; rfl
  | d :: ds, ys, vs, e, h => by
    cases d <;> simp only [strsD, reduceCtorEq] at e
    cases q : strsD ds with
    | none => rw [q] at e; cases e
    | some zs =>
      rw [q] at e; cases e
      simp only [RepL, RepD] at h
      obtain ⟨v, us, ev, hv, t⟩ := h
      rw [ev, hv, strsD_rep q t]
      rfl
@[simp] def dJoin (a : Str) : D → Out D
  | .lst ds => match strsD ds with
    | some ys => if (ys.map (·.length)).sum + ys.length * a.length ≤ 1000000 then .ok (.str (Str.join a ys)) else .stuck
    | none => .stuck
  | _ => .stuck
theorem nx_join {a : Str} : NoX1 (dJoin a) := fun b x h => by
  cases b <;> simp only [dJoin, reduceCtorEq] at h
  split at h
  · split at h <;> cases h
  · cases h
theorem snd_join {a : Str} {te : TE} {mb : RE → Out (Opd × RE)} (hb : SndO K C O te mb) : Snd K C O (tM1 (fun x xs H Q => ∃ a p, ∃ ys : List Str, x = .str a ∧ xs = [.ref p] ∧ (SqL K H p (ys.map V.str) ∨ SqT K H p (ys.map V.str)) ∧
      (ys.map (·.length)).sum + ys.length * a.length ≤ 16777216 ∧ Q (.str (Txt.join a ys)) H) (tC (.str a)) te) (mOp1 (dJoin a) mb) := fun c σ H G r Q R w => by
  refine ⟨⟨a, rfl⟩, ?_⟩
  refine hb c σ H G r _ R ((Wp.bnd w).mono (fun p2 q2 v2 H2 G2 R2 s2 h2 => ?_) fun _ x => x)
  cases e2 : deref p2.2 p2.1 with
  | none => simp only [e2] at q2; exact q2.elim
  | some dy =>
    simp only [e2] at q2
    obtain ⟨d, hd, q3⟩ := wp_f1 nx_join q2
    have ht := h2.at R2 e2
    cases dy <;> simp only [dJoin, reduceCtorEq] at hd
    split at hd
    · rename_i ys hy
      split at hd
      · rename_i hz
        cases hd
        obtain ⟨b, vs, eb, hb', rl⟩ := ht
        have hv := strsD_rep hy rl
        subst hv
        exact ⟨a, b, ys, rfl, by rw [eb], .inl (SqL.of hb'), Nat.le_trans hz (by decide), by rw [TL.join_eq]; exact q3 _ H2 G2 R2 s2 repD_str⟩
      · cases hd
    · cases hd
end
end Mir

set_option maxHeartbeats 4000000
namespace Mir
open PySem PySem.Spec PyProof.Rows L2
/-! ## the rules, by syntax -/
section
variable {X : Cx} {C : Cf} {O O' O1 O2 Ol Oq : List Nat} {a b c e : PySem.Expr} {es : List PySem.Expr} {pos p : Pos} {x : Str}
variable {ma mb m : RE → Out (D × RE)} {oa ob oc : RE → Out (Opd × RE)} {mt mu : RE → Out (Bool × RE)} {as_ : RE → Out (List Opd × RE)} {ms mz : RE → Out Fl}
/-! names and constants -/
theorem em_var (i : Nat) (hO : i ∉ O := by decide) (hN : X.N[i]? = some x := by rfl) (hv : Vis X.env.scope x := by first | exact Or.inl rfl | exact Or.inr (Or.inl rfl) | exact Or.inr (Or.inr rfl)) (hd : (x == ("__debug__" : Str)) = false := by decide)
    (hcd : (x == ("__classdict__" : Str)) = false := by decide) : EM X C O (.Name x pos) (mVar i) := ⟨_, pe_var hN hv hd hcd, snd_var hO⟩
theorem om_slot (i : Nat) (hO : i ∈ O := by decide) (hN : X.N[i]? = some x := by rfl) (hv : Vis X.env.scope x := by first | exact Or.inl rfl | exact Or.inr (Or.inl rfl) | exact Or.inr (Or.inr rfl)) (hd : (x == ("__debug__" : Str)) = false := by decide)
    (hcd : (x == ("__classdict__" : Str)) = false := by decide) : OM X C O (.Name x pos) (mSlot i) := ⟨_, pe_var hN hv hd hcd, snd_slot hO⟩
theorem om (h : EM X C O e m) : OM X C O e (mVal m) := let ⟨_, h1, h2⟩ := h; ⟨_, h1, snd_val h2⟩
theorem ef (h : FM X C O e m) : EM X C O e m := let ⟨_, h1, h2⟩ := h; ⟨_, h1, snd_of_f h2⟩
theorem of_ (h : FM X C O e m) : OM X C O e (mVal m) := om (ef h)
theorem em_int {i : Int} {j : Nat} : EM X C O (.Constant (.int i) j pos) (mC (.int i)) := ⟨_, pe_int, snd_c fun _ => repD_int⟩
theorem em_bl {i : Bool} {j : Nat} : EM X C O (.Constant (.bool i) j pos) (mC (.bl i)) := ⟨_, pe_bl, snd_c fun _ => repD_bl⟩
theorem em_non {j : Nat} : EM X C O (.Constant .none j pos) (mC .non) := ⟨_, pe_non, snd_c fun _ => repD_non⟩
theorem em_str {i : Str} {j : Nat} : EM X C O (.Constant (.str i) j pos) (mC (.str i)) := ⟨_, pe_str, snd_c fun _ => repD_str⟩
theorem em_gint {i : Int} (hm : ∃ t, X.mg x = some (.int i t)) (hg : Gl X x := by rfl) (hd : (x == ("__debug__" : Str)) = false := by decide) : EM X C O (.Name x pos) (mC (.int i)) := let ⟨_, hm⟩ := hm; ⟨_, pe_glob (v := .int i) hg hm ⟨_, rfl⟩ hd, snd_c fun _ => repD_int⟩
theorem em_gstr {i : Str} (hm : ∃ t, X.mg x = some (.str i t)) (hg : Gl X x := by rfl) (hd : (x == ("__debug__" : Str)) = false := by decide) : EM X C O (.Name x pos) (mC (.str i)) := let ⟨_, hm⟩ := hm; ⟨_, pe_glob (v := .str i) hg hm ⟨_, rfl⟩ hd, snd_c fun _ => repD_str⟩
/-- a built-in class as a value -/
theorem em_ty {n : String} (hm : X.mg x = none) (hv : bootBuiltins x = some (.type n)) (hg : Gl X x := by rfl) (hn : x ≠ "__name__" := by decide) (hd : (x == ("__debug__" : Str)) = false := by decide) : EM X C O (.Name x pos) (mC (.ty n)) :=
  ⟨_, pe_bltn (v := .ty n) hg hm hv rfl hn hd, snd_c fun _ => by simp only [RepD]⟩
/-! operators -/
theorem em_op {op : Operator} {rr : R2} {f : D → D → Out D} (hr : OpR X (binaryOp op) rr) (hs : OpS X.K rr f) (nx : NoX2 f) (ha : OM X C O a oa) (hb : OM X C O b ob) : EM X C O (.BinOp a op b pos) (mOp2 f oa ob) :=
  let ⟨_, h1, h2⟩ := ha; let ⟨_, h3, h4⟩ := hb; ⟨_, pe_op hr h1 h3, snd_op2 hs nx h2 h4⟩
theorem em_add (ha : OM X C O a oa) (hb : OM X C O b ob) : EM X C O (.BinOp a .Add b pos) (mOp2 dAdd oa ob) := em_op (OpR.or op_add (OpR.or op_add_str (OpR.or op_cat op_catT))) ops_add nx_add ha hb
theorem em_sub (ha : OM X C O a oa) (hb : OM X C O b ob) : EM X C O (.BinOp a .Sub b pos) (mOp2 dSub oa ob) := em_op op_sub ops_sub nx_sub ha hb
theorem em_mul (ha : OM X C O a oa) (hb : OM X C O b ob) : EM X C O (.BinOp a .Mult b pos) (mOp2 dMul oa ob) := em_op (OpR.or op_mul op_rep) ops_mul nx_mul ha hb
theorem em_mod (ha : OM X C O a oa) (hb : OM X C O b ob) : EM X C O (.BinOp a .Mod b pos) (mOp2 dMod oa ob) := em_op op_mod ops_mod nx_mod ha hb
theorem em_div (ha : OM X C O a oa) (hb : OM X C O b ob) : EM X C O (.BinOp a .FloorDiv b pos) (mOp2 dDiv oa ob) := em_op op_fdiv ops_div nx_div ha hb
theorem em_pow (ha : OM X C O a oa) (hb : OM X C O b ob) : EM X C O (.BinOp a .Pow b pos) (mOp2 dPow oa ob) := em_op op_pow ops_pow nx_pow ha hb
theorem em_cmp {op : CmpOp} {rr : R2} {f : D → D → Out D} (hr : OpR X (compareOp op) rr) (hs : OpS X.K rr f) (nx : NoX2 f) (ha : OM X C O a oa) (hb : OM X C O b ob) (hm : behindInMarks op b = false) : EM X C O (.Compare a [op] [b] pos) (mOp2 f oa ob) :=
  let ⟨_, h1, h2⟩ := ha; let ⟨_, h3, h4⟩ := hb; ⟨_, pe_cmpR hr h1 h3 hm, snd_op2 hs nx h2 h4⟩
theorem tm_cmp {op : CmpOp} {rr : R2} {f : D → D → Out D} (hr : OpR X (compareOp op) rr) (hs : OpS X.K rr f) (nx : NoX2 f) (ha : OM X C O a oa) (hb : OM X C O b ob) (hm : behindInMarks op b = false) : TM X C O (.Compare a [op] [b] pos) (mBool (mOp2 f oa ob)) :=
  let ⟨_, h1, h2⟩ := ha; let ⟨_, h3, h4⟩ := hb; ⟨_, pt_cmpR hr h1 h3 hm, snd_test (snd_op2 hs nx h2 h4)⟩
/-- which comparison: its rule, what it does -/
structure CmpK (X : Cx) (op : CmpOp) (f : D → D → Out D) : Prop where
  ex : ∃ rr, OpR X (compareOp op) rr ∧ OpS X.K rr f
  nx : NoX2 f
theorem k_lt : CmpK X .Lt dLt := ⟨⟨_, OpR.or op_lt op_lt_str, ops_lt⟩, nx_lt⟩
theorem k_le : CmpK X .LtE dLe := ⟨⟨_, op_le, ops_le⟩, nx_le⟩
theorem k_gt : CmpK X .Gt dGt := ⟨⟨_, op_gt, ops_gt⟩, nx_gt⟩
theorem k_ge : CmpK X .GtE dGe := ⟨⟨_, op_ge, ops_ge⟩, nx_ge⟩
theorem k_eqS : CmpK X .Eq dEqS := ⟨⟨_, op_eq, ops_eqS⟩, nx_eqS⟩
theorem k_neS : CmpK X .NotEq dNeS := ⟨⟨_, op_ne, ops_neS⟩, nx_neS⟩
theorem k_isN : CmpK X .Is dIs := ⟨⟨_, op_isN, ops_is⟩, nx_is⟩
theorem k_notN : CmpK X .IsNot dIsNot := ⟨⟨_, op_notN, ops_isNot⟩, nx_isNot⟩
theorem k_inS : CmpK X .In dInS := ⟨⟨_, op_in_sign, ops_inS⟩, nx_inS⟩
theorem k_notInS : CmpK X .NotIn dNotInS := ⟨⟨_, op_notIn_sign, ops_notInS⟩, nx_notInS⟩
theorem ec {op : CmpOp} {f : D → D → Out D} (k : CmpK X op f) (ha : OM X C O a oa) (hb : OM X C O b ob) (hm : behindInMarks op b = false := by first | exact nomark _ | rfl) : EM X C O (.Compare a [op] [b] pos) (mOp2 f oa ob) := let ⟨_, h1, h2⟩ := k.ex; em_cmp h1 h2 k.nx ha hb hm
theorem tc {op : CmpOp} {f : D → D → Out D} (k : CmpK X op f) (ha : OM X C O a oa) (hb : OM X C O b ob) (hm : behindInMarks op b = false := by first | exact nomark _ | rfl) : TM X C O (.Compare a [op] [b] pos) (mBool (mOp2 f oa ob)) := let ⟨_, h1, h2⟩ := k.ex; tm_cmp h1 h2 k.nx ha hb hm
/-- a <= b <= c -/
@[simp] def mChain (f g : D → D → Out D) (ma mb mc : RE → Out (Opd × RE)) : RE → Out (D × RE) := fun r => (ma r).bnd fun x => (mb x.2).bnd fun y => match deref y.2 x.1, deref y.2 y.1 with
  | some dx, some dy => (f dx dy).bnd fun d => (asB d).bnd fun k => if k = true then (mc y.2).bnd fun z => match deref z.2 y.1, deref z.2 z.1 with
      | some dy', some dz => (g dy' dz).bnd fun d => .ok (d, z.2)
      | _, _ => .stuck
    else .ok (.bl false, y.2)
  | _, _ => .stuck
theorem snd_chain {K : PySem.W.Frag} {rr rr' : R2} {f g : D → D → Out D} {ta tb tc : TE} (hs : OpS K rr f) (nx : NoX2 f) (hs' : OpS K rr' g) (nx' : NoX2 g) (ha : SndO K C O ta oa) (hb : SndO K C O tb ob) (hc : SndO K C O tc oc) : Snd K C O (tChain rr rr' ta tb tc) (mChain f g oa ob oc) := fun c σ H G r Q R w => by
  refine ha c σ H G r _ R ((Wp.bnd w).mono (fun p q v1 H1 G1 R1 s1 h1 => ?_) fun _ x => x)
  refine hb c σ H1 G1 p.2 _ R1 ((Wp.bnd q).mono (fun p2 q2 v2 H2 G2 R2 s2 h2 => ?_) fun _ x => x)
  cases e1 : deref p2.2 p.1 with
  | none => simp only [e1] at q2; exact q2.elim
  | some dx =>
    cases e2 : deref p2.2 p2.1 with
    | none => simp only [e1, e2] at q2; exact q2.elim
    | some dy =>
      simp only [e1, e2] at q2
      cases e3 : f dx dy with
      | exc x => exact absurd e3 (nx _ _ _)
      | stuck => rw [e3] at q2; exact q2.elim
      | ok d =>
        rw [e3, bnd_ok] at q2
        refine hs v1 v2 H2 G2 dx dy _ R2.gh ((h1.mono s2).at R2 e1) (h2.at R2 e2) d e3 fun v H3 G3 x3 rep => ?_
        cases d <;> simp only [asB, bnd_ok, bnd_stuck] at q2 <;> try exact q2.elim
        rename_i k
        simp only [RepD] at rep
        refine ⟨k, rep, ?_⟩
        have R3 := R2.ext x3
        by_cases hk : k = true
        · rw [if_pos hk] at q2 ⊢
          refine hc c σ H3 G3 p2.2 _ R3 ((Wp.bnd q2).mono (fun p4 q4 v4 H4 G4 R4 s4 h4 => ?_) fun _ x => x)
          cases e5 : deref p4.2 p2.1 with
          | none => simp only [e5] at q4; exact q4.elim
          | some dy' =>
            cases e6 : deref p4.2 p4.1 with
            | none => simp only [e5, e6] at q4; exact q4.elim
            | some dz =>
              simp only [e5, e6] at q4
              obtain ⟨d', hd', q5⟩ := wp_f2 nx' q4
              exact hs' v2 v4 H4 G4 dy' dz Q R4.gh ((h2.mono (x3.sub.trans s4)).at R4 e5) (h4.at R4 e6) d' hd' fun v H' G' x rep => q5 v H' G' (R4.ext x) ((((s1.trans s2).trans x3.sub).trans s4).trans x.sub) rep
        · rw [if_neg hk] at q2 ⊢
          exact q2 _ H3 G3 R3 ((s1.trans s2).trans x3.sub) repD_bl
theorem ech {op op' : CmpOp} {f g : D → D → Out D} (k : CmpK X op f) (k' : CmpK X op' g) (ha : OM X C O a oa) (hb : OM X C O b ob) (hc : OM X C O c oc) (hm : lastMarks [op, op'] [b, c] = false := by with_unfolding_all rfl) : EM X C O (.Compare a [op, op'] [b, c] pos) (mChain f g oa ob oc) :=
  let ⟨_, h1, h2⟩ := ha; let ⟨_, h3, h4⟩ := hb; let ⟨_, h5, h6⟩ := hc; let ⟨_, r1, r2⟩ := k.ex; let ⟨_, r3, r4⟩ := k'.ex
  ⟨_, pe_chain r1 r3 h1 h3 h5 hm, snd_chain r2 k.nx r4 k'.nx h2 h4 h6⟩
theorem tch {op op' : CmpOp} {f g : D → D → Out D} (k : CmpK X op f) (k' : CmpK X op' g) (ha : OM X C O a oa) (hb : OM X C O b ob) (hc : OM X C O c oc) (hm : lastMarks [op, op'] [b, c] = false := by with_unfolding_all rfl) : TM X C O (.Compare a [op, op'] [b, c] pos) (mBool (mChain f g oa ob oc)) :=
  let ⟨_, h1, h2⟩ := ha; let ⟨_, h3, h4⟩ := hb; let ⟨_, h5, h6⟩ := hc; let ⟨_, r1, r2⟩ := k.ex; let ⟨_, r3, r4⟩ := k'.ex
  ⟨_, pt_chain r1 r3 h1 h3 h5 hm, snd_test (snd_chain r2 k.nx r4 k'.nx h2 h4 h6)⟩
theorem em_neg (ha : OM X C O a oa) : EM X C O (.UnaryOp .USub a pos) (mOp1 dNeg oa) := let ⟨_, h1, h2⟩ := ha; ⟨_, pe_un un_neg h1, fun c σ H G r Q R w => by
  refine h2 c σ H G r _ R ((Wp.bnd w).mono (fun p q v H1 G1 R1 s1 r1 => ?_) fun _ x => x)
  cases e : deref p.2 p.1 with
  | none => simp only [e] at q; exact q.elim
  | some d =>
    simp only [e] at q
    have ht := r1.at R1 e
    cases d <;> simp only [dNeg, bnd_ok, bnd_stuck] at q <;> try exact q.elim
    exact ⟨_, repT_int ht, q _ H1 G1 R1 s1 repD_int⟩⟩
/-! and, or, not -/
theorem em_one {op : BoolOp} (h : EM X C O a ma) : EM X C O (.BoolOp op [a] pos) ma := let ⟨_, h1, h2⟩ := h; ⟨_, pe_one h1, h2⟩
theorem em_and {rest : List PySem.Expr} (h : EM X C O a ma) (k : EM X C O (.BoolOp .And (b :: rest) pos) mb) : EM X C O (.BoolOp .And (a :: b :: rest) pos) (mAnd ma mb) := let ⟨_, h1, h2⟩ := h; let ⟨_, k1, k2⟩ := k; ⟨_, pe_and h1 k1, snd_and h2 k2⟩
theorem em_or {rest : List PySem.Expr} (h : EM X C O a ma) (k : EM X C O (.BoolOp .Or (b :: rest) pos) mb) : EM X C O (.BoolOp .Or (a :: b :: rest) pos) (mOr ma mb) := let ⟨_, h1, h2⟩ := h; let ⟨_, k1, k2⟩ := k; ⟨_, pe_or h1 k1, snd_or h2 k2⟩
theorem em_not (h : EM X C O a ma) : EM X C O (.UnaryOp .Not a pos) (mNot ma) := let ⟨_, h1, h2⟩ := h; ⟨_, pe_not h1, snd_not h2⟩
theorem em_ife (ht : TM X C O c mt) (h : EM X C O a ma) (k : EM X C O b mb) : EM X C O (.IfExp c a b pos) (mIfE mt ma mb) := let ⟨_, t1, t2⟩ := ht; let ⟨_, h1, h2⟩ := h; let ⟨_, k1, k2⟩ := k; ⟨_, pe_ifExp t1 h1 k1, snd_ife t2 h2 k2⟩
/-! tests -/
theorem tm_v (h : OM X C O a oa) (he : ∀ whole, isTrue a X.env whole = (do let v ← whole; standAt a.pos; holding [v] (truthy v)) := by intro _; rfl) : TM X C O a (mTruth oa) := let ⟨_, h1, h2⟩ := h; ⟨_, pt_truth h1 he, snd_truth h2⟩
theorem tm_b (h : EM X C O a ma) (he : ∀ whole, isTrue a X.env whole = (do let v ← whole; standAt a.pos; holding [v] (truthy v)) := by intro _; rfl) : TM X C O a (mBool ma) := let ⟨_, h1, h2⟩ := h; ⟨_, pt_val h1 he, snd_bool h2⟩
theorem tm_not (h : TM X C O a mt) : TM X C O (.UnaryOp .Not a pos) (mTNot mt) := let ⟨_, h1, h2⟩ := h; ⟨_, pt_not h1, snd_tnot h2⟩
theorem tw (h : WM X C O a mt) : TM X C O a mt := let ⟨_, h1, h2⟩ := h; ⟨_, PW.pt h1, h2⟩
theorem wm_and1 (h : TM X C O a mt) : WM X C O (.BoolOp .And [a] pos) mt := let ⟨_, h1, h2⟩ := h; ⟨_, pw_and1 h1, h2⟩
theorem wm_or1 (h : TM X C O a mt) : WM X C O (.BoolOp .Or [a] pos) mt := let ⟨_, h1, h2⟩ := h; ⟨_, pw_or1 h1, h2⟩
theorem wm_and {rest : List PySem.Expr} (h : TM X C O a mt) (k : WM X C O (.BoolOp .And (b :: rest) pos) mu) : WM X C O (.BoolOp .And (a :: b :: rest) pos) (mTAnd mt mu) := let ⟨_, h1, h2⟩ := h; let ⟨_, k1, k2⟩ := k; ⟨_, pw_and h1 k1, snd_tand h2 k2⟩
theorem wm_or {rest : List PySem.Expr} (h : TM X C O a mt) (k : WM X C O (.BoolOp .Or (b :: rest) pos) mu) : WM X C O (.BoolOp .Or (a :: b :: rest) pos) (mTOr mt mu) := let ⟨_, h1, h2⟩ := h; let ⟨_, k1, k2⟩ := k; ⟨_, pw_or h1 k1, snd_tor h2 k2⟩
/-! arguments, calls -/
theorem am_nil : AM X C O [] mNil := ⟨_, pa_nil, snd_nil⟩
theorem am_cons (h : OM X C O e oa) (k : AM X C O es as_) (hs : starEach (e :: es) X.env = (false, eval e X.env) :: starEach es X.env := by rfl) : AM X C O (e :: es) (mCons oa as_) := let ⟨_, h1, h2⟩ := h; let ⟨_, k1, k2⟩ := k; ⟨_, pa_cons h1 k1 hs, snd_cons h2 k2⟩
/-- a built-in function -/
theorem em_cb {id : String} {rr : List V → Hp → VK → Prop} {f : List D → Out D} (hr : CallR X (.builtin id) rr) (hs : CallS X.K rr f) (nx : NoX1 f) (hm : X.mg x = none) (hv : bootBuiltins x = some (.builtin id)) (h : AM X C O (e :: es) as_) (hg : Gl X x := by rfl) (hn : x ≠ "__name__" := by decide) (hdb : (x == ("__debug__" : Str)) = false := by decide)
    (he : starEach (e :: es) X.env = (false, eval e X.env) :: starEach es X.env := by rfl) (hpl : (backTo pos (starEach es X.env)).any (·.1) = false := by rfl) : EM X C O (.Call (.Name x p) (e :: es) [] pos) (mArgs f as_) :=
  let ⟨_, h1, h2⟩ := h; ⟨_, pe_callB hr hg hm hv h1 hn hdb he hpl, snd_cb hs nx h2⟩
theorem em_ct {T : String} {rr : List V → Hp → VK → Prop} {f : List D → Out D} (hr : CallR X (.type T) rr) (hs : CallS X.K rr f) (nx : NoX1 f) (hm : X.mg x = none) (hv : bootBuiltins x = some (.type T)) (h : AM X C O (e :: es) as_) (hg : Gl X x := by rfl) (hn : x ≠ "__name__" := by decide) (hdb : (x == ("__debug__" : Str)) = false := by decide)
    (he : starEach (e :: es) X.env = (false, eval e X.env) :: starEach es X.env := by rfl) (hpl : (backTo pos (starEach es X.env)).any (·.1) = false := by rfl) : EM X C O (.Call (.Name x p) (e :: es) [] pos) (mArgs f as_) :=
  let ⟨_, h1, h2⟩ := h; ⟨_, pe_callTy hr hg hm hv h1 hn hdb he hpl, snd_cb hs nx h2⟩
theorem fm_ct {T : String} {rr : List V → Hp → VK → Prop} {f : List D → Out D} (hr : CallR X (.type T) rr) (hs : CallF X.K rr f) (nx : NoX1 f) (hm : X.mg x = none) (hv : bootBuiltins x = some (.type T)) (h : AM X C O (e :: es) as_) (hg : Gl X x := by rfl) (hn : x ≠ "__name__" := by decide) (hdb : (x == ("__debug__" : Str)) = false := by decide)
    (he : starEach (e :: es) X.env = (false, eval e X.env) :: starEach es X.env := by rfl) (hpl : (backTo pos (starEach es X.env)).any (·.1) = false := by rfl) : FM X C O (.Call (.Name x p) (e :: es) [] pos) (mArgs f as_) :=
  let ⟨_, h1, h2⟩ := h; ⟨_, pe_callTy hr hg hm hv h1 hn hdb he hpl, sndf_cb hs nx h2⟩
theorem fm_cb {id : String} {rr : List V → Hp → VK → Prop} {f : List D → Out D} (hr : CallR X (.builtin id) rr) (hs : CallF X.K rr f) (nx : NoX1 f) (hm : X.mg x = none) (hv : bootBuiltins x = some (.builtin id)) (h : AM X C O (e :: es) as_) (hg : Gl X x := by rfl) (hn : x ≠ "__name__" := by decide) (hdb : (x == ("__debug__" : Str)) = false := by decide)
    (he : starEach (e :: es) X.env = (false, eval e X.env) :: starEach es X.env := by rfl) (hpl : (backTo pos (starEach es X.env)).any (·.1) = false := by rfl) : FM X C O (.Call (.Name x p) (e :: es) [] pos) (mArgs f as_) :=
  let ⟨_, h1, h2⟩ := h; ⟨_, pe_callB hr hg hm hv h1 hn hdb he hpl, sndf_cb hs nx h2⟩
/-- a def of the text -/
theorem em_call {CXx : CXT} {k n : Nat} {f : Addr} {fd : FuncData} {ps : List Str} {mf : List D → Out D} {dd : List D} {dvs : List V} {ds : List Value} (F : FnOk X.prog X.w X.K X.mg X.base CXx k f fd ps (spP X.K n false mf)) (hn : ∀ ds, mf ds ≠ .stuck → ds.length = n) (hr : Room k X.A) (hm : X.mg x = some (.ref f)) (hk : PySem.W.keepIn X.K (.ref f) = true)
    (hb : Binds X.K fd ps ds) (hd : Vals dvs ds) (hdd : ∀ G, RepL X.K G dd dvs) (hx : Passes CXx X C.E) (h : AM X C O (e :: es) as_) (hg : Gl X x := by rfl) (hdb : (x == ("__debug__" : Str)) = false := by decide) (he : starEach (e :: es) X.env = (false, eval e X.env) :: starEach es X.env := by rfl)
    (hpl : (backTo pos (starEach es X.env)).any (·.1) = false := by rfl) : EM X C O (.Call (.Name x p) (e :: es) [] pos) (mCall mf dd as_) :=
  let ⟨_, h1, h2⟩ := h; ⟨_, pe_call F hr hg hm hk hb hd hx h1 hdb he hpl, snd_call hn hdd h2⟩
theorem fm_call {CXx : CXT} {k n : Nat} {f : Addr} {fd : FuncData} {ps : List Str} {mf : List D → Out D} {dd : List D} {dvs : List V} {ds : List Value} (F : FnOk X.prog X.w X.K X.mg X.base CXx k f fd ps (spP X.K n true mf)) (hn : ∀ ds, mf ds ≠ .stuck → ds.length = n) (hr : Room k X.A) (hm : X.mg x = some (.ref f)) (hk : PySem.W.keepIn X.K (.ref f) = true)
    (hb : Binds X.K fd ps ds) (hd : Vals dvs ds) (hdd : ∀ G, RepL X.K G dd dvs) (hx : Passes CXx X C.E) (h : AM X C O (e :: es) as_) (hg : Gl X x := by rfl) (hdb : (x == ("__debug__" : Str)) = false := by decide) (he : starEach (e :: es) X.env = (false, eval e X.env) :: starEach es X.env := by rfl)
    (hpl : (backTo pos (starEach es X.env)).any (·.1) = false := by rfl) : FM X C O (.Call (.Name x p) (e :: es) [] pos) (mCall mf dd as_) :=
  let ⟨_, h1, h2⟩ := h; ⟨_, pe_call F hr hg hm hk hb hd hx h1 hdb he hpl, sndf_call hn hdd h2⟩
theorem em_len (hm : X.mg "len" = none) (h : OM X C O e oa) (hg : Gl X "len" := by rfl) (hs : starEach [e] X.env = (false, eval e X.env) :: starEach [] X.env := by rfl) (hpl : (backTo pos (starEach [] X.env)).any (·.1) = false := by rfl) : EM X C O (.Call (.Name "len" p) [e] [] pos) (mArgs (d1 dLen) (mCons oa mNil)) :=
  em_cb call_len calls_len (nox_d1 nx_len) hm PySem.boot_len (am_cons h am_nil hs) hg (by decide) (by decide) hs hpl
theorem em_toint (hm : X.mg "int" = none) (h : OM X C O e oa) (hg : Gl X "int" := by rfl) (hs : starEach [e] X.env = (false, eval e X.env) :: starEach [] X.env := by rfl) (hpl : (backTo pos (starEach [] X.env)).any (·.1) = false := by rfl) : EM X C O (.Call (.Name "int" p) [e] [] pos) (mArgs (d1 dInt) (mCons oa mNil)) :=
  em_ct call_int1 calls_int (nox_d1 nx_int) hm (by decide +kernel) (am_cons h am_nil hs) hg (by decide) (by decide) hs hpl
theorem em_isi (hm : X.mg "isinstance" = none) (h : OM X C O a oa) (k : OM X C O b ob) (hg : Gl X "isinstance" := by rfl) (hs2 : starEach [b] X.env = (false, eval b X.env) :: starEach [] X.env := by rfl) (hs : starEach [a, b] X.env = (false, eval a X.env) :: starEach [b] X.env := by rfl) (hpl : (backTo pos (starEach [b] X.env)).any (·.1) = false := by rfl) :
    EM X C O (.Call (.Name "isinstance" p) [a, b] [] pos) (mArgs (d2 dIsi) (mCons oa (mCons ob mNil))) := em_cb call_isi calls_isi (nox_d2 nx_isi) hm (by decide +kernel) (am_cons h (am_cons k am_nil hs2) hs) hg (by decide) (by decide) hs hpl
/-! subscripts, displays, slices -/
theorem em_ix (ha : OM X C O a oa) (hb : OM X C O b ob) (hs : PlainIx b := by exact fun _ _ => rfl) : EM X C O (.Subscript a b pos) (mOp2 dIx oa ob) :=
  let ⟨_, h1, h2⟩ := ha; let ⟨_, h3, h4⟩ := hb; ⟨_, pe_ix (IxR.or ix_list (IxR.or ix_tup ix_str)) h1 h3 hs, snd_op2 ops_ix nx_ix h2 h4⟩
theorem fm_lst (h : AM X C O es as_) : FM X C O (.List es pos) (mLst as_) := let ⟨_, h1, h2⟩ := h; ⟨_, pe_lst h1, sndf_lst h2⟩
theorem em_tup {k : Nat} (h : AM X C O es as_) : EM X C O (.Tuple es k pos) (mTup as_) := let ⟨_, h1, h2⟩ := h; ⟨_, pe_tup h1, snd_tup h2⟩
def PM (X : Cx) (C : Cf) (O : List Nat) (e : Option PySem.Expr) (m : RE → Out (Option Int × RE)) : Prop := ∃ t, PO X e t ∧ SndP X.K C O t m
theorem pm_none : PM X C O none mNoP := ⟨_, po_none, sndp_none⟩
theorem pm_some (h : EM X C O e m) : PM X C O (some e) (mPart m) := let ⟨_, h1, h2⟩ := h; ⟨_, po_some h1, sndp_some h2⟩
variable {lo hi : Option PySem.Expr} {ml mh : RE → Out (Option Int × RE)} {p2 : Pos}
theorem fm_cut (h : OM X C O e oa) (hl : PM X C O lo ml) (hh : PM X C O hi mh) : FM X C O (.Subscript e (.Slice lo hi none p2) pos) (mCut dCut oa ml mh) := let ⟨_, h1, h2⟩ := h; let ⟨_, h3, h4⟩ := hl; let ⟨_, h5, h6⟩ := hh; ⟨_, pe_slice sl_list h1 h3 h5, sndf_cut h2 h4 h6⟩
theorem em_cutS (h : OM X C O e oa) (hl : PM X C O lo ml) (hh : PM X C O hi mh) : EM X C O (.Subscript e (.Slice lo hi none p2) pos) (mCut dCutS oa ml mh) := let ⟨_, h1, h2⟩ := h; let ⟨_, h3, h4⟩ := hl; let ⟨_, h5, h6⟩ := hh; ⟨_, pe_slice (SlR.or sl_str sl_tup) h1 h3 h5, snd_cutS h2 h4 h6⟩
theorem em_join {s : Str} {j : Nat} {apos p3 : Pos} (h : OM X C O e oa) (hs : starEach [e] X.env = [(false, eval e X.env)] := by rfl) (hbase : attributeBase (.Constant (.str s) j p3) "join" X.env (eval (.Constant (.str s) j p3) X.env) = eval (.Constant (.str s) j p3) X.env := by rfl) (hline : (apos.endLine == pos.line) = true := by rfl) :
    EM X C O (.Call (.Attribute (.Constant (.str s) j p3) "join" apos) [e] [] pos) (mOp1 (dJoin s) oa) := let ⟨_, h1, h2⟩ := h; ⟨_, pe_join pe_str h1 hs hbase hline, snd_join h2⟩
theorem em_append (i : Nat) {apos p3 : Pos} (h : OM X C O e oa) (hi : i ∈ O := by decide) (hN : X.N[i]? = some x := by rfl) (hv : Vis X.env.scope x := by first | exact Or.inl rfl | exact Or.inr (Or.inl rfl) | exact Or.inr (Or.inr rfl)) (hd : (x == ("__debug__" : Str)) = false := by decide)
    (hcd : (x == ("__classdict__" : Str)) = false := by decide) (hs : starEach [e] X.env = (false, eval e X.env) :: starEach [] X.env := by rfl) (hbase : attributeBase (.Name x p3) "append" X.env (eval (.Name x p3) X.env) = eval (.Name x p3) X.env := by rfl)
    (hfew : ((backTo pos (starEach [e] X.env)).all (fun x => !x.1) && (backToKw pos (keywordEach [] X.env)).all (fun x => x.1.isSome)
      && decide ([e].length + ([] : List Keyword).length + (if ([] : List Keyword).isEmpty then 0 else 1) < 30)) = true := by rfl) (hline : (apos.endLine == pos.line) = true := by rfl) (hpl : (backTo pos (starEach [] X.env)).any (·.1) = false := by rfl) :
    EM X C O (.Call (.Attribute (.Name x p3) "append" apos) [e] [] pos) (mMut i "list" fAppend (mCons oa mNil)) :=
  let ⟨_, h1, h2⟩ := h; ⟨_, pe_bm PySem.F.plainAttrs_list PySem.F.slot_list_append PySem.F.type_list_append mt_append (pe_var hN hv hd hcd) (pa_cons h1 pa_nil hs) hbase hfew hline hs hpl, snd_mut hi mut_append nx_append (snd_cons h2 snd_nil)⟩
theorem em_pop0 (i : Nat) {apos p3 : Pos} (hi : i ∈ O := by decide) (hN : X.N[i]? = some x := by rfl) (hv : Vis X.env.scope x := by first | exact Or.inl rfl | exact Or.inr (Or.inl rfl) | exact Or.inr (Or.inr rfl)) (hd : (x == ("__debug__" : Str)) = false := by decide)
    (hcd : (x == ("__classdict__" : Str)) = false := by decide) (hbase : attributeBase (.Name x p3) "pop" X.env (eval (.Name x p3) X.env) = eval (.Name x p3) X.env := by rfl) (hline : (apos.endLine == pos.line) = true := by rfl) :
    EM X C O (.Call (.Attribute (.Name x p3) "pop" apos) [] [] pos) (mMut i "list" fPop mNil) :=
  ⟨_, pe_bm0 PySem.F.plainAttrs_list PySem.F.slot_list_pop PySem.F.type_list_pop mt_pop (pe_var hN hv hd hcd) hbase hline, snd_mut0 hi mut_pop nx_pop⟩
/-! targets, walks, comprehensions -/
def GM (X : Cx) (C : Cf) (O : List Nat) (tg : PySem.Expr) (st : D → RE → Option RE) (vs : List Nat) : Prop := ∃ g, PG X tg g ∧ GS X.K C O g st ∧ GV g vs
theorem gm_name (i : Nat) (hI : i ∉ C.I) (nd : X.N.Nodup) (hO : i ∉ O := by decide) (hN : X.N[i]? = some x := by rfl) (hl : Loc X.env.scope x := by first | exact Or.inl rfl | exact Or.inr rfl) (hf : X.fn x = true ∨ X.env.scope.names.lookup x = some .local := by first | exact Or.inl rfl | exact Or.inr rfl) : GM X C O (.Name x pos) (stName i) [i] :=
  ⟨_, pg_name nd hN hl hf, gs_name hI hO, gv_name⟩
def IM (X : Cx) (C : Cf) (O : List Nat) (tg it : PySem.Expr) (m : RE → Out (List D × RE)) : Prop := ∃ wi, PI X tg it wi ∧ SndI X.K C O wi m
theorem im_list {tg : PySem.Expr} (h : EM X C O e m) : IM X C O tg e (mItem asL m) := let ⟨_, h1, h2⟩ := h; ⟨_, pi_list h1, sndi_list h2⟩
theorem im_tup {tg : PySem.Expr} (h : EM X C O e m) : IM X C O tg e (mItem asT m) := let ⟨_, h1, h2⟩ := h; ⟨_, pi_tup h1, sndi_tup h2⟩
theorem im_str {tg : PySem.Expr} (h : EM X C O e m) : IM X C O tg e (mItem asS m) := let ⟨_, h1, h2⟩ := h; ⟨_, pi_str h1, sndi_str h2⟩
@[simp] def mRng1 (oa : RE → Out (Opd × RE)) : RE → Out (List D × RE) := fun r => (mCons oa mNil r).bnd fun p => match derefs p.2 p.1 with
  | some [.int j] => if -1000000 ≤ j ∧ j ≤ 1000000 then .ok (rangeD 0 j.toNat, p.2) else .stuck
  | _ => .stuck
@[simp] def mRng2 (oa ob : RE → Out (Opd × RE)) : RE → Out (List D × RE) := fun r => (mCons oa (mCons ob mNil) r).bnd fun p => match derefs p.2 p.1 with
  | some [.int i, .int j] => if -1000000 ≤ i ∧ i ≤ 1000000 ∧ -1000000 ≤ j ∧ j ≤ 1000000 then .ok (rangeD i (j - i).toNat, p.2) else .stuck
  | _ => .stuck
theorem im_rng1 {tg : PySem.Expr} (hm : X.mg "range" = none) (h : OM X C O e oa) (hg : Gl X "range" := by rfl) (hs : starEach [e] X.env = (false, eval e X.env) :: starEach [] X.env := by rfl) (hs' : starEach [e] X.env = [(false, eval e X.env)] := by rfl) : IM X C O tg (.Call (.Name "range" p) [e] [] pos) (mRng1 oa) :=
  let ⟨_, h1, h2⟩ := h; ⟨_, pi_range1 hg hm (pa_cons h1 pa_nil hs) hs', sndi_rng1 (snd_cons h2 snd_nil)⟩
theorem im_rng2 {tg : PySem.Expr} (hm : X.mg "range" = none) (h : OM X C O a oa) (k : OM X C O b ob) (hg : Gl X "range" := by rfl) (hs : starEach [a, b] X.env = (false, eval a X.env) :: starEach [b] X.env := by rfl) (hs2 : starEach [b] X.env = (false, eval b X.env) :: starEach [] X.env := by rfl) (hs' : starEach [a, b] X.env = [(false, eval a X.env), (false, eval b X.env)] := by rfl) (hs2' : starEach [b] X.env = [(false, eval b X.env)] := by rfl) : IM X C O tg (.Call (.Name "range" p) [a, b] [] pos) (mRng2 oa ob) :=
  let ⟨_, h1, h2⟩ := h; let ⟨_, k1, k2⟩ := k; ⟨_, pi_range2 hg hm (pa_cons h1 (pa_cons k1 pa_nil hs2) hs) hs' hs2', sndi_rng2 (snd_cons h2 (snd_cons k2 snd_nil))⟩
end
end Mir

set_option maxHeartbeats 4000000
namespace Mir
open PySem PySem.Spec PyProof.Rows L2
section
variable {X : Cx} {C : Cf} {O O' O1 O2 Ol Oq : List Nat} {a b c e : PySem.Expr} {es : List PySem.Expr} {pos p : Pos} {x : Str}
variable {ma mb m : RE → Out (D × RE)} {oa ob oc : RE → Out (Opd × RE)} {mt mu : RE → Out (Bool × RE)} {as_ : RE → Out (List Opd × RE)} {ms mz : RE → Out Fl} {s : Stmt} {ss st2 : List Stmt}
/-! comprehensions -/
@[simp] def mYes : RE → Out (Bool × RE) := fun r => .ok (true, r)
def TMs (X : Cx) (C : Cf) (O : List Nat) (es : List PySem.Expr) (m : RE → Out (Bool × RE)) : Prop := ∃ te, PTs X es te ∧ SndT X.K C O te m
theorem tms_nil : TMs X C O [] mYes := ⟨_, pts_nil, fun c σ H G r Q R w => w H G R (Sub.refl G)⟩
theorem tms_one (h : TM X C O e mt) : TMs X C O [e] mt := let ⟨_, h1, h2⟩ := h; ⟨_, pts_one h1, h2⟩
abbrev BIx := Shared × Hp × Addr × List (Str × Addr) × List Addr
abbrev Xb (X : Cx) (scope : Scope) (i : BIx) : Cx := X.blk i.1 i.2.1 scope (compEnvC scope i.2.2.2.1 i.2.2.1 X.env) i.2.2.2.2
section
variable {elt tg iter : PySem.Expr} {ifs : List PySem.Expr} {scope : Scope} {own : List (Str × Nat)} {mi : RE → Out (List D × RE)} {st : D → RE → Option RE} {me : RE → Out (D × RE)} {y : Str} {py spos : Pos}
theorem lc_parts (vs : List Nat) (hv : ∀ v ∈ vs, v ∉ O) (hI : ∀ i ∈ C.I, i ∈ O) (hi : IM X C O tg iter mi)
    (hg : ∀ i : BIx, GM (Xb X scope i) ⟨O, C.E, C.fr⟩ O tg st vs) (ht : ∀ i : BIx, TMs (Xb X scope i) ⟨O, C.E, C.fr⟩ O ifs mt) (he : ∀ i : BIx, EM (Xb X scope i) ⟨O, C.E, C.fr⟩ O elt me) :
    ∃ wi g tt te, PI X tg iter wi ∧ (∀ i, PG (Xb X scope i) tg g) ∧ (∀ i, PTs (Xb X scope i) ifs tt) ∧ (∀ i, PE (Xb X scope i) elt te) ∧ SndF X.K C O (tLc wi g tt te vs) (mComp vs mi st mt me) := by
  obtain ⟨wi, hi1, hi2⟩ := hi
  have hg' := fun i => Classical.choose_spec (hg i)
  have ht' := fun i => Classical.choose_spec (ht i)
  have he' := fun i => Classical.choose_spec (he i)
  refine ⟨wi, fun v σ H Q => ∀ i, Classical.choose (hg i) v σ H Q, fun σ H Q => ∀ i, Classical.choose (ht i) σ H Q, fun σ H Q => ∀ i, Classical.choose (he i) σ H Q, hi1, fun i => ⟨fun pins s σ H v u Q I r h => (hg' i).1.run pins s σ H v u Q I r (h i)⟩, fun i => ⟨fun pins s σ H Q I h => (ht' i).1.run pins s σ H Q I (h i)⟩, fun i => ⟨fun pins s σ H Q I h => (he' i).1.run pins s σ H Q I (h i)⟩, ?_⟩
  refine sndf_comp hv hI (fun v σ H Q Q' k h i => (hg' i).2.2 v σ H Q Q' k (h i)) hi2 (fun c v d σ H G r r' Q R h e k i => (hg' i).2.1 c v d σ H G r r' Q R h e k) (fun c σ H G r Q R w i => (ht' i).2 c σ H G r Q R w) (fun c σ H G r Q R w i => (he' i).2 c σ H G r Q R w)
theorem fm_lc (vs : List Nat) (own : List (Str × Nat)) (nd : X.N.Nodup) (ok : BlkOk X.N X.env.scope scope own) (hi : IM X C O tg iter mi) (hg : ∀ i : BIx, GM (Xb X scope i) ⟨O, C.E, C.fr⟩ O tg st vs) (ht : ∀ i : BIx, TMs (Xb X scope i) ⟨O, C.E, C.fr⟩ O ifs mt) (he : ∀ i : BIx, EM (Xb X scope i) ⟨O, C.E, C.fr⟩ O elt me)
    (hI : ∀ i ∈ C.I, i ∈ O := by decide) (hv : ∀ v ∈ vs, v ∉ O := by decide) (ho : own.map (·.2) = vs := by rfl) (hc : X.calm = true := by rfl) (hs : ∀ x, foldedSetIterable iter X.env x = pure x := by intro _; rfl) : FM X C O (.ListComp elt [⟨tg, iter, ifs, 0⟩] scope pos) (mComp vs mi st mt me) := by
  obtain ⟨wi, g, tt, te, h1, h2, h3, h4, h5⟩ := lc_parts vs hv hI hi hg ht he
  subst ho
  exact ⟨_, pe_lc hc nd h1 ok (fun s H Ca cl fp => h2 (s, H, Ca, cl, fp)) (fun s H Ca cl fp => h3 (s, H, Ca, cl, fp)) (fun s H Ca cl fp => h4 (s, H, Ca, cl, fp)) hs, h5⟩
/-- y = [..] -/
theorem sm_setLc (i : Nat) (vs : List Nat) (own : List (Str × Nat)) (hiI : i ∉ C.I) (nd : X.N.Nodup) (ok : BlkOk X.N X.env.scope scope own) (hi : IM X C O tg iter mi) (hg : ∀ i : BIx, GM (Xb X scope i) ⟨O, C.E, C.fr⟩ O tg st vs) (ht : ∀ i : BIx, TMs (Xb X scope i) ⟨O, C.E, C.fr⟩ O ifs mt) (he : ∀ i : BIx, EM (Xb X scope i) ⟨O, C.E, C.fr⟩ O elt me)
    (hy : X.N[i]? = some y := by rfl) (hyl : X.env.scope.names.lookup y = some .local := by rfl) (hsw : swapsWith (.ListComp elt [⟨tg, iter, ifs, 0⟩] scope pos) (some (.Name y py)) spos.line X.env = pure true := by exact sw_true rfl rfl rfl (by decide +kernel))
    (hI : ∀ i ∈ C.I, i ∈ O := by decide) (hv : ∀ v ∈ vs, v ∉ O := by decide) (ho : own.map (·.2) = vs := by rfl) (hc : X.calm = true := by rfl) (hs : ∀ x, foldedSetIterable iter X.env x = pure x := by intro _; rfl) : SM X C O (oins O i) Ol (.Assign [.Name y py] (.ListComp elt [⟨tg, iter, ifs, 0⟩] scope pos) spos) (mSet i (mComp vs mi st mt me)) := by
  obtain ⟨wi, g, tt, te, h1, h2, h3, h4, h5⟩ := lc_parts vs hv hI hi hg ht he
  subst ho
  exact ⟨_, ps_setLc hc nd hy hyl hsw h1 ok (fun s H Ca cl fp => h2 (s, H, Ca, cl, fp)) (fun s H Ca cl fp => h3 (s, H, Ca, cl, fp)) (fun s H Ca cl fp => h4 (s, H, Ca, cl, fp)) hs, snds_setF hiI h5⟩
end
/-! statements -/
theorem bm_nil : BM X C O O Ol [] mNext := ⟨_, pss_nil, snds_next⟩
theorem bm_one (h : SM X C O O' Ol s ms) : BM X C O O' Ol [s] ms := let ⟨_, h1, h2⟩ := h; ⟨_, pss_one h1, h2⟩
theorem bm_cons (h : SM X C O O1 Ol s ms) (k : BM X C O1 O' Ol ss mz) : BM X C O O' Ol (s :: ss) (mSeq ms mz) := let ⟨_, h1, h2⟩ := h; let ⟨_, k1, k2⟩ := k; ⟨_, pss_cons h1 k1, snds_seq h2 k2⟩
theorem bm_weak (O1 : List Nat) (h : BM X C O O1 Ol ss ms) (hs : ∀ i ∈ O2, i ∈ O1 := by decide) (hI : ∀ i ∈ C.I, i ∈ O2 := by decide) : BM X C O O2 Ol ss ms := let ⟨_, h1, h2⟩ := h; ⟨_, h1, snds_weak h2 hs hI⟩
/-- ahead of a block fewer things are owned -/
theorem bm_free (O1 : List Nat) (h : BM X C O1 O' Ol ss ms) (hs : ∀ i ∈ O1, i ∈ O := by decide) (hI : ∀ i ∈ C.I, i ∈ O1 := by decide) : BM X C O O' Ol ss ms := let ⟨_, h1, h2⟩ := h; ⟨_, h1, snds_weak0 h2 hs hI⟩
theorem sm_never : SM X C O O' Ol s mNever := ⟨_, ps_never, snds_never⟩
theorem bm_never : BM X C O O' Ol ss mNever := ⟨_, pss_never, snds_never⟩
theorem sm_pass : SM X C O O Ol (.Pass pos) mNext := ⟨_, ps_pass, snds_next⟩
theorem sm_break (hs : ∀ i ∈ Ol, i ∈ O := by decide) (hI : ∀ i ∈ C.I, i ∈ Ol := by decide) : SM X C O O' Ol (.Break pos) mBrk := ⟨_, ps_break, snds_brk hs hI⟩
theorem sm_cont (hs : ∀ i ∈ Ol, i ∈ O := by decide) (hI : ∀ i ∈ C.I, i ∈ Ol := by decide) : SM X C O O' Ol (.Continue pos) mCnt := ⟨_, ps_continue, snds_cnt hs hI⟩
theorem sm_expr (h : EM X C O e m) (hs : swapsWith e none pos.line X.env = pure false := by rfl) : SM X C O O Ol (.Expr e pos) (mDrop m) := let ⟨_, h1, h2⟩ := h; ⟨_, ps_expr h1 hs, snds_drop h2⟩
theorem sm_ret (h : EM X C O e m) (hf : C.fr = false := by rfl) : SM X C O O' Ol (.Return (some e) pos) (mRet m) := let ⟨_, h1, h2⟩ := h; ⟨_, ps_ret h1, snds_ret hf h2⟩
theorem sm_retF (h : FM X C O e m) (hf : C.fr = true := by rfl) : SM X C O O' Ol (.Return (some e) pos) (mRet m) := let ⟨_, h1, h2⟩ := h; ⟨_, ps_ret h1, snds_retF hf h2⟩
theorem sm_retO (i : Nat) {p3 : Pos} (hI : i ∉ C.I := by decide) (hO : i ∈ O := by decide) (hf : C.fr = true := by rfl) (hN : X.N[i]? = some x := by rfl) (hv : Vis X.env.scope x := by first | exact Or.inl rfl | exact Or.inr (Or.inl rfl) | exact Or.inr (Or.inr rfl)) (hd : (x == ("__debug__" : Str)) = false := by decide)
    (hcd : (x == ("__classdict__" : Str)) = false := by decide) : SM X C O O' Ol (.Return (some (.Name x p3)) pos) (mRetOwn i) := ⟨_, ps_ret (pe_var hN hv hd hcd), snds_retOwn hf hO hI⟩
theorem sm_if (ht : TM X C O c mt) (h : BM X C O O' Ol ss ms) (k : BM X C O O' Ol st2 mz) : SM X C O O' Ol (.If c ss st2 pos) (mIf mt ms mz) := let ⟨_, t1, t2⟩ := ht; let ⟨_, h1, h2⟩ := h; let ⟨_, k1, k2⟩ := k; ⟨_, ps_if t1 h1 k1, snds_if t2 h2 k2⟩
theorem sm_set (i : Nat) {p3 : Pos} (nd : X.N.Nodup) (h : EM X C O e m) (hI : i ∉ C.I := by decide) (hN : X.N[i]? = some x := by rfl) (hl : Loc X.env.scope x := by first | exact Or.inl rfl | exact Or.inr rfl) (hs : swapsWith e (some (.Name x p3)) pos.line X.env = pure false := by rfl) (hf : X.fn x = true ∨ X.env.scope.names.lookup x = some .local := by first | exact Or.inl rfl | exact Or.inr rfl) :
    SM X C O (odel O i) Ol (.Assign [.Name x p3] e pos) (mSet i m) := let ⟨_, h1, h2⟩ := h; ⟨_, ps_set nd hN hl h1 hs hf, snds_set hI h2⟩
theorem sm_setF (i : Nat) {p3 : Pos} (nd : X.N.Nodup) (h : FM X C O e m) (hI : i ∉ C.I := by decide) (hN : X.N[i]? = some x := by rfl) (hl : Loc X.env.scope x := by first | exact Or.inl rfl | exact Or.inr rfl) (hs : swapsWith e (some (.Name x p3)) pos.line X.env = pure false := by rfl) (hf : X.fn x = true ∨ X.env.scope.names.lookup x = some .local := by first | exact Or.inl rfl | exact Or.inr rfl) :
    SM X C O (oins O i) Ol (.Assign [.Name x p3] e pos) (mSet i m) := let ⟨_, h1, h2⟩ := h; ⟨_, ps_set nd hN hl h1 hs hf, snds_setF hI h2⟩
theorem sm_for {tg iter : PySem.Expr} {mi : RE → Out (List D × RE)} {st : D → RE → Option RE} {vs : List Nat} (hi : IM X C O tg iter mi) (hg : GM X C O tg st vs) (hb : BM X C O O O ss ms) (hp : PassesOwn (model X.prog X.w) X.A X.env X.xe) (hc : X.calm = true := by rfl) (hs : ∀ x, foldedSetIterable iter X.env x = pure x := by intro _; rfl) :
    SM X C O O Ol (.For tg iter ss [] pos) (mFor mi st ms) := let ⟨_, i1, i2⟩ := hi; let ⟨_, g1, g2, _⟩ := hg; let ⟨_, h1, h2⟩ := hb; ⟨_, ps_for hp hc i1 g1 h1 hs, snds_for i2 g2 h2⟩
theorem sm_while (n : Nat) (ht : TM X C O c mt) (hb : BM X C O O O ss ms) (hp : PassesOwn (model X.prog X.w) X.A X.env X.xe) : SM X C O O Ol (.While c ss [] pos) (mWhile mt ms n) := let ⟨_, t1, t2⟩ := ht; let ⟨_, h1, h2⟩ := hb; ⟨_, ps_while hp t1 h1, snds_while t2 h2⟩
/-! a def's mirror -/
@[simp] def noX {α : Type} (o : Out α) : Out α := match o with
  | .ok a => .ok a
  | _ => .stuck
@[simp] theorem noX_ok {α : Type} (a : α) : noX (.ok a) = .ok a := rfl
theorem Wp.noX {α : Type} {o : Out α} {P : α → Prop} {X X' : Exn → Prop} (h : Wp (noX o) P X) : Wp o P X' := by
  cases o
  · exact h
  · exact h.elim
  · exact h.elim
/-- n parameters, N slots; fr: a new list, dict comes back; nothing is raised -/
@[simp] def fnM (n N : Nat) (fr : Bool) (mb : RE → Out Fl) : List D → Out D := fun ds => if ds.length = n then noX (runB fr mb (startR N ds)) else .stuck
theorem fnM_n {n N : Nat} {fr : Bool} {mb : RE → Out Fl} : ∀ ds, fnM n N fr mb ds ≠ .stuck → ds.length = n := fun ds h => by
  unfold fnM at h
  split at h
  · assumption
  · exact absurd rfl h
theorem fnM_x {n N : Nat} {fr : Bool} {mb : RE → Out Fl} : NoX1 (fnM n N fr mb) := fun ds x h => by
  unfold fnM at h
  split at h
  · unfold Mir.noX at h; split at h <;> cases h
  · cases h
def spN (K : PySem.W.Frag) (n : Nat) (fr : Bool) (m : List D → Out D) : Sp := fun vs H Q _ => spP K n fr m vs H Q E0
end
section
variable {P : Program} {w : World} {K : PySem.W.Frag} {mg : Str → Option Value} {base : Heap}
theorem fn_0 {x qual : Str} {st : Stmt} {f : Addr} {fd : FuncData} {N ps : List Str} {k : Nat} {fr : Bool} {mb : RE → Out Fl} {O' : List Nat} (F : Fun K x qual st f fd) (S : FnScope N ps (defScope st))
    (hb : ∀ (cdv : Value) (A : Around) (outer : List PySem.Env) (s : Shared) (H : Hp) (E : XK), Room k (A.deeper (envOfC qual (defScope st) s.heap.objs.size f cdv)) →
      BM (cxOf CX0 P w K mg base N qual (defScope st) f cdv A outer s H E).nox ⟨[], E0, fr⟩ [] O' [] (defBody st) mb) :
    FnOk P w K mg base CX0 (k + 1) f fd ps (spN K ps.length fr (fnM ps.length N.length fr mb)) := by
  refine F.ok S (fun vs H Q E h => h.1) (fun cdv A outer s H vs Q E hr h => ?_)
  obtain ⟨hl, ds, G, sub, rep, wp⟩ := h
  obtain ⟨ts, hp, hs⟩ := hb cdv A outer s H E hr
  refine ⟨ts, hp, hs _ _ _ _ _ _ (rr_start sub rep) (body_post ?_ _ _)⟩
  unfold fnM at wp
  split at wp
  · exact wp.noX
  · exact wp.elim
end
section
variable {K : PySem.W.Frag} {C : Cf} {O : List Nat}
theorem snd_call0 {ta : TA} {ms : RE → Out (List Opd × RE)} {n : Nat} {m : List D → Out D} {dd : List D} {dvs : List V} (hn : ∀ ds, m ds ≠ .stuck → ds.length = n) (nx : NoX1 m) (hd : ∀ G, RepL K G dd dvs) (h : SndA K C O ta ms) : Snd K C O (tCall (spN K n false m) dvs E0 ta) (mCall m dd ms) := fun c σ H G r Q R w => by
  refine h c σ H G r _ R ((Wp.bnd w).mono (fun p q vs H1 G1 R1 s1 h1 => ?_) fun _ x => x)
  cases e : valsO p.1 with
  | none => simp only [e] at q; exact q.elim
  | some ds =>
    simp only [e] at q
    have rl := repL_app (h1.vals e) (hd G1)
    refine ⟨?_, ds ++ dd, G1, R1.gh, rl, ?_⟩
    · rw [← repL_len rl]
      refine hn _ fun z => ?_
      rw [z] at q; exact q
    · obtain ⟨d, hd', q2⟩ := wp_f1 nx q
      rw [hd']
      show PostP K false H1 G1 Q d
      unfold PostP
      rw [if_neg Bool.false_ne_true]
      exact fun v H' G' a hv => q2 v H' G' (RR.call R1 a) (s1.trans a.sub) hv
theorem sndf_call0 {ta : TA} {ms : RE → Out (List Opd × RE)} {n : Nat} {m : List D → Out D} {dd : List D} {dvs : List V} (hn : ∀ ds, m ds ≠ .stuck → ds.length = n) (nx : NoX1 m) (hd : ∀ G, RepL K G dd dvs) (h : SndA K C O ta ms) : SndF K C O (tCall (spN K n true m) dvs E0 ta) (mCall m dd ms) := fun c σ H G r Q R w => by
  refine h c σ H G r _ R ((Wp.bnd w).mono (fun p q vs H1 G1 R1 s1 h1 => ?_) fun _ x => x)
  cases e : valsO p.1 with
  | none => simp only [e] at q; exact q.elim
  | some ds =>
    simp only [e] at q
    have rl := repL_app (h1.vals e) (hd G1)
    refine ⟨?_, ds ++ dd, G1, R1.gh, rl, ?_⟩
    · rw [← repL_len rl]
      refine hn _ fun z => ?_
      rw [z] at q; exact q
    · obtain ⟨d, hd', q2⟩ := wp_f1 nx q
      rw [hd']
      show PostP K true H1 G1 Q d
      unfold PostP
      rw [if_pos rfl]
      exact fun b H' G' a g1 h2 o => q2 b H' G' (RR.call R1 a) (s1.trans a.sub) ⟨g1, RR.heNone R1 h2, fun i hi hs => (R1.ow i b hi hs).2.2.2 h2, o⟩
end
section
variable {X : Cx} {C : Cf} {O : List Nat} {e : PySem.Expr} {es : List PySem.Expr} {pos p : Pos} {x : Str} {as_ : RE → Out (List Opd × RE)}
/-- what is known of a def of the text that raises nothing -/
structure Fn0 (P : Program) (w : World) (K : PySem.W.Frag) (mg : Str → Option Value) (base : Heap) (k : Nat) (x : Str) (n : Nat) (fr : Bool) (mf : List D → Out D) : Prop where
  ex : ∃ f fd ps, FnOk P w K mg base CX0 k f fd ps (spN K n fr mf) ∧ mg x = some (.ref f) ∧ PySem.W.keepIn K (.ref f) = true ∧ Binds K fd ps []
  hn : ∀ ds, mf ds ≠ .stuck → ds.length = n
  nx : NoX1 mf
theorem e0 {k j n : Nat} {mf : List D → Out D} (F : Fn0 X.prog X.w X.K X.mg X.base k x n false mf) (hr : Room j X.A) (h : AM X C O (e :: es) as_) (hj : k ≤ j := by decide) (hg : Gl X x := by rfl) (hdb : (x == ("__debug__" : Str)) = false := by decide) (he : starEach (e :: es) X.env = (false, eval e X.env) :: starEach es X.env := by rfl)
    (hpl : (backTo pos (starEach es X.env)).any (·.1) = false := by rfl) : EM X C O (.Call (.Name x p) (e :: es) [] pos) (mCall mf [] as_) := by
  obtain ⟨_, h1, h2⟩ := h
  obtain ⟨f, fd, ps, F1, F2, F3, F4⟩ := F.ex
  exact ⟨_, pe_call F1 (hr.mono hj) hg F2 F3 F4 .nil pass0 h1 hdb he hpl, snd_call0 F.hn F.nx (fun _ => by simp only [RepL]) h2⟩
theorem f0 {k j n : Nat} {mf : List D → Out D} (F : Fn0 X.prog X.w X.K X.mg X.base k x n true mf) (hr : Room j X.A) (h : AM X C O (e :: es) as_) (hj : k ≤ j := by decide) (hg : Gl X x := by rfl) (hdb : (x == ("__debug__" : Str)) = false := by decide) (he : starEach (e :: es) X.env = (false, eval e X.env) :: starEach es X.env := by rfl)
    (hpl : (backTo pos (starEach es X.env)).any (·.1) = false := by rfl) : FM X C O (.Call (.Name x p) (e :: es) [] pos) (mCall mf [] as_) := by
  obtain ⟨_, h1, h2⟩ := h
  obtain ⟨f, fd, ps, F1, F2, F3, F4⟩ := F.ex
  exact ⟨_, pe_call F1 (hr.mono hj) hg F2 F3 F4 .nil pass0 h1 hdb he hpl, sndf_call0 F.hn F.nx (fun _ => by simp only [RepL]) h2⟩
end
section
variable {P : Program} {w : World} {K : PySem.W.Frag} {mg : Str → Option Value} {base : Heap}
theorem fn0_mk {x qual : Str} {st : Stmt} {f : Addr} {fd : FuncData} {N ps : List Str} {k : Nat} {fr : Bool} {mb : RE → Out Fl} {O' : List Nat} (F : Fun K x qual st f fd) (S : FnScope N ps (defScope st)) (hg : mg x = some (.ref f)) (hbi : Binds K fd ps [])
    (hb : ∀ (cdv : Value) (A : Around) (outer : List PySem.Env) (s : Shared) (H : Hp) (E : XK), Room k (A.deeper (envOfC qual (defScope st) s.heap.objs.size f cdv)) →
      BM (cxOf CX0 P w K mg base N qual (defScope st) f cdv A outer s H E).nox ⟨[], E0, fr⟩ [] O' [] (defBody st) mb) :
    Fn0 P w K mg base (k + 1) x ps.length fr (fnM ps.length N.length fr mb) := ⟨⟨f, fd, ps, fn_0 F S hb, hg, F.kp, hbi⟩, fnM_n, fnM_x⟩
end
end Mir

set_option maxHeartbeats 4000000
namespace Mir
open PySem PySem.Spec PyProof.Rows L2
/-! ## dicts -/
def valD (kvs : List (Key × D)) (k : Key) : Option D := (kvs.find? fun kv => decide (kv.1 = k)).map (·.2)
def hasD (kvs : List (Key × D)) (k : Key) : Bool := kvs.any fun kv => decide (kv.1 = k)
def putD (kvs : List (Key × D)) (k : Key) (v : D) : List (Key × D) :=
  if hasD kvs k = true then kvs.map (fun kv => if kv.1 = k then (kv.1, v) else kv) else kvs ++ [(k, v)]
def dropD (kvs : List (Key × D)) (k : Key) : List (Key × D) := kvs.filter fun kv => decide (kv.1 ≠ k)
def mergeD (kvs more : List (Key × D)) : List (Key × D) := more.foldl (fun acc kv => putD acc kv.1 kv.2) kvs
@[simp] def keyD : D → Option Key
  | .int i => some (.inl i)
  | .str x => some (.inr x)
  | _ => none
def ofKey : Key → D
  | .inl i => .int i
  | .inr x => .str x
section
variable {K : PySem.W.Frag} {C : Cf} {c : Fm} {I O O' : List Nat} {σ σ' : L2.St} {H G H' G' : Hp} {r r' : RE}
theorem keyD_rep {d : D} {k : Key} {v : V} (e : keyD d = some k) (h : RepD K G d v) : v = kV k := by
  cases d <;> simp only [keyD, reduceCtorEq, Option.some.injEq] at e <;> subst e <;> simpa only [RepD, kV] using h
theorem keyD_repT {d : D} {k : Key} {v : V} (e : keyD d = some k) (h : RepT K H G d v) : v = kV k := by
  cases d <;> simp only [keyD, reduceCtorEq, Option.some.injEq] at e <;> subst e <;> simpa only [RepT, RepD, kV] using h
theorem repD_key {k : Key} : RepD K G (ofKey k) (kV k) := by cases k <;> simp only [ofKey, kV, RepD]
theorem repK_len : ∀ {ds : List (Key × D)} {vs : List (Key × V)}, RepK K G ds vs → ds.length = vs.length
  | [], vs, h => by simp only [RepK] at h; rw [h]; rfl
  | (k, d) :: ds, vs, h => by
    simp only [RepK] at h
    obtain ⟨v, us, e, _, t⟩ := h
    rw [e, List.length_cons, List.length_cons, repK_len t]
theorem repK_app : ∀ {ds es : List (Key × D)} {vs us : List (Key × V)}, RepK K G ds vs → RepK K G es us → RepK K G (ds ++ es) (vs ++ us)
  | [], es, vs, us, h, k => by simp only [RepK] at h; subst h; exact k
  | (k', d) :: ds, es, vs, us, h, k => by
    simp only [RepK] at h
    obtain ⟨v, ws, e, q, t⟩ := h
    subst e
    show RepK K G ((k', d) :: (ds ++ es)) ((k', v) :: (ws ++ us))
    simp only [RepK]
    exact ⟨v, ws ++ us, rfl, q, repK_app t k⟩
theorem repK_has {k : Key} : ∀ {ds : List (Key × D)} {vs : List (Key × V)}, RepK K G ds vs → hasD ds k = vs.any fun kv => decide (kv.1 = k)
  | [], vs, h => by simp only [RepK] at h; rw [h]; rfl
  | (k', d) :: ds, vs, h => by
    simp only [RepK] at h
    obtain ⟨v, us, e, _, t⟩ := h
    rw [e]
    have := repK_has (k := k) t
    unfold hasD at this ⊢
    rw [List.any_cons, List.any_cons, this]
theorem repK_val {k : Key} : ∀ {ds : List (Key × D)} {vs : List (Key × V)}, RepK K G ds vs → (valD ds k = none ∧ valV vs k = none) ∨ ∃ d v, valD ds k = some d ∧ valV vs k = some v ∧ RepD K G d v
  | [], vs, h => by simp only [RepK] at h; rw [h]; exact .inl ⟨rfl, rfl⟩
  | (k', d) :: ds, vs, h => by
    simp only [RepK] at h
    obtain ⟨v, us, e, q, t⟩ := h
    rw [e]
    unfold valD valV
    rw [List.find?_cons, List.find?_cons]
    by_cases hk : k' = k
    · simp only [hk, decide_true]
      exact .inr ⟨d, v, rfl, rfl, q⟩
    · simp only [hk, decide_false]
      exact repK_val t
theorem repK_map {k : Key} {d : D} {v : V} (h : RepD K G d v) : ∀ {ds : List (Key × D)} {vs : List (Key × V)}, RepK K G ds vs → RepK K G (ds.map fun kv => if kv.1 = k then (kv.1, d) else kv) (vs.map fun kv => if kv.1 = k then (kv.1, v) else kv)
  | [], vs, q => by simp only [RepK] at q; subst q; simp only [List.map_nil, RepK]
  | (k', d') :: ds, vs, q => by
    simp only [RepK] at q
    obtain ⟨v', us, e, q', t⟩ := q
    subst e
    rw [List.map_cons, List.map_cons]
    have := repK_map (k := k) h t
    by_cases hk : k' = k
    · simp only [hk, if_true, RepK]
      exact ⟨v, _, rfl, h, this⟩
    · simp only [if_neg hk, RepK]
      exact ⟨v', _, rfl, q', this⟩
theorem repK_put {k : Key} {d : D} {v : V} {ds : List (Key × D)} {vs : List (Key × V)} (h : RepD K G d v) (q : RepK K G ds vs) : RepK K G (putD ds k d) (putK vs k v) := by
  unfold putD putK
  rw [repK_has q]
  split
  · exact repK_map h q
  · exact repK_app q (by simp only [RepK]; exact ⟨v, [], rfl, h, rfl⟩)
theorem repK_merge : ∀ {ms ds : List (Key × D)} {us vs : List (Key × V)}, RepK K G ms us → RepK K G ds vs → RepK K G (mergeD ds ms) (mergeK vs us)
  | [], ds, us, vs, h, q => by simp only [RepK] at h; subst h; exact q
  | (k, d) :: ms, ds, us, vs, h, q => by
    simp only [RepK] at h
    obtain ⟨v, us', e, hd, t⟩ := h
    subst e
    exact repK_merge (ds := putD ds k d) (vs := putK vs k v) t (repK_put hd q)
/-- {} -/
@[simp] def mDnew : RE → Out (D × RE) := fun r => .ok (.dic [], r)
theorem sndf_dnew : SndF K C O tDNewK mDnew := fun c σ H G r Q R w p hp => by
  obtain ⟨R1, f1⟩ := fresh_of (o := .dK []) (d := .dic []) R hp ⟨p, [], rfl, upd_same, by simp only [RepK]⟩
  exact w p _ G R1 (Sub.refl G) f1
/-- {k: v, ..} -/
def SndPr (K : PySem.W.Frag) (C : Cf) (O : List Nat) (trs : List (TE × TE)) (m : RE → Out (List (Key × D) × RE)) : Prop := ∀ (c : Fm) (σ : L2.St) (H G : Hp) (r : RE) (Q : List (V × V) → Hp → Prop), RR K c C.I O σ H G r →
  Wp (m r) (fun p => ∀ kvs H' G', RR K c C.I O σ H' G' p.2 → Sub G G' → RepK K G' p.1 kvs → Q (kvs.map fun kv => (kV kv.1, kv.2)) H') (XP K c C.E) → tPairs trs σ H Q
@[simp] def mPr0 : RE → Out (List (Key × D) × RE) := fun r => .ok ([], r)
@[simp] def mPr (mk mv : RE → Out (D × RE)) (mr : RE → Out (List (Key × D) × RE)) : RE → Out (List (Key × D) × RE) := fun r => (mk r).bnd fun k => (mv k.2).bnd fun v => (mr v.2).bnd fun q => match keyD k.1 with
  | some key => .ok ((key, v.1) :: q.1, q.2)
  | none => .stuck
theorem sndpr_nil : SndPr K C O [] mPr0 := fun c σ H G r Q R w => w [] H G R (Sub.refl G) (by simp only [RepK])
theorem sndpr_cons {tk tv : TE} {trs : List (TE × TE)} {mk mv : RE → Out (D × RE)} {mr : RE → Out (List (Key × D) × RE)} (hk : Snd K C O tk mk) (hv : Snd K C O tv mv) (hr : SndPr K C O trs mr) : SndPr K C O ((tk, tv) :: trs) (mPr mk mv mr) := fun c σ H G r Q R w => by
  refine hk c σ H G r _ R ((Wp.bnd w).mono (fun p q v1 H1 G1 R1 s1 h1 => ?_) fun _ x => x)
  refine hv c σ H1 G1 p.2 _ R1 ((Wp.bnd q).mono (fun p2 q2 v2 H2 G2 R2 s2 h2 => ?_) fun _ x => x)
  refine hr c σ H2 G2 p2.2 _ R2 ((Wp.bnd q2).mono (fun p3 q3 kvs H3 G3 R3 s3 h3 => ?_) fun _ x => x)
  cases e : keyD p.1 with
  | none => simp only [e] at q3; exact q3.elim
  | some key =>
    simp only [e] at q3
    have e1 := keyD_rep e h1
    subst e1
    exact q3 ((key, v2) :: kvs) H3 G3 R3 ((s1.trans s2).trans s3) (by simp only [RepK]; exact ⟨v2, kvs, rfl, h2.mono s3, h3⟩)
@[simp] def mDisp (mp : RE → Out (List (Key × D) × RE)) : RE → Out (D × RE) := fun r => (mp r).bnd fun p => if p.1.length ≤ 15 then .ok (.dic (mergeD [] p.1), p.2) else .stuck
theorem sndf_disp {trs : List (TE × TE)} {mp : RE → Out (List (Key × D) × RE)} (hI : ∀ i ∈ C.I, i ∈ O) (h : SndPr K ⟨O, C.E, C.fr⟩ O trs mp) : SndF K C O (tDisp trs) (mDisp mp) := fun c σ H G r Q R w p hp => by
  have R1 : RR K c C.I O σ (upd H p (.dK [])) G r := R.ext (Ext.alloc0 R.gh hp)
  have RE1 := R1.enter
  have hoD : ∀ i : Nat, i ∈ O → σ[i]? ≠ some (some (.ref p)) := fun i hi hs => (R.ow i p hi hs).2.2.2 hp
  have nD : p ∉ exO O σ := fun z => by
    obtain ⟨i, hi, hs⟩ := mem_exO.mp z
    exact hoD i hi hs
  have heD : c.He p = none := RR.heNone (C := C) R hp
  have hxD : p ∉ c.ex := fun z => R.xk p z hp
  refine h _ σ _ G r _ RE1 ((Wp.bnd w).mono (fun q hq kvs H2 G2 R2 s2 h2 => ?_) fun x hx => XP.nest R1 hx)
  have R3 := RR.leave R1 R2 fun _ _ => rfl
  obtain ⟨_, k3, _⟩ := R2.ke p _ upd_same nD
  have g2 : G2 p = none := by
    cases e : G2 p with
    | none => rfl
    | some u =>
      rcases R2.gr p u e with z | z
      · exact absurd (R.gh.no hp) z
      · have z' : upd H p (.dK []) p = none := z
        rw [upd_same] at z'; cases z'
  refine ⟨k3 (R.gh.no hp), kvs, rfl, ?_, ?_⟩
  · rw [← repK_len h2]
    split at hq
    · assumption
    · exact hq.elim
  · split at hq
    · exact hq p _ G2 (RR.other R3 g2 heD hxD hoD) s2 ⟨g2, heD, hoD, ⟨p, _, rfl, upd_same, repK_merge h2 (by simp only [RepK])⟩⟩
    · exact hq.elim
end
section
variable {X : Cx} {C : Cf} {O O' : List Nat} {pos : Pos} {k v : PySem.Expr} {ks : List (Option PySem.Expr)} {vs : List PySem.Expr} {mk mv : RE → Out (D × RE)} {mr mp : RE → Out (List (Key × D) × RE)}
theorem fm_dnew : FM X C O (.Dict [] [] pos) mDnew := ⟨_, pe_dnewK, sndf_dnew⟩
def PrM (X : Cx) (C : Cf) (O : List Nat) (pos : Pos) (ks : List (Option PySem.Expr)) (vs : List PySem.Expr) (m : RE → Out (List (Key × D) × RE)) : Prop := ∃ trs, PPs X pos ks vs trs ∧ SndPr X.K C O trs m
theorem prm_nil : PrM X C O pos [] [] mPr0 := ⟨_, pps_nil, sndpr_nil⟩
theorem prm_cons (hk : EM X C O k mk) (hv : EM X C O v mv) (hr : PrM X C O pos ks vs mr) : PrM X C O pos (some k :: ks) (v :: vs) (mPr mk mv mr) := let ⟨_, k1, k2⟩ := hk; let ⟨_, v1, v2⟩ := hv; let ⟨_, r1, r2⟩ := hr; ⟨_, pps_cons k1 v1 r1, sndpr_cons k2 v2 r2⟩
theorem fm_disp (h : PrM X ⟨O, C.E, C.fr⟩ O pos ks vs mp) (hI : ∀ i ∈ C.I, i ∈ O := by decide) (hall : ks.all (·.isSome) = true := by rfl) (hl : ks.length = vs.length := by rfl) (h0 : ks ≠ [] := by intro z; cases z) (h15 : ks.length ≤ 15 := by decide) : FM X C O (.Dict ks vs pos) (mDisp mp) :=
  let ⟨_, h1, h2⟩ := h; ⟨_, pe_disp h1 hall hl h0 h15, sndf_disp hI h2⟩
end
end Mir

namespace Mir
open PySem L2
/-! ## plain facts of mirrors -/
theorem mSeq_assoc (a b c : RE → Out Fl) : mSeq a (mSeq b c) = mSeq (mSeq a b) c := by
  funext r
  simp only [mSeq]
  cases a r with
  | ok f => cases f <;> rfl
  | exc x => rfl
  | stuck => rfl
theorem drop_step {α : Type} {xs ys : List α} {y : α} {i : Nat} (hd : xs.drop i = y :: ys) : xs[i]? = some y ∧ xs.drop (i + 1) = ys ∧ i + 1 ≤ xs.length := by
  have hx : xs[i]? = some y := by
    have := congrArg List.head? hd
    rw [List.head?_drop] at this
    exact this
  refine ⟨hx, ?_, (List.getElem?_eq_some_iff.mp hx).1⟩
  rw [← List.drop_drop, hd]; rfl
/-- a loop that runs through: what holds by the turn -/
theorem loop_inv0 {st : D → RE → Option RE} {b : RE → Out Fl} (P : Nat → RE → Prop) {xs : List D}
    (hs : ∀ (i : Nat) (x : D) (r : RE), xs[i]? = some x → P i r → ∃ r1 r2, st x r = some r1 ∧ (b r1 = .ok (.nx r2) ∨ b r1 = .ok (.ct r2)) ∧ P (i + 1) r2) : ∀ {ys : List D} {i : Nat} {r : RE}, i ≤ xs.length → xs.drop i = ys → P i r → ∃ r', mLoop st b ys r = .ok (.nx r') ∧ P xs.length r'
  | [], i, r, hi, hd, hP => by
    have h : xs.length ≤ i := List.drop_eq_nil_iff.mp hd
    have e : i = xs.length := by omega
    exact ⟨r, rfl, e ▸ hP⟩
  | y :: ys, i, r, hi, hd, hP => by
    obtain ⟨hx, hd', hi'⟩ := drop_step hd
    obtain ⟨r1, r2, h1, h2, h3⟩ := hs i y r hx hP
    obtain ⟨r', h4, h5⟩ := loop_inv0 P hs (i := i + 1) (r := r2) hi' hd' h3
    refine ⟨r', ?_, h5⟩
    unfold mLoop
    rw [h1]
    rcases h2 with h2 | h2 <;> simp only [h2, bnd_ok, h4]
theorem loop_inv {st : D → RE → Option RE} {b : RE → Out Fl} (P : Nat → RE → Prop) {xs : List D} {r : RE} (h0 : P 0 r)
    (hs : ∀ (i : Nat) (x : D) (r : RE), xs[i]? = some x → P i r → ∃ r1 r2, st x r = some r1 ∧ (b r1 = .ok (.nx r2) ∨ b r1 = .ok (.ct r2)) ∧ P (i + 1) r2) : ∃ r', mLoop st b xs r = .ok (.nx r') ∧ P xs.length r' :=
  loop_inv0 P hs (i := 0) (Nat.zero_le _) (by simp) h0
/-- a comprehension -/
theorem comp_inv0 {vs : List Nat} {st : D → RE → Option RE} {mt : RE → Out (Bool × RE)} {me : RE → Out (D × RE)} (P : Nat → List D → RE → Prop) {xs : List D}
    (hs : ∀ (i : Nat) (x : D) (acc : List D) (r : RE), xs[i]? = some x → P i acc r → ∃ r1 b r2, st x r = some r1 ∧ mt r1 = .ok (b, r2) ∧ (b = true → ∃ d r3, me r2 = .ok (d, r3) ∧ acc.length < 1000000 ∧ P (i + 1) (acc ++ [d]) (wipeR r3 vs)) ∧ (b = false → P (i + 1) acc (wipeR r2 vs))) :
    ∀ {ys : List D} {i : Nat} {acc : List D} {r : RE}, i ≤ xs.length → xs.drop i = ys → P i acc r → ∃ acc' r', mCompL vs st mt me ys r acc = .ok (acc', r') ∧ P xs.length acc' r'
  | [], i, acc, r, hi, hd, hP => by
    have h : xs.length ≤ i := List.drop_eq_nil_iff.mp hd
    have e : i = xs.length := by omega
    exact ⟨acc, r, rfl, e ▸ hP⟩
  | y :: ys, i, acc, r, hi, hd, hP => by
    obtain ⟨hx, hd', hi'⟩ := drop_step hd
    obtain ⟨r1, b, r2, h1, h2, h3, h4⟩ := hs i y acc r hx hP
    unfold mCompL
    rw [h1]
    cases b with
    | true =>
      obtain ⟨d, r3, h5, h6, h7⟩ := h3 rfl
      obtain ⟨acc', r', h8, h9⟩ := comp_inv0 P hs (i := i + 1) hi' hd' h7
      exact ⟨acc', r', by simp only [h2, bnd_ok, if_true, h5, if_pos h6, h8], h9⟩
    | false =>
      obtain ⟨acc', r', h8, h9⟩ := comp_inv0 P hs (i := i + 1) hi' hd' (h4 rfl)
      exact ⟨acc', r', by simp only [h2, bnd_ok, Bool.false_eq_true, if_false, h8], h9⟩
theorem comp_inv {vs : List Nat} {st : D → RE → Option RE} {mt : RE → Out (Bool × RE)} {me : RE → Out (D × RE)} (P : Nat → List D → RE → Prop) {xs : List D} {r : RE} (h0 : P 0 [] r)
    (hs : ∀ (i : Nat) (x : D) (acc : List D) (r : RE), xs[i]? = some x → P i acc r → ∃ r1 b r2, st x r = some r1 ∧ mt r1 = .ok (b, r2) ∧ (b = true → ∃ d r3, me r2 = .ok (d, r3) ∧ acc.length < 1000000 ∧ P (i + 1) (acc ++ [d]) (wipeR r3 vs)) ∧ (b = false → P (i + 1) acc (wipeR r2 vs))) :
    ∃ acc' r', mCompL vs st mt me xs r [] = .ok (acc', r') ∧ P xs.length acc' r' := comp_inv0 P hs (i := 0) (Nat.zero_le _) (by simp) h0
/-- a comprehension whose turns hang on nothing but the item: map and filter -/
theorem comp_map {vs : List Nat} {st : D → RE → Option RE} {mt : RE → Out (Bool × RE)} {me : RE → Out (D × RE)} (p : D → Bool) (f : D → D) {r : RE} : ∀ (xs : List D) (acc : List D),
    (∀ x ∈ xs, ∃ r1 r2, st x r = some r1 ∧ mt r1 = .ok (p x, r2) ∧ wipeR r2 vs = r ∧ (p x = true → ∃ r3, me r2 = .ok (f x, r3) ∧ wipeR r3 vs = r)) → acc.length + xs.length ≤ 1000000 →
    mCompL vs st mt me xs r acc = .ok (acc ++ (xs.filter p).map f, r)
  | [], acc, _, _ => by simp [mCompL]
  | x :: xs, acc, h, hl => by
    obtain ⟨r1, r2, h1, h2, h3, h4⟩ := h x List.mem_cons_self
    rw [List.length_cons] at hl
    unfold mCompL
    rw [h1]
    simp only [h2, bnd_ok]
    by_cases hp : p x = true
    · obtain ⟨r3, h5, h6⟩ := h4 hp
      rw [if_pos hp, h5]
      simp only [bnd_ok]
      rw [if_pos (by omega), h6, comp_map p f xs (acc ++ [f x]) (fun y hy => h y (List.mem_cons_of_mem _ hy)) (by rw [List.length_append, List.length_singleton]; omega)]
      rw [List.filter_cons_of_pos hp, List.map_cons, List.append_assoc]
      rfl
    · rw [if_neg hp, h3, comp_map p f xs acc (fun y hy => h y (List.mem_cons_of_mem _ hy)) (by omega)]
      rw [List.filter_cons_of_neg hp]
theorem comp_all {vs : List Nat} {st : D → RE → Option RE} {mt : RE → Out (Bool × RE)} {me : RE → Out (D × RE)} (f : D → D) {r : RE} (xs : List D)
    (h : ∀ x ∈ xs, ∃ r1 r2 r3, st x r = some r1 ∧ mt r1 = .ok (true, r2) ∧ me r2 = .ok (f x, r3) ∧ wipeR r2 vs = r ∧ wipeR r3 vs = r) (hl : xs.length ≤ 1000000) :
    mCompL vs st mt me xs r [] = .ok (xs.map f, r) := by
  have := comp_map (vs := vs) (st := st) (mt := mt) (me := me) (r := r) (fun _ => true) f xs [] (fun x hx => by
    obtain ⟨r1, r2, r3, h1, h2, h3, h4, h5⟩ := h x hx
    exact ⟨r1, r2, h1, h2, h4, fun _ => ⟨r3, h3, h5⟩⟩) (by rw [List.length_nil]; omega)
  rw [this, List.filter_eq_self.mpr (fun _ _ => rfl), List.nil_append]
theorem atI_in {α : Type} {xs : List α} {i : Int} (h0 : 0 ≤ i) (h1 : i < xs.length) : ∃ x, atI xs i = some x ∧ xs[i.toNat]? = some x := by
  have hi : i.toNat < xs.length := by omega
  have e : ((i.toNat : Nat) : Int) = i := by omega
  refine ⟨xs[i.toNat], ?_, List.getElem?_eq_getElem hi⟩
  have := atI_nat (List.getElem?_eq_getElem hi)
  rw [e] at this
  exact this
theorem rangeD_mem {lo : Int} {n : Nat} {x : D} {i : Nat} (h : (rangeD lo n)[i]? = some x) : x = .int (lo + i) ∧ i < n := by
  have hi : i < n := by
    have := (List.getElem?_eq_some_iff.mp h).1
    rwa [rangeD_len] at this
  rw [rangeD_get hi] at h
  exact ⟨(Option.some.inj h).symm, hi⟩
end Mir

namespace Mir
open PySem L2
theorem repL_ints {K : PySem.W.Frag} {G : Hp} : ∀ ns : List Int, RepL K G (ns.map D.int) (ns.map V.int)
  | [] => by simp only [List.map_nil, RepL]
  | n :: ns => by
    rw [List.map_cons, List.map_cons]
    simp only [RepL]
    exact ⟨_, _, rfl, repD_int, repL_ints ns⟩
theorem law_end {K : PySem.W.Frag} {H : Hp} {a : Addr} {ns : List Int} {m : List D → Out D} {Q : VK} {E : XK} (hS : SqL K H a (ns.map V.int)) (e : m [.frl (ns.map D.int)] = .ok (.bl true)) (k : ∀ H', Q (.bl true) H') : spN K 1 false m [.ref a] H Q E := by
  refine ⟨rfl, [.frl (ns.map D.int)], H, Sub.refl H, ?_, ?_⟩
  · simp only [RepL, RepD]
    exact ⟨_, _, rfl, ⟨a, _, rfl, hS, repL_ints ns⟩, rfl⟩
  · rw [e]
    show PostP K false H H Q (.bl true)
    unfold PostP
    rw [if_neg Bool.false_ne_true]
    intro v H' G' _ hv
    simp only [RepD] at hv
    subst hv
    exact k H'
end Mir

set_option maxHeartbeats 4000000
namespace K01
open PySem L2 Mir
def top (i : Nat) : Stmt := PySem.Challenge.pw_knownlate_k01_names_and_states.main.body.getD i (.Pass ⟨0, 0, 0, 0⟩)
structure Txt (K : PySem.W.Frag) (mg : Str → Option Value) : Prop where
  n_bool : mg (Str.ofString "bool") = none
  n_int : mg (Str.ofString "int") = none
  n_isinstance : mg (Str.ofString "isinstance") = none
  n_len : mg (Str.ofString "len") = none
  n_range : mg (Str.ofString "range") = none
  n_str : mg (Str.ofString "str") = none
  c_LETTERS : ∃ t, mg (Str.ofString "LETTERS") = some (.str (Str.ofString "abcdefghijklmnopqrstuvwxyz") t)
  c_MOST_LETTERS : ∃ t, mg (Str.ofString "MOST_LETTERS") = some (.int 12 t)
  c_MOST_STATE : ∃ t, mg (Str.ofString "MOST_STATE") = some (.int 99 t)

section
variable {P : Program} {w : World} {K : PySem.W.Frag} {mg : Str → Option Value} {base : Heap}

/-! ### is_integer -/
abbrev s_is_integer : Stmt := top 4
abbrev N_is_integer : List Str := [Str.ofString "value"]
theorem sc_is_integer : FnScope N_is_integer [Str.ofString "value"] (defScope s_is_integer) := ⟨rfl, rfl, rfl, by decide +kernel, rfl, by decide +kernel, by decide +kernel⟩

def b_is_integer : RE → Out Fl :=
      (mRet (mAnd (mArgs (d2 dIsi) (mCons (mVal (mVar 0)) (mCons (mVal (mC (.ty "int"))) mNil))) (mNot (mArgs (d2 dIsi) (mCons (mVal (mVar 0)) (mCons (mVal (mC (.ty "bool"))) mNil))))))
def f_is_integer : List D → Out D := fnM 1 1 false b_is_integer

theorem ok_is_integer {f : Addr} {fd : FuncData} (T : Txt K mg) (F : Fun K (Str.ofString "is_integer") (Str.ofString "is_integer") s_is_integer f fd) (hg : mg (Str.ofString "is_integer") = some (.ref f)) (hb : Binds K fd [Str.ofString "value"] [])  : Fn0 P w K mg base 1 (Str.ofString "is_integer") 1 false f_is_integer :=
  fn0_mk (k := 0) (mb := b_is_integer) (O' := []) F sc_is_integer hg hb fun cdv A outer s H E hr =>
      (bm_one (sm_ret (em_and (em_isi T.n_isinstance (om (em_var 0)) (om (em_ty T.n_int (by decide +kernel)))) (em_one (em_not (em_isi T.n_isinstance (om (em_var 0)) (om (em_ty T.n_bool (by decide +kernel)))))))))

/-! ### is_count -/
abbrev s_is_count : Stmt := top 5
abbrev N_is_count : List Str := [Str.ofString "value", Str.ofString "most"]
theorem sc_is_count : FnScope N_is_count [Str.ofString "value", Str.ofString "most"] (defScope s_is_count) := ⟨rfl, rfl, rfl, by decide +kernel, rfl, by decide +kernel, by decide +kernel⟩

def b_is_count : RE → Out Fl :=
      (mRet (mAnd (mCall f_is_integer [] (mCons (mVal (mVar 0)) mNil)) (mChain dLe dLe (mVal (mC (.int 0))) (mVal (mVar 0)) (mVal (mVar 1)))))
def f_is_count : List D → Out D := fnM 2 2 false b_is_count

theorem ok_is_count {f : Addr} {fd : FuncData} (T : Txt K mg) (F : Fun K (Str.ofString "is_count") (Str.ofString "is_count") s_is_count f fd) (hg : mg (Str.ofString "is_count") = some (.ref f)) (hb : Binds K fd [Str.ofString "value", Str.ofString "most"] []) (F_is_integer : Fn0 P w K mg base 1 (Str.ofString "is_integer") 1 false f_is_integer) : Fn0 P w K mg base 2 (Str.ofString "is_count") 2 false f_is_count :=
  fn0_mk (k := 1) (mb := b_is_count) (O' := []) F sc_is_count hg hb fun cdv A outer s H E hr =>
      (bm_one (sm_ret (em_and (e0 F_is_integer hr (am_cons (om (em_var 0)) am_nil)) (em_one (ech k_le k_le (om em_int) (om (em_var 0)) (om (em_var 1)))))))

/-! ### is_state -/
abbrev s_is_state : Stmt := top 6
abbrev N_is_state : List Str := [Str.ofString "value"]
theorem sc_is_state : FnScope N_is_state [Str.ofString "value"] (defScope s_is_state) := ⟨rfl, rfl, rfl, by decide +kernel, rfl, by decide +kernel, by decide +kernel⟩

def b_is_state : RE → Out Fl :=
      (mRet (mCall f_is_count [] (mCons (mVal (mVar 0)) (mCons (mVal (mC (.int 99))) mNil))))
def f_is_state : List D → Out D := fnM 1 1 false b_is_state

theorem ok_is_state {f : Addr} {fd : FuncData} (T : Txt K mg) (F : Fun K (Str.ofString "is_state") (Str.ofString "is_state") s_is_state f fd) (hg : mg (Str.ofString "is_state") = some (.ref f)) (hb : Binds K fd [Str.ofString "value"] []) (F_is_count : Fn0 P w K mg base 2 (Str.ofString "is_count") 2 false f_is_count) : Fn0 P w K mg base 3 (Str.ofString "is_state") 1 false f_is_state :=
  fn0_mk (k := 2) (mb := b_is_state) (O' := []) F sc_is_state hg hb fun cdv A outer s H E hr =>
      (bm_one (sm_ret (e0 F_is_count hr (am_cons (om (em_var 0)) (am_cons (om (em_gint T.c_MOST_STATE)) am_nil)))))

/-! ### is_name -/
abbrev s_is_name : Stmt := top 7
abbrev N_is_name : List Str := [Str.ofString "value", Str.ofString "letter"]
theorem sc_is_name : FnScope N_is_name [Str.ofString "value"] (defScope s_is_name) := ⟨rfl, rfl, rfl, by decide +kernel, rfl, by decide +kernel, by decide +kernel⟩

def b_is_name : RE → Out Fl :=
      (mSeq (mIf (mTOr (mTNot (mTruth (mVal (mArgs (d2 dIsi) (mCons (mVal (mVar 0)) (mCons (mVal (mC (.ty "str"))) mNil)))))) (mTNot (mBool (mChain dLe dLe (mVal (mC (.int 1))) (mVal (mArgs (d1 dLen) (mCons (mVal (mVar 0)) mNil))) (mVal (mC (.int 12)))))))
        (mRet (mC (.bl false)))
        mNext)
      (mSeq (mFor (mItem asS (mVar 0)) (stName 1)
        (mIf (mBool (mOp2 dNotInS (mVal (mVar 1)) (mVal (mC (.str (Str.ofString "abcdefghijklmnopqrstuvwxyz"))))))
          (mRet (mC (.bl false)))
          mNext))
      (mRet (mC (.bl true)))))
def f_is_name : List D → Out D := fnM 1 2 false b_is_name

theorem ok_is_name {f : Addr} {fd : FuncData} (T : Txt K mg) (F : Fun K (Str.ofString "is_name") (Str.ofString "is_name") s_is_name f fd) (hg : mg (Str.ofString "is_name") = some (.ref f)) (hb : Binds K fd [Str.ofString "value"] [])  : Fn0 P w K mg base 1 (Str.ofString "is_name") 1 false f_is_name :=
  fn0_mk (k := 0) (mb := b_is_name) (O' := []) F sc_is_name hg hb fun cdv A outer s H E hr =>
      (bm_cons (sm_if (O' := []) (tw (wm_or (tm_not (tm_v (om (em_isi T.n_isinstance (om (em_var 0)) (om (em_ty T.n_str (by decide +kernel))))))) (wm_or1 (tm_not (tch k_le k_le (om em_int) (om (em_len T.n_len (om (em_var 0)))) (om (em_gint T.c_MOST_LETTERS)))))))
        (bm_one (sm_ret em_bl))
        bm_nil)
      (bm_cons (sm_for (O := []) (im_str (em_var 0)) (gm_name 1 (by decide) sc_is_name.nd)
        (bm_one (sm_if (O' := []) (tc k_notInS (om (em_var 1)) (om (em_gstr T.c_LETTERS)))
          (bm_one (sm_ret em_bl))
          bm_nil)) PassesOwn.never)
      (bm_one (sm_ret em_bl))))

/-! ### _law_mix -/
abbrev s_law_mix : Stmt := top 9
abbrev N_law_mix : List Str := [Str.ofString "_law_cell_here", Str.ofString "_law_k", Str.ofString "_law_number"]
theorem sc_law_mix : FnScope N_law_mix [Str.ofString "_law_cell_here", Str.ofString "_law_k"] (defScope s_law_mix) := ⟨rfl, rfl, rfl, by decide +kernel, rfl, by decide +kernel, by decide +kernel⟩

def b_law_mix : RE → Out Fl :=
      (mSeq (mSet 2 (mOp2 dMod (mVal (mOp2 dMul (mVal (mArgs (d1 dInt) (mCons (mVal (mOp2 dAdd (mVal (mOp2 dAdd (mVal (mArgs (d1 dInt) (mCons (mVal (mVar 0)) mNil))) (mVal (mOp2 dMul (mVal (mC (.int 7919))) (mVal (mVar 1)))))) (mVal (mC (.int 1))))) mNil))) (mVal (mC (.int 48271))))) (mVal (mC (.int 2147483647)))))
      (mSeq (mSet 2 (mOp2 dMod (mVal (mArgs (d1 dInt) (mCons (mVal (mOp2 dMul (mVal (mVar 2)) (mVal (mOp2 dAdd (mVal (mOp2 dDiv (mVal (mVar 2)) (mVal (mC (.int 1009))))) (mVal (mC (.int 69621))))))) mNil))) (mVal (mC (.int 2147483647)))))
      (mRet (mOp2 dMod (mVal (mArgs (d1 dInt) (mCons (mVal (mOp2 dMul (mVal (mVar 2)) (mVal (mOp2 dAdd (mVal (mOp2 dDiv (mVal (mVar 2)) (mVal (mC (.int 2003))))) (mVal (mC (.int 40692))))))) mNil))) (mVal (mC (.int 2147483399)))))))
def f_law_mix : List D → Out D := fnM 2 3 false b_law_mix

theorem ok_law_mix {f : Addr} {fd : FuncData} (T : Txt K mg) (F : Fun K (Str.ofString "_law_mix") (Str.ofString "_law_mix") s_law_mix f fd) (hg : mg (Str.ofString "_law_mix") = some (.ref f)) (hb : Binds K fd [Str.ofString "_law_cell_here", Str.ofString "_law_k"] [])  : Fn0 P w K mg base 1 (Str.ofString "_law_mix") 2 false f_law_mix :=
  fn0_mk (k := 0) (mb := b_law_mix) (O' := []) F sc_law_mix hg hb fun cdv A outer s H E hr =>
      (bm_cons (sm_set 2 sc_law_mix.nd (em_mod (om (em_mul (om (em_toint T.n_int (om (em_add (om (em_add (om (em_toint T.n_int (om (em_var 0)))) (om (em_mul (om em_int) (om (em_var 1)))))) (om em_int))))) (om em_int))) (om em_int)))
      (bm_cons (sm_set 2 sc_law_mix.nd (em_mod (om (em_toint T.n_int (om (em_mul (om (em_var 2)) (om (em_add (om (em_div (om (em_var 2)) (om em_int))) (om em_int))))))) (om em_int)))
      (bm_one (sm_ret (em_mod (om (em_toint T.n_int (om (em_mul (om (em_var 2)) (om (em_add (om (em_div (om (em_var 2)) (om em_int))) (om em_int))))))) (om em_int))))))

/-! ### _law_cell -/
abbrev s_law_cell : Stmt := top 10
abbrev N_law_cell : List Str := [Str.ofString "_law_script", Str.ofString "_law_k"]
theorem sc_law_cell : FnScope N_law_cell [Str.ofString "_law_script", Str.ofString "_law_k"] (defScope s_law_cell) := ⟨rfl, rfl, rfl, by decide +kernel, rfl, by decide +kernel, by decide +kernel⟩

def b_law_cell : RE → Out Fl :=
      (mSeq (mIf (mBool (mOp2 dLt (mVal (mVar 1)) (mVal (mArgs (d1 dLen) (mCons (mVal (mVar 0)) mNil)))))
        (mRet (mArgs (d1 dInt) (mCons (mVal (mOp2 dIx (mVal (mVar 0)) (mVal (mVar 1)))) mNil)))
        mNext)
      (mSeq (mIf (mBool (mOp2 dEqS (mVal (mArgs (d1 dLen) (mCons (mVal (mVar 0)) mNil))) (mVal (mC (.int 0)))))
        (mRet (mVar 1))
        mNext)
      (mRet (mCall f_law_mix [] (mCons (mVal (mOp2 dIx (mVal (mVar 0)) (mVal (mOp2 dMod (mVal (mArgs (d1 dInt) (mCons (mVal (mVar 1)) mNil))) (mVal (mArgs (d1 dLen) (mCons (mVal (mVar 0)) mNil))))))) (mCons (mVal (mVar 1)) mNil))))))
def f_law_cell : List D → Out D := fnM 2 2 false b_law_cell

theorem ok_law_cell {f : Addr} {fd : FuncData} (T : Txt K mg) (F : Fun K (Str.ofString "_law_cell") (Str.ofString "_law_cell") s_law_cell f fd) (hg : mg (Str.ofString "_law_cell") = some (.ref f)) (hb : Binds K fd [Str.ofString "_law_script", Str.ofString "_law_k"] []) (F_law_mix : Fn0 P w K mg base 1 (Str.ofString "_law_mix") 2 false f_law_mix) : Fn0 P w K mg base 2 (Str.ofString "_law_cell") 2 false f_law_cell :=
  fn0_mk (k := 1) (mb := b_law_cell) (O' := []) F sc_law_cell hg hb fun cdv A outer s H E hr =>
      (bm_cons (sm_if (O' := []) (tc k_lt (om (em_var 1)) (om (em_len T.n_len (om (em_var 0)))))
        (bm_one (sm_ret (em_toint T.n_int (om (em_ix (om (em_var 0)) (om (em_var 1)))))))
        bm_nil)
      (bm_cons (sm_if (O' := []) (tc k_eqS (om (em_len T.n_len (om (em_var 0)))) (om em_int))
        (bm_one (sm_ret (em_var 1)))
        bm_nil)
      (bm_one (sm_ret (e0 F_law_mix hr (am_cons (om (em_ix (om (em_var 0)) (om (em_mod (om (em_toint T.n_int (om (em_var 1)))) (om (em_len T.n_len (om (em_var 0)))))))) (am_cons (om (em_var 1)) am_nil)))))))

/-! ### _law_row -/
abbrev s_law_row : Stmt := top 11
abbrev N_law_row : List Str := [Str.ofString "_law_cell_here", Str.ofString "_law_sizes", Str.ofString "_law_row_here", Str.ofString "_law_rest", Str.ofString "_law_k"]
theorem sc_law_row : FnScope N_law_row [Str.ofString "_law_cell_here", Str.ofString "_law_sizes"] (defScope s_law_row) := ⟨rfl, rfl, rfl, by decide +kernel, rfl, by decide +kernel, by decide +kernel⟩

def b_law_row : RE → Out Fl :=
      (mSeq (mSet 2 (mLst mNil))
      (mSeq (mSet 3 (mArgs (d1 dInt) (mCons (mVal (mVar 0)) mNil)))
      (mSeq (mFor (mRng1 (mVal (mArgs (d1 dLen) (mCons (mVal (mVar 1)) mNil)))) (stName 4)
        (mIf (mBool (mOp2 dGe (mVal (mVar 0)) (mVal (mOp2 dPow (mVal (mC (.int 10))) (mVal (mC (.int 18)))))))
          (mSeq (mDrop (mMut 2 "list" fAppend (mCons (mVal (mOp2 dMod (mVal (mArgs (d1 dInt) (mCons (mVal (mVar 3)) mNil))) (mVal (mOp2 dIx (mVal (mVar 1)) (mVal (mVar 4)))))) mNil)))
          (mSet 3 (mOp2 dDiv (mVal (mVar 3)) (mVal (mOp2 dIx (mVal (mVar 1)) (mVal (mVar 4)))))))
          (mDrop (mMut 2 "list" fAppend (mCons (mVal (mOp2 dMod (mVal (mArgs (d1 dInt) (mCons (mVal (mCall f_law_mix [] (mCons (mVal (mVar 0)) (mCons (mVal (mVar 4)) mNil)))) mNil))) (mVal (mOp2 dIx (mVal (mVar 1)) (mVal (mVar 4)))))) mNil)))))
      (mRet (mVar 2)))))
def f_law_row : List D → Out D := fnM 2 5 false b_law_row

theorem ok_law_row {f : Addr} {fd : FuncData} (T : Txt K mg) (F : Fun K (Str.ofString "_law_row") (Str.ofString "_law_row") s_law_row f fd) (hg : mg (Str.ofString "_law_row") = some (.ref f)) (hb : Binds K fd [Str.ofString "_law_cell_here", Str.ofString "_law_sizes"] []) (F_law_mix : Fn0 P w K mg base 1 (Str.ofString "_law_mix") 2 false f_law_mix) : Fn0 P w K mg base 2 (Str.ofString "_law_row") 2 false f_law_row :=
  fn0_mk (k := 1) (mb := b_law_row) (O' := []) F sc_law_row hg hb fun cdv A outer s H E hr =>
      (bm_cons (sm_setF 2 sc_law_row.nd (fm_lst am_nil))
      (bm_cons (sm_set 3 sc_law_row.nd (em_toint T.n_int (om (em_var 0))))
      (bm_cons (sm_for (O := [2]) (im_rng1 T.n_range (om (em_len T.n_len (om (em_var 1))))) (gm_name 4 (by decide) sc_law_row.nd)
        (bm_one (sm_if (O' := [2]) (tc k_ge (om (em_var 0)) (om (em_pow (om em_int) (om em_int))))
          (bm_cons (sm_expr (em_append 2 (om (em_mod (om (em_toint T.n_int (om (em_var 3)))) (om (em_ix (om (em_var 1)) (om (em_var 4))))))))
          (bm_one (sm_set 3 sc_law_row.nd (em_div (om (em_var 3)) (om (em_ix (om (em_var 1)) (om (em_var 4))))))))
          (bm_one (sm_expr (em_append 2 (om (em_mod (om (em_toint T.n_int (om (e0 F_law_mix hr (am_cons (om (em_var 0)) (am_cons (om (em_var 4)) am_nil)))))) (om (em_ix (om (em_var 1)) (om (em_var 4))))))))))) PassesOwn.never)
      (bm_free [] (bm_one (sm_ret (em_var 2)))))))

/-! ### _law_is_integer -/
abbrev s_law_is_integer : Stmt := top 12
abbrev N_law_is_integer : List Str := [Str.ofString "_law_thing_here"]
theorem sc_law_is_integer : FnScope N_law_is_integer [Str.ofString "_law_thing_here"] (defScope s_law_is_integer) := ⟨rfl, rfl, rfl, by decide +kernel, rfl, by decide +kernel, by decide +kernel⟩

def b_law_is_integer : RE → Out Fl :=
      (mRet (mAnd (mArgs (d2 dIsi) (mCons (mVal (mVar 0)) (mCons (mVal (mC (.ty "int"))) mNil))) (mNot (mArgs (d2 dIsi) (mCons (mVal (mVar 0)) (mCons (mVal (mC (.ty "bool"))) mNil))))))
def f_law_is_integer : List D → Out D := fnM 1 1 false b_law_is_integer

theorem ok_law_is_integer {f : Addr} {fd : FuncData} (T : Txt K mg) (F : Fun K (Str.ofString "_law_is_integer") (Str.ofString "_law_is_integer") s_law_is_integer f fd) (hg : mg (Str.ofString "_law_is_integer") = some (.ref f)) (hb : Binds K fd [Str.ofString "_law_thing_here"] [])  : Fn0 P w K mg base 1 (Str.ofString "_law_is_integer") 1 false f_law_is_integer :=
  fn0_mk (k := 0) (mb := b_law_is_integer) (O' := []) F sc_law_is_integer hg hb fun cdv A outer s H E hr =>
      (bm_one (sm_ret (em_and (em_isi T.n_isinstance (om (em_var 0)) (om (em_ty T.n_int (by decide +kernel)))) (em_one (em_not (em_isi T.n_isinstance (om (em_var 0)) (om (em_ty T.n_bool (by decide +kernel)))))))))

/-! ### _law_flag -/
abbrev s_law_flag : Stmt := top 13
abbrev N_law_flag : List Str := [Str.ofString "_law_told", Str.ofString "_law_due"]
theorem sc_law_flag : FnScope N_law_flag [Str.ofString "_law_told", Str.ofString "_law_due"] (defScope s_law_flag) := ⟨rfl, rfl, rfl, by decide +kernel, rfl, by decide +kernel, by decide +kernel⟩

def b_law_flag : RE → Out Fl :=
      (mRet (mAnd (mArgs (d2 dIsi) (mCons (mVal (mVar 0)) (mCons (mVal (mC (.ty "bool"))) mNil))) (mOp2 dEqS (mVal (mVar 0)) (mVal (mVar 1)))))
def f_law_flag : List D → Out D := fnM 2 2 false b_law_flag

theorem ok_law_flag {f : Addr} {fd : FuncData} (T : Txt K mg) (F : Fun K (Str.ofString "_law_flag") (Str.ofString "_law_flag") s_law_flag f fd) (hg : mg (Str.ofString "_law_flag") = some (.ref f)) (hb : Binds K fd [Str.ofString "_law_told", Str.ofString "_law_due"] [])  : Fn0 P w K mg base 1 (Str.ofString "_law_flag") 2 false f_law_flag :=
  fn0_mk (k := 0) (mb := b_law_flag) (O' := []) F sc_law_flag hg hb fun cdv A outer s H E hr =>
      (bm_one (sm_ret (em_and (em_isi T.n_isinstance (om (em_var 0)) (om (em_ty T.n_bool (by decide +kernel)))) (em_one (ec k_eqS (om (em_var 0)) (om (em_var 1)))))))

/-! ### _law_is_state -/
abbrev s_law_is_state : Stmt := top 14
abbrev N_law_is_state : List Str := [Str.ofString "_law_thing_here"]
theorem sc_law_is_state : FnScope N_law_is_state [Str.ofString "_law_thing_here"] (defScope s_law_is_state) := ⟨rfl, rfl, rfl, by decide +kernel, rfl, by decide +kernel, by decide +kernel⟩

def b_law_is_state : RE → Out Fl :=
      (mRet (mAnd (mCall f_law_is_integer [] (mCons (mVal (mVar 0)) mNil)) (mChain dLe dLe (mVal (mC (.int 0))) (mVal (mVar 0)) (mVal (mC (.int 99))))))
def f_law_is_state : List D → Out D := fnM 1 1 false b_law_is_state

theorem ok_law_is_state {f : Addr} {fd : FuncData} (T : Txt K mg) (F : Fun K (Str.ofString "_law_is_state") (Str.ofString "_law_is_state") s_law_is_state f fd) (hg : mg (Str.ofString "_law_is_state") = some (.ref f)) (hb : Binds K fd [Str.ofString "_law_thing_here"] []) (F_law_is_integer : Fn0 P w K mg base 1 (Str.ofString "_law_is_integer") 1 false f_law_is_integer) : Fn0 P w K mg base 2 (Str.ofString "_law_is_state") 1 false f_law_is_state :=
  fn0_mk (k := 1) (mb := b_law_is_state) (O' := []) F sc_law_is_state hg hb fun cdv A outer s H E hr =>
      (bm_one (sm_ret (em_and (e0 F_law_is_integer hr (am_cons (om (em_var 0)) am_nil)) (em_one (ech k_le k_le (om em_int) (om (em_var 0)) (om em_int))))))

/-! ### _law_is_name -/
abbrev s_law_is_name : Stmt := top 15
abbrev N_law_is_name : List Str := [Str.ofString "_law_thing_here", Str.ofString "_law_sign"]
theorem sc_law_is_name : FnScope N_law_is_name [Str.ofString "_law_thing_here"] (defScope s_law_is_name) := ⟨rfl, rfl, rfl, by decide +kernel, rfl, by decide +kernel, by decide +kernel⟩

def b_law_is_name : RE → Out Fl :=
      (mSeq (mIf (mTOr (mTNot (mTruth (mVal (mArgs (d2 dIsi) (mCons (mVal (mVar 0)) (mCons (mVal (mC (.ty "str"))) mNil)))))) (mTNot (mBool (mChain dLe dLe (mVal (mC (.int 1))) (mVal (mArgs (d1 dLen) (mCons (mVal (mVar 0)) mNil))) (mVal (mC (.int 12)))))))
        (mRet (mC (.bl false)))
        mNext)
      (mRet (mOp2 dEqS (mVal (mArgs (d1 dLen) (mCons (mVal (mComp [1] (mItem asS (mVar 0)) (stName 1) (mBool (mOp2 dNotInS (mVal (mVar 1)) (mVal (mC (.str (Str.ofString "abcdefghijklmnopqrstuvwxyz")))))) (mVar 1))) mNil))) (mVal (mC (.int 0))))))
def f_law_is_name : List D → Out D := fnM 1 2 false b_law_is_name

theorem ok_law_is_name {f : Addr} {fd : FuncData} (T : Txt K mg) (F : Fun K (Str.ofString "_law_is_name") (Str.ofString "_law_is_name") s_law_is_name f fd) (hg : mg (Str.ofString "_law_is_name") = some (.ref f)) (hb : Binds K fd [Str.ofString "_law_thing_here"] [])  : Fn0 P w K mg base 1 (Str.ofString "_law_is_name") 1 false f_law_is_name :=
  fn0_mk (k := 0) (mb := b_law_is_name) (O' := []) F sc_law_is_name hg hb fun cdv A outer s H E hr =>
      (bm_cons (sm_if (O' := []) (tw (wm_or (tm_not (tm_v (om (em_isi T.n_isinstance (om (em_var 0)) (om (em_ty T.n_str (by decide +kernel))))))) (wm_or1 (tm_not (tch k_le k_le (om em_int) (om (em_len T.n_len (om (em_var 0)))) (om em_int))))))
        (bm_one (sm_ret em_bl))
        bm_nil)
      (bm_one (sm_ret (ec k_eqS (om (em_len T.n_len (om (ef (fm_lc [1] [(Str.ofString "_law_sign", 1)] sc_law_is_name.nd (blkOk_by (N := N_law_is_name) (sc := defScope s_law_is_name) (own := [(Str.ofString "_law_sign", 1)]) (by decide +kernel)) (im_str (em_var 0)) (fun _ => (gm_name 1 (by decide) sc_law_is_name.nd)) (fun _ => (tms_one (tc k_notInS (om (em_var 1)) (om em_str)))) (fun _ => (em_var 1))))))) (om em_int)))))

/-! ### _law_deep -/
abbrev s_law_deep : Stmt := top 16
abbrev N_law_deep : List Str := [Str.ofString "_law_many", Str.ofString "_law_thing_here", Str.ofString "_law_k"]
theorem sc_law_deep : FnScope N_law_deep [Str.ofString "_law_many"] (defScope s_law_deep) := ⟨rfl, rfl, rfl, by decide +kernel, rfl, by decide +kernel, by decide +kernel⟩

def b_law_deep : RE → Out Fl :=
      (mSeq (mSet 1 (mLst mNil))
      (mSeq (mFor (mRng1 (mVal (mVar 0))) (stName 2)
        (mSet 1 (mLst (mCons (mVal (mVar 1)) mNil))))
      (mRet (mVar 1))))
def f_law_deep : List D → Out D := fnM 1 3 false b_law_deep

theorem ok_law_deep {f : Addr} {fd : FuncData} (T : Txt K mg) (F : Fun K (Str.ofString "_law_deep") (Str.ofString "_law_deep") s_law_deep f fd) (hg : mg (Str.ofString "_law_deep") = some (.ref f)) (hb : Binds K fd [Str.ofString "_law_many"] [])  : Fn0 P w K mg base 1 (Str.ofString "_law_deep") 1 false f_law_deep :=
  fn0_mk (k := 0) (mb := b_law_deep) (O' := []) F sc_law_deep hg hb fun cdv A outer s H E hr =>
      (bm_cons (sm_set 1 sc_law_deep.nd (ef (fm_lst am_nil)))
      (bm_cons (sm_for (O := []) (im_rng1 T.n_range (om (em_var 0))) (gm_name 2 (by decide) sc_law_deep.nd)
        (bm_one (sm_set 1 sc_law_deep.nd (ef (fm_lst (am_cons (om (em_var 1)) am_nil))))) PassesOwn.never)
      (bm_one (sm_ret (em_var 1)))))

/-! ### _law_thing -/
abbrev s_law_thing : Stmt := top 17
abbrev N_law_thing : List Str := [Str.ofString "_law_digit", Str.ofString "_law_things"]
theorem sc_law_thing : FnScope N_law_thing [Str.ofString "_law_digit"] (defScope s_law_thing) := ⟨rfl, rfl, rfl, by decide +kernel, rfl, by decide +kernel, by decide +kernel⟩

def b_law_thing : RE → Out Fl :=
      (mSeq (mSet 1 (mLst (mCons (mVal (mC .non)) (mCons (mVal (mC (.bl true))) (mCons (mVal (mC (.bl false))) (mCons (mVal (mOp1 dNeg (mVal (mC (.int 1))))) (mCons (mVal (mC (.int 100))) (mCons (mVal (mOp2 dPow (mVal (mC (.int 10))) (mVal (mC (.int 40))))) (mCons (mVal (mC (.str (Str.ofString "")))) (mCons (mVal (mC (.str (Str.ofString "a b")))) (mCons (mVal (mC (.str (Str.ofString "Abc")))) (mCons (mVal (mC (.str (Str.ofString "abcdefghijklm")))) (mCons (mVal (mLst mNil)) (mCons (mVal mDnew) (mCons (mVal (mTup mNil)) (mCons (mVal (mLst (mCons (mVal (mC (.str (Str.ofString "a")))) mNil))) (mCons (mVal (mTup (mCons (mVal (mC (.str (Str.ofString "a")))) mNil))) (mCons (mVal (mC (.str (Str.ofString "a\n")))) mNil))))))))))))))))))
      (mSeq (mDrop (mMut 1 "list" fAppend (mCons (mVal (mCall f_law_deep [] (mCons (mVal (mC (.int 1980))) mNil))) mNil)))
      (mSeq (mDrop (mMut 1 "list" fAppend (mCons (mVal (mDisp (mPr (mC (.str (Str.ofString "a"))) (mC (.int 1)) mPr0))) mNil)))
      (mRet (mOp2 dIx (mSlot 1) (mVal (mOp2 dMod (mVal (mArgs (d1 dInt) (mCons (mVal (mVar 0)) mNil))) (mVal (mArgs (d1 dLen) (mCons (mSlot 1) mNil))))))))))
def f_law_thing : List D → Out D := fnM 1 2 false b_law_thing

theorem ok_law_thing {f : Addr} {fd : FuncData} (T : Txt K mg) (F : Fun K (Str.ofString "_law_thing") (Str.ofString "_law_thing") s_law_thing f fd) (hg : mg (Str.ofString "_law_thing") = some (.ref f)) (hb : Binds K fd [Str.ofString "_law_digit"] []) (F_law_deep : Fn0 P w K mg base 1 (Str.ofString "_law_deep") 1 false f_law_deep) : Fn0 P w K mg base 2 (Str.ofString "_law_thing") 1 false f_law_thing :=
  fn0_mk (k := 1) (mb := b_law_thing) (O' := []) F sc_law_thing hg hb fun cdv A outer s H E hr =>
      (bm_cons (sm_setF 1 sc_law_thing.nd (fm_lst (am_cons (om em_non) (am_cons (om em_bl) (am_cons (om em_bl) (am_cons (om (em_neg (om em_int))) (am_cons (om em_int) (am_cons (om (em_pow (om em_int) (om em_int))) (am_cons (om em_str) (am_cons (om em_str) (am_cons (om em_str) (am_cons (om em_str) (am_cons (om (ef (fm_lst am_nil))) (am_cons (om (ef fm_dnew)) (am_cons (om (em_tup am_nil)) (am_cons (om (ef (fm_lst (am_cons (om em_str) am_nil)))) (am_cons (om (em_tup (am_cons (om em_str) am_nil))) (am_cons (om em_str) am_nil))))))))))))))))))
      (bm_cons (sm_expr (em_append 1 (om (e0 F_law_deep hr (am_cons (om em_int) am_nil)))))
      (bm_cons (sm_expr (em_append 1 (om (ef (fm_disp (prm_cons em_str em_int prm_nil))))))
      (bm_one (sm_ret (em_ix (om_slot 1) (om (em_mod (om (em_toint T.n_int (om (em_var 0)))) (om (em_len T.n_len (om_slot 1)))))))))))

/-! ### _law_text -/
abbrev s_law_text : Stmt := top 18
abbrev N_law_text : List Str := [Str.ofString "_law_cell_here", Str.ofString "_law_row_here", Str.ofString "_law_text_here", Str.ofString "_law_at", Str.ofString "_law_digit"]
theorem sc_law_text : FnScope N_law_text [Str.ofString "_law_cell_here"] (defScope s_law_text) := ⟨rfl, rfl, rfl, by decide +kernel, rfl, by decide +kernel, by decide +kernel⟩

def b_law_text : RE → Out Fl :=
      (mSeq (mSet 1 (mCall f_law_row [] (mCons (mVal (mVar 0)) (mCons (mVal (mOp2 dAdd (mVal (mLst (mCons (mVal (mC (.int 3))) (mCons (mVal (mC (.int 15))) (mCons (mVal (mC (.int 15))) (mCons (mVal (mC (.int 10))) mNil)))))) (mVal (mOp2 dMul (mVal (mLst (mCons (mVal (mC (.int 26))) mNil))) (mVal (mC (.int 14))))))) mNil))))
      (mSeq (mSet 2 (mOp1 (dJoin (Str.ofString "")) (mVal (mComp [4] (mItem asL (mCut dCut (mVal (mVar 1)) (mPart (mC (.int 4))) (mPart (mOp2 dAdd (mVal (mC (.int 4))) (mVal (mOp2 dIx (mVal (mVar 1)) (mVal (mC (.int 1))))))))) (stName 4) mYes (mOp2 dIx (mVal (mC (.str (Str.ofString "abcdefghijklmnopqrstuvwxyz")))) (mVal (mVar 4)))))))
      (mSeq (mIf (mBool (mOp2 dEqS (mVal (mOp2 dIx (mVal (mVar 1)) (mVal (mC (.int 0))))) (mVal (mC (.int 1)))))
        (mSeq (mSet 3 (mOp2 dMod (mVal (mArgs (d1 dInt) (mCons (mVal (mOp2 dIx (mVal (mVar 1)) (mVal (mC (.int 2))))) mNil))) (mVal (mOp2 dAdd (mVal (mArgs (d1 dLen) (mCons (mVal (mVar 2)) mNil))) (mVal (mC (.int 1)))))))
        (mSet 2 (mOp2 dAdd (mVal (mOp2 dAdd (mVal (mCut dCutS (mVal (mVar 2)) mNoP (mPart (mVar 3)))) (mVal (mOp2 dIx (mVal (mC (.str (Str.ofString "AZ09 _-`{\n")))) (mVal (mOp2 dIx (mVal (mVar 1)) (mVal (mC (.int 3))))))))) (mVal (mCut dCutS (mVal (mVar 2)) (mPart (mVar 3)) mNoP)))))
        mNext)
      (mRet (mVar 2)))))
def f_law_text : List D → Out D := fnM 1 5 false b_law_text

theorem ok_law_text {f : Addr} {fd : FuncData} (T : Txt K mg) (F : Fun K (Str.ofString "_law_text") (Str.ofString "_law_text") s_law_text f fd) (hg : mg (Str.ofString "_law_text") = some (.ref f)) (hb : Binds K fd [Str.ofString "_law_cell_here"] []) (F_law_row : Fn0 P w K mg base 2 (Str.ofString "_law_row") 2 false f_law_row) : Fn0 P w K mg base 3 (Str.ofString "_law_text") 1 false f_law_text :=
  fn0_mk (k := 2) (mb := b_law_text) (O' := []) F sc_law_text hg hb fun cdv A outer s H E hr =>
      (bm_cons (sm_set 1 sc_law_text.nd (e0 F_law_row hr (am_cons (om (em_var 0)) (am_cons (om (em_add (om (ef (fm_lst (am_cons (om em_int) (am_cons (om em_int) (am_cons (om em_int) (am_cons (om em_int) am_nil))))))) (om (em_mul (om (ef (fm_lst (am_cons (om em_int) am_nil)))) (om em_int))))) am_nil))))
      (bm_cons (sm_set 2 sc_law_text.nd (em_join (om (ef (fm_lc [4] [(Str.ofString "_law_digit", 4)] sc_law_text.nd (blkOk_by (N := N_law_text) (sc := defScope s_law_text) (own := [(Str.ofString "_law_digit", 4)]) (by decide +kernel)) (im_list (ef (fm_cut (om (em_var 1)) (pm_some em_int) (pm_some (em_add (om em_int) (om (em_ix (om (em_var 1)) (om em_int)))))))) (fun _ => (gm_name 4 (by decide) sc_law_text.nd)) (fun _ => tms_nil) (fun _ => (em_ix (om em_str) (om (em_var 4)))))))))
      (bm_cons (sm_if (O' := []) (tc k_eqS (om (em_ix (om (em_var 1)) (om em_int))) (om em_int))
        (bm_cons (sm_set 3 sc_law_text.nd (em_mod (om (em_toint T.n_int (om (em_ix (om (em_var 1)) (om em_int))))) (om (em_add (om (em_len T.n_len (om (em_var 2)))) (om em_int)))))
        (bm_one (sm_set 2 sc_law_text.nd (em_add (om (em_add (om (em_cutS (om (em_var 2)) pm_none (pm_some (em_var 3)))) (om (em_ix (om em_str) (om (em_ix (om (em_var 1)) (om em_int))))))) (om (em_cutS (om (em_var 2)) (pm_some (em_var 3)) pm_none))))))
        bm_nil)
      (bm_one (sm_ret (em_var 2))))))

/-! ### law -/
abbrev s_law : Stmt := top 19
abbrev N_law : List Str := [Str.ofString "_law_script", Str.ofString "_law_k", Str.ofString "_law_cell_here", Str.ofString "_law_small", Str.ofString "_law_great", Str.ofString "_law_thing_here"]
theorem sc_law : FnScope N_law [Str.ofString "_law_script"] (defScope s_law) := ⟨rfl, rfl, rfl, by decide +kernel, rfl, by decide +kernel, by decide +kernel⟩

def b_law : RE → Out Fl :=
      (mSeq (mFor (mRng1 (mVal (mC (.int 6)))) (stName 1)
        (mSeq (mSet 2 (mCall f_law_cell [] (mCons (mVal (mVar 0)) (mCons (mVal (mVar 1)) mNil))))
        (mSeq (mSet 3 (mOp2 dSub (mVal (mOp2 dMod (mVal (mArgs (d1 dInt) (mCons (mVal (mVar 2)) mNil))) (mVal (mC (.int 140))))) (mVal (mC (.int 20)))))
        (mSeq (mSet 4 (mOp2 dSub (mVal (mOp2 dMod (mVal (mArgs (d1 dInt) (mCons (mVal (mVar 2)) mNil))) (mVal (mOp2 dAdd (mVal (mOp2 dMul (mVal (mC (.int 2))) (mVal (mOp2 dPow (mVal (mC (.int 10))) (mVal (mC (.int 40))))))) (mVal (mC (.int 1))))))) (mVal (mOp2 dPow (mVal (mC (.int 10))) (mVal (mC (.int 40)))))))
        (mFor (mItem asL (mLst (mCons (mVal (mCall f_law_text [] (mCons (mVal (mVar 2)) mNil))) (mCons (mVal (mVar 3)) (mCons (mVal (mVar 4)) (mCons (mVal (mCall f_law_thing [] (mCons (mVal (mOp2 dMod (mVal (mArgs (d1 dInt) (mCons (mVal (mVar 2)) mNil))) (mVal (mC (.int 18))))) mNil))) (mCons (mVal (mCall f_law_thing [] (mCons (mVal (mCall f_law_mix [] (mCons (mVal (mVar 2)) (mCons (mVal (mC (.int 3))) mNil)))) mNil))) mNil))))))) (stName 5)
          (mSeq (mIf (mTNot (mTruth (mVal (mCall f_law_flag [] (mCons (mVal (mCall f_is_name [] (mCons (mVal (mVar 5)) mNil))) (mCons (mVal (mCall f_law_is_name [] (mCons (mVal (mVar 5)) mNil))) mNil))))))
            (mRet (mC (.bl false)))
            mNext)
          (mIf (mTNot (mTruth (mVal (mCall f_law_flag [] (mCons (mVal (mCall f_is_state [] (mCons (mVal (mVar 5)) mNil))) (mCons (mVal (mCall f_law_is_state [] (mCons (mVal (mVar 5)) mNil))) mNil))))))
            (mRet (mC (.bl false)))
            mNext)))))))
      (mRet (mC (.bl true))))
def f_law : List D → Out D := fnM 1 6 false b_law

theorem okL {f : Addr} {fd : FuncData} (T : Txt K mg) (F : Fun K (Str.ofString "law") (Str.ofString "law") s_law f fd) (F_law_cell : Fn0 P w K mg base 2 (Str.ofString "_law_cell") 2 false f_law_cell) (F_law_flag : Fn0 P w K mg base 1 (Str.ofString "_law_flag") 2 false f_law_flag) (F_law_is_name : Fn0 P w K mg base 1 (Str.ofString "_law_is_name") 1 false f_law_is_name) (F_law_is_state : Fn0 P w K mg base 2 (Str.ofString "_law_is_state") 1 false f_law_is_state) (F_law_mix : Fn0 P w K mg base 1 (Str.ofString "_law_mix") 2 false f_law_mix) (F_law_text : Fn0 P w K mg base 3 (Str.ofString "_law_text") 1 false f_law_text) (F_law_thing : Fn0 P w K mg base 2 (Str.ofString "_law_thing") 1 false f_law_thing) (F_is_name : Fn0 P w K mg base 1 (Str.ofString "is_name") 1 false f_is_name) (F_is_state : Fn0 P w K mg base 3 (Str.ofString "is_state") 1 false f_is_state) : FnOk P w K mg base CX0 4 f fd [Str.ofString "_law_script"] (spN K 1 false f_law) :=
  fn_0 (N := N_law) (ps := [Str.ofString "_law_script"]) (fr := false) (k := 3) (mb := b_law) (O' := []) F sc_law fun cdv A outer s H E hr =>
      (bm_cons (sm_for (O := []) (im_rng1 T.n_range (om em_int)) (gm_name 1 (by decide) sc_law.nd)
        (bm_cons (sm_set 2 sc_law.nd (e0 F_law_cell hr (am_cons (om (em_var 0)) (am_cons (om (em_var 1)) am_nil))))
        (bm_cons (sm_set 3 sc_law.nd (em_sub (om (em_mod (om (em_toint T.n_int (om (em_var 2)))) (om em_int))) (om em_int)))
        (bm_cons (sm_set 4 sc_law.nd (em_sub (om (em_mod (om (em_toint T.n_int (om (em_var 2)))) (om (em_add (om (em_mul (om em_int) (om (em_pow (om em_int) (om em_int))))) (om em_int))))) (om (em_pow (om em_int) (om em_int)))))
        (bm_one (sm_for (O := []) (im_list (ef (fm_lst (am_cons (om (e0 F_law_text hr (am_cons (om (em_var 2)) am_nil))) (am_cons (om (em_var 3)) (am_cons (om (em_var 4)) (am_cons (om (e0 F_law_thing hr (am_cons (om (em_mod (om (em_toint T.n_int (om (em_var 2)))) (om em_int))) am_nil))) (am_cons (om (e0 F_law_thing hr (am_cons (om (e0 F_law_mix hr (am_cons (om (em_var 2)) (am_cons (om em_int) am_nil)))) am_nil))) am_nil)))))))) (gm_name 5 (by decide) sc_law.nd)
          (bm_cons (sm_if (O' := []) (tm_not (tm_v (om (e0 F_law_flag hr (am_cons (om (e0 F_is_name hr (am_cons (om (em_var 5)) am_nil))) (am_cons (om (e0 F_law_is_name hr (am_cons (om (em_var 5)) am_nil))) am_nil))))))
            (bm_one (sm_ret em_bl))
            bm_nil)
          (bm_one (sm_if (O' := []) (tm_not (tm_v (om (e0 F_law_flag hr (am_cons (om (e0 F_is_state hr (am_cons (om (em_var 5)) am_nil))) (am_cons (om (e0 F_law_is_state hr (am_cons (om (em_var 5)) am_nil))) am_nil))))))
            (bm_one (sm_ret em_bl))
            bm_nil))) PassesOwn.never))))) PassesOwn.never)
      (bm_one (sm_ret em_bl)))

end
end K01

set_option maxHeartbeats 4000000
namespace K01
open PySem L2 Mir
/-- what the odd things have in common -/
def plain : D → Bool
  | .ins _ _ => false
  | .dct _ => false
  | .ty _ => false
  | .str x => decide (x.length ≤ 1000)
  | _ => true
def isInt : D → Bool
  | .int _ => true
  | _ => false
def isSt : D → Bool
  | .int i => decide (0 ≤ i) && decide (i ≤ 99)
  | _ => false
def letters : Str := Str.ofString "abcdefghijklmnopqrstuvwxyz"
def okLen (x : Str) : Bool := decide (1 ≤ (x.length : Int)) && decide ((x.length : Int) ≤ 12)
def allLet (x : Str) : Bool := x.cps.toList.all fun c => decide (c ∈ letters.cps)
def isNm : D → Bool
  | .str x => okLen x && allLet x
  | _ => false
theorem p_is_integer {d : D} (h : plain d = true) : f_is_integer [d] = .ok (.bl (isInt d)) := by
  cases d <;> first | rfl | cases h
theorem p_law_is_integer {d : D} (h : plain d = true) : f_law_is_integer [d] = .ok (.bl (isInt d)) := by
  cases d <;> first | rfl | cases h
theorem p_is_count {d : D} (h : plain d = true) : f_is_count [d, .int 99] = .ok (.bl (isSt d)) := by
  simp [f_is_count, b_is_count, p_is_integer h]
  cases d <;> (try cases h) <;> simp [isInt, isSt]
  rename_i i; by_cases hi : 0 ≤ i <;> simp [hi]
theorem p_is_state {d : D} (h : plain d = true) : f_is_state [d] = .ok (.bl (isSt d)) := by
  simp [f_is_state, b_is_state, p_is_count h]
theorem p_law_is_state {d : D} (h : plain d = true) : f_law_is_state [d] = .ok (.bl (isSt d)) := by
  simp [f_law_is_state, b_law_is_state, p_law_is_integer h]
  cases d <;> (try cases h) <;> simp [isInt, isSt]
  rename_i i; by_cases hi : 0 ≤ i <;> simp [hi]
/-! names -/
theorem loop_letters (r : RE) (hr : r.length = 2) : ∀ cs : List Nat,
    ∃ r', r'.length = 2 ∧ mLoop (stName 1) (mIf (mBool (mOp2 dNotInS (mVal (mVar 1)) (mVal (mC (.str letters))))) (mRet (mC (.bl false))) mNext) (cs.map fun c => D.str ⟨#[c]⟩) r = if (cs.all fun c => decide (c ∈ letters.cps)) = true then .ok (.nx r') else .ok (.rt (.bl false) r')
  | [] => ⟨r, hr, rfl⟩
  | c :: cs => by
    match r, hr with
    | [a, b], _ =>
      by_cases hc : c ∈ letters.cps
      · obtain ⟨r', h1, h2⟩ := loop_letters [a, some (.str ⟨#[c]⟩)] rfl cs
        refine ⟨r', h1, ?_⟩
        rw [List.map_cons, mLoop]
        simp at h2
        simp [hc, h2]
      · refine ⟨[a, some (.str ⟨#[c]⟩)], rfl, ?_⟩
        rw [List.map_cons, mLoop]
        simp [hc]
theorem allLet_eq (x : Str) : ∀ r : RE, r.length = 2 → ∃ r', mLoop (stName 1) (mIf (mBool (mOp2 dNotInS (mVal (mVar 1)) (mVal (mC (.str letters))))) (mRet (mC (.bl false))) mNext) (chars x) r = if allLet x = true then .ok (.nx r') else .ok (.rt (.bl false) r') := fun r hr => by
  obtain ⟨r', _, h⟩ := loop_letters r hr x.cps.toList
  exact ⟨r', h⟩
theorem p_is_name {d : D} (h : plain d = true) : f_is_name [d] = .ok (.bl (isNm d)) := by
  cases d with
  | str x =>
    have hx : x.length ≤ 1000000 := by
      have : x.length ≤ 1000 := by simpa [plain] using h
      omega
    obtain ⟨r', e⟩ := allLet_eq x [some (.str x), none] rfl
    simp only [letters] at e
    have e2 : isNm (.str x) = (okLen x && allLet x) := rfl
    rw [e2]
    by_cases h1 : (1 : Int) ≤ (x.length : Int)
    · by_cases h2 : (x.length : Int) ≤ 12
      · have ho : okLen x = true := by simp [okLen, h2]; omega
        simp [f_is_name, b_is_name, hx, ho, h1, h2]
        rw [e]
        by_cases ha : allLet x = true <;> simp [ha]
      · have ho : okLen x = false := by simp [okLen, h2]
        simp [f_is_name, b_is_name, hx, ho, h1, h2]
    · have ho : okLen x = false := by simp [okLen, h1]
      simp [f_is_name, b_is_name, hx, ho, h1]
  | non => rfl
  | bl b => rfl
  | int i => rfl
  | tup xs => rfl
  | lst xs => rfl
  | frl xs => rfl
  | dic xs => rfl
  | _ => cases h
end K01

set_option maxHeartbeats 4000000
namespace K01
open PySem L2 Mir
theorem p_law_is_name {d : D} (h : plain d = true) : f_law_is_name [d] = .ok (.bl (isNm d)) := by
  cases d with
  | str x =>
    have hx : x.length ≤ 1000 := by simpa [plain] using h
    have hx' : x.length ≤ 1000000 := by omega
    have e2 : isNm (.str x) = (okLen x && allLet x) := rfl
    rw [e2]
    by_cases h1 : (1 : Int) ≤ (x.length : Int)
    · by_cases h2 : (x.length : Int) ≤ 12
      · have ho : okLen x = true := by simp [okLen, h2]; omega
        have e := comp_map (vs := [1]) (st := stName 1) (mt := mBool (mOp2 dNotInS (mVal (mVar 1)) (mVal (mC (.str letters))))) (me := mVar 1) (r := [some (.str x), none]) (fun d => match d with
          | .str c => !decide (c.cps.getD 0 0 ∈ letters.cps.toList)
          | _ => false) id (chars x) [] (fun y hy => by
            obtain ⟨c, _, rfl⟩ := List.mem_map.mp hy
            exact ⟨_, _, rfl, rfl, rfl, fun _ => ⟨_, rfl, rfl⟩⟩) (by
            unfold chars; rw [List.length_map, Array.length_toList]
            show 0 + x.cps.size ≤ _
            have : x.cps.size = x.length := rfl
            omega)
        simp only [letters] at e
        simp [f_law_is_name, b_law_is_name, hx', ho, h1, h2]
        rw [e]
        simp [chars, allLet, letters]
        rw [Bool.eq_iff_iff]
        simp
        exact ⟨fun h i hi => decide_eq_true (h _ (Array.getElem_mem hi)), fun h a ha => by
          obtain ⟨i, hi, rfl⟩ := Array.getElem_of_mem ha
          exact of_decide_eq_true (h i hi)⟩
      · have ho : okLen x = false := by simp [okLen, h2]
        simp [f_law_is_name, b_law_is_name, hx', ho, h1, h2]
    · have ho : okLen x = false := by simp [okLen, h1]
      simp [f_law_is_name, b_law_is_name, hx', ho, h1]
  | non => rfl
  | bl b => rfl
  | int i => rfl
  | tup xs => rfl
  | lst xs => rfl
  | frl xs => rfl
  | dic xs => rfl
  | _ => cases h
theorem p_flag (a b : Bool) : f_law_flag [.bl a, .bl b] = .ok (.bl (a == b)) := by cases a <;> cases b <;> rfl
def mix1 (c k : Int) : Int := (c + 7919 * k + 1) * 48271 % 2147483647
def mix2 (n : Int) : Int := n * (n / 1009 + 69621) % 2147483647
def mix3 (n : Int) : Int := n * (n / 2003 + 40692) % 2147483399
def mixI (c k : Int) : Int := mix3 (mix2 (mix1 c k))
theorem p_mix (c k : Int) : f_law_mix [.int c, .int k] = .ok (.int (mixI c k)) := by
  have a1 : 0 ≤ mix1 c k ∧ mix1 c k < 2147483647 := ⟨Int.emod_nonneg _ (by decide), Int.emod_lt_of_pos _ (by decide)⟩
  have a2 : 0 ≤ mix2 (mix1 c k) ∧ mix2 (mix1 c k) < 2147483647 := ⟨Int.emod_nonneg _ (by decide), Int.emod_lt_of_pos _ (by decide)⟩
  have b1 : -10000000000000000000 < mix1 c k := by omega
  have b2 : mix1 c k < 10000000000000000000 := by omega
  have b3 : -10000000000000000000 < mix2 (mix1 c k) := by omega
  have b4 : mix2 (mix1 c k) < 10000000000000000000 := by omega
  unfold mixI mix3
  unfold mix2 at b3 b4 ⊢
  unfold mix1 at b1 b2 b3 b4 ⊢
  simp [f_law_mix, b_law_mix, b1, b2, b3, b4]
theorem p_cell (ns : List Int) (k : Nat) : ∃ i, f_law_cell [.frl (ns.map D.int), .int k] = .ok (.int i) := by
  by_cases h : k < ns.length
  · have h' : (k : Int) < (ns.length : Int) := by omega
    obtain ⟨x, h1, h2⟩ := atI_in (xs := ns.map D.int) (i := (k : Int)) (by omega) (by rw [List.length_map]; exact h')
    rw [List.getElem?_map] at h2
    have h3 : ns[(k : Int).toNat]? = some ns[k] := by rw [Int.toNat_natCast]; exact List.getElem?_eq_getElem h
    rw [h3] at h2
    cases h2
    exact ⟨ns[k], by simp [f_law_cell, b_law_cell, h', h1]⟩
  · have h' : ¬ (k : Int) < (ns.length : Int) := by omega
    by_cases h0 : ns = []
    · subst h0
      have h2 : ¬ (k : Int) < 0 := by omega
      exact ⟨k, by simp [f_law_cell, b_law_cell, h2]⟩
    · have hl : 0 < ns.length := List.length_pos_iff.mpr h0
      have hl0 : ¬ ns.length = 0 := by omega
      have m1 : 0 ≤ (k : Int) % (ns.length : Int) := Int.emod_nonneg _ (by omega)
      have m2 : (k : Int) % (ns.length : Int) < (ns.length : Int) := Int.emod_lt_of_pos _ (by omega)
      obtain ⟨x, h1, h2⟩ := atI_in (xs := ns.map D.int) m1 (by rw [List.length_map]; exact m2)
      obtain ⟨y, _, rfl⟩ : ∃ y, y ∈ ns ∧ D.int y = x := List.mem_map.mp (List.mem_of_getElem? h2)
      have hl' : (0 : Int) < (ns.length : Int) := by omega
      exact ⟨mixI y k, by simp [f_law_cell, b_law_cell, h', h0, hl0, hl, h1, p_mix]⟩
end K01

set_option maxHeartbeats 4000000
namespace K01
open PySem L2 Mir
def RowOk (sizes row : List Int) : Prop := row.length = sizes.length ∧ ∀ (j : Nat) (s : Int), sizes[j]? = some s → ∃ x, row[j]? = some x ∧ 0 ≤ x ∧ x < s
theorem p_row (c : Int) (sizes : List Int) (hs : ∀ s ∈ sizes, 0 < s ∧ s < 1073741824) (hl : sizes.length ≤ 1000) : ∃ row, f_law_row [.int c, .lst (sizes.map D.int)] = .ok (.lst (row.map D.int)) ∧ RowOk sizes row := by
  have key := loop_inv (st := stName 4) (b := mIf (mBool (mOp2 dGe (mVal (mVar 0)) (mVal (mOp2 dPow (mVal (mC (.int 10))) (mVal (mC (.int 18)))))))
          (mSeq (mDrop (mMut 2 "list" fAppend (mCons (mVal (mOp2 dMod (mVal (mArgs (d1 dInt) (mCons (mVal (mVar 3)) mNil))) (mVal (mOp2 dIx (mVal (mVar 1)) (mVal (mVar 4)))))) mNil)))
          (mSet 3 (mOp2 dDiv (mVal (mVar 3)) (mVal (mOp2 dIx (mVal (mVar 1)) (mVal (mVar 4)))))))
          (mDrop (mMut 2 "list" fAppend (mCons (mVal (mOp2 dMod (mVal (mArgs (d1 dInt) (mCons (mVal (mCall f_law_mix [] (mCons (mVal (mVar 0)) (mCons (mVal (mVar 4)) mNil)))) mNil))) (mVal (mOp2 dIx (mVal (mVar 1)) (mVal (mVar 4)))))) mNil))))
    (fun i r => ∃ (row : List Int) (rest : Int) (y : Option D), r = [some (.int c), some (.lst (sizes.map D.int)), some (.lst (row.map D.int)), some (.int rest), y] ∧ row.length = i ∧ ∀ (j : Nat) s, j < i → sizes[j]? = some s → ∃ x, row[j]? = some x ∧ 0 ≤ x ∧ x < s)
    (xs := rangeD 0 sizes.length) (r := [some (.int c), some (.lst (sizes.map D.int)), some (.lst []), some (.int c), none]) ⟨[], c, none, rfl, rfl, fun j s hj => absurd hj (by omega)⟩ ?_
  · obtain ⟨r', h1, row, rest, y, h2, h3, h4⟩ := key
    rw [rangeD_len] at h3 h4
    refine ⟨row, ?_, h3, fun j s e => h4 j s (List.getElem?_eq_some_iff.mp e).1 e⟩
    have hn : -1000000 ≤ (sizes.length : Int) ∧ (sizes.length : Int) ≤ 1000000 := by omega
    simp [f_law_row, b_law_row, hn]
    rw [h1, h2]
    simp
  · rintro i x r hx ⟨row, rest, y, rfl, hrow, hall⟩
    obtain ⟨rfl, hi⟩ := rangeD_mem hx
    have hg : sizes[i]? = some sizes[i] := List.getElem?_eq_getElem hi
    obtain ⟨s0, s1⟩ := hs sizes[i] (List.getElem_mem hi)
    have ha : atI (sizes.map D.int) (i : Int) = some (.int sizes[i]) := atI_nat (by rw [List.getElem?_map, hg]; rfl)
    have hz : row.length < 1000000 := by omega
    have step : ∀ (v : Int), 0 ≤ v → v < sizes[i] → ∀ (j : Nat) s, j < i + 1 → sizes[j]? = some s → ∃ x, (row ++ [v])[j]? = some x ∧ 0 ≤ x ∧ x < s := fun v v0 v1 j s hj e => by
      by_cases hji : j < i
      · obtain ⟨x, e1, e2⟩ := hall j s hji e
        exact ⟨x, by rw [List.getElem?_append_left (by omega)]; exact e1, e2⟩
      · have : j = i := by omega
        subst this
        rw [hg] at e; cases e
        exact ⟨v, by rw [List.getElem?_append_right (by omega), hrow]; simp, v0, v1⟩
    by_cases hc : (1000000000000000000 : Int) ≤ c
    · refine ⟨_, _, rfl, .inl ?_, row ++ [rest % sizes[i]], rest / sizes[i], some (.int (0 + (i : Int))), rfl, by rw [List.length_append, hrow]; rfl, step _ (Int.emod_nonneg _ (by omega)) (Int.emod_lt_of_pos _ (by omega))⟩
      simp [hc, ha, s0, s1, hz]
    · refine ⟨_, _, rfl, .inl ?_, row ++ [mixI c i % sizes[i]], rest, some (.int (0 + (i : Int))), rfl, by rw [List.length_append, hrow]; rfl, step _ (Int.emod_nonneg _ (by omega)) (Int.emod_lt_of_pos _ (by omega))⟩
      simp [hc, ha, s0, s1, hz, p_mix]
end K01

set_option maxHeartbeats 4000000
namespace K01
open PySem L2 Mir
theorem p_deep (n : Nat) (hn : n ≤ 1000000) : ∃ xs, f_law_deep [.int n] = .ok (.lst xs) := by
  have key := loop_inv (st := stName 2) (b := mSet 1 (mLst (mCons (mVal (mVar 1)) mNil))) (fun i r => ∃ (xs : List D) (y : Option D), r = [some (.int n), some (.lst xs), y])
    (xs := rangeD 0 n) (r := [some (.int n), some (.lst []), none]) ⟨[], none, rfl⟩ (by
      rintro i x r hx ⟨xs, y, rfl⟩
      exact ⟨_, _, rfl, .inl rfl, [.lst xs], some x, rfl⟩)
  obtain ⟨r', h1, xs, y, h2⟩ := key
  have hn' : -1000000 ≤ (n : Int) ∧ (n : Int) ≤ 1000000 := by omega
  refine ⟨xs, ?_⟩
  simp [f_law_deep, b_law_deep, hn']
  rw [h1, h2]
  simp
def things (xs : List D) : List D := [.non, .bl true, .bl false, .int (-1), .int 100, .int (10 ^ 40), .str (Str.ofString ""), .str (Str.ofString "a b"), .str (Str.ofString "Abc"), .str (Str.ofString "abcdefghijklm"), .lst [], .dic [], .tup [], .lst [.str (Str.ofString "a")], .tup [.str (Str.ofString "a")], .str (Str.ofString "a\n"), .lst xs, .dic [(Sum.inr (Str.ofString "a"), .int 1)]]
theorem p_thing (k : Int) : ∃ d, f_law_thing [.int k] = .ok d ∧ plain d = true := by
  obtain ⟨xs, hx⟩ := p_deep 1980 (by decide)
  have m1 : 0 ≤ k % 18 := Int.emod_nonneg _ (by decide)
  have m2 : k % 18 < 18 := Int.emod_lt_of_pos _ (by decide)
  obtain ⟨d, h1, h2⟩ := atI_in (xs := things xs) m1 (by exact m2)
  have hx' : f_law_deep [.int 1980] = .ok (.lst xs) := hx
  refine ⟨d, ?_, ?_⟩
  · simp [f_law_thing, b_law_thing, hx', mergeD, putD, hasD]
    simp only [things] at h1
    simp at h1
    rw [h1]
    simp
  · have hd := List.mem_of_getElem? h2
    have : ∀ d ∈ things xs, plain d = true := by
      intro d hd
      simp only [things, List.mem_cons, List.not_mem_nil, or_false] at hd
      rcases hd with h | h | h | h | h | h | h | h | h | h | h | h | h | h | h | h | h | h <;> subst h <;> first | rfl | decide +kernel
    exact this d hd
end K01

set_option maxHeartbeats 4000000
namespace K01
open PySem L2 Mir
theorem len_app (a b : Str) : (a ++ b).length = a.length + b.length := Array.size_append
theorem len_join : ∀ ys : List Str, (Str.join (Str.ofString "") ys).length = (ys.map (·.length)).sum
  | [] => rfl
  | [x] => by simp [Str.join]
  | x :: y :: ys => by
    have := len_join (y :: ys)
    rw [Str.join]
    · rw [len_app, len_app, this]
      have : (Str.ofString "").length = 0 := by decide +kernel
      rw [this]
      simp
    · intro z; cases z
theorem len_cut (z : Str) (lo hi : Option Int) : (cutS z lo hi).length ≤ z.length := by
  show ((z.cps.toList.drop _).take _).toArray.size ≤ z.cps.size
  rw [List.size_toArray, List.length_take, List.length_drop, Array.length_toList]
  omega
theorem cutD_mem {xs : List D} {lo hi : Option Int} {x : D} (h : x ∈ cutD xs lo hi) : x ∈ xs := List.mem_of_mem_drop (List.mem_of_mem_take h)
theorem cutD_len (xs : List D) (lo hi : Option Int) : (cutD xs lo hi).length ≤ xs.length := by
  unfold cutD
  rw [List.length_take, List.length_drop]
  omega
def sizesT : List Int := [3, 15, 15, 10, 26, 26, 26, 26, 26, 26, 26, 26, 26, 26, 26, 26, 26, 26]
def digit (d : D) : Bool := match d with
  | .int i => decide (0 ≤ i) && decide (i < 26)
  | _ => false
def letterOf (d : D) : D := match d with
  | .int i => match atI letters.cps.toList i with
    | some c => .str ⟨#[c]⟩
    | none => .non
  | _ => .non
theorem letterOf_ok {d : D} (h : digit d = true) : ∃ c i, d = .int i ∧ atI letters.cps.toList i = some c ∧ letterOf d = .str ⟨#[c]⟩ := by
  cases d <;> try (cases h)
  rename_i i
  simp [digit] at h
  obtain ⟨c, h1, _⟩ := atI_in (xs := letters.cps.toList) h.1 (by
    have : letters.cps.toList.length = 26 := by decide +kernel
    omega)
  exact ⟨c, i, rfl, h1, by simp only [letterOf, h1]⟩
theorem strs_letters : ∀ (ds : List D), (∀ d ∈ ds, digit d = true) → ∃ ys, strsD (ds.map letterOf) = some ys ∧ (ys.map (·.length)).sum = ds.length ∧ ys.length = ds.length
  | [], _ => ⟨[], rfl, rfl, rfl⟩
  | d :: ds, h => by
    obtain ⟨ys, h1, h2, h3⟩ := strs_letters ds fun x hx => h x (List.mem_cons_of_mem _ hx)
    obtain ⟨c, i, rfl, _, e⟩ := letterOf_ok (h d List.mem_cons_self)
    refine ⟨⟨#[c]⟩ :: ys, by rw [List.map_cons, e]; simp only [strsD, h1]; rfl, ?_, by rw [List.length_cons, List.length_cons, h3]⟩
    rw [List.map_cons, List.sum_cons, h2, List.length_cons]
    show 1 + ds.length = _
    omega
theorem p_text (c : Int) : ∃ t, f_law_text [.int c] = .ok (.str t) ∧ t.length ≤ 1000 := by
  obtain ⟨row, hrow, hl, hall⟩ := p_row c sizesT (by decide) (by decide)
  have hl' : row.length = 18 := hl
  obtain ⟨r0, e0, a0, b0⟩ := hall 0 3 rfl
  obtain ⟨r1, e1, a1, b1⟩ := hall 1 15 rfl
  obtain ⟨r2, e2, a2, b2⟩ := hall 2 15 rfl
  obtain ⟨r3, e3, a3, b3⟩ := hall 3 10 rfl
  have g : ∀ (j : Nat) (x : Int), row[j]? = some x → atI (row.map D.int) (j : Int) = some (.int x) := fun j x e => atI_nat (by rw [List.getElem?_map, e]; rfl)
  have g0 : atI (row.map D.int) 0 = some (.int r0) := g 0 r0 e0
  have g1 : atI (row.map D.int) 1 = some (.int r1) := g 1 r1 e1
  have g2 : atI (row.map D.int) 2 = some (.int r2) := g 2 r2 e2
  have g3 : atI (row.map D.int) 3 = some (.int r3) := g 3 r3 e3
  -- the digits
  have hd : ∀ d ∈ cutD (row.map D.int) (some 4) (some (4 + r1)), digit d = true := fun d hd => by
    unfold cutD at hd
    have hd2 := List.mem_of_mem_take hd
    have e4 : HT.sIx (row.map D.int).length 0 (some 4) = 4 := by rw [List.length_map, hl']; rfl
    rw [e4] at hd2
    obtain ⟨j, hj⟩ := List.mem_iff_getElem?.mp hd2
    rw [List.getElem?_drop, List.getElem?_map] at hj
    cases q : row[4 + j]? with
    | none => rw [q] at hj; cases hj
    | some x =>
      rw [q] at hj; cases hj
      have hj18 : 4 + j < 18 := by have := (List.getElem?_eq_some_iff.mp q).1; omega
      have hs : sizesT[4 + j]? = some 26 := by
        have : ∀ k : Fin 18, 4 ≤ k.val → sizesT[k.val]? = some 26 := by decide
        exact this ⟨4 + j, hj18⟩ (by show 4 ≤ 4 + j; omega)
      obtain ⟨y, y1, y2, y3⟩ := hall (4 + j) 26 hs
      rw [q] at y1; cases y1
      simp [digit]
      exact ⟨y2, y3⟩
  obtain ⟨ys, s1, s2, s3⟩ := strs_letters _ hd
  have hcl : (cutD (row.map D.int) (some 4) (some (4 + r1))).length ≤ 18 := by
    have := cutD_len (row.map D.int) (some 4) (some (4 + r1))
    rw [List.length_map, hl'] at this
    exact this
  have comp : ∀ r : RE, r.length = 5 → r[4]? = some none → mCompL [4] (stName 4) mYes (mOp2 dIx (mVal (mC (.str letters))) (mVal (mVar 4))) (cutD (row.map D.int) (some 4) (some (4 + r1))) r [] = .ok ((cutD (row.map D.int) (some 4) (some (4 + r1))).map letterOf, r) := fun r h5 h4 => by
    match r, h5, h4 with
    | [x0, x1, x2, x3, none], _, _ =>
      exact comp_all letterOf _ (fun y hy => by
        obtain ⟨ch, i, rfl, h1, h2⟩ := letterOf_ok (hd y hy)
        refine ⟨_, _, [x0, x1, x2, x3, some (.int i)], rfl, rfl, ?_, rfl, rfl⟩
        rw [h2]
        have hz : letters.length ≤ 1000000 := by decide +kernel
        simp only [mOp2, mVal, mC, mVar, bnd_ok, deref, dIx]
        simp [hz, h1]) (by omega)
  have hsz : (D.lst [.int 3, .int 15, .int 15, .int 10, .int 26, .int 26, .int 26, .int 26, .int 26, .int 26, .int 26, .int 26, .int 26, .int 26, .int 26, .int 26, .int 26, .int 26]) = .lst (sizesT.map D.int) := rfl
  have t0 : (Str.join (Str.ofString "") ys).length = (cutD (row.map D.int) (some 4) (some (4 + r1))).length := by rw [len_join, s2]
  have tl : (Str.join (Str.ofString "") ys).length ≤ 18 := by rw [t0]; exact hcl
  generalize ht : Str.join (Str.ofString "") ys = t at t0 tl
  have hsum : (ys.map (·.length)).sum + ys.length * (Str.ofString "").length ≤ 1000000 := by
    have : (Str.ofString "").length = 0 := by decide +kernel
    rw [this, s2]
    omega
  have c1 := comp [some (.int c), some (.lst (row.map D.int)), none, none, none] rfl rfl
  simp only [letters] at c1
  have first : (mSeq (mSet 1 (mCall f_law_row [] (mCons (mVal (mVar 0)) (mCons (mVal (mOp2 dAdd (mVal (mLst (mCons (mVal (mC (.int 3))) (mCons (mVal (mC (.int 15))) (mCons (mVal (mC (.int 15))) (mCons (mVal (mC (.int 10))) mNil)))))) (mVal (mOp2 dMul (mVal (mLst (mCons (mVal (mC (.int 26))) mNil))) (mVal (mC (.int 14))))))) mNil))))
      (mSet 2 (mOp1 (dJoin (Str.ofString "")) (mVal (mComp [4] (mItem asL (mCut dCut (mVal (mVar 1)) (mPart (mC (.int 4))) (mPart (mOp2 dAdd (mVal (mC (.int 4))) (mVal (mOp2 dIx (mVal (mVar 1)) (mVal (mC (.int 1))))))))) (stName 4) mYes (mOp2 dIx (mVal (mC (.str (Str.ofString "abcdefghijklmnopqrstuvwxyz")))) (mVal (mVar 4)))))))) [some (.int c), none, none, none, none] = .ok (.nx [some (.int c), some (.lst (row.map D.int)), some (.str t), none, none]) := by
    simp [List.replicate, hsz, hrow, g1]
    rw [c1]
    simp [s1, hsum, ht]
  have hf : f_law_text [.int c] = noX (runB false b_law_text [some (.int c), none, none, none, none]) := rfl
  have c0 : t.length ≤ 1000000 := by omega
  by_cases h1 : r0 = 1
  · obtain ⟨ch, q1, _⟩ := atI_in (xs := (Str.ofString "AZ09 _-`{\n").cps.toList) a3 (by
      have : (Str.ofString "AZ09 _-`{\n").cps.toList.length = 10 := by decide +kernel
      omega)
    have z1 : (Str.ofString "AZ09 _-`{\n").length ≤ 1000000 := by decide +kernel
    have lp : (0 : Int) < (t.length : Int) + 1 := by omega
    have k1 := len_cut t none (some (r2 % ((t.length : Int) + 1)))
    have k2 := len_cut t (some (r2 % ((t.length : Int) + 1))) none
    have k3 : (⟨#[ch]⟩ : Str).length = 1 := rfl
    have k4 : (cutS t none (some (r2 % ((t.length : Int) + 1)))).length + (⟨#[ch]⟩ : Str).length ≤ 1000000 := by omega
    have k5 : (cutS t none (some (r2 % ((t.length : Int) + 1))) ++ (⟨#[ch]⟩ : Str)).length + (cutS t (some (r2 % ((t.length : Int) + 1))) none).length ≤ 1000000 := by rw [len_app]; omega
    refine ⟨cutS t none (some (r2 % ((t.length : Int) + 1))) ++ (⟨#[ch]⟩ : Str) ++ cutS t (some (r2 % ((t.length : Int) + 1))) none, ?_, by rw [len_app, len_app]; omega⟩
    rw [hf, b_law_text, mSeq_assoc]
    simp only [runB, mSeq] at first ⊢
    rw [first]
    simp [g0, g2, g3, h1, lp, c0, z1, q1, k4, k5]
  · refine ⟨t, ?_, by omega⟩
    rw [hf, b_law_text, mSeq_assoc]
    simp only [runB, mSeq] at first ⊢
    rw [first]
    simp [g0, h1]
end K01

set_option maxHeartbeats 4000000
namespace K01
open PySem L2 Mir
/-! the law -/
def bIn : RE → Out Fl := (mSeq (mIf (mTNot (mTruth (mVal (mCall f_law_flag [] (mCons (mVal (mCall f_is_name [] (mCons (mVal (mVar 5)) mNil))) (mCons (mVal (mCall f_law_is_name [] (mCons (mVal (mVar 5)) mNil))) mNil))))))
            (mRet (mC (.bl false)))
            mNext)
          (mIf (mTNot (mTruth (mVal (mCall f_law_flag [] (mCons (mVal (mCall f_is_state [] (mCons (mVal (mVar 5)) mNil))) (mCons (mVal (mCall f_law_is_state [] (mCons (mVal (mVar 5)) mNil))) mNil))))))
            (mRet (mC (.bl false)))
            mNext))
theorem in_step (x0 x1 x2 x3 x4 : Option D) (x : D) (hp : plain x = true) : bIn [x0, x1, x2, x3, x4, some x] = .ok (.nx [x0, x1, x2, x3, x4, some x]) := by
  simp [bIn, p_is_name hp, p_law_is_name hp, p_is_state hp, p_law_is_state hp, p_flag]
theorem in_loop : ∀ (th : List D), (∀ d ∈ th, plain d = true) → ∀ (x0 x1 x2 x3 x4 x5 : Option D), ∃ y, mLoop (stName 5) bIn th [x0, x1, x2, x3, x4, x5] = .ok (.nx [x0, x1, x2, x3, x4, y])
  | [], _, x0, x1, x2, x3, x4, x5 => ⟨x5, rfl⟩
  | d :: th, h, x0, x1, x2, x3, x4, x5 => by
    obtain ⟨y, e⟩ := in_loop th (fun z hz => h z (List.mem_cons_of_mem _ hz)) x0 x1 x2 x3 x4 (some d)
    refine ⟨y, ?_⟩
    rw [mLoop]
    have e1 : stName 5 d [x0, x1, x2, x3, x4, x5] = some [x0, x1, x2, x3, x4, some d] := rfl
    rw [e1]
    simp only [in_step x0 x1 x2 x3 x4 d (h d List.mem_cons_self), bnd_ok, e]
def P40 : Int := 10 ^ 40
def bOut : RE → Out Fl := (mSeq (mSet 2 (mCall f_law_cell [] (mCons (mVal (mVar 0)) (mCons (mVal (mVar 1)) mNil))))
        (mSeq (mSet 3 (mOp2 dSub (mVal (mOp2 dMod (mVal (mArgs (d1 dInt) (mCons (mVal (mVar 2)) mNil))) (mVal (mC (.int 140))))) (mVal (mC (.int 20)))))
        (mSeq (mSet 4 (mOp2 dSub (mVal (mOp2 dMod (mVal (mArgs (d1 dInt) (mCons (mVal (mVar 2)) mNil))) (mVal (mOp2 dAdd (mVal (mOp2 dMul (mVal (mC (.int 2))) (mVal (mOp2 dPow (mVal (mC (.int 10))) (mVal (mC (.int 40))))))) (mVal (mC (.int 1))))))) (mVal (mOp2 dPow (mVal (mC (.int 10))) (mVal (mC (.int 40)))))))
        (mFor (mItem asL (mLst (mCons (mVal (mCall f_law_text [] (mCons (mVal (mVar 2)) mNil))) (mCons (mVal (mVar 3)) (mCons (mVal (mVar 4)) (mCons (mVal (mCall f_law_thing [] (mCons (mVal (mOp2 dMod (mVal (mArgs (d1 dInt) (mCons (mVal (mVar 2)) mNil))) (mVal (mC (.int 18))))) mNil))) (mCons (mVal (mCall f_law_thing [] (mCons (mVal (mCall f_law_mix [] (mCons (mVal (mVar 2)) (mCons (mVal (mC (.int 3))) mNil)))) mNil))) mNil))))))) (stName 5) bIn))))
theorem pow40 (r : RE) : mOp2 dPow (mVal (mC (.int 10))) (mVal (mC (.int 40))) r = .ok (.int P40, r) := rfl
theorem mod40 (c : Int) (x0 x1 x3 x4 x5 : Option D) : (mOp2 dSub (mVal (mOp2 dMod (mVal (mArgs (d1 dInt) (mCons (mVal (mVar 2)) mNil))) (mVal (mOp2 dAdd (mVal (mOp2 dMul (mVal (mC (.int 2))) (mVal (mOp2 dPow (mVal (mC (.int 10))) (mVal (mC (.int 40))))))) (mVal (mC (.int 1))))))) (mVal (mOp2 dPow (mVal (mC (.int 10))) (mVal (mC (.int 40)))))) [x0, x1, some (.int c), x3, x4, x5] = .ok (.int (c % (2 * P40 + 1) - P40), [x0, x1, some (.int c), x3, x4, x5]) := by
  kernel_rfl
theorem p_turn (ns : List Int) (i : Nat) (x1 x2 x3 x4 x5 : Option D) : ∃ y2 y3 y4 y5, bOut [some (.frl (ns.map D.int)), some (.int (0 + (i : Int))), x2, x3, x4, x5] = .ok (.nx [some (.frl (ns.map D.int)), some (.int (0 + (i : Int))), y2, y3, y4, y5]) := by
  obtain ⟨cv, hc⟩ := p_cell ns i
  obtain ⟨t, ht, htl⟩ := p_text cv
  obtain ⟨d1', hd1, hp1⟩ := p_thing (cv % 18)
  obtain ⟨d2', hd2, hp2⟩ := p_thing (mixI cv 3)
  obtain ⟨y, e⟩ := in_loop [.str t, .int (cv % 140 - 20), .int (cv % (2 * P40 + 1) - P40), d1', d2'] (by
        intro d hd
        simp only [List.mem_cons, List.not_mem_nil, or_false] at hd
        rcases hd with h | h | h | h | h <;> subst h
        · simp [plain, htl]
        · rfl
        · rfl
        · exact hp1
        · exact hp2) (some (.frl (ns.map D.int))) (some (.int (0 + (i : Int)))) (some (.int cv)) (some (.int (cv % 140 - 20))) (some (.int (cv % (2 * P40 + 1) - P40))) x5
  refine ⟨some (.int cv), some (.int (cv % 140 - 20)), some (.int (cv % (2 * P40 + 1) - P40)), y, ?_⟩
  have e0 : (0 : Int) + (i : Int) = (i : Int) := by omega
  rw [e0] at e ⊢
  have s2 : (mSet 2 (mCall f_law_cell [] (mCons (mVal (mVar 0)) (mCons (mVal (mVar 1)) mNil)))) [some (.frl (ns.map D.int)), some (.int (i : Int)), x2, x3, x4, x5] = .ok (.nx [some (.frl (ns.map D.int)), some (.int (i : Int)), some (.int cv), x3, x4, x5]) := by simp [hc]
  have s3 : (mSet 3 (mOp2 dSub (mVal (mOp2 dMod (mVal (mArgs (d1 dInt) (mCons (mVal (mVar 2)) mNil))) (mVal (mC (.int 140))))) (mVal (mC (.int 20))))) [some (.frl (ns.map D.int)), some (.int (i : Int)), some (.int cv), x3, x4, x5] = .ok (.nx [some (.frl (ns.map D.int)), some (.int (i : Int)), some (.int cv), some (.int (cv % 140 - 20)), x4, x5]) := by simp
  unfold bOut
  simp only [mSeq]
  rw [s2]
  simp only [bnd_ok]
  rw [s3]
  simp only [bnd_ok]
  rw [mSet, mod40]
  simp only [bnd_ok, List.set_cons_succ, List.set_cons_zero]
  simp [hd1, hd2, ht, p_mix]
  exact e
theorem p_loop (ns : List Int) : ∀ (k : Nat) (xs : List D), (∀ x ∈ xs, ∃ i : Nat, x = .int (0 + (i : Int))) → ∀ (x1 x2 x3 x4 x5 : Option D), ∃ y1 y2 y3 y4 y5, mLoop (stName 1) bOut xs [some (.frl (ns.map D.int)), x1, x2, x3, x4, x5] = .ok (.nx [some (.frl (ns.map D.int)), y1, y2, y3, y4, y5])
  | _, [], _, x1, x2, x3, x4, x5 => ⟨x1, x2, x3, x4, x5, rfl⟩
  | k, d :: xs, h, x1, x2, x3, x4, x5 => by
    obtain ⟨i, rfl⟩ := h d List.mem_cons_self
    obtain ⟨y2, y3, y4, y5, e⟩ := p_turn ns i x1 x2 x3 x4 x5
    obtain ⟨z1, z2, z3, z4, z5, e2⟩ := p_loop ns k xs (fun z hz => h z (List.mem_cons_of_mem _ hz)) (some (.int (0 + (i : Int)))) y2 y3 y4 y5
    refine ⟨z1, z2, z3, z4, z5, ?_⟩
    rw [mLoop]
    have e1 : stName 1 (.int (0 + (i : Int))) [some (.frl (ns.map D.int)), x1, x2, x3, x4, x5] = some [some (.frl (ns.map D.int)), some (.int (0 + (i : Int))), x2, x3, x4, x5] := rfl
    rw [e1]
    simp only [e, bnd_ok, e2]
theorem p_law (ns : List Int) : f_law [.frl (ns.map D.int)] = .ok (.bl true) := by
  obtain ⟨y1, y2, y3, y4, y5, e⟩ := p_loop ns 0 (rangeD 0 6) (fun x hx => by
    obtain ⟨i, hi⟩ := List.mem_iff_getElem?.mp hx
    exact ⟨i, (rangeD_mem hi).1⟩) none none none none none
  have eb : b_law = mSeq (mFor (mRng1 (mVal (mC (.int 6)))) (stName 1) bOut) (mRet (mC (.bl true))) := rfl
  have er : mRng1 (mVal (mC (.int 6))) [some (.frl (ns.map D.int)), none, none, none, none, none] = .ok (rangeD 0 6, [some (.frl (ns.map D.int)), none, none, none, none, none]) := rfl
  have ef : f_law [.frl (ns.map D.int)] = noX (runB false b_law [some (.frl (ns.map D.int)), none, none, none, none, none]) := rfl
  rw [ef, eb]
  simp only [runB, mSeq, mFor]
  rw [er]
  simp only [bnd_ok]
  rw [e]
  rfl
end K01

set_option maxHeartbeats 4000000
namespace K01
open PySem L2 Mir
theorem p_law_ok (ns : List Int) (_ : ns.length ≤ 63) : f_law [.frl (ns.map D.int)] = .ok (.bl true) := p_law ns
def spLaw (K : PySem.W.Frag) : Sp := fun vs H Q _ => ∃ (a : Addr) (ns : List Int), vs = [.ref a] ∧ SqL K H a (ns.map V.int) ∧ ns.length ≤ 63 ∧ ∀ H', Q (.bl true) H'
theorem all_mk {l : PySem.W.OpenLaw} {w : World} {K : PySem.W.Frag} {h : Heap} {mg : Str → Option Value} {fa : Addr} {f1 : Addr} {od1 an1 : Option Addr} {sl1 : Array (Option Value)} {oc1 kV1 dc1 pm1 cd1 ct1 : Value} {f2 : Addr} {od2 an2 : Option Addr} {sl2 : Array (Option Value)} {oc2 kV2 dc2 pm2 cd2 ct2 : Value} {f3 : Addr} {od3 an3 : Option Addr} {sl3 : Array (Option Value)} {oc3 kV3 dc3 pm3 cd3 ct3 : Value} {f4 : Addr} {od4 an4 : Option Addr} {sl4 : Array (Option Value)} {oc4 kV4 dc4 pm4 cd4 ct4 : Value} {f5 : Addr} {od5 an5 : Option Addr} {sl5 : Array (Option Value)} {oc5 kV5 dc5 pm5 cd5 ct5 : Value} {f6 : Addr} {od6 an6 : Option Addr} {sl6 : Array (Option Value)} {oc6 kV6 dc6 pm6 cd6 ct6 : Value} {f7 : Addr} {od7 an7 : Option Addr} {sl7 : Array (Option Value)} {oc7 kV7 dc7 pm7 cd7 ct7 : Value} {f8 : Addr} {od8 an8 : Option Addr} {sl8 : Array (Option Value)} {oc8 kV8 dc8 pm8 cd8 ct8 : Value} {f9 : Addr} {od9 an9 : Option Addr} {sl9 : Array (Option Value)} {oc9 kV9 dc9 pm9 cd9 ct9 : Value} {f10 : Addr} {od10 an10 : Option Addr} {sl10 : Array (Option Value)} {oc10 kV10 dc10 pm10 cd10 ct10 : Value} {f11 : Addr} {od11 an11 : Option Addr} {sl11 : Array (Option Value)} {oc11 kV11 dc11 pm11 cd11 ct11 : Value} {f12 : Addr} {od12 an12 : Option Addr} {sl12 : Array (Option Value)} {oc12 kV12 dc12 pm12 cd12 ct12 : Value} {f13 : Addr} {od13 an13 : Option Addr} {sl13 : Array (Option Value)} {oc13 kV13 dc13 pm13 cd13 ct13 : Value} {f14 : Addr} {od14 an14 : Option Addr} {sl14 : Array (Option Value)} {oc14 kV14 dc14 pm14 cd14 ct14 : Value} {f15 : Addr} {od15 an15 : Option Addr} {sl15 : Array (Option Value)} {oc15 kV15 dc15 pm15 cd15 ct15 : Value} {t_LETTERS : Tok} {t_MOST_LETTERS : Tok} {t_MOST_STATE : Tok} (X : K.In h) (G : h.Ns mainGlobals mg) (hfa : mg (Str.ofString "law") = some (.ref fa))
    (a1 : PySem.W.nsIn K mainGlobals (Str.ofString "is_integer") = some (some (.ref f1))) (l1 : K.lookup f1 = some ⟨oc1, od1, .func (PySem.W.fnOf (Str.ofString "is_integer") (Str.ofString "is_integer") (defArgs s_is_integer) (defBody s_is_integer) (defScope s_is_integer) .none kV1 dc1 pm1 an1 cd1 ct1), sl1⟩) (c1 : PySem.W.codeIn K cd1 (Str.ofString "is_integer") = true) (k1 : PySem.W.keepIn K (.ref f1) = true)
    (a2 : PySem.W.nsIn K mainGlobals (Str.ofString "is_count") = some (some (.ref f2))) (l2 : K.lookup f2 = some ⟨oc2, od2, .func (PySem.W.fnOf (Str.ofString "is_count") (Str.ofString "is_count") (defArgs s_is_count) (defBody s_is_count) (defScope s_is_count) .none kV2 dc2 pm2 an2 cd2 ct2), sl2⟩) (c2 : PySem.W.codeIn K cd2 (Str.ofString "is_count") = true) (k2 : PySem.W.keepIn K (.ref f2) = true)
    (a3 : PySem.W.nsIn K mainGlobals (Str.ofString "is_state") = some (some (.ref f3))) (l3 : K.lookup f3 = some ⟨oc3, od3, .func (PySem.W.fnOf (Str.ofString "is_state") (Str.ofString "is_state") (defArgs s_is_state) (defBody s_is_state) (defScope s_is_state) .none kV3 dc3 pm3 an3 cd3 ct3), sl3⟩) (c3 : PySem.W.codeIn K cd3 (Str.ofString "is_state") = true) (k3 : PySem.W.keepIn K (.ref f3) = true)
    (a4 : PySem.W.nsIn K mainGlobals (Str.ofString "is_name") = some (some (.ref f4))) (l4 : K.lookup f4 = some ⟨oc4, od4, .func (PySem.W.fnOf (Str.ofString "is_name") (Str.ofString "is_name") (defArgs s_is_name) (defBody s_is_name) (defScope s_is_name) .none kV4 dc4 pm4 an4 cd4 ct4), sl4⟩) (c4 : PySem.W.codeIn K cd4 (Str.ofString "is_name") = true) (k4 : PySem.W.keepIn K (.ref f4) = true)
    (a5 : PySem.W.nsIn K mainGlobals (Str.ofString "_law_mix") = some (some (.ref f5))) (l5 : K.lookup f5 = some ⟨oc5, od5, .func (PySem.W.fnOf (Str.ofString "_law_mix") (Str.ofString "_law_mix") (defArgs s_law_mix) (defBody s_law_mix) (defScope s_law_mix) .none kV5 dc5 pm5 an5 cd5 ct5), sl5⟩) (c5 : PySem.W.codeIn K cd5 (Str.ofString "_law_mix") = true) (k5 : PySem.W.keepIn K (.ref f5) = true)
    (a6 : PySem.W.nsIn K mainGlobals (Str.ofString "_law_cell") = some (some (.ref f6))) (l6 : K.lookup f6 = some ⟨oc6, od6, .func (PySem.W.fnOf (Str.ofString "_law_cell") (Str.ofString "_law_cell") (defArgs s_law_cell) (defBody s_law_cell) (defScope s_law_cell) .none kV6 dc6 pm6 an6 cd6 ct6), sl6⟩) (c6 : PySem.W.codeIn K cd6 (Str.ofString "_law_cell") = true) (k6 : PySem.W.keepIn K (.ref f6) = true)
    (a7 : PySem.W.nsIn K mainGlobals (Str.ofString "_law_row") = some (some (.ref f7))) (l7 : K.lookup f7 = some ⟨oc7, od7, .func (PySem.W.fnOf (Str.ofString "_law_row") (Str.ofString "_law_row") (defArgs s_law_row) (defBody s_law_row) (defScope s_law_row) .none kV7 dc7 pm7 an7 cd7 ct7), sl7⟩) (c7 : PySem.W.codeIn K cd7 (Str.ofString "_law_row") = true) (k7 : PySem.W.keepIn K (.ref f7) = true)
    (a8 : PySem.W.nsIn K mainGlobals (Str.ofString "_law_is_integer") = some (some (.ref f8))) (l8 : K.lookup f8 = some ⟨oc8, od8, .func (PySem.W.fnOf (Str.ofString "_law_is_integer") (Str.ofString "_law_is_integer") (defArgs s_law_is_integer) (defBody s_law_is_integer) (defScope s_law_is_integer) .none kV8 dc8 pm8 an8 cd8 ct8), sl8⟩) (c8 : PySem.W.codeIn K cd8 (Str.ofString "_law_is_integer") = true) (k8 : PySem.W.keepIn K (.ref f8) = true)
    (a9 : PySem.W.nsIn K mainGlobals (Str.ofString "_law_flag") = some (some (.ref f9))) (l9 : K.lookup f9 = some ⟨oc9, od9, .func (PySem.W.fnOf (Str.ofString "_law_flag") (Str.ofString "_law_flag") (defArgs s_law_flag) (defBody s_law_flag) (defScope s_law_flag) .none kV9 dc9 pm9 an9 cd9 ct9), sl9⟩) (c9 : PySem.W.codeIn K cd9 (Str.ofString "_law_flag") = true) (k9 : PySem.W.keepIn K (.ref f9) = true)
    (a10 : PySem.W.nsIn K mainGlobals (Str.ofString "_law_is_state") = some (some (.ref f10))) (l10 : K.lookup f10 = some ⟨oc10, od10, .func (PySem.W.fnOf (Str.ofString "_law_is_state") (Str.ofString "_law_is_state") (defArgs s_law_is_state) (defBody s_law_is_state) (defScope s_law_is_state) .none kV10 dc10 pm10 an10 cd10 ct10), sl10⟩) (c10 : PySem.W.codeIn K cd10 (Str.ofString "_law_is_state") = true) (k10 : PySem.W.keepIn K (.ref f10) = true)
    (a11 : PySem.W.nsIn K mainGlobals (Str.ofString "_law_is_name") = some (some (.ref f11))) (l11 : K.lookup f11 = some ⟨oc11, od11, .func (PySem.W.fnOf (Str.ofString "_law_is_name") (Str.ofString "_law_is_name") (defArgs s_law_is_name) (defBody s_law_is_name) (defScope s_law_is_name) .none kV11 dc11 pm11 an11 cd11 ct11), sl11⟩) (c11 : PySem.W.codeIn K cd11 (Str.ofString "_law_is_name") = true) (k11 : PySem.W.keepIn K (.ref f11) = true)
    (a12 : PySem.W.nsIn K mainGlobals (Str.ofString "_law_deep") = some (some (.ref f12))) (l12 : K.lookup f12 = some ⟨oc12, od12, .func (PySem.W.fnOf (Str.ofString "_law_deep") (Str.ofString "_law_deep") (defArgs s_law_deep) (defBody s_law_deep) (defScope s_law_deep) .none kV12 dc12 pm12 an12 cd12 ct12), sl12⟩) (c12 : PySem.W.codeIn K cd12 (Str.ofString "_law_deep") = true) (k12 : PySem.W.keepIn K (.ref f12) = true)
    (a13 : PySem.W.nsIn K mainGlobals (Str.ofString "_law_thing") = some (some (.ref f13))) (l13 : K.lookup f13 = some ⟨oc13, od13, .func (PySem.W.fnOf (Str.ofString "_law_thing") (Str.ofString "_law_thing") (defArgs s_law_thing) (defBody s_law_thing) (defScope s_law_thing) .none kV13 dc13 pm13 an13 cd13 ct13), sl13⟩) (c13 : PySem.W.codeIn K cd13 (Str.ofString "_law_thing") = true) (k13 : PySem.W.keepIn K (.ref f13) = true)
    (a14 : PySem.W.nsIn K mainGlobals (Str.ofString "_law_text") = some (some (.ref f14))) (l14 : K.lookup f14 = some ⟨oc14, od14, .func (PySem.W.fnOf (Str.ofString "_law_text") (Str.ofString "_law_text") (defArgs s_law_text) (defBody s_law_text) (defScope s_law_text) .none kV14 dc14 pm14 an14 cd14 ct14), sl14⟩) (c14 : PySem.W.codeIn K cd14 (Str.ofString "_law_text") = true) (k14 : PySem.W.keepIn K (.ref f14) = true)
    (a15 : PySem.W.nsIn K mainGlobals (Str.ofString "law") = some (some (.ref f15))) (l15 : K.lookup f15 = some ⟨oc15, od15, .func (PySem.W.fnOf (Str.ofString "law") (Str.ofString "law") (defArgs s_law) (defBody s_law) (defScope s_law) .none kV15 dc15 pm15 an15 cd15 ct15), sl15⟩) (c15 : PySem.W.codeIn K cd15 (Str.ofString "law") = true) (k15 : PySem.W.keepIn K (.ref f15) = true)
    (z_bool : PySem.W.nsIn K mainGlobals (Str.ofString "bool") = some none)
    (z_int : PySem.W.nsIn K mainGlobals (Str.ofString "int") = some none)
    (z_isinstance : PySem.W.nsIn K mainGlobals (Str.ofString "isinstance") = some none)
    (z_len : PySem.W.nsIn K mainGlobals (Str.ofString "len") = some none)
    (z_range : PySem.W.nsIn K mainGlobals (Str.ofString "range") = some none)
    (z_str : PySem.W.nsIn K mainGlobals (Str.ofString "str") = some none)
    (q_LETTERS : PySem.W.nsIn K mainGlobals (Str.ofString "LETTERS") = some (some (.str (Str.ofString "abcdefghijklmnopqrstuvwxyz") t_LETTERS)))
    (q_MOST_LETTERS : PySem.W.nsIn K mainGlobals (Str.ofString "MOST_LETTERS") = some (some (.int 12 t_MOST_LETTERS)))
    (q_MOST_STATE : PySem.W.nsIn K mainGlobals (Str.ofString "MOST_STATE") = some (some (.int 99 t_MOST_STATE))) :
    ∃ fd : FuncData, (∀ (s : Shared) (v : Value), BindsTo s fd ⟨[v], []⟩ [(Str.ofString "_law_script", v)]) ∧ ∀ base : Heap, K.In base → base.Ns mainGlobals mg → FnOk l.prog w K mg base CX0 4 fa fd [Str.ofString "_law_script"] (spLaw K) := by
  have e := hfa.symm.trans (PySem.W.mg_of X G a15)
  cases e
  have T : Txt K mg := ⟨PySem.W.mg_none_of X G z_bool, PySem.W.mg_none_of X G z_int, PySem.W.mg_none_of X G z_isinstance, PySem.W.mg_none_of X G z_len, PySem.W.mg_none_of X G z_range, PySem.W.mg_none_of X G z_str, ⟨_, PySem.W.mg_of X G q_LETTERS⟩, ⟨_, PySem.W.mg_of X G q_MOST_LETTERS⟩, ⟨_, PySem.W.mg_of X G q_MOST_STATE⟩⟩
  have F1 := fun_mk (st := s_is_integer) l1 c1 k1
  have b1 := F1.binds (ps := [Str.ofString "value"]) fun _ _ _ _ _ _ us hl => match us, hl with | [_], _ => rfl
  have F2 := fun_mk (st := s_is_count) l2 c2 k2
  have b2 := F2.binds (ps := [Str.ofString "value", Str.ofString "most"]) fun _ _ _ _ _ _ us hl => match us, hl with | [_, _], _ => rfl
  have F3 := fun_mk (st := s_is_state) l3 c3 k3
  have b3 := F3.binds (ps := [Str.ofString "value"]) fun _ _ _ _ _ _ us hl => match us, hl with | [_], _ => rfl
  have F4 := fun_mk (st := s_is_name) l4 c4 k4
  have b4 := F4.binds (ps := [Str.ofString "value"]) fun _ _ _ _ _ _ us hl => match us, hl with | [_], _ => rfl
  have F5 := fun_mk (st := s_law_mix) l5 c5 k5
  have b5 := F5.binds (ps := [Str.ofString "_law_cell_here", Str.ofString "_law_k"]) fun _ _ _ _ _ _ us hl => match us, hl with | [_, _], _ => rfl
  have F6 := fun_mk (st := s_law_cell) l6 c6 k6
  have b6 := F6.binds (ps := [Str.ofString "_law_script", Str.ofString "_law_k"]) fun _ _ _ _ _ _ us hl => match us, hl with | [_, _], _ => rfl
  have F7 := fun_mk (st := s_law_row) l7 c7 k7
  have b7 := F7.binds (ps := [Str.ofString "_law_cell_here", Str.ofString "_law_sizes"]) fun _ _ _ _ _ _ us hl => match us, hl with | [_, _], _ => rfl
  have F8 := fun_mk (st := s_law_is_integer) l8 c8 k8
  have b8 := F8.binds (ps := [Str.ofString "_law_thing_here"]) fun _ _ _ _ _ _ us hl => match us, hl with | [_], _ => rfl
  have F9 := fun_mk (st := s_law_flag) l9 c9 k9
  have b9 := F9.binds (ps := [Str.ofString "_law_told", Str.ofString "_law_due"]) fun _ _ _ _ _ _ us hl => match us, hl with | [_, _], _ => rfl
  have F10 := fun_mk (st := s_law_is_state) l10 c10 k10
  have b10 := F10.binds (ps := [Str.ofString "_law_thing_here"]) fun _ _ _ _ _ _ us hl => match us, hl with | [_], _ => rfl
  have F11 := fun_mk (st := s_law_is_name) l11 c11 k11
  have b11 := F11.binds (ps := [Str.ofString "_law_thing_here"]) fun _ _ _ _ _ _ us hl => match us, hl with | [_], _ => rfl
  have F12 := fun_mk (st := s_law_deep) l12 c12 k12
  have b12 := F12.binds (ps := [Str.ofString "_law_many"]) fun _ _ _ _ _ _ us hl => match us, hl with | [_], _ => rfl
  have F13 := fun_mk (st := s_law_thing) l13 c13 k13
  have b13 := F13.binds (ps := [Str.ofString "_law_digit"]) fun _ _ _ _ _ _ us hl => match us, hl with | [_], _ => rfl
  have F14 := fun_mk (st := s_law_text) l14 c14 k14
  have b14 := F14.binds (ps := [Str.ofString "_law_cell_here"]) fun _ _ _ _ _ _ us hl => match us, hl with | [_], _ => rfl
  have F15 := fun_mk (st := s_law) l15 c15 k15
  refine ⟨PySem.W.fnOf (Str.ofString "law") (Str.ofString "law") (defArgs s_law) (defBody s_law) (defScope s_law) .none kV15 dc15 pm15 an15 cd15 ct15, fun s v => .of_eq rfl, fun base _ _ => ?_⟩
  have G_is_integer : Fn0 l.prog w K mg base 1 (Str.ofString "is_integer") 1 false f_is_integer := ok_is_integer T F1 (PySem.W.mg_of X G a1) b1 
  have G_is_count : Fn0 l.prog w K mg base 2 (Str.ofString "is_count") 2 false f_is_count := ok_is_count T F2 (PySem.W.mg_of X G a2) b2 G_is_integer
  have G_is_state : Fn0 l.prog w K mg base 3 (Str.ofString "is_state") 1 false f_is_state := ok_is_state T F3 (PySem.W.mg_of X G a3) b3 G_is_count
  have G_is_name : Fn0 l.prog w K mg base 1 (Str.ofString "is_name") 1 false f_is_name := ok_is_name T F4 (PySem.W.mg_of X G a4) b4 
  have G_law_mix : Fn0 l.prog w K mg base 1 (Str.ofString "_law_mix") 2 false f_law_mix := ok_law_mix T F5 (PySem.W.mg_of X G a5) b5 
  have G_law_cell : Fn0 l.prog w K mg base 2 (Str.ofString "_law_cell") 2 false f_law_cell := ok_law_cell T F6 (PySem.W.mg_of X G a6) b6 G_law_mix
  have G_law_row : Fn0 l.prog w K mg base 2 (Str.ofString "_law_row") 2 false f_law_row := ok_law_row T F7 (PySem.W.mg_of X G a7) b7 G_law_mix
  have G_law_is_integer : Fn0 l.prog w K mg base 1 (Str.ofString "_law_is_integer") 1 false f_law_is_integer := ok_law_is_integer T F8 (PySem.W.mg_of X G a8) b8 
  have G_law_flag : Fn0 l.prog w K mg base 1 (Str.ofString "_law_flag") 2 false f_law_flag := ok_law_flag T F9 (PySem.W.mg_of X G a9) b9 
  have G_law_is_state : Fn0 l.prog w K mg base 2 (Str.ofString "_law_is_state") 1 false f_law_is_state := ok_law_is_state T F10 (PySem.W.mg_of X G a10) b10 G_law_is_integer
  have G_law_is_name : Fn0 l.prog w K mg base 1 (Str.ofString "_law_is_name") 1 false f_law_is_name := ok_law_is_name T F11 (PySem.W.mg_of X G a11) b11 
  have G_law_deep : Fn0 l.prog w K mg base 1 (Str.ofString "_law_deep") 1 false f_law_deep := ok_law_deep T F12 (PySem.W.mg_of X G a12) b12 
  have G_law_thing : Fn0 l.prog w K mg base 2 (Str.ofString "_law_thing") 1 false f_law_thing := ok_law_thing T F13 (PySem.W.mg_of X G a13) b13 G_law_deep
  have G_law_text : Fn0 l.prog w K mg base 3 (Str.ofString "_law_text") 1 false f_law_text := ok_law_text T F14 (PySem.W.mg_of X G a14) b14 G_law_row
  refine (okL T F15 G_law_cell G_law_flag G_law_is_name G_law_is_state G_law_mix G_law_text G_law_thing G_is_name G_is_state).imp fun vs H Q E h => ?_
  obtain ⟨a, ns, rfl, hS, hl, k⟩ := h
  exact law_end hS (p_law_ok ns hl) k
end K01
open PySem PySem.W PyProof.Rows
set_option maxHeartbeats 0 in
theorem PySem.Challenge.cw_knownlate_k01_names_and_states_holds : PySem.Challenge.rw_knownlate_k01_names_and_states.Holds := by
  w_on; o_law; k_head; (case hw => w_witness2)
  k_fill
  refine L2.walk_of (l := PySem.Challenge.rw_knownlate_k01_names_and_states) (n := 63) (k := 4) (x := Str.ofString "_law_script") (CX := fun _ => L2.CX0) (sp := fun w => K01.spLaw _) rfl (by decide) rfl ⟨rfl, by decide, by decide⟩ (fun w h Y => PySem.W.kIn_of Y) ?F (fun _ _ a ns hl _ hS => ⟨a, ns, rfl, hS, hl, fun _ => rfl⟩) (fun _ _ _ _ _ h => h)
  case F =>
    intro w mg fa h KX G hmg
    refine' K01.all_mk KX G hmg ?a1 ?l1 ?c1 ?k1 ?a2 ?l2 ?c2 ?k2 ?a3 ?l3 ?c3 ?k3 ?a4 ?l4 ?c4 ?k4 ?a5 ?l5 ?c5 ?k5 ?a6 ?l6 ?c6 ?k6 ?a7 ?l7 ?c7 ?k7 ?a8 ?l8 ?c8 ?k8 ?a9 ?l9 ?c9 ?k9 ?a10 ?l10 ?c10 ?k10 ?a11 ?l11 ?c11 ?k11 ?a12 ?l12 ?c12 ?k12 ?a13 ?l13 ?c13 ?k13 ?a14 ?l14 ?c14 ?k14 ?a15 ?l15 ?c15 ?k15 ?z_bool ?z_int ?z_isinstance ?z_len ?z_range ?z_str ?q_LETTERS ?q_MOST_LETTERS ?q_MOST_STATE
    (case a1 => k_is)
    (case l1 => k_is)
    (case c1 => k_is)
    (case k1 => k_is)
    (case a2 => k_is)
    (case l2 => k_is)
    (case c2 => k_is)
    (case k2 => k_is)
    (case a3 => k_is)
    (case l3 => k_is)
    (case c3 => k_is)
    (case k3 => k_is)
    (case a4 => k_is)
    (case l4 => k_is)
    (case c4 => k_is)
    (case k4 => k_is)
    (case a5 => k_is)
    (case l5 => k_is)
    (case c5 => k_is)
    (case k5 => k_is)
    (case a6 => k_is)
    (case l6 => k_is)
    (case c6 => k_is)
    (case k6 => k_is)
    (case a7 => k_is)
    (case l7 => k_is)
    (case c7 => k_is)
    (case k7 => k_is)
    (case a8 => k_is)
    (case l8 => k_is)
    (case c8 => k_is)
    (case k8 => k_is)
    (case a9 => k_is)
    (case l9 => k_is)
    (case c9 => k_is)
    (case k9 => k_is)
    (case a10 => k_is)
    (case l10 => k_is)
    (case c10 => k_is)
    (case k10 => k_is)
    (case a11 => k_is)
    (case l11 => k_is)
    (case c11 => k_is)
    (case k11 => k_is)
    (case a12 => k_is)
    (case l12 => k_is)
    (case c12 => k_is)
    (case k12 => k_is)
    (case a13 => k_is)
    (case l13 => k_is)
    (case c13 => k_is)
    (case k13 => k_is)
    (case a14 => k_is)
    (case l14 => k_is)
    (case c14 => k_is)
    (case k14 => k_is)
    (case a15 => k_is)
    (case l15 => k_is)
    (case c15 => k_is)
    (case k15 => k_is)
    (case z_bool => k_is)
    (case z_int => k_is)
    (case z_isinstance => k_is)
    (case z_len => k_is)
    (case z_range => k_is)
    (case z_str => k_is)
    (case q_LETTERS => k_is)
    (case q_MOST_LETTERS => k_is)
    (case q_MOST_STATE => k_is)
#print axioms PySem.Challenge.cw_knownlate_k01_names_and_states_holds
