import PyProof.Rows.All
import Wide.All
import OpenK.AllK
import Wide.FinOn
import HandS.ForMost
import HandS.ForExc
import HandS.IsInst
import HandS.Walk
import HandS.TupAny
import HandS.Deep
import HandS.Small
import HandS.More
import HandS.Style
import HandS.SetKeys
import HandS.Finally
import HandS.Iter
import HandS.Strs
import HandS.SetFor
import HandS.SortInts
import KE.SortData
import KE.SortCalls
import HandS.TupSets
import HandS.SetBool
import KE.GoesEnum
import HandS.DictComp
import HandS.NoneIn
import HandS.WordsDict
import HandS.Property
import HandS.Defaults
import HandS.OwnEq
import HandS.Codes
import HandS.Sort
import KE.KDictList
import PyProof.P3Eq
import PySem.Challenge.RW_knownlate_k15_what_a_run_did
set_option Elab.async false
set_option linter.all false
set_option maxRecDepth 100000
set_option maxHeartbeats 4000000
namespace Mir
open PySem PySem.Spec PyProof.Rows L2

/-! ## plain data -/
inductive D where
  | non | bl (b : Bool) | int (i : Int) | str (x : Str) | ty (n : String)
  /-- a live thing: the store's cell -/
  | cell (c : Nat)
  | tup (xs : List D) | lst (xs : List D) | frl (xs : List D) | dic (kvs : List (Key × D)) | dct (kvs : List (List Key × D)) | ins (C : Addr) (fs : List (Str × D))
  /-- (in the store alone) a dict that a loop walks -/
  | lck (d : D)
instance : Inhabited D := ⟨.non⟩

/-! ## heaps -/
def isDict : HO → Bool
  | .dK _ => true
  | .dT _ => true
  | _ => false
def core : HO → HO
  | .frz o u => if isDict u = true then u else .frz o u
  | u => u
/-- all of G stands in H (a dict may be locked or not) -/
def Sub (G H : Hp) : Prop := ∀ a u, G a = some u → ∃ u', H a = some u' ∧ core u' = core u
theorem Sub.refl (G : Hp) : Sub G G := fun _ u h => ⟨u, h, rfl⟩
theorem Sub.trans {A B C : Hp} (h : Sub A B) (k : Sub B C) : Sub A C := fun a u e => by
  obtain ⟨u1, e1, c1⟩ := h a u e
  obtain ⟨u2, e2, c2⟩ := k a u1 e1
  exact ⟨u2, e2, c2.trans c1⟩
theorem core_lst {u : HO} {xs : List V} (h : core u = .lst xs) : u = .lst xs := by
  cases u <;> simp only [core] at h <;> try (exact h)
  split at h
  · rename_i ob v hd
    rw [h] at hd; cases hd
  · cases h
theorem core_tup {u : HO} {xs : List V} (h : core u = .tup xs) : u = .tup xs := by
  cases u <;> simp only [core] at h <;> try (exact h)
  split at h
  · rename_i ob v hd
    rw [h] at hd; cases hd
  · cases h
theorem core_ins {u : HO} {C dx : Addr} {fs : List (Str × V)} (h : core u = .ins C dx fs) : u = .ins C dx fs := by
  cases u <;> simp only [core] at h <;> try (exact h)
  split at h
  · rename_i ob v hd
    rw [h] at hd; cases hd
  · cases h
theorem core_own {u : HO} {x : Addr} (h : core u = .own x) : u = .own x := by
  cases u <;> simp only [core] at h <;> try (exact h)
  split at h
  · rename_i ob v hd
    rw [h] at hd; cases hd
  · cases h
theorem core_dK {u : HO} {kvs : List (Key × V)} (h : core u = .dK kvs) : u = .dK kvs ∨ ∃ o, u = .frz o (.dK kvs) := by
  cases u <;> simp only [core] at h <;> try (exact .inl h)
  split at h
  · rename_i ob v hd
    exact .inr ⟨ob, by rw [h]⟩
  · cases h
theorem core_dT {u : HO} {kvs : List (List Key × V)} (h : core u = .dT kvs) : u = .dT kvs ∨ ∃ o, u = .frz o (.dT kvs) := by
  cases u <;> simp only [core] at h <;> try (exact .inl h)
  split at h
  · rename_i ob v hd
    exact .inr ⟨ob, by rw [h]⟩
  · cases h
theorem core_frz {u : HO} {o : Obj} {v : HO} (hv : isDict v = false) (h : core u = .frz o v) : u = .frz o v := by
  cases u <;> simp only [core] at h <;> try (cases h)
  split at h
  · rename_i ob v' hd
    rw [h] at hd; cases hd
  · exact h
theorem Sub.rd_lst {G H : Hp} (s : Sub G H) {a : Addr} {xs : List V} (h : Rd G a (.lst xs)) : Rd H a (.lst xs) := by
  rcases h with h | ⟨o, h⟩
  · obtain ⟨u, e, c⟩ := s a _ h
    rw [core_lst c] at e; exact .inl e
  · obtain ⟨u, e, c⟩ := s a _ h
    have c' : core u = .frz o (.lst xs) := by rw [c]; rfl
    rw [core_frz rfl c'] at e; exact .inr ⟨o, e⟩
theorem Sub.rd_tup {G H : Hp} (s : Sub G H) {a : Addr} {xs : List V} (h : Rd G a (.tup xs)) : Rd H a (.tup xs) := by
  rcases h with h | ⟨o, h⟩
  · obtain ⟨u, e, c⟩ := s a _ h
    rw [core_tup c] at e; exact .inl e
  · obtain ⟨u, e, c⟩ := s a _ h
    have c' : core u = .frz o (.tup xs) := by rw [c]; rfl
    rw [core_frz rfl c'] at e; exact .inr ⟨o, e⟩
theorem Sub.rd_dK {G H : Hp} (s : Sub G H) {a : Addr} {xs : List (Key × V)} (h : Rd G a (.dK xs)) : Rd H a (.dK xs) := by
  rcases h with h | ⟨o, h⟩ <;> (obtain ⟨u, e, c⟩ := s a _ h; rcases core_dK (u := u) (by rw [c]; rfl) with r | ⟨o', r⟩ <;> rw [r] at e)
  · exact .inl e
  · exact .inr ⟨_, e⟩
  · exact .inl e
  · exact .inr ⟨_, e⟩
theorem Sub.rd_dT {G H : Hp} (s : Sub G H) {a : Addr} {xs : List (List Key × V)} (h : Rd G a (.dT xs)) : Rd H a (.dT xs) := by
  rcases h with h | ⟨o, h⟩ <;> (obtain ⟨u, e, c⟩ := s a _ h; rcases core_dT (u := u) (by rw [c]; rfl) with r | ⟨o', r⟩ <;> rw [r] at e)
  · exact .inl e
  · exact .inr ⟨_, e⟩
  · exact .inl e
  · exact .inr ⟨_, e⟩
theorem Sub.ins {G H : Hp} (s : Sub G H) {a C dx : Addr} {fs : List (Str × V)} (h : G a = some (.ins C dx fs)) : H a = some (.ins C dx fs) := by
  obtain ⟨u, e, c⟩ := s a _ h
  rw [core_ins c] at e; exact e
theorem Sub.lst {G H : Hp} (s : Sub G H) {a : Addr} {xs : List V} (h : G a = some (.lst xs)) : H a = some (.lst xs) := by
  obtain ⟨u, e, c⟩ := s a _ h
  rw [core_lst c] at e; exact e
theorem Sub.tup {G H : Hp} (s : Sub G H) {a : Addr} {xs : List V} (h : G a = some (.tup xs)) : H a = some (.tup xs) := by
  obtain ⟨u, e, c⟩ := s a _ h
  rw [core_tup c] at e; exact e
theorem Sub.sqL {K : PySem.W.Frag} {G H : Hp} (s : Sub G H) {a : Addr} {xs : List V} (h : SqL K G a xs) : SqL K H a xs := h.elim (fun h => .inl (s.rd_lst h)) .inr
theorem Sub.sqT {K : PySem.W.Frag} {G H : Hp} (s : Sub G H) {a : Addr} {xs : List V} (h : SqT K G a xs) : SqT K H a xs := h.elim (fun h => .inl (s.rd_tup h)) .inr
theorem Sub.is {G H : Hp} (s : Sub G H) {a : Addr} {u : HO} (h : G a = some u) : H a ≠ none := by
  obtain ⟨u', e, _⟩ := s a u h
  rw [e]; simp
theorem Sub.no {G H : Hp} (s : Sub G H) {a : Addr} (h : H a = none) : G a = none := by
  cases e : G a with
  | none => rfl
  | some u => exact absurd h (s.is e)
theorem Sub.new {H : Hp} {p : Addr} {o : HO} (h : H p = none) : Sub H (upd H p o) := fun a u e => ⟨u, by rw [upd_ne (ne_of_none e h)]; exact e, rfl⟩
theorem Sub.both {G H : Hp} (s : Sub G H) {p : Addr} {o : HO} : Sub (upd G p o) (upd H p o) := fun a u e => by
  by_cases h : a = p
  · subst h; rw [upd_same] at e; cases e; exact ⟨_, upd_same, rfl⟩
  · rw [upd_ne h] at e ⊢; exact s a u e
/-- what G does not know may change -/
theorem Sub.mut {G H : Hp} (s : Sub G H) {p : Addr} {o : HO} (h : G p = none) : Sub G (upd H p o) := fun a u e => by
  rw [upd_ne (ne_of_none e h)]; exact s a u e
theorem Sub.cover {G H : Hp} (s : Sub G H) {p : Addr} {o : HO} (h : H p = some o) : Sub (upd G p o) H := fun a u e => by
  by_cases h' : a = p
  · subst h'; rw [upd_same] at e; cases e; exact ⟨_, h, rfl⟩
  · rw [upd_ne h'] at e; exact s a u e

/-! ## worlds: what is frozen, where the cells stand -/
structure Wd where
  g : Hp
  b : List Addr
structure Le (W W' : Wd) : Prop where
  s : Sub W.g W'.g
  p : ∀ (c : Nat) (a : Addr), W.b[c]? = some a → W'.b[c]? = some a
theorem Le.refl (W : Wd) : Le W W := ⟨Sub.refl _, fun _ _ h => h⟩
theorem Le.trans {A B C : Wd} (h : Le A B) (k : Le B C) : Le A C := ⟨h.s.trans k.s, fun c a e => k.p c a (h.p c a e)⟩
abbrev Wd.up (W : Wd) (p : Addr) (o : HO) : Wd := ⟨upd W.g p o, W.b⟩
theorem Le.new {W : Wd} {p : Addr} {o : HO} (h : W.g p = none) : Le W (W.up p o) := ⟨Sub.new h, fun _ _ e => e⟩
abbrev Wd.add (W : Wd) (p : Addr) : Wd := ⟨W.g, W.b ++ [p]⟩
theorem Le.add {W : Wd} {p : Addr} : Le W (W.add p) := ⟨Sub.refl _, fun c a e => by
  show (W.b ++ [p])[c]? = some a
  rw [List.getElem?_append_left (List.getElem?_eq_some_iff.mp e).1]; exact e⟩

/-! ## data at a value -/
mutual
def RepD (K : PySem.W.Frag) (W : Wd) : D → V → Prop
  | .non, v => v = .non
  | .bl b, v => v = .bl b
  | .int i, v => v = .int i
  | .str x, v => v = .str x
  | .ty n, v => v = .ty n
  | .cell c, v => ∃ a, W.b[c]? = some a ∧ v = .ref a
  | .lck _, _ => False
  | .tup ds, v => ∃ a vs, v = .ref a ∧ W.g a = some (.tup vs) ∧ RepL K W ds vs
  | .lst ds, v => ∃ a vs, v = .ref a ∧ W.g a = some (.lst vs) ∧ RepL K W ds vs
  | .frl ds, v => ∃ a vs, v = .ref a ∧ SqL K W.g a vs ∧ RepL K W ds vs
  | .dic kvs, v => ∃ a us, v = .ref a ∧ Rd W.g a (.dK us) ∧ RepK K W kvs us
  | .dct kvs, v => ∃ a us, v = .ref a ∧ Rd W.g a (.dT us) ∧ RepKT K W kvs us
  | .ins C fs, v => ∃ a dx us, v = .ref a ∧ W.g a = some (.ins C dx us) ∧ RepF K W fs us
def RepL (K : PySem.W.Frag) (W : Wd) : List D → List V → Prop
  | [], vs => vs = []
  | d :: ds, vs => ∃ v us, vs = v :: us ∧ RepD K W d v ∧ RepL K W ds us
def RepK (K : PySem.W.Frag) (W : Wd) : List (Key × D) → List (Key × V) → Prop
  | [], vs => vs = []
  | (k, d) :: ds, vs => ∃ v us, vs = (k, v) :: us ∧ RepD K W d v ∧ RepK K W ds us
def RepKT (K : PySem.W.Frag) (W : Wd) : List (List Key × D) → List (List Key × V) → Prop
  | [], vs => vs = []
  | (k, d) :: ds, vs => ∃ v us, vs = (k, v) :: us ∧ RepD K W d v ∧ RepKT K W ds us
def RepF (K : PySem.W.Frag) (W : Wd) : List (Str × D) → List (Str × V) → Prop
  | [], vs => vs = []
  | (k, d) :: ds, vs => ∃ v us, vs = (k, v) :: us ∧ RepD K W d v ∧ RepF K W ds us
end

section mono
variable {K : PySem.W.Frag} {W W' : Wd}
mutual
theorem RepD.mono (s : Le W W') : ∀ {d : D} {v : V}, RepD K W d v → RepD K W' d v
  | .non, v, h => by simpa only [RepD] using h
  | .bl b, v, h => by simpa only [RepD] using h
  | .int i, v, h => by simpa only [RepD] using h
  | .str x, v, h => by simpa only [RepD] using h
  | .ty n, v, h => by simpa only [RepD] using h
  | .cell c, v, h => by
    simp only [RepD] at h ⊢
    obtain ⟨a, e, q⟩ := h
    exact ⟨a, s.p c a e, q⟩
  | .lck _, v, h => by simp only [RepD] at h
  | .tup ds, v, h => by
    simp only [RepD] at h ⊢
    obtain ⟨a, vs, e, q, r⟩ := h
    exact ⟨a, vs, e, s.s.tup q, RepL.mono s r⟩
  | .lst ds, v, h => by
    simp only [RepD] at h ⊢
    obtain ⟨a, vs, e, q, r⟩ := h
    exact ⟨a, vs, e, s.s.lst q, RepL.mono s r⟩
  | .frl ds, v, h => by
    simp only [RepD] at h ⊢
    obtain ⟨a, vs, e, q, r⟩ := h
    exact ⟨a, vs, e, s.s.sqL q, RepL.mono s r⟩
  | .dic ds, v, h => by
    simp only [RepD] at h ⊢
    obtain ⟨a, vs, e, q, r⟩ := h
    exact ⟨a, vs, e, s.s.rd_dK q, RepK.mono s r⟩
  | .dct ds, v, h => by
    simp only [RepD] at h ⊢
    obtain ⟨a, vs, e, q, r⟩ := h
    exact ⟨a, vs, e, s.s.rd_dT q, RepKT.mono s r⟩
  | .ins C fs, v, h => by
    simp only [RepD] at h ⊢
    obtain ⟨a, dx, us, e, q, r⟩ := h
    exact ⟨a, dx, us, e, s.s.ins q, RepF.mono s r⟩
theorem RepL.mono (s : Le W W') : ∀ {d : List D} {v : List V}, RepL K W d v → RepL K W' d v
  | [], v, h => by simpa only [RepL] using h
  | d :: ds, v, h => by
    simp only [RepL] at h ⊢
    obtain ⟨x, us, e, q, r⟩ := h
    exact ⟨x, us, e, RepD.mono s q, RepL.mono s r⟩
theorem RepK.mono (s : Le W W') : ∀ {d : List (Key × D)} {v : List (Key × V)}, RepK K W d v → RepK K W' d v
  | [], v, h => by simpa only [RepK] using h
  | (k, d) :: ds, v, h => by
    simp only [RepK] at h ⊢
    obtain ⟨x, us, e, q, r⟩ := h
    exact ⟨x, us, e, RepD.mono s q, RepK.mono s r⟩
theorem RepKT.mono (s : Le W W') : ∀ {d : List (List Key × D)} {v : List (List Key × V)}, RepKT K W d v → RepKT K W' d v
  | [], v, h => by simpa only [RepKT] using h
  | (k, d) :: ds, v, h => by
    simp only [RepKT] at h ⊢
    obtain ⟨x, us, e, q, r⟩ := h
    exact ⟨x, us, e, RepD.mono s q, RepKT.mono s r⟩
theorem RepF.mono (s : Le W W') : ∀ {d : List (Str × D)} {v : List (Str × V)}, RepF K W d v → RepF K W' d v
  | [], v, h => by simpa only [RepF] using h
  | (k, d) :: ds, v, h => by
    simp only [RepF] at h ⊢
    obtain ⟨x, us, e, q, r⟩ := h
    exact ⟨x, us, e, RepD.mono s q, RepF.mono s r⟩
end
end mono
end Mir

set_option maxHeartbeats 4000000
namespace Mir
open PySem PySem.Spec PyProof.Rows L2

/-! ## what a mirror gives -/
structure Exn where
  cls : Addr
  fs : List (Str × D)
abbrev Sto := List D
inductive Out (α : Type) where
  | ok (a : α)
  | exc (x : Exn) (st : Sto)
  | stuck
def Out.bnd {α β : Type} (m : Out α) (f : α → Out β) : Out β := match m with
  | .ok a => f a
  | .exc x st => .exc x st
  | .stuck => .stuck
@[simp] theorem bnd_ok {α β : Type} (a : α) (f : α → Out β) : Out.bnd (.ok a) f = f a := rfl
@[simp] theorem bnd_exc {α β : Type} (x : Exn) (st : Sto) (f : α → Out β) : Out.bnd (.exc x st) f = .exc x st := rfl
@[simp] theorem bnd_stuck {α β : Type} (f : α → Out β) : Out.bnd .stuck f = .stuck := rfl
structure RE where
  s : List (Option D)
  st : Sto
@[simp] def RE.put (r : RE) (i : Nat) (d : Option D) : RE := ⟨r.s.set i d, r.st⟩
/-- what stands in a cell, or the thing itself -/
@[simp] def dr (st : Sto) : D → Option D
  | .cell c => match st[c]? with
    | some (.lck (.lst ds)) => some (.frl ds)
    | some (.lck d) => some d
    | x => x
  | d => some d

/-! ## owned things -/
def Own (K : PySem.W.Frag) (H : Hp) (W : Wd) : D → V → Prop
  | .lst ds, v => ∃ a vs, v = .ref a ∧ H a = some (.lst vs) ∧ RepL K W ds vs
  | .dic kvs, v => ∃ a us, v = .ref a ∧ H a = some (.dK us) ∧ RepK K W kvs us
  | .dct kvs, v => ∃ a us, v = .ref a ∧ H a = some (.dT us) ∧ RepKT K W kvs us
  | .ins C fs, v => ∃ a dx us, v = .ref a ∧ H a = some (.ins C dx us) ∧ RepF K W fs us
  | .lck (.lst ds), v => ∃ a vs o, v = .ref a ∧ H a = some (.frz o (.lst vs)) ∧ RepL K W ds vs
  | .lck (.dic kvs), v => ∃ a us o, v = .ref a ∧ H a = some (.frz o (.dK us)) ∧ RepK K W kvs us
  | .lck (.dct kvs), v => ∃ a us o, v = .ref a ∧ H a = some (.frz o (.dT us)) ∧ RepKT K W kvs us
  | _, _ => False
/-- as an operand: its own object as it stands in H, its parts in W -/
def RepT (K : PySem.W.Frag) (H : Hp) (W : Wd) : D → V → Prop
  | .tup ds, v => ∃ a vs, v = .ref a ∧ W.g a = some (.tup vs) ∧ RepL K W ds vs
  | .lst ds, v => ∃ a vs, v = .ref a ∧ H a = some (.lst vs) ∧ RepL K W ds vs
  | .frl ds, v => ∃ a vs, v = .ref a ∧ SqL K H a vs ∧ RepL K W ds vs
  | .dic kvs, v => ∃ a us, v = .ref a ∧ Rd H a (.dK us) ∧ RepK K W kvs us
  | .dct kvs, v => ∃ a us, v = .ref a ∧ Rd H a (.dT us) ∧ RepKT K W kvs us
  | .ins C fs, v => ∃ a dx us, v = .ref a ∧ H a = some (.ins C dx us) ∧ RepF K W fs us
  | d, v => RepD K W d v
theorem RepT.of {K : PySem.W.Frag} {H : Hp} {W : Wd} (s : Sub W.g H) : ∀ {d : D} {v : V}, RepD K W d v → RepT K H W d v
  | .non, v, h => h
  | .bl b, v, h => h
  | .int i, v, h => h
  | .str x, v, h => h
  | .ty n, v, h => h
  | .cell n, v, h => h
  | .lck n, v, h => h
  | .tup ds, v, h => by
    simp only [RepD] at h
    obtain ⟨a, vs, e, q, r⟩ := h
    exact ⟨a, vs, e, q, r⟩
  | .lst ds, v, h => by
    simp only [RepD] at h
    obtain ⟨a, vs, e, q, r⟩ := h
    exact ⟨a, vs, e, s.lst q, r⟩
  | .frl ds, v, h => by
    simp only [RepD] at h
    obtain ⟨a, vs, e, q, r⟩ := h
    exact ⟨a, vs, e, s.sqL q, r⟩
  | .dic ds, v, h => by
    simp only [RepD] at h
    obtain ⟨a, vs, e, q, r⟩ := h
    exact ⟨a, vs, e, s.rd_dK q, r⟩
  | .dct ds, v, h => by
    simp only [RepD] at h
    obtain ⟨a, vs, e, q, r⟩ := h
    exact ⟨a, vs, e, s.rd_dT q, r⟩
  | .ins C ds, v, h => by
    simp only [RepD] at h
    obtain ⟨a, dx, vs, e, q, r⟩ := h
    exact ⟨a, dx, vs, e, s.ins q, r⟩
theorem Own.ref {K : PySem.W.Frag} {H : Hp} {W : Wd} {d : D} {v : V} (h : Own K H W d v) : ∃ a u, v = .ref a ∧ H a = some u := by
  unfold Own at h
  split at h
  · obtain ⟨a, us, e, q, r⟩ := h; exact ⟨a, _, e, q⟩
  · obtain ⟨a, us, e, q, r⟩ := h; exact ⟨a, _, e, q⟩
  · obtain ⟨a, us, e, q, r⟩ := h; exact ⟨a, _, e, q⟩
  · obtain ⟨a, dx, us, e, q, r⟩ := h; exact ⟨a, _, e, q⟩
  · obtain ⟨a, us, o, e, q, r⟩ := h; exact ⟨a, _, e, q⟩
  · obtain ⟨a, us, o, e, q, r⟩ := h; exact ⟨a, _, e, q⟩
  · obtain ⟨a, us, o, e, q, r⟩ := h; exact ⟨a, _, e, q⟩
  · exact h.elim
theorem Own.mono {K : PySem.W.Frag} {H H' : Hp} {W W' : Wd} {d : D} {a : Addr} (s : Le W W') (k : ∀ u, H a = some u → H' a = some u) (h : Own K H W d (.ref a)) : Own K H' W' d (.ref a) := by
  unfold Own at h ⊢
  split at h
  · obtain ⟨b, us, e, q, r⟩ := h; cases e; exact ⟨a, us, rfl, k _ q, r.mono s⟩
  · obtain ⟨b, us, e, q, r⟩ := h; cases e; exact ⟨a, us, rfl, k _ q, r.mono s⟩
  · obtain ⟨b, us, e, q, r⟩ := h; cases e; exact ⟨a, us, rfl, k _ q, r.mono s⟩
  · obtain ⟨b, dx, us, e, q, r⟩ := h; cases e; exact ⟨a, dx, us, rfl, k _ q, r.mono s⟩
  · obtain ⟨b, us, o, e, q, r⟩ := h; cases e; exact ⟨a, us, o, rfl, k _ q, r.mono s⟩
  · obtain ⟨b, us, o, e, q, r⟩ := h; cases e; exact ⟨a, us, o, rfl, k _ q, r.mono s⟩
  · obtain ⟨b, us, o, e, q, r⟩ := h; cases e; exact ⟨a, us, o, rfl, k _ q, r.mono s⟩
  · exact h.elim
@[simp] def unlck : D → D
  | .lck (.lst ds) => .frl ds
  | .lck d => d
  | d => d
theorem RepT.own {K : PySem.W.Frag} {H : Hp} {W : Wd} {d : D} {v : V} (h : Own K H W d v) : RepT K H W (unlck d) v := by
  unfold Own at h
  split at h
  · exact h
  · obtain ⟨a, us, e, q, r⟩ := h; exact ⟨a, us, e, .inl q, r⟩
  · obtain ⟨a, us, e, q, r⟩ := h; exact ⟨a, us, e, .inl q, r⟩
  · exact h
  · obtain ⟨a, us, o, e, q, r⟩ := h; exact ⟨a, us, e, .inl (.inr ⟨o, q⟩), r⟩
  · obtain ⟨a, us, o, e, q, r⟩ := h; exact ⟨a, us, e, .inr ⟨o, q⟩, r⟩
  · obtain ⟨a, us, o, e, q, r⟩ := h; exact ⟨a, us, e, .inr ⟨o, q⟩, r⟩
  · exact h.elim
/-- an owned thing, once its object is known to W -/
theorem Own.at {K : PySem.W.Frag} {H : Hp} {W W' : Wd} {d : D} {a : Addr} {u : HO} (s : Le W W') (hu : H a = some u) (hg : W'.g a = some u) (h : Own K H W d (.ref a)) : RepD K W' (unlck d) (.ref a) := by
  unfold Own at h
  split at h
  · obtain ⟨b, us, e, q, r⟩ := h; cases e; rw [hu] at q; cases q; simp only [unlck, RepD]; exact ⟨a, us, rfl, hg, r.mono s⟩
  · obtain ⟨b, us, e, q, r⟩ := h; cases e; rw [hu] at q; cases q; simp only [unlck, RepD]; exact ⟨a, us, rfl, .inl hg, r.mono s⟩
  · obtain ⟨b, us, e, q, r⟩ := h; cases e; rw [hu] at q; cases q; simp only [unlck, RepD]; exact ⟨a, us, rfl, .inl hg, r.mono s⟩
  · obtain ⟨b, dx, us, e, q, r⟩ := h; cases e; rw [hu] at q; cases q; simp only [unlck, RepD]; exact ⟨a, dx, us, rfl, hg, r.mono s⟩
  · obtain ⟨b, us, o, e, q, r⟩ := h; cases e; rw [hu] at q; cases q; simp only [unlck, RepD]; exact ⟨a, us, rfl, .inl (.inr ⟨o, hg⟩), r.mono s⟩
  · obtain ⟨b, us, o, e, q, r⟩ := h; cases e; rw [hu] at q; cases q; simp only [unlck, RepD]; exact ⟨a, us, rfl, .inr ⟨o, hg⟩, r.mono s⟩
  · obtain ⟨b, us, o, e, q, r⟩ := h; cases e; rw [hu] at q; cases q; simp only [unlck, RepD]; exact ⟨a, us, rfl, .inr ⟨o, hg⟩, r.mono s⟩
  · exact h.elim

/-! ## the relation of a frame -/
structure Fm where
  He : Hp
  W0 : Wd
  /-- what is locked just now -/
  lk : List (Addr × Obj × HO)
/-- H as it may stand behind the entry He -/
def Kept (c : Fm) (H : Hp) : Prop := ∀ a u, c.He a = some u → (a ∉ c.W0.b → (∃ u', H a = some u' ∧ core u' = core u) ∧ (c.W0.g a = none → H a = some u)) ∧ ∀ o v, u = .frz o v → H a = some u
structure RR (K : PySem.W.Frag) (c : Fm) (σ : L2.St) (H : Hp) (W : Wd) (r : RE) : Prop where
  gh : Sub W.g H
  g0 : Le c.W0 W
  gr : ∀ a u, W.g a = some u → c.W0.g a ≠ none ∨ c.He a = none
  ke : Kept c H
  xk : ∀ a ∈ c.W0.b, H a ≠ none
  len : σ.length = r.s.length
  sl : ∀ (i : Nat) (d : D), r.s[i]? = some (some d) → ∃ v, σ[i]? = some (some v) ∧ RepD K W d v
  cl : W.b.length = r.st.length
  ce : ∀ (i : Nat) (d : D) (a : Addr), r.st[i]? = some d → W.b[i]? = some a → Own K H W d (.ref a)
  cg : ∀ a ∈ W.b, W.g a = none ∧ (a ∈ c.W0.b ∨ c.He a = none)
  cn : W.b.Nodup
  lk : ∀ p ∈ c.lk, H p.1 = some (.frz p.2.1 p.2.2)

/-- a pure step: new frozen objects alone -/
structure Ext (H : Hp) (W : Wd) (H' : Hp) (W' : Wd) : Prop where
  keep : ∀ a u, H a = some u → H' a = some u
  sub : Le W W'
  in_ : Sub W'.g H'
  new : ∀ a u, W'.g a = some u → W.g a ≠ none ∨ H a = none
  bb : W'.b = W.b
theorem Ext.refl {H : Hp} {W : Wd} (s : Sub W.g H) : Ext H W H W := ⟨fun _ _ h => h, Le.refl W, s, fun _ _ h => .inl (by rw [h]; simp), rfl⟩
theorem Ext.trans {H H1 H2 : Hp} {W W1 W2 : Wd} (a : Ext H W H1 W1) (b : Ext H1 W1 H2 W2) : Ext H W H2 W2 :=
  ⟨fun x u h => b.keep x u (a.keep x u h), a.sub.trans b.sub, b.in_, fun x u h => by
    rcases b.new x u h with h1 | h1
    · cases e : W1.g x with
      | none => exact absurd e h1
      | some u1 => exact a.new x u1 e
    · cases e : H x with
      | none => exact .inr rfl
      | some u1 => exact absurd h1 (by rw [a.keep x u1 e]; simp), b.bb.trans a.bb⟩
/-- a new object, known to W -/
theorem Ext.alloc {H : Hp} {W : Wd} (s : Sub W.g H) {p : Addr} {o : HO} (h : H p = none) : Ext H W (upd H p o) (W.up p o) :=
  ⟨fun a u e => by rw [upd_ne (ne_of_none e h)]; exact e, Le.new (s.no h), s.both, fun a u e => by
    by_cases q : a = p
    · exact .inr (by rw [q]; exact h)
    · have e' : upd W.g p o a = some u := e
      rw [upd_ne q] at e'; exact .inl (by rw [e']; simp), rfl⟩
/-- a new object, not known to W -/
theorem Ext.alloc0 {H : Hp} {W : Wd} (s : Sub W.g H) {p : Addr} {o : HO} (h : H p = none) : Ext H W (upd H p o) W :=
  ⟨fun a u e => by rw [upd_ne (ne_of_none e h)]; exact e, Le.refl W, s.mut (s.no h), fun a u e => .inl (by rw [e]; simp), rfl⟩

section
variable {K : PySem.W.Frag} {c : Fm} {σ : L2.St} {H H' : Hp} {W W' : Wd} {r : RE}
theorem RR.cell (R : RR K c σ H W r) {i : Nat} {d : D} (e : r.st[i]? = some d) : ∃ a, W.b[i]? = some a ∧ Own K H W d (.ref a) := by
  have hi : i < W.b.length := by rw [R.cl]; exact (List.getElem?_eq_some_iff.mp e).1
  exact ⟨W.b[i], List.getElem?_eq_getElem hi, R.ce i d _ e (List.getElem?_eq_getElem hi)⟩
theorem RR.there (R : RR K c σ H W r) {a : Addr} (h : a ∈ W.b) : H a ≠ none := by
  obtain ⟨i, hi⟩ := List.mem_iff_getElem?.mp h
  have hl : i < r.st.length := by rw [← R.cl]; exact (List.getElem?_eq_some_iff.mp hi).1
  obtain ⟨b, u, e, q⟩ := (R.ce i _ a (List.getElem?_eq_getElem hl) hi).ref
  cases e; rw [q]; simp
theorem RR.heNone (R : RR K c σ H W r) {a : Addr} (h : H a = none) : c.He a = none := by
  cases e : c.He a with
  | none => rfl
  | some u =>
    by_cases ha : a ∈ c.W0.b
    · exact absurd h (R.xk a ha)
    · obtain ⟨⟨u', e', _⟩, _⟩ := (R.ke a u e).1 ha
      rw [h] at e'; cases e'
theorem RR.ext (R : RR K c σ H W r) (x : Ext H W H' W') : RR K c σ H' W' r where
  gh := x.in_
  g0 := R.g0.trans x.sub
  gr := fun a u h => by
    rcases x.new a u h with h1 | h1
    · cases e : W.g a with
      | none => exact absurd e h1
      | some u1 => exact R.gr a u1 e
    · exact .inr (R.heNone h1)
  ke := fun a u h => by
    obtain ⟨k0, k2⟩ := R.ke a u h
    refine ⟨fun ha => ?_, fun o v z => x.keep a u (k2 o v z)⟩
    obtain ⟨⟨u', e', q⟩, k⟩ := k0 ha
    exact ⟨⟨u', x.keep a u' e', q⟩, fun z => x.keep a u (k z)⟩
  xk := fun a ha e => by
    cases q : H a with
    | none => exact R.xk a ha q
    | some u => rw [x.keep a u q] at e; cases e
  len := R.len
  sl := fun i d h => by
    obtain ⟨v, hv, hr⟩ := R.sl i d h
    exact ⟨v, hv, hr.mono x.sub⟩
  cl := by rw [x.bb]; exact R.cl
  ce := fun i d a h1 h2 => (R.ce i d a h1 (by rw [← x.bb]; exact h2)).mono x.sub (fun u => x.keep a u)
  cg := fun a ha => by
    rw [x.bb] at ha
    refine ⟨?_, (R.cg a ha).2⟩
    cases q : W'.g a with
    | none => rfl
    | some u =>
      rcases x.new a u q with z | z
      · exact absurd (R.cg a ha).1 z
      · exact absurd z (R.there ha)
  cn := by rw [x.bb]; exact R.cn
  lk := fun p hp => x.keep _ _ (R.lk p hp)
theorem get_set_self {α : Type} {l : List (Option α)} {i : Nat} {x y : Option α} (h : (l.set i x)[i]? = some y) : y = x := by
  by_cases hi : i < l.length
  · rw [List.getElem?_set_self hi] at h; exact (Option.some.inj h).symm
  · rw [List.getElem?_eq_none (by rw [List.length_set]; omega)] at h; cases h
/-- other slots -/
theorem RR.slots {σ' : L2.St} {s' : List (Option D)} (R : RR K c σ H W r) (hl : σ'.length = s'.length) (h : ∀ (i : Nat) (d : D), s'[i]? = some (some d) → ∃ v, σ'[i]? = some (some v) ∧ RepD K W d v) : RR K c σ' H W ⟨s', r.st⟩ :=
  ⟨R.gh, R.g0, R.gr, R.ke, R.xk, hl, h, R.cl, R.ce, R.cg, R.cn, R.lk⟩
/-- a value is stored -/
theorem RR.set (R : RR K c σ H W r) {i : Nat} {d : D} {v : V} (h : RepD K W d v) : RR K c (σ.set i (some v)) H W (r.put i (some d)) :=
  R.slots (by rw [List.length_set, List.length_set]; exact R.len) fun j e q => by
    by_cases hj : i = j
    · subst hj
      have hi : i < r.s.length := by
        by_cases hi : i < r.s.length
        · exact hi
        · rw [List.getElem?_eq_none (by rw [List.length_set]; omega)] at q; cases q
      have e' := get_set_self q
      cases e'
      exact ⟨v, List.getElem?_set_self (by rw [R.len]; exact hi), h⟩
    · rw [List.getElem?_set_ne hj] at q
      obtain ⟨u, h1, h2⟩ := R.sl j e q
      exact ⟨u, by rw [List.getElem?_set_ne hj]; exact h1, h2⟩
/-- a slot is forgotten -/
theorem RR.drop (R : RR K c σ H W r) {i : Nat} {x : Option V} : RR K c (σ.set i x) H W (r.put i none) :=
  R.slots (by rw [List.length_set, List.length_set]; exact R.len) fun j e q => by
    by_cases hj : i = j
    · subst hj
      have e' := get_set_self q
      cases e'
    · rw [List.getElem?_set_ne hj] at q
      obtain ⟨u, h1, h2⟩ := R.sl j e q
      exact ⟨u, by rw [List.getElem?_set_ne hj]; exact h1, h2⟩
theorem RR.forget (R : RR K c σ H W r) {i : Nat} : RR K c σ H W (r.put i none) :=
  R.slots (by rw [List.length_set]; exact R.len) fun j e q => by
    by_cases hj : i = j
    · subst hj
      have e' := get_set_self q
      cases e'
    · rw [List.getElem?_set_ne hj] at q
      exact R.sl j e q
/-- a new thing that nobody knows yet -/
structure Fresh (K : PySem.W.Frag) (c : Fm) (H : Hp) (W : Wd) (d : D) (p : Addr) : Prop where
  g : W.g p = none
  e : c.He p = none
  n : p ∉ W.b
  o : Own K H W d (.ref p)
theorem RR.fresh (R : RR K c σ H W r) {p : Addr} {o : HO} {d : D} (h : H p = none) (w : Own K (upd H p o) W d (.ref p)) : RR K c σ (upd H p o) W r ∧ Fresh K c (upd H p o) W d p :=
  ⟨R.ext (Ext.alloc0 R.gh h), R.gh.no h, R.heNone h, fun z => R.there z h, w⟩
/-- .. is frozen -/
theorem RR.freeze (R : RR K c σ H W r) {d : D} {p : Addr} (f : Fresh K c H W d p) : ∃ u, H p = some u ∧ RR K c σ H (W.up p u) r ∧ RepD K (W.up p u) (unlck d) (.ref p) ∧ Le W (W.up p u) := by
  obtain ⟨a, u, e, hu⟩ := f.o.ref
  cases e
  have hle : Le W (W.up p u) := Le.new f.g
  refine ⟨u, hu, ⟨R.gh.cover hu, R.g0.trans hle, fun b v e => ?_, R.ke, R.xk, R.len, fun i d h => ?_, R.cl, fun i d a h1 h2 => (R.ce i d a h1 h2).mono hle (fun _ z => z), fun a ha => ⟨?_, (R.cg a ha).2⟩, R.cn, R.lk⟩, f.o.at hle hu upd_same, hle⟩
  · by_cases z : b = p
    · exact .inr (z ▸ f.e)
    · have e' : upd W.g p u b = some v := e
      rw [upd_ne z] at e'; exact R.gr b v e'
  · obtain ⟨v, h1, h2⟩ := R.sl i d h
    exact ⟨v, h1, h2.mono hle⟩
  · have : a ≠ p := fun z => f.n (z ▸ ha)
    show upd W.g p u a = none
    rw [upd_ne this]; exact (R.cg a ha).1
/-- .. becomes a cell -/
theorem RR.newCell (R : RR K c σ H W r) {d : D} {p : Addr} (f : Fresh K c H W d p) : RR K c σ H (W.add p) ⟨r.s, r.st ++ [d]⟩ ∧ RepD K (W.add p) (.cell r.st.length) (.ref p) := by
  have hle : Le W (W.add p) := Le.add
  refine ⟨⟨R.gh, R.g0.trans hle, R.gr, R.ke, R.xk, R.len, fun i d h => ?_, ?_, fun i d' a h1 h2 => ?_, fun a ha => ?_, ?_, R.lk⟩, ?_⟩
  · obtain ⟨v, h1, h2⟩ := R.sl i d h
    exact ⟨v, h1, h2.mono hle⟩
  · show (W.b ++ [p]).length = (r.st ++ [d]).length
    rw [List.length_append, List.length_append, R.cl]; rfl
  · have h1' : (r.st ++ [d])[i]? = some d' := h1
    have h2' : (W.b ++ [p])[i]? = some a := h2
    by_cases hi : i < r.st.length
    · rw [List.getElem?_append_left hi] at h1'
      rw [List.getElem?_append_left (by rw [R.cl]; exact hi)] at h2'
      exact (R.ce i d' a h1' h2').mono hle (fun _ z => z)
    · rw [List.getElem?_append_right (by omega)] at h1'
      rw [List.getElem?_append_right (by rw [R.cl]; omega)] at h2'
      have e0 : i - r.st.length = 0 := by
        by_cases z : i - r.st.length = 0
        · exact z
        · rw [List.getElem?_eq_none (by simp; omega)] at h1'; cases h1'
      rw [e0] at h1'
      rw [R.cl, e0] at h2'
      simp at h1' h2'
      subst h1'; subst h2'
      exact f.o.mono hle (fun _ z => z)
  · have ha' : a ∈ W.b ++ [p] := ha
    rcases List.mem_append.mp ha' with z | z
    · exact R.cg a z
    · have : a = p := by simpa using z
      subst this
      exact ⟨f.g, .inr f.e⟩
  · show (W.b ++ [p]).Nodup
    rw [List.nodup_append]
    refine ⟨R.cn, by simp, fun a ha b hb => ?_⟩
    have : b = p := by simpa using hb
    subst this
    exact fun z => f.n (z ▸ ha)
  · simp only [RepD]
    refine ⟨p, ?_, rfl⟩
    show (W.b ++ [p])[r.st.length]? = some p
    rw [← R.cl, List.getElem?_append_right (Nat.le_refl _)]; simp
/-- a cell changes -/
theorem RR.mut (R : RR K c σ H W r) {i : Nat} {a : Addr} {d d' : D} {o : HO} (hs : r.st[i]? = some d) (ha : W.b[i]? = some a) (hf : ∀ ob v, H a ≠ some (.frz ob v)) (new : Own K (upd H a o) W d' (.ref a)) : RR K c σ (upd H a o) W ⟨r.s, r.st.set i d'⟩ := by
  have hm : a ∈ W.b := List.mem_iff_getElem?.mpr ⟨i, ha⟩
  obtain ⟨ga, hx⟩ := R.cg a hm
  refine ⟨R.gh.mut ga, R.g0, R.gr, fun b u hb => ?_, fun b hb => ?_, R.len, R.sl, ?_, fun j e b h1 h2 => ?_, R.cg, R.cn, fun p hp => ?_⟩
  · obtain ⟨k0, k2⟩ := R.ke b u hb
    by_cases z : b = a
    · subst z
      refine ⟨fun hn => ?_, fun ob v e => absurd (k2 ob v e) (by rw [e]; exact hf ob v)⟩
      rcases hx with hx | hx
      · exact absurd hx hn
      · rw [hb] at hx; cases hx
    · rw [upd_ne z]; exact ⟨k0, k2⟩
  · by_cases z : b = a
    · rw [z, upd_same]; simp
    · rw [upd_ne z]; exact R.xk b hb
  · show W.b.length = (r.st.set i d').length
    rw [List.length_set]; exact R.cl
  · have h1' : (r.st.set i d')[j]? = some e := h1
    by_cases hj : i = j
    · subst hj
      rw [List.getElem?_set_self (List.getElem?_eq_some_iff.mp hs).1] at h1'
      cases h1'
      rw [ha] at h2; cases h2
      exact new
    · rw [List.getElem?_set_ne hj] at h1'
      have hb : b ≠ a := fun z => by
        subst z
        have q1 := List.getElem?_eq_some_iff.mp ha
        have q2 := List.getElem?_eq_some_iff.mp h2
        exact hj ((List.getElem_inj R.cn).mp (q1.2.trans q2.2.symm))
      exact (R.ce j e b h1' h2).mono (Le.refl W) (fun u q => by rw [upd_ne hb]; exact q)
  · have h1 := R.lk p hp
    have : p.1 ≠ a := fun z => hf _ _ (z ▸ h1)
    rw [upd_ne this]; exact h1
theorem RepD.at (R : RR K c σ H W r) {d d' : D} {v : V} (h : RepD K W d v) (e : dr r.st d = some d') : RepT K H W d' v := by
  cases d with
  | cell i =>
    simp only [RepD] at h
    obtain ⟨a, ha, rfl⟩ := h
    have hi : i < r.st.length := by rw [← R.cl]; exact (List.getElem?_eq_some_iff.mp ha).1
    have ho := R.ce i _ a (List.getElem?_eq_getElem hi) ha
    have : d' = unlck r.st[i] := by
      simp only [dr, List.getElem?_eq_getElem hi] at e
      cases q : r.st[i] with
      | lck d0 =>
        rw [q] at e
        cases d0 <;> (cases e; rfl)
      | _ => rw [q] at e; cases e; rfl
    rw [this]
    exact RepT.own ho
  | _ => simp only [dr] at e; cases e; exact RepT.of R.gh h
inductive RepTL (K : PySem.W.Frag) (H : Hp) (W : Wd) : List D → List V → Prop
  | nil : RepTL K H W [] []
  | cons {d : D} {v : V} {ds : List D} {vs : List V} : RepT K H W d v → RepTL K H W ds vs → RepTL K H W (d :: ds) (v :: vs)
@[simp] def drs (st : Sto) : List D → Option (List D)
  | [] => some []
  | o :: os => match dr st o, drs st os with
    | some d, some ds => some (d :: ds)
    | _, _ => none
theorem RepL.at (R : RR K c σ H W r) : ∀ {os : List D} {vs : List V} {ds : List D}, RepL K W os vs → drs r.st os = some ds → RepTL K H W ds vs
  | [], _, _, h, e => by cases e; simp only [RepL] at h; subst h; exact .nil
  | o :: os, _, ds, h, e => by
    simp only [RepL] at h
    obtain ⟨v, us, ev, h, t⟩ := h
    subst ev
    simp only [drs] at e
    cases q : dr r.st o with
    | none => rw [q] at e; cases e
    | some d =>
      cases q2 : drs r.st os with
      | none => rw [q, q2] at e; cases e
      | some ds' =>
        rw [q, q2] at e; cases e
        exact .cons (h.at R q) (RepL.at R t q2)
end
end Mir

set_option maxHeartbeats 4000000
namespace Mir
open PySem PySem.Spec PyProof.Rows L2

theorem lim_le {n : Nat} (h : n ≤ 1000000) : n ≤ sizeLine := Nat.le_trans h (by decide)
theorem lim_lt {n : Nat} (h : n < 1000000) : n < sizeLine := Nat.lt_of_lt_of_le h (by decide)
def Wp {α : Type} (o : Out α) (P : α → Prop) (X : Exn → Sto → Prop) : Prop := match o with
  | .ok a => P a
  | .exc x st => X x st
  | .stuck => False
theorem Wp.bnd {α β : Type} {o : Out α} {f : α → Out β} {P : β → Prop} {X : Exn → Sto → Prop} (h : Wp (o.bnd f) P X) : Wp o (fun a => Wp (f a) P X) X := by
  cases o <;> exact h
theorem Wp.mono {α : Type} {o : Out α} {P P' : α → Prop} {X X' : Exn → Sto → Prop} (h : Wp o P X) (k : ∀ a, P a → P' a) (k' : ∀ x st, X x st → X' x st) : Wp o P' X' := by
  cases o
  · exact k _ h
  · exact k' _ _ h
  · exact h

/-! ## the judgements -/
/-- an exception leaves: E is what is wanted of it -/
def XP (K : PySem.W.Frag) (c : Fm) (E : XK) (x : Exn) (st : Sto) : Prop := ∀ dx H' W' us, RR K c [] H' W' ⟨[], st⟩ → H' dx = some (.xd us) → RepF K W' x.fs us → E (.ref x.cls) (some dx) H'
section defs
variable (K : PySem.W.Frag) (E : XK)
def Snd (te : TE) (m : RE → Out (D × RE)) : Prop := ∀ (c : Fm) (σ : L2.St) (H : Hp) (W : Wd) (r : RE) (Q : VK), RR K c σ H W r →
  Wp (m r) (fun p => ∀ v H' W', RR K c σ H' W' p.2 → Le W W' → RepD K W' p.1 v → Q v H') (XP K c E) → te σ H Q
def SndF (te : TE) (m : RE → Out (D × RE)) : Prop := ∀ (c : Fm) (σ : L2.St) (H : Hp) (W : Wd) (r : RE) (Q : VK), RR K c σ H W r →
  Wp (m r) (fun p => ∀ a H' W', RR K c σ H' W' p.2 → Le W W' → Fresh K c H' W' p.1 a → Q (.ref a) H') (XP K c E) → te σ H Q
def SndT (te : TT) (m : RE → Out (Bool × RE)) : Prop := ∀ (c : Fm) (σ : L2.St) (H : Hp) (W : Wd) (r : RE) (Q : Bool → Hp → Prop), RR K c σ H W r →
  Wp (m r) (fun p => ∀ H' W', RR K c σ H' W' p.2 → Le W W' → Q p.1 H') (XP K c E) → te σ H Q
def SndA (te : TA) (m : RE → Out (List D × RE)) : Prop := ∀ (c : Fm) (σ : L2.St) (H : Hp) (W : Wd) (r : RE) (Q : List V → Hp → Prop), RR K c σ H W r →
  Wp (m r) (fun p => ∀ vs H' W', RR K c σ H' W' p.2 → Le W W' → RepL K W' p.1 vs → Q vs H') (XP K c E) → te σ H Q
inductive Fl where
  | nx (r : RE)
  | rt (d : D) (r : RE)
  | bk (r : RE)
  | ct (r : RE)
def FlP (c : Fm) (W : Wd) (Dd : Ends) : Fl → Prop
  | .nx r' => ∀ σ' H' W', RR K c σ' H' W' r' → Le W W' → Dd.nx σ' H'
  | .rt d r' => ∀ v σ' H' W', RR K c σ' H' W' r' → Le W W' → RepD K W' d v → Dd.rt v H'
  | .bk r' => ∀ σ' H' W', RR K c σ' H' W' r' → Le W W' → Dd.bk σ' H'
  | .ct r' => ∀ σ' H' W', RR K c σ' H' W' r' → Le W W' → Dd.ct σ' H'
def SndS (ts : TS) (m : RE → Out Fl) : Prop := ∀ (c : Fm) (σ : L2.St) (H : Hp) (W : Wd) (r : RE) (Dd : Ends), RR K c σ H W r →
  Wp (m r) (FlP K c W Dd) (XP K c E) → ts Dd σ H
end defs
def EM (X : Cx) (E : XK) (e : PySem.Expr) (m : RE → Out (D × RE)) : Prop := ∃ te, PE X e te ∧ Snd X.K E te m
def FM (X : Cx) (E : XK) (e : PySem.Expr) (m : RE → Out (D × RE)) : Prop := ∃ te, PE X e te ∧ SndF X.K E te m
def TM (X : Cx) (E : XK) (e : PySem.Expr) (m : RE → Out (Bool × RE)) : Prop := ∃ te, PT X e te ∧ SndT X.K E te m
def WM (X : Cx) (E : XK) (e : PySem.Expr) (m : RE → Out (Bool × RE)) : Prop := ∃ te, PW X e te ∧ SndT X.K E te m
def AM (X : Cx) (E : XK) (es : List PySem.Expr) (m : RE → Out (List D × RE)) : Prop := ∃ te, PA X es te ∧ SndA X.K E te m
def SM (X : Cx) (E : XK) (s : Stmt) (m : RE → Out Fl) : Prop := ∃ ts, PS X s ts ∧ SndS X.K E ts m
def BM (X : Cx) (E : XK) (s : List Stmt) (m : RE → Out Fl) : Prop := ∃ ts, PSs X s ts ∧ SndS X.K E ts m

/-! ## mirrors of expressions -/
@[simp] def mVar (i : Nat) : RE → Out (D × RE) := fun r => match r.s[i]? with
  | some (some d) => .ok (d, r)
  | _ => .stuck
@[simp] def mC (d : D) : RE → Out (D × RE) := fun r => .ok (d, r)
@[simp] def mOp2 (f : D → D → Out D) (ma mb : RE → Out (D × RE)) : RE → Out (D × RE) := fun r => (ma r).bnd fun x => (mb x.2).bnd fun y => match dr y.2.st x.1, dr y.2.st y.1 with
  | some dx, some dy => (f dx dy).bnd fun d => .ok (d, y.2)
  | _, _ => .stuck
@[simp] def mOp1 (f : D → Out D) (ma : RE → Out (D × RE)) : RE → Out (D × RE) := fun r => (ma r).bnd fun x => match dr x.2.st x.1 with
  | some dx => (f dx).bnd fun d => .ok (d, x.2)
  | _ => .stuck
@[simp] def mNil : RE → Out (List D × RE) := fun r => .ok ([], r)
@[simp] def mCons (m : RE → Out (D × RE)) (ms : RE → Out (List D × RE)) : RE → Out (List D × RE) := fun r => (m r).bnd fun p => (ms p.2).bnd fun q => .ok (p.1 :: q.1, q.2)
@[simp] def mArgs (f : List D → Out D) (ms : RE → Out (List D × RE)) : RE → Out (D × RE) := fun r => (ms r).bnd fun p => match drs p.2.st p.1 with
  | some ds => (f ds).bnd fun d => .ok (d, p.2)
  | none => .stuck
@[simp] def truth : D → Out Bool
  | .non => .ok false
  | .bl b => .ok b
  | .int i => .ok (i != 0)
  | .str x => if x.length ≤ 1000000 then .ok ((x.length : Int) != 0) else .stuck
  | .lst xs => .ok (!xs.isEmpty)
  | .tup xs => .ok (!xs.isEmpty)
  | _ => .stuck
@[simp] def mTruth (m : RE → Out (D × RE)) : RE → Out (Bool × RE) := fun r => (m r).bnd fun p => match dr p.2.st p.1 with
  | some d => (truth d).bnd fun b => .ok (b, p.2)
  | none => .stuck
@[simp] def asB : D → Out Bool
  | .bl b => .ok b
  | _ => .stuck
@[simp] def mBool (m : RE → Out (D × RE)) : RE → Out (Bool × RE) := fun r => (m r).bnd fun p => (asB p.1).bnd fun b => .ok (b, p.2)
@[simp] def mTAnd (a b : RE → Out (Bool × RE)) : RE → Out (Bool × RE) := fun r => (a r).bnd fun p => if p.1 = true then b p.2 else .ok (false, p.2)
@[simp] def mTOr (a b : RE → Out (Bool × RE)) : RE → Out (Bool × RE) := fun r => (a r).bnd fun p => if p.1 = true then .ok (true, p.2) else b p.2
@[simp] def mTNot (a : RE → Out (Bool × RE)) : RE → Out (Bool × RE) := fun r => (a r).bnd fun p => .ok (!p.1, p.2)
@[simp] def mAnd (a b : RE → Out (D × RE)) : RE → Out (D × RE) := fun r => (a r).bnd fun p => (asB p.1).bnd fun c => if c = true then b p.2 else .ok (.bl false, p.2)
@[simp] def mOr (a b : RE → Out (D × RE)) : RE → Out (D × RE) := fun r => (a r).bnd fun p => (asB p.1).bnd fun c => if c = true then .ok (.bl true, p.2) else b p.2
@[simp] def mNot (a : RE → Out (D × RE)) : RE → Out (D × RE) := fun r => (a r).bnd fun p => (asB p.1).bnd fun c => .ok (.bl (!c), p.2)
@[simp] def mIfE (t : RE → Out (Bool × RE)) (a b : RE → Out (D × RE)) : RE → Out (D × RE) := fun r => (t r).bnd fun p => if p.1 = true then a p.2 else b p.2

/-! ## mirrors of statements -/
@[simp] def mNext : RE → Out Fl := fun r => .ok (.nx r)
@[simp] def mBrk : RE → Out Fl := fun r => .ok (.bk r)
@[simp] def mCnt : RE → Out Fl := fun r => .ok (.ct r)
def mNever : RE → Out Fl := fun _ => .stuck
@[simp] def mSeq (a b : RE → Out Fl) : RE → Out Fl := fun r => (a r).bnd fun f => match f with
  | .nx r' => b r'
  | f => .ok f
@[simp] def mDrop (m : RE → Out (D × RE)) : RE → Out Fl := fun r => (m r).bnd fun p => .ok (.nx p.2)
@[simp] def mRet (m : RE → Out (D × RE)) : RE → Out Fl := fun r => (m r).bnd fun p => .ok (.rt p.1 p.2)
@[simp] def mIf (t : RE → Out (Bool × RE)) (a b : RE → Out Fl) : RE → Out Fl := fun r => (t r).bnd fun p => if p.1 = true then a p.2 else b p.2
@[simp] def mSet (i : Nat) (m : RE → Out (D × RE)) : RE → Out Fl := fun r => (m r).bnd fun p => .ok (.nx (p.2.put i (some p.1)))
/-- a loop over the data xs; st stores an item -/
def mLoop (st : D → RE → Option RE) (b : RE → Out Fl) : List D → RE → Out Fl
  | [], r => .ok (.nx r)
  | x :: xs, r => match st x r with
    | none => .stuck
    | some r1 => (b r1).bnd fun f => match f with
      | .nx r2 => mLoop st b xs r2
      | .ct r2 => mLoop st b xs r2
      | .bk r2 => .ok (.nx r2)
      | .rt d r2 => .ok (.rt d r2)
def mWhile (t : RE → Out (Bool × RE)) (b : RE → Out Fl) : Nat → RE → Out Fl
  | 0, _ => .stuck
  | n + 1, r => (t r).bnd fun p => if p.1 = true then (b p.2).bnd fun f => match f with
      | .nx r2 => mWhile t b n r2
      | .ct r2 => mWhile t b n r2
      | .bk r2 => .ok (.nx r2)
      | .rt d r2 => .ok (.rt d r2)
    else .ok (.nx p.2)

section
variable {K : PySem.W.Frag} {E : XK} {c : Fm} {σ : L2.St} {H H' : Hp} {W W' : Wd} {r : RE}
/-! ## soundness of the parts -/
variable {ta tb te : TE} {ma mb m oa ob : RE → Out (D × RE)} {t u : TT} {mt mu : RE → Out (Bool × RE)}
theorem snd_var {i : Nat} : Snd K E (tVar i) (mVar i) := fun c σ H W r Q R h => by
  unfold mVar at h
  split at h
  · rename_i d e
    obtain ⟨v, h1, h3⟩ := R.sl i d e
    exact ⟨v, h1, h v H W R (Le.refl W) h3⟩
  · exact h.elim
/-- a new thing, frozen -/
theorem snd_of_f (h : SndF K E te m) (hu : ∀ r d r', m r = .ok (d, r') → unlck d = d) : Snd K E te m := fun c σ H W r Q R w => by
  refine h c σ H W r Q R ?_
  cases e : m r with
  | ok p =>
    rw [e] at w
    intro a H' W' R' s f
    obtain ⟨u, hu', R2, rep, le⟩ := R'.freeze f
    obtain ⟨d, r'⟩ := p
    rw [hu r d r' e] at rep
    exact w (.ref a) H' _ R2 (s.trans le) rep
  | exc x st => rw [e] at w; exact w
  | stuck => rw [e] at w; exact w
@[simp] def mCell (m : RE → Out (D × RE)) : RE → Out (D × RE) := fun r => (m r).bnd fun p => .ok (.cell p.2.st.length, ⟨p.2.s, p.2.st ++ [p.1]⟩)
/-- a new thing, as a cell -/
theorem snd_cell (h : SndF K E te m) : Snd K E te (mCell m) := fun c σ H W r Q R w => by
  refine h c σ H W r Q R ((Wp.bnd w).mono (fun p q a H' W' R' s f => ?_) fun _ _ x => x)
  obtain ⟨R2, rep⟩ := R'.newCell f
  exact q (.ref a) H' _ R2 (s.trans Le.add) rep
theorem snd_c {d : D} {v : V} (h : ∀ W, RepD K W d v) : Snd K E (tC v) (mC d) := fun c σ H W r Q R w => w v H W R (Le.refl W) (h W)
/-- an operation on two values -/
def OpS (K : PySem.W.Frag) (rr : R2) (f : D → D → Out D) : Prop := ∀ (x y : V) (H : Hp) (W : Wd) (dx dy : D) (Q : VK), Sub W.g H → RepT K H W dx x → RepT K H W dy y → ∀ d, f dx dy = .ok d →
  (∀ v H' W', Ext H W H' W' → RepD K W' d v → Q v H') → rr x y H Q
def OpF (K : PySem.W.Frag) (rr : R2) (f : D → D → Out D) : Prop := ∀ (x y : V) (H : Hp) (W : Wd) (dx dy : D) (Q : VK), Sub W.g H → RepT K H W dx x → RepT K H W dy y → ∀ d, f dx dy = .ok d →
  (∀ p o, H p = none → Own K (upd H p o) W d (.ref p) → Q (.ref p) (upd H p o)) → rr x y H Q
/-- f raises nothing -/
def NoX1 {α : Type} (f : α → Out D) : Prop := ∀ a x st, f a ≠ .exc x st
def NoX2 (f : D → D → Out D) : Prop := ∀ a b x st, f a b ≠ .exc x st
theorem wp_f2 {f : D → D → Out D} (nx : NoX2 f) {dx dy : D} {r' : RE} {P : D × RE → Prop} {X : Exn → Sto → Prop} (h : Wp ((f dx dy).bnd fun d => .ok (d, r')) P X) : ∃ d, f dx dy = .ok d ∧ P (d, r') := by
  cases e : f dx dy with
  | ok d => rw [e] at h; exact ⟨d, rfl, h⟩
  | exc x st => exact absurd e (nx _ _ _ _)
  | stuck => rw [e] at h; exact h.elim
theorem wp_f1 {α : Type} {f : α → Out D} (nx : NoX1 f) {a : α} {r' : RE} {P : D × RE → Prop} {X : Exn → Sto → Prop} (h : Wp ((f a).bnd fun d => .ok (d, r')) P X) : ∃ d, f a = .ok d ∧ P (d, r') := by
  cases e : f a with
  | ok d => rw [e] at h; exact ⟨d, rfl, h⟩
  | exc x st => exact absurd e (nx _ _ _)
  | stuck => rw [e] at h; exact h.elim
theorem snd_op2 {rr : R2} {f : D → D → Out D} (ho : OpS K rr f) (nx : NoX2 f) (ha : Snd K E ta oa) (hb : Snd K E tb ob) : Snd K E (tOp rr ta tb) (mOp2 f oa ob) := fun c σ H W r Q R w => by
  refine ha c σ H W r _ R ((Wp.bnd w).mono (fun p q v1 H1 W1 R1 s1 h1 => ?_) fun _ _ x => x)
  refine hb c σ H1 W1 p.2 _ R1 ((Wp.bnd q).mono (fun p2 q2 v2 H2 W2 R2 s2 h2 => ?_) fun _ _ x => x)
  cases e1 : dr p2.2.st p.1 with
  | none => simp only [e1] at q2; exact q2.elim
  | some dx =>
    cases e2 : dr p2.2.st p2.1 with
    | none => simp only [e1, e2] at q2; exact q2.elim
    | some dy =>
      simp only [e1, e2] at q2
      obtain ⟨d, hd, q3⟩ := wp_f2 nx q2
      exact ho v1 v2 H2 W2 dx dy Q R2.gh ((h1.mono s2).at R2 e1) (h2.at R2 e2) d hd fun v H' W' x rep => q3 v H' W' (R2.ext x) ((s1.trans s2).trans x.sub) rep
theorem sndf_op2 {rr : R2} {f : D → D → Out D} (ho : OpF K rr f) (nx : NoX2 f) (ha : Snd K E ta oa) (hb : Snd K E tb ob) : SndF K E (tOp rr ta tb) (mOp2 f oa ob) := fun c σ H W r Q R w => by
  refine ha c σ H W r _ R ((Wp.bnd w).mono (fun p q v1 H1 W1 R1 s1 h1 => ?_) fun _ _ x => x)
  refine hb c σ H1 W1 p.2 _ R1 ((Wp.bnd q).mono (fun p2 q2 v2 H2 W2 R2 s2 h2 => ?_) fun _ _ x => x)
  cases e1 : dr p2.2.st p.1 with
  | none => simp only [e1] at q2; exact q2.elim
  | some dx =>
    cases e2 : dr p2.2.st p2.1 with
    | none => simp only [e1, e2] at q2; exact q2.elim
    | some dy =>
      simp only [e1, e2] at q2
      obtain ⟨d, hd, q3⟩ := wp_f2 nx q2
      refine ho v1 v2 H2 W2 dx dy Q R2.gh ((h1.mono s2).at R2 e1) (h2.at R2 e2) d hd fun a o ha w => ?_
      obtain ⟨R3, f3⟩ := R2.fresh ha w
      exact q3 a _ W2 R3 (s1.trans s2) f3
/-- arguments -/
theorem snd_nil : SndA K E tNil mNil := fun c σ H W r Q R w => w [] H W R (Le.refl W) rfl
theorem snd_cons {tr : TA} {ms : RE → Out (List D × RE)} (ha : Snd K E ta oa) (hr : SndA K E tr ms) : SndA K E (tCons ta tr) (mCons oa ms) := fun c σ H W r Q R w => by
  refine ha c σ H W r _ R ((Wp.bnd w).mono (fun p q v1 H1 W1 R1 s1 h1 => ?_) fun _ _ x => x)
  refine hr c σ H1 W1 p.2 _ R1 ((Wp.bnd q).mono (fun p2 q2 v2 H2 W2 R2 s2 h2 => ?_) fun _ _ x => x)
  exact q2 (v1 :: v2) H2 W2 R2 (s1.trans s2) ⟨v1, v2, rfl, h1.mono s2, h2⟩
def CallS (K : PySem.W.Frag) (rr : List V → Hp → VK → Prop) (f : List D → Out D) : Prop := ∀ (xs : List V) (H : Hp) (W : Wd) (ds : List D) (Q : VK), Sub W.g H → RepTL K H W ds xs → ∀ d, f ds = .ok d →
  (∀ v H' W', Ext H W H' W' → RepD K W' d v → Q v H') → rr xs H Q
def CallF (K : PySem.W.Frag) (rr : List V → Hp → VK → Prop) (f : List D → Out D) : Prop := ∀ (xs : List V) (H : Hp) (W : Wd) (ds : List D) (Q : VK), Sub W.g H → RepTL K H W ds xs → ∀ d, f ds = .ok d →
  (∀ p o, H p = none → Own K (upd H p o) W d (.ref p) → Q (.ref p) (upd H p o)) → rr xs H Q
theorem snd_cb {rr : List V → Hp → VK → Prop} {f : List D → Out D} {tr : TA} {ms : RE → Out (List D × RE)} (ho : CallS K rr f) (nx : NoX1 f) (ha : SndA K E tr ms) : Snd K E (tCB rr tr) (mArgs f ms) := fun c σ H W r Q R w => by
  refine ha c σ H W r _ R ((Wp.bnd w).mono (fun p q vs H1 W1 R1 s1 h1 => ?_) fun _ _ x => x)
  cases e1 : drs p.2.st p.1 with
  | none => simp only [e1] at q; exact q.elim
  | some ds =>
    simp only [e1] at q
    obtain ⟨d, hd, q3⟩ := wp_f1 nx q
    exact ho vs H1 W1 ds Q R1.gh (h1.at R1 e1) d hd fun v H' W' x rep => q3 v H' W' (R1.ext x) (s1.trans x.sub) rep
theorem sndf_cb {rr : List V → Hp → VK → Prop} {f : List D → Out D} {tr : TA} {ms : RE → Out (List D × RE)} (ho : CallF K rr f) (nx : NoX1 f) (ha : SndA K E tr ms) : SndF K E (tCB rr tr) (mArgs f ms) := fun c σ H W r Q R w => by
  refine ha c σ H W r _ R ((Wp.bnd w).mono (fun p q vs H1 W1 R1 s1 h1 => ?_) fun _ _ x => x)
  cases e1 : drs p.2.st p.1 with
  | none => simp only [e1] at q; exact q.elim
  | some ds =>
    simp only [e1] at q
    obtain ⟨d, hd, q3⟩ := wp_f1 nx q
    refine ho vs H1 W1 ds Q R1.gh (h1.at R1 e1) d hd fun a o ha w => ?_
    obtain ⟨R3, f3⟩ := R1.fresh ha w
    exact q3 a _ W1 R3 s1 f3
/-! tests -/
theorem snd_bool (h : Snd K E te m) : SndT K E (tB te) (mBool m) := fun c σ H W r Q R w => by
  refine h c σ H W r _ R ((Wp.bnd w).mono (fun p q v H1 W1 R1 s1 h1 => ?_) fun _ _ x => x)
  obtain ⟨d, r'⟩ := p
  cases d <;> simp only [asB, bnd_ok, bnd_stuck, Wp] at q <;> try exact q.elim
  rename_i b
  simp only [RepD] at h1
  exact ⟨b, h1, q H1 W1 R1 s1⟩
theorem snd_test (h : Snd K E te m) : SndT K E (tTest te) (mBool m) := snd_bool h
theorem snd_truth (h : Snd K E te oa) : SndT K E (fun σ H Q => te σ H fun x H' => ∃ k, TruV K x H' k ∧ Q k H') (mTruth oa) := fun c σ H W r Q R w => by
  refine h c σ H W r _ R ((Wp.bnd w).mono (fun p q v H1 W1 R1 s1 h1 => ?_) fun _ _ x => x)
  cases e1 : dr p.2.st p.1 with
  | none => simp only [e1] at q; exact q.elim
  | some d =>
    simp only [e1] at q
    have ht := h1.at R1 e1
    cases d <;> simp only [truth, bnd_ok, bnd_stuck, Wp] at q <;> try exact q.elim
    · simp only [RepT, RepD] at ht; subst ht; exact ⟨_, rfl, q H1 W1 R1 s1⟩
    · simp only [RepT, RepD] at ht; subst ht; exact ⟨_, rfl, q H1 W1 R1 s1⟩
    · simp only [RepT, RepD] at ht; subst ht; exact ⟨_, rfl, q H1 W1 R1 s1⟩
    · simp only [RepT, RepD] at ht; subst ht
      rename_i x
      by_cases hz : x.length ≤ 1000000
      · rw [if_pos hz] at q
        exact ⟨_, ⟨lim_le hz, rfl⟩, q H1 W1 R1 s1⟩
      · rw [if_neg hz] at q
        exact q.elim
    · rename_i xs
      obtain ⟨a, vs, e, hq, hl⟩ := ht
      subst e
      refine ⟨_, .inr (.inl ⟨vs, SqT.of (R1.gh.tup hq), ?_⟩), q H1 W1 R1 s1⟩
      cases xs with
      | nil => simp only [RepL] at hl; subst hl; rfl
      | cons x xs => simp only [RepL] at hl; obtain ⟨_, _, e, _⟩ := hl; subst e; rfl
    · rename_i xs
      obtain ⟨a, vs, e, hq, hl⟩ := ht
      subst e
      refine ⟨_, .inl ⟨vs, SqL.of hq, ?_⟩, q H1 W1 R1 s1⟩
      cases xs with
      | nil => simp only [RepL] at hl; subst hl; rfl
      | cons x xs => simp only [RepL] at hl; obtain ⟨_, _, e, _⟩ := hl; subst e; rfl
theorem snd_tand (h : SndT K E t mt) (k : SndT K E u mu) : SndT K E (tAnd t u) (mTAnd mt mu) := fun c σ H W r Q R w => by
  refine h c σ H W r _ R ((Wp.bnd w).mono (fun p q H1 W1 R1 s1 => ?_) fun _ _ x => x)
  by_cases e : p.1 = true
  · rw [if_pos e] at q ⊢
    exact k c σ H1 W1 p.2 Q R1 (q.mono (fun p2 q2 H2 W2 R2 s2 => q2 H2 W2 R2 (s1.trans s2)) fun _ _ x => x)
  · rw [if_neg e] at q ⊢
    exact q H1 W1 R1 s1
theorem snd_tor (h : SndT K E t mt) (k : SndT K E u mu) : SndT K E (tOr t u) (mTOr mt mu) := fun c σ H W r Q R w => by
  refine h c σ H W r _ R ((Wp.bnd w).mono (fun p q H1 W1 R1 s1 => ?_) fun _ _ x => x)
  by_cases e : p.1 = true
  · rw [if_pos e] at q ⊢
    exact q H1 W1 R1 s1
  · rw [if_neg e] at q ⊢
    exact k c σ H1 W1 p.2 Q R1 (q.mono (fun p2 q2 H2 W2 R2 s2 => q2 H2 W2 R2 (s1.trans s2)) fun _ _ x => x)
theorem snd_tnot (h : SndT K E t mt) : SndT K E (tNot t) (mTNot mt) := fun c σ H W r Q R w => by
  refine h c σ H W r _ R ((Wp.bnd w).mono (fun p q H1 W1 R1 s1 => ?_) fun _ _ x => x)
  exact q H1 W1 R1 s1
theorem snd_and (h : Snd K E ta ma) (k : Snd K E tb mb) : Snd K E (tAndV ta tb) (mAnd ma mb) := fun c σ H W r Q R w => by
  refine h c σ H W r _ R ((Wp.bnd w).mono (fun p q v H1 W1 R1 s1 h1 => ?_) fun _ _ x => x)
  obtain ⟨d, r'⟩ := p
  cases d <;> simp only [asB, bnd_ok, bnd_stuck] at q <;> try exact q.elim
  rename_i b
  simp only [RepD] at h1
  refine ⟨b, h1, ?_⟩
  by_cases e : b = true
  · rw [if_pos e] at q ⊢
    exact k c σ H1 W1 r' Q R1 (q.mono (fun p2 q2 v2 H2 W2 R2 s2 => q2 v2 H2 W2 R2 (s1.trans s2)) fun _ _ x => x)
  · rw [if_neg e] at q ⊢
    exact q _ H1 W1 R1 s1 (by simp only [RepD])
theorem snd_or (h : Snd K E ta ma) (k : Snd K E tb mb) : Snd K E (tOrV ta tb) (mOr ma mb) := fun c σ H W r Q R w => by
  refine h c σ H W r _ R ((Wp.bnd w).mono (fun p q v H1 W1 R1 s1 h1 => ?_) fun _ _ x => x)
  obtain ⟨d, r'⟩ := p
  cases d <;> simp only [asB, bnd_ok, bnd_stuck] at q <;> try exact q.elim
  rename_i b
  simp only [RepD] at h1
  refine ⟨b, h1, ?_⟩
  by_cases e : b = true
  · rw [if_pos e] at q ⊢
    exact q _ H1 W1 R1 s1 (by simp only [RepD])
  · rw [if_neg e] at q ⊢
    exact k c σ H1 W1 r' Q R1 (q.mono (fun p2 q2 v2 H2 W2 R2 s2 => q2 v2 H2 W2 R2 (s1.trans s2)) fun _ _ x => x)
theorem snd_not (h : Snd K E ta ma) : Snd K E (tNotV ta) (mNot ma) := fun c σ H W r Q R w => by
  refine h c σ H W r _ R ((Wp.bnd w).mono (fun p q v H1 W1 R1 s1 h1 => ?_) fun _ _ x => x)
  obtain ⟨d, r'⟩ := p
  cases d <;> simp only [asB, bnd_ok, bnd_stuck] at q <;> try exact q.elim
  rename_i b
  simp only [RepD] at h1
  exact ⟨b, h1, q _ H1 W1 R1 s1 (by simp only [RepD])⟩
theorem snd_ife (h : SndT K E t mt) (k : Snd K E ta ma) (l : Snd K E tb mb) : Snd K E (tIf t ta tb) (mIfE mt ma mb) := fun c σ H W r Q R w => by
  refine h c σ H W r _ R ((Wp.bnd w).mono (fun p q H1 W1 R1 s1 => ?_) fun _ _ x => x)
  by_cases e : p.1 = true
  · rw [if_pos e] at q ⊢
    exact k c σ H1 W1 p.2 Q R1 (q.mono (fun p2 q2 v2 H2 W2 R2 s2 => q2 v2 H2 W2 R2 (s1.trans s2)) fun _ _ x => x)
  · rw [if_neg e] at q ⊢
    exact l c σ H1 W1 p.2 Q R1 (q.mono (fun p2 q2 v2 H2 W2 R2 s2 => q2 v2 H2 W2 R2 (s1.trans s2)) fun _ _ x => x)
end
end Mir

set_option maxHeartbeats 4000000
namespace Mir
open PySem PySem.Spec PyProof.Rows L2

theorem repL_len {K : PySem.W.Frag} {W : Wd} : ∀ {ds : List D} {vs : List V}, RepL K W ds vs → ds.length = vs.length
  | [], vs, h => by simp only [RepL] at h; rw [h]; rfl
  | d :: ds, vs, h => by
    simp only [RepL] at h
    obtain ⟨v, us, e, _, t⟩ := h
    rw [e, List.length_cons, List.length_cons, repL_len t]
theorem repL_get {K : PySem.W.Frag} {W : Wd} : ∀ {ds : List D} {vs : List V} {i : Nat} {v : V}, RepL K W ds vs → vs[i]? = some v → ∃ d, ds[i]? = some d ∧ RepD K W d v
  | [], vs, i, v, h, e => by simp only [RepL] at h; rw [h] at e; simp at e
  | d :: ds, vs, 0, v, h, e => by
    simp only [RepL] at h
    obtain ⟨v', us, e', q, t⟩ := h
    rw [e'] at e; simp at e; subst e
    exact ⟨d, rfl, q⟩
  | d :: ds, vs, i + 1, v, h, e => by
    simp only [RepL] at h
    obtain ⟨v', us, e', q, t⟩ := h
    rw [e'] at e; simp at e
    obtain ⟨d', h1, h2⟩ := repL_get (i := i) t e
    exact ⟨d', by simpa using h1, h2⟩
theorem repL_get2 {K : PySem.W.Frag} {W : Wd} {ds : List D} {vs : List V} {i : Nat} {d : D} (h : RepL K W ds vs) (e : ds[i]? = some d) : ∃ v, vs[i]? = some v ∧ RepD K W d v := by
  have hl := repL_len h
  obtain ⟨hi, he⟩ := List.getElem?_eq_some_iff.mp e
  have hv : vs[i]? = some (vs[i]'(by omega)) := List.getElem?_eq_getElem (by omega)
  obtain ⟨d', e', q⟩ := repL_get h hv
  rw [e] at e'; cases e'
  exact ⟨_, hv, q⟩
theorem repL_app {K : PySem.W.Frag} {W : Wd} : ∀ {ds es : List D} {vs us : List V}, RepL K W ds vs → RepL K W es us → RepL K W (ds ++ es) (vs ++ us)
  | [], es, vs, us, h, k => by simp only [RepL] at h; subst h; exact k
  | d :: ds, es, vs, us, h, k => by
    simp only [RepL] at h
    obtain ⟨v, ws, e, q, t⟩ := h
    subst e
    show RepL K W (d :: (ds ++ es)) (v :: (ws ++ us))
    simp only [RepL]
    exact ⟨v, ws ++ us, rfl, q, repL_app t k⟩
theorem repL_one {K : PySem.W.Frag} {W : Wd} {d : D} {v : V} (h : RepD K W d v) : RepL K W [d] [v] := by
  simp only [RepL]; exact ⟨v, [], rfl, h, rfl⟩

section
variable {K : PySem.W.Frag} {E : XK} {c : Fm} {σ : L2.St} {H H' : Hp} {W W' : Wd} {r : RE}
variable {ta tb te : TE} {ma mb m : RE → Out (D × RE)} {t u : TT} {mt mu : RE → Out (Bool × RE)} {ts us : TS} {ms mz : RE → Out Fl}
theorem FlP.mono {Dd : Ends} {f : Fl} (s : Le W W') (h : FlP K c W Dd f) : FlP K c W' Dd f := by
  cases f with
  | nx r' => exact fun σ' H' W2 R s2 => h σ' H' W2 R (s.trans s2)
  | rt d r' => exact fun v σ' H' W2 R s2 => h v σ' H' W2 R (s.trans s2)
  | bk r' => exact fun σ' H' W2 R s2 => h σ' H' W2 R (s.trans s2)
  | ct r' => exact fun σ' H' W2 R s2 => h σ' H' W2 R (s.trans s2)
theorem snds_ret (h : Snd K E te m) : SndS K E (tRet te) (mRet m) := fun c σ H W r Dd R w => by
  refine h c σ H W r _ R ((Wp.bnd w).mono (fun p q v H1 W1 R1 s1 h1 => ?_) fun _ _ x => x)
  exact q v σ H1 W1 R1 s1 h1
theorem snds_brk : SndS K E tBreak mBrk := fun c σ H W r Dd R w => w σ H W R (Le.refl W)
theorem snds_cnt : SndS K E tCont mCnt := fun c σ H W r Dd R w => w σ H W R (Le.refl W)
theorem snds_set {i : Nat} (h : Snd K E te m) : SndS K E (tAsg te (gName i)) (mSet i m) := fun c σ H W r Dd R w => by
  refine h c σ H W r _ R ((Wp.bnd w).mono (fun p q v H1 W1 R1 s1 h1 => ?_) fun _ _ x => x)
  exact q _ H1 W1 (R1.set h1) s1
@[simp] def stName (i : Nat) : D → RE → Option RE := fun d r => some (r.put i (some d))
theorem snds_next : SndS K E tNext mNext := fun c σ H W r Dd R w => w σ H W R (Le.refl W)
theorem snds_never : SndS K E tNever mNever := fun c σ H W r Dd R w => w
theorem snds_seq (h : SndS K E ts ms) (k : SndS K E us mz) : SndS K E (tSeq ts us) (mSeq ms mz) := fun c σ H W r Dd R w => by
  refine h c σ H W r _ R ((Wp.bnd w).mono (fun f q => ?_) fun _ _ x => x)
  cases f with
  | nx r' => exact fun σ' H' W' R' s => k c σ' H' W' r' Dd R' (Wp.mono q (fun f z => FlP.mono s z) fun _ _ x => x)
  | rt d r' => exact q
  | bk r' => exact q
  | ct r' => exact q
theorem snds_drop (h : Snd K E te m) : SndS K E (tDrop te) (mDrop m) := fun c σ H W r Dd R w => by
  refine h c σ H W r _ R ((Wp.bnd w).mono (fun p q v H1 W1 R1 s1 _ => ?_) fun _ _ x => x)
  exact q σ H1 W1 R1 s1
theorem snds_if (h : SndT K E t mt) (k : SndS K E ts ms) (l : SndS K E us mz) : SndS K E (tIfS t ts us) (mIf mt ms mz) := fun c σ H W r Dd R w => by
  refine h c σ H W r _ R ((Wp.bnd w).mono (fun p q H1 W1 R1 s1 => ?_) fun _ _ x => x)
  by_cases e : p.1 = true
  · rw [if_pos e] at q ⊢
    exact k c σ H1 W1 p.2 Dd R1 (q.mono (fun f z => FlP.mono s1 z) fun _ _ x => x)
  · rw [if_neg e] at q ⊢
    exact l c σ H1 W1 p.2 Dd R1 (q.mono (fun f z => FlP.mono s1 z) fun _ _ x => x)
/-! ### targets -/
def GS (K : PySem.W.Frag) (E : XK) (g : TG) (st : D → RE → Option RE) : Prop := ∀ (c : Fm) (v : V) (d : D) (σ : L2.St) (H : Hp) (W : Wd) (r r' : RE) (Q : L2.St → Hp → Prop), RR K c σ H W r → RepD K W d v → st d r = some r' →
  (∀ σ', RR K c σ' H W r' → Q σ' H) → g v σ H Q
theorem gs_name {i : Nat} : GS K E (gName i) (stName i) := fun c v d σ H W r r' Q R h e k => by
  cases e
  exact k _ (R.set h)
def GSs (K : PySem.W.Frag) (E : XK) (g : TGs) (st : List D → RE → Option RE) : Prop := ∀ (c : Fm) (v : List V) (d : List D) (σ : L2.St) (H : Hp) (W : Wd) (r r' : RE) (Q : L2.St → Hp → Prop), RR K c σ H W r → RepL K W d v → st d r = some r' →
  (∀ σ', RR K c σ' H W r' → Q σ' H) → g v σ H Q
@[simp] def stNil : List D → RE → Option RE := fun ds r => match ds with
  | [] => some r
  | _ => none
@[simp] def stCons (s : D → RE → Option RE) (ss : List D → RE → Option RE) : List D → RE → Option RE := fun ds r => match ds with
  | d :: ds => (s d r).bind (ss ds)
  | [] => none
@[simp] def stTup (n : Nat) (ss : List D → RE → Option RE) : D → RE → Option RE := fun d r => match d with
  | .tup ds => if ds.length = n then ss ds r else none
  | _ => none
theorem gss_nil : GSs K E gNil stNil := fun c v d σ H W r r' Q R h e k => by
  cases d with
  | nil => cases e; simp only [RepL] at h; exact ⟨h, k σ R⟩
  | cons _ _ => cases e
theorem gss_cons {g : TG} {gs : TGs} {s : D → RE → Option RE} {ss : List D → RE → Option RE} (h1 : GS K E g s) (h2 : GSs K E gs ss) : GSs K E (gCons g gs) (stCons s ss) := fun c v d σ H W r r' Q R h e k => by
  cases d with
  | nil => cases e
  | cons d ds =>
    simp only [RepL] at h
    obtain ⟨v1, us, ev, q, t⟩ := h
    obtain ⟨r1, e1, e2⟩ := Option.bind_eq_some_iff.mp (show (s d r).bind (ss ds) = some r' from e)
    refine ⟨v1, us, ev, h1 c v1 d σ H W r r1 _ R q e1 fun σ' R' => ?_⟩
    exact h2 c us ds σ' H W r1 r' Q R' t e2 k
theorem gs_tup {n : Nat} {gs : TGs} {ss : List D → RE → Option RE} (h2 : GSs K E gs ss) : GS K E (gTup K n gs) (stTup n ss) := fun c v d σ H W r r' Q R h e k => by
  cases d <;> try (cases e)
  rename_i ds
  simp only [stTup] at e
  split at e
  · rename_i hn
    simp only [RepD] at h
    obtain ⟨a, vs, ev, q, t⟩ := h
    exact ⟨a, vs, ev, SqT.of (R.gh.tup q), by rw [← repL_len t]; exact hn, h2 c vs ds σ H W r r' Q R t e k⟩
  · cases e
/-- x, y = e -/
@[simp] def mAsg (st : D → RE → Option RE) (m : RE → Out (D × RE)) : RE → Out Fl := fun r => (m r).bnd fun p => match st p.1 p.2 with
  | some r' => .ok (.nx r')
  | none => .stuck
theorem snds_asg {g : TG} {st : D → RE → Option RE} (h : Snd K E te m) (hg : GS K E g st) : SndS K E (tAsg te g) (mAsg st m) := fun c σ H W r Dd R w => by
  refine h c σ H W r _ R ((Wp.bnd w).mono (fun p q v H1 W1 R1 s1 h1 => ?_) fun _ _ x => x)
  cases e : st p.1 p.2 with
  | none => simp only [e] at q; exact q.elim
  | some r' =>
    simp only [e] at q
    exact hg c v p.1 σ H1 W1 p.2 r' _ R1 h1 e fun σ' R' => q σ' H1 W1 R' s1

/-! ### loops -/
/-- what is walked, as data -/
def SndI (K : PySem.W.Frag) (E : XK) (wi : TI) (m : RE → Out (List D × RE)) : Prop := ∀ (c : Fm) (σ : L2.St) (H : Hp) (W : Wd) (r : RE) (R : It → Hp → Prop), RR K c σ H W r →
  Wp (m r) (fun p => ∀ (J : It) (H' : Hp) (W' : Wd) (Gp : Hp → Prop) (Y : Nat → Hp → V → Hp → Prop), RR K c σ H' W' p.2 → Le W W' → Walk J p.1.length Gp Y →
    (∀ (σ2 : L2.St) (H2 : Hp) (W2 : Wd) (r2 : RE), RR K c σ2 H2 W2 r2 → Le W' W2 → Gp H2) →
    (∀ (i : Nat) (H2 : Hp) (W2 : Wd) (x : V) (H3 : Hp), Sub W2.g H2 → Le W' W2 → i < p.1.length → Y i H2 x H3 → ∃ W3 d, Ext H2 W2 H3 W3 ∧ p.1[i]? = some d ∧ RepD K W3 d x) → R J H') (XP K c E) → wi σ H R
@[simp] def mFor (mi : RE → Out (List D × RE)) (st : D → RE → Option RE) (b : RE → Out Fl) : RE → Out Fl := fun r => (mi r).bnd fun p => mLoop st b p.1 p.2
theorem snds_for {wi : TI} {mi : RE → Out (List D × RE)} {g : TG} {st : D → RE → Option RE} (hi : SndI K E wi mi) (hg : GS K E g st) (hb : SndS K E ts ms) : SndS K E (tFor wi g ts) (mFor mi st ms) := fun c σ H W r Dd R w => by
  refine hi c σ H W r _ R ((Wp.bnd w).mono (fun p q J H1 W1 Gp Y R1 s1 wk hG hY => ?_) fun _ _ x => x)
  obtain ⟨ds, r1⟩ := p
  refine for_it wk (fun i σ2 H2 => ∃ W2 r2, RR K c σ2 H2 W2 r2 ∧ Le W1 W2 ∧ Wp (mLoop st ms (ds.drop i) r2) (FlP K c W Dd) (XP K c E)) ⟨W1, r1, R1, Le.refl W1, q⟩ (fun i σ2 H2 _ ⟨W2, r2, R2, s2, _⟩ => hG σ2 H2 W2 r2 R2 s2) ?_ ?_
  · rintro i x σ2 H2 H3 hlt ⟨W2, r2, R2, s2, q2⟩ y
    obtain ⟨W3, d, x3, e3, h3⟩ := hY i H2 W2 x H3 R2.gh s2 hlt y
    have R3 := R2.ext x3
    have ed : ds.drop i = d :: ds.drop (i + 1) := by
      obtain ⟨hi', he⟩ := List.getElem?_eq_some_iff.mp e3
      rw [← he]
      exact List.drop_eq_getElem_cons hi'
    rw [ed] at q2
    simp only [mLoop] at q2
    cases e4 : st d r2 with
    | none => simp only [e4] at q2; exact q2.elim
    | some r3 =>
      simp only [e4] at q2
      refine hg c x d σ2 H3 W3 r2 r3 _ R3 h3 e4 fun σ3 R4 => ?_
      have s3 : Le W1 W3 := s2.trans x3.sub
      refine hb c σ3 H3 W3 r3 _ R4 ((Wp.bnd q2).mono (fun f q3 => ?_) fun _ _ x => x)
      cases f with
      | nx r4 => exact fun σ4 H4 W4 R5 s4 => ⟨W4, r4, R5, s3.trans s4, q3⟩
      | ct r4 => exact fun σ4 H4 W4 R5 s4 => ⟨W4, r4, R5, s3.trans s4, q3⟩
      | bk r4 => exact fun σ4 H4 W4 R5 s4 => q3 σ4 H4 W4 R5 ((s1.trans s3).trans s4)
      | rt d4 r4 => exact fun v σ4 H4 W4 R5 s4 h4 => q3 v σ4 H4 W4 R5 ((s1.trans s3).trans s4) h4
  · rintro σ2 H2 ⟨W2, r2, R2, s2, q2⟩
    rw [List.drop_length] at q2
    exact q2 σ2 H2 W2 R2 (s1.trans s2)
theorem snds_while {n : Nat} (ht : SndT K E t mt) (hb : SndS K E ts ms) : SndS K E (tWhile t ts) (mWhile mt ms n) := fun c σ H W r Dd R w => by
  refine ⟨fun k σ2 H2 => ∃ W2 r2, RR K c σ2 H2 W2 r2 ∧ Le W W2 ∧ Wp (mWhile mt ms k r2) (FlP K c W Dd) (XP K c E), ⟨n, W, r, R, Le.refl W, w⟩, ?_⟩
  rintro k σ2 H2 ⟨W2, r2, R2, s2, q2⟩
  cases k with
  | zero => exact q2.elim
  | succ k =>
    simp only [mWhile] at q2
    refine ht c σ2 H2 W2 r2 _ R2 ((Wp.bnd q2).mono (fun p q3 H3 W3 R3 s3 => ?_) fun _ _ x => x)
    by_cases e : p.1 = true
    · rw [if_pos e] at q3 ⊢
      refine ⟨fun σ4 H4 => ∃ W4 r4, RR K c σ4 H4 W4 r4 ∧ Le W W4 ∧ Wp (mWhile mt ms k r4) (FlP K c W Dd) (XP K c E), fun σ4 H4 h4 => ⟨k, Nat.lt_succ_self k, h4⟩, ?_⟩
      refine hb c σ2 H3 W3 p.2 _ R3 ((Wp.bnd q3).mono (fun f q4 => ?_) fun _ _ x => x)
      cases f with
      | nx r4 => exact fun σ4 H4 W4 R5 s4 => ⟨W4, r4, R5, (s2.trans s3).trans s4, q4⟩
      | ct r4 => exact fun σ4 H4 W4 R5 s4 => ⟨W4, r4, R5, (s2.trans s3).trans s4, q4⟩
      | bk r4 => exact fun σ4 H4 W4 R5 s4 => q4 σ4 H4 W4 R5 ((s2.trans s3).trans s4)
      | rt d4 r4 => exact fun v σ4 H4 W4 R5 s4 h4 => q4 v σ4 H4 W4 R5 ((s2.trans s3).trans s4) h4
    · rw [if_neg e] at q3 ⊢
      exact q3 σ2 H3 W3 R3 (s2.trans s3)
/-! what can be walked -/
@[simp] def asL : D → Out (List D)
  | .lst xs => .ok xs
  | .frl xs => .ok xs
  | _ => .stuck
@[simp] def asT : D → Out (List D)
  | .tup xs => .ok xs
  | _ => .stuck
@[simp] def mItem (f : D → Out (List D)) (m : RE → Out (D × RE)) : RE → Out (List D × RE) := fun r => (m r).bnd fun p => (f p.1).bnd fun ds => .ok (ds, p.2)
theorem repD_sqL {d : D} {ds : List D} {v : V} (e : asL d = .ok ds) (h : RepD K W d v) : ∃ a vs, v = .ref a ∧ SqL K W.g a vs ∧ RepL K W ds vs := by
  cases d <;> simp only [asL, Out.ok.injEq, reduceCtorEq] at e
  · subst e; simp only [RepD] at h; obtain ⟨a, vs, ev, hq, hl⟩ := h; exact ⟨a, vs, ev, SqL.of hq, hl⟩
  · subst e; simp only [RepD] at h; exact h
theorem sndi_list (h : Snd K E te m) : SndI K E (iList K te) (mItem asL m) := fun c σ H W r R R0 w => by
  refine h c σ H W r _ R0 ((Wp.bnd w).mono (fun p q v H1 W1 R1 s1 h1 => ?_) fun _ _ x => x)
  obtain ⟨d, r'⟩ := p
  cases e : asL d with
  | exc x st => cases d <;> simp [asL] at e
  | stuck => simp only [e, bnd_stuck] at q; exact q.elim
  | ok ds =>
    simp only [e, bnd_ok] at q
    obtain ⟨a, vs, ev, hq, hl⟩ := repD_sqL e h1
    refine ⟨a, ev, ⟨vs, R1.gh.sqL hq⟩, q _ H1 W1 _ _ R1 s1 (by rw [repL_len hl]; exact walk_list (xs := vs)) (fun σ2 H2 W2 r2 R2 s2 => R2.gh.sqL (s2.s.sqL hq)) ?_⟩
    rintro i H2 W2 x H3 s2 s3 hi ⟨rfl, hx⟩
    obtain ⟨d, e, hd⟩ := repL_get hl hx
    exact ⟨W2, d, Ext.refl s2, e, hd.mono s3⟩
theorem sndi_tup (h : Snd K E te m) : SndI K E (iTup K te) (mItem asT m) := fun c σ H W r R R0 w => by
  refine h c σ H W r _ R0 ((Wp.bnd w).mono (fun p q v H1 W1 R1 s1 h1 => ?_) fun _ _ x => x)
  obtain ⟨d, r'⟩ := p
  cases d <;> simp only [asT, bnd_ok, bnd_stuck] at q <;> try exact q.elim
  rename_i ds
  simp only [RepD] at h1
  obtain ⟨a, vs, ev, hq, hl⟩ := h1
  refine ⟨a, ev, ⟨vs, SqT.of (R1.gh.tup hq)⟩, q _ H1 W1 _ _ R1 s1 (by rw [repL_len hl]; exact walk_tup (xs := vs)) (fun σ2 H2 W2 r2 R2 s2 => SqT.of (R2.gh.tup (s2.s.tup hq))) ?_⟩
  rintro i H2 W2 x H3 s2 s3 hi ⟨rfl, hx⟩
  obtain ⟨d, e, hd⟩ := repL_get hl hx
  exact ⟨W2, d, Ext.refl s2, e, hd.mono s3⟩
def chars (x : Str) : List D := x.cps.toList.map fun c => D.str ⟨#[c]⟩
@[simp] def asS : D → Out (List D)
  | .str x => .ok (chars x)
  | _ => .stuck
theorem sndi_str (h : Snd K E te m) : SndI K E (iStr te) (mItem asS m) := fun c σ H W r R R0 w => by
  refine h c σ H W r _ R0 ((Wp.bnd w).mono (fun p q v H1 W1 R1 s1 h1 => ?_) fun _ _ x => x)
  obtain ⟨d, r'⟩ := p
  cases d <;> simp only [asS, bnd_ok, bnd_stuck] at q <;> try exact q.elim
  rename_i x
  simp only [RepD] at h1
  refine ⟨x, h1, q _ H1 W1 _ _ R1 s1 (by unfold chars; rw [List.length_map, Array.length_toList]; exact walk_str) (fun σ2 H2 W2 r2 R2 s2 => trivial) ?_⟩
  rintro i H2 W2 y H3 s2 s3 hi ⟨rfl, c, hc, hy⟩
  refine ⟨W2, .str ⟨#[c]⟩, Ext.refl s2, ?_, by simp only [RepD]; exact hy⟩
  show (chars x)[i]? = _
  unfold chars
  rw [List.getElem?_map, Array.getElem?_toList, hc]
  rfl
/-- range(n), range(a, b) -/
def rangeD (lo : Int) (n : Nat) : List D := (List.range n).map fun (i : Nat) => D.int (lo + i)
theorem rangeD_get {lo : Int} {n i : Nat} (h : i < n) : (rangeD lo n)[i]? = some (.int (lo + i)) := by
  unfold rangeD
  rw [List.getElem?_map, List.getElem?_range h]
  rfl
theorem rangeD_len {lo : Int} {n : Nat} : (rangeD lo n).length = n := by unfold rangeD; rw [List.length_map, List.length_range]
theorem walked_range {lo : Int} {n : Nat} {p2 : RE} {R : It → Hp → Prop} {H1 : Hp} {W1 : Wd} (R1 : RR K c σ H1 W1 p2) (s1 : Le W W1)
    (q : ∀ (J : It) (H' : Hp) (W' : Wd) (Gp : Hp → Prop) (Y : Nat → Hp → V → Hp → Prop), RR K c σ H' W' p2 → Le W W' → Walk J (rangeD lo n).length Gp Y →
    (∀ (σ2 : L2.St) (H2 : Hp) (W2 : Wd) (r2 : RE), RR K c σ2 H2 W2 r2 → Le W' W2 → Gp H2) →
    (∀ (i : Nat) (H2 : Hp) (W2 : Wd) (x : V) (H3 : Hp), Sub W2.g H2 → Le W' W2 → i < (rangeD lo n).length → Y i H2 x H3 → ∃ W3 d, Ext H2 W2 H3 W3 ∧ (rangeD lo n)[i]? = some d ∧ RepD K W3 d x) → R J H') : R (Itr lo n) H1 := by
  refine q _ H1 W1 _ _ R1 s1 (by rw [rangeD_len]; exact walk_range) (fun _ _ _ _ _ _ => trivial) ?_
  rintro i H2 W2 x H3 s2 s3 hi ⟨rfl, hx⟩
  rw [rangeD_len] at hi
  exact ⟨W2, _, Ext.refl s2, rangeD_get hi, by simp only [RepD]; exact hx⟩
theorem sndi_rng1 {ta : TA} {ms : RE → Out (List D × RE)} (h : SndA K E ta ms) : SndI K E (iRng1 ta) (fun r => (ms r).bnd fun p => match drs p.2.st p.1 with
  | some [.int j] => if -1000000 ≤ j ∧ j ≤ 1000000 then .ok (rangeD 0 j.toNat, p.2) else .stuck
  | _ => .stuck) := fun c σ H W r R R0 w => by
  refine h c σ H W r _ R0 ((Wp.bnd w).mono (fun p q vs H1 W1 R1 s1 h1 => ?_) fun _ _ x => x)
  split at q
  · rename_i j e
    split at q
    · rename_i hj
      have ht := h1.at R1 e
      cases ht with
      | cons h2 h3 =>
        cases h3
        simp only [RepT, RepD] at h2
        exact ⟨j, by rw [h2], by omega, by omega, walked_range R1 s1 q⟩
    · exact q.elim
  · exact q.elim
theorem sndi_rng2 {ta : TA} {ms : RE → Out (List D × RE)} (h : SndA K E ta ms) : SndI K E (iRng2 ta) (fun r => (ms r).bnd fun p => match drs p.2.st p.1 with
  | some [.int i, .int j] => if -1000000 ≤ i ∧ i ≤ 1000000 ∧ -1000000 ≤ j ∧ j ≤ 1000000 then .ok (rangeD i (j - i).toNat, p.2) else .stuck
  | _ => .stuck) := fun c σ H W r R R0 w => by
  refine h c σ H W r _ R0 ((Wp.bnd w).mono (fun p q vs H1 W1 R1 s1 h1 => ?_) fun _ _ x => x)
  split at q
  · rename_i i j e
    split at q
    · rename_i hj
      have ht := h1.at R1 e
      cases ht with
      | cons h2 h3 =>
        cases h3 with
        | cons h4 h5 =>
          cases h5
          simp only [RepT, RepD] at h2 h4
          exact ⟨i, j, by rw [h2, h4], ⟨by omega, by omega, by omega, by omega⟩, walked_range R1 s1 q⟩
    · exact q.elim
  · exact q.elim
end
end Mir

set_option maxHeartbeats 4000000
namespace Mir
open PySem PySem.Spec PyProof.Rows L2

/-! ## defs -/
abbrev fm0 (H : Hp) (W : Wd) : Fm := ⟨H, W, []⟩
abbrev Fn := List D → Sto → Out (D × Sto)
/-- the heap part of the relation alone -/
abbrev R0 (K : PySem.W.Frag) (c : Fm) (H : Hp) (W : Wd) (st : Sto) : Prop := RR K c [] H W ⟨[], st⟩
def PostP (K : PySem.W.Frag) (H : Hp) (W : Wd) (Q : VK) (p : D × Sto) : Prop := ∀ v H' W', R0 K (fm0 H W) H' W' p.2 → RepD K W' p.1 v → Q v H'
/-- the promise: n arguments; the answer is m's -/
def spP (K : PySem.W.Frag) (n : Nat) (m : Fn) : Sp := fun vs H Q E => vs.length = n ∧ ∃ ds st W, R0 K (fm0 H W) H W st ∧ RepL K W ds vs ∧ Wp (m ds st) (PostP K H W Q) (XP K (fm0 H W) E)
@[simp] def startR (N : Nat) (ds : List D) (st : Sto) : RE := ⟨ds.map some ++ List.replicate (N - ds.length) none, st⟩
@[simp] def runB (mb : RE → Out Fl) (r : RE) : Out (D × Sto) := (mb r).bnd fun f => match f with
  | .nx r' => .ok (.non, r'.st)
  | .rt d r' => .ok (d, r'.st)
  | _ => .stuck
section
variable {K : PySem.W.Frag} {c : Fm} {σ : L2.St} {H H' : Hp} {W W' : Wd} {r : RE} {st st' : Sto}
theorem RR.zero (R : RR K c σ H W r) : R0 K c H W r.st := R.slots rfl (fun i d e => by simp at e)
/-- at a call -/
theorem RR.entry (R : RR K c σ H W r) : R0 K (fm0 H W) H W r.st :=
  ⟨R.gh, Le.refl W, fun a u e => .inl (by show W.g a ≠ none; rw [e]; simp), fun a u e => ⟨fun _ => ⟨⟨u, e, rfl⟩, fun _ => e⟩, fun _ _ _ => e⟩, fun a ha => R.there ha, rfl, fun i d e => by simp at e, R.cl, R.ce, fun a ha => ⟨(R.cg a ha).1, .inl ha⟩, R.cn, fun p z => absurd z (by simp)⟩
theorem RR.call (R : RR K c σ H W r) (a : R0 K (fm0 H W) H' W' st') : RR K c σ H' W' ⟨r.s, st'⟩ where
  gh := a.gh
  g0 := R.g0.trans a.g0
  gr := fun b u h => by
    rcases a.gr b u h with h1 | h1
    · cases e : W.g b with
      | none => exact absurd e h1
      | some u1 => exact R.gr b u1 e
    · exact .inr (R.heNone h1)
  ke := fun b u h => by
    obtain ⟨k0, k2⟩ := R.ke b u h
    refine ⟨fun hb => ?_, fun o v z => (a.ke b u (k2 o v z)).2 o v z⟩
    obtain ⟨⟨u', e', q⟩, k⟩ := k0 hb
    have hn : b ∉ W.b := fun z => by
      rcases (R.cg b z).2 with y | y
      · exact hb y
      · rw [h] at y; cases y
    obtain ⟨⟨u2, e2, q2⟩, k3⟩ := (a.ke b u' e').1 hn
    refine ⟨⟨u2, e2, q2.trans q⟩, fun z => ?_⟩
    have h1 := k z
    rw [h1] at e'; cases e'
    refine k3 ?_
    show W.g b = none
    cases e : W.g b with
    | none => rfl
    | some v =>
      rcases R.gr b v e with y | y
      · exact absurd z y
      · rw [h] at y; cases y
  xk := fun b hb => by
    obtain ⟨i, hi⟩ := List.mem_iff_getElem?.mp hb
    exact a.xk b (List.mem_iff_getElem?.mpr ⟨i, R.g0.p i b hi⟩)
  len := R.len
  sl := fun i d h => by
    obtain ⟨v, hv, hr⟩ := R.sl i d h
    exact ⟨v, hv, hr.mono a.g0⟩
  cl := a.cl
  ce := a.ce
  cg := fun b hb => by
    obtain ⟨h1, h2⟩ := a.cg b hb
    refine ⟨h1, ?_⟩
    rcases h2 with h2 | h2
    · exact (R.cg b h2).2
    · exact .inr (R.heNone h2)
  cn := a.cn
  lk := fun p hp => (a.ke p.1 _ (R.lk p hp)).2 _ _ rfl
theorem XP.call {E : XK} {x : Exn} (R : RR K c σ H W r) (h : XP K c E x st') : XP K (fm0 H W) E x st' := fun dx H' W' us R' hx rf =>
  h dx H' W' us (RR.call R.zero R') hx rf
theorem rr_start {N : List Str} {ds : List D} {vs : List V} (R : R0 K (fm0 H W) H W st) (h : RepL K W ds vs) : RR K (fm0 H W) (L2.start N vs) H W (startR N.length ds st) := by
  have hl := repL_len h
  refine R.slots (r := ⟨[], st⟩) ?_ fun i d e => ?_
  · unfold L2.start
    rw [List.length_append, List.length_append, List.length_map, List.length_map, List.length_replicate, List.length_replicate, hl]
  · have hi : i < ds.length := by
      by_cases hi : i < ds.length
      · exact hi
      · rw [List.getElem?_append_right (by simpa using hi), List.getElem?_replicate] at e
        split at e <;> cases e
    rw [List.getElem?_append_left (by simpa using hi), List.getElem?_map] at e
    have e' : ds[i]? = some d := by
      cases q : ds[i]? with
      | none => rw [q] at e; cases e
      | some x => rw [q] at e; cases e; rfl
    obtain ⟨v, hv, hd⟩ := repL_get2 h e'
    refine ⟨v, ?_, hd⟩
    unfold L2.start
    rw [List.getElem?_append_left (by rw [List.length_map, ← hl]; exact hi), List.getElem?_map, hv]
    rfl
/-- from a body's mirror to what the promise wants -/
theorem body_post {mb : RE → Out Fl} {Q : VK} {E : XK} (w : Wp (runB mb r) (PostP K H W Q) (XP K (fm0 H W) E)) :
    Wp (mb r) (FlP K (fm0 H W) W { nx := fun _ H' => Q .non H', rt := Q }) (XP K (fm0 H W) E) := by
  refine (Wp.bnd w).mono (fun f q => ?_) fun _ _ x => x
  cases f with
  | nx r' => exact fun σ' H' W' R s => q .non H' W' R.zero (by simp only [RepD])
  | rt d r' => exact fun v σ' H' W' R s h => q v H' W' R.zero h
  | bk r' => exact q.elim
  | ct r' => exact q.elim
end
section
variable {P : Program} {w : World} {K : PySem.W.Frag} {mg : Str → Option Value} {base : Heap}
/-- a def that raises nothing -/
theorem fn_pure {x qual : Str} {st : Stmt} {f : Addr} {fd : FuncData} {N ps : List Str} {k n : Nat} {mb : RE → Out Fl} (F : Fun K x qual st f fd) (S : FnScope N ps (defScope st)) (hn : ps.length = n)
    (hb : ∀ (cdv : Value) (A : Around) (outer : List PySem.Env) (s : Shared) (H : Hp) (E : XK), Room k (A.deeper (envOfC qual (defScope st) s.heap.objs.size f cdv)) →
      BM (cxOf CX0 P w K mg base N qual (defScope st) f cdv A outer s H E).nox E (defBody st) mb) :
    FnOk P w K mg base CX0 (k + 1) f fd ps (spP K n fun ds st => runB mb (startR N.length ds st)) := by
  refine F.ok S (fun vs H Q E h => by rw [h.1, hn]) (fun cdv A outer s H vs Q E hr h => ?_)
  obtain ⟨hl, ds, st, W, R, rep, wp⟩ := h
  obtain ⟨ts, hp, hs⟩ := hb cdv A outer s H E hr
  exact ⟨ts, hp, hs _ _ _ _ _ _ (rr_start R rep) (body_post wp)⟩
/-- a def that may raise -/
theorem fn_pureX {x qual : Str} {st : Stmt} {f : Addr} {fd : FuncData} {N ps : List Str} {k n : Nat} {mb : RE → Out Fl} (F : Fun K x qual st f fd) (S : FnScope N ps (defScope st)) (hn : ps.length = n)
    (hb : ∀ (cdv : Value) (A : Around) (outer : List PySem.Env) (s : Shared) (H : Hp) (E : XK), Room k (A.deeper (envOfC qual (defScope st) s.heap.objs.size f cdv)) →
      BM (cxOf (L2.CX P w) P w K mg base N qual (defScope st) f cdv A outer s H E) E (defBody st) mb) :
    FnOk P w K mg base (L2.CX P w) (k + 1) f fd ps (spP K n fun ds st => runB mb (startR N.length ds st)) := by
  refine F.okX S (fun vs H Q E h => by rw [h.1, hn]) (fun cdv A outer s H vs Q E hr h => ?_)
  obtain ⟨hl, ds, st, W, R, rep, wp⟩ := h
  obtain ⟨ts, hp, hs⟩ := hb cdv A outer s H E hr
  exact ⟨ts, hp, hs _ _ _ _ _ _ (rr_start R rep) (body_post wp)⟩
end

/-! ## calls -/
section
variable {K : PySem.W.Frag} {E : XK} {c : Fm} {σ : L2.St} {H H' : Hp} {W W' : Wd} {r : RE}
/-- f(..), the arguments' values, then the defaults dd -/
@[simp] def mCall (m : Fn) (dd : List D) (ms : RE → Out (List D × RE)) : RE → Out (D × RE) := fun r => (ms r).bnd fun p => (m (p.1 ++ dd) p.2.st).bnd fun q => .ok (q.1, ⟨p.2.s, q.2⟩)
theorem snd_call {ta : TA} {ms : RE → Out (List D × RE)} {n : Nat} {m : Fn} {dd : List D} {dvs : List V} (hn : ∀ ds st, m ds st ≠ .stuck → ds.length = n) (hd : ∀ W, RepL K W dd dvs) (h : SndA K E ta ms) : Snd K E (tCall (spP K n m) dvs E ta) (mCall m dd ms) := fun c σ H W r Q R w => by
  refine h c σ H W r _ R ((Wp.bnd w).mono (fun p q vs H1 W1 R1 s1 h1 => ?_) fun _ _ x => x)
  have rl := repL_app h1 (hd W1)
  refine ⟨?_, p.1 ++ dd, p.2.st, W1, R1.entry, rl, ?_⟩
  · rw [← repL_len rl]
    refine hn _ p.2.st fun z => ?_
    simp only [z] at q; exact q
  · refine (Wp.bnd q).mono (fun d q2 => ?_) fun x st hx => XP.call R1 hx
    exact fun v H' W' a hv => q2 v H' W' (RR.call R1 a) (s1.trans a.g0) hv
end

/-! ## the cut: what a def has made is frozen when it ends -/
mutual
def okC (n : Nat) : D → Bool
  | .cell c => decide (c < n)
  | .tup xs => okCL n xs
  | .lst xs => okCL n xs
  | .frl xs => okCL n xs
  | .dic kvs => okCK n kvs
  | .dct kvs => okCKT n kvs
  | .ins _ fs => okCF n fs
  | .lck d => okC n d
  | _ => true
def okCL (n : Nat) : List D → Bool
  | [] => true
  | d :: ds => okC n d && okCL n ds
def okCK (n : Nat) : List (Key × D) → Bool
  | [] => true
  | (_, d) :: ds => okC n d && okCK n ds
def okCKT (n : Nat) : List (List Key × D) → Bool
  | [] => true
  | (_, d) :: ds => okC n d && okCKT n ds
def okCF (n : Nat) : List (Str × D) → Bool
  | [] => true
  | (_, d) :: ds => okC n d && okCF n ds
end
def mapO {α β : Type} (f : α → Option β) : List α → Option (List β)
  | [] => some []
  | a :: as => match f a, mapO f as with
    | some b, some bs => some (b :: bs)
    | _, _ => none
def mapO2 {κ α β : Type} (f : α → Option β) : List (κ × α) → Option (List (κ × β))
  | [] => some []
  | (k, a) :: as => match f a, mapO2 f as with
    | some b, some bs => some ((k, b) :: bs)
    | _, _ => none
def rsv (st : Sto) (n : Nat) : Nat → D → Option D
  | 0, d => if okC n d = true then some d else none
  | k + 1, d => if okC n d = true then some d else match d with
    | .cell c => match st[c]? with
      | some d => rsv st n k (unlck d)
      | none => none
    | .tup xs => (mapO (rsv st n k) xs).map .tup
    | .lst xs => (mapO (rsv st n k) xs).map .lst
    | .dic kvs => (mapO2 (rsv st n k) kvs).map .dic
    | .dct kvs => (mapO2 (rsv st n k) kvs).map .dct
    | .ins C fs => (mapO2 (rsv st n k) fs).map (.ins C)
    | _ => none
open Classical in
noncomputable def cutSt (n : Nat) : Sto → Sto → Option Sto
  | [], _ => some []
  | _ :: _, [] => none
  | d :: ds, e :: es => if e = d ∨ okC n e = true then (cutSt n ds es).map (e :: ·) else none
noncomputable def cutR (st : Sto) (p : D × Sto) : Out (D × Sto) := match cutSt st.length st p.2, rsv p.2 st.length 20 p.1 with
  | some s, some d => .ok (d, s)
  | _, _ => .stuck
noncomputable def cutF (m : Fn) : Fn := fun ds st => match m ds st with
  | .ok p => cutR st p
  | .exc x st' => match cutSt st.length st st', mapO2 (rsv st' st.length 20) x.fs with
    | some s, some fs => .exc ⟨x.cls, fs⟩ s
    | _, _ => .stuck
  | .stuck => .stuck
section
variable {K : PySem.W.Frag}
mutual
theorem RepD.okC {W : Wd} : ∀ {d : D} {v : V}, RepD K W d v → okC W.b.length d = true
  | .non, _, _ => rfl
  | .bl _, _, _ => rfl
  | .int _, _, _ => rfl
  | .str _, _, _ => rfl
  | .ty _, _, _ => rfl
  | .cell c, v, h => by
    simp only [RepD] at h
    obtain ⟨a, e, _⟩ := h
    simp only [Mir.okC, decide_eq_true_eq]
    exact (List.getElem?_eq_some_iff.mp e).1
  | .lck _, v, h => by simp only [RepD] at h
  | .tup ds, v, h => by simp only [RepD] at h; obtain ⟨a, vs, _, _, r⟩ := h; simp only [Mir.okC]; exact RepL.okC r
  | .lst ds, v, h => by simp only [RepD] at h; obtain ⟨a, vs, _, _, r⟩ := h; simp only [Mir.okC]; exact RepL.okC r
  | .frl ds, v, h => by simp only [RepD] at h; obtain ⟨a, vs, _, _, r⟩ := h; simp only [Mir.okC]; exact RepL.okC r
  | .dic ds, v, h => by simp only [RepD] at h; obtain ⟨a, vs, _, _, r⟩ := h; simp only [Mir.okC]; exact RepK.okC r
  | .dct ds, v, h => by simp only [RepD] at h; obtain ⟨a, vs, _, _, r⟩ := h; simp only [Mir.okC]; exact RepKT.okC r
  | .ins _ ds, v, h => by simp only [RepD] at h; obtain ⟨a, _, vs, _, _, r⟩ := h; simp only [Mir.okC]; exact RepF.okC r
theorem RepL.okC {W : Wd} : ∀ {d : List D} {v : List V}, RepL K W d v → okCL W.b.length d = true
  | [], _, _ => rfl
  | d :: ds, v, h => by
    simp only [RepL] at h
    obtain ⟨x, us, _, q, r⟩ := h
    simp only [Mir.okCL, Bool.and_eq_true]
    exact ⟨RepD.okC q, RepL.okC r⟩
theorem RepK.okC {W : Wd} : ∀ {d : List (Key × D)} {v : List (Key × V)}, RepK K W d v → okCK W.b.length d = true
  | [], _, _ => rfl
  | (k, d) :: ds, v, h => by
    simp only [RepK] at h
    obtain ⟨x, us, _, q, r⟩ := h
    simp only [Mir.okCK, Bool.and_eq_true]
    exact ⟨RepD.okC q, RepK.okC r⟩
theorem RepKT.okC {W : Wd} : ∀ {d : List (List Key × D)} {v : List (List Key × V)}, RepKT K W d v → okCKT W.b.length d = true
  | [], _, _ => rfl
  | (k, d) :: ds, v, h => by
    simp only [RepKT] at h
    obtain ⟨x, us, _, q, r⟩ := h
    simp only [Mir.okCKT, Bool.and_eq_true]
    exact ⟨RepD.okC q, RepKT.okC r⟩
theorem RepF.okC {W : Wd} : ∀ {d : List (Str × D)} {v : List (Str × V)}, RepF K W d v → okCF W.b.length d = true
  | [], _, _ => rfl
  | (k, d) :: ds, v, h => by
    simp only [RepF] at h
    obtain ⟨x, us, _, q, r⟩ := h
    simp only [Mir.okCF, Bool.and_eq_true]
    exact ⟨RepD.okC q, RepF.okC r⟩
end
mutual
theorem RepD.chb {g : Hp} {b b' : List Addr} {n : Nat} (hb : ∀ c, c < n → b[c]? = b'[c]?) : ∀ {d : D} {v : V}, Mir.okC n d = true → RepD K ⟨g, b⟩ d v → RepD K ⟨g, b'⟩ d v
  | .non, _, _, h => by simpa only [RepD] using h
  | .bl _, _, _, h => by simpa only [RepD] using h
  | .int _, _, _, h => by simpa only [RepD] using h
  | .str _, _, _, h => by simpa only [RepD] using h
  | .ty _, _, _, h => by simpa only [RepD] using h
  | .cell c, v, o, h => by
    simp only [RepD] at h ⊢
    obtain ⟨a, e, q⟩ := h
    simp only [Mir.okC, decide_eq_true_eq] at o
    exact ⟨a, (hb c o) ▸ e, q⟩
  | .lck _, v, _, h => by simp only [RepD] at h
  | .tup ds, v, o, h => by simp only [RepD] at h ⊢; obtain ⟨a, vs, e, q, r⟩ := h; exact ⟨a, vs, e, q, RepL.chb hb (by simpa only [Mir.okC] using o) r⟩
  | .lst ds, v, o, h => by simp only [RepD] at h ⊢; obtain ⟨a, vs, e, q, r⟩ := h; exact ⟨a, vs, e, q, RepL.chb hb (by simpa only [Mir.okC] using o) r⟩
  | .frl ds, v, o, h => by simp only [RepD] at h ⊢; obtain ⟨a, vs, e, q, r⟩ := h; exact ⟨a, vs, e, q, RepL.chb hb (by simpa only [Mir.okC] using o) r⟩
  | .dic ds, v, o, h => by simp only [RepD] at h ⊢; obtain ⟨a, vs, e, q, r⟩ := h; exact ⟨a, vs, e, q, RepK.chb hb (by simpa only [Mir.okC] using o) r⟩
  | .dct ds, v, o, h => by simp only [RepD] at h ⊢; obtain ⟨a, vs, e, q, r⟩ := h; exact ⟨a, vs, e, q, RepKT.chb hb (by simpa only [Mir.okC] using o) r⟩
  | .ins _ ds, v, o, h => by simp only [RepD] at h ⊢; obtain ⟨a, dx, vs, e, q, r⟩ := h; exact ⟨a, dx, vs, e, q, RepF.chb hb (by simpa only [Mir.okC] using o) r⟩
theorem RepL.chb {g : Hp} {b b' : List Addr} {n : Nat} (hb : ∀ c, c < n → b[c]? = b'[c]?) : ∀ {d : List D} {v : List V}, okCL n d = true → RepL K ⟨g, b⟩ d v → RepL K ⟨g, b'⟩ d v
  | [], _, _, h => by simpa only [RepL] using h
  | d :: ds, v, o, h => by
    simp only [RepL] at h ⊢
    simp only [okCL, Bool.and_eq_true] at o
    obtain ⟨x, us, e, q, r⟩ := h
    exact ⟨x, us, e, RepD.chb hb o.1 q, RepL.chb hb o.2 r⟩
theorem RepK.chb {g : Hp} {b b' : List Addr} {n : Nat} (hb : ∀ c, c < n → b[c]? = b'[c]?) : ∀ {d : List (Key × D)} {v : List (Key × V)}, okCK n d = true → RepK K ⟨g, b⟩ d v → RepK K ⟨g, b'⟩ d v
  | [], _, _, h => by simpa only [RepK] using h
  | (k, d) :: ds, v, o, h => by
    simp only [RepK] at h ⊢
    simp only [okCK, Bool.and_eq_true] at o
    obtain ⟨x, us, e, q, r⟩ := h
    exact ⟨x, us, e, RepD.chb hb o.1 q, RepK.chb hb o.2 r⟩
theorem RepKT.chb {g : Hp} {b b' : List Addr} {n : Nat} (hb : ∀ c, c < n → b[c]? = b'[c]?) : ∀ {d : List (List Key × D)} {v : List (List Key × V)}, okCKT n d = true → RepKT K ⟨g, b⟩ d v → RepKT K ⟨g, b'⟩ d v
  | [], _, _, h => by simpa only [RepKT] using h
  | (k, d) :: ds, v, o, h => by
    simp only [RepKT] at h ⊢
    simp only [okCKT, Bool.and_eq_true] at o
    obtain ⟨x, us, e, q, r⟩ := h
    exact ⟨x, us, e, RepD.chb hb o.1 q, RepKT.chb hb o.2 r⟩
theorem RepF.chb {g : Hp} {b b' : List Addr} {n : Nat} (hb : ∀ c, c < n → b[c]? = b'[c]?) : ∀ {d : List (Str × D)} {v : List (Str × V)}, okCF n d = true → RepF K ⟨g, b⟩ d v → RepF K ⟨g, b'⟩ d v
  | [], _, _, h => by simpa only [RepF] using h
  | (k, d) :: ds, v, o, h => by
    simp only [RepF] at h ⊢
    simp only [okCF, Bool.and_eq_true] at o
    obtain ⟨x, us, e, q, r⟩ := h
    exact ⟨x, us, e, RepD.chb hb o.1 q, RepF.chb hb o.2 r⟩
end
end
end Mir

set_option maxHeartbeats 4000000
namespace Mir
open PySem PySem.Spec PyProof.Rows L2
section
variable {K : PySem.W.Frag} {c : Fm} {H H' : Hp} {W W' : Wd} {st st' s4 : Sto}
theorem Own.okC {d : D} {v : V} (h : Own K H W d v) : okC W.b.length d = true := by
  unfold Own at h
  split at h
  · obtain ⟨b, us, e, q, r⟩ := h; simp only [Mir.okC]; exact r.okC
  · obtain ⟨b, us, e, q, r⟩ := h; simp only [Mir.okC]; exact r.okC
  · obtain ⟨b, us, e, q, r⟩ := h; simp only [Mir.okC]; exact r.okC
  · obtain ⟨b, dx, us, e, q, r⟩ := h; simp only [Mir.okC]; exact r.okC
  · obtain ⟨b, us, o, e, q, r⟩ := h; simp only [Mir.okC]; exact r.okC
  · obtain ⟨b, us, o, e, q, r⟩ := h; simp only [Mir.okC]; exact r.okC
  · obtain ⟨b, us, o, e, q, r⟩ := h; simp only [Mir.okC]; exact r.okC
  · exact h.elim
theorem Own.chb {g : Hp} {b b' : List Addr} {n : Nat} (hb : ∀ c, c < n → b[c]? = b'[c]?) {d : D} {v : V} (o : Mir.okC n d = true) (h : Own K H ⟨g, b⟩ d v) : Own K H ⟨g, b'⟩ d v := by
  unfold Own at h ⊢
  split at h
  · simp only [Mir.okC] at o; obtain ⟨b, us, e, q, r⟩ := h; exact ⟨b, us, e, q, r.chb hb o⟩
  · simp only [Mir.okC] at o; obtain ⟨b, us, e, q, r⟩ := h; exact ⟨b, us, e, q, r.chb hb o⟩
  · simp only [Mir.okC] at o; obtain ⟨b, us, e, q, r⟩ := h; exact ⟨b, us, e, q, r.chb hb o⟩
  · simp only [Mir.okC] at o; obtain ⟨b, dx, us, e, q, r⟩ := h; exact ⟨b, dx, us, e, q, r.chb hb o⟩
  · simp only [Mir.okC] at o; obtain ⟨b, us, oo, e, q, r⟩ := h; exact ⟨b, us, oo, e, q, r.chb hb o⟩
  · simp only [Mir.okC] at o; obtain ⟨b, us, oo, e, q, r⟩ := h; exact ⟨b, us, oo, e, q, r.chb hb o⟩
  · simp only [Mir.okC] at o; obtain ⟨b, us, oo, e, q, r⟩ := h; exact ⟨b, us, oo, e, q, r.chb hb o⟩
  · exact h.elim
theorem cutSt_some {n : Nat} : ∀ {st st' s4 : Sto}, cutSt n st st' = some s4 → s4 = st'.take st.length ∧ st.length ≤ st'.length ∧ ∀ (i : Nat) (e : D), s4[i]? = some e → st[i]? = some e ∨ okC n e = true
  | [], st', s4, h => by
    unfold cutSt at h; cases h
    exact ⟨by simp, by simp, fun i e q => by simp at q⟩
  | d :: ds, [], s4, h => by unfold cutSt at h; cases h
  | d :: ds, e :: es, s4, h => by
    unfold cutSt at h
    split at h
    · rename_i hc
      cases q : cutSt n ds es with
      | none => rw [q] at h; cases h
      | some s5 =>
        rw [q] at h; cases h
        obtain ⟨h1, h2, h3⟩ := cutSt_some q
        refine ⟨by rw [h1]; simp, by simp; omega, fun i x hx => ?_⟩
        cases i with
        | zero =>
          simp at hx; subst hx
          rcases hc with hc | hc
          · exact .inl (by rw [hc]; rfl)
          · exact .inr hc
        | succ i => exact h3 i x (by simpa using hx)
    · cases h
/-- what was made is frozen -/
theorem cut_rr (R0' : R0 K (fm0 H W) H W st) (R : R0 K (fm0 H W) H' W' st') (hc : cutSt st.length st st' = some s4) :
    ∃ W4, R0 K (fm0 H W) H' W4 s4 ∧ (∀ k d d' v, RepD K W' d v → rsv st' st.length k d = some d' → RepD K W4 d' v) := by
  classical
  have hn : W.b.length = st.length := R0'.cl
  have hcl : W'.b.length = st'.length := R.cl
  obtain ⟨e4, hle, hok⟩ := cutSt_some hc
  let n := st.length
  let g3 : Hp := fun a => if a ∈ W'.b.drop n then H' a else W'.g a
  let W3 : Wd := ⟨g3, W'.b⟩
  let W4 : Wd := ⟨g3, W'.b.take n⟩
  have gB : ∀ a, a ∈ W'.b.drop n → g3 a = H' a := fun a h => if_pos h
  have gN : ∀ a, a ∉ W'.b.drop n → g3 a = W'.g a := fun a h => if_neg h
  have dB : ∀ a, a ∈ W'.b.drop n → a ∈ W'.b := fun a h => List.mem_of_mem_drop h
  have sub3 : Sub W'.g g3 := fun a u h => by
    have : a ∉ W'.b.drop n := fun z => by rw [(R.cg a (dB a z)).1] at h; cases h
    exact ⟨u, by rw [gN a this]; exact h, rfl⟩
  have le3 : Le W' W3 := ⟨sub3, fun _ _ e => e⟩
  have hb : ∀ c, c < n → W'.b[c]? = (W'.b.take n)[c]? := fun c h => by rw [List.getElem?_take, if_pos h]
  have nodr : ∀ a (i : Nat), W'.b[i]? = some a → i < n → a ∉ W'.b.drop n := fun a i h hi z => by
    obtain ⟨j, hj⟩ := List.mem_iff_getElem?.mp z
    rw [List.getElem?_drop] at hj
    have q1 := List.getElem?_eq_some_iff.mp h
    have q2 := List.getElem?_eq_some_iff.mp hj
    have := (List.getElem_inj R.cn).mp (q1.2.trans q2.2.symm)
    omega
  refine ⟨W4, ⟨fun a u h => ?_, ⟨R.g0.s.trans sub3, fun c a e => ?_⟩, fun a u h => ?_, R.ke, R.xk, rfl, fun i d e => by simp at e, ?_, fun i e a h1 h2 => ?_, fun a ha => ?_, R.cn.sublist (List.take_sublist _ _), fun p z => absurd z (by simp)⟩, ?_⟩
  · by_cases z : a ∈ W'.b.drop n
    · have h' : g3 a = some u := h
      rw [gB a z] at h'; exact ⟨u, h', rfl⟩
    · have h' : g3 a = some u := h
      rw [gN a z] at h'; exact R.gh a u h'
  · have h1 := R.g0.p c a e
    show (W'.b.take n)[c]? = some a
    rw [← hb c (by have := (List.getElem?_eq_some_iff.mp e).1; show c < st.length; rw [← hn]; exact this)]
    exact h1
  · by_cases z : a ∈ W'.b.drop n
    · rcases (R.cg a (dB a z)).2 with y | y
      · exfalso
        obtain ⟨i, hi⟩ := List.mem_iff_getElem?.mp y
        have hi' : W.b[i]? = some a := hi
        exact nodr a i (R.g0.p i a hi') (by have := (List.getElem?_eq_some_iff.mp hi').1; show i < st.length; rw [← hn]; exact this) z
      · exact .inr y
    · have h' : g3 a = some u := h
      rw [gN a z] at h'; exact R.gr a u h'
  · show (W'.b.take n).length = s4.length
    rw [e4, List.length_take, List.length_take, hcl]
  · have h2' : (W'.b.take n)[i]? = some a := h2
    have h1' : s4[i]? = some e := h1
    have hi : i < n := by
      have := (List.getElem?_eq_some_iff.mp h2').1
      rw [List.length_take] at this
      omega
    rw [← hb i hi] at h2'
    have h3 : st'[i]? = some e := by
      rw [e4, List.getElem?_take, if_pos hi] at h1'
      exact h1'
    have ho : okC n e = true := by
      rcases hok i e h1' with z | z
      · obtain ⟨a0, _, q⟩ := R0'.cell z
        have := q.okC
        rw [hn] at this
        exact this
      · exact z
    exact Own.chb hb ho ((R.ce i e a h3 h2').mono le3 (fun _ z => z))
  · have ha' : a ∈ W'.b.take n := ha
    obtain ⟨i, hi⟩ := List.mem_iff_getElem?.mp ha'
    have hlt : i < n := by
      have := (List.getElem?_eq_some_iff.mp hi).1
      rw [List.length_take] at this
      omega
    rw [← hb i hlt] at hi
    have hm : a ∈ W'.b := List.mem_iff_getElem?.mpr ⟨i, hi⟩
    refine ⟨?_, (R.cg a hm).2⟩
    show g3 a = none
    rw [gN a (nodr a i hi hlt)]
    exact (R.cg a hm).1
  · have main : ∀ k d d' v, RepD K W3 d v → rsv st' n k d = some d' → RepD K W4 d' v := by
      intro k
      induction k with
      | zero =>
        intro d d' v h e
        unfold rsv at e
        split at e
        · rename_i ho; cases e
          exact RepD.chb hb ho h
        · cases e
      | succ k ih =>
        have lL : ∀ {xs xs' : List D} {vs : List V}, RepL K W3 xs vs → mapO (rsv st' n k) xs = some xs' → RepL K W4 xs' vs := by
          intro xs
          induction xs with
          | nil => intro xs' vs h e; unfold mapO at e; cases e; simpa only [RepL] using h
          | cons x xs ihx =>
            intro xs' vs h e
            simp only [RepL] at h
            obtain ⟨v, us, ev, h1, h2⟩ := h
            unfold mapO at e
            cases q1 : rsv st' n k x with
            | none => rw [q1] at e; cases e
            | some x' =>
              cases q2 : mapO (rsv st' n k) xs with
              | none => rw [q1, q2] at e; cases e
              | some ys =>
                rw [q1, q2] at e; cases e
                simp only [RepL]
                exact ⟨v, us, ev, ih x x' v h1 q1, ihx h2 q2⟩
        have lK : ∀ {xs xs' : List (Key × D)} {vs : List (Key × V)}, RepK K W3 xs vs → mapO2 (rsv st' n k) xs = some xs' → RepK K W4 xs' vs := by
          intro xs
          induction xs with
          | nil => intro xs' vs h e; unfold mapO2 at e; cases e; simpa only [RepK] using h
          | cons x xs ihx =>
            obtain ⟨ky, x⟩ := x
            intro xs' vs h e
            simp only [RepK] at h
            obtain ⟨v, us, ev, h1, h2⟩ := h
            unfold mapO2 at e
            cases q1 : rsv st' n k x with
            | none => rw [q1] at e; cases e
            | some x' =>
              cases q2 : mapO2 (rsv st' n k) xs with
              | none => rw [q1, q2] at e; cases e
              | some ys =>
                rw [q1, q2] at e; cases e
                simp only [RepK]
                exact ⟨v, us, ev, ih x x' v h1 q1, ihx h2 q2⟩
        have lT : ∀ {xs xs' : List (List Key × D)} {vs : List (List Key × V)}, RepKT K W3 xs vs → mapO2 (rsv st' n k) xs = some xs' → RepKT K W4 xs' vs := by
          intro xs
          induction xs with
          | nil => intro xs' vs h e; unfold mapO2 at e; cases e; simpa only [RepKT] using h
          | cons x xs ihx =>
            obtain ⟨ky, x⟩ := x
            intro xs' vs h e
            simp only [RepKT] at h
            obtain ⟨v, us, ev, h1, h2⟩ := h
            unfold mapO2 at e
            cases q1 : rsv st' n k x with
            | none => rw [q1] at e; cases e
            | some x' =>
              cases q2 : mapO2 (rsv st' n k) xs with
              | none => rw [q1, q2] at e; cases e
              | some ys =>
                rw [q1, q2] at e; cases e
                simp only [RepKT]
                exact ⟨v, us, ev, ih x x' v h1 q1, ihx h2 q2⟩
        have lF : ∀ {xs xs' : List (Str × D)} {vs : List (Str × V)}, RepF K W3 xs vs → mapO2 (rsv st' n k) xs = some xs' → RepF K W4 xs' vs := by
          intro xs
          induction xs with
          | nil => intro xs' vs h e; unfold mapO2 at e; cases e; simpa only [RepF] using h
          | cons x xs ihx =>
            obtain ⟨ky, x⟩ := x
            intro xs' vs h e
            simp only [RepF] at h
            obtain ⟨v, us, ev, h1, h2⟩ := h
            unfold mapO2 at e
            cases q1 : rsv st' n k x with
            | none => rw [q1] at e; cases e
            | some x' =>
              cases q2 : mapO2 (rsv st' n k) xs with
              | none => rw [q1, q2] at e; cases e
              | some ys =>
                rw [q1, q2] at e; cases e
                simp only [RepF]
                exact ⟨v, us, ev, ih x x' v h1 q1, ihx h2 q2⟩
        intro d d' v h e
        unfold rsv at e
        split at e
        · rename_i ho; cases e
          exact RepD.chb hb ho h
        · rename_i ho
          cases d with
          | cell i =>
            simp only [RepD] at h
            obtain ⟨a, ha, rfl⟩ := h
            have ha' : W'.b[i]? = some a := ha
            have hi : ¬ i < n := fun z => ho (by simp only [Mir.okC, decide_eq_true_eq]; exact z)
            have hl : i < st'.length := by rw [← hcl]; exact (List.getElem?_eq_some_iff.mp ha').1
            simp only [List.getElem?_eq_getElem hl] at e
            have hown := R.ce i _ a (List.getElem?_eq_getElem hl) ha'
            obtain ⟨b, u, eb, hu⟩ := hown.ref
            cases eb
            have hdrop : a ∈ W'.b.drop n := by
              refine List.mem_iff_getElem?.mpr ⟨i - n, ?_⟩
              rw [List.getElem?_drop, show n + (i - n) = i by omega]; exact ha'
            exact ih _ _ _ (hown.at le3 hu (show g3 a = some u by rw [gB a hdrop]; exact hu)) e
          | tup xs =>
            simp only [RepD] at h
            obtain ⟨a, vs, ev, q, rl⟩ := h
            simp only at e
            cases q1 : mapO (rsv st' n k) xs with
            | none => rw [q1] at e; cases e
            | some ys => rw [q1] at e; cases e; simp only [RepD]; exact ⟨a, vs, ev, q, lL rl q1⟩
          | lst xs =>
            simp only [RepD] at h
            obtain ⟨a, vs, ev, q, rl⟩ := h
            simp only at e
            cases q1 : mapO (rsv st' n k) xs with
            | none => rw [q1] at e; cases e
            | some ys => rw [q1] at e; cases e; simp only [RepD]; exact ⟨a, vs, ev, q, lL rl q1⟩
          | dic xs =>
            simp only [RepD] at h
            obtain ⟨a, vs, ev, q, rl⟩ := h
            simp only at e
            cases q1 : mapO2 (rsv st' n k) xs with
            | none => rw [q1] at e; cases e
            | some ys => rw [q1] at e; cases e; simp only [RepD]; exact ⟨a, vs, ev, q, lK rl q1⟩
          | dct xs =>
            simp only [RepD] at h
            obtain ⟨a, vs, ev, q, rl⟩ := h
            simp only at e
            cases q1 : mapO2 (rsv st' n k) xs with
            | none => rw [q1] at e; cases e
            | some ys => rw [q1] at e; cases e; simp only [RepD]; exact ⟨a, vs, ev, q, lT rl q1⟩
          | ins C xs =>
            simp only [RepD] at h
            obtain ⟨a, dx, vs, ev, q, rl⟩ := h
            simp only at e
            cases q1 : mapO2 (rsv st' n k) xs with
            | none => rw [q1] at e; cases e
            | some ys => rw [q1] at e; cases e; simp only [RepD]; exact ⟨a, dx, vs, ev, q, lF rl q1⟩
          | _ => cases e
    exact fun k d d' v h e => main k d d' v (h.mono le3) e
theorem repF_rsv {W4 : Wd} {st' : Sto} {n k : Nat} (h : ∀ d d' v, RepD K W' d v → rsv st' n k d = some d' → RepD K W4 d' v) : ∀ {xs xs' : List (Str × D)} {vs : List (Str × V)}, RepF K W' xs vs → mapO2 (rsv st' n k) xs = some xs' → RepF K W4 xs' vs
  | [], xs', vs, r, e => by unfold mapO2 at e; cases e; simpa only [RepF] using r
  | (ky, x) :: xs, xs', vs, r, e => by
    simp only [RepF] at r
    obtain ⟨v, us, ev, h1, h2⟩ := r
    unfold mapO2 at e
    cases q1 : rsv st' n k x with
    | none => rw [q1] at e; cases e
    | some x' =>
      cases q2 : mapO2 (rsv st' n k) xs with
      | none => rw [q1, q2] at e; cases e
      | some ys =>
        rw [q1, q2] at e; cases e
        simp only [RepF]
        exact ⟨v, us, ev, h _ _ _ h1 q1, repF_rsv h h2 q2⟩
/-- a promise, cut -/
theorem sp_cut {n : Nat} {m : Fn} {vs : List V} {Q : VK} {E : XK} (h : spP K n (cutF m) vs H Q E) : spP K n m vs H Q E := by
  obtain ⟨hl, ds, st, W, R, rep, w⟩ := h
  refine ⟨hl, ds, st, W, R, rep, ?_⟩
  unfold cutF at w
  cases e : m ds st with
  | ok p =>
    rw [e] at w
    intro v H' W' R' rv
    simp only [cutR] at w
    split at w
    · rename_i s4 d4 h1 h2
      obtain ⟨W4, R4, hr⟩ := cut_rr R R' h1
      exact w v H' W4 R4 (hr _ _ _ _ rv h2)
    · exact w.elim
  | exc x st' =>
    rw [e] at w
    intro dx H' W' us R' hx rf
    simp only at w
    split at w
    · rename_i s4 fs h1 h2
      obtain ⟨W4, R4, hr⟩ := cut_rr R R' h1
      exact w dx H' W4 us R4 hx (repF_rsv (fun d d' v => hr _ d d' v) rf h2)
    · exact w.elim
  | stuck => rw [e] at w; exact w
end
/-! plain facts of the cut -/
@[simp] theorem rsv_ok {st : Sto} {n k : Nat} {d : D} (h : okC n d = true) : rsv st n k d = some d := by
  cases k <;> (unfold rsv; rw [if_pos h])
theorem rsv_cell {st : Sto} {n k c : Nat} {d : D} (h : ¬ c < n) (e : st[c]? = some d) : rsv st n (k + 1) (.cell c) = rsv st n k (unlck d) := by
  have : ¬ okC n (.cell c) = true := by simp only [okC, decide_eq_true_eq]; exact h
  rw [rsv, if_neg this]
  simp only [e]
theorem cutSt_app {n : Nat} : ∀ (st j : Sto), cutSt n st (st ++ j) = some st
  | [], j => rfl
  | d :: ds, j => by
    show cutSt n (d :: ds) (d :: (ds ++ j)) = _
    unfold cutSt
    rw [if_pos (.inl rfl), cutSt_app ds j]; rfl
theorem cutSt_set {n : Nat} {d : D} (h : okC n d = true) : ∀ (st j : Sto) (i : Nat), cutSt n st (st.set i d ++ j) = some (st.set i d)
  | [], j, i => rfl
  | x :: xs, j, 0 => by
    show cutSt n (x :: xs) (d :: (xs ++ j)) = some (d :: xs)
    unfold cutSt
    rw [if_pos (.inr h), cutSt_app xs j]; rfl
  | x :: xs, j, i + 1 => by
    show cutSt n (x :: xs) (x :: (xs.set i d ++ j)) = some (x :: xs.set i d)
    unfold cutSt
    rw [if_pos (.inl rfl), cutSt_set h xs j i]; rfl
end Mir

set_option maxHeartbeats 4000000
namespace Mir
open PySem PySem.Spec PyProof.Rows L2

/-! ## operations on data -/
@[simp] def dAdd : D → D → Out D
  | .int i, .int j => .ok (.int (i + j))
  | .str a, .str b => if a.length + b.length ≤ 1000000 then .ok (.str (a ++ b)) else .stuck
  | .lst a, .lst b => if a.length + b.length ≤ 1000000 then .ok (.lst (a ++ b)) else .stuck
  | .tup a, .tup b => if a.length + b.length ≤ 1000000 then .ok (.tup (a ++ b)) else .stuck
  | _, _ => .stuck
@[simp] def dSub : D → D → Out D
  | .int i, .int j => .ok (.int (i - j))
  | _, _ => .stuck
@[simp] def dMul : D → D → Out D
  | .int i, .int j => if (-10000000000000000000 < i ∧ i < 10000000000000000000) ∨ (-10000000000000000000 < j ∧ j < 10000000000000000000) then .ok (.int (i * j)) else .stuck
  | .lst a, .int k => if -1000000 ≤ k ∧ k ≤ 1000000 ∧ a.length * k.toNat ≤ 1000000 then .ok (.lst (List.replicate k.toNat a).flatten) else .stuck
  | _, _ => .stuck
@[simp] def dMod : D → D → Out D
  | .int i, .int j => if 0 < j then .ok (.int (i % j)) else .stuck
  | _, _ => .stuck
@[simp] def dDiv : D → D → Out D
  | .int i, .int j => if 0 < j ∧ j < 1073741824 then .ok (.int (i / j)) else .stuck
  | _, _ => .stuck
@[simp] def dPow : D → D → Out D
  | .int i, .int j => if 0 ≤ j ∧ j ≤ 1000000 ∧ i.natAbs < 10000000000000000000 then .ok (.int (i ^ j.toNat)) else .stuck
  | _, _ => .stuck
@[simp] def dLt : D → D → Out D
  | .int i, .int j => .ok (.bl (decide (i < j)))
  | .str a, .str b => .ok (.bl (decide (a.cps.toList < b.cps.toList)))
  | _, _ => .stuck
@[simp] def dLe : D → D → Out D
  | .int i, .int j => .ok (.bl (decide (i ≤ j)))
  | _, _ => .stuck
@[simp] def dGt : D → D → Out D
  | .int i, .int j => .ok (.bl (decide (j < i)))
  | _, _ => .stuck
@[simp] def dGe : D → D → Out D
  | .int i, .int j => .ok (.bl (decide (j ≤ i)))
  | _, _ => .stuck
@[simp] def dNeg : D → Out D
  | .int i => .ok (.int (-i))
  | _ => .stuck
@[simp] def scalD : D → Option V
  | .non => some .non
  | .bl b => some (.bl b)
  | .int i => some (.int i)
  | .str x => some (.str x)
  | _ => none
@[simp] def dEqS : D → D → Out D := fun a b => match scalD a, scalD b with
  | some x, some y => if scal x y = true then .ok (.bl (decide (x = y))) else .stuck
  | _, _ => .stuck
@[simp] def dNeS : D → D → Out D := fun a b => match scalD a, scalD b with
  | some x, some y => if scal x y = true then .ok (.bl (!decide (x = y))) else .stuck
  | _, _ => .stuck
@[simp] def isNon : D → Bool
  | .non => true
  | _ => false
@[simp] def dIs : D → D → Out D
  | a, .non => .ok (.bl (isNon a))
  | _, _ => .stuck
@[simp] def dIsNot : D → D → Out D
  | a, .non => .ok (.bl (!isNon a))
  | _, _ => .stuck
/-- one sign in a text -/
@[simp] def dInS : D → D → Out D
  | .str c, .str z => if c.cps.size = 1 then .ok (.bl (decide (c.cps.getD 0 0 ∈ z.cps.toList))) else .stuck
  | _, _ => .stuck
@[simp] def dNotInS : D → D → Out D
  | .str c, .str z => if c.cps.size = 1 then .ok (.bl (!decide (c.cps.getD 0 0 ∈ z.cps.toList))) else .stuck
  | _, _ => .stuck
@[simp] def dIx : D → D → Out D
  | .lst xs, .int i => match atI xs i with
    | some d => .ok d
    | none => .stuck
  | .frl xs, .int i => match atI xs i with
    | some d => .ok d
    | none => .stuck
  | .tup xs, .int i => match atI xs i with
    | some d => .ok d
    | none => .stuck
  | .str z, .int i => if z.length ≤ 1000000 then (match atI z.cps.toList i with
    | some c => .ok (.str ⟨#[c]⟩)
    | none => .stuck) else .stuck
  | _, _ => .stuck
def d1 (f : D → Out D) : List D → Out D
  | [a] => f a
  | _ => .stuck
def d2 (f : D → D → Out D) : List D → Out D
  | [a, b] => f a b
  | _ => .stuck
@[simp] theorem d1_one (f : D → Out D) (a : D) : d1 f [a] = f a := rfl
@[simp] theorem d2_two (f : D → D → Out D) (a b : D) : d2 f [a, b] = f a b := rfl
@[simp] def dLen : D → Out D
  | .str x => if x.length ≤ 1000000 then .ok (.int x.length) else .stuck
  | .lst xs => .ok (.int xs.length)
  | .frl xs => .ok (.int xs.length)
  | .tup xs => .ok (.int xs.length)
  | _ => .stuck
@[simp] def dInt : D → Out D
  | .int i => .ok (.int i)
  | .bl b => .ok (.int (if b then 1 else 0))
  | _ => .stuck
@[simp] def tyName : D → Option String
  | .non => some "NoneType"
  | .bl _ => some "bool"
  | .int _ => some "int"
  | .str _ => some "str"
  | .tup _ => some "tuple"
  | .lst _ => some "list"
  | .frl _ => some "list"
  | .dic _ => some "dict"
  | _ => none
@[simp] def isSub (a b : String) : Bool := a == b || (a == "bool" && b == "int")
@[simp] def tyList : List String := ["int", "bool", "str", "tuple", "list", "dict"]
/-- isinstance(x, T), T a built-in class -/
@[simp] def dIsi : D → D → Out D
  | d, .ty n => match tyName d with
    | some t => if n ∈ tyList then .ok (.bl (isSub t n)) else .stuck
    | none => .stuck
  | _, _ => .stuck

@[simp] theorem scal_ii (i j : Int) : scal (.int i) (.int j) = true := rfl
@[simp] theorem scal_bb (i j : Bool) : scal (.bl i) (.bl j) = true := rfl
@[simp] theorem scal_ss (i j : Str) : scal (.str i) (.str j) = true := rfl
@[simp] theorem scal_nn : scal .non .non = true := rfl
@[simp] theorem scal_ni (i : Int) : scal .non (.int i) = true := rfl
@[simp] theorem scal_in (i : Int) : scal (.int i) .non = true := rfl
@[simp] theorem scal_ns (i : Str) : scal .non (.str i) = true := rfl
@[simp] theorem scal_sn (i : Str) : scal (.str i) .non = true := rfl
theorem repT_int {K : PySem.W.Frag} {H : Hp} {W : Wd} {i : Int} {v : V} (h : RepT K H W (.int i) v) : v = .int i := by simpa only [RepT, RepD] using h
theorem repT_tup {K : PySem.W.Frag} {H : Hp} {W : Wd} {i : List D} {v : V} (h : RepT K H W (.tup i) v) : RepD K W (.tup i) v := by simpa only [RepT, RepD] using h
theorem repT_str {K : PySem.W.Frag} {H : Hp} {W : Wd} {i : Str} {v : V} (h : RepT K H W (.str i) v) : v = .str i := by simpa only [RepT, RepD] using h
theorem repT_bl {K : PySem.W.Frag} {H : Hp} {W : Wd} {i : Bool} {v : V} (h : RepT K H W (.bl i) v) : v = .bl i := by simpa only [RepT, RepD] using h
theorem repT_non {K : PySem.W.Frag} {H : Hp} {W : Wd} {v : V} (h : RepT K H W .non v) : v = .non := by simpa only [RepT, RepD] using h
theorem repD_int {K : PySem.W.Frag} {W : Wd} {i : Int} : RepD K W (.int i) (.int i) := by simp only [RepD]
theorem repD_str {K : PySem.W.Frag} {W : Wd} {i : Str} : RepD K W (.str i) (.str i) := by simp only [RepD]
theorem repD_bl {K : PySem.W.Frag} {W : Wd} {i : Bool} : RepD K W (.bl i) (.bl i) := by simp only [RepD]
theorem repD_non {K : PySem.W.Frag} {W : Wd} : RepD K W .non .non := by simp only [RepD]

section
variable {K : PySem.W.Frag}
/-- closes the goals of an operation on two ints -/
theorem opS_I0 {g : Int → Int → V} {f : D → D → Out D} {e : Int → Int → D} (hf : ∀ a b d, f a b = .ok d → ∃ i j, a = .int i ∧ b = .int j ∧ d = e i j) (hg : ∀ i j W, RepD K W (e i j) (g i j)) : OpS K (rI0 g) f := fun x y H W dx dy Q s hx hy d hd k => by
  obtain ⟨i, j, rfl, rfl, rfl⟩ := hf dx dy d hd
  exact ⟨i, j, repT_int hx, repT_int hy, k _ _ _ (Ext.refl s) (hg i j W)⟩
theorem opS_I {Cn : Int → Int → Prop} {g : Int → Int → V} {f : D → D → Out D} {e : Int → Int → D} (hf : ∀ a b d, f a b = .ok d → ∃ i j, a = .int i ∧ b = .int j ∧ Cn i j ∧ d = e i j) (hg : ∀ i j W, RepD K W (e i j) (g i j)) : OpS K (rI Cn g) f := fun x y H W dx dy Q s hx hy d hd k => by
  obtain ⟨i, j, rfl, rfl, hc, rfl⟩ := hf dx dy d hd
  exact ⟨i, j, repT_int hx, repT_int hy, hc, k _ _ _ (Ext.refl s) (hg i j W)⟩
theorem OpS.or {r r' : R2} {f : D → D → Out D} (h : ∀ (x y : V) (H : Hp) (W : Wd) (dx dy : D) (Q : VK), Sub W.g H → RepT K H W dx x → RepT K H W dy y → ∀ d, f dx dy = .ok d → (∀ v H' W', Ext H W H' W' → RepD K W' d v → Q v H') → r x y H Q ∨ r' x y H Q) : OpS K (fun x y H Q => r x y H Q ∨ r' x y H Q) f := h
theorem ops_sub : OpS K (rI0 fun i j => .int (i - j)) dSub := opS_I0 (e := fun i j => .int (i - j)) (fun a b d h => by
  cases a <;> cases b <;> simp only [dSub, reduceCtorEq, Out.ok.injEq] at h
  exact ⟨_, _, rfl, rfl, h.symm⟩) fun _ _ _ => repD_int
theorem ops_mod : OpS K (rI (fun _ j => 0 < j) fun i j => .int (i % j)) dMod := opS_I (e := fun i j => .int (i % j)) (fun a b d h => by
  cases a <;> cases b <;> simp only [dMod, reduceCtorEq] at h
  split at h
  · cases h; exact ⟨_, _, rfl, rfl, by assumption, rfl⟩
  · cases h) fun _ _ _ => repD_int
theorem ops_div : OpS K (rI CDiv fun i j => .int (i / j)) dDiv := opS_I (e := fun i j => .int (i / j)) (fun a b d h => by
  cases a <;> cases b <;> simp only [dDiv, reduceCtorEq] at h
  split at h
  · cases h; exact ⟨_, _, rfl, rfl, by assumption, rfl⟩
  · cases h) fun _ _ _ => repD_int
theorem ops_pow : OpS K (rI CPow fun i j => .int (i ^ j.toNat)) dPow := opS_I (e := fun i j => .int (i ^ j.toNat)) (fun a b d h => by
  cases a <;> cases b <;> simp only [dPow, reduceCtorEq] at h
  split at h
  · cases h; exact ⟨_, _, rfl, rfl, by (rename_i hz; exact ⟨hz.1, hz.2.1, Nat.lt_of_lt_of_le hz.2.2 (by decide)⟩), rfl⟩
  · cases h) fun _ _ _ => repD_int
theorem ops_le : OpS K (rI0 fun i j => .bl (decide (i ≤ j))) dLe := opS_I0 (e := fun i j => .bl (decide (i ≤ j))) (fun a b d h => by
  cases a <;> cases b <;> simp only [dLe, reduceCtorEq, Out.ok.injEq] at h
  exact ⟨_, _, rfl, rfl, h.symm⟩) fun _ _ _ => repD_bl
theorem ops_gt : OpS K (rI0 fun i j => .bl (decide (j < i))) dGt := opS_I0 (e := fun i j => .bl (decide (j < i))) (fun a b d h => by
  cases a <;> cases b <;> simp only [dGt, reduceCtorEq, Out.ok.injEq] at h
  exact ⟨_, _, rfl, rfl, h.symm⟩) fun _ _ _ => repD_bl
theorem ops_ge : OpS K (rI0 fun i j => .bl (decide (j ≤ i))) dGe := opS_I0 (e := fun i j => .bl (decide (j ≤ i))) (fun a b d h => by
  cases a <;> cases b <;> simp only [dGe, reduceCtorEq, Out.ok.injEq] at h
  exact ⟨_, _, rfl, rfl, h.symm⟩) fun _ _ _ => repD_bl
abbrev rLtA : R2 := fun x y H Q => (rI0 fun i j => .bl (decide (i < j))) x y H Q ∨ (∃ i j, x = .str i ∧ y = .str j ∧ Q (.bl (decide (i.cps.toList < j.cps.toList))) H)
theorem ops_lt : OpS K rLtA dLt := fun x y H W dx dy Q s hx hy d hd k => by
  cases dx <;> cases dy <;> simp only [dLt, reduceCtorEq, Out.ok.injEq] at hd
  · subst hd; exact .inl ⟨_, _, repT_int hx, repT_int hy, k _ _ _ (Ext.refl s) repD_bl⟩
  · subst hd; exact .inr ⟨_, _, repT_str hx, repT_str hy, k _ _ _ (Ext.refl s) repD_bl⟩
theorem scalD_rep {H : Hp} {W : Wd} {d : D} {x v : V} (e : scalD d = some x) (h : RepT K H W d v) : v = x := by
  cases d <;> simp only [scalD, reduceCtorEq, Option.some.injEq] at e <;> subst e <;> simpa only [RepT, RepD] using h
theorem ops_eqS : OpS K rEq dEqS := fun x y H W dx dy Q s hx hy d hd k => by
  unfold dEqS at hd
  split at hd
  · rename_i u v e1 e2
    split at hd
    · rename_i hs
      cases hd
      rw [scalD_rep e1 hx, scalD_rep e2 hy]
      exact ⟨hs, k _ _ _ (Ext.refl s) repD_bl⟩
    · cases hd
  · cases hd
theorem ops_neS : OpS K rNe dNeS := fun x y H W dx dy Q s hx hy d hd k => by
  unfold dNeS at hd
  split at hd
  · rename_i u v e1 e2
    split at hd
    · rename_i hs
      cases hd
      rw [scalD_rep e1 hx, scalD_rep e2 hy]
      exact ⟨hs, k _ _ _ (Ext.refl s) repD_bl⟩
    · cases hd
  · cases hd
theorem isNon_rep {H : Hp} {W : Wd} {d : D} {v : V} (h : RepT K H W d v) : isNon d = decide (v = .non) := by
  cases d <;> simp only [RepT, RepD] at h
  · subst h; rfl
  · subst h; rfl
  · subst h; rfl
  · subst h; rfl
  · subst h; rfl
  all_goals first
    | (obtain ⟨a, vs, rfl, _⟩ := h; rfl)
    | (obtain ⟨a, dx, vs, rfl, _⟩ := h; rfl)
abbrev rIs0 : R2 := fun x y H Q => y = .non ∧ Q (.bl (decide (x = .non))) H
abbrev rIsNot0 : R2 := fun x y H Q => y = .non ∧ Q (.bl (!decide (x = .non))) H
theorem ops_is : OpS K rIs0 dIs := fun x y H W dx dy Q s hx hy d hd k => by
  cases dy <;> simp only [dIs, reduceCtorEq, Out.ok.injEq] at hd
  subst hd
  refine ⟨repT_non hy, ?_⟩
  rw [← isNon_rep hx]
  exact k _ _ _ (Ext.refl s) repD_bl
theorem ops_isNot : OpS K rIsNot0 dIsNot := fun x y H W dx dy Q s hx hy d hd k => by
  cases dy <;> simp only [dIsNot, reduceCtorEq, Out.ok.injEq] at hd
  subst hd
  refine ⟨repT_non hy, ?_⟩
  rw [← isNon_rep hx]
  exact k _ _ _ (Ext.refl s) repD_bl
abbrev rAddA : R2 := fun x y H Q => (rI0 fun i j => .int (i + j)) x y H Q ∨ ((∃ i j, x = .str i ∧ y = .str j ∧ i.length + j.length ≤ sizeLine ∧ Q (.str (i ++ j)) H) ∨ (rCat x y H Q ∨ rCatA K x y H Q))
theorem ops_add : OpS K (rAddA (K := K)) dAdd := fun x y H W dx dy Q s hx hy d hd k => by
  cases dx <;> cases dy <;> simp only [dAdd, reduceCtorEq, Out.ok.injEq] at hd
  · subst hd; exact .inl ⟨_, _, repT_int hx, repT_int hy, k _ _ _ (Ext.refl s) repD_int⟩
  · split at hd
    · cases hd; exact .inr (.inl ⟨_, _, repT_str hx, repT_str hy, lim_le (by assumption), k _ _ _ (Ext.refl s) repD_str⟩)
    · cases hd
  · split at hd
    · rename_i hz
      cases hd
      obtain ⟨a, vs, ea, ha, la⟩ := hx
      obtain ⟨b, us, eb, hb, lb⟩ := hy
      refine .inr (.inr (.inr ⟨a, b, vs, us, ea, eb, SqT.of (s.tup ha), SqT.of (s.tup hb), ?_, fun z => ?_, fun _ z => ?_, fun _ _ p hp => ?_⟩))
      · rw [← repL_len la, ← repL_len lb]; exact lim_le hz
      · subst z
        have h0 := List.eq_nil_of_length_eq_zero (repL_len la)
        subst h0
        exact k _ _ _ (Ext.refl s) (repT_tup (H := H) ⟨b, us, rfl, hb, lb⟩)
      · subst z
        have h0 := List.eq_nil_of_length_eq_zero (repL_len lb)
        subst h0
        rw [List.append_nil] at k
        exact k _ _ _ (Ext.refl s) (repT_tup (H := H) ⟨a, vs, rfl, ha, la⟩)
      · refine k _ _ _ (Ext.alloc s hp) ?_
        simp only [RepD]
        exact ⟨p, vs ++ us, rfl, upd_same, (repL_app la lb).mono (Le.new (s.no hp))⟩
    · cases hd
  · split at hd
    · rename_i hz
      cases hd
      obtain ⟨a, vs, ea, ha, la⟩ := hx
      obtain ⟨b, us, eb, hb, lb⟩ := hy
      refine .inr (.inr (.inl ⟨a, b, vs, us, ea, eb, ha, hb, ?_, fun p hp => ?_⟩))
      · rw [← repL_len la, ← repL_len lb]; exact lim_le hz
      · refine k _ _ _ (Ext.alloc s hp) ?_
        simp only [RepD]
        exact ⟨p, vs ++ us, rfl, upd_same, (repL_app la lb).mono (Le.new (s.no hp))⟩
    · cases hd
theorem repL_rep {W : Wd} {ds : List D} {vs : List V} (h : RepL K W ds vs) : ∀ n : Nat, RepL K W (List.replicate n ds).flatten (List.replicate n vs).flatten
  | 0 => by simp only [List.replicate_zero, List.flatten_nil, RepL]
  | n + 1 => by
    rw [List.replicate_succ, List.replicate_succ, List.flatten_cons, List.flatten_cons]
    exact repL_app h (repL_rep h n)
abbrev rMulA : R2 := fun x y H Q => (rI CMul fun i j => .int (i * j)) x y H Q ∨ rRep x y H Q
theorem ops_mul : OpS K rMulA dMul := fun x y H W dx dy Q s hx hy d hd k => by
  cases dx <;> cases dy <;> simp only [dMul, reduceCtorEq, Out.ok.injEq] at hd
  · split at hd
    · rename_i hz; cases hd; exact .inl ⟨_, _, repT_int hx, repT_int hy, hz.elim (fun z => .inl ⟨by omega, by omega⟩) (fun z => .inr ⟨by omega, by omega⟩), k _ _ _ (Ext.refl s) repD_int⟩
    · cases hd
  · split at hd
    · rename_i hz
      cases hd
      obtain ⟨a, vs, ea, ha, la⟩ := hx
      refine .inr ⟨a, _, vs, ea, repT_int hy, ha, by omega, by omega, by rw [← repL_len la]; exact lim_le hz.2.2, fun p hp => ?_⟩
      refine k _ _ _ (Ext.alloc s hp) ?_
      simp only [RepD]
      exact ⟨p, _, rfl, upd_same, (repL_rep la _).mono (Le.new (s.no hp))⟩
    · cases hd
theorem chr_eta {c : Str} (h : c.cps.size = 1) : c = ⟨#[c.cps.getD 0 0]⟩ := by
  obtain ⟨⟨l⟩⟩ := c
  match l, h with
  | [a], _ => rfl
theorem ops_inS : OpS K (fun x y H Q => ∃ (c : Nat) (z : Str), x = .str ⟨#[c]⟩ ∧ y = .str z ∧ Q (.bl (decide (c ∈ z.cps.toList))) H) dInS := fun x y H W dx dy Q s hx hy d hd k => by
  cases dx <;> cases dy <;> simp only [dInS, reduceCtorEq, Out.ok.injEq] at hd
  split at hd
  · rename_i hc
    cases hd
    exact ⟨_, _, (repT_str hx).trans (congrArg V.str (chr_eta hc)), repT_str hy, k _ _ _ (Ext.refl s) repD_bl⟩
  · cases hd
theorem ops_notInS : OpS K (fun x y H Q => ∃ (c : Nat) (z : Str), x = .str ⟨#[c]⟩ ∧ y = .str z ∧ Q (.bl (!decide (c ∈ z.cps.toList))) H) dNotInS := fun x y H W dx dy Q s hx hy d hd k => by
  cases dx <;> cases dy <;> simp only [dNotInS, reduceCtorEq, Out.ok.injEq] at hd
  split at hd
  · rename_i hc
    cases hd
    exact ⟨_, _, (repT_str hx).trans (congrArg V.str (chr_eta hc)), repT_str hy, k _ _ _ (Ext.refl s) repD_bl⟩
  · cases hd
theorem atI_rep {W : Wd} {ds : List D} {vs : List V} {i : Int} {d : D} (h : RepL K W ds vs) (e : atI ds i = some d) : ∃ v, atI vs i = some v ∧ RepD K W d v := by
  unfold atI at e ⊢
  rw [← repL_len h]
  cases q : ixN ds.length i with
  | none => rw [q] at e; cases e
  | some j =>
    rw [q] at e
    exact repL_get2 h e
abbrev rIxA (K : PySem.W.Frag) : R2 := fun x y H Q => rIxL K x y H Q ∨ (rIxT K x y H Q ∨ rIxS x y H Q)
theorem IxR.or {X : Cx} {r r' : R2} (h : IxR X r) (h' : IxR X r') : IxR X (fun x y H Q => r x y H Q ∨ r' x y H Q) := fun a b pins s σ H x y v u Q I rx ry hq hp => by
  rcases hq with q | q
  · exact h a b pins s σ H x y v u Q I rx ry q hp
  · exact h' a b pins s σ H x y v u Q I rx ry q hp
theorem ops_ix : OpS K (rIxA K) dIx := fun x y H W dx dy Q s hx hy d hd k => by
  cases dx <;> cases dy <;> simp only [dIx, reduceCtorEq, Out.ok.injEq] at hd
  · split at hd
    · rename_i hz
      split at hd
      · rename_i c hc
        cases hd
        exact .inr (.inr ⟨_, _, _, repT_str hx, repT_int hy, lim_le hz, hc, k _ _ _ (Ext.refl s) repD_str⟩)
      · cases hd
    · cases hd
  · split at hd
    · rename_i hc
      cases hd
      obtain ⟨a, vs, ea, ha, la⟩ := hx
      obtain ⟨v, hv, hd⟩ := atI_rep la hc
      exact .inr (.inl ⟨a, vs, _, v, ea, repT_int hy, SqT.of (s.tup ha), hv, k _ _ _ (Ext.refl s) hd⟩)
    · cases hd
  · split at hd
    · rename_i hc
      cases hd
      obtain ⟨a, vs, ea, ha, la⟩ := hx
      obtain ⟨v, hv, hd⟩ := atI_rep la hc
      exact .inl ⟨a, vs, _, v, ea, repT_int hy, SqL.of ha, hv, k _ _ _ (Ext.refl s) hd⟩
    · cases hd
  · split at hd
    · rename_i hc
      cases hd
      obtain ⟨a, vs, ea, ha, la⟩ := hx
      obtain ⟨v, hv, hd⟩ := atI_rep la hc
      exact .inl ⟨a, vs, _, v, ea, repT_int hy, ha, hv, k _ _ _ (Ext.refl s) hd⟩
    · cases hd
theorem calls_1 {rr : List V → Hp → VK → Prop} {f : D → Out D} (h : ∀ (x : V) (H : Hp) (W : Wd) (dx : D) (Q : VK), Sub W.g H → RepT K H W dx x → ∀ d, f dx = .ok d → (∀ v H' W', Ext H W H' W' → RepD K W' d v → Q v H') → rr [x] H Q) : CallS K rr (d1 f) := fun xs H W ds Q s hx d hd k => by
  match ds, hx, hd with
  | [_], .cons h1 .nil, hd => exact h _ H W _ Q s h1 d hd k
theorem calls_2 {rr : List V → Hp → VK → Prop} {f : D → D → Out D} (h : ∀ (x y : V) (H : Hp) (W : Wd) (dx dy : D) (Q : VK), Sub W.g H → RepT K H W dx x → RepT K H W dy y → ∀ d, f dx dy = .ok d → (∀ v H' W', Ext H W H' W' → RepD K W' d v → Q v H') → rr [x, y] H Q) : CallS K rr (d2 f) := fun xs H W ds Q s hx d hd k => by
  match ds, hx, hd with
  | [_, _], .cons h1 (.cons h2 .nil), hd => exact h _ _ H W _ _ Q s h1 h2 d hd k
theorem callf_1 {rr : List V → Hp → VK → Prop} {f : D → Out D} (h : ∀ (x : V) (H : Hp) (W : Wd) (dx : D) (Q : VK), Sub W.g H → RepT K H W dx x → ∀ d, f dx = .ok d → (∀ p o, H p = none → Own K (upd H p o) W d (.ref p) → Q (.ref p) (upd H p o)) → rr [x] H Q) : CallF K rr (d1 f) := fun xs H W ds Q s hx d hd k => by
  match ds, hx, hd with
  | [_], .cons h1 .nil, hd => exact h _ H W _ Q s h1 d hd k
theorem nox_d1 {f : D → Out D} (h : NoX1 f) : NoX1 (d1 f) := fun ds x st e => by
  match ds, e with
  | [a], e => exact h a x st e
theorem nox_d2 {f : D → D → Out D} (h : NoX2 f) : NoX1 (d2 f) := fun ds x st e => by
  match ds, e with
  | [a, b], e => exact h a b x st e
theorem calls_len : CallS K (fun xs H Q => ∃ x n, xs = [x] ∧ LenV K x H n ∧ Q (.int n) H) (d1 dLen) := calls_1 fun x H W dx Q s h1 d hd k => by
  cases dx <;> simp only [dLen, reduceCtorEq, Out.ok.injEq] at hd
  · split at hd
    · rename_i hz
      cases hd
      rw [repT_str h1]
      exact ⟨_, _, rfl, ⟨lim_le hz, rfl⟩, k _ _ _ (Ext.refl s) repD_int⟩
    · cases hd
  · subst hd
    obtain ⟨a, vs, ea, ha, la⟩ := h1
    subst ea
    exact ⟨_, _, rfl, .inr ⟨vs, SqT.of (s.tup ha), rfl⟩, k _ _ _ (Ext.refl s) (by rw [repL_len la]; exact repD_int)⟩
  · subst hd
    obtain ⟨a, vs, ea, ha, la⟩ := h1
    subst ea
    exact ⟨_, _, rfl, .inl ⟨vs, SqL.of ha, rfl⟩, k _ _ _ (Ext.refl s) (by rw [repL_len la]; exact repD_int)⟩
  · subst hd
    obtain ⟨a, vs, ea, ha, la⟩ := h1
    subst ea
    exact ⟨_, _, rfl, .inl ⟨vs, ha, rfl⟩, k _ _ _ (Ext.refl s) (by rw [repL_len la]; exact repD_int)⟩
theorem calls_int : CallS K (fun xs H Q => (∃ i, xs = [.int i] ∧ Q (.int i) H) ∨ ∃ k, xs = [.bl k] ∧ Q (.int (if k then 1 else 0)) H) (d1 dInt) := calls_1 fun x H W dx Q s h1 d hd k => by
  cases dx <;> simp only [dInt, reduceCtorEq, Out.ok.injEq] at hd
  · subst hd; rw [repT_bl h1]; exact .inr ⟨_, rfl, k _ _ _ (Ext.refl s) repD_int⟩
  · subst hd; rw [repT_int h1]; exact .inl ⟨_, rfl, k _ _ _ (Ext.refl s) repD_int⟩
theorem tyName_ok {H : Hp} {W : Wd} {d : D} {v : V} {t : String} (s : Sub W.g H) (e : tyName d = some t) (h : RepT K H W d v) : TyX K H v (.type t) := by
  cases d <;> simp only [tyName, reduceCtorEq, Option.some.injEq] at e <;> subst e
  · rw [repT_non h]; exact .base .non
  · rw [repT_bl h]; exact .base (.bl _)
  · rw [repT_int h]; exact .base (.int _)
  · rw [repT_str h]; exact .base (.str _)
  · obtain ⟨a, vs, ea, ha, la⟩ := h; subst ea; exact .base (.tup (s.tup ha))
  · obtain ⟨a, vs, ea, ha, la⟩ := h; subst ea; exact .base (.lst ha)
  · obtain ⟨a, vs, ea, ha, la⟩ := h
    subst ea
    rcases ha with (ha | ⟨o, ha⟩) | ⟨o, its, n, hk, hc, _⟩
    · exact .base (.lst ha)
    · exact .base (.frz ha)
    · exact .kList hk hc
  · obtain ⟨a, vs, ea, ha, la⟩ := h
    subst ea
    rcases ha with ha | ⟨o, ha⟩
    · exact .base (.dK ha)
    · exact .fDict ha
theorem kit_all {t n : String} (ht : t ∈ ["NoneType", "bool", "int", "str", "tuple", "list", "dict"]) (hn : n ∈ tyList) : PySem.W.kitOne K (.type t) (.type n) = some (isSub t n) := by
  refine kit_ty ?_
  have all : ∀ t ∈ ["NoneType", "bool", "int", "str", "tuple", "list", "dict"], ∀ n ∈ tyList, kitB t n = some (isSub t n) := by decide +kernel
  exact all t ht n hn
theorem tyName_mem {d : D} {t : String} (e : tyName d = some t) : t ∈ ["NoneType", "bool", "int", "str", "tuple", "list", "dict"] := by
  cases d <;> simp only [tyName, reduceCtorEq, Option.some.injEq] at e <;> subst e <;> decide
theorem calls_isi : CallS K (rIsi K) (d2 dIsi) := calls_2 fun x y H W dx dy Q s hx hy d hd k => by
  cases dy <;> simp only [dIsi, reduceCtorEq] at hd
  rename_i n
  split at hd
  · rename_i t ht
    split at hd
    · rename_i hn
      cases hd
      have hy' : y = .ty n := by simpa only [RepT, RepD] using hy
      subst hy'
      exact ⟨x, .ty n, .type t, .type n, _, rfl, .ty n, tyName_ok s ht hx, kit_all (tyName_mem ht) hn, k _ _ _ (Ext.refl s) repD_bl⟩
    · cases hd
  · cases hd
/-! none of these raises -/
theorem nx_add : NoX2 dAdd := fun a b x st h => by cases a <;> cases b <;> simp only [dAdd, reduceCtorEq] at h <;> split at h <;> cases h
theorem nx_sub : NoX2 dSub := fun a b x st h => by cases a <;> cases b <;> simp only [dSub, reduceCtorEq] at h
theorem nx_mul : NoX2 dMul := fun a b x st h => by cases a <;> cases b <;> simp only [dMul, reduceCtorEq] at h <;> split at h <;> cases h
theorem nx_mod : NoX2 dMod := fun a b x st h => by cases a <;> cases b <;> simp only [dMod, reduceCtorEq] at h <;> split at h <;> cases h
theorem nx_div : NoX2 dDiv := fun a b x st h => by cases a <;> cases b <;> simp only [dDiv, reduceCtorEq] at h <;> split at h <;> cases h
theorem nx_pow : NoX2 dPow := fun a b x st h => by cases a <;> cases b <;> simp only [dPow, reduceCtorEq] at h <;> split at h <;> cases h
theorem nx_lt : NoX2 dLt := fun a b x st h => by cases a <;> cases b <;> simp only [dLt, reduceCtorEq] at h
theorem nx_le : NoX2 dLe := fun a b x st h => by cases a <;> cases b <;> simp only [dLe, reduceCtorEq] at h
theorem nx_gt : NoX2 dGt := fun a b x st h => by cases a <;> cases b <;> simp only [dGt, reduceCtorEq] at h
theorem nx_ge : NoX2 dGe := fun a b x st h => by cases a <;> cases b <;> simp only [dGe, reduceCtorEq] at h
theorem nx_eqS : NoX2 dEqS := fun a b x st h => by unfold dEqS at h; split at h <;> (try split at h) <;> cases h
theorem nx_neS : NoX2 dNeS := fun a b x st h => by unfold dNeS at h; split at h <;> (try split at h) <;> cases h
theorem nx_is : NoX2 dIs := fun a b x st h => by cases b <;> simp only [dIs, reduceCtorEq] at h
theorem nx_isNot : NoX2 dIsNot := fun a b x st h => by cases b <;> simp only [dIsNot, reduceCtorEq] at h
theorem nx_inS : NoX2 dInS := fun a b x st h => by cases a <;> cases b <;> simp only [dInS, reduceCtorEq] at h <;> split at h <;> cases h
theorem nx_notInS : NoX2 dNotInS := fun a b x st h => by cases a <;> cases b <;> simp only [dNotInS, reduceCtorEq] at h <;> split at h <;> cases h
theorem nx_ix : NoX2 dIx := fun a b x st h => by cases a <;> cases b <;> simp only [dIx, reduceCtorEq] at h <;> split at h <;> (try split at h) <;> cases h
theorem nx_len : NoX1 dLen := fun a x st h => by cases a <;> simp only [dLen, reduceCtorEq] at h <;> split at h <;> cases h
theorem nx_int : NoX1 dInt := fun a x st h => by cases a <;> simp only [dInt, reduceCtorEq] at h
theorem nx_isi : NoX2 dIsi := fun a b x st h => by cases b <;> simp only [dIsi, reduceCtorEq] at h <;> split at h <;> (try split at h) <;> cases h
end
end Mir

set_option maxHeartbeats 4000000
namespace Mir
open PySem PySem.Spec PyProof.Rows L2
section
variable {K : PySem.W.Frag} {E : XK} {c : Fm} {σ σ' : L2.St} {H H' : Hp} {W W' : Wd} {r r' : RE}
/-- a frame within the frame -/
def nest (c : Fm) (H : Hp) (W : Wd) : Fm := ⟨H, W, c.lk⟩
theorem RR.enter (R : RR K c σ H W r) : RR K (nest c H W) σ H W r :=
  ⟨R.gh, Le.refl W, fun a u e => .inl (by show W.g a ≠ none; rw [e]; simp), fun a u e => ⟨fun _ => ⟨⟨u, e, rfl⟩, fun _ => e⟩, fun _ _ _ => e⟩, fun a ha => R.there ha, R.len, R.sl, R.cl, R.ce, fun a ha => ⟨(R.cg a ha).1, .inl ha⟩, R.cn, R.lk⟩
theorem RR.leave (R : RR K c σ H W r) (R' : RR K (nest c H W) σ' H' W' r') : RR K c σ' H' W' r' := by
  have R2 : R0 K (fm0 H W) H' W' r'.st := ⟨R'.gh, R'.g0, R'.gr, R'.ke, R'.xk, rfl, fun i d e => by simp at e, R'.cl, R'.ce, R'.cg, R'.cn, fun p z => absurd z (by simp)⟩
  exact (RR.call R.zero R2).slots (r := ⟨[], r'.st⟩) R'.len R'.sl
theorem XP.nest {x : Exn} {st : Sto} (R : RR K c σ H W r) (h : XP K c E x st) : XP K (nest c H W) E x st := fun dx H' W' us R' hx rf => h dx H' W' us (RR.leave R.zero R') hx rf
/-- a thing that nobody knows changes -/
theorem RR.other (R : RR K c σ H W r) {p : Addr} {o : HO} (hg : W.g p = none) (he : c.He p = none) (hb : p ∉ W.b) (hl : ∀ q ∈ c.lk, q.1 ≠ p) : RR K c σ (upd H p o) W r :=
  ⟨R.gh.mut hg, R.g0, R.gr, fun a u e => by
    have : a ≠ p := fun z => by rw [z, he] at e; cases e
    rw [upd_ne this]; exact R.ke a u e, fun a ha => by
    by_cases z : a = p
    · rw [z, upd_same]; simp
    · rw [upd_ne z]; exact R.xk a ha, R.len, R.sl, R.cl, fun i d a h1 h2 => (R.ce i d a h1 h2).mono (Le.refl W) (fun u q => by
      have : a ≠ p := fun z => hb (z ▸ List.mem_iff_getElem?.mpr ⟨i, h2⟩)
      rw [upd_ne this]; exact q), R.cg, R.cn, fun q hq => by rw [upd_ne (hl q hq)]; exact R.lk q hq⟩
/-! ## comprehensions -/
@[simp] def wipeL (s : List (Option D)) : List Nat → List (Option D)
  | [] => s
  | v :: vs => (wipeL s vs).set v none
theorem RR.wipe (R : RR K c σ H W r) : ∀ (vs : List Nat), RR K c (L2.wipe σ vs) H W ⟨wipeL r.s vs, r.st⟩
  | [] => R
  | v :: vs => (RR.wipe R vs).drop (x := none)
theorem wipe_get {σ : L2.St} : ∀ {vs : List Nat} {i : Nat}, i ∉ vs → (L2.wipe σ vs)[i]? = σ[i]?
  | [], i, _ => rfl
  | v :: vs, i, h => by
    show ((L2.wipe σ vs).set v none)[i]? = _
    rw [List.getElem?_set_ne (show v ≠ i from fun e => h (by rw [e]; exact List.mem_cons_self))]
    exact wipe_get fun z => h (List.mem_cons_of_mem _ z)
theorem wipe_none {σ : L2.St} : ∀ {vs : List Nat} {i : Nat} {x : V}, i ∈ vs → (L2.wipe σ vs)[i]? ≠ some (some x)
  | v :: vs, i, x, h => by
    show ((L2.wipe σ vs).set v none)[i]? ≠ _
    by_cases e : v = i
    · subst e
      intro z
      have := get_set_self z
      cases this
    · rw [List.getElem?_set_ne e]
      exact wipe_none ((List.mem_cons.mp h).elim (fun z => absurd z.symm e) id)
theorem wipe_len {σ : L2.St} : ∀ {vs : List Nat}, (L2.wipe σ vs).length = σ.length
  | [] => rfl
  | v :: vs => by show ((L2.wipe σ vs).set v _).length = _; rw [List.length_set]; exact wipe_len
theorem wipe_wipe (us : List Nat) (τ : L2.St) : L2.wipe (L2.wipe τ us) us = L2.wipe τ us := by
  refine List.ext_getElem? fun j => ?_
  by_cases hj : j ∈ us
  · by_cases hl : j < τ.length
    · have h1 : ∀ τ' : L2.St, τ'.length = τ.length → (L2.wipe τ' us)[j]? = some none := fun τ' hl' => by
        have hlt : j < (L2.wipe τ' us).length := by rw [wipe_len, hl']; exact hl
        cases e : (L2.wipe τ' us)[j]? with
        | none => rw [List.getElem?_eq_none_iff] at e; omega
        | some z => cases z with
          | none => rfl
          | some w => exact absurd e (wipe_none hj)
      rw [h1 _ wipe_len, h1 _ rfl]
    · rw [List.getElem?_eq_none (by rw [wipe_len, wipe_len]; omega), List.getElem?_eq_none (by rw [wipe_len]; omega)]
  · rw [wipe_get hj]
/-- the slots as they were, in a later world -/
theorem RR.old {H0 : Hp} {W0 : Wd} {r0 : RE} (R0' : RR K c σ H0 W0 r0) (s : Le W0 W) (R : RR K c σ' H W r) : RR K c σ H W ⟨r0.s, r.st⟩ :=
  R.slots R0'.len fun i d e => by
    obtain ⟨v, h1, h2⟩ := R0'.sl i d e
    exact ⟨v, h1, h2.mono s⟩
def mCompL (s0 : List (Option D)) (st : D → RE → Option RE) (mt : RE → Out (Bool × RE)) (me : RE → Out (D × RE)) : List D → Sto → List D → Out (List D × Sto)
  | [], so, acc => .ok (acc, so)
  | x :: xs, so, acc => match st x ⟨s0, so⟩ with
    | none => .stuck
    | some r1 => (mt r1).bnd fun p => if p.1 = true then (me p.2).bnd fun q => if acc.length < 1000000 then mCompL s0 st mt me xs q.2.st (acc ++ [q.1]) else .stuck
      else mCompL s0 st mt me xs p.2.st acc
@[simp] def mComp (vs : List Nat) (mi : RE → Out (List D × RE)) (st : D → RE → Option RE) (mt : RE → Out (Bool × RE)) (me : RE → Out (D × RE)) : RE → Out (D × RE) := fun r => (mi r).bnd fun p => (mCompL (wipeL p.2.s vs) st mt me p.1 p.2.st []).bnd fun q => .ok (.lst q.1, ⟨p.2.s, q.2⟩)
/-- a target sets its slots alone -/
def GV (g : TG) (vs : List Nat) : Prop := ∀ (v : V) (σ : L2.St) (H : Hp) (Q Q' : L2.St → Hp → Prop), (∀ σ' H', Q σ' H' → L2.wipe σ' vs = L2.wipe σ vs → Q' σ' H') → g v σ H Q → g v σ H Q'
theorem gv_name {i : Nat} : GV (gName i) [i] := fun v σ H Q Q' h k => h _ _ k (by show (σ.set i (some v)).set i none = σ.set i none; rw [List.set_set])
/-- the turns of a comprehension, from where what is walked has come -/
theorem comp_core {J : It} {Gp : Hp → Prop} {Y : Nat → Hp → V → Hp → Prop} {ds : List D} {g : TG} {tt : TT} {te : TE} {vs : List Nat} {st : D → RE → Option RE} {mt : RE → Out (Bool × RE)} {me : RE → Out (D × RE)} {Dn : Addr} {Qd : Hp → Prop}
    (hgv : GV g vs) (hg : GS K E g st) (ht : SndT K E tt mt) (he : Snd K E te me) (R1 : RR K c σ H W r) (wk : Walk J ds.length Gp Y)
    (hG : ∀ (σ2 : L2.St) (H2 : Hp) (W2 : Wd) (r2 : RE), RR K c σ2 H2 W2 r2 → Le W W2 → Gp H2)
    (hY : ∀ (i : Nat) (H2 : Hp) (W2 : Wd) (x : V) (H3 : Hp), Sub W2.g H2 → Le W W2 → i < ds.length → Y i H2 x H3 → ∃ W3 d, Ext H2 W2 H3 W3 ∧ ds[i]? = some d ∧ RepD K W3 d x)
    (hDn : H Dn = none) (w : Wp (mCompL (wipeL r.s vs) st mt me ds r.st []) (fun q => ∀ H' W', RR K c σ H' W' ⟨r.s, q.2⟩ → Le W W' → Fresh K c H' W' (.lst q.1) Dn → Qd H') (XP K c E)) :
    ∃ Wt : Nat → Nat → Hp → Prop, (∃ m, Wt 0 m (upd H Dn (.lst []))) ∧ ∀ i m H, Wt i m H →
      (J.stop i H ∧ Qd H) ∨ (J.go i H ∧ ∃ Nx : Hp → Prop, (∀ H', Nx H' → ∃ m', m' < m ∧ Wt (i + 1) m' H') ∧ ∀ x H', J.yld i H x H' → g x (L2.wipe σ vs) H' fun σ2 H2 => L2.wipe σ2 vs = L2.wipe σ vs ∧ tt σ2 H2 fun b H3 =>
        if b = true then te σ2 H3 fun y H4 => ∃ acc, H4 Dn = some (.lst acc) ∧ acc.length < sizeLine ∧ Nx (upd H4 Dn (.lst (acc ++ [y]))) else Nx H3) := by
  have heD : c.He Dn = none := R1.heNone hDn
  have hbD : Dn ∉ W.b := fun z => R1.there z hDn
  have hlD : ∀ q ∈ c.lk, q.1 ≠ Dn := fun q hq z => by have := R1.lk q hq; rw [z, hDn] at this; cases this
  have hLD : ∀ {H2 : Hp} {W2 : Wd} {r2 : RE} {τ : L2.St}, RR K c τ H2 W2 r2 → True := fun _ => trivial
  refine lc_it wk (fun i H2 => ∃ W2 so acc av, RR K c (L2.wipe σ vs) H2 W2 ⟨wipeL r.s vs, so⟩ ∧ Le W W2 ∧ H2 Dn = some (.lst av) ∧ W2.g Dn = none ∧ Dn ∉ W2.b ∧ RepL K W2 acc av ∧
    Wp (mCompL (wipeL r.s vs) st mt me (ds.drop i) so acc) (fun q => ∀ H' W', RR K c σ H' W' ⟨r.s, q.2⟩ → Le W W' → Fresh K c H' W' (.lst q.1) Dn → Qd H') (XP K c E)) ?_ ?_ ?_ ?_
  · refine ⟨W, r.st, [], [], RR.other (R1.wipe vs) (R1.gh.no hDn) heD hbD hlD, Le.refl W, upd_same, R1.gh.no hDn, hbD, by simp only [RepL], ?_⟩
    rw [List.drop_zero]
    exact w
  · rintro i H2 hin ⟨W2, so, acc, av, R2, s2, _⟩
    exact hG _ H2 W2 _ R2 s2
  · rintro i x H2 H3 hlt ⟨W2, so, acc, av, R2, s2, hD, hGD, hbD2, hacc, q2⟩ y
    obtain ⟨W3, d, x3, e3, h3⟩ := hY i H2 W2 x H3 R2.gh s2 hlt y
    have R3 := R2.ext x3
    have hD3 : H3 Dn = some (.lst av) := x3.keep _ _ hD
    have hb3 : Dn ∉ W3.b := by rw [x3.bb]; exact hbD2
    have hGD3 : W3.g Dn = none := by
      cases q : W3.g Dn with
      | none => rfl
      | some u =>
        rcases x3.new Dn u q with z | z
        · exact absurd hGD z
        · rw [hD] at z; cases z
    have ed : ds.drop i = d :: ds.drop (i + 1) := by
      obtain ⟨hi', he⟩ := List.getElem?_eq_some_iff.mp e3
      rw [← he]
      exact List.drop_eq_getElem_cons hi'
    rw [ed] at q2
    simp only [mCompL] at q2
    cases e4 : st d ⟨wipeL r.s vs, so⟩ with
    | none => simp only [e4] at q2; exact q2.elim
    | some r3 =>
      simp only [e4] at q2
      have RE3 := R3.enter
      refine hgv x (L2.wipe σ vs) H3 (fun σ2 H' => H' = H3 ∧ RR K (nest c H3 W3) σ2 H3 W3 r3) _ (fun σ2 H' ⟨eH, R4⟩ eσ => ?_) (hg _ x d _ H3 W3 _ r3 _ RE3 h3 e4 fun σ2 R4 => ⟨rfl, R4⟩)
      subst eH
      have eσ' : L2.wipe σ2 vs = L2.wipe σ vs := eσ.trans (wipe_wipe vs σ)
      refine ⟨eσ', ?_⟩
      refine ht _ σ2 H' W3 r3 _ R4 ((Wp.bnd q2).mono (fun p2 q3 H4 W4 R5 s4 => ?_) fun x st hx => XP.nest R3 hx)
      have wipeBack : ∀ {H5 : Hp} {W5 : Wd} {r5 : RE}, RR K (nest c H' W3) σ2 H5 W5 r5 → RR K c (L2.wipe σ vs) H5 W5 ⟨wipeL r.s vs, r5.st⟩ ∧ H5 Dn = some (.lst av) ∧ W5.g Dn = none ∧ Dn ∉ W5.b := fun {H5 W5 r5} R6 => by
        have R7 := RR.leave R3 R6
        have R8 := RR.old R2 (x3.sub.trans R6.g0) R7
        obtain ⟨k3, _⟩ := R6.ke Dn _ hD3
        refine ⟨R8, (k3 hb3).2 hGD3, ?_, fun z => ?_⟩
        · cases q : W5.g Dn with
          | none => rfl
          | some u =>
            rcases R6.gr Dn u q with z | z
            · exact absurd hGD3 z
            · have z' : H' Dn = none := z
              rw [hD3] at z'; cases z'
        · rcases (R6.cg Dn z).2 with y | y
          · exact hb3 y
          · have y' : H' Dn = none := y
            rw [hD3] at y'; cases y'
      by_cases hb : p2.1 = true
      · rw [if_pos hb] at q3 ⊢
        refine he _ σ2 H4 W4 p2.2 _ R5 ((Wp.bnd q3).mono (fun p3 q4 v H5 W5 R6 s5 h5 => ?_) fun x st hx => XP.nest R3 hx)
        obtain ⟨R8, hD5, hG5, hB5⟩ := wipeBack R6
        by_cases hz : acc.length < 1000000
        · rw [if_pos hz] at q4
          refine ⟨av, hD5, lim_lt (by rw [← repL_len hacc]; exact hz), W5, p3.2.st, acc ++ [p3.1], av ++ [v], ?_, ((s2.trans x3.sub).trans s4).trans s5, upd_same, hG5, hB5, repL_app (hacc.mono ((x3.sub.trans s4).trans s5)) (repL_one h5), q4⟩
          exact RR.other R8 hG5 heD hB5 hlD
        · rw [if_neg hz] at q4; exact q4.elim
      · rw [if_neg hb] at q3 ⊢
        obtain ⟨R8, hD5, hG5, hB5⟩ := wipeBack R5
        exact ⟨W4, p2.2.st, acc, av, R8, (s2.trans x3.sub).trans s4, hD5, hG5, hB5, hacc.mono (x3.sub.trans s4), q3⟩
  · rintro H2 ⟨W2, so, acc, av, R2, s2, hD, hGD, hB, hacc, q2⟩
    rw [List.drop_length] at q2
    exact q2 H2 W2 (RR.old R1 s2 R2) s2 ⟨hGD, heD, hB, ⟨Dn, av, rfl, hD, hacc⟩⟩
theorem sndf_comp {wi : TI} {g : TG} {tt : TT} {te : TE} {vs : List Nat} {mi : RE → Out (List D × RE)} {st : D → RE → Option RE} {mt : RE → Out (Bool × RE)} {me : RE → Out (D × RE)}
    (hgv : GV g vs) (hi : SndI K E wi mi) (hg : GS K E g st) (ht : SndT K E tt mt) (he : Snd K E te me) : SndF K E (tLc wi g tt te vs) (mComp vs mi st mt me) := fun c σ H W r Q R w => by
  refine hi c σ H W r _ R ((Wp.bnd w).mono (fun p q J H1 W1 Gp Y R1 s1 wk hG hY => ?_) fun _ _ x => x)
  obtain ⟨ds, r1⟩ := p
  intro Dn hDn
  exact comp_core (Qd := fun H' => Q (.ref Dn) H') hgv hg ht he R1 wk hG hY hDn ((Wp.bnd q).mono (fun q2 h2 H' W' R' s' f => h2 Dn H' W' R' (s1.trans s') f) fun _ _ x => x)
end
end Mir

set_option maxHeartbeats 4000000
namespace Mir
open PySem PySem.Spec PyProof.Rows L2

section
variable {K : PySem.W.Frag} {E : XK} {c : Fm} {σ σ' : L2.St} {H H' : Hp} {W W' : Wd} {r r' : RE}
/-! ## methods that change a cell -/
@[simp] def tyD : D → Option String
  | .lst _ => some "list"
  | .dic _ => some "dict"
  | .dct _ => some "dict"
  | _ => none
theorem tyD_ok {d : D} {v : V} {T : String} (e : tyD d = some T) (h : Own K H W d v) : tyV K T v H := by
  cases d <;> simp only [tyD, reduceCtorEq, Option.some.injEq] at e <;> subst e
  · obtain ⟨a, vs, ea, ha, _⟩ := h; subst ea; exact .inl ⟨rfl, vs, SqL.of ha⟩
  · obtain ⟨a, vs, ea, ha, _⟩ := h; subst ea; exact .inr (.inr (.inl ⟨rfl, .inl ⟨_, ha⟩⟩))
  · obtain ⟨a, vs, ea, ha, _⟩ := h; subst ea; exact .inr (.inr (.inl ⟨rfl, .inr ⟨_, ha⟩⟩))
@[simp] def isLck : D → Bool
  | .lck _ => true
  | _ => false
theorem Own.nofrz {d : D} {a : Addr} (e : isLck d = false) (h : Own K H W d (.ref a)) : ∀ ob v, H a ≠ some (.frz ob v) := by
  intro ob v z
  unfold Own at h
  split at h
  · obtain ⟨b, us, eb, q, r⟩ := h; cases eb; rw [z] at q; cases q
  · obtain ⟨b, us, eb, q, r⟩ := h; cases eb; rw [z] at q; cases q
  · obtain ⟨b, us, eb, q, r⟩ := h; cases eb; rw [z] at q; cases q
  · obtain ⟨b, dx, us, eb, q, r⟩ := h; cases eb; rw [z] at q; cases q
  · cases e
  · cases e
  · cases e
  · exact h.elim
theorem tyD_nl {d : D} {T : String} (e : tyD d = some T) : isLck d = false := by
  cases d <;> first | rfl | cases e
def MutS (K : PySem.W.Frag) (rr : V → List V → Hp → VK → Prop) (f : D → List D → Out (D × D)) : Prop := ∀ (a : Addr) (H : Hp) (W : Wd) (d res d' : D) (ds : List D) (vs : List V) (Q : VK), Sub W.g H → W.g a = none → Own K H W d (.ref a) → RepL K W ds vs → f d ds = .ok (res, d') →
  (∀ o v, Own K (upd H a o) W d' (.ref a) → RepD K W res v → Q v (upd H a o)) → rr (.ref a) vs H Q
@[simp] def mMut (me : RE → Out (D × RE)) (T : String) (f : D → List D → Out (D × D)) (ms : RE → Out (List D × RE)) : RE → Out (D × RE) := fun r => (me r).bnd fun x => match x.1 with
  | .cell i => match x.2.st[i]? with
    | some d0 => if tyD d0 = some T then (ms x.2).bnd fun p => match p.2.st[i]? with
        | some d => if tyD d = some T then (f d p.1).bnd fun y => .ok (y.1, ⟨p.2.s, p.2.st.set i y.2⟩) else .stuck
        | none => .stuck
      else .stuck
    | none => .stuck
  | _ => .stuck
def NoXM (f : D → List D → Out (D × D)) : Prop := ∀ a b x st, f a b ≠ .exc x st
theorem snd_mut {rr : V → List V → Hp → VK → Prop} {f : D → List D → Out (D × D)} {te : TE} {ta : TA} {me : RE → Out (D × RE)} {ms : RE → Out (List D × RE)} {T : String} (hm : MutS K rr f) (nx : NoXM f) (he : Snd K E te me) (h : SndA K E ta ms) : Snd K E (tBM K T rr te ta) (mMut me T f ms) := fun c σ H W r Q R w => by
  refine he c σ H W r _ R ((Wp.bnd w).mono (fun x w v H0 W0 R0 s0 h0 => ?_) fun _ _ x => x)
  obtain ⟨x, rx⟩ := x
  cases x <;> simp only at w <;> try exact w.elim
  rename_i i
  simp only [RepD] at h0
  obtain ⟨a, ha, rfl⟩ := h0
  split at w
  · rename_i d0 e0
    split at w
    · rename_i hT
      refine ⟨tyD_ok hT (R0.ce i d0 a e0 ha), ?_⟩
      refine h c σ H0 W0 rx _ R0 ((Wp.bnd w).mono (fun p q vs H1 W1 R1 s1 h1 => ?_) fun _ _ x => x)
      have ha1 := s1.p i a ha
      split at q
      · rename_i d e1
        split at q
        · rename_i hT1
          have ho := R1.ce i d a e1 ha1
          cases e : f d p.1 with
          | ok x =>
            rw [e] at q
            obtain ⟨res, d'⟩ := x
            refine hm a H1 W1 d res d' p.1 vs Q R1.gh (R1.cg a (List.mem_iff_getElem?.mpr ⟨i, ha1⟩)).1 ho h1 e fun o v own rep => ?_
            exact q v _ W1 (R1.mut e1 ha1 (ho.nofrz (tyD_nl hT1)) own) (s0.trans s1) rep
          | exc x st => exact absurd e (nx _ _ _ _)
          | stuck => rw [e] at q; exact q.elim
        · exact q.elim
      · exact q.elim
    · exact w.elim
  · exact w.elim
theorem snd_mut0 {rr : V → List V → Hp → VK → Prop} {f : D → List D → Out (D × D)} {te : TE} {me : RE → Out (D × RE)} {T : String} (hm : MutS K rr f) (nx : NoXM f) (he : Snd K E te me) : Snd K E (tBM0 K T rr te) (mMut me T f mNil) := fun c σ H W r Q R w => by
  have := snd_mut (T := T) hm nx he (snd_nil (K := K) (E := E)) c σ H W r Q R w
  exact this
@[simp] def fAppend : D → List D → Out (D × D)
  | .lst xs, [d] => if xs.length < 1000000 then .ok (.non, .lst (xs ++ [d])) else .stuck
  | _, _ => .stuck
theorem mut_append : MutS K rAppend fAppend := fun a H W d res d' ds vs Q s ga ho hl e k => by
  cases d <;> simp only [fAppend, reduceCtorEq] at e
  match ds, hl, e with
  | [x], hl, e =>
    simp only at e
    split at e
    · rename_i hz
      cases e
      obtain ⟨a', us, ea, ha, la⟩ := ho
      cases ea
      simp only [RepL] at hl
      obtain ⟨v, _, rfl, hv, rfl⟩ := hl
      refine ⟨a, us, v, rfl, rfl, ha, lim_lt (by rw [← repL_len la]; exact hz), k _ .non ⟨a, _, rfl, upd_same, repL_app la (repL_one hv)⟩ repD_non⟩
    · cases e
theorem nx_append : NoXM fAppend := fun a b x st h => by
  unfold fAppend at h
  split at h
  · split at h <;> cases h
  · cases h
@[simp] def fPop : D → List D → Out (D × D)
  | .lst xs, [] => match xs.getLast? with
    | some d => .ok (d, .lst xs.dropLast)
    | none => .stuck
  | _, _ => .stuck
theorem repL_dropLast : ∀ {ds : List D} {vs : List V}, RepL K W ds vs → RepL K W ds.dropLast vs.dropLast
  | [], vs, h => by simp only [RepL] at h; subst h; simp only [List.dropLast_nil, RepL]
  | [d], vs, h => by
    simp only [RepL] at h
    obtain ⟨v, us, e, q, t⟩ := h
    subst e; subst t
    show RepL K W [] []
    simp only [RepL]
  | d :: d2 :: ds, vs, h => by
    simp only [RepL] at h
    obtain ⟨v, us, e, q, v2, us2, e2, q2, t⟩ := h
    subst e; subst e2
    show RepL K W (d :: (d2 :: ds).dropLast) (v :: (v2 :: us2).dropLast)
    have := repL_dropLast (ds := d2 :: ds) (vs := v2 :: us2) (by simp only [RepL]; exact ⟨v2, us2, rfl, q2, t⟩)
    simp only [RepL]
    exact ⟨v, _, rfl, q, this⟩
theorem mut_pop : MutS K rPop fPop := fun a H W d res d' ds vs Q s ga ho hl e k => by
  cases d <;> simp only [fPop, reduceCtorEq] at e
  match ds, hl, e with
  | [], hl, e =>
    simp only at e
    split at e
    · rename_i x hx
      cases e
      obtain ⟨a', us, ea, ha, la⟩ := ho
      cases ea
      simp only [RepL] at hl
      subst hl
      rename_i xs
      rw [List.getLast?_eq_getElem?] at hx
      obtain ⟨v, hv, hd⟩ := repL_get2 la hx
      rw [repL_len la] at hv
      exact ⟨a, us, v, rfl, rfl, ha, hv, k _ v ⟨a, _, rfl, upd_same, repL_dropLast la⟩ hd⟩
    · cases e
theorem nx_pop : NoXM fPop := fun a b x st h => by
  unfold fPop at h
  split at h
  · split at h <;> cases h
  · cases h

/-! ## displays -/
@[simp] def mLst (ms : RE → Out (List D × RE)) : RE → Out (D × RE) := fun r => (ms r).bnd fun p => if p.1.length ≤ 1000000 then .ok (.lst p.1, p.2) else .stuck
@[simp] def mTup (ms : RE → Out (List D × RE)) : RE → Out (D × RE) := fun r => (ms r).bnd fun p => if p.1.length ≤ 1000000 then .ok (.tup p.1, p.2) else .stuck
theorem sndf_lst {ta : TA} {ms : RE → Out (List D × RE)} (h : SndA K E ta ms) : SndF K E (tLst ta) (mLst ms) := fun c σ H W r Q R w => by
  refine h c σ H W r _ R ((Wp.bnd w).mono (fun p q vs H1 W1 R1 s1 h1 => ?_) fun _ _ x => x)
  · split at q
    · rename_i hz
      have rl := h1
      refine ⟨lim_le (by rw [← repL_len rl]; exact hz), fun a ha => ?_⟩
      obtain ⟨R2, f2⟩ := R1.fresh (o := .lst vs) (d := .lst p.1) ha ⟨a, vs, rfl, upd_same, rl⟩
      exact q a _ W1 R2 s1 f2
    · exact q.elim
theorem snd_tup {ta : TA} {ms : RE → Out (List D × RE)} (h : SndA K E ta ms) : Snd K E (tTup ta) (mTup ms) := fun c σ H W r Q R w => by
  refine h c σ H W r _ R ((Wp.bnd w).mono (fun p q vs H1 W1 R1 s1 h1 => ?_) fun _ _ x => x)
  · split at q
    · rename_i hz
      have rl := h1
      refine ⟨lim_le (by rw [← repL_len rl]; exact hz), fun a ha => ?_⟩
      have x := Ext.alloc (o := .tup vs) R1.gh ha
      refine q (.ref a) _ _ (R1.ext x) (s1.trans x.sub) ?_
      simp only [RepD]
      exact ⟨a, vs, rfl, upd_same, rl.mono x.sub⟩
    · exact q.elim
/-! ## slices -/
@[simp] def mNoP : RE → Out (Option Int × RE) := fun r => .ok (none, r)
@[simp] def mPart (m : RE → Out (D × RE)) : RE → Out (Option Int × RE) := fun r => (m r).bnd fun p => match p.1 with
  | .int i => .ok (some i, p.2)
  | _ => .stuck
def SndP (K : PySem.W.Frag) (E : XK) (tp : TO) (m : RE → Out (Option Int × RE)) : Prop := ∀ (c : Fm) (σ : L2.St) (H : Hp) (W : Wd) (r : RE) (Q : Option Int → Hp → Prop), RR K c σ H W r →
  Wp (m r) (fun p => ∀ H' W', RR K c σ H' W' p.2 → Le W W' → Q p.1 H') (XP K c E) → tp σ H Q
theorem sndp_none : SndP K E tNoPart mNoP := fun c σ H W r Q R w => w H W R (Le.refl W)
theorem sndp_some {te : TE} {m : RE → Out (D × RE)} (h : Snd K E te m) : SndP K E (tPart te) (mPart m) := fun c σ H W r Q R w => by
  refine h c σ H W r _ R ((Wp.bnd w).mono (fun p q v H1 W1 R1 s1 h1 => ?_) fun _ _ x => x)
  obtain ⟨d, r'⟩ := p
  cases d <;> simp only at q <;> try exact q.elim
  simp only [RepD] at h1
  exact ⟨_, h1, q H1 W1 R1 s1⟩
def cutD (xs : List D) (lo hi : Option Int) : List D := (xs.drop (HT.sIx xs.length 0 lo)).take (HT.sIx xs.length xs.length hi - HT.sIx xs.length 0 lo)
theorem repL_drop : ∀ {ds : List D} {vs : List V} (n : Nat), RepL K W ds vs → RepL K W (ds.drop n) (vs.drop n)
  | _, _, 0, h => h
  | [], vs, n + 1, h => by simp only [RepL] at h; subst h; simp only [List.drop_nil, RepL]
  | d :: ds, vs, n + 1, h => by
    simp only [RepL] at h
    obtain ⟨v, us, e, _, t⟩ := h
    subst e
    exact repL_drop n t
theorem repL_take : ∀ {ds : List D} {vs : List V} (n : Nat), RepL K W ds vs → RepL K W (ds.take n) (vs.take n)
  | _, _, 0, h => by simp only [List.take_zero, RepL]
  | [], vs, n + 1, h => by simp only [RepL] at h; subst h; simp only [List.take_nil, RepL]
  | d :: ds, vs, n + 1, h => by
    simp only [RepL] at h
    obtain ⟨v, us, e, q, t⟩ := h
    subst e
    show RepL K W (d :: ds.take n) (v :: us.take n)
    simp only [RepL]
    exact ⟨v, _, rfl, q, repL_take n t⟩
theorem repL_cut {ds : List D} {vs : List V} (lo hi : Option Int) (h : RepL K W ds vs) : RepL K W (cutD ds lo hi) (cutV vs lo hi) := by
  unfold cutD cutV
  rw [repL_len h]
  exact repL_take _ (repL_drop _ h)
theorem cutD_whole {xs : List D} {lo hi : Option Int} (h : HT.sIx xs.length 0 lo = 0 ∧ HT.sIx xs.length xs.length hi = xs.length) : cutD xs lo hi = xs := by
  unfold cutD
  rw [h.1, h.2]
  simp
@[simp] def dCut : D → Option Int → Option Int → Out D
  | .lst xs, lo, hi => .ok (.lst (cutD xs lo hi))
  | .frl xs, lo, hi => .ok (.lst (cutD xs lo hi))
  | _, _, _ => .stuck
@[simp] def dCutS : D → Option Int → Option Int → Out D
  | .str z, lo, hi => if z.length ≤ 1000000 then .ok (.str (L2.cutS z lo hi)) else .stuck
  | .tup xs, lo, hi => .ok (.tup (cutD xs lo hi))
  | _, _, _ => .stuck
@[simp] def mCut (f : D → Option Int → Option Int → Out D) (m : RE → Out (D × RE)) (ml mh : RE → Out (Option Int × RE)) : RE → Out (D × RE) := fun r => (m r).bnd fun p => (ml p.2).bnd fun l => (mh l.2).bnd fun h => match dr h.2.st p.1 with
  | some d => (f d l.1 h.1).bnd fun x => .ok (x, h.2)
  | none => .stuck
theorem sndf_cut {te : TE} {tl th : TO} {m : RE → Out (D × RE)} {ml mh : RE → Out (Option Int × RE)} (h : Snd K E te m) (hl : SndP K E tl ml) (hh : SndP K E th mh) : SndF K E (tSl (rSlL K) te tl th) (mCut dCut m ml mh) := fun c σ H W r Q R w => by
  refine h c σ H W r _ R ((Wp.bnd w).mono (fun p q v H1 W1 R1 s1 h1 => ?_) fun _ _ x => x)
  refine hl c σ H1 W1 p.2 _ R1 ((Wp.bnd q).mono (fun l q H2 W2 R2 s2 => ?_) fun _ _ x => x)
  refine hh c σ H2 W2 l.2 _ R2 ((Wp.bnd q).mono (fun u q H3 W3 R3 s3 => ?_) fun _ _ x => x)
  cases e : dr u.2.st p.1 with
  | none => simp only [e] at q; exact q.elim
  | some d =>
    simp only [e] at q
    have ht := (h1.mono (s2.trans s3)).at R3 e
    have s : Le W W3 := (s1.trans s2).trans s3
    have fin : ∀ (a : Addr) (xs : List D) (vs : List V), RepL K W3 xs vs → Wp (Out.ok (D.lst (cutD xs l.1 u.1), u.2)) (fun p => ∀ a H' W', RR K c σ H' W' p.2 → Le W W' → Fresh K c H' W' p.1 a → Q (.ref a) H') (XP K c E) → H3 a = none → Q (.ref a) (upd H3 a (.lst (cutV vs l.1 u.1))) := fun a xs vs rl q ha => by
      obtain ⟨R4, f4⟩ := R3.fresh (o := .lst (cutV vs l.1 u.1)) (d := .lst (cutD xs l.1 u.1)) ha ⟨a, _, rfl, upd_same, repL_cut _ _ rl⟩
      exact q a _ W3 R4 s f4
    cases d <;> simp only [dCut, bnd_ok, bnd_stuck] at q <;> try exact q.elim
    · obtain ⟨a, vs, ea, ha, rl⟩ := ht
      exact ⟨a, vs, ea, SqL.of ha, fun b hb => fin b _ _ rl q hb⟩
    · obtain ⟨a, vs, ea, ha, rl⟩ := ht
      exact ⟨a, vs, ea, ha, fun b hb => fin b _ _ rl q hb⟩
abbrev rSlB (K : PySem.W.Frag) : V → Option Int → Option Int → Hp → VK → Prop := fun x lo hi H Q => rSlS x lo hi H Q ∨ L2.rSlA K x lo hi H Q
theorem SlR.or {X : Cx} {r r' : V → Option Int → Option Int → Hp → VK → Prop} (h : SlR X r) (h' : SlR X r') : SlR X (fun x lo hi H Q => r x lo hi H Q ∨ r' x lo hi H Q) := fun pins s σ H x v vl vu lo hi sl Q I rx hs pl pu hq => by
  rcases hq with q | q
  · exact h pins s σ H x v vl vu lo hi sl Q I rx hs pl pu q
  · exact h' pins s σ H x v vl vu lo hi sl Q I rx hs pl pu q
theorem snd_cutS {te : TE} {tl th : TO} {m : RE → Out (D × RE)} {ml mh : RE → Out (Option Int × RE)} (h : Snd K E te m) (hl : SndP K E tl ml) (hh : SndP K E th mh) : Snd K E (tSl (rSlB K) te tl th) (mCut dCutS m ml mh) := fun c σ H W r Q R w => by
  refine h c σ H W r _ R ((Wp.bnd w).mono (fun p q v H1 W1 R1 s1 h1 => ?_) fun _ _ x => x)
  refine hl c σ H1 W1 p.2 _ R1 ((Wp.bnd q).mono (fun l q H2 W2 R2 s2 => ?_) fun _ _ x => x)
  refine hh c σ H2 W2 l.2 _ R2 ((Wp.bnd q).mono (fun u q H3 W3 R3 s3 => ?_) fun _ _ x => x)
  cases e : dr u.2.st p.1 with
  | none => simp only [e] at q; exact q.elim
  | some d =>
    simp only [e] at q
    have ht := (h1.mono (s2.trans s3)).at R3 e
    have s : Le W W3 := (s1.trans s2).trans s3
    cases d <;> simp only [dCutS, bnd_stuck] at q <;> try exact q.elim
    · split at q
      · rename_i hz
        exact .inl ⟨_, repT_str ht, lim_le hz, q _ H3 W3 R3 s repD_str⟩
      · exact q.elim
    · have ht0 := ht
      obtain ⟨a, vs, ea, ha, rl⟩ := ht
      refine .inr ⟨a, vs, ea, SqT.of (R3.gh.tup ha), fun hz => ?_, fun hz b hb => ?_⟩
      · rw [← ea]
        refine q v H3 W3 R3 s ?_
        have : cutD _ l.1 u.1 = _ := cutD_whole (by rw [repL_len rl]; exact hz)
        rw [this]
        exact repT_tup ht0
      · have x := Ext.alloc (o := .tup (cutV vs l.1 u.1)) R3.gh hb
        refine q (.ref b) _ _ (R3.ext x) (s.trans x.sub) ?_
        simp only [RepD]
        exact ⟨b, _, rfl, upd_same, (repL_cut _ _ rl).mono x.sub⟩
/-! ## join -/
@[simp] def strsD : List D → Option (List Str)
  | [] => some []
  | .str x :: ds => (strsD ds).map (x :: ·)
  | _ :: _ => none
theorem strsD_rep : ∀ {ds : List D} {ys : List Str} {vs : List V}, strsD ds = some ys → RepL K W ds vs → vs = ys.map V.str
  | [], _, _, e, h => by cases e; simp only [RepL] at h; subst h; rfl
  | d :: ds, ys, vs, e, h => by
    cases d <;> simp only [strsD, reduceCtorEq] at e
    cases q : strsD ds with
    | none => rw [q] at e; cases e
    | some zs =>
      rw [q] at e; cases e
      simp only [RepL, RepD] at h
      obtain ⟨v, us, ev, hv, t⟩ := h
      rw [ev, hv, strsD_rep q t]
      rfl
@[simp] def dJoin (a : Str) : D → Out D
  | .lst ds => match strsD ds with
    | some ys => if (ys.map (·.length)).sum + ys.length * a.length ≤ 1000000 then .ok (.str (Str.join a ys)) else .stuck
    | none => .stuck
  | _ => .stuck
theorem nx_join {a : Str} : NoX1 (dJoin a) := fun b x st h => by
  cases b <;> simp only [dJoin, reduceCtorEq] at h
  split at h
  · split at h <;> cases h
  · cases h
theorem snd_join {a : Str} {te : TE} {mb : RE → Out (D × RE)} (hb : Snd K E te mb) : Snd K E (tM1 (fun x xs H Q => ∃ a p, ∃ ys : List Str, x = .str a ∧ xs = [.ref p] ∧ (SqL K H p (ys.map V.str) ∨ SqT K H p (ys.map V.str)) ∧
      (ys.map (·.length)).sum + ys.length * a.length ≤ 16777216 ∧ Q (.str (Txt.join a ys)) H) (tC (.str a)) te) (mOp1 (dJoin a) mb) := fun c σ H W r Q R w => by
  refine ⟨⟨a, rfl⟩, ?_⟩
  refine hb c σ H W r _ R ((Wp.bnd w).mono (fun p2 q2 v2 H2 W2 R2 s2 h2 => ?_) fun _ _ x => x)
  cases e2 : dr p2.2.st p2.1 with
  | none => simp only [e2] at q2; exact q2.elim
  | some dy =>
    simp only [e2] at q2
    obtain ⟨d, hd, q3⟩ := wp_f1 nx_join q2
    have ht := h2.at R2 e2
    cases dy <;> simp only [dJoin, reduceCtorEq] at hd
    split at hd
    · rename_i ys hy
      split at hd
      · rename_i hz
        cases hd
        obtain ⟨b, vs, eb, hb', rl⟩ := ht
        have hv := strsD_rep hy rl
        subst hv
        exact ⟨a, b, ys, rfl, by rw [eb], .inl (SqL.of hb'), Nat.le_trans hz (by decide), by rw [TL.join_eq]; exact q3 _ H2 W2 R2 s2 repD_str⟩
      · cases hd
    · cases hd
end
end Mir

set_option maxHeartbeats 4000000
namespace Mir
open PySem PySem.Spec PyProof.Rows L2
/-! ## the rules, by syntax -/
section
variable {X : Cx} {E : XK} {a b c e : PySem.Expr} {es : List PySem.Expr} {pos p : Pos} {x : Str}
variable {ma mb m oa ob oc : RE → Out (D × RE)} {mt mu : RE → Out (Bool × RE)} {as_ : RE → Out (List D × RE)} {ms mz : RE → Out Fl}
/-! names and constants -/
theorem em_var (i : Nat) (hN : X.N[i]? = some x := by rfl) (hv : Vis X.env.scope x := by first | exact Or.inl rfl | exact Or.inr (Or.inl rfl) | exact Or.inr (Or.inr rfl)) (hd : (x == ("__debug__" : Str)) = false := by decide)
    (hcd : (x == ("__classdict__" : Str)) = false := by decide) : EM X E (.Name x pos) (mVar i) := ⟨_, pe_var hN hv hd hcd, snd_var⟩
/-- what is new is no locked thing -/
def NL (m : RE → Out (D × RE)) : Prop := ∀ r d r', m r = .ok (d, r') → isLck d = false
theorem unlck_nl {d : D} (h : isLck d = false) : unlck d = d := by
  cases d <;> first | rfl | cases h
/-- frozen -/
theorem ef (h : FM X E e m) (hu : NL m) : EM X E e m := let ⟨_, h1, h2⟩ := h; ⟨_, h1, snd_of_f h2 fun r d r' q => unlck_nl (hu r d r' q)⟩
/-- as a cell -/
theorem ecl (h : FM X E e m) : EM X E e (mCell m) := let ⟨_, h1, h2⟩ := h; ⟨_, h1, snd_cell h2⟩
theorem nl_bnd {α : Type} {m : RE → Out α} {g : α → Out (D × RE)} (h : ∀ a d r', g a = .ok (d, r') → isLck d = false) : NL (fun r => (m r).bnd g) := fun r d r' e => by
  have e' : (m r).bnd g = .ok (d, r') := e
  cases q : m r with
  | ok a => rw [q] at e'; exact h a d r' e'
  | exc x st => rw [q] at e'; cases e'
  | stuck => rw [q] at e'; cases e'
theorem nl_lst {ms : RE → Out (List D × RE)} : NL (mLst ms) := nl_bnd fun a d r' e => by
  split at e
  · cases e; rfl
  · cases e
theorem nl_args {f : List D → Out D} {ms : RE → Out (List D × RE)} (h : ∀ ds d, f ds = .ok d → isLck d = false) : NL (mArgs f ms) := nl_bnd fun a d r' e => by
  split at e
  · rename_i ds q
    cases q2 : f ds with
    | ok d2 => rw [q2] at e; cases e; exact h ds _ q2
    | exc x st => rw [q2] at e; cases e
    | stuck => rw [q2] at e; cases e
  · cases e
theorem nl_cut {m : RE → Out (D × RE)} {ml mh : RE → Out (Option Int × RE)} : NL (mCut dCut m ml mh) := fun r d r' e => by
  unfold mCut at e
  cases h1 : m r with
  | ok a =>
    rw [h1, bnd_ok] at e
    cases h2 : ml a.2 with
    | ok b =>
      rw [h2, bnd_ok] at e
      cases h3 : mh b.2 with
      | ok c =>
        rw [h3, bnd_ok] at e
        split at e
        · rename_i d0 q
          cases d0 <;> simp only [dCut, bnd_ok, bnd_stuck, reduceCtorEq] at e <;> (cases e; rfl)
        · cases e
      | exc x st => rw [h3] at e; cases e
      | stuck => rw [h3] at e; cases e
    | exc x st => rw [h2] at e; cases e
    | stuck => rw [h2] at e; cases e
  | exc x st => rw [h1] at e; cases e
  | stuck => rw [h1] at e; cases e
theorem nl_comp {vs : List Nat} {mi : RE → Out (List D × RE)} {st : D → RE → Option RE} {mt : RE → Out (Bool × RE)} {me : RE → Out (D × RE)} : NL (mComp vs mi st mt me) := nl_bnd fun a d r' e => by
  cases q : mCompL (wipeL a.2.s vs) st mt me a.1 a.2.st [] with
  | ok b => rw [q] at e; cases e; rfl
  | exc x st => rw [q] at e; cases e
  | stuck => rw [q] at e; cases e
theorem em_int {i : Int} {j : Nat} : EM X E (.Constant (.int i) j pos) (mC (.int i)) := ⟨_, pe_int, snd_c fun _ => repD_int⟩
theorem em_bl {i : Bool} {j : Nat} : EM X E (.Constant (.bool i) j pos) (mC (.bl i)) := ⟨_, pe_bl, snd_c fun _ => repD_bl⟩
theorem em_non {j : Nat} : EM X E (.Constant .none j pos) (mC .non) := ⟨_, pe_non, snd_c fun _ => repD_non⟩
theorem em_str {i : Str} {j : Nat} : EM X E (.Constant (.str i) j pos) (mC (.str i)) := ⟨_, pe_str, snd_c fun _ => repD_str⟩
theorem em_gint {i : Int} (hm : ∃ t, X.mg x = some (.int i t)) (hg : Gl X x := by rfl) (hd : (x == ("__debug__" : Str)) = false := by decide) : EM X E (.Name x pos) (mC (.int i)) := let ⟨_, hm⟩ := hm; ⟨_, pe_glob (v := .int i) hg hm ⟨_, rfl⟩ hd, snd_c fun _ => repD_int⟩
theorem em_gstr {i : Str} (hm : ∃ t, X.mg x = some (.str i t)) (hg : Gl X x := by rfl) (hd : (x == ("__debug__" : Str)) = false := by decide) : EM X E (.Name x pos) (mC (.str i)) := let ⟨_, hm⟩ := hm; ⟨_, pe_glob (v := .str i) hg hm ⟨_, rfl⟩ hd, snd_c fun _ => repD_str⟩
/-- a built-in class as a value -/
theorem em_ty {n : String} (hm : X.mg x = none) (hv : bootBuiltins x = some (.type n)) (hg : Gl X x := by rfl) (hn : x ≠ "__name__" := by decide) (hd : (x == ("__debug__" : Str)) = false := by decide) : EM X E (.Name x pos) (mC (.ty n)) :=
  ⟨_, pe_bltn (v := .ty n) hg hm hv rfl hn hd, snd_c fun _ => by simp only [RepD]⟩
/-! operators -/
theorem em_op {op : Operator} {rr : R2} {f : D → D → Out D} (hr : OpR X (binaryOp op) rr) (hs : OpS X.K rr f) (nx : NoX2 f) (ha : EM X E a oa) (hb : EM X E b ob) : EM X E (.BinOp a op b pos) (mOp2 f oa ob) :=
  let ⟨_, h1, h2⟩ := ha; let ⟨_, h3, h4⟩ := hb; ⟨_, pe_op hr h1 h3, snd_op2 hs nx h2 h4⟩
theorem em_add (ha : EM X E a oa) (hb : EM X E b ob) : EM X E (.BinOp a .Add b pos) (mOp2 dAdd oa ob) := em_op (OpR.or op_add (OpR.or op_add_str (OpR.or op_cat op_catA))) ops_add nx_add ha hb
theorem em_sub (ha : EM X E a oa) (hb : EM X E b ob) : EM X E (.BinOp a .Sub b pos) (mOp2 dSub oa ob) := em_op op_sub ops_sub nx_sub ha hb
theorem em_mul (ha : EM X E a oa) (hb : EM X E b ob) : EM X E (.BinOp a .Mult b pos) (mOp2 dMul oa ob) := em_op (OpR.or op_mul op_rep) ops_mul nx_mul ha hb
theorem em_mod (ha : EM X E a oa) (hb : EM X E b ob) : EM X E (.BinOp a .Mod b pos) (mOp2 dMod oa ob) := em_op op_mod ops_mod nx_mod ha hb
theorem em_div (ha : EM X E a oa) (hb : EM X E b ob) : EM X E (.BinOp a .FloorDiv b pos) (mOp2 dDiv oa ob) := em_op op_fdiv ops_div nx_div ha hb
theorem em_pow (ha : EM X E a oa) (hb : EM X E b ob) : EM X E (.BinOp a .Pow b pos) (mOp2 dPow oa ob) := em_op op_pow ops_pow nx_pow ha hb
theorem em_cmp {op : CmpOp} {rr : R2} {f : D → D → Out D} (hr : OpR X (compareOp op) rr) (hs : OpS X.K rr f) (nx : NoX2 f) (ha : EM X E a oa) (hb : EM X E b ob) (hm : behindInMarks op b = false) : EM X E (.Compare a [op] [b] pos) (mOp2 f oa ob) :=
  let ⟨_, h1, h2⟩ := ha; let ⟨_, h3, h4⟩ := hb; ⟨_, pe_cmpR hr h1 h3 hm, snd_op2 hs nx h2 h4⟩
theorem tm_cmp {op : CmpOp} {rr : R2} {f : D → D → Out D} (hr : OpR X (compareOp op) rr) (hs : OpS X.K rr f) (nx : NoX2 f) (ha : EM X E a oa) (hb : EM X E b ob) (hm : behindInMarks op b = false) : TM X E (.Compare a [op] [b] pos) (mBool (mOp2 f oa ob)) :=
  let ⟨_, h1, h2⟩ := ha; let ⟨_, h3, h4⟩ := hb; ⟨_, pt_cmpR hr h1 h3 hm, snd_test (snd_op2 hs nx h2 h4)⟩
/-- which comparison: its rule, what it does -/
structure CmpK (X : Cx) (op : CmpOp) (f : D → D → Out D) : Prop where
  ex : ∃ rr, OpR X (compareOp op) rr ∧ OpS X.K rr f
  nx : NoX2 f
theorem k_lt : CmpK X .Lt dLt := ⟨⟨_, OpR.or op_lt op_lt_str, ops_lt⟩, nx_lt⟩
theorem k_le : CmpK X .LtE dLe := ⟨⟨_, op_le, ops_le⟩, nx_le⟩
theorem k_gt : CmpK X .Gt dGt := ⟨⟨_, op_gt, ops_gt⟩, nx_gt⟩
theorem k_ge : CmpK X .GtE dGe := ⟨⟨_, op_ge, ops_ge⟩, nx_ge⟩
theorem k_eqS : CmpK X .Eq dEqS := ⟨⟨_, op_eq, ops_eqS⟩, nx_eqS⟩
theorem k_neS : CmpK X .NotEq dNeS := ⟨⟨_, op_ne, ops_neS⟩, nx_neS⟩
theorem k_isN : CmpK X .Is dIs := ⟨⟨_, op_isN, ops_is⟩, nx_is⟩
theorem k_notN : CmpK X .IsNot dIsNot := ⟨⟨_, op_notN, ops_isNot⟩, nx_isNot⟩
theorem k_inS : CmpK X .In dInS := ⟨⟨_, op_in_sign, ops_inS⟩, nx_inS⟩
theorem k_notInS : CmpK X .NotIn dNotInS := ⟨⟨_, op_notIn_sign, ops_notInS⟩, nx_notInS⟩
theorem ec {op : CmpOp} {f : D → D → Out D} (k : CmpK X op f) (ha : EM X E a oa) (hb : EM X E b ob) (hm : behindInMarks op b = false := by first | exact nomark _ | rfl) : EM X E (.Compare a [op] [b] pos) (mOp2 f oa ob) := let ⟨_, h1, h2⟩ := k.ex; em_cmp h1 h2 k.nx ha hb hm
theorem tc {op : CmpOp} {f : D → D → Out D} (k : CmpK X op f) (ha : EM X E a oa) (hb : EM X E b ob) (hm : behindInMarks op b = false := by first | exact nomark _ | rfl) : TM X E (.Compare a [op] [b] pos) (mBool (mOp2 f oa ob)) := let ⟨_, h1, h2⟩ := k.ex; tm_cmp h1 h2 k.nx ha hb hm
/-- a <= b <= c -/
@[simp] def mChain (f g : D → D → Out D) (ma mb mc : RE → Out (D × RE)) : RE → Out (D × RE) := fun r => (ma r).bnd fun x => (mb x.2).bnd fun y => match dr y.2.st x.1, dr y.2.st y.1 with
  | some dx, some dy => (f dx dy).bnd fun d => (asB d).bnd fun k => if k = true then (mc y.2).bnd fun z => match dr z.2.st y.1, dr z.2.st z.1 with
      | some dy', some dz => (g dy' dz).bnd fun d => .ok (d, z.2)
      | _, _ => .stuck
    else .ok (.bl false, y.2)
  | _, _ => .stuck
theorem snd_chain {K : PySem.W.Frag} {rr rr' : R2} {f g : D → D → Out D} {ta tb tc : TE} (hs : OpS K rr f) (nx : NoX2 f) (hs' : OpS K rr' g) (nx' : NoX2 g) (ha : Snd K E ta oa) (hb : Snd K E tb ob) (hc : Snd K E tc oc) : Snd K E (tChain rr rr' ta tb tc) (mChain f g oa ob oc) := fun c σ H W r Q R w => by
  refine ha c σ H W r _ R ((Wp.bnd w).mono (fun p q v1 H1 W1 R1 s1 h1 => ?_) fun _ _ x => x)
  refine hb c σ H1 W1 p.2 _ R1 ((Wp.bnd q).mono (fun p2 q2 v2 H2 W2 R2 s2 h2 => ?_) fun _ _ x => x)
  cases e1 : dr p2.2.st p.1 with
  | none => simp only [e1] at q2; exact q2.elim
  | some dx =>
    cases e2 : dr p2.2.st p2.1 with
    | none => simp only [e1, e2] at q2; exact q2.elim
    | some dy =>
      simp only [e1, e2] at q2
      cases e3 : f dx dy with
      | exc x st => exact absurd e3 (nx _ _ _ _)
      | stuck => rw [e3] at q2; exact q2.elim
      | ok d =>
        rw [e3, bnd_ok] at q2
        refine hs v1 v2 H2 W2 dx dy _ R2.gh ((h1.mono s2).at R2 e1) (h2.at R2 e2) d e3 fun v H3 W3 x3 rep => ?_
        cases d <;> simp only [asB, bnd_ok, bnd_stuck] at q2 <;> try exact q2.elim
        rename_i k
        simp only [RepD] at rep
        refine ⟨k, rep, ?_⟩
        have R3 := R2.ext x3
        by_cases hk : k = true
        · rw [if_pos hk] at q2 ⊢
          refine hc c σ H3 W3 p2.2 _ R3 ((Wp.bnd q2).mono (fun p4 q4 v4 H4 W4 R4 s4 h4 => ?_) fun _ _ x => x)
          cases e5 : dr p4.2.st p2.1 with
          | none => simp only [e5] at q4; exact q4.elim
          | some dy' =>
            cases e6 : dr p4.2.st p4.1 with
            | none => simp only [e5, e6] at q4; exact q4.elim
            | some dz =>
              simp only [e5, e6] at q4
              obtain ⟨d', hd', q5⟩ := wp_f2 nx' q4
              exact hs' v2 v4 H4 W4 dy' dz Q R4.gh ((h2.mono (x3.sub.trans s4)).at R4 e5) (h4.at R4 e6) d' hd' fun v H' W' x rep => q5 v H' W' (R4.ext x) ((((s1.trans s2).trans x3.sub).trans s4).trans x.sub) rep
        · rw [if_neg hk] at q2 ⊢
          exact q2 _ H3 W3 R3 ((s1.trans s2).trans x3.sub) repD_bl
theorem ech {op op' : CmpOp} {f g : D → D → Out D} (k : CmpK X op f) (k' : CmpK X op' g) (ha : EM X E a oa) (hb : EM X E b ob) (hc : EM X E c oc) (hm : lastMarks [op, op'] [b, c] = false := by with_unfolding_all rfl) : EM X E (.Compare a [op, op'] [b, c] pos) (mChain f g oa ob oc) :=
  let ⟨_, h1, h2⟩ := ha; let ⟨_, h3, h4⟩ := hb; let ⟨_, h5, h6⟩ := hc; let ⟨_, r1, r2⟩ := k.ex; let ⟨_, r3, r4⟩ := k'.ex
  ⟨_, pe_chain r1 r3 h1 h3 h5 hm, snd_chain r2 k.nx r4 k'.nx h2 h4 h6⟩
theorem tch {op op' : CmpOp} {f g : D → D → Out D} (k : CmpK X op f) (k' : CmpK X op' g) (ha : EM X E a oa) (hb : EM X E b ob) (hc : EM X E c oc) (hm : lastMarks [op, op'] [b, c] = false := by with_unfolding_all rfl) : TM X E (.Compare a [op, op'] [b, c] pos) (mBool (mChain f g oa ob oc)) :=
  let ⟨_, h1, h2⟩ := ha; let ⟨_, h3, h4⟩ := hb; let ⟨_, h5, h6⟩ := hc; let ⟨_, r1, r2⟩ := k.ex; let ⟨_, r3, r4⟩ := k'.ex
  ⟨_, pt_chain r1 r3 h1 h3 h5 hm, snd_test (snd_chain r2 k.nx r4 k'.nx h2 h4 h6)⟩
theorem em_neg (ha : EM X E a oa) : EM X E (.UnaryOp .USub a pos) (mOp1 dNeg oa) := let ⟨_, h1, h2⟩ := ha; ⟨_, pe_un un_neg h1, fun c σ H W r Q R w => by
  refine h2 c σ H W r _ R ((Wp.bnd w).mono (fun p q v H1 W1 R1 s1 r1 => ?_) fun _ _ x => x)
  cases e : dr p.2.st p.1 with
  | none => simp only [e] at q; exact q.elim
  | some d =>
    simp only [e] at q
    have ht := r1.at R1 e
    cases d <;> simp only [dNeg, bnd_ok, bnd_stuck] at q <;> try exact q.elim
    exact ⟨_, repT_int ht, q _ H1 W1 R1 s1 repD_int⟩⟩
/-! and, or, not -/
theorem em_one {op : BoolOp} (h : EM X E a ma) : EM X E (.BoolOp op [a] pos) ma := let ⟨_, h1, h2⟩ := h; ⟨_, pe_one h1, h2⟩
theorem em_and {rest : List PySem.Expr} (h : EM X E a ma) (k : EM X E (.BoolOp .And (b :: rest) pos) mb) : EM X E (.BoolOp .And (a :: b :: rest) pos) (mAnd ma mb) := let ⟨_, h1, h2⟩ := h; let ⟨_, k1, k2⟩ := k; ⟨_, pe_and h1 k1, snd_and h2 k2⟩
theorem em_or {rest : List PySem.Expr} (h : EM X E a ma) (k : EM X E (.BoolOp .Or (b :: rest) pos) mb) : EM X E (.BoolOp .Or (a :: b :: rest) pos) (mOr ma mb) := let ⟨_, h1, h2⟩ := h; let ⟨_, k1, k2⟩ := k; ⟨_, pe_or h1 k1, snd_or h2 k2⟩
theorem em_not (h : EM X E a ma) : EM X E (.UnaryOp .Not a pos) (mNot ma) := let ⟨_, h1, h2⟩ := h; ⟨_, pe_not h1, snd_not h2⟩
theorem em_ife (ht : TM X E c mt) (h : EM X E a ma) (k : EM X E b mb) : EM X E (.IfExp c a b pos) (mIfE mt ma mb) := let ⟨_, t1, t2⟩ := ht; let ⟨_, h1, h2⟩ := h; let ⟨_, k1, k2⟩ := k; ⟨_, pe_ifExp t1 h1 k1, snd_ife t2 h2 k2⟩
/-! tests -/
theorem tm_v (h : EM X E a oa) (he : ∀ whole, isTrue a X.env whole = (do let v ← whole; standAt a.pos; holding [v] (truthy v)) := by intro _; rfl) : TM X E a (mTruth oa) := let ⟨_, h1, h2⟩ := h; ⟨_, pt_truth h1 he, snd_truth h2⟩
theorem tm_b (h : EM X E a ma) (he : ∀ whole, isTrue a X.env whole = (do let v ← whole; standAt a.pos; holding [v] (truthy v)) := by intro _; rfl) : TM X E a (mBool ma) := let ⟨_, h1, h2⟩ := h; ⟨_, pt_val h1 he, snd_bool h2⟩
theorem tm_not (h : TM X E a mt) : TM X E (.UnaryOp .Not a pos) (mTNot mt) := let ⟨_, h1, h2⟩ := h; ⟨_, pt_not h1, snd_tnot h2⟩
theorem tw (h : WM X E a mt) : TM X E a mt := let ⟨_, h1, h2⟩ := h; ⟨_, PW.pt h1, h2⟩
theorem wm_and1 (h : TM X E a mt) : WM X E (.BoolOp .And [a] pos) mt := let ⟨_, h1, h2⟩ := h; ⟨_, pw_and1 h1, h2⟩
theorem wm_or1 (h : TM X E a mt) : WM X E (.BoolOp .Or [a] pos) mt := let ⟨_, h1, h2⟩ := h; ⟨_, pw_or1 h1, h2⟩
theorem wm_and {rest : List PySem.Expr} (h : TM X E a mt) (k : WM X E (.BoolOp .And (b :: rest) pos) mu) : WM X E (.BoolOp .And (a :: b :: rest) pos) (mTAnd mt mu) := let ⟨_, h1, h2⟩ := h; let ⟨_, k1, k2⟩ := k; ⟨_, pw_and h1 k1, snd_tand h2 k2⟩
theorem wm_or {rest : List PySem.Expr} (h : TM X E a mt) (k : WM X E (.BoolOp .Or (b :: rest) pos) mu) : WM X E (.BoolOp .Or (a :: b :: rest) pos) (mTOr mt mu) := let ⟨_, h1, h2⟩ := h; let ⟨_, k1, k2⟩ := k; ⟨_, pw_or h1 k1, snd_tor h2 k2⟩
/-! arguments, calls -/
theorem am_nil : AM X E [] mNil := ⟨_, pa_nil, snd_nil⟩
theorem am_cons (h : EM X E e oa) (k : AM X E es as_) (hs : starEach (e :: es) X.env = (false, eval e X.env) :: starEach es X.env := by rfl) : AM X E (e :: es) (mCons oa as_) := let ⟨_, h1, h2⟩ := h; let ⟨_, k1, k2⟩ := k; ⟨_, pa_cons h1 k1 hs, snd_cons h2 k2⟩
/-- a built-in function -/
theorem em_cb {id : String} {rr : List V → Hp → VK → Prop} {f : List D → Out D} (hr : CallR X (.builtin id) rr) (hs : CallS X.K rr f) (nx : NoX1 f) (hm : X.mg x = none) (hv : bootBuiltins x = some (.builtin id)) (h : AM X E (e :: es) as_) (hg : Gl X x := by rfl) (hn : x ≠ "__name__" := by decide) (hdb : (x == ("__debug__" : Str)) = false := by decide)
    (he : starEach (e :: es) X.env = (false, eval e X.env) :: starEach es X.env := by rfl) (hpl : (backTo pos (starEach es X.env)).any (·.1) = false := by rfl) : EM X E (.Call (.Name x p) (e :: es) [] pos) (mArgs f as_) :=
  let ⟨_, h1, h2⟩ := h; ⟨_, pe_callB hr hg hm hv h1 hn hdb he hpl, snd_cb hs nx h2⟩
theorem em_ct {T : String} {rr : List V → Hp → VK → Prop} {f : List D → Out D} (hr : CallR X (.type T) rr) (hs : CallS X.K rr f) (nx : NoX1 f) (hm : X.mg x = none) (hv : bootBuiltins x = some (.type T)) (h : AM X E (e :: es) as_) (hg : Gl X x := by rfl) (hn : x ≠ "__name__" := by decide) (hdb : (x == ("__debug__" : Str)) = false := by decide)
    (he : starEach (e :: es) X.env = (false, eval e X.env) :: starEach es X.env := by rfl) (hpl : (backTo pos (starEach es X.env)).any (·.1) = false := by rfl) : EM X E (.Call (.Name x p) (e :: es) [] pos) (mArgs f as_) :=
  let ⟨_, h1, h2⟩ := h; ⟨_, pe_callTy hr hg hm hv h1 hn hdb he hpl, snd_cb hs nx h2⟩
theorem fm_ct {T : String} {rr : List V → Hp → VK → Prop} {f : List D → Out D} (hr : CallR X (.type T) rr) (hs : CallF X.K rr f) (nx : NoX1 f) (hm : X.mg x = none) (hv : bootBuiltins x = some (.type T)) (h : AM X E (e :: es) as_) (hg : Gl X x := by rfl) (hn : x ≠ "__name__" := by decide) (hdb : (x == ("__debug__" : Str)) = false := by decide)
    (he : starEach (e :: es) X.env = (false, eval e X.env) :: starEach es X.env := by rfl) (hpl : (backTo pos (starEach es X.env)).any (·.1) = false := by rfl) : FM X E (.Call (.Name x p) (e :: es) [] pos) (mArgs f as_) :=
  let ⟨_, h1, h2⟩ := h; ⟨_, pe_callTy hr hg hm hv h1 hn hdb he hpl, sndf_cb hs nx h2⟩
theorem fm_cb {id : String} {rr : List V → Hp → VK → Prop} {f : List D → Out D} (hr : CallR X (.builtin id) rr) (hs : CallF X.K rr f) (nx : NoX1 f) (hm : X.mg x = none) (hv : bootBuiltins x = some (.builtin id)) (h : AM X E (e :: es) as_) (hg : Gl X x := by rfl) (hn : x ≠ "__name__" := by decide) (hdb : (x == ("__debug__" : Str)) = false := by decide)
    (he : starEach (e :: es) X.env = (false, eval e X.env) :: starEach es X.env := by rfl) (hpl : (backTo pos (starEach es X.env)).any (·.1) = false := by rfl) : FM X E (.Call (.Name x p) (e :: es) [] pos) (mArgs f as_) :=
  let ⟨_, h1, h2⟩ := h; ⟨_, pe_callB hr hg hm hv h1 hn hdb he hpl, sndf_cb hs nx h2⟩
/-- a def of the text -/
theorem em_call {CXx : CXT} {k n : Nat} {f : Addr} {fd : FuncData} {ps : List Str} {mf : Fn} {dd : List D} {dvs : List V} {ds : List Value} (F : FnOk X.prog X.w X.K X.mg X.base CXx k f fd ps (spP X.K n mf)) (hn : ∀ ds st, mf ds st ≠ .stuck → ds.length = n) (hr : Room k X.A) (hm : X.mg x = some (.ref f)) (hk : PySem.W.keepIn X.K (.ref f) = true)
    (hb : Binds X.K fd ps ds) (hd : Vals dvs ds) (hdd : ∀ W, RepL X.K W dd dvs) (hx : Passes CXx X E) (h : AM X E (e :: es) as_) (hg : Gl X x := by rfl) (hdb : (x == ("__debug__" : Str)) = false := by decide) (he : starEach (e :: es) X.env = (false, eval e X.env) :: starEach es X.env := by rfl)
    (hpl : (backTo pos (starEach es X.env)).any (·.1) = false := by rfl) : EM X E (.Call (.Name x p) (e :: es) [] pos) (mCall mf dd as_) :=
  let ⟨_, h1, h2⟩ := h; ⟨_, pe_call F hr hg hm hk hb hd hx h1 hdb he hpl, snd_call hn hdd h2⟩
theorem em_call0 {CXx : CXT} {k n : Nat} {f : Addr} {fd : FuncData} {ps : List Str} {mf : Fn} {dd : List D} {dvs : List V} {ds : List Value} (F : FnOk X.prog X.w X.K X.mg X.base CXx k f fd ps (spP X.K n mf)) (hn : ∀ ds st, mf ds st ≠ .stuck → ds.length = n) (hr : Room k X.A) (hm : X.mg x = some (.ref f)) (hk : PySem.W.keepIn X.K (.ref f) = true)
    (hb : Binds X.K fd ps ds) (hd : Vals dvs ds) (hdd : ∀ W, RepL X.K W dd dvs) (hx : Passes CXx X E) (hg : Gl X x := by rfl) (hdb : (x == ("__debug__" : Str)) = false := by decide) : EM X E (.Call (.Name x p) [] [] pos) (mCall mf dd mNil) :=
  ⟨_, pe_call0 F hr hg hm hk hb hd hx hdb, snd_call hn hdd snd_nil⟩
theorem em_len (hm : X.mg "len" = none) (h : EM X E e oa) (hg : Gl X "len" := by rfl) (hs : starEach [e] X.env = (false, eval e X.env) :: starEach [] X.env := by rfl) (hpl : (backTo pos (starEach [] X.env)).any (·.1) = false := by rfl) : EM X E (.Call (.Name "len" p) [e] [] pos) (mArgs (d1 dLen) (mCons oa mNil)) :=
  em_cb call_len calls_len (nox_d1 nx_len) hm PySem.boot_len (am_cons h am_nil hs) hg (by decide) (by decide) hs hpl
theorem em_toint (hm : X.mg "int" = none) (h : EM X E e oa) (hg : Gl X "int" := by rfl) (hs : starEach [e] X.env = (false, eval e X.env) :: starEach [] X.env := by rfl) (hpl : (backTo pos (starEach [] X.env)).any (·.1) = false := by rfl) : EM X E (.Call (.Name "int" p) [e] [] pos) (mArgs (d1 dInt) (mCons oa mNil)) :=
  em_ct call_int1 calls_int (nox_d1 nx_int) hm (by decide +kernel) (am_cons h am_nil hs) hg (by decide) (by decide) hs hpl
theorem em_isi (hm : X.mg "isinstance" = none) (h : EM X E a oa) (k : EM X E b ob) (hg : Gl X "isinstance" := by rfl) (hs2 : starEach [b] X.env = (false, eval b X.env) :: starEach [] X.env := by rfl) (hs : starEach [a, b] X.env = (false, eval a X.env) :: starEach [b] X.env := by rfl) (hpl : (backTo pos (starEach [b] X.env)).any (·.1) = false := by rfl) :
    EM X E (.Call (.Name "isinstance" p) [a, b] [] pos) (mArgs (d2 dIsi) (mCons oa (mCons ob mNil))) := em_cb call_isi calls_isi (nox_d2 nx_isi) hm (by decide +kernel) (am_cons h (am_cons k am_nil hs2) hs) hg (by decide) (by decide) hs hpl
/-! subscripts, displays, slices -/
theorem em_ix (ha : EM X E a oa) (hb : EM X E b ob) (hs : PlainIx b := by exact fun _ _ => rfl) : EM X E (.Subscript a b pos) (mOp2 dIx oa ob) :=
  let ⟨_, h1, h2⟩ := ha; let ⟨_, h3, h4⟩ := hb; ⟨_, pe_ix (IxR.or ix_list (IxR.or ix_tup ix_str)) h1 h3 hs, snd_op2 ops_ix nx_ix h2 h4⟩
theorem fm_lst (h : AM X E es as_) : FM X E (.List es pos) (mLst as_) := let ⟨_, h1, h2⟩ := h; ⟨_, pe_lst h1, sndf_lst h2⟩
theorem em_tup {k : Nat} (h : AM X E es as_) : EM X E (.Tuple es k pos) (mTup as_) := let ⟨_, h1, h2⟩ := h; ⟨_, pe_tup h1, snd_tup h2⟩
def PM (X : Cx) (E : XK) (e : Option PySem.Expr) (m : RE → Out (Option Int × RE)) : Prop := ∃ t, PO X e t ∧ SndP X.K E t m
theorem pm_none : PM X E none mNoP := ⟨_, po_none, sndp_none⟩
theorem pm_some (h : EM X E e m) : PM X E (some e) (mPart m) := let ⟨_, h1, h2⟩ := h; ⟨_, po_some h1, sndp_some h2⟩
variable {lo hi : Option PySem.Expr} {ml mh : RE → Out (Option Int × RE)} {p2 : Pos}
theorem fm_cut (h : EM X E e oa) (hl : PM X E lo ml) (hh : PM X E hi mh) : FM X E (.Subscript e (.Slice lo hi none p2) pos) (mCut dCut oa ml mh) := let ⟨_, h1, h2⟩ := h; let ⟨_, h3, h4⟩ := hl; let ⟨_, h5, h6⟩ := hh; ⟨_, pe_slice sl_list h1 h3 h5, sndf_cut h2 h4 h6⟩
theorem em_cutS (h : EM X E e oa) (hl : PM X E lo ml) (hh : PM X E hi mh) : EM X E (.Subscript e (.Slice lo hi none p2) pos) (mCut dCutS oa ml mh) := let ⟨_, h1, h2⟩ := h; let ⟨_, h3, h4⟩ := hl; let ⟨_, h5, h6⟩ := hh; ⟨_, pe_slice (SlR.or sl_str sl_tupA) h1 h3 h5, snd_cutS h2 h4 h6⟩
theorem em_join {s : Str} {j : Nat} {apos p3 : Pos} (h : EM X E e oa) (hs : starEach [e] X.env = [(false, eval e X.env)] := by rfl) (hbase : attributeBase (.Constant (.str s) j p3) "join" X.env (eval (.Constant (.str s) j p3) X.env) = eval (.Constant (.str s) j p3) X.env := by rfl) (hline : (apos.endLine == pos.line) = true := by rfl) :
    EM X E (.Call (.Attribute (.Constant (.str s) j p3) "join" apos) [e] [] pos) (mOp1 (dJoin s) oa) := let ⟨_, h1, h2⟩ := h; ⟨_, pe_join pe_str h1 hs hbase hline, snd_join h2⟩
/-- a method of a list, one argument -/
theorem em_append {apos : Pos} (ha : EM X E a ma) (h : EM X E e oa) (hs : starEach [e] X.env = (false, eval e X.env) :: starEach [] X.env := by rfl) (hbase : attributeBase a "append" X.env (eval a X.env) = eval a X.env := by rfl)
    (hfew : ((backTo pos (starEach [e] X.env)).all (fun x => !x.1) && (backToKw pos (keywordEach [] X.env)).all (fun x => x.1.isSome)
      && decide ([e].length + ([] : List Keyword).length + (if ([] : List Keyword).isEmpty then 0 else 1) < 30)) = true := by rfl) (hline : (apos.endLine == pos.line) = true := by rfl) (hpl : (backTo pos (starEach [] X.env)).any (·.1) = false := by rfl) :
    EM X E (.Call (.Attribute a "append" apos) [e] [] pos) (mMut ma "list" fAppend (mCons oa mNil)) :=
  let ⟨_, h1, h2⟩ := h; let ⟨_, a1, a2⟩ := ha; ⟨_, pe_bm PySem.F.plainAttrs_list PySem.F.slot_list_append PySem.F.type_list_append mt_append a1 (pa_cons h1 pa_nil hs) hbase hfew hline hs hpl, snd_mut mut_append nx_append a2 (snd_cons h2 snd_nil)⟩
theorem em_pop0 {apos : Pos} (ha : EM X E a ma) (hbase : attributeBase a "pop" X.env (eval a X.env) = eval a X.env := by rfl) (hline : (apos.endLine == pos.line) = true := by rfl) :
    EM X E (.Call (.Attribute a "pop" apos) [] [] pos) (mMut ma "list" fPop mNil) :=
  let ⟨_, a1, a2⟩ := ha; ⟨_, pe_bm0 PySem.F.plainAttrs_list PySem.F.slot_list_pop PySem.F.type_list_pop mt_pop a1 hbase hline, snd_mut0 mut_pop nx_pop a2⟩
/-! targets, walks, comprehensions -/
def GM (X : Cx) (E : XK) (tg : PySem.Expr) (st : D → RE → Option RE) (vs : List Nat) : Prop := ∃ g, PG X tg g ∧ GS X.K E g st ∧ GV g vs
theorem gm_name (i : Nat) (nd : X.N.Nodup) (hN : X.N[i]? = some x := by rfl) (hl : Loc X.env.scope x := by first | exact Or.inl rfl | exact Or.inr rfl) (hf : X.fn x = true ∨ X.env.scope.names.lookup x = some .local := by first | exact Or.inl rfl | exact Or.inr rfl) : GM X E (.Name x pos) (stName i) [i] :=
  ⟨_, pg_name nd hN hl hf, gs_name, gv_name⟩
def IM (X : Cx) (E : XK) (tg it : PySem.Expr) (m : RE → Out (List D × RE)) : Prop := ∃ wi, PI X tg it wi ∧ SndI X.K E wi m
theorem im_list {tg : PySem.Expr} (h : EM X E e m) : IM X E tg e (mItem asL m) := let ⟨_, h1, h2⟩ := h; ⟨_, pi_list h1, sndi_list h2⟩
theorem im_tup {tg : PySem.Expr} (h : EM X E e m) : IM X E tg e (mItem asT m) := let ⟨_, h1, h2⟩ := h; ⟨_, pi_tup h1, sndi_tup h2⟩
theorem im_str {tg : PySem.Expr} (h : EM X E e m) : IM X E tg e (mItem asS m) := let ⟨_, h1, h2⟩ := h; ⟨_, pi_str h1, sndi_str h2⟩
@[simp] def mRng1 (oa : RE → Out (D × RE)) : RE → Out (List D × RE) := fun r => (mCons oa mNil r).bnd fun p => match drs p.2.st p.1 with
  | some [.int j] => if -1000000 ≤ j ∧ j ≤ 1000000 then .ok (rangeD 0 j.toNat, p.2) else .stuck
  | _ => .stuck
@[simp] def mRng2 (oa ob : RE → Out (D × RE)) : RE → Out (List D × RE) := fun r => (mCons oa (mCons ob mNil) r).bnd fun p => match drs p.2.st p.1 with
  | some [.int i, .int j] => if -1000000 ≤ i ∧ i ≤ 1000000 ∧ -1000000 ≤ j ∧ j ≤ 1000000 then .ok (rangeD i (j - i).toNat, p.2) else .stuck
  | _ => .stuck
theorem im_rng1 {tg : PySem.Expr} (hm : X.mg "range" = none) (h : EM X E e oa) (hg : Gl X "range" := by rfl) (hs : starEach [e] X.env = (false, eval e X.env) :: starEach [] X.env := by rfl) (hs' : starEach [e] X.env = [(false, eval e X.env)] := by rfl) : IM X E tg (.Call (.Name "range" p) [e] [] pos) (mRng1 oa) :=
  let ⟨_, h1, h2⟩ := h; ⟨_, pi_range1 hg hm (pa_cons h1 pa_nil hs) hs', sndi_rng1 (snd_cons h2 snd_nil)⟩
theorem im_rng2 {tg : PySem.Expr} (hm : X.mg "range" = none) (h : EM X E a oa) (k : EM X E b ob) (hg : Gl X "range" := by rfl) (hs : starEach [a, b] X.env = (false, eval a X.env) :: starEach [b] X.env := by rfl) (hs2 : starEach [b] X.env = (false, eval b X.env) :: starEach [] X.env := by rfl) (hs' : starEach [a, b] X.env = [(false, eval a X.env), (false, eval b X.env)] := by rfl) (hs2' : starEach [b] X.env = [(false, eval b X.env)] := by rfl) : IM X E tg (.Call (.Name "range" p) [a, b] [] pos) (mRng2 oa ob) :=
  let ⟨_, h1, h2⟩ := h; let ⟨_, k1, k2⟩ := k; ⟨_, pi_range2 hg hm (pa_cons h1 (pa_cons k1 pa_nil hs2) hs) hs' hs2', sndi_rng2 (snd_cons h2 (snd_cons k2 snd_nil))⟩
end
end Mir

set_option maxHeartbeats 4000000
namespace Mir
open PySem PySem.Spec PyProof.Rows L2
section
variable {X : Cx} {E : XK} {a b c e : PySem.Expr} {es : List PySem.Expr} {pos p : Pos} {x : Str}
variable {ma mb m oa ob oc : RE → Out (D × RE)} {mt mu : RE → Out (Bool × RE)} {as_ : RE → Out (List D × RE)} {ms mz : RE → Out Fl} {s : Stmt} {ss st2 : List Stmt}
/-! comprehensions -/
@[simp] def mYes : RE → Out (Bool × RE) := fun r => .ok (true, r)
def TMs (X : Cx) (E : XK) (es : List PySem.Expr) (m : RE → Out (Bool × RE)) : Prop := ∃ te, PTs X es te ∧ SndT X.K E te m
theorem tms_nil : TMs X E [] mYes := ⟨_, pts_nil, fun c σ H W r Q R w => w H W R (Le.refl W)⟩
theorem tms_one (h : TM X E e mt) : TMs X E [e] mt := let ⟨_, h1, h2⟩ := h; ⟨_, pts_one h1, h2⟩
abbrev BIx := Shared × Hp × Addr × List (Str × Addr) × List Addr
abbrev Xb (X : Cx) (scope : Scope) (i : BIx) : Cx := X.blk i.1 i.2.1 scope (compEnvC scope i.2.2.2.1 i.2.2.1 X.env) i.2.2.2.2
section
variable {elt tg iter : PySem.Expr} {ifs : List PySem.Expr} {scope : Scope} {own : List (Str × Nat)} {mi : RE → Out (List D × RE)} {st : D → RE → Option RE} {me : RE → Out (D × RE)} {y : Str} {py spos : Pos}
theorem lc_all {vs : List Nat} (hg : ∀ i : BIx, GM (Xb X scope i) E tg st vs) (ht : ∀ i : BIx, TMs (Xb X scope i) E ifs mt) (he : ∀ i : BIx, EM (Xb X scope i) E elt me) :
    ∃ g tt te, (∀ i, PG (Xb X scope i) tg g) ∧ (∀ i, PTs (Xb X scope i) ifs tt) ∧ (∀ i, PE (Xb X scope i) elt te) ∧ GV g vs ∧ GS X.K E g st ∧ SndT X.K E tt mt ∧ Snd X.K E te me := by
  have hg' := fun i => Classical.choose_spec (hg i)
  have ht' := fun i => Classical.choose_spec (ht i)
  have he' := fun i => Classical.choose_spec (he i)
  exact ⟨fun v σ H Q => ∀ i, Classical.choose (hg i) v σ H Q, fun σ H Q => ∀ i, Classical.choose (ht i) σ H Q, fun σ H Q => ∀ i, Classical.choose (he i) σ H Q, fun i => ⟨fun pins s σ H v u Q I r h => (hg' i).1.run pins s σ H v u Q I r (h i)⟩, fun i => ⟨fun pins s σ H Q I h => (ht' i).1.run pins s σ H Q I (h i)⟩, fun i => ⟨fun pins s σ H Q I h => (he' i).1.run pins s σ H Q I (h i)⟩,
    fun v σ H Q Q' k h i => (hg' i).2.2 v σ H Q Q' k (h i), fun c v d σ H W r r' Q R h e k i => (hg' i).2.1 c v d σ H W r r' Q R h e k, fun c σ H W r Q R w i => (ht' i).2 c σ H W r Q R w, fun c σ H W r Q R w i => (he' i).2 c σ H W r Q R w⟩
theorem fm_lc (vs : List Nat) (own : List (Str × Nat)) (nd : X.N.Nodup) (ok : BlkOk X.N X.env.scope scope own) (hi : IM X E tg iter mi) (hg : ∀ i : BIx, GM (Xb X scope i) E tg st vs) (ht : ∀ i : BIx, TMs (Xb X scope i) E ifs mt) (he : ∀ i : BIx, EM (Xb X scope i) E elt me)
    (ho : own.map (·.2) = vs := by rfl) (hc : X.calm = true := by rfl) (hs : ∀ x, foldedSetIterable iter X.env x = pure x := by intro _; rfl) : FM X E (.ListComp elt [⟨tg, iter, ifs, 0⟩] scope pos) (mComp vs mi st mt me) := by
  obtain ⟨wi, i1, i2⟩ := hi
  obtain ⟨g, tt, te, h2, h3, h4, s1, s2, s3, s4⟩ := lc_all hg ht he
  subst ho
  exact ⟨_, pe_lc hc nd i1 ok (fun s H Ca cl fp => h2 (s, H, Ca, cl, fp)) (fun s H Ca cl fp => h3 (s, H, Ca, cl, fp)) (fun s H Ca cl fp => h4 (s, H, Ca, cl, fp)) hs, sndf_comp s1 i2 s2 s3 s4⟩
/-- y = [..], frozen or as a cell -/
theorem sm_setLc (i : Nat) (vs : List Nat) (own : List (Str × Nat)) (cel : Bool) (nd : X.N.Nodup) (ok : BlkOk X.N X.env.scope scope own) (hi : IM X E tg iter mi) (hg : ∀ i : BIx, GM (Xb X scope i) E tg st vs) (ht : ∀ i : BIx, TMs (Xb X scope i) E ifs mt) (he : ∀ i : BIx, EM (Xb X scope i) E elt me)
    (hy : X.N[i]? = some y := by rfl) (hyl : X.env.scope.names.lookup y = some .local := by rfl) (hsw : swapsWith (.ListComp elt [⟨tg, iter, ifs, 0⟩] scope pos) (some (.Name y py)) spos.line X.env = pure true := by exact sw_true rfl rfl rfl (by decide +kernel))
    (ho : own.map (·.2) = vs := by rfl) (hc : X.calm = true := by rfl) (hs : ∀ x, foldedSetIterable iter X.env x = pure x := by intro _; rfl) :
    SM X E (.Assign [.Name y py] (.ListComp elt [⟨tg, iter, ifs, 0⟩] scope pos) spos) (mSet i (if cel = true then mCell (mComp vs mi st mt me) else mComp vs mi st mt me)) := by
  obtain ⟨wi, i1, i2⟩ := hi
  obtain ⟨g, tt, te, h2, h3, h4, s1, s2, s3, s4⟩ := lc_all hg ht he
  subst ho
  refine ⟨_, ps_setLc hc nd hy hyl hsw i1 ok (fun s H Ca cl fp => h2 (s, H, Ca, cl, fp)) (fun s H Ca cl fp => h3 (s, H, Ca, cl, fp)) (fun s H Ca cl fp => h4 (s, H, Ca, cl, fp)) hs, snds_set ?_⟩
  cases cel
  · exact snd_of_f (sndf_comp s1 i2 s2 s3 s4) fun r d r' q => unlck_nl (nl_comp r d r' q)
  · exact snd_cell (sndf_comp s1 i2 s2 s3 s4)
end
/-! statements -/
theorem bm_nil : BM X E [] mNext := ⟨_, pss_nil, snds_next⟩
theorem bm_one (h : SM X E s ms) : BM X E [s] ms := let ⟨_, h1, h2⟩ := h; ⟨_, pss_one h1, h2⟩
theorem bm_cons (h : SM X E s ms) (k : BM X E ss mz) : BM X E (s :: ss) (mSeq ms mz) := let ⟨_, h1, h2⟩ := h; let ⟨_, k1, k2⟩ := k; ⟨_, pss_cons h1 k1, snds_seq h2 k2⟩
theorem sm_never : SM X E s mNever := ⟨_, ps_never, snds_never⟩
theorem bm_never : BM X E ss mNever := ⟨_, pss_never, snds_never⟩
theorem sm_pass : SM X E (.Pass pos) mNext := ⟨_, ps_pass, snds_next⟩
theorem sm_expr (h : EM X E e m) (hs : swapsWith e none pos.line X.env = pure false := by rfl) : SM X E (.Expr e pos) (mDrop m) := let ⟨_, h1, h2⟩ := h; ⟨_, ps_expr h1 hs, snds_drop h2⟩
theorem sm_if (ht : TM X E c mt) (h : BM X E ss ms) (k : BM X E st2 mz) : SM X E (.If c ss st2 pos) (mIf mt ms mz) := let ⟨_, t1, t2⟩ := ht; let ⟨_, h1, h2⟩ := h; let ⟨_, k1, k2⟩ := k; ⟨_, ps_if t1 h1 k1, snds_if t2 h2 k2⟩
theorem sm_for {tg iter : PySem.Expr} {mi : RE → Out (List D × RE)} {st : D → RE → Option RE} {vs : List Nat} (hi : IM X E tg iter mi) (hg : GM X E tg st vs) (hb : BM X E ss ms) (hp : PassesOwn (model X.prog X.w) X.A X.env X.xe) (hc : X.calm = true := by rfl) (hs : ∀ x, foldedSetIterable iter X.env x = pure x := by intro _; rfl) :
    SM X E (.For tg iter ss [] pos) (mFor mi st ms) := let ⟨_, i1, i2⟩ := hi; let ⟨_, g1, g2, _⟩ := hg; let ⟨_, h1, h2⟩ := hb; ⟨_, ps_for hp hc i1 g1 h1 hs, snds_for i2 g2 h2⟩
theorem sm_while (n : Nat) (ht : TM X E c mt) (hb : BM X E ss ms) (hp : PassesOwn (model X.prog X.w) X.A X.env X.xe) : SM X E (.While c ss [] pos) (mWhile mt ms n) := let ⟨_, t1, t2⟩ := ht; let ⟨_, h1, h2⟩ := hb; ⟨_, ps_while hp t1 h1, snds_while t2 h2⟩
theorem sm_break : SM X E (.Break pos) mBrk := ⟨_, ps_break, snds_brk⟩
theorem sm_cont : SM X E (.Continue pos) mCnt := ⟨_, ps_continue, snds_cnt⟩
theorem sm_ret (h : EM X E e m) : SM X E (.Return (some e) pos) (mRet m) := let ⟨_, h1, h2⟩ := h; ⟨_, ps_ret h1, snds_ret h2⟩
theorem sm_set (i : Nat) {p3 : Pos} (nd : X.N.Nodup) (h : EM X E e m) (hN : X.N[i]? = some x := by rfl) (hl : Loc X.env.scope x := by first | exact Or.inl rfl | exact Or.inr rfl) (hs : swapsWith e (some (.Name x p3)) pos.line X.env = pure false := by rfl) (hf : X.fn x = true ∨ X.env.scope.names.lookup x = some .local := by first | exact Or.inl rfl | exact Or.inr rfl) :
    SM X E (.Assign [.Name x p3] e pos) (mSet i m) := let ⟨_, h1, h2⟩ := h; ⟨_, ps_set nd hN hl h1 hs hf, snds_set h2⟩
/-! a def's mirror -/
@[simp] def noX {α : Type} (o : Out α) : Out α := match o with
  | .ok a => .ok a
  | _ => .stuck
@[simp] theorem noX_ok {α : Type} (a : α) : noX (.ok a) = .ok a := rfl
theorem Wp.noX {α : Type} {o : Out α} {P : α → Prop} {X X' : Exn → Sto → Prop} (h : Wp (noX o) P X) : Wp o P X' := by
  cases o
  · exact h
  · exact h.elim
  · exact h.elim
/-- n parameters, N slots: what was made stays as it is -/
@[simp] def fnK (n N : Nat) (mb : RE → Out Fl) : Fn := fun ds st => if ds.length = n then runB mb (startR N ds st) else .stuck
@[simp] def n0 (m : Fn) : Fn := fun ds st => noX (m ds st)
def HasN (n : Nat) (m : Fn) : Prop := ∀ ds st, m ds st ≠ .stuck → ds.length = n
theorem hn_k {n N : Nat} {mb : RE → Out Fl} : HasN n (fnK n N mb) := fun ds st h => by
  unfold fnK at h
  split at h
  · assumption
  · exact absurd rfl h
theorem hn_0 {n : Nat} {m : Fn} (h : HasN n m) : HasN n (n0 m) := fun ds st z => h ds st fun e => z (by simp only [n0, e, noX])
theorem hn_c {n : Nat} {m : Fn} (h : HasN n m) : HasN n (cutF m) := fun ds st z => h ds st fun e => z (by simp only [cutF, e])
def NoXF (m : Fn) : Prop := ∀ ds st x st', m ds st ≠ .exc x st'
theorem nxf_0 {m : Fn} : NoXF (n0 m) := fun ds st x st' h => by
  simp only [n0, noX] at h
  split at h <;> cases h
theorem nxf_c {m : Fn} (h : NoXF m) : NoXF (cutF m) := fun ds st x st' e => by
  unfold cutF at e
  split at e
  · unfold cutR at e; split at e <;> cases e
  · rename_i q; exact h _ _ _ _ q
  · cases e
def spN (K : PySem.W.Frag) (n : Nat) (m : Fn) : Sp := fun vs H Q _ => spP K n m vs H Q E0
end
section
variable {P : Program} {w : World} {K : PySem.W.Frag} {mg : Str → Option Value} {base : Heap}
theorem fn_0 {x qual : Str} {st : Stmt} {f : Addr} {fd : FuncData} {N ps : List Str} {k : Nat} {mb : RE → Out Fl} (F : Fun K x qual st f fd) (S : FnScope N ps (defScope st))
    (hb : ∀ (cdv : Value) (A : Around) (outer : List PySem.Env) (s : Shared) (H : Hp) (E : XK), Room k (A.deeper (envOfC qual (defScope st) s.heap.objs.size f cdv)) →
      BM (cxOf CX0 P w K mg base N qual (defScope st) f cdv A outer s H E).nox E0 (defBody st) mb) :
    FnOk P w K mg base CX0 (k + 1) f fd ps (spN K ps.length (n0 (fnK ps.length N.length mb))) := by
  refine F.ok S (fun vs H Q E h => h.1) (fun cdv A outer s H vs Q E hr h => ?_)
  obtain ⟨hl, ds, sto, W, R, rep, wp⟩ := h
  obtain ⟨ts, hp, hs⟩ := hb cdv A outer s H E hr
  refine ⟨ts, hp, hs _ _ _ _ _ _ (rr_start R rep) (body_post ?_)⟩
  unfold n0 fnK at wp
  split at wp
  · exact wp.noX
  · exact wp.elim
/-- a def that may raise -/
theorem fn_x {x qual : Str} {st : Stmt} {f : Addr} {fd : FuncData} {N ps : List Str} {k : Nat} {mb : RE → Out Fl} (F : Fun K x qual st f fd) (S : FnScope N ps (defScope st))
    (hb : ∀ (cdv : Value) (A : Around) (outer : List PySem.Env) (s : Shared) (H : Hp) (E : XK), Room k (A.deeper (envOfC qual (defScope st) s.heap.objs.size f cdv)) →
      BM (cxOf (L2.CX P w) P w K mg base N qual (defScope st) f cdv A outer s H E) E (defBody st) mb) :
    FnOk P w K mg base (L2.CX P w) (k + 1) f fd ps (spP K ps.length (fnK ps.length N.length mb)) := by
  refine F.okX S (fun vs H Q E h => h.1) (fun cdv A outer s H vs Q E hr h => ?_)
  obtain ⟨hl, ds, sto, W, R, rep, wp⟩ := h
  obtain ⟨ts, hp, hs⟩ := hb cdv A outer s H E hr
  refine ⟨ts, hp, hs _ _ _ _ _ _ (rr_start R rep) (body_post ?_)⟩
  unfold fnK at wp
  split at wp
  · exact wp
  · exact wp.elim
end
section
variable {K : PySem.W.Frag} {E : XK}
theorem snd_call0 {ta : TA} {ms : RE → Out (List D × RE)} {n : Nat} {m : Fn} {dd : List D} {dvs : List V} (hn : HasN n m) (nx : NoXF m) (hd : ∀ W, RepL K W dd dvs) (h : SndA K E ta ms) : Snd K E (tCall (spN K n m) dvs E0 ta) (mCall m dd ms) := fun c σ H W r Q R w => by
  refine h c σ H W r _ R ((Wp.bnd w).mono (fun p q vs H1 W1 R1 s1 h1 => ?_) fun _ _ x => x)
  have rl := repL_app h1 (hd W1)
  refine ⟨?_, p.1 ++ dd, p.2.st, W1, R1.entry, rl, ?_⟩
  · rw [← repL_len rl]
    refine hn _ p.2.st fun z => ?_
    simp only [z] at q; exact q
  · cases e : m (p.1 ++ dd) p.2.st with
    | ok d =>
      simp only [e, bnd_ok] at q
      exact fun v H' W' a hv => q v H' W' (RR.call R1 a) (s1.trans a.g0) hv
    | exc x st => exact absurd e (nx _ _ _ _)
    | stuck => simp only [e] at q; exact q.elim
end
section
variable {X : Cx} {E : XK} {e : PySem.Expr} {es : List PySem.Expr} {pos p : Pos} {x : Str} {as_ : RE → Out (List D × RE)}
/-- what is known of a def of the text that raises nothing -/
structure Fn0 (P : Program) (w : World) (K : PySem.W.Frag) (mg : Str → Option Value) (base : Heap) (k : Nat) (x : Str) (n : Nat) (mf : Fn) : Prop where
  ex : ∃ f fd ps, FnOk P w K mg base CX0 k f fd ps (spN K n mf) ∧ mg x = some (.ref f) ∧ PySem.W.keepIn K (.ref f) = true ∧ Binds K fd ps []
  hn : HasN n mf
  nx : NoXF mf
theorem Fn0.mono {P : Program} {w : World} {K : PySem.W.Frag} {mg : Str → Option Value} {base : Heap} {k j : Nat} {x : Str} {n : Nat} {mf : Fn} (F : Fn0 P w K mg base k x n mf) (h : k ≤ j) : Fn0 P w K mg base j x n mf :=
  let ⟨f, fd, ps, h1, h2⟩ := F.ex; ⟨⟨f, fd, ps, h1.mono h, h2⟩, F.hn, F.nx⟩
theorem e0 {k j n : Nat} {mf : Fn} (F : Fn0 X.prog X.w X.K X.mg X.base k x n mf) (hr : Room j X.A) (h : AM X E (e :: es) as_) (hj : k ≤ j := by decide) (hg : Gl X x := by rfl) (hdb : (x == ("__debug__" : Str)) = false := by decide) (he : starEach (e :: es) X.env = (false, eval e X.env) :: starEach es X.env := by rfl)
    (hpl : (backTo pos (starEach es X.env)).any (·.1) = false := by rfl) : EM X E (.Call (.Name x p) (e :: es) [] pos) (mCall mf [] as_) := by
  obtain ⟨_, h1, h2⟩ := h
  obtain ⟨f, fd, ps, F1, F2, F3, F4⟩ := F.ex
  exact ⟨_, pe_call F1 (hr.mono hj) hg F2 F3 F4 .nil pass0 h1 hdb he hpl, snd_call0 F.hn F.nx (fun _ => by simp only [RepL]) h2⟩
theorem e00 {k j n : Nat} {mf : Fn} (F : Fn0 X.prog X.w X.K X.mg X.base k x n mf) (hr : Room j X.A) (hj : k ≤ j := by decide) (hg : Gl X x := by rfl) (hdb : (x == ("__debug__" : Str)) = false := by decide) : EM X E (.Call (.Name x p) [] [] pos) (mCall mf [] mNil) := by
  obtain ⟨f, fd, ps, F1, F2, F3, F4⟩ := F.ex
  exact ⟨_, pe_call0 F1 (hr.mono hj) hg F2 F3 F4 .nil pass0 hdb, snd_call0 F.hn F.nx (fun _ => by simp only [RepL]) snd_nil⟩
end
section
variable {P : Program} {w : World} {K : PySem.W.Frag} {mg : Str → Option Value} {base : Heap}
/-- .. its things stay cells -/
theorem fn0_k {x qual : Str} {st : Stmt} {f : Addr} {fd : FuncData} {N ps : List Str} {k : Nat} {mb : RE → Out Fl} (F : Fun K x qual st f fd) (S : FnScope N ps (defScope st)) (hg : mg x = some (.ref f)) (hbi : Binds K fd ps [])
    (hb : ∀ (cdv : Value) (A : Around) (outer : List PySem.Env) (s : Shared) (H : Hp) (E : XK), Room k (A.deeper (envOfC qual (defScope st) s.heap.objs.size f cdv)) →
      BM (cxOf CX0 P w K mg base N qual (defScope st) f cdv A outer s H E).nox E0 (defBody st) mb) :
    Fn0 P w K mg base (k + 1) x ps.length (n0 (fnK ps.length N.length mb)) := ⟨⟨f, fd, ps, fn_0 F S hb, hg, F.kp, hbi⟩, hn_0 hn_k, nxf_0⟩
theorem Fn0.cut {k : Nat} {x : Str} {n : Nat} {mf : Fn} (F : Fn0 P w K mg base k x n mf) : Fn0 P w K mg base k x n (cutF mf) :=
  let ⟨f, fd, ps, h1, h2⟩ := F.ex; ⟨⟨f, fd, ps, h1.imp fun vs H Q E h => sp_cut h, h2⟩, hn_c F.hn, nxf_c F.nx⟩
/-- .. what it has made is frozen -/
theorem fn0_c {x qual : Str} {st : Stmt} {f : Addr} {fd : FuncData} {N ps : List Str} {k : Nat} {mb : RE → Out Fl} (F : Fun K x qual st f fd) (S : FnScope N ps (defScope st)) (hg : mg x = some (.ref f)) (hbi : Binds K fd ps [])
    (hb : ∀ (cdv : Value) (A : Around) (outer : List PySem.Env) (s : Shared) (H : Hp) (E : XK), Room k (A.deeper (envOfC qual (defScope st) s.heap.objs.size f cdv)) →
      BM (cxOf CX0 P w K mg base N qual (defScope st) f cdv A outer s H E).nox E0 (defBody st) mb) :
    Fn0 P w K mg base (k + 1) x ps.length (cutF (n0 (fnK ps.length N.length mb))) := (fn0_k F S hg hbi hb).cut
end
end Mir

set_option maxHeartbeats 4000000
namespace Mir
open PySem PySem.Spec PyProof.Rows L2
/-! ## dicts -/
def valD {κ : Type} [DecidableEq κ] (kvs : List (κ × D)) (k : κ) : Option D := (kvs.find? fun kv => decide (kv.1 = k)).map (·.2)
def hasD {κ : Type} [DecidableEq κ] (kvs : List (κ × D)) (k : κ) : Bool := kvs.any fun kv => decide (kv.1 = k)
def putD {κ : Type} [DecidableEq κ] (kvs : List (κ × D)) (k : κ) (v : D) : List (κ × D) :=
  if hasD kvs k = true then kvs.map (fun kv => if kv.1 = k then (kv.1, v) else kv) else kvs ++ [(k, v)]
def dropD {κ : Type} [DecidableEq κ] (kvs : List (κ × D)) (k : κ) : List (κ × D) := kvs.filter fun kv => decide (kv.1 ≠ k)
def mergeD {κ : Type} [DecidableEq κ] (kvs more : List (κ × D)) : List (κ × D) := more.foldl (fun acc kv => putD acc kv.1 kv.2) kvs
@[simp] def keyD : D → Option Key
  | .int i => some (.inl i)
  | .str x => some (.inr x)
  | _ => none
def ofKey : Key → D
  | .inl i => .int i
  | .inr x => .str x
section
variable {K : PySem.W.Frag} {E : XK} {c : Fm} {σ σ' : L2.St} {H H' : Hp} {W W' : Wd} {r r' : RE}
theorem keyD_rep {d : D} {k : Key} {v : V} (e : keyD d = some k) (h : RepD K W d v) : v = kV k := by
  cases d <;> simp only [keyD, reduceCtorEq, Option.some.injEq] at e <;> subst e <;> simpa only [RepD, kV] using h
theorem keyD_repT {d : D} {k : Key} {v : V} (e : keyD d = some k) (h : RepT K H W d v) : v = kV k := by
  cases d <;> simp only [keyD, reduceCtorEq, Option.some.injEq] at e <;> subst e <;> simpa only [RepT, RepD, kV] using h
theorem repD_key {k : Key} : RepD K W (ofKey k) (kV k) := by cases k <;> simp only [ofKey, kV, RepD]
/-- pairs by their keys, of any kind -/
def RepG {κ : Type} (K : PySem.W.Frag) (W : Wd) : List (κ × D) → List (κ × V) → Prop
  | [], vs => vs = []
  | (k, d) :: ds, vs => ∃ v us, vs = (k, v) :: us ∧ RepD K W d v ∧ RepG K W ds us
theorem repK_g : ∀ {ds : List (Key × D)} {vs : List (Key × V)}, RepK K W ds vs ↔ RepG K W ds vs
  | [], vs => by simp only [RepK, RepG]
  | (k, d) :: ds, vs => by
    simp only [RepK, RepG]
    exact ⟨fun ⟨v, us, e, q, t⟩ => ⟨v, us, e, q, repK_g.mp t⟩, fun ⟨v, us, e, q, t⟩ => ⟨v, us, e, q, repK_g.mpr t⟩⟩
theorem repT_g : ∀ {ds : List (List Key × D)} {vs : List (List Key × V)}, RepKT K W ds vs ↔ RepG K W ds vs
  | [], vs => by simp only [RepKT, RepG]
  | (k, d) :: ds, vs => by
    simp only [RepKT, RepG]
    exact ⟨fun ⟨v, us, e, q, t⟩ => ⟨v, us, e, q, repT_g.mp t⟩, fun ⟨v, us, e, q, t⟩ => ⟨v, us, e, q, repT_g.mpr t⟩⟩
section
variable {κ : Type} [DecidableEq κ]
theorem repG_len : ∀ {ds : List (κ × D)} {vs : List (κ × V)}, RepG K W ds vs → ds.length = vs.length
  | [], vs, h => by simp only [RepG] at h; rw [h]; rfl
  | (k, d) :: ds, vs, h => by
    simp only [RepG] at h
    obtain ⟨v, us, e, _, t⟩ := h
    rw [e, List.length_cons, List.length_cons, repG_len t]
theorem repG_app : ∀ {ds es : List (κ × D)} {vs us : List (κ × V)}, RepG K W ds vs → RepG K W es us → RepG K W (ds ++ es) (vs ++ us)
  | [], es, vs, us, h, k => by simp only [RepG] at h; subst h; exact k
  | (k', d) :: ds, es, vs, us, h, k => by
    simp only [RepG] at h
    obtain ⟨v, ws, e, q, t⟩ := h
    subst e
    show RepG K W ((k', d) :: (ds ++ es)) ((k', v) :: (ws ++ us))
    simp only [RepG]
    exact ⟨v, ws ++ us, rfl, q, repG_app t k⟩
theorem repG_has {k : κ} : ∀ {ds : List (κ × D)} {vs : List (κ × V)}, RepG K W ds vs → hasD ds k = vs.any fun kv => decide (kv.1 = k)
  | [], vs, h => by simp only [RepG] at h; rw [h]; rfl
  | (k', d) :: ds, vs, h => by
    simp only [RepG] at h
    obtain ⟨v, us, e, _, t⟩ := h
    rw [e]
    have := repG_has (k := k) t
    unfold hasD at this ⊢
    rw [List.any_cons, List.any_cons, this]
theorem repG_val {k : κ} : ∀ {ds : List (κ × D)} {vs : List (κ × V)}, RepG K W ds vs → (valD ds k = none ∧ valV vs k = none) ∨ ∃ d v, valD ds k = some d ∧ valV vs k = some v ∧ RepD K W d v
  | [], vs, h => by simp only [RepG] at h; rw [h]; exact .inl ⟨rfl, rfl⟩
  | (k', d) :: ds, vs, h => by
    simp only [RepG] at h
    obtain ⟨v, us, e, q, t⟩ := h
    rw [e]
    unfold valD valV
    rw [List.find?_cons, List.find?_cons]
    by_cases hk : k' = k
    · simp only [hk, decide_true]
      exact .inr ⟨d, v, rfl, rfl, q⟩
    · simp only [hk, decide_false]
      exact repG_val t
theorem repG_map {k : κ} {d : D} {v : V} (h : RepD K W d v) : ∀ {ds : List (κ × D)} {vs : List (κ × V)}, RepG K W ds vs → RepG K W (ds.map fun kv => if kv.1 = k then (kv.1, d) else kv) (vs.map fun kv => if kv.1 = k then (kv.1, v) else kv)
  | [], vs, q => by simp only [RepG] at q; subst q; simp only [List.map_nil, RepG]
  | (k', d') :: ds, vs, q => by
    simp only [RepG] at q
    obtain ⟨v', us, e, q', t⟩ := q
    subst e
    rw [List.map_cons, List.map_cons]
    have := repG_map (k := k) h t
    by_cases hk : k' = k
    · simp only [hk, if_true, RepG]
      exact ⟨v, _, rfl, h, this⟩
    · simp only [if_neg hk, RepG]
      exact ⟨v', _, rfl, q', this⟩
theorem repG_put {k : κ} {d : D} {v : V} {ds : List (κ × D)} {vs : List (κ × V)} (h : RepD K W d v) (q : RepG K W ds vs) : RepG K W (putD ds k d) (putK vs k v) := by
  unfold putD putK
  rw [repG_has q]
  split
  · exact repG_map h q
  · exact repG_app q (by simp only [RepG]; exact ⟨v, [], rfl, h, rfl⟩)
theorem repG_merge : ∀ {ms ds : List (κ × D)} {us vs : List (κ × V)}, RepG K W ms us → RepG K W ds vs → RepG K W (mergeD ds ms) (us.foldl (fun acc kv => putK acc kv.1 kv.2) vs)
  | [], ds, us, vs, h, q => by simp only [RepG] at h; subst h; exact q
  | (k, d) :: ms, ds, us, vs, h, q => by
    simp only [RepG] at h
    obtain ⟨v, us', e, hd, t⟩ := h
    subst e
    exact repG_merge (ds := putD ds k d) (vs := putK vs k v) t (repG_put hd q)
end
theorem repK_len {ds : List (Key × D)} {vs : List (Key × V)} (h : RepK K W ds vs) : ds.length = vs.length := repG_len (repK_g.mp h)
theorem repK_val {k : Key} {ds : List (Key × D)} {vs : List (Key × V)} (h : RepK K W ds vs) : (valD ds k = none ∧ valV vs k = none) ∨ ∃ d v, valD ds k = some d ∧ valV vs k = some v ∧ RepD K W d v := repG_val (repK_g.mp h)
theorem repK_put {k : Key} {d : D} {v : V} {ds : List (Key × D)} {vs : List (Key × V)} (h : RepD K W d v) (q : RepK K W ds vs) : RepK K W (putD ds k d) (putK vs k v) := repK_g.mpr (repG_put h (repK_g.mp q))
theorem repK_merge {ms ds : List (Key × D)} {us vs : List (Key × V)} (h : RepK K W ms us) (q : RepK K W ds vs) : RepK K W (mergeD ds ms) (mergeK vs us) := repK_g.mpr (repG_merge (repK_g.mp h) (repK_g.mp q))
theorem repT_len {ds : List (List Key × D)} {vs : List (List Key × V)} (h : RepKT K W ds vs) : ds.length = vs.length := repG_len (repT_g.mp h)
theorem repT_val {k : List Key} {ds : List (List Key × D)} {vs : List (List Key × V)} (h : RepKT K W ds vs) : (valD ds k = none ∧ valV vs k = none) ∨ ∃ d v, valD ds k = some d ∧ valV vs k = some v ∧ RepD K W d v := repG_val (repT_g.mp h)
theorem repT_put {k : List Key} {d : D} {v : V} {ds : List (List Key × D)} {vs : List (List Key × V)} (h : RepD K W d v) (q : RepKT K W ds vs) : RepKT K W (putD ds k d) (putK vs k v) := repT_g.mpr (repG_put h (repT_g.mp q))
/-- {} -/
@[simp] def mDnew : RE → Out (D × RE) := fun r => .ok (.dic [], r)
theorem sndf_dnew : SndF K E tDNewK mDnew := fun c σ H W r Q R w p hp => by
  obtain ⟨R1, f1⟩ := R.fresh (o := .dK []) (d := .dic []) hp ⟨p, [], rfl, upd_same, by simp only [RepK]⟩
  exact w p _ W R1 (Le.refl W) f1
/-- {k: v, ..} -/
def SndPr (K : PySem.W.Frag) (E : XK) (trs : List (TE × TE)) (m : RE → Out (List (Key × D) × RE)) : Prop := ∀ (c : Fm) (σ : L2.St) (H : Hp) (W : Wd) (r : RE) (Q : List (V × V) → Hp → Prop), RR K c σ H W r →
  Wp (m r) (fun p => ∀ kvs H' W', RR K c σ H' W' p.2 → Le W W' → RepK K W' p.1 kvs → Q (kvs.map fun kv => (kV kv.1, kv.2)) H') (XP K c E) → tPairs trs σ H Q
@[simp] def mPr0 : RE → Out (List (Key × D) × RE) := fun r => .ok ([], r)
@[simp] def mPr (mk mv : RE → Out (D × RE)) (mr : RE → Out (List (Key × D) × RE)) : RE → Out (List (Key × D) × RE) := fun r => (mk r).bnd fun k => (mv k.2).bnd fun v => (mr v.2).bnd fun q => match keyD k.1 with
  | some key => .ok ((key, v.1) :: q.1, q.2)
  | none => .stuck
theorem sndpr_nil : SndPr K E [] mPr0 := fun c σ H W r Q R w => w [] H W R (Le.refl W) (by simp only [RepK])
theorem sndpr_cons {tk tv : TE} {trs : List (TE × TE)} {mk mv : RE → Out (D × RE)} {mr : RE → Out (List (Key × D) × RE)} (hk : Snd K E tk mk) (hv : Snd K E tv mv) (hr : SndPr K E trs mr) : SndPr K E ((tk, tv) :: trs) (mPr mk mv mr) := fun c σ H W r Q R w => by
  refine hk c σ H W r _ R ((Wp.bnd w).mono (fun p q v1 H1 W1 R1 s1 h1 => ?_) fun _ _ x => x)
  refine hv c σ H1 W1 p.2 _ R1 ((Wp.bnd q).mono (fun p2 q2 v2 H2 W2 R2 s2 h2 => ?_) fun _ _ x => x)
  refine hr c σ H2 W2 p2.2 _ R2 ((Wp.bnd q2).mono (fun p3 q3 kvs H3 W3 R3 s3 h3 => ?_) fun _ _ x => x)
  cases e : keyD p.1 with
  | none => simp only [e] at q3; exact q3.elim
  | some key =>
    simp only [e] at q3
    have e1 := keyD_rep e h1
    subst e1
    exact q3 ((key, v2) :: kvs) H3 W3 R3 ((s1.trans s2).trans s3) (by simp only [RepK]; exact ⟨v2, kvs, rfl, h2.mono s3, h3⟩)
@[simp] def mDisp (mp : RE → Out (List (Key × D) × RE)) : RE → Out (D × RE) := fun r => (mp r).bnd fun p => if p.1.length ≤ 15 then .ok (.dic (mergeD [] p.1), p.2) else .stuck
theorem sndf_disp {trs : List (TE × TE)} {mp : RE → Out (List (Key × D) × RE)} (h : SndPr K E trs mp) : SndF K E (tDisp trs) (mDisp mp) := fun c σ H W r Q R w p hp => by
  have R1 : RR K c σ (upd H p (.dK [])) W r := R.ext (Ext.alloc0 R.gh hp)
  have RE1 := R1.enter
  have hb : p ∉ W.b := fun z => R.there z hp
  have heD : c.He p = none := R.heNone hp
  have hlD : ∀ q ∈ c.lk, q.1 ≠ p := fun q hq z => by have := R.lk q hq; rw [z, hp] at this; cases this
  refine h _ σ _ W r _ RE1 ((Wp.bnd w).mono (fun q hq kvs H2 W2 R2 s2 h2 => ?_) fun x st hx => XP.nest R1 hx)
  have R3 := RR.leave R1 R2
  obtain ⟨k3, _⟩ := R2.ke p _ upd_same
  have g2 : W2.g p = none := by
    cases e : W2.g p with
    | none => rfl
    | some u =>
      rcases R2.gr p u e with z | z
      · exact absurd (R.gh.no hp) z
      · have z' : upd H p (.dK []) p = none := z
        rw [upd_same] at z'; cases z'
  have b2 : p ∉ W2.b := fun z => by
    rcases (R2.cg p z).2 with y | y
    · exact hb y
    · have y' : upd H p (.dK []) p = none := y
      rw [upd_same] at y'; cases y'
  refine ⟨(k3 hb).2 (R.gh.no hp), kvs, rfl, ?_, ?_⟩
  · rw [← repK_len h2]
    split at hq
    · assumption
    · exact hq.elim
  · split at hq
    · exact hq p _ W2 (RR.other R3 g2 heD b2 hlD) s2 ⟨g2, heD, b2, ⟨p, _, rfl, upd_same, repK_merge h2 (by simp only [RepK])⟩⟩
    · exact hq.elim
end
section
variable {X : Cx} {E : XK} {pos : Pos} {k v : PySem.Expr} {ks : List (Option PySem.Expr)} {vs : List PySem.Expr} {mk mv : RE → Out (D × RE)} {mr mp : RE → Out (List (Key × D) × RE)}
@[simp] def mDnewT : RE → Out (D × RE) := fun r => .ok (.dct [], r)
theorem sndf_dnewT {K : PySem.W.Frag} : SndF K E tDNewT mDnewT := fun c σ H W r Q R w p hp => by
  obtain ⟨R1, f1⟩ := R.fresh (o := .dT []) (d := .dct []) hp ⟨p, [], rfl, upd_same, by simp only [RepKT]⟩
  exact w p _ W R1 (Le.refl W) f1
theorem fm_dnewT : FM X E (.Dict [] [] pos) mDnewT := ⟨_, pe_dnewT, sndf_dnewT⟩
theorem fm_dnew : FM X E (.Dict [] [] pos) mDnew := ⟨_, pe_dnewK, sndf_dnew⟩
def PrM (X : Cx) (E : XK) (pos : Pos) (ks : List (Option PySem.Expr)) (vs : List PySem.Expr) (m : RE → Out (List (Key × D) × RE)) : Prop := ∃ trs, PPs X pos ks vs trs ∧ SndPr X.K E trs m
theorem prm_nil : PrM X E pos [] [] mPr0 := ⟨_, pps_nil, sndpr_nil⟩
theorem prm_cons (hk : EM X E k mk) (hv : EM X E v mv) (hr : PrM X E pos ks vs mr) : PrM X E pos (some k :: ks) (v :: vs) (mPr mk mv mr) := let ⟨_, k1, k2⟩ := hk; let ⟨_, v1, v2⟩ := hv; let ⟨_, r1, r2⟩ := hr; ⟨_, pps_cons k1 v1 r1, sndpr_cons k2 v2 r2⟩
theorem fm_disp (h : PrM X E pos ks vs mp) (hall : ks.all (·.isSome) = true := by rfl) (hl : ks.length = vs.length := by rfl) (h0 : ks ≠ [] := by intro z; cases z) (h15 : ks.length ≤ 15 := by decide) : FM X E (.Dict ks vs pos) (mDisp mp) :=
  let ⟨_, h1, h2⟩ := h; ⟨_, pe_disp h1 hall hl h0 h15, sndf_disp h2⟩
end
end Mir

set_option maxHeartbeats 4000000
namespace Mir
open PySem PySem.Spec PyProof.Rows L2
/-! ## == and in, over all data -/
mutual
def toP : D → PyData
  | .non => .none
  | .bl b => .bool b
  | .int i => .int i
  | .str x => .str x
  | .tup ds => .tuple (toPs ds)
  | .lst ds => .list (toPs ds)
  | .frl ds => .list (toPs ds)
  | _ => .dict []
def toPs : List D → List PyData
  | [] => []
  | d :: ds => toP d :: toPs ds
end
section
variable {K : PySem.W.Frag} {H : Hp} {W : Wd}
mutual
theorem toP_rep : ∀ {d : D} {v : V}, (toP d).canLay0 = true → RepD K W d v → Dp K W.g v (toP d)
  | .non, v, _, h => by simp only [RepD] at h; subst h; exact .non
  | .bl b, v, _, h => by simp only [RepD] at h; subst h; exact .bl b
  | .int i, v, _, h => by simp only [RepD] at h; subst h; exact .int i
  | .str x, v, _, h => by simp only [RepD] at h; subst h; exact .str x
  | .tup ds, v, c, h => by
    simp only [RepD] at h
    obtain ⟨a, vs, e, q, l⟩ := h
    subst e
    simp only [toP]
    exact .tup (SqT.of q) (toPs_rep (by simpa only [toP, PyData.canLay0] using c) l)
  | .lst ds, v, c, h => by
    simp only [RepD] at h
    obtain ⟨a, vs, e, q, l⟩ := h
    subst e
    simp only [toP]
    exact .lst (SqL.of q) (toPs_rep (by simpa only [toP, PyData.canLay0] using c) l)
  | .frl ds, v, c, h => by
    simp only [RepD] at h
    obtain ⟨a, vs, e, q, l⟩ := h
    subst e
    simp only [toP]
    exact .lst q (toPs_rep (by simpa only [toP, PyData.canLay0] using c) l)
  | .cell n, v, c, _ => by simp only [toP, PyData.canLay0] at c; cases c
  | .lck n, v, c, _ => by simp only [toP, PyData.canLay0] at c; cases c
  | .ty n, v, c, _ => by simp only [toP, PyData.canLay0] at c; cases c
  | .dic n, v, c, _ => by simp only [toP, PyData.canLay0] at c; cases c
  | .dct n, v, c, _ => by simp only [toP, PyData.canLay0] at c; cases c
  | .ins n _, v, c, _ => by simp only [toP, PyData.canLay0] at c; cases c
theorem toPs_rep : ∀ {ds : List D} {vs : List V}, PyData.canLayAll0 (toPs ds) = true → RepL K W ds vs → DpAll K W.g vs (toPs ds)
  | [], vs, _, h => by simp only [RepL] at h; subst h; exact .nil
  | d :: ds, vs, c, h => by
    simp only [RepL] at h
    obtain ⟨v, us, e, q, l⟩ := h
    subst e
    simp only [toPs, PyData.canLayAll0, Bool.and_eq_true] at c
    exact .cons (toP_rep c.1 q) (toPs_rep c.2 l)
end
theorem RepT.flat (s : Sub W.g H) : ∀ {d : D} {v : V}, (toP d).canLay0 = true → RepT K H W d v → RepD K ⟨H, W.b⟩ d v
  | .non, v, _, h => by simpa only [RepT, RepD] using h
  | .bl b, v, _, h => by simpa only [RepT, RepD] using h
  | .int i, v, _, h => by simpa only [RepT, RepD] using h
  | .str x, v, _, h => by simpa only [RepT, RepD] using h
  | .tup ds, v, c, ⟨a, vs, e, q, l⟩ => by simp only [RepD]; exact ⟨a, vs, e, s.tup q, l.mono (W' := ⟨H, W.b⟩) ⟨s, fun _ _ z => z⟩⟩
  | .lst ds, v, c, ⟨a, vs, e, q, l⟩ => by simp only [RepD]; exact ⟨a, vs, e, q, l.mono (W' := ⟨H, W.b⟩) ⟨s, fun _ _ z => z⟩⟩
  | .frl ds, v, c, ⟨a, vs, e, q, l⟩ => by simp only [RepD]; exact ⟨a, vs, e, q, l.mono (W' := ⟨H, W.b⟩) ⟨s, fun _ _ z => z⟩⟩
  | .cell n, v, c, _ => by simp only [toP, PyData.canLay0] at c; cases c
  | .lck n, v, c, _ => by simp only [toP, PyData.canLay0] at c; cases c
  | .ty n, v, c, _ => by simp only [toP, PyData.canLay0] at c; cases c
  | .dic n, v, c, _ => by simp only [toP, PyData.canLay0] at c; cases c
  | .dct n, v, c, _ => by simp only [toP, PyData.canLay0] at c; cases c
  | .ins n _, v, c, _ => by simp only [toP, PyData.canLay0] at c; cases c
theorem shaped_lay {p : PyData} (h : SeqAt.shaped p = true) : p.canLay0 = true := by
  unfold SeqAt.shaped at h
  rw [Bool.and_eq_true] at h
  exact h.1
end
@[simp] def keysD : List D → Option (List Key)
  | [] => some []
  | d :: ds => match keyD d, keysD ds with
    | some k, some ks => some (k :: ks)
    | _, _ => none
@[simp] def keyT : D → Option (List Key)
  | .tup ds => keysD ds
  | _ => none
def isScal : D → Bool
  | .non => true
  | .bl _ => true
  | .int _ => true
  | .str _ => true
  | _ => false
/-- == of scalars -/
def eqS : D → D → Bool
  | .non, .non => true
  | .bl a, .bl b => a == b
  | .bl a, .int b => (if a then 1 else 0) == b
  | .int a, .bl b => a == (if b then 1 else 0)
  | .int a, .int b => a == b
  | .str a, .str b => a == b
  | _, _ => false
/-- whether == is told of these data; what it tells -/
def eqOk (a b : D) : Bool := (match scalD a, scalD b with
  | some x, some y => scal x y
  | _, _ => false) || (SeqAt.shaped (toP a) && SeqAt.shaped (toP b))
def eqD (a b : D) : Bool := match scalD a, scalD b with
  | some x, some y => if scal x y = true then decide (x = y) else PyData.eqv (toP a) (toP b)
  | _, _ => PyData.eqv (toP a) (toP b)
@[simp] def dEq : D → D → Out D := fun a b => if eqOk a b = true then .ok (.bl (eqD a b)) else .stuck
@[simp] def dNe : D → D → Out D := fun a b => if eqOk a b = true then .ok (.bl (!eqD a b)) else .stuck
def inOk (x : D) (ds : List D) : Bool := (isScal x && ds.all isScal) || (SeqAt.shaped (toP x) && SeqAt.shaped (.list (toPs ds)))
def inD (x : D) (ds : List D) : Bool := if (isScal x && ds.all isScal) = true then ds.any (fun y => eqS y x) else (toPs ds).any fun z => PyData.eqv z (toP x)
def hasIn : D → D → Option Bool
  | .str c, .str z => if c.cps.size = 1 then some (decide (c.cps.getD 0 0 ∈ z.cps.toList)) else none
  | x, .lst ds => if inOk x ds = true then some (inD x ds) else none
  | x, .frl ds => if inOk x ds = true then some (inD x ds) else none
  | x, .tup ds => if (isScal x && ds.all isScal) = true then some (ds.any fun y => eqS y x) else none
  | x, .dic kvs => match keyD x with
    | some k => some (valD kvs k).isSome
    | none => none
  | x, .dct kvs => match keyT x with
    | some k => some (valD kvs k).isSome
    | none => none
  | _, _ => none
@[simp] def dIn : D → D → Out D := fun a b => match hasIn a b with
  | some b => .ok (.bl b)
  | none => .stuck
@[simp] def dNotIn : D → D → Out D := fun a b => match hasIn a b with
  | some b => .ok (.bl (!b))
  | none => .stuck
theorem nx_eq : NoX2 dEq := fun a b x st h => by unfold dEq at h; split at h <;> cases h
theorem nx_ne : NoX2 dNe := fun a b x st h => by unfold dNe at h; split at h <;> cases h
theorem nx_in : NoX2 dIn := fun a b x st h => by unfold dIn at h; split at h <;> cases h
theorem nx_notIn : NoX2 dNotIn := fun a b x st h => by unfold dNotIn at h; split at h <;> cases h
section
variable {K : PySem.W.Frag}
theorem eq_cases {H : Hp} {W : Wd} {dx dy : D} {x y : V} (s : Sub W.g H) (hx : RepT K H W dx x) (hy : RepT K H W dy y) (e : eqOk dx dy = true) : (scal x y = true ∧ eqD dx dy = decide (x = y)) ∨ (∃ d e, Dp K H x d ∧ Dp K H y e ∧ SeqAt.shaped d = true ∧ SeqAt.shaped e = true ∧ eqD dx dy = PyData.eqv d e) := by
  by_cases hs : ∃ u v, scalD dx = some u ∧ scalD dy = some v ∧ scal u v = true
  · obtain ⟨u, v, e1, e2, e3⟩ := hs
    have h1 := scalD_rep e1 hx
    have h2 := scalD_rep e2 hy
    subst h1; subst h2
    refine .inl ⟨e3, ?_⟩
    unfold eqD
    rw [e1, e2]
    simp only [e3, if_true]
  · have hsh : SeqAt.shaped (toP dx) = true ∧ SeqAt.shaped (toP dy) = true := by
      unfold eqOk at e
      rw [Bool.or_eq_true] at e
      rcases e with e | e
      · split at e
        · rename_i u v e1 e2
          exact absurd ⟨u, v, e1, e2, e⟩ hs
        · cases e
      · rwa [Bool.and_eq_true] at e
    refine .inr ⟨toP dx, toP dy, toP_rep (W := ⟨H, W.b⟩) (shaped_lay hsh.1) (RepT.flat s (shaped_lay hsh.1) hx), toP_rep (W := ⟨H, W.b⟩) (shaped_lay hsh.2) (RepT.flat s (shaped_lay hsh.2) hy), hsh.1, hsh.2, ?_⟩
    unfold eqD
    split
    · rename_i u v e1 e2
      split
      · rename_i e3
        exact absurd ⟨u, v, e1, e2, e3⟩ hs
      · rfl
    · rfl
theorem ops_eq : OpS K (fun x y H Q => rEq x y H Q ∨ rEqD K x y H Q) dEq := fun x y H W dx dy Q s hx hy d hd k => by
  unfold dEq at hd
  split at hd
  · rename_i e
    cases hd
    rcases eq_cases s hx hy e with ⟨h1, h2⟩ | ⟨d, e, h1, h2, h3, h4, h5⟩
    · exact .inl ⟨h1, by rw [← h2]; exact k _ _ _ (Ext.refl s) repD_bl⟩
    · exact .inr ⟨d, e, h1, h2, h3, h4, by rw [← h5]; exact k _ _ _ (Ext.refl s) repD_bl⟩
  · cases hd
theorem ops_ne : OpS K (fun x y H Q => rNe x y H Q ∨ rNeD K x y H Q) dNe := fun x y H W dx dy Q s hx hy d hd k => by
  unfold dNe at hd
  split at hd
  · rename_i e
    cases hd
    rcases eq_cases s hx hy e with ⟨h1, h2⟩ | ⟨d, e, h1, h2, h3, h4, h5⟩
    · exact .inl ⟨h1, by rw [← h2]; exact k _ _ _ (Ext.refl s) repD_bl⟩
    · exact .inr ⟨d, e, h1, h2, h3, h4, by rw [← h5]; exact k _ _ _ (Ext.refl s) repD_bl⟩
  · cases hd
theorem scal_flat {H : Hp} {W : Wd} {d : D} {v : V} (e : isScal d = true) (h : RepT K H W d v) : flatV v = true := by
  cases d <;> simp only [isScal, reduceCtorEq, Bool.false_eq_true] at e <;> simp only [RepT, RepD] at h <;> subst h <;> rfl
theorem eqS_rep {H : Hp} {W : Wd} {a b : D} {x y : V} (ea : isScal a = true) (eb : isScal b = true) (ha : RepT K H W a x) (hb : RepT K H W b y) : eqV x y = eqS a b := by
  cases a <;> simp only [isScal, reduceCtorEq, Bool.false_eq_true] at ea <;> simp only [RepT, RepD] at ha <;> subst ha <;> cases b <;> simp only [isScal, reduceCtorEq, Bool.false_eq_true] at eb <;> simp only [RepT, RepD] at hb <;> subst hb <;> rfl
theorem scal_all {H : Hp} {W : Wd} (s : Sub W.g H) {x : D} {u : V} (ex : isScal x = true) (hx : RepT K H W x u) : ∀ {ds : List D} {vs : List V}, ds.all isScal = true → RepL K W ds vs → vs.all flatV = true ∧ inV u vs = ds.any fun y => eqS y x
  | [], vs, _, h => by simp only [RepL] at h; subst h; exact ⟨rfl, rfl⟩
  | d :: ds, vs, e, h => by
    simp only [RepL] at h
    obtain ⟨v, us, ev, q, l⟩ := h
    subst ev
    rw [List.all_cons, Bool.and_eq_true] at e
    obtain ⟨h1, h2⟩ := scal_all s ex hx e.2 l
    have q' := RepT.of s q
    refine ⟨by rw [List.all_cons, scal_flat e.1 q', h1]; rfl, ?_⟩
    unfold inV at h2 ⊢
    rw [List.any_cons, List.any_cons, h2, eqS_rep e.1 ex q' hx]
theorem keysD_rep {W : Wd} : ∀ {ds : List D} {ks : List Key} {vs : List V}, keysD ds = some ks → RepL K W ds vs → vs = ks.map kV
  | [], ks, vs, e, h => by cases e; simp only [RepL] at h; exact h
  | d :: ds, ks, vs, e, h => by
    simp only [RepL] at h
    obtain ⟨v, us, rfl, q, t⟩ := h
    simp only [keysD] at e
    cases h1 : keyD d with
    | none => rw [h1] at e; cases e
    | some k =>
      cases h2 : keysD ds with
      | none => rw [h1, h2] at e; cases e
      | some ks' =>
        rw [h1, h2] at e; cases e
        rw [keyD_rep h1 q, keysD_rep h2 t, List.map_cons]
theorem keyT_rep {H : Hp} {W : Wd} {d : D} {ks : List Key} {v : V} (s : Sub W.g H) (e : keyT d = some ks) (h : RepT K H W d v) : ∃ b, v = .ref b ∧ H b = some (.tup (ks.map kV)) := by
  cases d <;> simp only [keyT, reduceCtorEq] at e
  obtain ⟨a, vs, ea, ha, la⟩ := h
  rw [keysD_rep e la] at ha
  exact ⟨a, ea, s.tup ha⟩
/-- in: what is asked of the values -/
abbrev rHas (K : PySem.W.Frag) (x y : V) (H : Hp) (b : Bool) : Prop := (∃ (c : Nat) (z : Str), x = .str ⟨#[c]⟩ ∧ y = .str z ∧ b = decide (c ∈ z.cps.toList)) ∨ ((∃ p xs, y = .ref p ∧ (SqL K H p xs ∨ SqT K H p xs) ∧ flatV x = true ∧ xs.all flatV = true ∧ b = inV x xs) ∨
  ((∃ d ds, Dp K H x d ∧ Dp K H y (.list ds) ∧ SeqAt.shaped d = true ∧ SeqAt.shaped (.list ds) = true ∧ b = ds.any fun z => PyData.eqv z d) ∨ ∃ a o, y = .ref a ∧ DGet H a x o ∧ b = o.isSome))
theorem has_rep {H : Hp} {W : Wd} {dx dy : D} {x y : V} {b : Bool} (s : Sub W.g H) (hx : RepT K H W dx x) (hy : RepT K H W dy y) (e : hasIn dx dy = some b) : rHas K x y H b := by
  have seq : ∀ (ds : List D) (a : Addr) (vs : List V), SqL K H a vs → RepL K W ds vs → (if inOk dx ds = true then some (inD dx ds) else none) = some b → (∀ c, (PyData.list (toPs ds)).canLay0 = c → c = true → Dp K H (.ref a) (.list (toPs ds))) → rHas K x (.ref a) H b := fun ds a vs hq hl e hd => by
    split at e
    · rename_i hi
      cases e
      by_cases hf : (isScal dx && ds.all isScal) = true
      · have hf' := (Bool.and_eq_true _ _).mp hf
        obtain ⟨h1, h2⟩ := scal_all s hf'.1 hx hf'.2 hl
        refine .inr (.inl ⟨a, vs, rfl, .inl hq, scal_flat hf'.1 hx, h1, ?_⟩)
        unfold inD
        rw [if_pos hf, h2]
      · unfold inOk at hi
        rw [Bool.or_eq_true] at hi
        have hi' := hi.resolve_left hf
        rw [Bool.and_eq_true] at hi'
        refine .inr (.inr (.inl ⟨toP dx, toPs ds, toP_rep (W := ⟨H, W.b⟩) (shaped_lay hi'.1) (RepT.flat s (shaped_lay hi'.1) hx), hd _ rfl (shaped_lay hi'.2), hi'.1, hi'.2, ?_⟩))
        unfold inD
        rw [if_neg hf]
    · cases e
  have lay : ∀ (ds : List D) (a : Addr) (vs : List V), SqL K H a vs → RepL K W ds vs → ∀ c, (PyData.list (toPs ds)).canLay0 = c → c = true → Dp K H (.ref a) (.list (toPs ds)) := fun ds a vs hq hl c hc h1 => by
    subst h1
    simp only [PyData.canLay0] at hc
    exact .lst hq (toPs_rep (W := ⟨H, W.b⟩) hc (hl.mono (W' := ⟨H, W.b⟩) ⟨s, fun _ _ z => z⟩))
  cases dy with
  | str z =>
    cases dx <;> simp only [hasIn, reduceCtorEq] at e
    split at e
    · rename_i hc
      cases e
      exact .inl ⟨_, _, (repT_str hx).trans (congrArg V.str (chr_eta hc)), repT_str hy, rfl⟩
    · cases e
  | lst ds =>
    obtain ⟨a, vs, ea, ha, la⟩ := hy
    subst ea
    exact seq ds a vs (SqL.of ha) la (by cases dx <;> exact e) (lay ds a vs (SqL.of ha) la)
  | frl ds =>
    obtain ⟨a, vs, ea, ha, la⟩ := hy
    subst ea
    exact seq ds a vs ha la (by cases dx <;> exact e) (lay ds a vs ha la)
  | tup ds =>
    obtain ⟨a, vs, ea, ha, la⟩ := hy
    subst ea
    have e' : (if (isScal dx && ds.all isScal) = true then some (ds.any fun y => eqS y dx) else none) = some b := by cases dx <;> exact e
    split at e'
    · rename_i hf
      cases e'
      have hf' := (Bool.and_eq_true _ _).mp hf
      obtain ⟨h1, h2⟩ := scal_all s hf'.1 hx hf'.2 la
      exact .inr (.inl ⟨a, vs, rfl, .inr (SqT.of (s.tup ha)), scal_flat hf'.1 hx, h1, h2.symm⟩)
    · cases e'
  | dic kvs =>
    obtain ⟨a, us, ea, ha, la⟩ := hy
    subst ea
    have e' : (match keyD dx with | some k => some (valD kvs k).isSome | none => none) = some b := by cases dx <;> exact e
    cases q : keyD dx with
    | none => rw [q] at e'; cases e'
    | some k =>
      rw [q] at e'
      have hk := keyD_repT q hx
      subst hk
      refine .inr (.inr (.inr ⟨a, valV us k, rfl, .inl ⟨us, k, ha, rfl, rfl⟩, ?_⟩))
      cases e'
      rcases repK_val (k := k) la with ⟨h1, h2⟩ | ⟨d, v, h1, h2, _⟩
      · rw [h1, h2]; rfl
      · rw [h1, h2]; rfl
  | dct kvs =>
    obtain ⟨a, us, ea, ha, la⟩ := hy
    subst ea
    have e' : (match keyT dx with | some k => some (valD kvs k).isSome | none => none) = some b := by cases dx <;> exact e
    cases q : keyT dx with
    | none => rw [q] at e'; cases e'
    | some k =>
      rw [q] at e'
      obtain ⟨bb, eb, hb⟩ := keyT_rep s q hx
      subst eb
      refine .inr (.inr (.inr ⟨a, valV us k, rfl, .inr ⟨us, k, bb, ha, rfl, hb, rfl⟩, ?_⟩))
      cases e'
      rcases repT_val (k := k) la with ⟨h1, h2⟩ | ⟨d, v, h1, h2, _⟩
      · rw [h1, h2]; rfl
      · rw [h1, h2]; rfl
  | _ => cases dx <;> cases e
abbrev rInA (K : PySem.W.Frag) : R2 := fun x y H Q => ∃ b, rHas K x y H b ∧ Q (.bl b) H
abbrev rNotInA (K : PySem.W.Frag) : R2 := fun x y H Q => ∃ b, rHas K x y H b ∧ Q (.bl (!b)) H
theorem ops_in : OpS K (rInA K) dIn := fun x y H W dx dy Q s hx hy d hd k => by
  unfold dIn at hd
  split at hd
  · rename_i b e
    cases hd
    exact ⟨b, has_rep s hx hy e, k _ _ _ (Ext.refl s) repD_bl⟩
  · cases hd
theorem ops_notIn : OpS K (rNotInA K) dNotIn := fun x y H W dx dy Q s hx hy d hd k => by
  unfold dNotIn at hd
  split at hd
  · rename_i b e
    cases hd
    exact ⟨b, has_rep s hx hy e, k _ _ _ (Ext.refl s) repD_bl⟩
  · cases hd
end
section
variable {X : Cx}
theorem or_in (hu : X.A.units + 65 < cLine) : OpR X (compareOp .In) (rInA X.K) := fun pins s σ H x y v u Q I rx ry h => by
  obtain ⟨b, h, q⟩ := h
  rcases h with ⟨c, z, h1, h2, rfl⟩ | ⟨p, xs, h1, h2, h3, h4, rfl⟩ | ⟨d, ds, h1, h2, h3, h4, rfl⟩ | ⟨a, o, h1, h2, rfl⟩
  · exact op_in_sign pins s σ H x y v u Q I rx ry ⟨c, z, h1, h2, q⟩
  · exact op_in_seq pins s σ H x y v u Q I rx ry ⟨p, xs, h1, h2, h3, h4, q⟩
  · exact op_inD hu pins s σ H x y v u Q I rx ry ⟨d, ds, h1, h2, h3, h4, q⟩
  · subst h1
    cases ry
    exact d_in (by omega) I h2 rx fun s3 I3 => ⟨.bl o.isSome, H, I3, rfl, q⟩
theorem or_notIn (hu : X.A.units + 65 < cLine) : OpR X (compareOp .NotIn) (rNotInA X.K) := fun pins s σ H x y v u Q I rx ry h => by
  obtain ⟨b, h, q⟩ := h
  rcases h with ⟨c, z, h1, h2, rfl⟩ | ⟨p, xs, h1, h2, h3, h4, rfl⟩ | ⟨d, ds, h1, h2, h3, h4, rfl⟩ | ⟨a, o, h1, h2, rfl⟩
  · exact op_notIn_sign pins s σ H x y v u Q I rx ry ⟨c, z, h1, h2, q⟩
  · exact op_notIn_seq pins s σ H x y v u Q I rx ry ⟨p, xs, h1, h2, h3, h4, q⟩
  · exact op_notInD hu pins s σ H x y v u Q I rx ry ⟨d, ds, h1, h2, h3, h4, q⟩
  · subst h1
    cases ry
    exact d_notIn (by omega) I h2 rx fun s3 I3 => ⟨.bl (!o.isSome), H, I3, rfl, q⟩
theorem room65 {k : Nat} {A : Around} (hr : Room k A) : A.units + 65 < cLine := by
  have := hr.un
  omega
theorem k_eq {k : Nat} (hr : Room k X.A) : CmpK X .Eq dEq := ⟨⟨_, OpR.or op_eq (op_eqD hr.units), ops_eq⟩, nx_eq⟩
theorem k_ne {k : Nat} (hr : Room k X.A) : CmpK X .NotEq dNe := ⟨⟨_, OpR.or op_ne (op_neD hr.units), ops_ne⟩, nx_ne⟩
theorem k_in {k : Nat} (hr : Room k X.A) : CmpK X .In dIn := ⟨⟨_, or_in (room65 hr), ops_in⟩, nx_in⟩
theorem k_notIn {k : Nat} (hr : Room k X.A) : CmpK X .NotIn dNotIn := ⟨⟨_, or_notIn (room65 hr), ops_notIn⟩, nx_notIn⟩
end
end Mir

set_option maxHeartbeats 4000000
namespace Mir
open PySem PySem.Spec PyProof.Rows L2
/-! ## dicts: items, get, stores -/
/-- what a dict holds -/
@[simp] def getA : D → D → Option (Option D)
  | .dic kvs, k => (keyD k).map (valD kvs)
  | .dct kvs, k => (keyT k).map (valD kvs)
  | _, _ => none
@[simp] def isDic : D → Bool
  | .dic _ => true
  | .dct _ => true
  | _ => false
@[simp] def dIxA : D → D → Out D := fun a b => match a with
  | .dic kvs => match getA (.dic kvs) b with
    | some (some d) => .ok d
    | _ => .stuck
  | .dct kvs => match getA (.dct kvs) b with
    | some (some d) => .ok d
    | _ => .stuck
  | a => dIx a b
theorem nx_ixA : NoX2 dIxA := fun a b x st h => by
  cases a <;> first
    | (simp only [dIxA] at h; split at h <;> cases h; done)
    | exact nx_ix _ b x st (by simpa only [dIxA] using h)
section
variable {K : PySem.W.Frag} {E : XK} {c : Fm} {σ σ' : L2.St} {H H' : Hp} {W W' : Wd} {r r' : RE}
abbrev rIxD : R2 := fun x y H Q => ∃ a v, x = .ref a ∧ DGet H a y (some v) ∧ Q v H
theorem isD_rep {d : D} {x : V} (e : isDic d = true) (hx : RepT K H W d x) : ∃ a, x = .ref a ∧ IsD H a := by
  cases d <;> simp only [isDic, reduceCtorEq, Bool.false_eq_true] at e
  · obtain ⟨a, us, ea, ha, la⟩ := hx
    exact ⟨a, ea, .inl ⟨us, ha⟩⟩
  · obtain ⟨a, us, ea, ha, la⟩ := hx
    exact ⟨a, ea, .inr ⟨us, ha⟩⟩
theorem get_rep {d dk : D} {x y : V} {o : Option D} (s : Sub W.g H) (hx : RepT K H W d x) (hy : RepT K H W dk y) (e : getA d dk = some o) : ∃ a ov, x = .ref a ∧ DGet H a y ov ∧ ((o = none ∧ ov = none) ∨ ∃ d v, o = some d ∧ ov = some v ∧ RepD K W d v) := by
  cases d <;> simp only [getA, reduceCtorEq, Option.map_eq_some_iff] at e
  · obtain ⟨k, ek, rfl⟩ := e
    obtain ⟨a, us, ea, ha, la⟩ := hx
    have hk := keyD_repT ek hy
    subst hk
    refine ⟨a, valV us k, ea, .inl ⟨us, k, ha, rfl, rfl⟩, ?_⟩
    rcases repK_val (k := k) la with ⟨h1, h2⟩ | ⟨d', v, h1, h2, h3⟩
    · exact .inl ⟨h1, h2⟩
    · exact .inr ⟨d', v, h1, h2, h3⟩
  · obtain ⟨k, ek, rfl⟩ := e
    obtain ⟨a, us, ea, ha, la⟩ := hx
    obtain ⟨b, eb, hb⟩ := keyT_rep s ek hy
    subst eb
    refine ⟨a, valV us k, ea, .inr ⟨us, k, b, ha, rfl, hb, rfl⟩, ?_⟩
    rcases repT_val (k := k) la with ⟨h1, h2⟩ | ⟨d', v, h1, h2, h3⟩
    · exact .inl ⟨h1, h2⟩
    · exact .inr ⟨d', v, h1, h2, h3⟩
theorem ixd_rep {d dk res : D} {x y : V} {Q : VK} (s : Sub W.g H) (hx : RepT K H W d x) (hy : RepT K H W dk y) (e : getA d dk = some (some res)) (k : ∀ v H' W', Ext H W H' W' → RepD K W' res v → Q v H') : rIxD x y H Q := by
  obtain ⟨a, ov, h1, h2, h3⟩ := get_rep s hx hy e
  rcases h3 with ⟨z, _⟩ | ⟨d', v, z, rfl, h4⟩
  · cases z
  · cases z
    exact ⟨a, v, h1, h2, k _ _ _ (Ext.refl s) h4⟩
theorem ops_ixA : OpS K (fun x y H Q => rIxA K x y H Q ∨ rIxD x y H Q) dIxA := fun x y H W dx dy Q s hx hy d hd k => by
  cases dx with
  | dic kvs =>
    simp only [dIxA] at hd
    split at hd
    · rename_i d' e
      cases hd
      exact .inr (ixd_rep s hx hy e k)
    · cases hd
  | dct kvs =>
    simp only [dIxA] at hd
    split at hd
    · rename_i d' e
      cases hd
      exact .inr (ixd_rep s hx hy e k)
    · cases hd
  | _ => exact .inl (ops_ix x y H W _ dy Q s hx hy d (by simpa only [dIxA] using hd) k)
/-- d.get(k), d.get(k, x) -/
@[simp] def mGet (md mk mx : RE → Out (D × RE)) : RE → Out (D × RE) := fun r => (md r).bnd fun x => match dr x.2.st x.1 with
  | some d0 => if isDic d0 = true then (mk x.2).bnd fun y => (mx y.2).bnd fun z => match dr z.2.st x.1, dr z.2.st y.1 with
      | some d, some dk => match getA d dk with
        | some o => .ok (o.getD z.1, z.2)
        | none => .stuck
      | _, _ => .stuck
    else .stuck
  | none => .stuck
theorem snd_get2 {td tk tx : TE} {md mk mx : RE → Out (D × RE)} (hd : Snd K E td md) (hk : Snd K E tk mk) (hx : Snd K E tx mx) : Snd K E (tDGet2 td tk tx) (mGet md mk mx) := fun c σ H W r Q R w => by
  refine hd c σ H W r _ R ((Wp.bnd w).mono (fun p q v1 H1 W1 R1 s1 h1 => ?_) fun _ _ x => x)
  split at q
  · rename_i d0 e0
    split at q
    · rename_i hD
      obtain ⟨a, ea, ha⟩ := isD_rep hD (h1.at R1 e0)
      subst ea
      refine ⟨a, rfl, ha, ?_⟩
      refine hk c σ H1 W1 p.2 _ R1 ((Wp.bnd q).mono (fun p2 q2 v2 H2 W2 R2 s2 h2 => ?_) fun _ _ x => x)
      refine hx c σ H2 W2 p2.2 _ R2 ((Wp.bnd q2).mono (fun p3 q3 v3 H3 W3 R3 s3 h3 => ?_) fun _ _ x => x)
      split at q3
      · rename_i d dk e1 e2
        split at q3
        · rename_i o eo
          have t1 := (h1.mono (s2.trans s3)).at R3 e1
          have t2 := (h2.mono s3).at R3 e2
          obtain ⟨a', ov, ea', hg, hv⟩ := get_rep R3.gh t1 t2 eo
          cases ea'
          refine ⟨ov, hg, ?_⟩
          rcases hv with ⟨rfl, rfl⟩ | ⟨d', v, rfl, rfl, hv⟩
          · exact q3 v3 H3 W3 R3 ((s1.trans s2).trans s3) h3
          · exact q3 v H3 W3 R3 ((s1.trans s2).trans s3) hv
        · exact q3.elim
      · exact q3.elim
    · exact q.elim
  · exact q.elim
theorem snd_get1 {td tk : TE} {md mk : RE → Out (D × RE)} (hd : Snd K E td md) (hk : Snd K E tk mk) : Snd K E (tDGet1 td tk) (mGet md mk (mC .non)) := fun c σ H W r Q R w => by
  have := snd_get2 (K := K) (E := E) hd hk (snd_c (d := .non) (v := .non) fun _ => repD_non) c σ H W r Q R w
  exact this
/-- x[k] = v, x a list or dict that is a cell -/
@[simp] def putA : D → D → D → Out D
  | .dic kvs, k, v => match keyD k with
    | some key => if kvs.length < 1000000 then .ok (.dic (putD kvs key v)) else .stuck
    | none => .stuck
  | .dct kvs, k, v => match keyT k with
    | some key => if kvs.length < 1000000 then .ok (.dct (putD kvs key v)) else .stuck
    | none => .stuck
  | .lst xs, .int i, v => match ixN xs.length i with
    | some j => .ok (.lst (xs.set j v))
    | none => .stuck
  | _, _, _ => .stuck
theorem nx_put {a b d : D} {x : Exn} {st : Sto} (h : putA a b d = .exc x st) : False := by
  unfold putA at h
  split at h
  · split at h
    · split at h <;> cases h
    · cases h
  · split at h
    · split at h <;> cases h
    · cases h
  · split at h <;> cases h
  · cases h
theorem repL_set : ∀ {ds : List D} {vs : List V} {j : Nat} {d : D} {v : V}, RepL K W ds vs → RepD K W d v → RepL K W (ds.set j d) (vs.set j v)
  | [], vs, j, d, v, h, _ => by simp only [RepL] at h; subst h; simp only [List.set_nil, RepL]
  | x :: ds, vs, 0, d, v, h, hd => by
    simp only [RepL] at h
    obtain ⟨u, us, e, q, l⟩ := h
    subst e
    rw [List.set_cons_zero, List.set_cons_zero]
    simp only [RepL]
    exact ⟨v, us, rfl, hd, l⟩
  | x :: ds, vs, j + 1, d, v, h, hd => by
    simp only [RepL] at h
    obtain ⟨u, us, e, q, l⟩ := h
    subst e
    rw [List.set_cons_succ, List.set_cons_succ]
    simp only [RepL]
    exact ⟨u, _, rfl, q, repL_set l hd⟩
abbrev rSetA : TSet := fun o i v H Q => rSetL o i v H Q ∨ rSetD o i v H Q
/-- the store itself -/
theorem put_rep {d dk dv d' : D} {a : Addr} {kv v : V} {Q : Hp → Prop} (s : Sub W.g H) (ow : Own K H W d (.ref a)) (hk : RepD K W dk kv) (hv : RepD K W dv v) (e : putA d dk dv = .ok d') (k : ∀ o, Own K (upd H a o) W d' (.ref a) → Q (upd H a o)) : rSetA (.ref a) kv v H Q ∧ isLck d = false := by
  unfold putA at e
  split at e
  · split at e
    · rename_i key ek
      split at e
      · rename_i hz
        cases e
        obtain ⟨b, us, ea, ha, la⟩ := ow
        cases ea
        have hkey := keyD_rep ek hk
        subst hkey
        exact ⟨.inr ⟨a, _, rfl, .inl ⟨us, key, ha, rfl, lim_lt (by rw [← repK_len la]; exact hz), rfl⟩, k _ ⟨a, _, rfl, upd_same, repK_put hv la⟩⟩, rfl⟩
      · cases e
    · cases e
  · split at e
    · rename_i key ek
      split at e
      · rename_i hz
        cases e
        obtain ⟨b, us, ea, ha, la⟩ := ow
        cases ea
        obtain ⟨kb, eb, hb⟩ := keyT_rep s ek (RepT.of s hk)
        subst eb
        exact ⟨.inr ⟨a, _, rfl, .inr ⟨us, key, kb, ha, rfl, hb, lim_lt (by rw [← repT_len la]; exact hz), rfl⟩, k _ ⟨a, _, rfl, upd_same, repT_put hv la⟩⟩, rfl⟩
      · cases e
    · cases e
  · rename_i xs i j0
    split at e
    · rename_i j ej
      cases e
      obtain ⟨b, us, ea, ha, la⟩ := ow
      cases ea
      simp only [RepD] at hk
      exact ⟨.inl ⟨a, us, _, j, rfl, hk, ha, by rw [← repL_len la]; exact ej, k _ ⟨a, _, rfl, upd_same, repL_set la hv⟩⟩, rfl⟩
    · cases e
  · cases e
@[simp] def mPut (mo mk mv : RE → Out (D × RE)) : RE → Out Fl := fun r => (mv r).bnd fun v => (mo v.2).bnd fun o => (mk o.2).bnd fun k => match o.1 with
  | .cell i => match k.2.st[i]? with
    | some d => (putA d k.1 v.1).bnd fun d' => .ok (.nx ⟨k.2.s, k.2.st.set i d'⟩)
    | none => .stuck
  | _ => .stuck
theorem snds_put {to tv tk : TE} {mo mv mk : RE → Out (D × RE)} (ho : Snd K E to mo) (hk : Snd K E tk mk) (hv : Snd K E tv mv) : SndS K E (tAsg tv (gSub to tk rSetA)) (mPut mo mk mv) := fun c σ H W r Dd R w => by
  refine hv c σ H W r _ R ((Wp.bnd w).mono (fun p q v H1 W1 R1 s1 h1 => ?_) fun _ _ x => x)
  refine ho c σ H1 W1 p.2 _ R1 ((Wp.bnd q).mono (fun p2 q2 vo H2 W2 R2 s2 h2 => ?_) fun _ _ x => x)
  refine hk c σ H2 W2 p2.2 _ R2 ((Wp.bnd q2).mono (fun p3 q3 kv H3 W3 R3 s3 h3 => ?_) fun _ _ x => x)
  obtain ⟨od, or'⟩ := p2
  cases od <;> simp only at q3 <;> try exact q3.elim
  rename_i i
  simp only [RepD] at h2
  obtain ⟨a, ha, rfl⟩ := h2
  have ha3 := s3.p i a ha
  split at q3
  · rename_i d e1
    have ow := R3.ce i d a e1 ha3
    cases e : putA d p3.1 p.1 with
    | exc x st => exact (nx_put e).elim
    | stuck => rw [e] at q3; exact q3.elim
    | ok d' =>
      rw [e] at q3
      have nl : isLck d = false := by
        cases d <;> first | rfl | (simp only [putA, reduceCtorEq] at e)
      exact (put_rep R3.gh ow h3 (h1.mono (s2.trans s3)) e fun o own => q3 σ _ W3 (R3.mut e1 ha3 (ow.nofrz nl) own) ((s1.trans s2).trans s3)).1
  · exact q3.elim
/-- d.setdefault(k, x), d a cell -/
@[simp] def mSetd (mo mk mx : RE → Out (D × RE)) : RE → Out (D × RE) := fun r => (mo r).bnd fun o => match o.1 with
  | .cell i => match o.2.st[i]? with
    | some (.dic _) => (mk o.2).bnd fun k => (mx k.2).bnd fun x => match x.2.st[i]?, keyD k.1 with
      | some (.dic kvs), some key => if kvs.length < 1000000 then (match valD kvs key with
          | some d => .ok (d, x.2)
          | none => .ok (x.1, ⟨x.2.s, x.2.st.set i (.dic (putD kvs key x.1))⟩)) else .stuck
      | _, _ => .stuck
    | _ => .stuck
  | _ => .stuck
theorem snd_setd {to tk tx : TE} {mo mk mx : RE → Out (D × RE)} (ho : Snd K E to mo) (hk : Snd K E tk mk) (hx : Snd K E tx mx) : Snd K E (tDSetd to tk tx) (mSetd mo mk mx) := fun c σ H W r Q R w => by
  refine ho c σ H W r _ R ((Wp.bnd w).mono (fun p q v H1 W1 R1 s1 h1 => ?_) fun _ _ x => x)
  obtain ⟨od, or'⟩ := p
  cases od <;> simp only at q <;> try exact q.elim
  rename_i i
  simp only [RepD] at h1
  obtain ⟨a, ha, rfl⟩ := h1
  split at q
  · rename_i kvs0 e0
    obtain ⟨a', us0, ea', ha0, _⟩ := R1.ce i _ a e0 ha
    cases ea'
    refine ⟨a, rfl, .inl ⟨us0, .inl ha0⟩, ?_⟩
    refine hk c σ H1 W1 or' _ R1 ((Wp.bnd q).mono (fun p2 q2 kv H2 W2 R2 s2 h2 => ?_) fun _ _ x => x)
    refine hx c σ H2 W2 p2.2 _ R2 ((Wp.bnd q2).mono (fun p3 q3 xv H3 W3 R3 s3 h3 => ?_) fun _ _ x => x)
    have ha3 := s3.p i a (s2.p i a ha)
    split at q3
    · rename_i kvs key e1 ek
      split at q3
      · rename_i hz
        have ow := R3.ce i _ a e1 ha3
        obtain ⟨b, us, ea, hH, la⟩ := id ow
        cases ea
        have hkey := keyD_rep ek (h2.mono s3)
        subst hkey
        refine ⟨us, key, hH, rfl, lim_lt (by rw [← repK_len la]; exact hz), fun v hv => ?_, fun hv => ?_⟩
        · rcases repK_val (k := key) la with ⟨z1, z2⟩ | ⟨d', v', z1, z2, z3⟩
          · rw [hv] at z2; cases z2
          · rw [hv] at z2; cases z2
            rw [z1] at q3
            exact q3 v H3 W3 R3 ((s1.trans s2).trans s3) z3
        · rcases repK_val (k := key) la with ⟨z1, z2⟩ | ⟨d', v', z1, z2, z3⟩
          · rw [z1] at q3
            exact q3 xv _ W3 (R3.mut e1 ha3 (ow.nofrz rfl) ⟨a, _, rfl, upd_same, repK_put h3 la⟩) ((s1.trans s2).trans s3) h3
          · rw [hv] at z2; cases z2
      · exact q3.elim
    · exact q3.elim
  · exact q.elim
/-- x[k] += e of ints, x a list or a dict that is a cell -/
@[simp] def addI : D → D → Out D
  | .int i, .int j => .ok (.int (i + j))
  | _, _ => .stuck
abbrev rGetA (K : PySem.W.Frag) : R2 := fun x y H Q => rIxA K x y H Q ∨ rIxD x y H Q
@[simp] def mAugS (mo mk me : RE → Out (D × RE)) : RE → Out Fl := fun r => (mo r).bnd fun o => (mk o.2).bnd fun k => match o.1 with
  | .cell i => match k.2.st[i]?, dr k.2.st k.1 with
    | some d0, some dk => if isLck d0 = true then .stuck else (dIxA d0 dk).bnd fun old => (me k.2).bnd fun e => (addI old e.1).bnd fun new => match e.2.st[i]? with
      | some d => (putA d k.1 new).bnd fun d' => .ok (.nx ⟨e.2.s, e.2.st.set i d'⟩)
      | none => .stuck
    | _, _ => .stuck
  | _ => .stuck
theorem snds_augS {to tk te : TE} {mo mk me : RE → Out (D × RE)} (ho : Snd K E to mo) (hk : Snd K E tk mk) (he : Snd K E te me) : SndS K E (tAugS to tk te (rGetA K) (ipI fun i j => i + j) rSetA) (mAugS mo mk me) := fun c σ H W r Dd R w => by
  refine ho c σ H W r _ R ((Wp.bnd w).mono (fun p q vo H1 W1 R1 s1 h1 => ?_) fun _ _ x => x)
  refine hk c σ H1 W1 p.2 _ R1 ((Wp.bnd q).mono (fun p2 q2 kv H2 W2 R2 s2 h2 => ?_) fun _ _ x => x)
  obtain ⟨od, or'⟩ := p
  cases od <;> simp only at q2 <;> try exact q2.elim
  rename_i i
  simp only [RepD] at h1
  obtain ⟨a, ha, rfl⟩ := h1
  have ha2 := s2.p i a ha
  split at q2
  · rename_i d0 dk e1 ek
    split at q2
    · exact q2.elim
    · rename_i hnl
      have ow := R2.ce i d0 a e1 ha2
      have tt : RepT K H2 W2 d0 (.ref a) := by
        have := RepT.own ow
        rw [unlck_nl (by simpa using hnl)] at this
        exact this
      cases e2 : dIxA d0 dk with
      | exc x st => exact absurd e2 (nx_ixA _ _ _ _)
      | stuck => rw [e2] at q2; exact q2.elim
      | ok old =>
        rw [e2, bnd_ok] at q2
        refine ops_ixA (.ref a) kv H2 W2 d0 dk _ R2.gh tt (h2.at R2 ek) old e2 fun ov H3 W3 x3 rep => ?_
        have R3 := R2.ext x3
        refine he c σ H3 W3 p2.2 _ R3 ((Wp.bnd q2).mono (fun p4 q4 ev H4 W4 R4 s4 h4 => ?_) fun _ _ x => x)
        have hov := rep.mono s4
        cases e4 : addI old p4.1 with
        | exc x st => unfold addI at e4; split at e4 <;> cases e4
        | stuck => rw [e4] at q4; exact q4.elim
        | ok new =>
          rw [e4, bnd_ok] at q4
          unfold addI at e4
          split at e4
          · rename_i x y ey
            cases e4
            simp only [RepD] at hov
            have h4' := h4
            rw [ey] at h4'
            simp only [RepD] at h4'
            refine ⟨x, y, hov, h4', ?_⟩
            have ha4 := s4.p i a (x3.sub.p i a ha2)
            split at q4
            · rename_i d e5
              have ow4 := R4.ce i d a e5 ha4
              cases e6 : putA d p2.1 (.int (x + y)) with
              | exc x st => exact (nx_put e6).elim
              | stuck => rw [e6] at q4; exact q4.elim
              | ok d' =>
                rw [e6] at q4
                have nl : isLck d = false := by
                  cases d <;> first | rfl | (simp only [putA, reduceCtorEq] at e6)
                exact (put_rep R4.gh ow4 (h2.mono (x3.sub.trans s4)) repD_int e6 fun o own => q4 σ _ W4 (R4.mut e5 ha4 (ow4.nofrz nl) own) (((s1.trans s2).trans x3.sub).trans s4)).1
            · exact q4.elim
          · cases e4
  · exact q2.elim
/-- x += e of ints -/
@[simp] def mAug (i : Nat) (f : D → D → Out D) (me : RE → Out (D × RE)) : RE → Out Fl := fun r => match r.s[i]? with
  | some (some d) => (me r).bnd fun e => (f d e.1).bnd fun x => .ok (.nx (e.2.put i (some x)))
  | _ => .stuck
theorem snds_augI {i : Nat} {te : TE} {me : RE → Out (D × RE)} (he : Snd K E te me) : SndS K E (tAug i te (ipI fun i j => i + j)) (mAug i addI me) := fun c σ H W r Dd R w => by
  unfold mAug at w
  split at w
  · rename_i d e0
    obtain ⟨v, hv, hd⟩ := R.sl i d e0
    refine ⟨v, hv, ?_⟩
    refine he c σ H W r _ R ((Wp.bnd w).mono (fun p q ev H1 W1 R1 s1 h1 => ?_) fun _ _ x => x)
    cases e : addI d p.1 with
    | exc x st => unfold addI at e; split at e <;> cases e
    | stuck => rw [e] at q; exact q.elim
    | ok new =>
      rw [e, bnd_ok] at q
      unfold addI at e
      split at e
      · rename_i x y ey
        cases e
        simp only [RepD] at hd
        rw [ey] at h1
        simp only [RepD] at h1
        exact ⟨x, y, hd, h1, q _ H1 W1 (R1.set repD_int) s1⟩
      · cases e
  · exact w.elim
end
theorem PSet.or {X : Cx} {t t' : TSet} (h : PSet X t) (h' : PSet X t') : PSet X (fun o i v H Q => t o i v H Q ∨ t' o i v H Q) := fun pins s σ H o i v ov iv u Q I ro ri rv hq => by
  rcases hq with q | q
  · exact h pins s σ H o i v ov iv u Q I ro ri rv q
  · exact h' pins s σ H o i v ov iv u Q I ro ri rv q
end Mir

set_option maxHeartbeats 4000000
namespace Mir
open PySem PySem.Spec PyProof.Rows L2
/-! ## locks -/
section
variable {K : PySem.W.Frag} {E : XK} {c : Fm} {σ σ' : L2.St} {H H' : Hp} {W W' : Wd} {r r' : RE}
abbrev lockIn (c : Fm) (a : Addr) (od : Obj) (u : HO) : Fm := { c with lk := (a, od, u) :: c.lk }
theorem core_dict {od : Obj} {u : HO} (h : isDict u = true) : core (.frz od u) = u := by
  show (if isDict u = true then u else HO.frz od u) = u
  rw [if_pos h]
theorem core_of_dict {u : HO} (h : isDict u = true) : core u = u := by
  cases u <;> first | rfl | cases h
theorem RR.note (R : RR K c σ H W r) {a : Addr} {od : Obj} {u : HO} (hu : H a = some (.frz od u)) : RR K (lockIn c a od u) σ H W r :=
  ⟨R.gh, R.g0, R.gr, R.ke, R.xk, R.len, R.sl, R.cl, R.ce, R.cg, R.cn, fun p hp => (List.mem_cons.mp hp).elim (fun e => e ▸ hu) (R.lk p)⟩
theorem RR.lose {a : Addr} {od : Obj} {u : HO} (R : RR K (lockIn c a od u) σ H W r) : RR K c σ H W r :=
  ⟨R.gh, R.g0, R.gr, R.ke, R.xk, R.len, R.sl, R.cl, R.ce, R.cg, R.cn, fun p hp => R.lk p (List.mem_cons_of_mem _ hp)⟩
/-- a frozen dict is locked or let go -/
theorem RR.flip (R : RR K c σ H W r) {a : Addr} {u o : HO} (hc : core o = core u) (hu : H a = some u) (hg : W.g a ≠ none) (hk : ∀ w, c.He a = some w → ∀ ob v, w = .frz ob v → o = w) (hl : ∀ p ∈ c.lk, p.1 ≠ a) : RR K c σ (upd H a o) W r := by
  have nb : a ∉ W.b := fun z => hg (R.cg a z).1
  have hG0 : c.W0.g a = none → c.He a = none := fun z => by
    cases q : W.g a with
    | none => exact absurd q hg
    | some w =>
      rcases R.gr a w q with y | y
      · exact absurd z y
      · exact y
  refine ⟨fun b w e => ?_, R.g0, R.gr, fun b w e => ?_, fun b hb => ?_, R.len, R.sl, R.cl, fun i d b h1 h2 => (R.ce i d b h1 h2).mono (Le.refl W) (fun x q => ?_), R.cg, R.cn, fun p hp => by rw [upd_ne (hl p hp)]; exact R.lk p hp⟩
  · by_cases z : b = a
    · subst z
      obtain ⟨w', e', q⟩ := R.gh b w e
      rw [hu] at e'; cases e'
      exact ⟨o, upd_same, hc.trans q⟩
    · rw [upd_ne z]; exact R.gh b w e
  · obtain ⟨k0, k2⟩ := R.ke b w e
    by_cases z : b = a
    · subst z
      refine ⟨fun hb => ?_, fun ob v y => by rw [upd_same, hk w e ob v y]⟩
      obtain ⟨⟨w', e', q⟩, _⟩ := k0 hb
      rw [hu] at e'; cases e'
      exact ⟨⟨o, upd_same, hc.trans q⟩, fun y => by rw [hG0 y] at e; cases e⟩
    · rw [upd_ne z]; exact ⟨k0, k2⟩
  · by_cases z : b = a
    · rw [z, upd_same]; simp
    · rw [upd_ne z]; exact R.xk b hb
  · have : b ≠ a := fun z => nb (z ▸ List.mem_iff_getElem?.mpr ⟨i, h2⟩)
    rw [upd_ne this]; exact q
/-- a locked cell is let go -/
theorem RR.unlockC {k : Nat} {a : Addr} {od : Obj} {u : HO} {d : D} (R : RR K (lockIn c a od u) σ H W r) (ha : W.b[k]? = some a) (own : Own K (upd H a u) W d (.ref a)) (hk : ∀ w, c.He a = some w → ∀ ob v, w ≠ .frz ob v) (hl : ∀ p ∈ c.lk, p.1 ≠ a) : RR K c σ (upd H a u) W ⟨r.s, r.st.set k d⟩ := by
  have hm : a ∈ W.b := List.mem_iff_getElem?.mpr ⟨k, ha⟩
  obtain ⟨ga, hx⟩ := R.cg a hm
  have hkl : k < r.st.length := by rw [← R.cl]; exact (List.getElem?_eq_some_iff.mp ha).1
  refine ⟨R.gh.mut ga, R.g0, R.gr, fun b w hb => ?_, fun b hb => ?_, R.len, R.sl, ?_, fun j e b h1 h2 => ?_, R.cg, R.cn, fun p hp => ?_⟩
  · obtain ⟨k0, k2⟩ := R.ke b w hb
    by_cases z : b = a
    · subst z
      refine ⟨fun hn => ?_, fun ob v e => absurd e (hk w hb ob v)⟩
      rcases hx with hx | hx
      · exact absurd hx hn
      · have hb' : c.He b = some w := hb
        rw [show c.He b = none from hx] at hb'; cases hb'
    · rw [upd_ne z]; exact ⟨k0, k2⟩
  · by_cases z : b = a
    · rw [z, upd_same]; simp
    · rw [upd_ne z]; exact R.xk b hb
  · show W.b.length = (r.st.set k d).length
    rw [List.length_set]; exact R.cl
  · have h1' : (r.st.set k d)[j]? = some e := h1
    by_cases hj : k = j
    · subst hj
      rw [List.getElem?_set_self hkl] at h1'
      cases h1'
      rw [ha] at h2; cases h2
      exact own
    · rw [List.getElem?_set_ne hj] at h1'
      have hb : b ≠ a := fun z => by
        subst z
        have q1 := List.getElem?_eq_some_iff.mp ha
        have q2 := List.getElem?_eq_some_iff.mp h2
        exact hj ((List.getElem_inj R.cn).mp (q1.2.trans q2.2.symm))
      exact (R.ce j e b h1' h2).mono (Le.refl W) (fun x q => by rw [upd_ne hb]; exact q)
  · rw [upd_ne (hl p hp)]; exact R.lk p (List.mem_cons_of_mem _ hp)
/-! ## what can be walked while it is locked -/
/-- the object that a content is -/
def Fits (K : PySem.W.Frag) (W : Wd) : D → HO → Prop
  | .lst ds, u => ∃ us, u = .lst us ∧ RepL K W ds us
  | .dic kvs, u => ∃ us, u = .dK us ∧ RepK K W kvs us
  | .dct kvs, u => ∃ us, u = .dT us ∧ RepKT K W kvs us
  | _, _ => False
theorem Own.fits {d : D} {a : Addr} (n : isLck d = false) (hi : ∀ C fs, d ≠ .ins C fs) (h : Own K H W d (.ref a)) : ∃ u, H a = some u ∧ Fits K W d u ∧ Mut (some u) := by
  unfold Own at h
  split at h
  · obtain ⟨b, us, e, q, r⟩ := h; cases e; exact ⟨_, q, ⟨us, rfl, r⟩, trivial⟩
  · obtain ⟨b, us, e, q, r⟩ := h; cases e; exact ⟨_, q, ⟨us, rfl, r⟩, trivial⟩
  · obtain ⟨b, us, e, q, r⟩ := h; cases e; exact ⟨_, q, ⟨us, rfl, r⟩, trivial⟩
  · exact absurd rfl (hi _ _)
  · cases n
  · cases n
  · cases n
  · exact h.elim
theorem Own.lfits {d : D} {a : Addr} (h : Own K H W (.lck d) (.ref a)) : ∃ u od, H a = some (.frz od u) ∧ Fits K W d u := by
  cases d <;> simp only [Own] at h <;> try exact h.elim
  · obtain ⟨b, us, o, e, q, r⟩ := h; cases e; exact ⟨_, o, q, ⟨us, rfl, r⟩⟩
  · obtain ⟨b, us, o, e, q, r⟩ := h; cases e; exact ⟨_, o, q, ⟨us, rfl, r⟩⟩
  · obtain ⟨b, us, o, e, q, r⟩ := h; cases e; exact ⟨_, o, q, ⟨us, rfl, r⟩⟩
theorem Fits.own {d : D} {u : HO} {a : Addr} (h : Fits K W d u) (hH : H a = some u) : Own K H W d (.ref a) := by
  cases d <;> simp only [Fits] at h <;> try exact h.elim
  · obtain ⟨us, rfl, r⟩ := h; exact ⟨a, us, rfl, hH, r⟩
  · obtain ⟨us, rfl, r⟩ := h; exact ⟨a, us, rfl, hH, r⟩
  · obtain ⟨us, rfl, r⟩ := h; exact ⟨a, us, rfl, hH, r⟩
theorem Fits.lown {d : D} {u : HO} {od : Obj} {a : Addr} (h : Fits K W d u) (hH : H a = some (.frz od u)) : Own K H W (.lck d) (.ref a) := by
  cases d <;> simp only [Fits] at h <;> try exact h.elim
  · obtain ⟨us, rfl, r⟩ := h; exact ⟨a, us, od, rfl, hH, r⟩
  · obtain ⟨us, rfl, r⟩ := h; exact ⟨a, us, od, rfl, hH, r⟩
  · obtain ⟨us, rfl, r⟩ := h; exact ⟨a, us, od, rfl, hH, r⟩
theorem Fits.mono {d : D} {u : HO} (s : Le W W') (h : Fits K W d u) : Fits K W' d u := by
  cases d <;> simp only [Fits] at h ⊢ <;> try exact h.elim
  · obtain ⟨us, e, r⟩ := h; exact ⟨us, e, r.mono s⟩
  · obtain ⟨us, e, r⟩ := h; exact ⟨us, e, r.mono s⟩
  · obtain ⟨us, e, r⟩ := h; exact ⟨us, e, r.mono s⟩
/-- what the turns give -/
def Yields (K : PySem.W.Frag) (W : Wd) (ds : List D) (Y : Nat → Hp → V → Hp → Prop) : Prop := ∀ (i : Nat) (H2 : Hp) (W2 : Wd) (x : V) (H3 : Hp), Sub W2.g H2 → Le W W2 → i < ds.length → Y i H2 x H3 → ∃ W3 d, Ext H2 W2 H3 W3 ∧ ds[i]? = some d ∧ RepD K W3 d x
/-- te gives the object at a, whatever else stands in the heap -/
def At (te : TE) (σ : L2.St) (H : Hp) (a : Addr) : Prop := ∀ Q : VK, Q (.ref a) H → te σ H Q
/-- a way of walking: what is walked of a content -/
structure WK (K : PySem.W.Frag) (wi : TE → TI) (items : D → Option (List D)) : Prop where
  ni : ∀ C fs, ¬ items (.ins C fs) ≠ none
  /-- locked -/
  lk : ∀ (d : D) (ds : List D) (W : Wd) (u : HO) (a : Addr) (od : Obj), items d = some ds → Fits K W d u → ∃ (J : It) (Y : Nat → Hp → V → Hp → Prop), (∀ te σ H R, At te σ H a → H a = some (.frz od u) → R J H → wi te σ H R) ∧ Walk J ds.length (fun H => H a = some (.frz od u)) Y ∧ Yields K W ds Y
  /-- frozen: a dict, or a thing that can be walked as it is -/
  fz : ∀ (d : D) (ds : List D) (W : Wd) (v : V), items d = some ds → RepD K W d v → (∃ a u, v = .ref a ∧ Rd W.g a u ∧ isDict u = true ∧ Fits K W d u) ∨
    ∃ (J : It) (Gp : Hp → Prop) (Y : Nat → Hp → V → Hp → Prop), (∀ te σ H R, Sub W.g H → (∀ Q : VK, Q v H → te σ H Q) → R J H → wi te σ H R) ∧ Walk J ds.length Gp Y ∧ (∀ W2 H2, Le W W2 → Sub W2.g H2 → Gp H2) ∧ Yields K W ds Y
/-- a path: a name, or fields of it -/
def SndPath (K : PySem.W.Frag) (te : TE) (m : RE → Out (D × RE)) : Prop := ∀ (c : Fm) (σ : L2.St) (H : Hp) (W : Wd) (r : RE) (d : D) (r' : RE), RR K c σ H W r → m r = .ok (d, r') → r' = r ∧ ∃ v, RepD K W d v ∧ ∀ H' (Q : VK), (∀ p C dx fs, H p = some (.ins C dx fs) → H' p = some (.ins C dx fs)) → Q v H' → te σ H' Q
theorem path_var {i : Nat} : SndPath K (tVar i) (mVar i) := fun c σ H W r d r' R e => by
  unfold mVar at e
  split at e
  · rename_i d0 e0
    cases e
    obtain ⟨v, h1, h2⟩ := R.sl i d e0
    exact ⟨rfl, v, h2, fun H' Q _ q => ⟨v, h1, q⟩⟩
  · cases e
/-- the turns of a loop, from where what is walked has come -/
theorem for_core {J : It} {Gp : Hp → Prop} {Y : Nat → Hp → V → Hp → Prop} {ds : List D} {g : TG} {st : D → RE → Option RE} {ts : TS} {ms : RE → Out Fl} {Dd : Ends} (Pe : Fl → Prop)
    (hg : GS K E g st) (hb : SndS K E ts ms) (R1 : RR K c σ H W r) (wk : Walk J ds.length Gp Y)
    (hG : ∀ (σ2 : L2.St) (H2 : Hp) (W2 : Wd) (r2 : RE), RR K c σ2 H2 W2 r2 → Le W W2 → Gp H2) (hY : Yields K W ds Y)
    (q : Wp (mLoop st ms ds r) Pe (XP K c E)) (hn : ∀ r' σ' H' W', Pe (.nx r') → RR K c σ' H' W' r' → Le W W' → Dd.nx σ' H') (hr : ∀ d r', Pe (.rt d r') → ∀ v σ' H' W', RR K c σ' H' W' r' → Le W W' → RepD K W' d v → Dd.rt v H') :
    ∃ Wt : Nat → Nat → L2.St → Hp → Prop, (∃ m, Wt 0 m σ H) ∧ ∀ i m σ H, Wt i m σ H →
      (J.stop i H ∧ Dd.nx σ H) ∨ (J.go i H ∧ ∃ N : L2.St → Hp → Prop, (∀ σ' H', N σ' H' → ∃ m', m' < m ∧ Wt (i + 1) m' σ' H') ∧ ∀ x H', J.yld i H x H' → g x σ H' fun σ2 H2 => ts { Dd with nx := N, ct := N, bk := Dd.nx } σ2 H2) := by
  refine for_it wk (fun i σ2 H2 => ∃ W2 r2, RR K c σ2 H2 W2 r2 ∧ Le W W2 ∧ Wp (mLoop st ms (ds.drop i) r2) Pe (XP K c E)) ⟨W, r, R1, Le.refl W, by rw [List.drop_zero]; exact q⟩ (fun i σ2 H2 _ ⟨W2, r2, R2, s2, _⟩ => hG σ2 H2 W2 r2 R2 s2) ?_ ?_
  · rintro i x σ2 H2 H3 hlt ⟨W2, r2, R2, s2, q2⟩ y
    obtain ⟨W3, d, x3, e3, h3⟩ := hY i H2 W2 x H3 R2.gh s2 hlt y
    have R3 := R2.ext x3
    have ed : ds.drop i = d :: ds.drop (i + 1) := by
      obtain ⟨hi', he⟩ := List.getElem?_eq_some_iff.mp e3
      rw [← he]
      exact List.drop_eq_getElem_cons hi'
    rw [ed] at q2
    simp only [mLoop] at q2
    cases e4 : st d r2 with
    | none => simp only [e4] at q2; exact q2.elim
    | some r3 =>
      simp only [e4] at q2
      refine hg c x d σ2 H3 W3 r2 r3 _ R3 h3 e4 fun σ3 R4 => ?_
      have s3 : Le W W3 := s2.trans x3.sub
      refine hb c σ3 H3 W3 r3 _ R4 ((Wp.bnd q2).mono (fun f q3 => ?_) fun _ _ x => x)
      cases f with
      | nx r4 => exact fun σ4 H4 W4 R5 s4 => ⟨W4, r4, R5, s3.trans s4, q3⟩
      | ct r4 => exact fun σ4 H4 W4 R5 s4 => ⟨W4, r4, R5, s3.trans s4, q3⟩
      | bk r4 => exact fun σ4 H4 W4 R5 s4 => hn r4 σ4 H4 W4 q3 R5 (s3.trans s4)
      | rt d4 r4 => exact fun v σ4 H4 W4 R5 s4 h4 => hr d4 r4 q3 v σ4 H4 W4 R5 (s3.trans s4) h4
  · rintro σ2 H2 ⟨W2, r2, R2, s2, q2⟩
    rw [List.drop_length] at q2
    exact hn r2 σ2 H2 W2 q2 R2 s2
/-- the cell k is let go behind a statement -/
@[simp] def freeFl (k : Nat) (d : D) : Fl → Fl
  | .nx r => .nx ⟨r.s, r.st.set k d⟩
  | .rt v r => .rt v ⟨r.s, r.st.set k d⟩
  | .bk r => .bk ⟨r.s, r.st.set k d⟩
  | .ct r => .ct ⟨r.s, r.st.set k d⟩
/-- what is walked: the items, and the cell that is locked for it -/
@[simp] def mWalked (items : D → Option (List D)) (r : RE) (d : D) : Option (List D × RE × Option (Nat × D)) := match d with
  | .cell k => match r.st[k]? with
    | some (.lck e) => (items e).map fun ds => (ds, r, none)
    | some e => (items e).map fun ds => (ds, ⟨r.s, r.st.set k (.lck e)⟩, some (k, e))
    | none => none
  | d => (items d).map fun ds => (ds, r, none)
@[simp] def mForW (items : D → Option (List D)) (m : RE → Out (D × RE)) (st : D → RE → Option RE) (b : RE → Out Fl) : RE → Out Fl := fun r => (m r).bnd fun p => match mWalked items p.2 p.1 with
  | some (ds, r', none) => mLoop st b ds r'
  | some (ds, r', some (k, e)) => (mLoop st b ds r').bnd fun f => .ok (freeFl k e f)
  | none => .stuck
def tOrS (t u : TS) : TS := fun D σ H => t D σ H ∨ u D σ H
theorem ps_orS {X : Cx} {s : Stmt} {t u : TS} (h : PS X s t) (k : PS X s u) : PS X s (tOrS t u) := ⟨fun pins s σ H D I q => q.elim (fun q => h.run pins s σ H D I q) (fun q => k.run pins s σ H D I q)⟩
def tOrE (t u : TE) : TE := fun σ H Q => t σ H Q ∨ u σ H Q
theorem pe_orE {X : Cx} {s : PySem.Expr} {t u : TE} (h : PE X s t) (k : PE X s u) : PE X s (tOrE t u) := ⟨fun pins s σ H D I q => q.elim (fun q => h.run pins s σ H D I q) (fun q => k.run pins s σ H D I q)⟩
@[simp] def freeR : Option (Nat × D) → RE → RE
  | some (k, e), r => ⟨r.s, r.st.set k e⟩
  | none, r => r
/-- the three ways in which a thing is walked -/
inductive How (K : PySem.W.Frag) (c : Fm) (wi : TE → TI) (te : TE) (σ : L2.St) (H : Hp) (W : Wd) (r : RE) (ds : List D) (r1 : RE) : Option (Nat × D) → Prop
  /-- as it is -/
  | plain {J : It} {Gp : Hp → Prop} {Y : Nat → Hp → V → Hp → Prop} {c' : Fm} (R1 : RR K c' σ H W r1) (hc : ∀ {σ2 H2 W2 r2}, RR K c' σ2 H2 W2 r2 → RR K c σ2 H2 W2 r2) (hx : ∀ {E x st}, XP K c E x st → XP K c' E x st) (go : ∀ R, R J H → wi te σ H R) (wk : Walk J ds.length Gp Y)
      (hG : ∀ (σ2 : L2.St) (H2 : Hp) (W2 : Wd) (r2 : RE), RR K c' σ2 H2 W2 r2 → Le W W2 → Gp H2) (hY : Yields K W ds Y) : How K c wi te σ H W r ds r1 none
  /-- it is locked for the while -/
  | lock {a : Addr} {u : HO} {o : Option (Nat × D)} (hH : H a = some u) (mu : Mut (some u)) (go : ∀ od, ∃ (J : It) (Gp : Hp → Prop) (Y : Nat → Hp → V → Hp → Prop), RR K (lockIn c a od u) σ (upd H a (.frz od u)) W r1 ∧ (∀ {E x st}, XP K c E x st → XP K (lockIn c a od u) E x st) ∧
      (∀ R, R J (upd H a (.frz od u)) → wi te σ (upd H a (.frz od u)) R) ∧ Walk J ds.length Gp Y ∧ (∀ (σ2 : L2.St) (H2 : Hp) (W2 : Wd) (r2 : RE), RR K (lockIn c a od u) σ2 H2 W2 r2 → Le W W2 → Gp H2) ∧ Yields K W ds Y)
      (back : ∀ od {σ2 H2 W2 r2}, RR K (lockIn c a od u) σ2 H2 W2 r2 → Le W W2 → H2 a = some (.frz od u) ∧ RR K c σ2 (upd H2 a u) W2 (freeR o r2)) : How K c wi te σ H W r ds r1 o
theorem how {wi : TE → TI} {items : D → Option (List D)} {te : TE} {m : RE → Out (D × RE)} (wk : WK K wi items) (hp : SndPath K te m) (R : RR K c σ H W r) {d : D} {r0 r1 : RE} {ds : List D} {o : Option (Nat × D)} (e : m r = .ok (d, r0)) (ew : mWalked items r0 d = some (ds, r1, o)) : How K c wi te σ H W r ds r1 o := by
  obtain ⟨rfl, v, hv, hat⟩ := hp c σ H W r d r0 R e
  have lose : ∀ {a : Addr} {od : Obj} {u : HO} {E : XK} {x : Exn} {st : Sto}, XP K c E x st → XP K (lockIn c a od u) E x st := fun h dx H' W' us R' hx rf => h dx H' W' us R'.lose hx rf
  have keep : ∀ {a : Addr} {u : HO} {od : Obj}, H a = some u → (∀ C dx fs, u ≠ .ins C dx fs) → ∀ p C dx fs, H p = some (.ins C dx fs) → upd H a (.frz od u) p = some (.ins C dx fs) := fun hH hu p C dx fs z => by
    rw [upd_ne (fun y => hu C dx fs (by rw [y, hH] at z; exact Option.some.inj z))]; exact z
  have frozen : (d ≠ .cell 0 → ∀ k, d ≠ .cell k) → items d = some ds → r1 = r0 → o = none → How K c wi te σ H W r0 ds r1 o := fun _ hi e1 e2 => by
    subst e1; subst e2
    rcases wk.fz d ds W v hi hv with ⟨a, u, rfl, hu, hd, hf⟩ | ⟨J, Gp, Y, go, w1, hG, hY⟩
    · have hga : W.g a ≠ none := by rcases hu with h | ⟨o, h⟩ <;> rw [h] <;> simp
      have hH : Rd H a u := by
        cases u <;> simp only [isDict, reduceCtorEq, Bool.false_eq_true] at hd
        · exact R.gh.rd_dK hu
        · exact R.gh.rd_dT hu
      have hni : ∀ C dx fs, u ≠ .ins C dx fs := fun C dx fs z => by subst z; cases hd
      rcases hH with hH | ⟨od, hH⟩
      · have hl : ∀ p ∈ c.lk, p.1 ≠ a := fun p hp' z => by
          have := R.lk p hp'
          rw [z, hH] at this; cases this; cases hd
        have hk : ∀ w, c.He a = some w → ∀ ob v, w ≠ .frz ob v := fun w e ob v z => by
          have := (R.ke a w e).2 ob v z
          rw [hH] at this; subst z; cases this; cases hd
        refine .lock (o := none) hH (by cases u <;> first | trivial | cases hd) (fun od => ?_) fun od {σ2 H2 W2 r2} R2 s2 => ?_
        · obtain ⟨J, Y, go, w1, hY⟩ := wk.lk d ds W u a od hi hf
          refine ⟨J, _, Y, (R.flip (o := .frz od u) (by rw [core_dict hd, core_of_dict hd]) hH hga (fun w e ob v z => absurd z (hk w e ob v)) hl).note upd_same, lose, fun Rr q => go te σ _ Rr (fun Q z => hat _ Q (keep hH hni) z) upd_same q, w1, fun σ2 H2 W2 r2 R2 _ => R2.lk (a, od, u) List.mem_cons_self, hY⟩
        · have hH2 : H2 a = some (.frz od u) := R2.lk (a, od, u) List.mem_cons_self
          have hg2 : W2.g a ≠ none := by
            cases q : W.g a with
            | none => exact absurd q hga
            | some w => exact s2.s.is q
          exact ⟨hH2, R2.lose.flip (by rw [core_dict hd, core_of_dict hd]) hH2 hg2 (fun w e ob v z => absurd z (hk w e ob v)) hl⟩
      · obtain ⟨J, Y, go, w1, hY⟩ := wk.lk d ds W u a od hi hf
        exact .plain (c' := lockIn c a od u) (R.note hH) (fun R2 => R2.lose) lose (fun Rr q => go te σ H Rr (fun Q z => hat H Q (fun _ _ _ _ z => z) z) hH q) w1 (fun σ2 H2 W2 r2 R2 _ => R2.lk (a, od, u) List.mem_cons_self) hY
    · exact .plain (c' := c) R (fun R2 => R2) (fun h => h) (fun Rr q => go te σ H Rr R.gh (fun Q z => hat H Q (fun _ _ _ _ z => z) z) q) w1 (fun σ2 H2 W2 r2 R2 s2 => hG W2 H2 s2 R2.gh) hY
  cases d with
  | cell k =>
    simp only [RepD] at hv
    obtain ⟨a, ha, rfl⟩ := hv
    have hk : k < r0.st.length := by rw [← R.cl]; exact (List.getElem?_eq_some_iff.mp ha).1
    have hs : r0.st[k]? = some r0.st[k] := List.getElem?_eq_getElem hk
    generalize r0.st[k] = cd at hs
    simp only [mWalked, hs] at ew
    have own := R.ce k cd a hs ha
    by_cases hlk : ∃ e, cd = .lck e
    · obtain ⟨e', rfl⟩ := hlk
      simp only [Option.map_eq_some_iff] at ew
      obtain ⟨ds', hi, e2⟩ := ew
      cases e2
      obtain ⟨u, od, hH, hf⟩ := own.lfits
      obtain ⟨J, Y, go, w1, hY⟩ := wk.lk e' ds W u a od hi hf
      exact .plain (c' := lockIn c a od u) (R.note hH) (fun R2 => R2.lose) lose (fun Rr q => go te σ H Rr (fun Q z => hat H Q (fun _ _ _ _ z => z) z) hH q) w1 (fun σ2 H2 W2 r2 R2 _ => R2.lk (a, od, u) List.mem_cons_self) hY
    · have hnl : isLck cd = false := by
        cases cd <;> first | rfl | exact absurd ⟨_, rfl⟩ hlk
      have ew' : (items cd).map (fun ds => (ds, (⟨r0.s, r0.st.set k (.lck cd)⟩ : RE), some (k, cd))) = some (ds, r1, o) := by
        cases cd <;> first | exact ew | exact absurd ⟨_, rfl⟩ hlk
      simp only [Option.map_eq_some_iff] at ew'
      obtain ⟨ds', hi, e2⟩ := ew'
      cases e2
      by_cases hins : ∃ C fs, cd = .ins C fs
      · obtain ⟨C, fs, rfl⟩ := hins
        exfalso
        exact wk.ni C fs (by rw [hi]; simp)
      · obtain ⟨u, hH, hf, mu⟩ := own.fits hnl (fun C fs z => hins ⟨C, fs, z⟩)
        have hni : ∀ C dx fs, u ≠ .ins C dx fs := fun C dx fs z => by
          subst z
          cases cd <;> simp only [Fits] at hf <;> first | exact hf | (obtain ⟨us, e, _⟩ := hf; cases e)
        have hnf := own.nofrz hnl
        have hl : ∀ p ∈ c.lk, p.1 ≠ a := fun p hp' z => hnf _ _ (z ▸ R.lk p hp')
        have hk2 : ∀ w, c.He a = some w → ∀ ob v, w ≠ .frz ob v := fun w e ob v z => hnf ob v (by rw [← z]; exact (R.ke a w e).2 ob v z)
        refine .lock (o := some (k, cd)) hH mu (fun od => ?_) fun od {σ2 H2 W2 r2} R2 s2 => ?_
        · obtain ⟨J, Y, go, w1, hY⟩ := wk.lk cd ds W u a od hi hf
          exact ⟨J, _, Y, (R.mut hs ha hnf (hf.lown upd_same)).note upd_same, lose, fun Rr q => go te σ _ Rr (fun Q z => hat _ Q (keep hH hni) z) upd_same q, w1, fun σ2 H2 W2 r2 R2 _ => R2.lk (a, od, u) List.mem_cons_self, hY⟩
        · exact ⟨R2.lk (a, od, u) List.mem_cons_self, R2.unlockC (s2.p k a ha) ((hf.mono s2).own upd_same) hk2 hl⟩
  | _ => simp only [mWalked, Option.map_eq_some_iff] at ew; obtain ⟨ds', hi, e2⟩ := ew; cases e2; exact frozen (fun _ k z => by cases z) hi rfl rfl
end
end Mir

set_option maxHeartbeats 4000000
namespace Mir
open PySem PySem.Spec PyProof.Rows L2
section
variable {K : PySem.W.Frag} {E : XK} {c : Fm} {σ σ' : L2.St} {H H' : Hp} {W W' : Wd} {r r' : RE}
@[simp] def freeF : Option (Nat × D) → Fl → Fl
  | some (k, e), f => freeFl k e f
  | none, f => f
theorem freeFl_P {Dd : Ends} {a : Addr} {od : Obj} {u : HO} {o : Option (Nat × D)} (back : ∀ {σ2 H2 W2 r2}, RR K (lockIn c a od u) σ2 H2 W2 r2 → Le W W2 → H2 a = some (.frz od u) ∧ RR K c σ2 (upd H2 a u) W2 (freeR o r2))
    {f : Fl} (q : FlP K c W Dd (freeF o f)) : FlP K (lockIn c a od u) W ⟨fun σ' H' => H' a = some (.frz od u) ∧ Dd.nx σ' (upd H' a u), fun v H' => H' a = some (.frz od u) ∧ Dd.rt v (upd H' a u), fun σ' H' => H' a = some (.frz od u) ∧ Dd.bk σ' (upd H' a u), fun σ' H' => H' a = some (.frz od u) ∧ Dd.ct σ' (upd H' a u)⟩ f := by
  cases f with
  | nx r2 => exact fun σ2 H2 W2 R2 s2 => ⟨(back R2 s2).1, by cases o with | none => exact q σ2 _ W2 (back R2 s2).2 s2 | some p => exact q σ2 _ W2 (back R2 s2).2 s2⟩
  | rt d r2 => exact fun v σ2 H2 W2 R2 s2 hv => ⟨(back R2 s2).1, by cases o with | none => exact q v σ2 _ W2 (back R2 s2).2 s2 hv | some p => exact q v σ2 _ W2 (back R2 s2).2 s2 hv⟩
  | bk r2 => exact fun σ2 H2 W2 R2 s2 => ⟨(back R2 s2).1, by cases o with | none => exact q σ2 _ W2 (back R2 s2).2 s2 | some p => exact q σ2 _ W2 (back R2 s2).2 s2⟩
  | ct r2 => exact fun σ2 H2 W2 R2 s2 => ⟨(back R2 s2).1, by cases o with | none => exact q σ2 _ W2 (back R2 s2).2 s2 | some p => exact q σ2 _ W2 (back R2 s2).2 s2⟩
theorem snds_forW {wi : TE → TI} {items : D → Option (List D)} {te : TE} {m : RE → Out (D × RE)} {g : TG} {st : D → RE → Option RE} {ts : TS} {ms : RE → Out Fl} (wk : WK K wi items) (hp : SndPath K te m) (nx : ∀ r x s, m r ≠ .exc x s) (hg : GS K E g st) (hb : SndS K E ts ms) :
    SndS K E (tOrS (tLock (tFor (wi te) g ts)) (tFor (wi te) g ts)) (mForW items m st ms) := fun c σ H W r Dd R w => by
  unfold mForW at w
  cases e : m r with
  | exc x s0 => exact absurd e (nx _ _ _)
  | stuck => rw [e] at w; exact w.elim
  | ok p =>
    obtain ⟨d, r0⟩ := p
    rw [e, bnd_ok] at w
    cases ew : mWalked items r0 d with
    | none => simp only [ew] at w; exact w.elim
    | some t =>
      obtain ⟨ds, r1, o⟩ := t
      have hw := how wk hp R e ew
      have q : Wp (mLoop st ms ds r1) (fun f => FlP K c W Dd (freeF o f)) (XP K c E) := by
        cases o with
        | none => simp only [ew] at w; exact w
        | some p =>
          obtain ⟨k, d0⟩ := p
          simp only [ew] at w
          exact (Wp.bnd w).mono (fun f z => z) fun _ _ x => x
      cases hw with
      | plain R1 hc hx go w1 hG hY =>
        refine .inr (go _ ?_)
        refine for_core (fun f => FlP K c W Dd f) hg hb R1 w1 hG hY (q.mono (fun f z => z) fun _ _ x => hx x) (fun r' σ' H' W' z R2 s2 => z σ' H' W' (hc R2) s2) fun d r' z v σ' H' W' R2 s2 hv => z v σ' H' W' (hc R2) s2 hv
      | lock hH mu go back =>
        refine .inl ⟨_, _, hH, mu, fun od => ?_⟩
        obtain ⟨J, Gp, Y, R1, hx, go', w1, hG, hY⟩ := go od
        refine go' _ ?_
        refine for_core (fun f => FlP K (lockIn c _ od _) W _ f) hg hb R1 w1 hG hY (q.mono (fun f z => freeFl_P (fun {_ _ _ _} R2 s2 => back od R2 s2) z) fun _ _ x => hx x) (fun r' σ' H' W' z R2 s2 => z σ' H' W' R2 s2) fun d r' z v σ' H' W' R2 s2 hv => z v σ' H' W' R2 s2 hv
/-! ## comprehensions over what is walked so -/
@[simp] def mCompW (items : D → Option (List D)) (vs : List Nat) (m : RE → Out (D × RE)) (st : D → RE → Option RE) (mt : RE → Out (Bool × RE)) (me : RE → Out (D × RE)) : RE → Out (D × RE) := fun r => (m r).bnd fun p => match mWalked items p.2 p.1 with
  | some (ds, r', none) => (mCompL (wipeL r'.s vs) st mt me ds r'.st []).bnd fun q => .ok (.lst q.1, ⟨r'.s, q.2⟩)
  | some (ds, r', some (k, e)) => (mCompL (wipeL r'.s vs) st mt me ds r'.st []).bnd fun q => .ok (.lst q.1, ⟨r'.s, q.2.set k e⟩)
  | none => .stuck
theorem Fresh.flip {a p : Addr} {u : HO} {d : D} (f : Fresh K c H W d p) (hp : p ≠ a) : Fresh K c (upd H a u) W d p := ⟨f.g, f.e, f.n, f.o.mono (Le.refl W) (fun x q => by rw [upd_ne hp]; exact q)⟩
theorem sndf_compW {wi : TE → TI} {items : D → Option (List D)} {ti : TE} {m : RE → Out (D × RE)} {g : TG} {tt : TT} {te : TE} {vs : List Nat} {st : D → RE → Option RE} {mt : RE → Out (Bool × RE)} {me : RE → Out (D × RE)} (wk : WK K wi items) (hp : SndPath K ti m) (nx : ∀ r x s, m r ≠ .exc x s)
    (hgv : GV g vs) (hg : GS K E g st) (ht : SndT K E tt mt) (he : Snd K E te me) : SndF K E (tOrE (tLockE (tLc (wi ti) g tt te vs)) (tLc (wi ti) g tt te vs)) (mCompW items vs m st mt me) := fun c σ H W r Q R w => by
  unfold mCompW at w
  cases e : m r with
  | exc x s0 => exact absurd e (nx _ _ _)
  | stuck => rw [e] at w; exact w.elim
  | ok p =>
    obtain ⟨d, r0⟩ := p
    rw [e, bnd_ok] at w
    cases ew : mWalked items r0 d with
    | none => simp only [ew] at w; exact w.elim
    | some t =>
      obtain ⟨ds, r1, o⟩ := t
      have hw := how wk hp R e ew
      have q : Wp (mCompL (wipeL r1.s vs) st mt me ds r1.st []) (fun q => ∀ a H' W', RR K c σ H' W' (freeR o ⟨r1.s, q.2⟩) → Le W W' → Fresh K c H' W' (.lst q.1) a → Q (.ref a) H') (XP K c E) := by
        cases o with
        | none => simp only [ew] at w; exact (Wp.bnd w).mono (fun f z => z) fun _ _ x => x
        | some p =>
          obtain ⟨k, d0⟩ := p
          simp only [ew] at w
          exact (Wp.bnd w).mono (fun f z => z) fun _ _ x => x
      cases hw with
      | plain R1 hc hx go w1 hG hY =>
        refine .inr (go _ fun Dn hDn => ?_)
        exact comp_core (Qd := fun H' => Q (.ref Dn) H') hgv hg ht he R1 w1 hG hY hDn (q.mono (fun q2 z H' W' R2 s2 f => z Dn H' W' (hc R2) s2 ⟨f.g, R.heNone hDn, f.n, f.o⟩) fun _ _ x => hx x)
      | lock hH mu go back =>
        refine .inl ⟨_, _, hH, mu, fun od => ?_⟩
        obtain ⟨J, Gp, Y, R1, hx, go', w1, hG, hY⟩ := go od
        refine go' _ fun Dn hDn => ?_
        refine comp_core (Qd := fun H' => H' _ = some (.frz od _) ∧ Q (.ref Dn) (upd H' _ _)) hgv hg ht he R1 w1 hG hY hDn (q.mono (fun q2 z H' W' R2 s2 f => ?_) fun _ _ x => hx x)
        obtain ⟨b1, b2⟩ := back od R2 s2
        refine ⟨b1, z Dn _ W' (by cases o <;> exact b2) s2 ((show Fresh K c H' W' (.lst q2.1) Dn from ⟨f.g, f.e, f.n, f.o⟩).flip ?_)⟩
        intro y
        rw [y, upd_same] at hDn
        cases hDn
end
end Mir

set_option maxHeartbeats 4000000
namespace Mir
open PySem PySem.Spec PyProof.Rows L2
/-! from M14 -/
section
variable {K : PySem.W.Frag} {E : XK} {c : Fm} {σ σ' : L2.St} {H H' : Hp} {W W' : Wd} {r r' : RE}
/-- a new pair -/
theorem pair_new {H2 : Hp} {W2 : Wd} (s : Sub W2.g H2) {T : Addr} {x y : V} {dx dy : D} (hT : H2 T = none) (hx : RepD K W2 dx x) (hy : RepD K W2 dy y) :
    ∃ W3, Ext H2 W2 (upd H2 T (.tup [x, y])) W3 ∧ RepD K W3 (.tup [dx, dy]) (.ref T) := by
  have ex := Ext.alloc s (p := T) (o := .tup [x, y]) hT
  refine ⟨_, ex, ?_⟩
  simp only [RepD, RepL]
  exact ⟨T, [x, y], rfl, upd_same, x, [y], rfl, hx.mono ex.sub, y, [], rfl, hy.mono ex.sub, rfl⟩
@[simp] def kvPair : Key × D → D := fun kv => .tup [ofKey kv.1, kv.2]
@[simp] def kvVal : Key × D → D := fun kv => kv.2
@[simp] def kvKey : Key × D → D := fun kv => ofKey kv.1

def enumD (s : Nat) : List D → List D
  | [] => []
  | d :: ds => .tup [.int (s : Int), d] :: enumD (s + 1) ds
theorem enumD_len : ∀ {s : Nat} {ds : List D}, (enumD s ds).length = ds.length
  | s, [] => rfl
  | s, d :: ds => by simp only [enumD, List.length_cons, enumD_len (s := s + 1) (ds := ds)]
theorem enumD_get : ∀ {s : Nat} {ds : List D} {j : Nat} {d : D}, ds[j]? = some d → (enumD s ds)[j]? = some (.tup [.int ((s + j : Nat) : Int), d])
  | s, [], j, d, h => by simp at h
  | s, e :: ds, 0, d, h => by simp at h; subst h; rfl
  | s, e :: ds, j + 1, d, h => by
    simp at h
    have := enumD_get (s := s + 1) h
    simp only [enumD, List.getElem?_cons_succ, this]
    rw [show s + 1 + j = s + (j + 1) by omega]
end
/-! from M16 -/
section
variable {X : Cx} {E : XK} {a b c e : PySem.Expr} {es : List PySem.Expr} {pos p : Pos} {x : Str}
variable {ma mb m oa ob oc : RE → Out (D × RE)} {mt mu : RE → Out (Bool × RE)} {as_ : RE → Out (List D × RE)} {ms mz : RE → Out Fl}
/-! code that no run comes to -/
def mNoS : RE → Out Fl := fun _ => .stuck
def mNoE : RE → Out (D × RE) := fun _ => .stuck
theorem sm_no {s : PySem.Stmt} : SM X E s mNoS := ⟨fun _ _ _ => False, ⟨fun _ _ _ _ _ _ h => h.elim⟩, fun _ _ _ _ _ _ _ w => w.elim⟩
theorem em_no : EM X E e mNoE := ⟨fun _ _ _ => False, ⟨fun _ _ _ _ _ _ h => h.elim⟩, fun _ _ _ _ _ _ _ w => w.elim⟩
theorem fm_no : FM X E e mNoE := ⟨fun _ _ _ => False, ⟨fun _ _ _ _ _ _ h => h.elim⟩, fun _ _ _ _ _ _ _ w => w.elim⟩
/-! several targets -/
def GVs (g : TGs) (vs : List Nat) : Prop := ∀ (v : List V) (σ : L2.St) (H : Hp) (Q Q' : L2.St → Hp → Prop), (∀ σ' H', Q σ' H' → L2.wipe σ' vs = L2.wipe σ vs → Q' σ' H') → g v σ H Q → g v σ H Q'
def GMs (X : Cx) (E : XK) (tg : List PySem.Expr) (st : List D → RE → Option RE) (vs : List Nat) : Prop := ∃ g, PGs X tg g ∧ GSs X.K E g st ∧ GVs g vs
theorem wipe_set : ∀ {vs : List Nat} {i : Nat} {σ : L2.St}, (L2.wipe σ vs).set i none = L2.wipe (σ.set i none) vs
  | [], i, σ => rfl
  | j :: vs, i, σ => by
    show ((L2.wipe σ vs).set j none).set i none = (L2.wipe (σ.set i none) vs).set j none
    rw [← wipe_set (vs := vs) (i := i)]
    by_cases z : i = j
    · subst z; rfl
    · rw [List.set_comm _ _ (fun h => z h.symm)]
theorem gms_nil : GMs X E [] stNil [] := ⟨_, pgs_nil, gss_nil, fun v σ H Q Q' h k => ⟨k.1, h _ _ k.2 rfl⟩⟩
theorem gms_name (i : Nat) {tgs : List PySem.Expr} {st : List D → RE → Option RE} {vs : List Nat} {tg : PySem.Expr} (h : GM X E tg (stName i) [i]) (k : GMs X E tgs st vs) (hs : (assignEach (tg :: tgs) X.env).map (·.2) = assign tg X.env :: (assignEach tgs X.env).map (·.2) := by rfl) : GMs X E (tg :: tgs) (stCons (stName i) st) (i :: vs) := by
  obtain ⟨g, h1, h2, h3⟩ := h
  obtain ⟨gs, k1, k2, k3⟩ := k
  refine ⟨_, pgs_cons h1 k1 hs, gss_cons h2 k2, fun v σ H Q Q' h q => ?_⟩
  obtain ⟨v0, vr, e, q⟩ := q
  refine ⟨v0, vr, e, h3 v0 σ H _ _ (fun σ1 H1 q1 w1 => k3 vr σ1 H1 _ _ (fun σ2 H2 q2 w2 => h σ2 H2 q2 ?_) q1) q⟩
  show (L2.wipe σ2 vs).set i none = (L2.wipe σ vs).set i none
  rw [w2, wipe_set, wipe_set]
  exact congrArg (fun z => L2.wipe z vs) w1
theorem gm_tup {n : Nat} {tgs : List PySem.Expr} {st : List D → RE → Option RE} {vs : List Nat} {k : Nat} (h : GMs X E tgs st vs) (hc : X.calm = true := by rfl) (hn : (assignEach tgs X.env).length = n := by rfl) (hst : (assignEach tgs X.env).findIdx? (·.1) = none := by rfl) : GM X E (.Tuple tgs k pos) (stTup n st) vs := by
  obtain ⟨gs, k1, k2, k3⟩ := h
  exact ⟨_, pg_tup hc k1 hn hst, gs_tup k2, fun v σ H Q Q' h ⟨a, xs, e1, e2, e3, q⟩ => ⟨a, xs, e1, e2, e3, k3 xs σ H Q Q' h q⟩⟩
/-! max, min of two -/
@[simp] def dMax2 : D → D → Out D
  | .int i, .int j => .ok (.int (if j > i then j else i))
  | _, _ => .stuck
@[simp] def dMin2 : D → D → Out D
  | .int i, .int j => .ok (.int (if j < i then j else i))
  | _, _ => .stuck
theorem nx_max2 : NoX2 dMax2 := fun a b x st h => by cases a <;> (try cases h) <;> cases b <;> cases h
theorem nx_min2 : NoX2 dMin2 := fun a b x st h => by cases a <;> (try cases h) <;> cases b <;> cases h
theorem calls_max2 {K : PySem.W.Frag} : CallS K (fun xs H Q => ∃ i j, xs = [.int i, .int j] ∧ Q (.int (if j > i then j else i)) H) (d2 dMax2) := calls_2 fun x y H W dx dy Q s hx hy d hd k => by
  cases dx <;> (try cases hd) <;> cases dy <;> (try cases hd)
  rename_i i j
  simp only [RepT, RepD] at hx hy
  exact ⟨i, j, by rw [hx, hy], k _ _ _ (Ext.refl s) (by simp only [RepD])⟩
theorem calls_min2 {K : PySem.W.Frag} : CallS K (fun xs H Q => ∃ i j, xs = [.int i, .int j] ∧ Q (.int (if j < i then j else i)) H) (d2 dMin2) := calls_2 fun x y H W dx dy Q s hx hy d hd k => by
  cases dx <;> (try cases hd) <;> cases dy <;> (try cases hd)
  rename_i i j
  simp only [RepT, RepD] at hx hy
  exact ⟨i, j, by rw [hx, hy], k _ _ _ (Ext.refl s) (by simp only [RepD])⟩
theorem em_max2 (hm : X.mg "max" = none) (h : EM X E a oa) (k : EM X E b ob) (hc : X.calm = true := by rfl) (hg : Gl X "max" := by rfl) (hs2 : starEach [b] X.env = (false, eval b X.env) :: starEach [] X.env := by rfl) (hs : starEach [a, b] X.env = (false, eval a X.env) :: starEach [b] X.env := by rfl) (hpl : (backTo pos (starEach [b] X.env)).any (·.1) = false := by rfl) :
    EM X E (.Call (.Name "max" p) [a, b] [] pos) (mArgs (d2 dMax2) (mCons oa (mCons ob mNil))) := em_cb (call_max2 hc) calls_max2 (nox_d2 nx_max2) hm (by decide +kernel) (am_cons h (am_cons k am_nil hs2) hs) hg (by decide) (by decide) hs hpl
theorem em_min2 (hm : X.mg "min" = none) (h : EM X E a oa) (k : EM X E b ob) (hc : X.calm = true := by rfl) (hg : Gl X "min" := by rfl) (hs2 : starEach [b] X.env = (false, eval b X.env) :: starEach [] X.env := by rfl) (hs : starEach [a, b] X.env = (false, eval a X.env) :: starEach [b] X.env := by rfl) (hpl : (backTo pos (starEach [b] X.env)).any (·.1) = false := by rfl) :
    EM X E (.Call (.Name "min" p) [a, b] [] pos) (mArgs (d2 dMin2) (mCons oa (mCons ob mNil))) := em_cb (call_min2 hc) calls_min2 (nox_d2 nx_min2) hm (by decide +kernel) (am_cons h (am_cons k am_nil hs2) hs) hg (by decide) (by decide) hs hpl
end
/-! from M17 -/
section
variable {X : Cx} {E : XK} {a b c e : PySem.Expr} {es : List PySem.Expr} {pos p : Pos} {x : Str}
variable {ma mb m oa ob oc : RE → Out (D × RE)} {K : PySem.W.Frag}
/-- list(x) of a list or a tuple -/
@[simp] def dList : D → Out D
  | .lst ds => .ok (.lst ds)
  | .frl ds => .ok (.lst ds)
  | .tup ds => .ok (.lst ds)
  | _ => .stuck
theorem nx_list : NoX1 dList := fun a x st h => by cases a <;> cases h
theorem callf_list : CallF K (fun xs H Q => ∃ p ys, xs = [.ref p] ∧ (SqL K H p ys ∨ SqT K H p ys) ∧ ∀ l, H l = none → Q (.ref l) (upd H l (.lst ys))) (d1 dList) := callf_1 fun x H W dx Q s h1 d hd k => by
  cases dx <;> (try cases hd) <;> simp only [RepT] at h1
  · obtain ⟨a, vs, rfl, hq, hl⟩ := h1
    exact ⟨a, vs, rfl, .inr (SqT.of (s.tup hq)), fun l hl' => k l _ hl' ⟨l, vs, rfl, upd_same, hl⟩⟩
  · obtain ⟨a, vs, rfl, hq, hl⟩ := h1
    exact ⟨a, vs, rfl, .inl (SqL.of hq), fun l hl' => k l _ hl' ⟨l, vs, rfl, upd_same, hl⟩⟩
  · obtain ⟨a, vs, rfl, hq, hl⟩ := h1
    exact ⟨a, vs, rfl, .inl hq, fun l hl' => k l _ hl' ⟨l, vs, rfl, upd_same, hl⟩⟩
theorem fm_list (hm : X.mg "list" = none) (h : EM X E e oa) (hg : Gl X "list" := by rfl) (hs : starEach [e] X.env = (false, eval e X.env) :: starEach [] X.env := by rfl) (hpl : (backTo pos (starEach [] X.env)).any (·.1) = false := by rfl) : FM X E (.Call (.Name "list" p) [e] [] pos) (mArgs (d1 dList) (mCons oa mNil)) :=
  fm_ct call_list_of callf_list (nox_d1 nx_list) hm (by decide +kernel) (am_cons h am_nil hs) hg (by decide) (by decide) hs hpl
/-- dict(d) -/
@[simp] def dDict : D → Out D
  | .dic kvs => .ok (.dic kvs)
  | _ => .stuck
theorem nx_dict : NoX1 dDict := fun a x st h => by cases a <;> cases h
theorem callf_dict : CallF K (fun xs H Q => ∃ (a : Addr) (kvs : List (Key × V)), xs = [.ref a] ∧ Rd H a (.dK kvs) ∧ ∀ p, H p = none → Q (.ref p) (upd H p (.dK kvs))) (d1 dDict) := callf_1 fun x H W dx Q s h1 d hd k => by
  cases dx <;> (try cases hd) <;> simp only [RepT] at h1
  obtain ⟨a, us, rfl, hq, hl⟩ := h1
  exact ⟨a, us, rfl, hq, fun l hl' => k l _ hl' ⟨l, us, rfl, upd_same, hl⟩⟩
theorem fm_dict (hm : X.mg "dict" = none) (h : EM X E e oa) (hg : Gl X "dict" := by rfl) (hs : starEach [e] X.env = (false, eval e X.env) :: starEach [] X.env := by rfl) (hpl : (backTo pos (starEach [] X.env)).any (·.1) = false := by rfl) : FM X E (.Call (.Name "dict" p) [e] [] pos) (mArgs (d1 dDict) (mCons oa mNil)) :=
  fm_ct call_dictD callf_dict (nox_d1 nx_dict) hm (by decide +kernel) (am_cons h am_nil hs) hg (by decide) (by decide) hs hpl
/-- list(d): its keys -/
@[simp] def dListD : D → Out D
  | .dic kvs => .ok (.lst (kvs.map kvKey))
  | _ => .stuck
theorem nx_listD : NoX1 dListD := fun a x st h => by cases a <;> cases h
theorem repL_keys {W : Wd} : ∀ {ds : List (Key × D)} {vs : List (Key × V)}, RepK K W ds vs → RepL K W (ds.map kvKey) (vs.map fun kv => kV kv.1)
  | [], vs, h => by simp only [RepK] at h; subst h; simp only [List.map_nil, RepL]
  | (k, d) :: ds, vs, h => by
    simp only [RepK] at h
    obtain ⟨v, us, rfl, _, t⟩ := h
    simp only [List.map_cons, RepL]
    exact ⟨_, _, rfl, repD_key, repL_keys t⟩
theorem callf_listD : CallF K (fun xs H Q => ∃ (a : Addr) (kvs : List (Key × V)), xs = [.ref a] ∧ Rd H a (.dK kvs) ∧ ∀ p, H p = none → Q (.ref p) (upd H p (.lst (kvs.map fun kv => kV kv.1)))) (d1 dListD) := callf_1 fun x H W dx Q s h1 d hd k => by
  cases dx <;> (try cases hd) <;> simp only [RepT] at h1
  obtain ⟨a, us, rfl, hq, hl⟩ := h1
  exact ⟨a, us, rfl, hq, fun l hl' => k l _ hl' ⟨l, _, rfl, upd_same, repL_keys hl⟩⟩
theorem fm_listD (hm : X.mg "list" = none) (h : EM X E e oa) (hc : X.calm = true := by rfl) (hg : Gl X "list" := by rfl) (hs : starEach [e] X.env = (false, eval e X.env) :: starEach [] X.env := by rfl) (hpl : (backTo pos (starEach [] X.env)).any (·.1) = false := by rfl) : FM X E (.Call (.Name "list" p) [e] [] pos) (mArgs (d1 dListD) (mCons oa mNil)) :=
  fm_ct (call_listD hc) callf_listD (nox_d1 nx_listD) hm (by decide +kernel) (am_cons h am_nil hs) hg (by decide) (by decide) hs hpl
end
/-! from M18 -/
section
variable {X : Cx} {E : XK} {a b c e : PySem.Expr} {es : List PySem.Expr} {pos p : Pos} {x : Str}
variable {ma mb m oa ob oc : RE → Out (D × RE)} {K : PySem.W.Frag}
/-- tuple(x) -/
@[simp] def dTuple : D → Out D
  | .lst ds => .ok (.tup ds)
  | .frl ds => .ok (.tup ds)
  | .tup ds => .ok (.tup ds)
  | _ => .stuck
theorem nx_tuple : NoX1 dTuple := fun a x st h => by cases a <;> cases h
theorem tup_new {H : Hp} {W : Wd} (s : Sub W.g H) {l : Addr} {vs : List V} {ds : List D} (hl : H l = none) (h : RepL K W ds vs) : ∃ W', Ext H W (upd H l (.tup vs)) W' ∧ RepD K W' (.tup ds) (.ref l) := by
  have ex := Ext.alloc s (p := l) (o := .tup vs) hl
  exact ⟨_, ex, by simp only [RepD]; exact ⟨l, vs, rfl, upd_same, h.mono ex.sub⟩⟩
theorem calls_tuple : CallS K (fun xs H Q => ∃ p ys, xs = [.ref p] ∧ ((SqL K H p ys ∧ ∀ l, H l = none → Q (.ref l) (upd H l (.tup ys))) ∨ (SqT K H p ys ∧ Q (.ref p) H))) (d1 dTuple) := calls_1 fun x H W dx Q s h1 d hd k => by
  cases dx <;> (try cases hd)
  · have h2 := repT_tup h1
    obtain ⟨a, vs, rfl, hq, hl⟩ := h1
    exact ⟨a, vs, rfl, .inr ⟨SqT.of (s.tup hq), k _ _ _ (Ext.refl s) h2⟩⟩
  · obtain ⟨a, vs, rfl, hq, hl⟩ := h1
    exact ⟨a, vs, rfl, .inl ⟨SqL.of hq, fun l hn => let ⟨_, e1, e2⟩ := tup_new s hn hl; k _ _ _ e1 e2⟩⟩
  · obtain ⟨a, vs, rfl, hq, hl⟩ := h1
    exact ⟨a, vs, rfl, .inl ⟨hq, fun l hn => let ⟨_, e1, e2⟩ := tup_new s hn hl; k _ _ _ e1 e2⟩⟩
theorem em_tuple (hm : X.mg "tuple" = none) (h : EM X E e oa) (hg : Gl X "tuple" := by rfl) (hs : starEach [e] X.env = (false, eval e X.env) :: starEach [] X.env := by rfl) (hpl : (backTo pos (starEach [] X.env)).any (·.1) = false := by rfl) : EM X E (.Call (.Name "tuple" p) [e] [] pos) (mArgs (d1 dTuple) (mCons oa mNil)) :=
  em_ct call_tuple_of calls_tuple (nox_d1 nx_tuple) hm (by decide +kernel) (am_cons h am_nil hs) hg (by decide) (by decide) hs hpl
end
/-! from M19 -/
section
variable {K : PySem.W.Frag} {W : Wd}
abbrev rInsert : V → List V → Hp → VK → Prop := fun x vs H Q => ∃ (l : Addr) (xs : List V) (i : Int) (y : V), x = .ref l ∧ vs = [.int i, y] ∧ H l = some (.lst xs) ∧ xs.length < sizeLine ∧ 0 ≤ i ∧ i < 2 ^ 63 ∧ Q .non (upd H l (.lst (xs.take i.toNat ++ [y] ++ xs.drop i.toNat)))
@[simp] def fInsert : D → List D → Out (D × D)
  | .lst xs, [.int i, d] => if xs.length < 1000000 ∧ 0 ≤ i ∧ i < 1000000 then .ok (.non, .lst (xs.take i.toNat ++ [d] ++ xs.drop i.toNat)) else .stuck
  | _, _ => .stuck
theorem nx_insert : NoXM fInsert := fun a b x st h => by
  unfold fInsert at h
  split at h
  · split at h <;> cases h
  · cases h
theorem mut_insert : MutS K rInsert fInsert := fun a H W d res d' ds vs Q s ga ho hl e k => by
  unfold fInsert at e
  split at e
  · rename_i xs i y
    split at e
    · rename_i hz
      cases e
      obtain ⟨a', us, ea, ha, la⟩ := ho
      cases ea
      simp only [RepL, RepD] at hl
      obtain ⟨v, _, rfl, rfl, w, _, rfl, hw, rfl⟩ := hl
      refine ⟨a, us, i, w, rfl, rfl, ha, lim_lt (by rw [← repL_len la]; exact hz.1), hz.2.1, by omega, k _ .non ⟨a, _, rfl, upd_same, repL_app (repL_app (repL_take _ la) (repL_one hw)) (repL_drop _ la)⟩ repD_non⟩
    · cases e
  · cases e
end
section
variable {X : Cx} {E : XK} {a b e : PySem.Expr} {pos p : Pos} {x : Str} {oa ob : RE → Out (D × RE)}
theorem em_insert {apos : Pos} {me : RE → Out (D × RE)} (hm : EM X E e me) (h : EM X E a oa) (k : EM X E b ob) (hs2 : starEach [b] X.env = (false, eval b X.env) :: starEach [] X.env := by rfl) (hs : starEach [a, b] X.env = (false, eval a X.env) :: starEach [b] X.env := by rfl) (hbase : attributeBase e "insert" X.env (eval e X.env) = eval e X.env := by rfl)
    (hfew : ((backTo pos (starEach [a, b] X.env)).all (fun x => !x.1) && (backToKw pos (keywordEach [] X.env)).all (fun x => x.1.isSome) && decide ([a, b].length + ([] : List Keyword).length + (if ([] : List Keyword).isEmpty then 0 else 1) < 30)) = true := by rfl) (hline : (apos.endLine == pos.line) = true := by rfl) (hpl : (backTo pos (starEach [b] X.env)).any (·.1) = false := by rfl) :
    EM X E (.Call (.Attribute e "insert" apos) [a, b] [] pos) (mMut me "list" fInsert (mCons oa (mCons ob mNil))) :=
  let ⟨_, h1, h2⟩ := h; let ⟨_, k1, k2⟩ := k; let ⟨_, e1, e2⟩ := hm; ⟨_, pe_bm PySem.F.plainAttrs_list PySem.F.slot_list_insert PySem.F.type_list_insert mt_insert e1 (pa_cons h1 (pa_cons k1 pa_nil hs2) hs) hbase hfew hline hs hpl, snd_mut mut_insert nx_insert e2 (snd_cons h2 (snd_cons k2 snd_nil))⟩
end
/-! from M20 -/
section
variable {K : PySem.W.Frag} {E : XK} {W : Wd}
theorem repL_rev : ∀ {ds : List D} {vs : List V}, RepL K W ds vs → RepL K W ds.reverse vs.reverse
  | [], vs, h => by simp only [RepL] at h; subst h; simp only [List.reverse_nil, RepL]
  | d :: ds, vs, h => by
    simp only [RepL] at h
    obtain ⟨v, us, rfl, q, t⟩ := h
    rw [List.reverse_cons, List.reverse_cons]
    exact repL_app (repL_rev t) (repL_one q)
@[simp] def dRev : D → Out D
  | .lst ds => .ok (.lst ds.reverse)
  | .frl ds => .ok (.lst ds.reverse)
  | _ => .stuck
theorem sndf_rev {te : TE} {m : RE → Out (D × RE)} (h : Snd K E te m) : SndF K E (tRevL K te) (mOp1 dRev m) := fun c σ H W r Q R w => by
  refine h c σ H W r _ R ((Wp.bnd w).mono (fun p q v H1 W1 R1 s1 h1 => ?_) fun _ _ x => x)
  cases e : dr p.2.st p.1 with
  | none => simp only [e] at q; exact q.elim
  | some d =>
    simp only [e] at q
    have ht := h1.at R1 e
    cases d <;> simp only [dRev, bnd_stuck, bnd_ok] at q <;> try exact q.elim
    · obtain ⟨a, vs, rfl, hq, hl⟩ := ht
      refine ⟨a, vs, rfl, SqL.of hq, fun l hn => ?_⟩
      obtain ⟨R4, f4⟩ := R1.fresh (o := .lst vs.reverse) (d := .lst _) hn ⟨l, _, rfl, upd_same, repL_rev hl⟩
      exact q l _ W1 R4 s1 f4
    · obtain ⟨a, vs, rfl, hq, hl⟩ := ht
      refine ⟨a, vs, rfl, hq, fun l hn => ?_⟩
      obtain ⟨R4, f4⟩ := R1.fresh (o := .lst vs.reverse) (d := .lst _) hn ⟨l, _, rfl, upd_same, repL_rev hl⟩
      exact q l _ W1 R4 s1 f4
theorem fm_rev {X : Cx} {e : PySem.Expr} {m : RE → Out (D × RE)} {k : Nat} {p1 p2 p3 pos : Pos} (h : EM X E e m) : FM X E (.Subscript e (.Slice none none (some (.UnaryOp .USub (.Constant (.int 1) k p1) p2)) p3) pos) (mOp1 dRev m) :=
  let ⟨_, h1, h2⟩ := h; ⟨_, pe_revL h1, sndf_rev h2⟩
end
end Mir

set_option maxHeartbeats 4000000
/-! sets of keys (ints and texts) that can be walked -/
namespace KS
open PySem PySem.Spec PyProof.Rows L2

/-- the key that an entry holds -/
def kOf (e : Int × Value) : Key := match e.2 with
  | .int k _ => .inl k
  | .str x _ => .inr x
  | _ => .inl 0
/-- an entry as it should be -/
def Fit (w : World) (e : Int × Value) : Prop := keyIs (kOf e) e.2 = true ∧ e.1 = keyH w (kOf e)
theorem kOf_key {k : Key} {h : Int} {u : Value} (e : keyIs k u = true) : kOf (h, u) = k := by
  rcases keyIs_shape e with ⟨i, t, rfl, rfl⟩ | ⟨x, t, rfl, rfl⟩ <;> rfl
theorem scan_key {k : Key} {u : Value} (e : keyIs k u = true) : u.scannable = true := by
  rcases keyIs_shape e with ⟨i, t, rfl, rfl⟩ | ⟨x, t, rfl, rfl⟩ <;> rfl
theorem fit_new {w : World} {k : Key} {u : Value} (e : keyIs k u = true) : Fit w (keyH w k, u) := by
  refine ⟨?_, ?_⟩
  · rw [kOf_key e]; exact e
  · rw [kOf_key e]
/-- the table can be walked -/
def Way (w : World) (t : SetTable) : Prop := Ris t.place.toList ∧ (w.params.followText "set-order" = true ∨ t.led = true)
/-- what the entries tell: the members, each once -/
structure Tells (w : World) (es : Array (Int × Value)) (S : Key → Bool) : Prop where
  fit : ∀ e ∈ es.toList, Fit w e
  one : (es.toList.map kOf).Nodup
  mem : ∀ k, S k = true ↔ k ∈ es.toList.map kOf
  few : es.size < scanBound
/-- the set of keys at a -/
def KSet (w : World) (h : Heap) (a : Addr) (S : Key → Bool) (n : Nat) : Prop :=
  ∃ o es ep t, h.get? a = some o ∧ o.ExactSet ∧ o.data = .set es ep t ∧ Tells w es S ∧ t.fits es.size = true ∧ es.size = n ∧ Way w t

section
variable {P : Program} {w : World} {h h' : Heap} {a : Addr} {S : Key → Bool} {n : Nat} {es : Array (Int × Value)}
theorem KSet.kept (R : KSet w h a S n) (k : ∀ o, h.get? a = some o → h'.get? a = some o) : KSet w h' a S n :=
  let ⟨o, es, ep, t, ho, r⟩ := R; ⟨o, es, ep, t, k o ho, r⟩
theorem KSet.same {S' : Key → Bool} (R : KSet w h a S n) (e : ∀ k, S' k = S k) : KSet w h a S' n := (funext e : S' = S) ▸ R
theorem Tells.elems (T : Tells w es S) : ElemsOf (mixKind P w) es.toList := fun e he => ⟨⟨kOf e, (T.fit e he).1, (T.fit e he).2⟩, scan_key (T.fit e he).1⟩
theorem Tells.has (T : Tells w es S) (k : Key) : S k = true ↔ ∃ e ∈ es.toList, (mixKind P w).is k e.2 = true := by
  rw [T.mem k, List.mem_map]
  refine ⟨fun ⟨e, he, q⟩ => ⟨e, he, ?_⟩, fun ⟨e, he, q⟩ => ⟨e, he, ?_⟩⟩
  · have := (T.fit e he).1
    rw [q] at this; exact this
  · have : kOf (e.1, e.2) = k := kOf_key (h := e.1) (show keyIs k e.2 = true from q)
    exact this
theorem KSet.of (R : KSet w h a S n) : h.SetOf (mixKind P w) a S n :=
  let ⟨o, es, ep, t, ho, hx, hd, T, hf, hn, _⟩ := R; ⟨o, es, ep, t, ho, hx, hd, T.elems, T.has, T.few, hf, hn⟩
theorem Tells.perm {es' : Array (Int × Value)} (T : Tells w es S) (p : es'.toList.Perm es.toList) : Tells w es' S where
  fit := fun e he => T.fit e (p.mem_iff.mp he)
  one := (p.map kOf).nodup_iff.mpr T.one
  mem := fun k => (T.mem k).trans (p.map kOf).mem_iff.symm
  few := by
    have : es'.size = es.size := by rw [← Array.length_toList, p.length_eq, Array.length_toList]
    rw [this]; exact T.few
theorem Tells.more {es' : Array (Int × Value)} {k : Key} {u : Value} (T : Tells w es S) (e : keyIs k u = true) (hk : S k = false) (hz : es.size + 1 < scanBound) (p : es'.toList.Perm ((keyH w k, u) :: es.toList)) : Tells w es' (fun j => S j || decide (j = k)) where
  fit := fun x hx => by
    rcases List.mem_cons.mp (p.mem_iff.mp hx) with z | z
    · rw [z]; exact fit_new e
    · exact T.fit x z
  one := by
    refine (p.map kOf).nodup_iff.mpr ?_
    rw [List.map_cons, kOf_key e, List.nodup_cons]
    refine ⟨fun z => ?_, T.one⟩
    rw [(T.mem k).mpr z] at hk; cases hk
  mem := fun j => by
    rw [(p.map kOf).mem_iff, List.map_cons, kOf_key e, List.mem_cons, Bool.or_eq_true, decide_eq_true_eq, T.mem j]
    exact Or.comm
  few := by
    have : es'.size = es.size + 1 := by rw [← Array.length_toList, p.length_eq, List.length_cons, Array.length_toList]
    rw [this]; exact hz
end

section
variable {P : Program} {w : World} {A : Around} {E : Value → Shared → Prop} {s : Shared} {a : Addr} {S : Key → Bool} {n : Nat}
/-- the end of an adding: the table is stored, and laid anew if it is too full -/
theorem store_tail {g : Bool → Sem Unit} (hg : ∀ (b : Bool) (s₁ : Shared) (Q' : Unit → Shared → Prop), Q' () s₁ → wpAny (model P w) A (g b) Q' E s₁)
    {o : Obj} {es : Array (Int × Value)} {ep : Nat} {t : SetTable} (ho : s.heap.get? a = some o) (hx : o.ExactSet) (hd : o.data = .set es ep t)
    {es1 : Array (Int × Value)} {t1 : SetTable} {S' : Key → Bool} (T : Tells w es1 S') (hf : t1.fits es1.size = true) (wy : Way w t1) {dm : Bool} {R : Option Bool → Shared → Prop}
    (hR : ∀ h', Heap.SameBut a s.heap h' → KSet w h' a S' es1.size → R (some true) { s with heap := h' }) :
    wpAny (model P w) A (do
        storeSet a es1 t1
        if (!dm && t1.tooFull) = true then do
            g (relayAll t1 es1 (SetTable.grown es1.size)).2.2
            storeSet a (relayAll t1 es1 (SetTable.grown es1.size)).1 (relayAll t1 es1 (SetTable.grown es1.size)).2.1
            pure (some true)
          else pure (some true)) R E s := by
  refine wpAny_bind (wpAny_storeSet_of ho hd ?_ (fits_of_scanBound T.few))
  have o1 := store_at (es' := es1) (t' := t1) ho hd
  have sb := Heap.SameBut.update s.heap a (Obj.putSet es1 t1)
  split
  · have p2 := relayAll_perm t1 es1 (SetTable.grown es1.size)
    have f2 := relayAll_fits t1 es1 (SetTable.grown es1.size)
    have r2 := relayAll_ris t1 es1 (SetTable.grown es1.size)
    have l2 := relayAll_led t1 es1 (SetTable.grown es1.size)
    generalize relayAll t1 es1 (SetTable.grown es1.size) = Y at p2 f2 r2 l2 ⊢
    obtain ⟨es2, t2, gv⟩ := Y
    dsimp only at p2 f2 r2 l2 ⊢
    have T2 := T.perm p2
    have hsz : es2.size = es1.size := by rw [← Array.length_toList, p2.length_eq, Array.length_toList]
    refine wpAny_bind (hg _ _ _ (wpAny_bind (wpAny_storeSet_of o1 rfl (wpAny_pure (hR _ (sb.trans (Heap.SameBut.update _ a _)) ?_)) (fits_of_scanBound T2.few))))
    exact ⟨_, es2, _, t2, store_at (es' := es2) (t' := t2) o1 rfl, hx, rfl, T2, f2, hsz, r2, wy.2.imp id fun z => by rw [l2]; exact z⟩
  · exact wpAny_pure (hR _ sb ⟨_, es1, _, t1, o1, hx, rfl, T, hf, rfl, wy⟩)
theorem add_hashed {k : Key} {u : Value} {Q : Bool → Shared → Prop} (hu : keyIs k u = true) (R : KSet w s.heap a S n) (room : n + 1 < scanBound)
    (hQ : ∀ h', Heap.SameBut a s.heap h' → KSet w h' a (fun j => S j || decide (j = k)) (if S k = true then n else n + 1) → Q (!S k) { s with heap := h' }) :
    wpAny (model P w) A (setAddHashed a u ((mixKind P w).hash k)) Q E s := by
  obtain ⟨o, es, ep, t, ho, hx, hd, T, hf, hn, wy⟩ := R
  have hsc := scan_key hu
  have hel : ElemsOf (mixKind P w) es.toList := T.elems
  unfold setAddHashed setAddHashedIn
  refine wpAny_holding (wpAny_bind (wpAny_setState_of ho hd hf ?_))
  dsimp only
  rw [byScan_of hsc T.few hel]
  simp only [↓reduceIte]
  unfold setAddByScan
  refine wpAny_bind (wpAny_bind (wpAny_rule (wpAny_bind (wpAny_setScan_of (knd := mixKind P w) hu ho hd hf hel ?_))))
  cases hfi : List.findIdx? (fun e => (mixKind P w).is k e.2) es.toList with
  | some j =>
    dsimp only
    obtain ⟨hj, pj, _⟩ := List.findIdx?_eq_some_iff_getElem.mp hfi
    have hS : S k = true := (T.has (P := P) k).mpr ⟨_, List.getElem_mem hj, pj⟩
    have q := hQ s.heap (Heap.SameBut.refl a s.heap) ⟨o, es, ep, t, ho, hx, hd, ⟨T.fit, T.one, fun i => by
      rw [Bool.or_eq_true, decide_eq_true_eq, ← T.mem i]
      exact ⟨fun z => z.elim id fun e => e ▸ hS, .inl⟩, T.few⟩, hf, by rw [if_pos hS]; exact hn, wy⟩
    rw [hS] at q
    exact wpAny_pure (wpAny_pure q)
  | none =>
    dsimp only
    have hS : S k = false := by
      cases q : S k with
      | false => rfl
      | true =>
        obtain ⟨e, he, z⟩ := (T.has (P := P) k).mp q
        have := List.findIdx?_eq_none_iff.mp hfi e he
        rw [z] at this; cases this
    have p1 := layNew_perm t es ((mixKind P w).hash k) u
    have f1 := layNew_fits t es ((mixKind P w).hash k) u
    have r1 := layNew_ris t es ((mixKind P w).hash k) u wy.1
    have l1 := layNew_led t es ((mixKind P w).hash k) u
    generalize layNew t es ((mixKind P w).hash k) u = Y at p1 f1 r1 l1 ⊢
    obtain ⟨es1, t1, dm, gv⟩ := Y
    dsimp only at p1 f1 r1 l1 ⊢
    rw [Array.toList_push] at p1
    have pc : es1.toList.Perm ((keyH w k, u) :: es.toList) := p1.trans (List.perm_append_singleton _ _)
    have T1 := T.more hu hS (by omega) pc
    have hsz : es1.size = n + 1 := by rw [← Array.length_toList, pc.length_eq, List.length_cons, Array.length_toList, hn]
    have w1 : Way w t1 := ⟨r1, wy.2.imp id fun z => by rw [l1]; exact z⟩
    have fin : ∀ h', Heap.SameBut a s.heap h' → KSet w h' a (fun j => S j || decide (j = k)) es1.size → Q true { s with heap := h' } := fun h' sb r => by
      have q := hQ h' sb
      rw [hS] at q
      rw [hsz] at r
      exact q r
    have way : ∀ (b : Bool) (s₁ : Shared) (Q' : Unit → Shared → Prop), Q' () s₁ → wpAny (model P w) A (match b with | true => rule "set.scan.the-table-gave-way" | false => pure ()) Q' E s₁ :=
      fun b s₁ Q' q => by cases b <;> first | exact wpAny_pure q | exact wpAny_rule q
    refine wpAny_bind (way _ _ _ ?_)
    split
    · refine wpAny_bind ?_
      rw [hashByValue_scannable 8 hsc]
      refine wpAny_pure (store_tail ?_ ho hx hd T1 ?_ ?_ ?_)
      · intro b s₁ Q' q; cases b <;> first | exact wpAny_pure q | exact wpAny_rule q
      · first | (split <;> first | exact f1 | exact SetTable.fits_plain_off f1) | exact f1
      · first | (split <;> exact w1) | exact w1
      · intro h' sb r; dsimp only; exact wpAny_pure (fin h' sb r)
    · refine wpAny_bind (wpAny_pure ?_)
      simp only [↓reduceIte]
      refine store_tail ?_ ho hx hd T1 f1 w1 ?_
      · intro b s₁ Q' q; cases b <;> first | exact wpAny_pure q | exact wpAny_rule q
      · intro h' sb r; dsimp only; exact wpAny_pure (fin h' sb r)
/-- x.add(k) -/
theorem add_call {k : Key} {u : Value} {Q : Value → Shared → Prop} (hu : keyIs k u = true) (R : KSet w s.heap a S n) (room : n + 1 < scanBound)
    (hQ : ∀ h', Heap.SameBut a s.heap h' → KSet w h' a (fun j => S j || decide (j = k)) (if S k = true then n else n + 1) → Q .none { s with heap := h', toks := s.toks + 1 }) :
    wpAny (model P w) A (call (.builtin "set.add") [.ref a, u]) Q E s := by
  have hS : s.heap.SetOf (mixKind P w) a S n := R.of
  refine wpAny_call_entry F.slot_set_add hS.typeIs F.entry_set_add ?_ (F.args_set_add_2 _ _)
  unfold Builtin.«set.add» Builtin.Frozenset.oneOther Builtin.Frozenset.addrOf setAdd
  simp only [List.isEmpty_nil, bind_assoc]
  refine wpAny_bind (wpAny_pure ?_)
  try dsimp only
  refine wpAny_bind (wpAny_pure ?_)
  try dsimp only
  refine wpAny_bind (wpAny_holding (wpAny_bind ((mixKind P w).pyHash hu ?_)))
  refine add_hashed (s := { s with toks := s.toks + 1 }) hu R room fun h' sb r => ?_
  exact wpAny_pure ⟨_, rfl, hQ h' sb r⟩
end
/-- a new set -/
def fresh0 (w : World) : Obj := { cls := .type "set", dict := none, data := .set #[] 0 (.fresh 0 0 (!w.params.followText "set-order")) }
theorem kset_fresh {w : World} {h : Heap} {a : Addr} (ho : h.get? a = some (fresh0 w)) : KSet w h a (fun _ => false) 0 :=
  ⟨_, #[], 0, _, ho, ⟨rfl, rfl, rfl⟩, rfl, ⟨fun e he => absurd he (by simp), by simp, fun k => by simp, by decide⟩, rfl, rfl, List.Pairwise.nil, by
    show _ ∨ (!w.params.followText "set-order") = true
    cases w.params.followText "set-order"
    · exact .inr rfl
    · exact .inl rfl⟩
end KS

set_option maxHeartbeats 4000000
namespace KS
open PySem PySem.Spec PyProof.Rows L2
/-! ## set(x): a list or a tuple of keys -/
def hasK (ks : List Key) (j : Key) : Bool := ks.any fun x => decide (x = j)
theorem hasK_iff {ks : List Key} {j : Key} : hasK ks j = true ↔ j ∈ ks := by
  unfold hasK
  rw [List.any_eq_true]
  constructor
  · rintro ⟨x, hx, e⟩
    rw [decide_eq_true_eq] at e
    exact e ▸ hx
  · intro h
    exact ⟨j, h, by rw [decide_eq_true_eq]⟩
section
variable {P : Program} {w : World} {A : Around} {E : Value → Shared → Prop} {s : Shared}
/-- the loop that adds what an iterator gives -/
theorem fill_loop {I : Addr} {fp wr : List Addr} {G : Array GenState → Array GenState → Prop} {m : Nat} {Pv : Nat → Value → Prop} {St : Nat → Shared → Prop} {R : Result → Shared → Prop}
    (W : WalksS P w A.in1 I fp wr G m Pv St) (S : Addr) (hSf : S ∉ fp) (ks : List Key) (hm : m = ks.length) (hb : ks.length + 1 < scanBound) (hval : ∀ i v, Pv i v → ∃ k, ks[i]? = some k ∧ keyIs k v = true) :
    ∀ (d i : Nat) (s : Shared), m - i = d → i ≤ m → St i s → (∃ c, c ≤ i ∧ KSet w s.heap S (hasK (ks.take i)) c) →
      (∀ s' c, Moved (S :: wr) G s s' → c ≤ m → KSet w s'.heap S (hasK ks) c → R (.ok (.ret .none)) s') →
      codeAny (model P w) A (.builtin "set.update.loop" ⟨[.ref S, .ref I], []⟩) R s := by
  have nSw : S ∉ wr := fun z => hSf (W.sub _ z)
  have inw : ∀ b ∈ wr, b ∈ S :: wr := fun _ z => List.mem_cons_of_mem _ z
  intro d
  induction d with
  | zero =>
    rintro i s hd hi hst ⟨c, hc, hK⟩ hR
    obtain rfl : i = m := by omega
    refine codeAny_builtin F.entry_set_update_loop ?_
    rw [Around.under_plainId F.plain_set_update_loop _]
    show wpAny _ A.in1 (pyNext (.ref I) >>= _) _ _ s
    refine wpAny_bind (W.done s _ _ hst fun s' mv => ?_)
    rw [List.take_of_length_le (by omega)] at hK
    exact wpAny_pure (hR s' c (mv.mono inw) hc (hK.kept fun o e => mv.heap S o nSw e))
  | succ d ih =>
    rintro i s hd hi hst ⟨c, hc, hK⟩ hR
    have hlt : i < m := by omega
    refine codeAny_builtin F.entry_set_update_loop ?_
    rw [Around.under_plainId F.plain_set_update_loop _]
    show wpAny _ A.in1 (pyNext (.ref I) >>= _) _ _ s
    refine wpAny_bind (W.item i s _ _ hlt hst fun v s' hv hst' mv => ?_)
    obtain ⟨k, hk, hkv⟩ := hval i v hv
    have hK' := hK.kept (h' := s'.heap) fun o e => mv.heap S o nSw e
    show wpAny _ A.in1 (holding [v] (setAdd S v) >>= _) _ _ s'
    refine wpAny_bind (wpAny_holding ?_)
    unfold setAdd
    refine wpAny_holding (wpAny_bind ((mixKind P w).pyHash (k := k) hkv ?_))
    refine add_hashed (s := { s' with toks := s'.toks + 1 }) hkv hK' (by omega) fun h' sb hK2 => ?_
    have hK3 : KSet w h' S (hasK (ks.take (i + 1))) (if hasK (ks.take i) k = true then c else c + 1) := hK2.same fun j => by
      rw [List.take_add_one, hk]
      unfold hasK
      rw [List.any_append]
      simp [eq_comm]
    refine wpAny_pure ⟨plainId_quiet F.plain_set_update_loop _, ih (i + 1) _ (by omega) hlt (W.frame _ s' _ _ hst' (Nat.le_succ _) fun b hb o e => ?_) ⟨_, by split <;> omega, hK3⟩ fun s2 c2 mv2 hc2 hK4 => ?_⟩
    · exact (sb.2 b (fun z : b = S => hSf (z ▸ hb))).trans e
    · refine hR s2 c2 (Moved.trans W.gtrans ((mv.mono inw).then_heap (Nat.le_succ _) fun b o hb e => ?_) mv2) hc2 hK4
      exact (sb.2 b (fun z : b = S => hb (z ▸ List.mem_cons_self))).trans e
theorem paired_at {α β : Type} {F : α → β → Prop} : ∀ {l₁ : List α} {l₂ : List β} {i : Nat} {b : β}, Paired F l₁ l₂ → l₂[i]? = some b → ∃ a, l₁[i]? = some a ∧ F a b
  | _, _, _, _, .nil, e => by simp at e
  | _, _, 0, _, .cons r _, e => by simp at e; subst e; exact ⟨_, rfl, r⟩
  | _, _, i + 1, b, .cons _ t, e => by
    obtain ⟨a, h1, h2⟩ := paired_at (i := i) (b := b) t (by simpa using e)
    exact ⟨a, by simpa using h1, h2⟩
/-- what set(x) leaves -/
def Made (w : World) (s : Shared) (ks : List Key) (s' : Shared) : Prop := ∃ h' tk c, s' = { s with heap := h', toks := tk } ∧ KSet w h' s.heap.objs.size (hasK ks) c ∧ c ≤ ks.length ∧ ∀ b o, s.heap.get? b = some o → h'.get? b = some o
set_option maxHeartbeats 3200000 in
/-- set(x) for a list or a tuple x of keys -/
theorem call_set {l : Addr} {items : Array Value} {T : String} {ks : List Key} {Q : Value → Shared → Prop} (hT : T = "list" ∨ T = "tuple") (hh : A.handled = none) (hl : ∃ o n, s.heap.get? l = some o ∧ o.cls = .type T ∧ o.data = .seq items n)
    (hi : Paired (fun (k : Key) (v : Value) => keyIs k v = true) ks items.toList) (hb : ks.length + 1 < scanBound) (h : ∀ s', Made w s ks s' → Q (.ref s.heap.objs.size) s') : wpAny (model P w) A (call (.type "set") [.ref l]) Q E s := by
  obtain ⟨mc, ml, hmro⟩ := F.called_set.mro
  have hmade := F.called_set.made
  have hsub := F.called_set.sub
  refine wpAny_call (codeAny_of_tree ?_)
  show wpAny _ _ (callAny (.type "set") _) _ _ _
  refine wpAny_pure ⟨Code.quiet_builtin _ (by decide +kernel), codeAny_builtin F.entry_type_call ?_⟩
  rw [Around.under_plain (weight_type_call_type "set" [.ref l] []) rfl]
  have e1 := F.called_set.notType
  have e2 := F.called_set.canCreate
  have e3 := F.typeCall_set_1 (.ref l)
  repeat (any_goals (first | assumption | wp_step))
  refine codeAny_mono (code_set_led1 (.ref l) (E := E) (Q₁ := fun obj s₁ => obj = .ref s.heap.objs.size ∧ s₁ = { s with heap := s.heap.push (fresh0 w) }) ⟨rfl, rfl⟩) fun r s₁ hr => ?_
  cases r with
  | error e => exact hr
  | ok fl =>
    cases fl with
    | ret obj =>
      obtain ⟨rfl, rfl⟩ := hr
      have hS : (s.heap.push (fresh0 w)).get? s.heap.objs.size = some (fresh0 w) := Heap.get?_push_size _ rfl
      have hTy : Shared.TypeIs { s with heap := s.heap.push (fresh0 w) } (.ref s.heap.objs.size) "set" := ⟨_, hS, rfl⟩
      have f1 := F.called_set.init.lookup
      have f2 := F.called_set.init.bind (.ref s.heap.objs.size)
      repeat (any_goals (first | assumption | wp_step))
      refine codeAny_mono (codeAny_call_builtin (R := wants (fun r s₂ => r = .none ∧ Made w s ks s₂) E) F.called_set.init.plain F.entry_set_init (check_set_init_1 hTy ?_)) fun r₂ s₂ hr₂ => ?_
      · obtain ⟨ol, nl, hol, hcl, hdl⟩ := hl
        have hlS : l < s.heap.objs.size := Heap.lt_size hol
        have hsz : items.size = ks.length := by rw [← Array.length_toList]; exact (Paired.length hi).symm
        have hol' : (s.heap.push (fresh0 w)).get? l = some ol := Heap.get?_push_of_some _ hol
        have hval : ∀ (i : Nat) (v : Value), items[i]? = some v → ∃ k, ks[i]? = some k ∧ keyIs k v = true := fun i v hv => by
          rw [← Array.getElem?_toList] at hv
          exact paired_at (F := fun (k : Key) (v : Value) => keyIs k v = true) hi hv
        have hh3 : A.in1.in1.in1.handled = none := by simp [hh]
        have hz1 : (s.heap.push (fresh0 w)).objs.size = s.heap.objs.size + 1 := Heap.size_push ..
        have hneI : l ≠ (s.heap.push (fresh0 w)).objs.size := by rw [hz1]; exact Nat.ne_of_lt (Nat.lt_succ_of_lt hlS)
        have hSf : s.heap.objs.size ∉ [(s.heap.push (fresh0 w)).objs.size, l] := by
          rw [hz1]; simp only [List.mem_cons, List.not_mem_nil, or_false, not_or]; exact ⟨Nat.ne_of_lt (Nat.lt_succ_self _), Nat.ne_of_gt hlS⟩
        have fin : ∀ {G : Array GenState → Array GenState → Prop} {s2 : Shared} {io : Obj} (s' : Shared) (c : Nat), Moved (s.heap.objs.size :: [(s.heap.push (fresh0 w)).objs.size]) G s2 s' → (∀ a b, G a b → b = a) → (s2.heap = (s.heap.push (fresh0 w)).push io ∧ s2.gens = s.gens ∧ s2.drawn = s.drawn ∧ s2.os = s.os) → c ≤ ks.length → KSet w s'.heap s.heap.objs.size (hasK ks) c → Made w s ks s' := fun {G s2 io} s' c mv hG hs2 hc hK => by
          obtain ⟨h', g', d', tk', os'⟩ := s'
          have eg : g' = s.gens := (hG _ _ mv.gens).trans hs2.2.1
          have ed : d' = s.drawn := mv.drawn.trans hs2.2.2.1
          have eo : os' = s.os := mv.os.trans hs2.2.2.2
          subst eg; subst ed; subst eo
          refine ⟨h', tk', c, rfl, hK, hc, fun b o e => ?_⟩
          have hb0 : b < s.heap.objs.size := Heap.lt_size e
          refine mv.heap b o ?_ (by rw [hs2.1]; exact Heap.get?_push_of_some _ (Heap.get?_push_of_some _ e))
          rw [hz1]; simp only [List.mem_cons, List.not_mem_nil, or_false, not_or]; exact ⟨Nat.ne_of_lt hb0, Nat.ne_of_lt (Nat.lt_succ_of_lt hb0)⟩
        obtain ⟨ocls, odict, odata, oslots⟩ := ol
        simp only at hcl hdl
        subst hcl; subst hdl
        rcases hT with rfl | rfl
        · have g1 := F.sub_list_set
          have g2 := F.sub_list_frozenset
          have g3 : (Value.type "list" == Value.type "dict") = false := by decide
          have hl1 : (s.heap.push (fresh0 w)).IsList l items := ⟨_, hol', rfl, nl, rfl⟩
          unfold Builtin.«set.__init__» noKeywords Builtin.Frozenset.updateFrom
          generalize hPI : pyIter = PI
          wp_walk
          subst hPI
          refine wpAny_pyIter_list hl1 (wpAny_bind (wpAny_runValue ?_))
          refine fill_loop ((Walks.list hh3 _ l hneI items).toS) s.heap.objs.size hSf ks hsz hb hval (items.size - 0) 0 _ (by omega) (Nat.zero_le _)
            ⟨⟨_, Heap.get?_push_size _ rfl, rfl, rfl⟩, (hl1.push _)⟩ ⟨0, Nat.le_refl 0, kset_fresh (Heap.get?_push_of_some _ hS)⟩ fun s' c mv hc hK => ?_
          refine wpAny_pure (wpAny_pure ⟨rfl, fin s' c mv (fun a b z => z) ⟨rfl, rfl, rfl, rfl⟩ (by omega) hK⟩)
        · have g1 := F.sub_tuple_set
          have g2 := F.sub_tuple_frozenset
          have g3 : (Value.type "tuple" == Value.type "dict") = false := by decide
          have hl1 : (s.heap.push (fresh0 w)).IsTuple l items := ⟨_, hol', rfl, nl, rfl⟩
          unfold Builtin.«set.__init__» noKeywords Builtin.Frozenset.updateFrom
          generalize hPI : pyIter = PI
          wp_walk
          subst hPI
          refine wpAny_pyIter_tuple hl1 (wpAny_bind (wpAny_runValue ?_))
          refine fill_loop ((Walks.tuple hh3 _ l hneI items).toS) s.heap.objs.size hSf ks hsz hb hval (items.size - 0) 0 _ (by omega) (Nat.zero_le _)
            ⟨⟨_, Heap.get?_push_size _ rfl, rfl, rfl⟩, (hl1.push _)⟩ ⟨0, Nat.le_refl 0, kset_fresh (Heap.get?_push_of_some _ hS)⟩ fun s' c mv hc hK => ?_
          refine wpAny_pure (wpAny_pure ⟨rfl, fin s' c mv (fun a b z => z) ⟨rfl, rfl, rfl, rfl⟩ (by omega) hK⟩)
      · cases r₂ with
        | error e => exact hr₂
        | ok fl₂ =>
          cases fl₂ with
          | ret r =>
            obtain ⟨rfl, md⟩ := hr₂
            repeat (any_goals (first | assumption | wp_step))
            exact h _ md
          | _ => exact hr₂.elim
    | _ => exact hr.elim
end
end KS

set_option maxHeartbeats 4000000
namespace KS
open PySem PySem.W PySem.Spec PyProof.Rows L2
/-! ## keys in order -/
def encK : Key → PyData
  | .inl i => .int i
  | .inr x => .str x
def allI (ks : List Key) : Bool := ks.all fun k => match k with | .inl _ => true | _ => false
def allS (ks : List Key) : Bool := ks.all fun k => match k with | .inr _ => true | _ => false
def hom (ks : List Key) : Bool := allI ks || allS ks
/-- the order of data -/
def leP (a b : PyData) : Bool := !dataLt b a
theorem leP_total (a b : PyData) : leP a b = true ∨ leP b a = true := by
  unfold leP dataLt
  cases h1 : PyProof.Rows.lexLt itemOrd (keyToks b) (keyToks a) with
  | false => exact .inl rfl
  | true =>
    cases h2 : PyProof.Rows.lexLt itemOrd (keyToks a) (keyToks b) with
    | false => exact .inr rfl
    | true =>
      have := (listOrd itemOrd).trans _ _ _ h1 h2
      rw [(listOrd itemOrd).irrefl] at this; cases this
theorem leP_trans {a b c : PyData} (h1 : leP a b = true) (h2 : leP b c = true) : leP a c = true := by
  unfold leP dataLt at *
  cases h : PyProof.Rows.lexLt itemOrd (keyToks c) (keyToks a) with
  | false => rfl
  | true =>
    rcases (listOrd itemOrd).negTrans _ (keyToks b) _ h with z | z
    · have z' : PyProof.Rows.lexLt itemOrd (keyToks c) (keyToks b) = true := z
      rw [z'] at h2; cases h2
    · have z' : PyProof.Rows.lexLt itemOrd (keyToks b) (keyToks a) = true := z
      rw [z'] at h1; cases h1
theorem leP_anti {a b : PyData} (h1 : leP a b = true) (h2 : leP b a = true) : keyToks a = keyToks b := by
  unfold leP dataLt at *
  refine (listOrd itemOrd).total _ _ ?_ ?_
  · show PyProof.Rows.lexLt itemOrd (keyToks a) (keyToks b) = false
    cases h : PyProof.Rows.lexLt itemOrd (keyToks a) (keyToks b) with
    | false => rfl
    | true => rw [h] at h2; cases h2
  · show PyProof.Rows.lexLt itemOrd (keyToks b) (keyToks a) = false
    cases h : PyProof.Rows.lexLt itemOrd (keyToks b) (keyToks a) with
    | false => rfl
    | true => rw [h] at h1; cases h1
def leK (a b : Key) : Bool := leP (encK a) (encK b)
theorem encK_inj {a b : Key} (h : keyToks (encK a) = keyToks (encK b)) : a = b := by
  cases a <;> cases b <;> simp only [encK, keyToks, List.cons.injEq, and_true, Sum.inl.injEq, Sum.inr.injEq, reduceCtorEq] at h
  · rw [h]
  · rw [str_of_cps h]
theorem leK_ii (a b : Int) : leK (.inl a) (.inl b) = decide (a ≤ b) := by
  unfold leK leP encK
  rw [dataLt_int]
  by_cases h : a ≤ b
  · rw [decide_eq_true h, decide_eq_false (by omega)]; rfl
  · rw [decide_eq_false h, decide_eq_true (by omega)]; rfl
theorem leK_ss (a b : Str) : leK (.inr a) (.inr b) = decide (a.cps.toList ≤ b.cps.toList) := by
  unfold leK leP encK
  rw [dataLt_str]
  by_cases h : b.cps.toList < a.cps.toList
  · rw [decide_eq_true h, decide_eq_false (by rw [List.not_le]; exact h)]; rfl
  · rw [decide_eq_false h, decide_eq_true (List.not_lt.mp h)]; rfl
def sortK (ks : List Key) : List Key := ks.mergeSort leK
def dedupK : List Key → List Key
  | [] => []
  | k :: ks => if hasK ks k = true then dedupK ks else k :: dedupK ks
theorem mem_dedup {k : Key} : ∀ {ks : List Key}, k ∈ dedupK ks ↔ k ∈ ks
  | [] => Iff.rfl
  | j :: ks => by
    unfold dedupK
    split
    · rename_i h
      rw [mem_dedup, List.mem_cons]
      exact ⟨.inr, fun z => z.elim (fun e => by rw [e]; exact hasK_iff.mp h) id⟩
    · rw [List.mem_cons, List.mem_cons, mem_dedup]
theorem nodup_dedup : ∀ {ks : List Key}, (dedupK ks).Nodup
  | [] => List.nodup_nil
  | j :: ks => by
    unfold dedupK
    split
    · exact nodup_dedup
    · rename_i h
      exact List.nodup_cons.mpr ⟨fun z => h (hasK_iff.mpr (mem_dedup.mp z)), nodup_dedup⟩
theorem dedup_le : ∀ {ks : List Key}, (dedupK ks).length ≤ ks.length
  | [] => Nat.le_refl _
  | j :: ks => by
    unfold dedupK
    split
    · exact Nat.le_succ_of_le dedup_le
    · exact Nat.succ_le_succ dedup_le
theorem perm_of_mem {l l' : List Key} (h : l.Nodup) (h' : l'.Nodup) (e : ∀ k, k ∈ l ↔ k ∈ l') : l.Perm l' := (List.perm_ext_iff_of_nodup h h').mpr e
theorem hom_mem {ks : List Key} (h : hom ks = true) : (∀ k ∈ ks, ∃ i, k = .inl i) ∨ (∀ k ∈ ks, ∃ x, k = .inr x) := by
  unfold hom at h
  rw [Bool.or_eq_true] at h
  rcases h with h | h
  · refine .inl fun k hk => ?_
    have := List.all_eq_true.mp h k hk
    cases k with
    | inl i => exact ⟨i, rfl⟩
    | inr x => cases this
  · refine .inr fun k hk => ?_
    have := List.all_eq_true.mp h k hk
    cases k with
    | inl i => cases this
    | inr x => exact ⟨x, rfl⟩
theorem hom_of {ks : List Key} (h : (∀ k ∈ ks, ∃ i, k = .inl i) ∨ (∀ k ∈ ks, ∃ x, k = .inr x)) : hom ks = true := by
  unfold hom
  rw [Bool.or_eq_true]
  rcases h with h | h
  · refine .inl (List.all_eq_true.mpr fun k hk => ?_)
    obtain ⟨i, rfl⟩ := h k hk; rfl
  · refine .inr (List.all_eq_true.mpr fun k hk => ?_)
    obtain ⟨i, rfl⟩ := h k hk; rfl
theorem hom_perm {ks l : List Key} (h : hom ks = true) (e : ∀ k, k ∈ l → k ∈ ks) : hom l = true := hom_of ((hom_mem h).imp (fun z k hk => z k (e k hk)) fun z k hk => z k (e k hk))
theorem sortK_pair (ks : List Key) : (sortK ks).Pairwise (fun a b => leK a b = true) :=
  List.pairwise_mergeSort (le := leK) (fun a b c h k => leP_trans (a := encK a) (b := encK b) (c := encK c) h k) (fun a b => by rw [Bool.or_eq_true]; exact leP_total (encK a) (encK b)) ks
theorem sortK_perm (ks : List Key) : (sortK ks).Perm ks := List.mergeSort_perm _ _
theorem sortK_uniq {l ks : List Key} (h : l.Perm ks) (k : l.Pairwise fun a b => leK a b = true) : l = sortK ks :=
  List.Perm.eq_of_pairwise (fun a b _ _ h1 h2 => encK_inj (leP_anti h1 h2)) k (sortK_pair ks) (h.trans (sortK_perm ks).symm)
theorem sortK_congr {l ks : List Key} (h : l.Perm ks) : sortK l = sortK ks := sortK_uniq ((sortK_perm l).trans h) (sortK_pair l)
/-! ## the set as a tracked thing -/
def KO (w : World) (a : Addr) (S : Key → Bool) (n : Nat) : HO := .ext fun h => KSet w h a S n
theorem ko_new {w : World} {P : Program} {H : Hp} {h : Heap} {a : Addr} {S : Key → Bool} {n : Nat} (R : KSet w h a S n) : ObjOk P w H h a (KO w a S n) :=
  let ⟨o, _, _, _, ho, _⟩ := R; ⟨R, ⟨o, ho⟩, fun _ _ p k => KSet.kept p k⟩
theorem kset_card {w : World} {h : Heap} {a : Addr} {ks : List Key} {n : Nat} (R : KSet w h a (hasK ks) n) : n = (dedupK ks).length := by
  obtain ⟨o, es, ep, t, ho, hx, hd, T, hf, hn, wy⟩ := R
  have p : (es.toList.map kOf).Perm (dedupK ks) := perm_of_mem T.one nodup_dedup fun k => by rw [← T.mem k, hasK_iff, mem_dedup]
  rw [← p.length_eq, List.length_map, Array.length_toList]; exact hn.symm
section
variable {X : Cx} {pins : List (Addr × Obj)} {σ : L2.St} {H : Hp} {s : Shared}
theorem ko_get {a : Addr} {S : Key → Bool} {n : Nat} (I : Inv X pins σ H s) (ha : H a = some (KO X.w a S n)) : KSet X.w s.heap a S n := (I.hok a _ ha).1
/-- x.add(k) at a new place -/
theorem ko_add {E : Value → Shared → Prop} {D : Addr} {S : Key → Bool} {n : Nat} {k : Key} {u : Value} {Q : Value → Shared → Prop} (I : Inv X pins σ H s) (hu : RelV (kV k) u) (hD : H D = some (KO X.w D S n)) (room : n + 1 < scanBound)
    (h : ∀ s', Inv X pins σ (upd H D (KO X.w D (fun j => S j || decide (j = k)) (if S k = true then n else n + 1))) s' → Q .none s') : wpAny (model X.prog X.w) X.A (call (.builtin "set.add") [.ref D, u]) Q E s := by
  refine add_call (kV_is (P := X.prog) (w := X.w) hu) (ko_get I hD) room fun h' sb new => ?_
  have he : ∃ o, h'.get? D = some o := let ⟨o, _, _, _, ho, _⟩ := new; ⟨o, ho⟩
  exact h _ (I.write (e := D) (t' := s.toks + 1) (by rw [hD]; trivial) (.inl rfl) (fun b o hb ho => (sb.2 b hb).trans ho) he (ko_new new))
theorem paired_keys {P : Program} {w : World} : ∀ {ks : List Key} {us : List Value}, Vals (ks.map kV) us → Paired (fun (k : Key) (v : Value) => keyIs k v = true) ks us
  | [], _, .nil => .nil
  | k :: ks, _, .cons r t => .cons (kV_is (P := P) (w := w) r) (paired_keys (P := P) (w := w) t)
/-- set(x) -/
def rSetOf (K : PySem.W.Frag) (w : World) : List V → Hp → VK → Prop := fun xs H Q => ∃ (a : Addr) (ks : List Key), xs = [.ref a] ∧ (SqL K H a (ks.map kV) ∨ SqT K H a (ks.map kV)) ∧ ks.length + 1 < scanBound ∧ ∀ p, H p = none → Q (.ref p) (upd H p (KO w p (hasK ks) (dedupK ks).length))
theorem cr_setOf (hc : X.calm = true) : CallR X (.type "set") (rSetOf X.K X.w) := by
  intro pins s σ H xs us Q I r h
  obtain ⟨a, ks, rfl, hq, hb, q⟩ := h
  rw [Vals.ref1 r]
  have fin : ∀ s', Made X.w s ks s' → EP X pins σ Q (.ref s.heap.objs.size) s' := fun s' ⟨h', tk, c, e, hK, _, kp⟩ => by
    subst e
    have hn := kset_card hK
    subst hn
    exact ⟨.ref _, upd H s.heap.objs.size (KO X.w s.heap.objs.size (hasK ks) (dedupK ks).length), I.laid (t' := tk) kp (Nat.le_refl _) (ko_new hK), rfl, q _ (I.hok.fresh (Nat.le_refl _))⟩
  rcases hq with hq | hq
  · obtain ⟨its, rv, ⟨o, n, e, c1, c2, c3⟩, _⟩ := I.list hq
    exact call_set (.inl rfl) (I.ok.hd hc) ⟨o, n, e, c1, c3⟩ (by simpa using paired_keys (P := X.prog) (w := X.w) rv) hb fin
  · obtain ⟨its, rv, ⟨o, e, c1, n, c3⟩, _⟩ := I.tuple hq
    exact call_set (.inr rfl) (I.ok.hd hc) ⟨o, n, e, c1, c3⟩ (by simpa using paired_keys (P := X.prog) (w := X.w) rv) hb fin
/-- len of a set -/
def rLenK (w : World) : List V → Hp → VK → Prop := fun xs H Q => ∃ (a : Addr) (S : Key → Bool) (n : Nat), xs = [.ref a] ∧ H a = some (KO w a S n) ∧ Q (.int n) H
theorem cr_lenK : CallR X (.builtin "len") (rLenK X.w) := by
  intro pins s σ H xs us Q I r h
  obtain ⟨a, S, n, rfl, ha, q⟩ := h
  rw [Vals.ref1 r]
  obtain ⟨o, es, ep, t, ho, hx, hd, T, hf, hn, wy⟩ := ko_get I ha
  have hlt : es.size < 1000000000 := Nat.lt_of_lt_of_le T.few (by decide)
  exact call_len_set ho hx hd hf (by omega) ⟨.int n, H, I.tok _, ⟨_, by rw [hn]⟩, q⟩
/-- sorted(x) of a set of ints, or of texts -/
def rSortK (w : World) : List V → Hp → VK → Prop := fun xs H Q => ∃ (a : Addr) (ks : List Key) (n : Nat), xs = [.ref a] ∧ H a = some (KO w a (hasK ks) n) ∧ hom ks = true ∧ ∀ p, H p = none → Q (.ref p) (upd H p (.lst ((sortK (dedupK ks)).map kV)))
theorem kOf_is {w : World} {e : Int × Value} (h : Fit w e) : keyIs (kOf e) e.2 = true := h.1
theorem vals_keys : ∀ {us : List Value} {ks : List Key}, EachIs (fun v k => keyIs k v = true) us ks → Vals (ks.map kV) us
  | _, _, .nil => .nil
  | _, k :: ks, .cons (a := u) h t => .cons (by
    rcases keyIs_shape h with ⟨i, t, rfl, rfl⟩ | ⟨x, t, rfl, rfl⟩
    · exact ⟨t, rfl⟩
    · exact ⟨t, rfl⟩) (vals_keys t)
theorem cr_sortK (hc : X.calm = true) (hu : X.A.units + 70 < cLine) : CallR X (.builtin "sorted") (rSortK X.w) := by
  intro pins s σ H xs us Q I r h
  obtain ⟨a, ks, n, rfl, ha, hh, q⟩ := h
  rw [Vals.ref1 r]
  obtain ⟨o, es, ep, t, ho, hx, hd, T, hf, hn, wy⟩ := ko_get I ha
  refine Calls.call_function_entry kind_sorted plain_sorted entry_sorted (args_sorted1 _) ?_
  unfold Builtin.«sorted»
  refine wpAny_bind (m := checkCount "sorted" 1 1 _) (wpAny_pure ?_)
  refine wpAny_bind (collect_set (A := X.A.in1) (I.ok.hd hc) ⟨o, ho, hx.1, hd⟩ hf T.few wy.1 wy.2 fun s1 vs k1 hz g1 o1 pm => ?_)
  have hvl : vs.length = es.size := by rw [pm.length_eq, List.length_map, Array.length_toList]
  have hline : vs.length ≤ sizeLine := by rw [hvl]; exact fits_of_scanBound T.few
  refine wpAny_bind (wpAny_newList ?_ hline)
  have hoL : (s1.heap.push (seqObj "list" vs.toArray 0)).get? s1.heap.objs.size = some (seqObj "list" vs.toArray 0) := Heap.get?_push_size _ rfl
  have keyV : ∀ v ∈ vs, ∃ k, keyIs k v = true ∧ k ∈ ks ∧ k = kOf (0, v) := fun v hv => by
    obtain ⟨e, he, z⟩ := List.mem_map.mp (pm.mem_iff.mp hv)
    have e1 := (T.fit e he).1
    rw [z] at e1
    refine ⟨kOf e, e1, hasK_iff.mp ((T.mem _).mpr (List.mem_map.mpr ⟨e, he, rfl⟩)), (kOf_key e1).symm⟩
  let bs : List Key := vs.map fun v => kOf (0, v)
  have each : EachIs (fun v k => keyIs k v = true) vs bs := by
    have gen : ∀ l : List Value, (∀ v ∈ l, v ∈ vs) → EachIs (fun v k => keyIs k v = true) l (l.map fun v => kOf (0, v)) := by
      intro l
      induction l with
      | nil => exact fun _ => .nil
      | cons v l ih =>
        intro hl
        obtain ⟨k, hk, _, e⟩ := keyV v (hl v List.mem_cons_self)
        exact .cons (show keyIs (kOf (0, v)) v = true by rw [← e]; exact hk) (ih fun u hu' => hl u (List.mem_cons_of_mem _ hu'))
    exact gen vs fun _ z => z
  have hbm : ∀ k ∈ bs, k ∈ ks := fun k hk => by
    obtain ⟨v, hv, e⟩ := List.mem_map.mp hk
    obtain ⟨k', _, hk', e'⟩ := keyV v hv
    rw [← e, ← e']; exact hk'
  have hhb : hom bs = true := hom_perm hh hbm
  have pb : bs.Perm (dedupK ks) := by
    have p1 : bs.Perm ((es.toList.map (·.2)).map fun v => kOf (0, v)) := pm.map _
    have p2 : (es.toList.map (·.2)).map (fun v => kOf (0, v)) = es.toList.map kOf := by rw [List.map_map]; rfl
    rw [p2] at p1
    exact p1.trans (perm_of_mem T.one nodup_dedup fun k => by rw [← T.mem k, hasK_iff, mem_dedup])
  have reads : EachIs (fun v k => ∃ as, Reads (s1.heap.push (seqObj "list" vs.toArray 0)) v (encK k) as ∧ s1.heap.objs.size ∉ as) vs bs := each.mono fun v k hk => by
    rcases keyIs_shape hk with ⟨i, t, rfl, rfl⟩ | ⟨x, t, rfl, rfl⟩
    · exact ⟨[], .int i t, by simp⟩
    · exact ⟨[], .str x t, by simp⟩
  have hal : AllAlike (bs.map encK) := fun d hd d' hd' => by
    obtain ⟨k, hk, rfl⟩ := List.mem_map.mp hd
    obtain ⟨k', hk', rfl⟩ := List.mem_map.mp hd'
    rcases hom_mem hhb with z | z
    · obtain ⟨i, rfl⟩ := z k hk; obtain ⟨j, rfl⟩ := z k' hk'; rfl
    · obtain ⟨i, rfl⟩ := z k hk; obtain ⟨j, rfl⟩ := z k' hk'; rfl
  have hso : Sortable (bs.map encK) := .inr fun d hd => by
    obtain ⟨k, hk, rfl⟩ := List.mem_map.mp hd
    cases k <;> exact ⟨by simp [encK], by simp [encK]⟩
  have hbl : bs.length = vs.length := List.length_map _
  refine wpAny_bind (wpAny_holding (list_sort_data (s := { s1 with heap := s1.heap.push (seqObj "list" vs.toArray 0) }) (R := fun v k => keyIs k v = true) (enc := encK) hoL each reads hal hso (by rw [hbl]; exact hline) (fun k hk => ?_) fun out ho2 e2 => ?_))
  · have : (encK k).depth = 0 := by cases k <;> rfl
    rw [this]
    show X.A.in1.units + 1 + 0 < cLine
    have : X.A.in1.units ≤ X.A.units + 1 := Nat.le_refl _
    omega
  · obtain ⟨c, hc2⟩ := sortedHeap_at (vs := vs) (out := out.toArray) hoL
    have hp : H s1.heap.objs.size = none := I.hok.fresh hz
    have er : bs.mergeSort (dataLe false encK) = sortK (dedupK ks) := sortK_congr pb
    rw [er] at e2
    have keep : ∀ b u, s.heap.get? b = some u → (sortedHeap (s1.heap.push (seqObj "list" vs.toArray 0)) s1.heap.objs.size vs out.toArray).get? b = some u := fun b u e => by
      have q1 := k1 b u e
      have hlt := Heap.lt_size q1
      rw [sortedHeap_old (Nat.ne_of_lt hlt) (by rw [size_push']; exact Nat.lt_succ_of_lt hlt)]
      exact Heap.get?_push_of_some _ q1
    have hlen : ((sortK (dedupK ks)).map kV).length ≤ sizeLine := by
      rw [List.length_map, (sortK_perm _).length_eq, ← pb.length_eq, hbl]; exact hline
    refine wpAny_pure ⟨_, rfl, ?_⟩
    obtain ⟨h1', g1', d1', t1', os1'⟩ := s1
    obtain rfl : g1' = s.gens := g1
    obtain rfl : os1' = s.os := o1
    have hob : ObjOk X.prog X.w (upd H h1'.objs.size (.lst ((sortK (dedupK ks)).map kV))) (sortedHeap (h1'.push (seqObj "list" vs.toArray 0)) h1'.objs.size vs out.toArray) h1'.objs.size (.lst ((sortK (dedupK ks)).map kV)) := ⟨hlen, out, c, vals_keys e2, hc2⟩
    have J : Inv X pins σ (upd H h1'.objs.size (.lst ((sortK (dedupK ks)).map kV))) { s with heap := sortedHeap (h1'.push (seqObj "list" vs.toArray 0)) h1'.objs.size vs out.toArray, gens := s.gens, drawn := d1', toks := t1' } :=
      I.call (ch := []) (Un.laid keep hz hp) (I.hok.laid keep hz hob) I.bare (fun _ z => nomatch z)
    exact ⟨.ref h1'.objs.size, _, J, rfl, q _ hp⟩
end
end KS

set_option maxHeartbeats 4000000
namespace KS
open PySem PySem.Spec PyProof.Rows L2
/-! ## {elt for target in iter if ..}, elt a key -/
section
variable {X : Cx}
/-- one more member -/
def plusK (w : World) (D : Addr) (k : Key) (S : Key → Bool) (n : Nat) : HO := KO w D (fun j => S j || decide (j = k)) (if S k = true then n else n + 1)
/-- what a turn asks -/
def turnK (w : World) (D : Addr) (g : TG) (tt : TT) (te : TE) (vs : List Nat) (σ : L2.St) (Nx : Hp → Prop) (x : V) (H' : Hp) : Prop := g x (wipe σ vs) H' fun σ2 H2 => wipe σ2 vs = wipe σ vs ∧ tt σ2 H2 fun b H3 =>
  if b = true then te σ2 H3 fun y H4 => ∃ (k : Key) (S : Key → Bool) (n : Nat), y = kV k ∧ H4 D = some (KO w D S n) ∧ n + 1 < scanBound ∧ Nx (upd H4 D (plusK w D k S n)) else Nx H3
def tScK (w : World) (wi : TI) (g : TG) (tt : TT) (te : TE) (vs : List Nat) : TE := fun σ H Q => wi σ H fun J H1 => ∀ D, H1 D = none → ∃ W : Nat → Nat → Hp → Prop, (∃ m, W 0 m (upd H1 D (KO w D (fun _ => false) 0))) ∧ ∀ i m H, W i m H →
  (J.stop i H ∧ Q (.ref D) H) ∨ (J.go i H ∧ ∃ Nx : Hp → Prop, (∀ H', Nx H' → ∃ m', m' < m ∧ W (i + 1) m' H') ∧ ∀ x H', J.yld i H x H' → turnK w D g tt te vs σ Nx x H')
theorem sck_core {pins : List (Addr × Obj)} {s : Shared} {σ : L2.St} {H : Hp} {Q : VK} {elt tg iter : Expr} {ifs : List Expr} {scope : Scope} {own : List (PySem.Str × Nat)} {pos pos' : Pos} {wi : TI} {g : TG} {tt : TT} {te : TE} {use : Option (Value → Sem Unit)} {Qf : Value → Shared → Prop}
    (hc : X.calm = true) (hN : X.N.Nodup) (I : Inv X pins σ H s) (hi : PI X tg iter wi) (ok : BlkOk X.N X.env.scope scope own)
    (hg : ∀ (s : Shared) (H : Hp) (C : Addr) (cl : List (PySem.Str × Addr)) (fp : List Addr), PG (X.blk s H scope (compEnvC scope cl C X.env) fp) tg g) (ht : ∀ (s : Shared) (H : Hp) (C : Addr) (cl : List (PySem.Str × Addr)) (fp : List Addr), PTs (X.blk s H scope (compEnvC scope cl C X.env) fp) ifs tt)
    (he : ∀ (s : Shared) (H : Hp) (C : Addr) (cl : List (PySem.Str × Addr)) (fp : List Addr), PE (X.blk s H scope (compEnvC scope cl C X.env) fp) elt te) (hs : ∀ x, foldedSetIterable iter X.env x = pure x)
    (h : tScK X.w wi g tt te (own.map (·.2)) σ H Q)
    (fin : ∀ D C s' m H', Inv X pins σ H' s' → Q (.ref D) H' → s'.heap.Ns C m → FpOk X pins H' C → compPost (model X.prog X.w) X.A X.xe use Qf (.ref D) C (.ok .next) s') :
    wpAny (model X.prog X.w) X.A (comprehension (.SetComp elt [⟨tg, iter, ifs, 0⟩] scope pos) scope X.env pos' (newSet (.type "set")) false (eval iter X.env) use) Qf X.xe s := by
  refine wpAny_comprehension_free (use := use) rfl hs (closure_ok fun y hy e => ?_) ok.kind (fun y hy e => by rw [ok.uniq y hy, e]) (thn (hi.run pins s σ H _ I h) fun xv s1 hx => thn hx fun itv s2 h2 => ?_)
  · rcases ok.free y hy e with k | k
    · exact I.ok.has _ (.inl k)
    · exact I.ok.has _ (.inr k)
  obtain ⟨it, fp, tn, J, H2, rfl, I2, T, st2, f2, q⟩ := h2
  refine PpSet.newSet_ok (newEnv_comp ?_)
  generalize hD : s2.heap.objs.size = D
  have nD : H2 D = none := I2.hok.fresh (Nat.le_of_eq hD)
  obtain ⟨W, ⟨m0, w0⟩, turn⟩ := q D nD
  generalize e3 : ({ s2 with heap := s2.heap.push { cls := .type "set", dict := none, data := .set #[] 0 (.fresh 0 0 (!X.w.params.followText "set-order")) } } : Shared) = s3
  have h3 : s3.heap = s2.heap.push (fresh0 X.w) := by rw [← e3]; rfl
  have I3 : Inv X pins σ (upd H2 D (KO X.w D (fun _ => false) 0)) s3 := by
    rw [← e3]
    exact I2.laid (t' := s2.toks) (fun b o e => Heap.get?_push_of_some _ e) (Nat.le_of_eq hD) (ko_new (kset_fresh (by rw [← hD]; exact Heap.get?_push_size _ rfl)))
  have f3 : ∀ b ∈ fp, FpOk X pins (upd H2 D (KO X.w D (fun _ => false) 0)) b ∧ b < s3.heap.objs.size := fun b hb => by
    obtain ⟨o, eo, _⟩ := T.obj _ _ st2 b hb
    have hlt := Heap.lt_size eo
    refine ⟨⟨?_, (f2 b hb).2⟩, by rw [h3, Heap.size_push]; exact Nat.lt_succ_of_lt hlt⟩
    rw [upd_ne (by rw [← hD]; exact Nat.ne_of_lt hlt)]
    exact (f2 b hb).1
  have st3 : tn 0 s3.heap := T.keep _ _ _ st2 fun b _ o e => by rw [h3]; exact Heap.get?_push_of_some _ e
  have I4 := block_start I3 ok hN f3
  have pg := hg s3 (upd H2 D (KO X.w D (fun _ => false) 0)) s3.heap.objs.size (cellsFrom (s3.heap.objs.size + 1) scope.names (cloFrom X.env.cells scope.names [])) fp
  have pt := ht s3 (upd H2 D (KO X.w D (fun _ => false) 0)) s3.heap.objs.size (cellsFrom (s3.heap.objs.size + 1) scope.names (cloFrom X.env.cells scope.names [])) fp
  have pe := he s3 (upd H2 D (KO X.w D (fun _ => false) 0)) s3.heap.objs.size (cellsFrom (s3.heap.objs.size + 1) scope.names (cloFrom X.env.cells scope.names [])) fp
  show codeAny _ _ (.compStart (.SetComp elt [⟨tg, iter, ifs, 0⟩] scope pos) 0 (.ref it) (.ref D) (compEnvC scope (cellsFrom (s3.heap.objs.size + 1) scope.names (cloFrom X.env.cells scope.names [])) s3.heap.objs.size X.env)) (compPost (model X.prog X.w) X.A X.xe use Qf (.ref D) s3.heap.objs.size) { s3 with heap := pushCells (s3.heap.push { cls := .type "dict", data := .dict #[] }) scope.names }
  generalize ec : compEnvC scope (cellsFrom (s3.heap.objs.size + 1) scope.names (cloFrom X.env.cells scope.names [])) s3.heap.objs.size X.env = ce at I4 pg pt pe ⊢
  have cL : ce.locals = s3.heap.objs.size := by subst ec; rfl
  generalize eH : upd H2 D (KO X.w D (fun _ => false) 0) = H3 at I3 I4 pg pt pe w0 f3
  generalize e4 : ({ s3 with heap := pushCells (s3.heap.push { cls := .type "dict", data := .dict #[] }) scope.names } : Shared) = s4 at I4 ⊢
  have st4 : tn 0 s4.heap := T.keep _ _ _ st3 fun b _ o e => by rw [← e4]; exact pushCells_keeps _ _ _ _ (Heap.get?_push_of_some _ e)
  have stat : ∀ {τ : L2.St} {H' : Hp} {s' : Shared}, Inv (X.blk s3 H3 scope ce fp) [] τ H' s' → (∀ b ∈ fp, H' b = none) → ∀ b ∈ fp, FpOk (X.blk s3 H3 scope ce fp) [] H' b := fun {τ H' s'} J' hn b hb =>
    ⟨hn b hb, (J'.ok.exf b hb).1, J'.ok.exfs b hb, .inl hb, fun x c e => (J'.ok.exf b hb).2 x c e, fun p hp => absurd (show p ∈ ([] : List (Addr × Obj)) ++ [] from hp) (by simp)⟩
  have loop : codeAny (model X.prog X.w) X.A (.compLoop (.SetComp elt [⟨tg, iter, ifs, 0⟩] scope pos) 0 (.ref it) (.ref D) ce) (compPost (model X.prog X.w) X.A X.xe use Qf (.ref D) s3.heap.objs.size) s4 := by
    refine PpSet.compLoopS_any (fun n s' => ∃ i H', Inv (X.blk s3 H3 scope ce fp) [] (wipe σ (own.map (·.2))) H' s' ∧ tn i s'.heap ∧ (∀ b ∈ fp, H' b = none) ∧ W i n H') ?_ m0 ⟨0, H3, I4, st4, fun b hb => (f3 b hb).1.1, w0⟩
    rintro n s5 ⟨i, H5, I5, st5, n5, w5⟩
    rcases turn i n H5 w5 with ⟨stop, qq⟩ | ⟨go, Nx, hNx, step⟩
    · refine thnF (T.done (X.blk s3 H3 scope ce fp) rfl rfl rfl hc i [] s5 _ H5 (fun _ _ => False) I5 (stat I5 n5) st5 stop) fun r s6 ⟨hr, I6⟩ => ?_
      subst hr
      have I7 : Inv X pins σ H5 s6 := I3.call' (ch := fp) I6.os I6.base I6.hok I6.bare fun b hb => ⟨(f3 b hb).1.2.2.2.1, (f3 b hb).1.2.1, (f3 b hb).1.2.2.2.2.1, (f3 b hb).1.2.2.2.2.2⟩
      have nC : H5 s3.heap.objs.size = none := by
        have z : H5 ce.locals = none := I6.free
        rwa [cL] at z
      obtain ⟨m, hm, _⟩ := I6.loc
      have hm' : s6.heap.Ns ce.locals m := hm
      rw [cL] at hm'
      exact fin D s3.heap.objs.size s6 m H5 I7 qq hm' (I3.fpOk (Nat.le_refl _) nC)
    · refine thnF (T.item (X.blk s3 H3 scope ce fp) rfl rfl rfl hc i [] s5 _ H5 (fun _ _ => False) I5 (stat I5 n5) st5 go) fun r s6 ⟨u, hr, h6⟩ => ?_
      subst hr
      refine thnF h6 fun _ s7 ⟨x, H7, I7, r7, y7, st7, n7⟩ => ?_
      refine thnF (pg.run _ s7 _ H7 x u _ (I7.pinned (stat I7 n7) (T.obj _ _ st7)) r7 (step x H7 y7)) fun _ s8 ⟨σ8, H8, I8, hw8, q8⟩ => ?_
      refine thnF (pt.run _ s8 σ8 H8 _ I8 q8) fun b s9 ⟨H9, I9, q9⟩ => ?_
      have back : ∀ {s' : Shared} {H' : Hp}, Inv (X.blk s3 H3 scope ce fp) ([] ++ pinsAt fp s7.heap) σ8 H' s' → Nx H' → ∃ m, m < n ∧ ∃ i H', Inv (X.blk s3 H3 scope ce fp) [] (wipe σ (own.map (·.2))) H' s' ∧ tn i s'.heap ∧ (∀ b ∈ fp, H' b = none) ∧ W i m H' := fun {s' H'} J' nx => by
        obtain ⟨m', hlt, w'⟩ := hNx H' nx
        have pin' : ∀ b ∈ fp, ∀ o, s7.heap.get? b = some o → s'.heap.get? b = some o ∧ H' b = none := fun b hb o e =>
          let z := J'.pin (b, o) (List.mem_append_right _ (List.mem_append_right _ (mem_pinsAt hb e)))
          ⟨z.1, z.2.1⟩
        refine ⟨m', hlt, i + 1, H', (J'.unpinned (pins := [])).weak (by rw [← hw8, wipe_length]) (fun j v e => (wipe_some (hw8 ▸ e)).1), T.keep _ _ _ st7 fun b hb o e => (pin' b hb o e).1, fun b hb => ?_, w'⟩
        obtain ⟨o, e, _⟩ := T.obj _ _ st7 b hb
        exact (pin' b hb o e).2
      cases b with
      | false => exact back I9 q9
      | true =>
        simp only [if_true] at q9 ⊢
        refine thnF (pe.run _ s9 σ8 H9 _ I9 q9) fun z s10 ⟨yv, H10, I10, r10, k, S0, n0, ey, hD10, hz10, nx⟩ => ?_
        subst ey
        exact ko_add (X := X.blk s3 H3 scope ce fp) I10 r10 hD10 hz10 fun s11 I11 => back I11 nx
  exact PpSet.codeAny_compStart_set loop (T.self X.A 0 _ _ _ st4 loop)
theorem pe_scK {elt tg iter : Expr} {ifs : List Expr} {scope : Scope} {own : List (PySem.Str × Nat)} {pos : Pos} {wi : TI} {g : TG} {tt : TT} {te : TE} (hc : X.calm = true) (hN : X.N.Nodup) (hi : PI X tg iter wi) (ok : BlkOk X.N X.env.scope scope own)
    (hg : ∀ (s : Shared) (H : Hp) (C : Addr) (cl : List (PySem.Str × Addr)) (fp : List Addr), PG (X.blk s H scope (compEnvC scope cl C X.env) fp) tg g) (ht : ∀ (s : Shared) (H : Hp) (C : Addr) (cl : List (PySem.Str × Addr)) (fp : List Addr), PTs (X.blk s H scope (compEnvC scope cl C X.env) fp) ifs tt)
    (he : ∀ (s : Shared) (H : Hp) (C : Addr) (cl : List (PySem.Str × Addr)) (fp : List Addr), PE (X.blk s H scope (compEnvC scope cl C X.env) fp) elt te) (hs : ∀ x, foldedSetIterable iter X.env x = pure x := by intro _; rfl) :
    PE X (.SetComp elt [⟨tg, iter, ifs, 0⟩] scope pos) (tScK X.w wi g tt te (own.map (·.2))) := by
  refine ⟨fun pins s σ H Q I h => ?_⟩
  rw [PpSet.eval_SetComp]
  refine sck_core hc hN I hi ok hg ht he hs h fun D C s' m H' I' q hn f => ⟨m, hn, fun h'' sb => ?_⟩
  obtain ⟨f0, f1, f2, f3, f4, f5⟩ := f
  exact ⟨.ref D, H', I'.turned (t' := s'.toks) (fun b o hb e => (sb.2 b hb).trans e) f0 f1 f3 f4 f5, rfl, q⟩
end
/-- the turns of such a comprehension, by what is walked -/
theorem sck_it {w : World} {J : It} {n : Nat} {G : Hp → Prop} {Y : Nat → Hp → V → Hp → Prop} (wk : Walk J n G Y) {g : TG} {tt : TT} {te : TE} {vs : List Nat} {σ : L2.St} {H1 : Hp} {D : Addr} {Qd : Hp → Prop} (Pv : Nat → Hp → Prop) (h0 : Pv 0 (upd H1 D (KO w D (fun _ => false) 0))) (hG : ∀ i H, i ≤ n → Pv i H → G H)
    (hs : ∀ i x H H', i < n → Pv i H → Y i H x H' → turnK w D g tt te vs σ (Pv (i + 1)) x H') (hd : ∀ H, Pv n H → Qd H) :
    ∃ W : Nat → Nat → Hp → Prop, (∃ m, W 0 m (upd H1 D (KO w D (fun _ => false) 0))) ∧ ∀ i m H, W i m H →
      (J.stop i H ∧ Qd H) ∨ (J.go i H ∧ ∃ Nx : Hp → Prop, (∀ H', Nx H' → ∃ m', m' < m ∧ W (i + 1) m' H') ∧ ∀ x H', J.yld i H x H' → turnK w D g tt te vs σ Nx x H') := by
  refine ⟨fun i m H => m = n - i ∧ i ≤ n ∧ Pv i H, ⟨n, by simp, Nat.zero_le _, h0⟩, ?_⟩
  rintro i m H ⟨rfl, hi, p⟩
  have q := hG i H hi p
  by_cases hlt : i < n
  · exact .inr ⟨wk.goes i H hlt q, Pv (i + 1), fun H' p' => ⟨n - (i + 1), by omega, rfl, hlt, p'⟩, fun x H' y => hs i x H H' hlt p (wk.yields i H x H' hlt q y)⟩
  · obtain rfl : i = n := by omega
    exact .inl ⟨wk.stops H q, hd H p⟩
end KS

set_option maxHeartbeats 4000000
namespace Mir
open PySem PySem.Spec PyProof.Rows L2
/-! ## ways of walking -/
section
variable {K : PySem.W.Frag} {E : XK} {c : Fm} {σ σ' : L2.St} {H H' : Hp} {W W' : Wd} {r r' : RE}
@[simp] def seqI : D → Option (List D)
  | .lst ds => some ds
  | .frl ds => some ds
  | .tup ds => some ds
  | _ => none
def iSeq (K : PySem.W.Frag) (te : TE) : TI := fun σ H R => iList K te σ H R ∨ iTup K te σ H R
theorem pi_orI {X : Cx} {tg it : PySem.Expr} {t u : TI} (h : PI X tg it t) (k : PI X tg it u) : PI X tg it (fun σ H R => t σ H R ∨ u σ H R) := ⟨fun pins s σ H R I q => q.elim (fun q => h.run pins s σ H R I q) fun q => k.run pins s σ H R I q⟩
theorem pi_seq {X : Cx} {tg e : PySem.Expr} {te : TE} (h : PE X e te) : PI X tg e (iSeq X.K te) := pi_orI (pi_list h) (pi_tup h)
theorem yields_at {ds : List D} {vs : List V} (hl : RepL K W ds vs) : Yields K W ds (YAt vs) := by
  rintro i H2 W2 x H3 s1 s2 hi ⟨rfl, hx⟩
  obtain ⟨d, e, hd⟩ := repL_get hl hx
  exact ⟨W2, d, Ext.refl s1, e, hd.mono s2⟩
theorem Walk.mono {J : It} {n : Nat} {G G' : Hp → Prop} {Y : Nat → Hp → V → Hp → Prop} (w : Walk J n G Y) (h : ∀ H, G' H → G H) : Walk J n G' Y := ⟨fun i H hi g => w.goes i H hi (h H g), fun H g => w.stops H (h H g), fun i H x H' hi g y => w.yields i H x H' hi (h H g) y⟩
theorem wk_seq : WK K (iSeq K) seqI where
  ni := fun C fs => by simp
  lk := fun d ds W u a od hi hf => by
    cases d <;> simp only [Fits] at hf <;> simp only [seqI, reduceCtorEq, Option.some.injEq] at hi
    subst hi
    obtain ⟨us, rfl, hl⟩ := hf
    refine ⟨Itl K a, YAt us, fun te σ H R hat hH q => .inl (hat _ ⟨a, rfl, ⟨us, .inl (.inr ⟨od, hH⟩)⟩, q⟩), ?_, yields_at hl⟩
    rw [repL_len hl]
    exact Walk.mono walk_list fun H z => .inl (.inr ⟨od, z⟩)
  fz := fun d ds W v hi hv => by
    refine .inr ?_
    cases d <;> simp only [seqI, reduceCtorEq, Option.some.injEq] at hi <;> subst hi <;> simp only [RepD] at hv <;> obtain ⟨a, us, rfl, hq, hl⟩ := hv
    · refine ⟨Itt K a, fun H => SqT K H a us, YAt us, fun te σ H R s hat q => .inr (hat _ ⟨a, rfl, ⟨us, SqT.of (s.tup hq)⟩, q⟩), by rw [repL_len hl]; exact walk_tup, fun W2 H2 s2 s3 => SqT.of (s3.tup (s2.s.tup hq)), yields_at hl⟩
    · refine ⟨Itl K a, fun H => SqL K H a us, YAt us, fun te σ H R s hat q => .inl (hat _ ⟨a, rfl, ⟨us, SqL.of (s.lst hq)⟩, q⟩), by rw [repL_len hl]; exact walk_list, fun W2 H2 s2 s3 => SqL.of (s3.lst (s2.s.lst hq)), yields_at hl⟩
    · refine ⟨Itl K a, fun H => SqL K H a us, YAt us, fun te σ H R s hat q => .inl (hat _ ⟨a, rfl, ⟨us, s.sqL hq⟩, q⟩), by rw [repL_len hl]; exact walk_list, fun W2 H2 s2 s3 => s3.sqL (s2.s.sqL hq), yields_at hl⟩
/-! dicts -/
@[simp] def kvKey' : List Key × D → D := fun kv => .tup (kv.1.map ofKey)
@[simp] def keysI : D → Option (List D)
  | .dic kvs => some (kvs.map kvKey)
  | _ => none
@[simp] def valsI : D → Option (List D)
  | .dic kvs => some (kvs.map kvVal)
  | _ => none
@[simp] def itemsI : D → Option (List D)
  | .dic kvs => some (kvs.map kvPair)
  | _ => none
theorem repG_get {κ : Type} : ∀ {ds : List (κ × D)} {vs : List (κ × V)} {j : Nat} {k : κ} {v : V}, RepG K W ds vs → vs[j]? = some (k, v) → ∃ d, ds[j]? = some (k, d) ∧ RepD K W d v
  | [], vs, j, k, v, h, e => by simp only [RepG] at h; subst h; simp at e
  | (k', d) :: ds, vs, 0, k, v, h, e => by
    simp only [RepG] at h
    obtain ⟨u, us, ev, q, l⟩ := h
    subst ev
    simp at e
    obtain ⟨rfl, rfl⟩ := e
    exact ⟨d, rfl, q⟩
  | (k', d) :: ds, vs, j + 1, k, v, h, e => by
    simp only [RepG] at h
    obtain ⟨u, us, ev, q, l⟩ := h
    subst ev
    simp at e
    obtain ⟨d', h1, h2⟩ := repG_get (j := j) l e
    exact ⟨d', by simpa using h1, h2⟩
theorem repL_ofKeys : ∀ {ks : List Key}, RepL K W (ks.map ofKey) (ks.map kV)
  | [] => by simp only [List.map_nil, RepL]
  | k :: ks => by
    simp only [List.map_cons, RepL]
    exact ⟨_, _, rfl, repD_key, repL_ofKeys⟩
theorem fz_dict {d : D} {ds : List D} {items : D → Option (List D)} {v : V} (ho : ∀ d ds, items d = some ds → isDic d = true) (hi : items d = some ds) (hv : RepD K W d v) : ∃ a u, v = .ref a ∧ Rd W.g a u ∧ isDict u = true ∧ Fits K W d u := by
  have := ho d ds hi
  cases d <;> simp only [isDic, reduceCtorEq, Bool.false_eq_true] at this <;> simp only [RepD] at hv <;> obtain ⟨a, us, rfl, hq, hl⟩ := hv
  · exact ⟨a, _, rfl, hq, rfl, ⟨us, rfl, hl⟩⟩
  · exact ⟨a, _, rfl, hq, rfl, ⟨us, rfl, hl⟩⟩
theorem isDic_keys {d : D} {ds : List D} (h : keysI d = some ds) : isDic d = true := by cases d <;> first | rfl | cases h
theorem isDic_vals {d : D} {ds : List D} (h : valsI d = some ds) : isDic d = true := by cases d <;> first | rfl | cases h
theorem isDic_items {d : D} {ds : List D} (h : itemsI d = some ds) : isDic d = true := by cases d <;> first | rfl | cases h
theorem wk_vals : WK K iVals valsI where
  ni := fun C fs => by simp
  lk := fun d ds W u a od hi hf => by
    cases d <;> simp only [Fits] at hf <;> simp only [valsI, reduceCtorEq, Option.some.injEq] at hi
    subst hi
    obtain ⟨us, rfl, hl⟩ := hf
    refine ⟨Itd a od us, _, fun te σ H R hat hH q => hat _ ⟨a, od, us, rfl, hH, q⟩, by rw [List.length_map, repK_len hl]; exact walk_values, ?_⟩
    rintro j H2 W2 x H3 s1 s2 hj ⟨rfl, k, hkv⟩
    obtain ⟨d, hd, hr⟩ := repG_get (repK_g.mp hl) hkv
    exact ⟨W2, d, Ext.refl s1, by rw [List.getElem?_map, hd]; rfl, hr.mono s2⟩
  fz := fun d ds W v hi hv => .inl (fz_dict (fun _ _ => isDic_vals) hi hv)
theorem wk_items : WK K iItems itemsI where
  ni := fun C fs => by simp
  lk := fun d ds W u a od hi hf => by
    cases d <;> simp only [Fits] at hf <;> simp only [itemsI, reduceCtorEq, Option.some.injEq] at hi
    subst hi
    obtain ⟨us, rfl, hl⟩ := hf
    refine ⟨Iti a od us, _, fun te σ H R hat hH q => hat _ ⟨a, od, us, rfl, hH, q⟩, by rw [List.length_map, repK_len hl]; exact walk_items, ?_⟩
    rintro j H2 W2 x H3 s1 s2 hj ⟨T, kx, vx, rfl, hT, rfl, ek, ev⟩
    have hj' : j < us.length := by rw [List.length_map, repK_len hl] at hj; exact hj
    obtain ⟨⟨k, v⟩, hkv⟩ : ∃ p, us[j]? = some p := ⟨us[j], List.getElem?_eq_getElem hj'⟩
    simp only [hkv, Option.map_some, Option.some.injEq] at ek ev
    subst ek ev
    obtain ⟨d, hd, hr⟩ := repG_get (repK_g.mp hl) hkv
    obtain ⟨W3, ex, h3⟩ := pair_new (K := K) s1 hT (repD_key (k := k)) (hr.mono s2)
    exact ⟨W3, _, ex, by rw [List.getElem?_map, hd]; rfl, h3⟩
  fz := fun d ds W v hi hv => .inl (fz_dict (fun _ _ => isDic_items) hi hv)
theorem wk_keys : WK K iKeys keysI where
  ni := fun C fs => by simp
  lk := fun d ds W u a od hi hf => by
    cases d <;> simp only [Fits] at hf <;> simp only [keysI, reduceCtorEq, Option.some.injEq] at hi
    · subst hi
      obtain ⟨us, rfl, hl⟩ := hf
      refine ⟨Itk a od us, _, fun te σ H R hat hH q => hat _ ⟨a, od, rfl, .inl ⟨us, hH, q⟩⟩, by rw [List.length_map, repK_len hl]; exact walk_keys, ?_⟩
      rintro j H2 W2 x H3 s1 s2 hj ⟨rfl, k, v, hkv, rfl⟩
      obtain ⟨d, hd, hr⟩ := repG_get (repK_g.mp hl) hkv
      exact ⟨W2, ofKey k, Ext.refl s1, by rw [List.getElem?_map, hd]; rfl, repD_key⟩
  fz := fun d ds W v hi hv => .inl (fz_dict (fun _ _ => isDic_keys) hi hv)
end
end Mir

set_option maxHeartbeats 4000000
/-! enumerate over a tuple -/
namespace ET
open PySem PySem.Spec PyProof.Rows L2
theorem meets_newT (l : Addr) (items : Array Value) :
    Meets (Builtin.«enumerate.__new__» ⟨[.type "enumerate", .ref l], []⟩) (fun _ R s => s.heap.IsTuple l items ∧
      R (.ok (.ret (.ref (s.heap.push { cls := .type "tuple_iterator", data := .fields #[.ref l, .int 0 0] }).objs.size)))
        { s with heap := (s.heap.push { cls := .type "tuple_iterator", data := .fields #[.ref l, .int 0 0] }).push { cls := .type "enumerate", data := .fields #[.none, .bool false, .ref s.heap.objs.size, rawInt 0, .none, .none] } }) :=
  .of_wp fun prog w A R s h => by
    obtain ⟨hp, g, d, tk, os⟩ := s; obtain ⟨h1, h⟩ := h
    have hsub := sub_enumerate
    have q1 : ∀ {A' : Around} {E : Value → Shared → Prop} {Q : Value → Shared → Prop}, Q (.ref hp.objs.size) ⟨hp.push { cls := .type "tuple_iterator", data := .fields #[.ref l, .int 0 0] }, g, d, tk, os⟩ → wpAny (model prog w) A' (pyIter (.ref l)) Q E ⟨hp, g, d, tk, os⟩ :=
      fun q => wpAny_pyIter_tuple h1 q
    wp_walk using q1
    refine wpAny_stack_any fun st => wpAny_pure ?_
    split
    · rename_i c _ _ _ _ _
      cases (c == Value.type "enumerate")
      · wp_walk using q1
        exact ⟨_, rfl, h⟩
      · wp_walk using q1
        exact ⟨_, rfl, h⟩
    · wp_walk using q1
      exact ⟨_, rfl, h⟩
theorem call_enumT {prog : Program} {w : World} {A : Around} {E : Value → Shared → Prop} {s : Shared} {l : Addr} {items : Array Value} {Q : Value → Shared → Prop} (hL : s.heap.IsTuple l items)
    (h : ∀ h', IsEnum h' (s.heap.objs.size + 1) s.heap.objs.size 0 .none → h'.IsTupleIter s.heap.objs.size l 0 → h'.objs.size = s.heap.objs.size + 2 →
      (∀ b o, s.heap.get? b = some o → h'.get? b = some o) → Q (.ref (s.heap.objs.size + 1)) { s with heap := h' }) :
    wpAny (model prog w) A (call (.type "enumerate") [.ref l]) Q E s := by
  refine callType_new F.called_enumerate (by decide) (F.typeCall_enumerate_1 _) (F.newCall_enumerate_1 _) (fun obj => F.args_object_init_2 obj _) F.entry_enumerate_new
    (meets_newT l items) ⟨hL, ?_⟩
  have hz : (s.heap.push { cls := .type "tuple_iterator", data := .fields #[.ref l, .int 0 0] }).objs.size = s.heap.objs.size + 1 := Heap.size_push ..
  show _ ∧ _
  rw [hz]
  have he : IsEnum ((s.heap.push { cls := .type "tuple_iterator", data := .fields #[.ref l, .int 0 0] }).push
      { cls := .type "enumerate", data := .fields #[.none, .bool false, .ref s.heap.objs.size, rawInt 0, .none, .none] }) (s.heap.objs.size + 1) s.heap.objs.size 0 .none := by
    have := Heap.get?_push_size (s.heap.push { cls := .type "tuple_iterator", data := .fields #[.ref l, .int 0 0] })
      (o := { cls := .type "enumerate", data := .fields #[.none, .bool false, .ref s.heap.objs.size, rawInt 0, .none, .none] }) rfl
    rw [hz] at this; exact this
  refine ⟨⟨_, he, rfl⟩, h _ he ⟨_, Heap.get?_push_of_some _ (Heap.get?_push_size _ rfl), rfl, rfl⟩ (by rw [Heap.size_push, hz]) fun b o x => Heap.get?_push_of_some _ (Heap.get?_push_of_some _ x)⟩
/-- the tuple at a, each item in a new pair -/
def ItT (K : PySem.W.Frag) (a : Addr) : It :=
  ⟨fun i H => ∃ (xs : List V) (x : V), SqT K H a xs ∧ xs[i]? = some x, fun i H v H' => ∃ T x, v = .ref T ∧ H T = none ∧ H' = upd H T (.tup [.int (i : Nat), x]) ∧ ∀ xs, SqT K H a xs → xs[i]? = some x, fun i H => ∃ xs : List V, SqT K H a xs ∧ xs.length = i⟩
theorem turn_enumT {P : Program} {w : World} {K : PySem.W.Frag} {elts : List Expr} {kk : Nat} {tpos : Pos} (a e it : Addr) (hai : a ≠ it) (hae : a ≠ e) :
    Turn P w K (.Tuple elts kk tpos) (ItT K a) [e, it] e (fun i h => (∃ old, IsEnum h e it ((i : Nat) : Int) old) ∧ h.IsTupleIter it a i ∧ e ≠ it) where
  mem := by simp
  obj := fun i h st b hb => by
    obtain ⟨⟨old, he⟩, ⟨o, ho, hc, hd⟩, _⟩ := st
    have e' : b = e ∨ b = it := by simpa using hb
    rcases e' with z | z
    · rw [z]; exact ⟨_, he, fun v q => nomatch q⟩
    · rw [z]; exact ⟨o, ho, fun v q => by rw [hd] at q; cases q⟩
  keep := fun i h h' st k => let ⟨⟨old, he⟩, hi, hne⟩ := st; ⟨⟨old, k e (by simp) _ he⟩, hi.at fun o q => k it (by simp) o q, hne⟩
  item := by
    intro X hP hw hK hc i pins s σ H E I hf st hg
    subst hP hw hK
    obtain ⟨⟨old, he⟩, hit, hne⟩ := st
    obtain ⟨xs, x, hq, hx⟩ := hg
    obtain ⟨its, rv, p, hz⟩ := I.tuple hq
    obtain ⟨u, hu, ru⟩ := rv.get hx
    have hel : e < s.heap.objs.size := Heap.lt_size he
    have hil : it < s.heap.objs.size := by obtain ⟨_, q, _⟩ := hit; exact Heap.lt_size q
    have hlt : i < its.toArray.size := by
      have := (List.getElem?_eq_some_iff.mp hu).1
      simpa using this
    refine wpAny_pyNext_enum_itemD (Draws.tuple (prog := X.prog) (w := X.w) (A := X.A.in1) (show X.A.in1.handled = none from I.ok.hd hc) it a hai its.toArray) he ⟨hit, p⟩ hlt hne (by simp only [List.mem_cons, List.not_mem_nil, or_false, not_or]; exact ⟨hne, Ne.symm hae⟩) fun u' h' tk hP ho hit' hT hsz hk => ?_
    have hu' : u' = u := by
      have h1 : its.toArray[i]? = some u' := hP
      have h2 : its.toArray[i]? = some u := by simpa using hu
      rw [h1] at h2; exact Option.some.inj h2
    subst hu'
    refine ⟨_, rfl, wpAny_letOwnedTupleGo_enum (s := { s with heap := h', toks := tk + 1 }) ho fun h'' he' sb => ?_⟩
    have hT2 : h''.get? s.heap.objs.size = some { cls := .type "tuple", data := .seq #[.int i tk, u'] } := (sb.2 _ (Nat.ne_of_gt hel)).trans hT
    have new : ObjOk X.prog X.w (upd H s.heap.objs.size (.tup [.int (i : Nat), x])) h'' s.heap.objs.size (.tup [.int (i : Nat), x]) :=
      ⟨by show 2 ≤ sizeLine; decide, [.int i tk, u'], .cons ⟨_, rfl⟩ (.cons ru .nil), ⟨_, hT2, rfl, _, rfl⟩⟩
    have I1 : Inv X pins σ (upd H s.heap.objs.size (.tup [.int (i : Nat), x])) { s with heap := h'', toks := tk + 1 } :=
      I.turnedNew (ch := [e, it]) (fun b ob hb q => (sb.2 b (fun z => hb (by simp [z]))).trans (hk b ob (fun z => hb (by simp [z])) (fun z => hb (by simp [z])) q)) hf (Nat.le_refl _) new
    refine ⟨.ref s.heap.objs.size, _, I1, rfl, ⟨_, x, rfl, I.hok.fresh (Nat.le_refl _), rfl, fun ys hy => by rw [I.tuple_inj hy hq]; exact hx⟩, ⟨⟨u', ?_⟩, hit'.1.at fun o q => (sb.2 it (Ne.symm hne)).trans q, hne⟩, fun b hb => ?_⟩
    · have e1 : ((i + 1 : Nat) : Int) = (i : Int) + 1 := by omega
      rw [e1]; exact he'
    · have hb' : b < s.heap.objs.size := by
        have e' : b = e ∨ b = it := by simpa using hb
        rcases e' with z | z
        · rw [z]; exact hel
        · rw [z]; exact hil
      rw [upd_ne (Nat.ne_of_lt hb')]
      exact (hf b hb).1
  done := by
    intro X hP hw hK hc i pins s σ H E I hf st hg
    subst hP hw hK
    obtain ⟨⟨old, he⟩, hit, hne⟩ := st
    obtain ⟨xs, hq, hx⟩ := hg
    obtain ⟨its, rv, p, hz⟩ := I.tuple hq
    obtain ⟨f0, f1, f2, f3, f4, f5⟩ := hf it (by simp)
    have hl := rv.length
    have hi : i = its.toArray.size := by simp; omega
    subst hi
    exact wpAny_pyNext_enum_endD (Draws.tuple (prog := X.prog) (w := X.w) (A := X.A.in1) (show X.A.in1.handled = none from I.ok.hd hc) it a hai its.toArray) he ⟨hit, p⟩ fun h' eb => ⟨rfl, I.turned (t' := s.toks) (fun b o hb q => eb b o hb q) f0 f1 f3 f4 f5⟩
  self := fun A i s Q E st h => let ⟨⟨_, he⟩, _⟩ := st; wpAny_pyIter_enum he h
def iEnumT (K : PySem.W.Frag) (ta : TA) : TI := fun σ H R => ta σ H fun vs H1 => ∃ a xs, vs = [.ref a] ∧ SqT K H1 a xs ∧ R (ItT K a) H1
theorem pi_enumT {X : Cx} {e : Expr} {ta : TA} {p pos tpos : Pos} {elts : List Expr} {kk : Nat} (hg : Gl X "enumerate") (hm : X.mg "enumerate" = none) (ha : PA X [e] ta) (hs : starEach [e] X.env = [(false, eval e X.env)] := by rfl) :
    PI X (.Tuple elts kk tpos) (.Call (.Name "enumerate" p) [e] [] pos) (iEnumT X.K ta) := by
  refine ⟨fun pins s σ H R I h => ?_⟩
  refine Call_ (ld_blt I hg hm boot_enumerate (PyProof.Rows.callWith_type1 (thn (ha.run pos pins s σ H _ I h) fun us s1 ⟨vs, H1, I1, r1, q1⟩ => ?_) hs rfl))
  obtain ⟨a, xs, ex, hq, q⟩ := q1
  subst ex
  cases r1 with
  | cons r rr =>
    cases rr
    cases r
    obtain ⟨its, rv, p', hz⟩ := I1.tuple hq
    obtain ⟨ob, hob, _⟩ := id p'
    have hlt : a < s1.heap.objs.size := Heap.lt_size hob
    refine call_enumT (show s1.heap.IsTuple a its.toArray from p') fun h' he hit hsz hk => wpAny_pyIter_enum he ?_
    have I2 : Inv X pins σ H1 { s1 with heap := h' } := I1.kept (t' := s1.toks) hk
    refine ⟨s1.heap.objs.size + 1, [s1.heap.objs.size + 1, s1.heap.objs.size], _, _, H1, rfl, I2, turn_enumT a (s1.heap.objs.size + 1) s1.heap.objs.size (Nat.ne_of_lt hlt) (Nat.ne_of_lt (Nat.lt_succ_of_lt hlt)), ⟨⟨.none, he⟩, hit, Nat.succ_ne_self _⟩, fun b hb => ?_, q⟩
    have e' : b = s1.heap.objs.size + 1 ∨ b = s1.heap.objs.size := by simpa using hb
    have hle : s1.heap.objs.size ≤ b := by
      rcases e' with z | z
      · rw [z]; exact Nat.le_add_right _ _
      · rw [z]; exact Nat.le_refl _
    exact I1.fpOk hle (I1.hok.fresh hle)
end ET

set_option maxHeartbeats 4000000
namespace Mir
open PySem PySem.Spec PyProof.Rows L2
/-! ## comprehensions of any kind -/
section
variable {K : PySem.W.Frag} {E : XK} {c : Fm} {σ σ' : L2.St} {H H' : Hp} {W W' : Wd} {r r' : RE} {α : Type}
structure FreshA (A : Addr → α → Wd → HO → Prop) (c : Fm) (H : Hp) (W : Wd) (x : α) (a : Addr) : Prop where
  g : W.g a = none
  e : c.He a = none
  n : a ∉ W.b
  o : ∃ u, H a = some u ∧ A a x W u
def SndG (K : PySem.W.Frag) (E : XK) (A : Addr → α → Wd → HO → Prop) (te : TE) (m : RE → Out (α × RE)) : Prop := ∀ (c : Fm) (σ : L2.St) (H : Hp) (W : Wd) (r : RE) (Q : VK), RR K c σ H W r →
  Wp (m r) (fun p => ∀ a H' W', RR K c σ H' W' p.2 → Le W W' → FreshA A c H' W' p.1 a → Q (.ref a) H') (XP K c E) → te σ H Q
def mCompG (s0 : List (Option D)) (st : D → RE → Option RE) (mt : RE → Out (Bool × RE)) (ma : RE → Out (List D × RE)) (app : List D → α → Option α) : List D → Sto → α → Out (α × Sto)
  | [], so, acc => .ok (acc, so)
  | x :: xs, so, acc => match st x ⟨s0, so⟩ with
    | none => .stuck
    | some r1 => (mt r1).bnd fun p => if p.1 = true then (ma p.2).bnd fun q => match app q.1 acc with
        | some a => mCompG s0 st mt ma app xs q.2.st a
        | none => .stuck
      else mCompG s0 st mt ma app xs p.2.st acc
def turnG (g : TG) (tt : TT) (ta : TA) (fin : List V → Hp → (Hp → Prop) → Prop) (vs : List Nat) (σ : L2.St) (Nx : Hp → Prop) (x : V) (H' : Hp) : Prop := g x (L2.wipe σ vs) H' fun σ2 H2 => L2.wipe σ2 vs = L2.wipe σ vs ∧ tt σ2 H2 fun b H3 =>
  if b = true then ta σ2 H3 fun us H4 => fin us H4 Nx else Nx H3
def tCG (wi : TI) (g : TG) (tt : TT) (ta : TA) (fin : Addr → List V → Hp → (Hp → Prop) → Prop) (o0 : Addr → HO) (vs : List Nat) : TE := fun σ H Q => wi σ H fun J H1 => ∀ D, H1 D = none → ∃ W : Nat → Nat → Hp → Prop, (∃ m, W 0 m (upd H1 D (o0 D))) ∧ ∀ i m H, W i m H →
  (J.stop i H ∧ Q (.ref D) H) ∨ (J.go i H ∧ ∃ Nx : Hp → Prop, (∀ H', Nx H' → ∃ m', m' < m ∧ W (i + 1) m' H') ∧ ∀ x H', J.yld i H x H' → turnG g tt ta (fin D) vs σ Nx x H')
theorem it_gen {J : It} {n : Nat} {G : Hp → Prop} {Y : Nat → Hp → V → Hp → Prop} (wk : Walk J n G Y) {turn : (Hp → Prop) → V → Hp → Prop} {H0 : Hp} {Qd : Hp → Prop} (Pv : Nat → Hp → Prop) (h0 : Pv 0 H0) (hG : ∀ i H, i ≤ n → Pv i H → G H)
    (hs : ∀ i x H H', i < n → Pv i H → Y i H x H' → turn (Pv (i + 1)) x H') (hd : ∀ H, Pv n H → Qd H) :
    ∃ W : Nat → Nat → Hp → Prop, (∃ m, W 0 m H0) ∧ ∀ i m H, W i m H → (J.stop i H ∧ Qd H) ∨ (J.go i H ∧ ∃ Nx : Hp → Prop, (∀ H', Nx H' → ∃ m', m' < m ∧ W (i + 1) m' H') ∧ ∀ x H', J.yld i H x H' → turn Nx x H') := by
  refine ⟨fun i m H => m = n - i ∧ i ≤ n ∧ Pv i H, ⟨n, by simp, Nat.zero_le _, h0⟩, ?_⟩
  rintro i m H ⟨rfl, hi, p⟩
  have q := hG i H hi p
  by_cases hlt : i < n
  · exact .inr ⟨wk.goes i H hlt q, Pv (i + 1), fun H' p' => ⟨n - (i + 1), by omega, rfl, hlt, p'⟩, fun x H' y => hs i x H H' hlt p (wk.yields i H x H' hlt q y)⟩
  · obtain rfl : i = n := by omega
    exact .inl ⟨wk.stops H q, hd H p⟩
/-- how a kind of comprehension collects -/
structure Collects (K : PySem.W.Frag) (A : Addr → α → Wd → HO → Prop) (app : List D → α → Option α) (fin : Addr → List V → Hp → (Hp → Prop) → Prop) (o0 : Addr → HO) (a0 : α) : Prop where
  mono : ∀ a x W W' u, Le W W' → A a x W u → A a x W' u
  zero : ∀ a W, A a a0 W (o0 a)
  put : ∀ a x x' ds vs W H u (Nx : Hp → Prop), Sub W.g H → A a x W u → H a = some u → RepL K W ds vs → app ds x = some x' → (∀ u', A a x' W u' → Nx (upd H a u')) → fin a vs H Nx
theorem compG_core {A : Addr → α → Wd → HO → Prop} {app : List D → α → Option α} {fin : Addr → List V → Hp → (Hp → Prop) → Prop} {o0 : Addr → HO} {a0 : α} (co : Collects K A app fin o0 a0)
    {J : It} {Gp : Hp → Prop} {Y : Nat → Hp → V → Hp → Prop} {ds : List D} {g : TG} {tt : TT} {ta : TA} {vs : List Nat} {st : D → RE → Option RE} {mt : RE → Out (Bool × RE)} {ma : RE → Out (List D × RE)} {Dn : Addr} {Qd : Hp → Prop}
    (hgv : GV g vs) (hg : GS K E g st) (ht : SndT K E tt mt) (he : SndA K E ta ma) (R1 : RR K c σ H W r) (wk : Walk J ds.length Gp Y)
    (hG : ∀ (σ2 : L2.St) (H2 : Hp) (W2 : Wd) (r2 : RE), RR K c σ2 H2 W2 r2 → Le W W2 → Gp H2) (hY : Yields K W ds Y)
    (hDn : H Dn = none) (w : Wp (mCompG (wipeL r.s vs) st mt ma app ds r.st a0) (fun q => ∀ H' W', RR K c σ H' W' ⟨r.s, q.2⟩ → Le W W' → FreshA A c H' W' q.1 Dn → Qd H') (XP K c E)) :
    ∃ Wt : Nat → Nat → Hp → Prop, (∃ m, Wt 0 m (upd H Dn (o0 Dn))) ∧ ∀ i m H, Wt i m H →
      (J.stop i H ∧ Qd H) ∨ (J.go i H ∧ ∃ Nx : Hp → Prop, (∀ H', Nx H' → ∃ m', m' < m ∧ Wt (i + 1) m' H') ∧ ∀ x H', J.yld i H x H' → turnG g tt ta (fin Dn) vs σ Nx x H') := by
  have heD : c.He Dn = none := R1.heNone hDn
  have hbD : Dn ∉ W.b := fun z => R1.there z hDn
  have hlD : ∀ q ∈ c.lk, q.1 ≠ Dn := fun q hq z => by have := R1.lk q hq; rw [z, hDn] at this; cases this
  refine it_gen wk (fun i H2 => ∃ W2 so acc av, RR K c (L2.wipe σ vs) H2 W2 ⟨wipeL r.s vs, so⟩ ∧ Le W W2 ∧ H2 Dn = some av ∧ W2.g Dn = none ∧ Dn ∉ W2.b ∧ A Dn acc W2 av ∧
    Wp (mCompG (wipeL r.s vs) st mt ma app (ds.drop i) so acc) (fun q => ∀ H' W', RR K c σ H' W' ⟨r.s, q.2⟩ → Le W W' → FreshA A c H' W' q.1 Dn → Qd H') (XP K c E)) ?_ ?_ ?_ ?_
  · refine ⟨W, r.st, a0, o0 Dn, RR.other (R1.wipe vs) (R1.gh.no hDn) heD hbD hlD, Le.refl W, upd_same, R1.gh.no hDn, hbD, co.zero Dn W, ?_⟩
    rw [List.drop_zero]
    exact w
  · rintro i H2 hin ⟨W2, so, acc, av, R2, s2, _⟩
    exact hG _ H2 W2 _ R2 s2
  · rintro i x H2 H3 hlt ⟨W2, so, acc, av, R2, s2, hD, hGD, hbD2, hacc, q2⟩ y
    obtain ⟨W3, d, x3, e3, h3⟩ := hY i H2 W2 x H3 R2.gh s2 hlt y
    have R3 := R2.ext x3
    have hD3 : H3 Dn = some av := x3.keep _ _ hD
    have hb3 : Dn ∉ W3.b := by rw [x3.bb]; exact hbD2
    have hGD3 : W3.g Dn = none := by
      cases q : W3.g Dn with
      | none => rfl
      | some u =>
        rcases x3.new Dn u q with z | z
        · exact absurd hGD z
        · rw [hD] at z; cases z
    have ed : ds.drop i = d :: ds.drop (i + 1) := by
      obtain ⟨hi', he⟩ := List.getElem?_eq_some_iff.mp e3
      rw [← he]
      exact List.drop_eq_getElem_cons hi'
    rw [ed] at q2
    simp only [mCompG] at q2
    cases e4 : st d ⟨wipeL r.s vs, so⟩ with
    | none => simp only [e4] at q2; exact q2.elim
    | some r3 =>
      simp only [e4] at q2
      have RE3 := R3.enter
      refine hgv x (L2.wipe σ vs) H3 (fun σ2 H' => H' = H3 ∧ RR K (nest c H3 W3) σ2 H3 W3 r3) _ (fun σ2 H' ⟨eH, R4⟩ eσ => ?_) (hg _ x d _ H3 W3 _ r3 _ RE3 h3 e4 fun σ2 R4 => ⟨rfl, R4⟩)
      subst eH
      have eσ' : L2.wipe σ2 vs = L2.wipe σ vs := eσ.trans (wipe_wipe vs σ)
      refine ⟨eσ', ?_⟩
      refine ht _ σ2 H' W3 r3 _ R4 ((Wp.bnd q2).mono (fun p2 q3 H4 W4 R5 s4 => ?_) fun x st hx => XP.nest R3 hx)
      have wipeBack : ∀ {H5 : Hp} {W5 : Wd} {r5 : RE}, RR K (nest c H' W3) σ2 H5 W5 r5 → RR K c (L2.wipe σ vs) H5 W5 ⟨wipeL r.s vs, r5.st⟩ ∧ H5 Dn = some av ∧ W5.g Dn = none ∧ Dn ∉ W5.b := fun {H5 W5 r5} R6 => by
        have R7 := RR.leave R3 R6
        have R8 := RR.old R2 (x3.sub.trans R6.g0) R7
        obtain ⟨k3, _⟩ := R6.ke Dn _ hD3
        refine ⟨R8, (k3 hb3).2 hGD3, ?_, fun z => ?_⟩
        · cases q : W5.g Dn with
          | none => rfl
          | some u =>
            rcases R6.gr Dn u q with z | z
            · exact absurd hGD3 z
            · have z' : H' Dn = none := z
              rw [hD3] at z'; cases z'
        · rcases (R6.cg Dn z).2 with y | y
          · exact hb3 y
          · have y' : H' Dn = none := y
            rw [hD3] at y'; cases y'
      by_cases hb : p2.1 = true
      · rw [if_pos hb] at q3 ⊢
        refine he _ σ2 H4 W4 p2.2 _ R5 ((Wp.bnd q3).mono (fun p3 q4 us H5 W5 R6 s5 h5 => ?_) fun x st hx => XP.nest R3 hx)
        obtain ⟨R8, hD5, hG5, hB5⟩ := wipeBack R6
        have le5 : Le W2 W5 := (x3.sub.trans s4).trans s5
        split at q4
        · rename_i acc' ea
          exact co.put Dn acc acc' p3.1 us W5 H5 av _ R8.gh (co.mono _ _ _ _ _ le5 hacc) hD5 h5 ea fun u' hA => ⟨W5, p3.2.st, acc', u', RR.other R8 hG5 heD hB5 hlD, s2.trans le5, upd_same, hG5, hB5, hA, q4⟩
        · exact q4.elim
      · rw [if_neg hb] at q3 ⊢
        obtain ⟨R8, hD5, hG5, hB5⟩ := wipeBack R5
        exact ⟨W4, p2.2.st, acc, av, R8, (s2.trans x3.sub).trans s4, hD5, hG5, hB5, co.mono _ _ _ _ _ (x3.sub.trans s4) hacc, q3⟩
  · rintro H2 ⟨W2, so, acc, av, R2, s2, hD, hGD, hB, hacc, q2⟩
    rw [List.drop_length] at q2
    exact q2 H2 W2 (RR.old R1 s2 R2) s2 ⟨hGD, heD, hB, av, hD, hacc⟩
@[simp] def mCG (vs : List Nat) (mi : RE → Out (List D × RE)) (st : D → RE → Option RE) (mt : RE → Out (Bool × RE)) (ma : RE → Out (List D × RE)) (app : List D → α → Option α) (a0 : α) : RE → Out (α × RE) := fun r => (mi r).bnd fun p => (mCompG (wipeL p.2.s vs) st mt ma app p.1 p.2.st a0).bnd fun q => .ok (q.1, ⟨p.2.s, q.2⟩)
theorem sndg_comp {A : Addr → α → Wd → HO → Prop} {app : List D → α → Option α} {fin : Addr → List V → Hp → (Hp → Prop) → Prop} {o0 : Addr → HO} {a0 : α} (co : Collects K A app fin o0 a0) {wi : TI} {g : TG} {tt : TT} {ta : TA} {vs : List Nat} {mi : RE → Out (List D × RE)} {st : D → RE → Option RE} {mt : RE → Out (Bool × RE)} {ma : RE → Out (List D × RE)}
    (hgv : GV g vs) (hi : SndI K E wi mi) (hg : GS K E g st) (ht : SndT K E tt mt) (he : SndA K E ta ma) : SndG K E A (tCG wi g tt ta fin o0 vs) (mCG vs mi st mt ma app a0) := fun c σ H W r Q R w => by
  refine hi c σ H W r _ R ((Wp.bnd w).mono (fun p q J H1 W1 Gp Y R1 s1 wk hG hY => ?_) fun _ _ x => x)
  obtain ⟨ds, r1⟩ := p
  intro Dn hDn
  exact compG_core co (Qd := fun H' => Q (.ref Dn) H') hgv hg ht he R1 wk hG hY hDn ((Wp.bnd q).mono (fun q2 h2 H' W' R' s' f => h2 Dn H' W' R' (s1.trans s') f) fun _ _ x => x)
@[simp] def mCGW (items : D → Option (List D)) (vs : List Nat) (m : RE → Out (D × RE)) (st : D → RE → Option RE) (mt : RE → Out (Bool × RE)) (ma : RE → Out (List D × RE)) (app : List D → α → Option α) (a0 : α) : RE → Out (α × RE) := fun r => (m r).bnd fun p => match mWalked items p.2 p.1 with
  | some (ds, r', none) => (mCompG (wipeL r'.s vs) st mt ma app ds r'.st a0).bnd fun q => .ok (q.1, ⟨r'.s, q.2⟩)
  | some (ds, r', some (k, e)) => (mCompG (wipeL r'.s vs) st mt ma app ds r'.st a0).bnd fun q => .ok (q.1, ⟨r'.s, q.2.set k e⟩)
  | none => .stuck
theorem sndg_compW {A : Addr → α → Wd → HO → Prop} {app : List D → α → Option α} {fin : Addr → List V → Hp → (Hp → Prop) → Prop} {o0 : Addr → HO} {a0 : α} (co : Collects K A app fin o0 a0) {wi : TE → TI} {items : D → Option (List D)} {ti : TE} {m : RE → Out (D × RE)} {g : TG} {tt : TT} {ta : TA} {vs : List Nat} {st : D → RE → Option RE} {mt : RE → Out (Bool × RE)} {ma : RE → Out (List D × RE)} (wk : WK K wi items) (hp : SndPath K ti m) (nx : ∀ r x s, m r ≠ .exc x s)
    (hgv : GV g vs) (hg : GS K E g st) (ht : SndT K E tt mt) (he : SndA K E ta ma) : SndG K E A (tOrE (tLockE (tCG (wi ti) g tt ta fin o0 vs)) (tCG (wi ti) g tt ta fin o0 vs)) (mCGW items vs m st mt ma app a0) := fun c σ H W r Q R w => by
  unfold mCGW at w
  cases e : m r with
  | exc x s0 => exact absurd e (nx _ _ _)
  | stuck => rw [e] at w; exact w.elim
  | ok p =>
    obtain ⟨d, r0⟩ := p
    rw [e, bnd_ok] at w
    cases ew : mWalked items r0 d with
    | none => simp only [ew] at w; exact w.elim
    | some t =>
      obtain ⟨ds, r1, o⟩ := t
      have hw := how wk hp R e ew
      have q : Wp (mCompG (wipeL r1.s vs) st mt ma app ds r1.st a0) (fun q => ∀ a H' W', RR K c σ H' W' (freeR o ⟨r1.s, q.2⟩) → Le W W' → FreshA A c H' W' q.1 a → Q (.ref a) H') (XP K c E) := by
        cases o with
        | none => simp only [ew] at w; exact (Wp.bnd w).mono (fun f z => z) fun _ _ x => x
        | some p =>
          obtain ⟨k, d0⟩ := p
          simp only [ew] at w
          exact (Wp.bnd w).mono (fun f z => z) fun _ _ x => x
      cases hw with
      | plain R1 hc hx go w1 hG hY =>
        refine .inr (go _ fun Dn hDn => ?_)
        exact compG_core co (Qd := fun H' => Q (.ref Dn) H') hgv hg ht he R1 w1 hG hY hDn (q.mono (fun q2 z H' W' R2 s2 f => z Dn H' W' (hc R2) s2 ⟨f.g, R.heNone hDn, f.n, f.o⟩) fun _ _ x => hx x)
      | lock hH mu go back =>
        refine .inl ⟨_, _, hH, mu, fun od => ?_⟩
        obtain ⟨J, Gp, Y, R1, hx, go', w1, hG, hY⟩ := go od
        refine go' _ fun Dn hDn => ?_
        refine compG_core co (Qd := fun H' => H' _ = some (.frz od _) ∧ Q (.ref Dn) (upd H' _ _)) hgv hg ht he R1 w1 hG hY hDn (q.mono (fun q2 z H' W' R2 s2 f => ?_) fun _ _ x => hx x)
        obtain ⟨b1, b2⟩ := back od R2 s2
        obtain ⟨u, fu, fA⟩ := f.o
        refine ⟨b1, z Dn _ W' (by cases o <;> exact b2) s2 ⟨f.g, f.e, f.n, u, ?_, fA⟩⟩
        rw [upd_ne]
        · exact fu
        · intro y
          rw [y, upd_same] at hDn
          cases hDn
/-! ### dicts -/
def aDic (K : PySem.W.Frag) : Addr → List (Key × D) → Wd → HO → Prop := fun _ kvs W u => ∃ us, u = .dK us ∧ RepK K W kvs us
@[simp] def appD : List D → List (Key × D) → Option (List (Key × D))
  | [k, v], acc => if acc.length < 1000000 then (keyD k).map fun key => putD acc key v else none
  | _, _ => none
def finD (Dn : Addr) : List V → Hp → (Hp → Prop) → Prop
  | [y, z], H5, Nx => ∃ kvs k, y = kV k ∧ H5 Dn = some (.dK kvs) ∧ kvs.length < sizeLine ∧ Nx (upd H5 Dn (.dK (putK kvs k z)))
  | _, _, _ => False
theorem collects_dic : Collects K (aDic K) appD finD (fun _ => .dK []) [] where
  mono := fun a x W W' u s h => let ⟨us, e, q⟩ := h; ⟨us, e, q.mono s⟩
  zero := fun a W => ⟨[], rfl, by simp only [RepK]⟩
  put := fun a x x' ds vs W H u Nx s h hH hl e k => by
    obtain ⟨us, rfl, hr⟩ := h
    unfold appD at e
    split at e
    · rename_i dk dv
      split at e
      · rename_i hz
        obtain ⟨key, ek, rfl⟩ := Option.map_eq_some_iff.mp e
        simp only [RepL] at hl
        obtain ⟨y, r1, rfl, hy, z, r2, rfl, hz', rfl⟩ := hl
        have hkey := keyD_rep ek hy
        subst hkey
        exact ⟨us, key, rfl, hH, lim_lt (by rw [← repK_len hr]; exact hz), k _ ⟨_, rfl, repK_put hz' hr⟩⟩
      · cases e
    · cases e
theorem sndf_of_g {te : TE} {m : RE → Out (List (Key × D) × RE)} (h : SndG K E (aDic K) te m) : SndF K E te (fun r => (m r).bnd fun p => .ok (.dic p.1, p.2)) := fun c σ H W r Q R w => by
  refine h c σ H W r Q R ((Wp.bnd w).mono (fun p q a H' W' R' s f => ?_) fun _ _ x => x)
  obtain ⟨u, fu, us, rfl, fr⟩ := f.o
  exact q a H' W' R' s ⟨f.g, f.e, f.n, ⟨a, us, rfl, fu, fr⟩⟩
end
end Mir

set_option maxHeartbeats 4000000
namespace Mir
open PySem PySem.W PySem.Spec PyProof.Rows L2
/-! ## sets of keys, for the while of an expression -/
section
variable {K : PySem.W.Frag} {E : XK} {c : Fm} {σ σ' : L2.St} {H H' : Hp} {W W' : Wd} {r r' : RE} {w : World}
def aKs (w : World) : Addr → List Key → Wd → HO → Prop := fun a ks _ u => u = KS.KO w a (KS.hasK ks) (KS.dedupK ks).length
@[simp] def appK : List D → List Key → Option (List Key)
  | [d], ks => if ks.length < 4000 then (keyD d).map fun k => k :: ks else none
  | _, _ => none
def finK (w : World) (Dn : Addr) : List V → Hp → (Hp → Prop) → Prop
  | [y], H4, Nx => ∃ (k : Key) (S : Key → Bool) (n : Nat), y = kV k ∧ H4 Dn = some (KS.KO w Dn S n) ∧ n + 1 < scanBound ∧ Nx (upd H4 Dn (KS.plusK w Dn k S n))
  | _, _, _ => False
theorem plus_cons {a : Addr} {k : Key} {ks : List Key} : KS.plusK w a k (KS.hasK ks) (KS.dedupK ks).length = KS.KO w a (KS.hasK (k :: ks)) (KS.dedupK (k :: ks)).length := by
  unfold KS.plusK
  have h1 : (fun j => KS.hasK ks j || decide (j = k)) = KS.hasK (k :: ks) := by
    funext j
    show (KS.hasK ks j || decide (j = k)) = (decide (k = j) || KS.hasK ks j)
    rw [Bool.or_comm]
    congr 1
    by_cases h : j = k
    · rw [decide_eq_true h, decide_eq_true h.symm]
    · rw [decide_eq_false h, decide_eq_false (fun z => h z.symm)]
  have h2 : (if KS.hasK ks k = true then (KS.dedupK ks).length else (KS.dedupK ks).length + 1) = (KS.dedupK (k :: ks)).length := by
    show _ = (if KS.hasK ks k = true then KS.dedupK ks else k :: KS.dedupK ks).length
    split <;> rfl
  rw [h1, h2]
theorem collects_set : Collects K (aKs w) appK (finK w) (fun a => KS.KO w a (fun _ => false) 0) [] where
  mono := fun a x W W' u s h => h
  zero := fun a W => rfl
  put := fun a x x' ds vs W H u Nx s h hH hl e k => by
    unfold appK at e
    split at e
    · rename_i d
      split at e
      · rename_i hz
        obtain ⟨key, ek, rfl⟩ := Option.map_eq_some_iff.mp e
        simp only [RepL] at hl
        obtain ⟨y, r1, rfl, hy, rfl⟩ := hl
        have hkey := keyD_rep ek hy
        subst hkey
        have hu : u = KS.KO w a (KS.hasK x) (KS.dedupK x).length := h
        rw [hu] at hH
        exact ⟨key, _, _, rfl, hH, by have := KS.dedup_le (ks := x); show _ < 4096; omega, k _ plus_cons⟩
      · cases e
    · cases e
theorem sndg_setOf {te : TE} {m : RE → Out (D × RE)} (h : Snd K E te m) : SndG K E (aKs w) (tCB (KS.rSetOf K w) (tCons te tNil)) (fun r => (m r).bnd fun p => match (dr p.2.st p.1).bind seqI with
    | some ds => match keysD ds with
      | some ks => if ks.length < 4000 then .ok (ks, p.2) else .stuck
      | none => .stuck
    | none => .stuck) := fun c σ H W r Q R ww => by
  refine h c σ H W r _ R ((Wp.bnd ww).mono (fun p q v H1 W1 R1 s1 h1 => ?_) fun _ _ x => x)
  split at q
  · rename_i ds e0
    split at q
    · rename_i ks ek
      split at q
      · rename_i hz
        obtain ⟨d, ed, es⟩ := Option.bind_eq_some_iff.mp e0
        have t := h1.at R1 ed
        have key : ∃ a us, v = .ref a ∧ (SqL K H1 a us ∨ SqT K H1 a us) ∧ RepL K W1 ds us := by
          cases d <;> simp only [seqI, reduceCtorEq, Option.some.injEq] at es <;> subst es
          · obtain ⟨a, us, e, q1, q2⟩ := t; exact ⟨a, us, e, .inr (SqT.of (R1.gh.tup q1)), q2⟩
          · obtain ⟨a, us, e, q1, q2⟩ := t; exact ⟨a, us, e, .inl (SqL.of q1), q2⟩
          · obtain ⟨a, us, e, q1, q2⟩ := t; exact ⟨a, us, e, .inl q1, q2⟩
        obtain ⟨a, us, rfl, hs, hl⟩ := key
        have hks := keysD_rep ek hl
        subst hks
        refine ⟨a, ks, rfl, hs, by show _ < 4096; omega, fun pn hp => ?_⟩
        exact q pn _ W1 (R1.ext (Ext.alloc0 R1.gh hp)) s1 ⟨R1.gh.no hp, R1.heNone hp, fun z => R1.there z hp, _, upd_same, rfl⟩
      · exact q.elim
    · exact q.elim
  · exact q.elim
theorem repL_ofK {W : Wd} (ks : List Key) : RepL K W (ks.map ofKey) (ks.map kV) := repL_ofKeys
@[simp] def mSortK (m : RE → Out (List Key × RE)) : RE → Out (D × RE) := fun r => (m r).bnd fun p => if KS.hom p.1 = true then .ok (.lst ((KS.sortK (KS.dedupK p.1)).map ofKey), p.2) else .stuck
theorem sndf_sortK {te : TE} {m : RE → Out (List Key × RE)} (h : SndG K E (aKs w) te m) : SndF K E (tCB (KS.rSortK w) (tCons te tNil)) (mSortK m) := fun c σ H W r Q R ww => by
  refine h c σ H W r _ R ((Wp.bnd ww).mono (fun p q a H1 W1 R1 s1 f => ?_) fun _ _ x => x)
  split at q
  · rename_i hh
    obtain ⟨u, hu, e⟩ := f.o
    cases e
    refine ⟨a, p.1, _, rfl, hu, hh, fun pn hp => ?_⟩
    obtain ⟨R2, f2⟩ := R1.fresh (d := .lst ((KS.sortK (KS.dedupK p.1)).map ofKey)) hp ⟨pn, _, rfl, upd_same, repL_ofK _⟩
    exact q pn _ W1 R2 s1 f2
  · exact q.elim
@[simp] def mLenK (m : RE → Out (List Key × RE)) : RE → Out (D × RE) := fun r => (m r).bnd fun p => .ok (.int (KS.dedupK p.1).length, p.2)
theorem snd_lenK {te : TE} {m : RE → Out (List Key × RE)} (h : SndG K E (aKs w) te m) : Snd K E (tCB (KS.rLenK w) (tCons te tNil)) (mLenK m) := fun c σ H W r Q R ww => by
  refine h c σ H W r _ R ((Wp.bnd ww).mono (fun p q a H1 W1 R1 s1 f => ?_) fun _ _ x => x)
  obtain ⟨u, hu, e⟩ := f.o
  cases e
  exact ⟨a, _, _, rfl, hu, q _ H1 W1 R1 s1 repD_int⟩
end
/-! ## sorted, of a list of alike data -/
section
variable {X : Cx}
def rSortD (K : PySem.W.Frag) : List V → Hp → VK → Prop := fun xs H Q => ∃ (a : Addr) (bs : List (V × PyData)), xs = [.ref a] ∧ SqL K H a (bs.map (·.1)) ∧ (∀ b ∈ bs, Dp K H b.1 b.2) ∧ AllAlike (bs.map (·.2)) ∧ Sortable (bs.map (·.2)) ∧ (∀ b ∈ bs, b.2.depth ≤ 60) ∧
  ∀ p, H p = none → Q (.ref p) (upd H p (.lst ((bs.mergeSort (dataLe false Prod.snd)).map (·.1))))
theorem each_of {bs : List (V × PyData)} : ∀ {its : List Value}, Vals (bs.map (·.1)) its → EachIs (fun v b => RelV b.1 v) its bs := by
  induction bs with
  | nil => intro its h; cases h; exact .nil
  | cons b bs ih => intro its h; cases h with | cons h t => exact .cons h (ih t)
theorem vals_of {bs : List (V × PyData)} : ∀ {its : List Value}, EachIs (fun v (b : V × PyData) => RelV b.1 v) its bs → Vals (bs.map (·.1)) its := by
  induction bs with
  | nil => intro its h; cases h; exact .nil
  | cons b bs ih => intro its h; cases h with | cons h t => exact .cons h (ih t)
theorem each_reads {pins : List (Addr × Obj)} {σ : L2.St} {H : Hp} {s : Shared} (I : Inv X pins σ H s) {bs : List (V × PyData)} : ∀ {its : List Value}, EachIs (fun v (b : V × PyData) => RelV b.1 v) its bs → (∀ b ∈ bs, Dp X.K H b.1 b.2) → EachIs (fun v b => ∃ as, Reads s.heap v (Prod.snd b) as) its bs := by
  induction bs with
  | nil => intro its h _; cases h; exact .nil
  | cons b bs ih => intro its h k; cases h with | cons h t => exact .cons (Dp.reads I b.2 b.1 _ (k b List.mem_cons_self) h) (ih t fun b' hb => k b' (List.mem_cons_of_mem _ hb))
theorem cr_sortD (hu : X.A.units + 65 < cLine) : CallR X (.builtin "sorted") (rSortD X.K) := by
  intro pins s σ H xs us Q I r h
  obtain ⟨a, bs, rfl, hs, hd, hal, hso, hdep, q⟩ := h
  obtain ⟨its, rv, hl, hz⟩ := I.list hs
  rw [Vals.ref1 r]
  have e := each_of rv
  have hbl : bs.length ≤ sizeLine := by rw [List.length_map] at hz; exact hz
  refine sorted_data (R := fun v b => RelV b.1 v) (enc := Prod.snd) hl.isList e (each_reads I e hd) hal hso hbl (fun b hb => by have := hdep b hb; omega) fun out ho eo => ?_
  obtain ⟨ep, he'⟩ := PyProof.Rows.sortedAll_at s.heap its.toArray.toList out.toArray
  have hlen : ((bs.mergeSort (dataLe false Prod.snd)).map (·.1)).length ≤ sizeLine := by rw [List.length_map, List.length_mergeSort]; exact hbl
  exact ⟨.ref _, upd H (s.heap.objs.size + 1) (.lst ((bs.mergeSort (dataLe false Prod.snd)).map (·.1))), I.laid (t' := s.toks) (fun _ _ => PyProof.Rows.sortedAll_old) (Nat.le_succ _) ⟨hlen, out, ep, vals_of eo, by simpa using he'⟩, rfl, q _ (I.hok.fresh (Nat.le_succ _))⟩
end
def leD (a b : D) : Bool := dataLe false toP a b
def sortOk (ds : List D) : Bool := (toPs ds).all (fun p => p.canLay0 && decide (p.depth ≤ 60)) && (toPs ds).all (fun p => (toPs ds).all fun q => alike p q) &&
  ((toPs ds).all (fun p => match p with | .tuple (_ :: _) => true | _ => false) || (toPs ds).all (fun p => match p with | .none => false | .tuple _ => false | _ => true))
@[simp] def dSort : D → Out D
  | .lst ds => if sortOk ds = true then .ok (.lst (ds.mergeSort leD)) else .stuck
  | .frl ds => if sortOk ds = true then .ok (.lst (ds.mergeSort leD)) else .stuck
  | _ => .stuck
theorem nx_sort : NoX1 dSort := fun a x st h => by cases a <;> simp only [dSort, reduceCtorEq] at h <;> split at h <;> cases h
section
variable {K : PySem.W.Frag}
theorem toPs_map : ∀ (ds : List D), toPs ds = ds.map toP
  | [] => rfl
  | d :: ds => by simp only [toPs, List.map_cons, toPs_map ds]
theorem repL_zip {W : Wd} : ∀ {ds : List D} {vs : List V}, RepL K W ds vs → ∃ cs : List (D × V), ds = cs.map (·.1) ∧ vs = cs.map (·.2) ∧ ∀ c ∈ cs, RepD K W c.1 c.2
  | [], vs, h => by simp only [RepL] at h; subst h; exact ⟨[], rfl, rfl, fun c z => absurd z (by simp)⟩
  | d :: ds, vs, h => by
    simp only [RepL] at h
    obtain ⟨v, us, rfl, hd, hl⟩ := h
    obtain ⟨cs, rfl, rfl, k⟩ := repL_zip hl
    exact ⟨(d, v) :: cs, rfl, rfl, fun c z => (List.mem_cons.mp z).elim (fun e => e ▸ hd) (k c)⟩
theorem repL_unzip {W : Wd} : ∀ {cs : List (D × V)}, (∀ c ∈ cs, RepD K W c.1 c.2) → RepL K W (cs.map (·.1)) (cs.map (·.2))
  | [], _ => by simp only [List.map_nil, RepL]
  | c :: cs, h => by
    simp only [List.map_cons, RepL]
    exact ⟨_, _, rfl, h c List.mem_cons_self, repL_unzip fun c' z => h c' (List.mem_cons_of_mem _ z)⟩
theorem callf_sort : CallF K (rSortD K) (d1 dSort) := callf_1 fun x H W dx Q s h1 d hd k => by
  have main : ∀ ds a us, x = .ref a → SqL K H a us → RepL K W ds us → (if sortOk ds = true then Out.ok (.lst (ds.mergeSort leD)) else .stuck) = Out.ok d → rSortD K [x] H Q := fun ds a us ex hs hl hd => by
    subst ex
    split at hd
    · rename_i hso
      cases hd
      obtain ⟨cs, rfl, rfl, hc⟩ := repL_zip hl
      unfold sortOk at hso
      simp only [Bool.and_eq_true, toPs_map, List.map_map] at hso
      obtain ⟨⟨h1, h2⟩, h3⟩ := hso
      have lay : ∀ c ∈ cs, (toP c.1).canLay0 = true ∧ (toP c.1).depth ≤ 60 := fun c hc' => by
        have := List.all_eq_true.mp h1 (toP c.1) (List.mem_map.mpr ⟨c, hc', rfl⟩)
        simpa only [Bool.and_eq_true, decide_eq_true_eq] using this
      let bs : List (V × PyData) := cs.map fun c => (c.2, toP c.1)
      have m1 : bs.map (·.1) = cs.map (·.2) := by rw [List.map_map]; rfl
      have m2 : bs.map (·.2) = cs.map fun c => toP c.1 := by rw [List.map_map]; rfl
      have srt : (cs.mergeSort fun c c' => leD c.1 c'.1).map (·.1) = (cs.map (·.1)).mergeSort leD := List.map_mergeSort fun _ _ _ _ => rfl
      have srt2 : (cs.mergeSort fun c c' => leD c.1 c'.1).map (fun c => (c.2, toP c.1)) = bs.mergeSort (dataLe false Prod.snd) := List.map_mergeSort fun _ _ _ _ => rfl
      have srt3 : (bs.mergeSort (dataLe false Prod.snd)).map (·.1) = (cs.mergeSort fun c c' => leD c.1 c'.1).map (·.2) := by rw [← srt2, List.map_map]; rfl
      refine ⟨a, bs, rfl, by rw [m1]; exact hs, ?_, ?_, ?_, ?_, fun p hp => ?_⟩
      · intro b hb
        obtain ⟨c, hc', rfl⟩ := List.mem_map.mp hb
        have := toP_rep (lay c hc').1 (hc c hc')
        have q : RepD K ⟨H, W.b⟩ c.1 c.2 := RepT.flat s (lay c hc').1 (RepT.of s (hc c hc'))
        exact toP_rep (W := ⟨H, W.b⟩) (lay c hc').1 q
      · rw [m2]
        intro p hp p' hp'
        obtain ⟨c, hc', rfl⟩ := List.mem_map.mp hp
        obtain ⟨c', hc'', rfl⟩ := List.mem_map.mp hp'
        exact List.all_eq_true.mp (List.all_eq_true.mp h2 (toP c.1) (List.mem_map.mpr ⟨c, hc', rfl⟩)) (toP c'.1) (List.mem_map.mpr ⟨c', hc'', rfl⟩)
      · rw [m2]
        rcases (Bool.or_eq_true _ _).mp h3 with z | z
        · refine .inl fun p hp => ?_
          obtain ⟨c, hc', rfl⟩ := List.mem_map.mp hp
          have := List.all_eq_true.mp z (toP c.1) (List.mem_map.mpr ⟨c, hc', rfl⟩)
          split at this
          · rename_i x r e; exact ⟨x, r, e⟩
          · cases this
        · refine .inr fun p hp => ?_
          obtain ⟨c, hc', rfl⟩ := List.mem_map.mp hp
          have := List.all_eq_true.mp z (toP c.1) (List.mem_map.mpr ⟨c, hc', rfl⟩)
          constructor
          · intro e; rw [e] at this; cases this
          · intro xs e; rw [e] at this; cases this
      · intro b hb
        obtain ⟨c, hc', rfl⟩ := List.mem_map.mp hb
        exact (lay c hc').2
      · rw [srt3]
        refine k p _ hp ?_
        rw [← srt]
        exact ⟨p, _, rfl, upd_same, repL_unzip fun c hc' => hc c ((List.mergeSort_perm cs _).mem_iff.mp hc')⟩
    · cases hd
  cases dx <;> simp only [dSort, reduceCtorEq] at hd
  · obtain ⟨a, us, e, q1, q2⟩ := h1; exact main _ a us e (SqL.of q1) q2 hd
  · obtain ⟨a, us, e, q1, q2⟩ := h1; exact main _ a us e q1 q2 hd
end
end Mir

set_option maxHeartbeats 4000000
namespace Mir
open PySem PySem.Spec PyProof.Rows L2
/-! ## more ways of walking -/
section
variable {K : PySem.W.Frag} {E : XK} {c : Fm} {σ σ' : L2.St} {H H' : Hp} {W W' : Wd} {r r' : RE}
def iOr (v w : TE → TI) : TE → TI := fun te σ H R => v te σ H R ∨ w te σ H R
@[simp] def orI (f g : D → Option (List D)) : D → Option (List D) := fun d => match f d with
  | some ds => some ds
  | none => g d
theorem WK.or {v w : TE → TI} {f g : D → Option (List D)} (h : WK K v f) (k : WK K w g) : WK K (iOr v w) (orI f g) where
  ni := fun C fs z => by
    have h1 := h.ni C fs
    have h2 := k.ni C fs
    simp only [orI] at z
    cases e : f (.ins C fs) with
    | some ds => exact h1 (by rw [e]; simp)
    | none => rw [e] at z; exact h2 z
  lk := fun d ds W u a od hi hf => by
    simp only [orI] at hi
    cases e : f d with
    | some ds' =>
      rw [e] at hi
      cases hi
      obtain ⟨J, Y, go, w1, hY⟩ := h.lk d ds W u a od e hf
      exact ⟨J, Y, fun te σ H R q1 q2 q3 => .inl (go te σ H R q1 q2 q3), w1, hY⟩
    | none =>
      rw [e] at hi
      obtain ⟨J, Y, go, w1, hY⟩ := k.lk d ds W u a od hi hf
      exact ⟨J, Y, fun te σ H R q1 q2 q3 => .inr (go te σ H R q1 q2 q3), w1, hY⟩
  fz := fun d ds W v hi hv => by
    simp only [orI] at hi
    cases e : f d with
    | some ds' =>
      rw [e] at hi
      cases hi
      rcases h.fz d ds W v e hv with q | ⟨J, Gp, Y, go, w1, hG, hY⟩
      · exact .inl q
      · exact .inr ⟨J, Gp, Y, fun te σ H R q1 q2 q3 => .inl (go te σ H R q1 q2 q3), w1, hG, hY⟩
    | none =>
      rw [e] at hi
      rcases k.fz d ds W v hi hv with q | ⟨J, Gp, Y, go, w1, hG, hY⟩
      · exact .inl q
      · exact .inr ⟨J, Gp, Y, fun te σ H R q1 q2 q3 => .inr (go te σ H R q1 q2 q3), w1, hG, hY⟩
/-- enumerate(list or tuple) -/
@[simp] def enumI : D → Option (List D) := fun d => (seqI d).map (enumD 0)
def iEnumS (K : PySem.W.Frag) (te : TE) : TI := fun σ H R => iEnum K (tCons te tNil) σ H R ∨ ET.iEnumT K (tCons te tNil) σ H R
theorem yields_enum {ds : List D} {vs : List V} (hl : RepL K W ds vs) : Yields K W (enumD 0 ds) (fun i H v H' => ∃ T x, v = .ref T ∧ H T = none ∧ H' = upd H T (.tup [.int (i : Nat), x]) ∧ vs[i]? = some x) := by
  rintro i H2 W2 x H3 s1 s2 hi ⟨T, y, rfl, hT, rfl, hy⟩
  obtain ⟨d, e, hd⟩ := repL_get hl hy
  obtain ⟨W3, ex, h3⟩ := pair_new (K := K) s1 hT (repD_int (i := ((i : Nat) : Int))) (hd.mono s2)
  exact ⟨W3, _, ex, by rw [enumD_get e, Nat.zero_add], h3⟩
theorem walk_enumL {a : Addr} {xs : List V} : Walk (Ite K a) xs.length (fun H => SqL K H a xs) (fun i H v H' => ∃ T x, v = .ref T ∧ H T = none ∧ H' = upd H T (.tup [.int (i : Nat), x]) ∧ xs[i]? = some x) :=
  ⟨fun i _ hi q => ⟨xs, xs[i], q, by simp [hi]⟩, fun _ q => ⟨xs, q, Nat.le_refl _⟩, fun _ _ _ _ _ q ⟨T, x, h1, h2, h3, h4⟩ => ⟨T, x, h1, h2, h3, h4 xs q⟩⟩
theorem walk_enumT {a : Addr} {xs : List V} : Walk (ET.ItT K a) xs.length (fun H => SqT K H a xs) (fun i H v H' => ∃ T x, v = .ref T ∧ H T = none ∧ H' = upd H T (.tup [.int (i : Nat), x]) ∧ xs[i]? = some x) :=
  ⟨fun i _ hi q => ⟨xs, xs[i], q, by simp [hi]⟩, fun _ q => ⟨xs, q, rfl⟩, fun _ _ _ _ _ q ⟨T, x, h1, h2, h3, h4⟩ => ⟨T, x, h1, h2, h3, h4 xs q⟩⟩
theorem wk_enum : WK K (iEnumS K) enumI where
  ni := fun C fs => by simp
  lk := fun d ds W u a od hi hf => by
    cases d <;> simp only [Fits] at hf <;> simp only [enumI, seqI, reduceCtorEq, Option.map_none, Option.map_some, Option.some.injEq] at hi
    subst hi
    obtain ⟨us, rfl, hl⟩ := hf
    refine ⟨Ite K a, _, fun te σ H R hat hH q => .inl (hat _ ⟨a, us, rfl, .inl (.inr ⟨od, hH⟩), q⟩), ?_, yields_enum hl⟩
    rw [enumD_len, repL_len hl]
    exact Walk.mono walk_enumL fun H z => .inl (.inr ⟨od, z⟩)
  fz := fun d ds W v hi hv => by
    refine .inr ?_
    cases d <;> simp only [enumI, seqI, reduceCtorEq, Option.map_none, Option.map_some, Option.some.injEq] at hi <;> subst hi <;> simp only [RepD] at hv <;> obtain ⟨a, us, rfl, hq, hl⟩ := hv
    · exact ⟨ET.ItT K a, fun H => SqT K H a us, _, fun te σ H R s hat q => .inr (hat _ ⟨a, us, rfl, SqT.of (s.tup hq), q⟩), by rw [enumD_len, repL_len hl]; exact walk_enumT, fun W2 H2 s2 s3 => SqT.of (s3.tup (s2.s.tup hq)), yields_enum hl⟩
    · exact ⟨Ite K a, fun H => SqL K H a us, _, fun te σ H R s hat q => .inl (hat _ ⟨a, us, rfl, SqL.of (s.lst hq), q⟩), by rw [enumD_len, repL_len hl]; exact walk_enumL, fun W2 H2 s2 s3 => SqL.of (s3.lst (s2.s.lst hq)), yields_enum hl⟩
    · exact ⟨Ite K a, fun H => SqL K H a us, _, fun te σ H R s hat q => .inl (hat _ ⟨a, us, rfl, s.sqL hq, q⟩), by rw [enumD_len, repL_len hl]; exact walk_enumL, fun W2 H2 s2 s3 => s3.sqL (s2.s.sqL hq), yields_enum hl⟩
/-- a text, sign by sign -/
@[simp] def strI : D → Option (List D)
  | .str x => some (chars x)
  | _ => none
theorem wk_str : WK K iStr strI where
  ni := fun C fs => by simp
  lk := fun d ds W u a od hi hf => by
    cases d <;> simp only [Fits] at hf <;> cases hi
  fz := fun d ds W v hi hv => by
    refine .inr ?_
    cases d <;> simp only [strI, reduceCtorEq, Option.some.injEq] at hi
    rename_i x
    subst hi
    simp only [RepD] at hv
    subst hv
    refine ⟨Its x, fun _ => True, _, fun te σ H R s hat q => hat _ ⟨x, rfl, q⟩, by unfold chars; rw [List.length_map, Array.length_toList]; exact walk_str, fun _ _ _ _ => trivial, ?_⟩
    rintro i H2 W2 y H3 s1 s2 hi ⟨rfl, c, hc, hy⟩
    refine ⟨W2, .str ⟨#[c]⟩, Ext.refl s1, ?_, by simp only [RepD]; exact hy⟩
    unfold chars
    rw [List.getElem?_map, Array.getElem?_toList, hc]
    rfl
/-- what is walked as it comes: frozen things that are no path -/
@[simp] def asQ : D → Out (List D) := fun d => match seqI d with
  | some ds => .ok ds
  | none => .stuck
theorem sndi_seq {te : TE} {m : RE → Out (D × RE)} (h : Snd K E te m) : SndI K E (iSeq K te) (mItem asQ m) := fun c σ H W r R R0 w => by
  have key : (fun d => seqI d) = seqI := rfl
  cases e : m r with
  | stuck => simp only [mItem, e, bnd_stuck] at w; exact w.elim
  | exc x s0 =>
    refine .inl (h c σ H W r _ R0 ?_)
    rw [e]
    simp only [mItem, e, bnd_exc] at w
    exact w
  | ok p =>
    obtain ⟨d, r'⟩ := p
    simp only [mItem, e, bnd_ok] at w
    cases es : seqI d with
    | none => simp only [asQ, es, bnd_stuck] at w; exact w.elim
    | some ds =>
      simp only [asQ, es, bnd_ok] at w
      have fin : (∃ ds', d = .tup ds') ∨ ∃ ds', d = .lst ds' ∨ d = .frl ds' := by
        cases d <;> simp only [seqI, reduceCtorEq] at es
        · exact .inl ⟨_, rfl⟩
        · exact .inr ⟨_, .inl rfl⟩
        · exact .inr ⟨_, .inr rfl⟩
      rcases fin with ⟨ds', rfl⟩ | ⟨ds', hd⟩
      · cases es
        refine .inr (h c σ H W r _ R0 ?_)
        rw [e]
        intro v H1 W1 R1 s1 h1
        simp only [RepD] at h1
        obtain ⟨a, us, rfl, hq, hl⟩ := h1
        refine ⟨a, rfl, ⟨us, SqT.of (R1.gh.tup hq)⟩, w _ H1 W1 _ _ R1 s1 (by rw [repL_len hl]; exact walk_tup) (fun σ2 H2 W2 r2 R2 s2 => SqT.of (R2.gh.tup (s2.s.tup hq))) (yields_at hl)⟩
      · refine .inl (h c σ H W r _ R0 ?_)
        rw [e]
        intro v H1 W1 R1 s1 h1
        have : ∃ a us, v = .ref a ∧ SqL K W1.g a us ∧ RepL K W1 ds us := by
          rcases hd with rfl | rfl
          · cases es
            simp only [RepD] at h1
            obtain ⟨a, us, e, hq, hl⟩ := h1
            exact ⟨a, us, e, SqL.of hq, hl⟩
          · cases es
            simp only [RepD] at h1
            exact h1
        obtain ⟨a, us, rfl, hq, hl⟩ := this
        exact ⟨a, rfl, ⟨us, R1.gh.sqL hq⟩, w _ H1 W1 _ _ R1 s1 (by rw [repL_len hl]; exact walk_list) (fun σ2 H2 W2 r2 R2 s2 => R2.gh.sqL (s2.s.sqL hq)) (yields_at hl)⟩
end
/-! ## rules of syntax -/
section
variable {X : Cx} {E : XK} {a b c e f : PySem.Expr} {es : List PySem.Expr} {pos p : Pos} {x : Str}
variable {ma mb m oa ob oc mo mk mv : RE → Out (D × RE)} {mt mu : RE → Out (Bool × RE)} {as_ : RE → Out (List D × RE)} {ms mz : RE → Out Fl} {s : Stmt} {ss st2 : List Stmt}
/-- a path -/
def PathM (X : Cx) (e : PySem.Expr) (m : RE → Out (D × RE)) : Prop := ∃ te, PE X e te ∧ SndPath X.K te m ∧ ∀ r x s, m r ≠ .exc x s
theorem nx_var {i : Nat} : ∀ r x s, mVar i r ≠ .exc x s := fun r x s h => by unfold mVar at h; split at h <;> cases h
theorem pm_var (i : Nat) (hN : X.N[i]? = some x := by rfl) (hv : Vis X.env.scope x := by first | exact Or.inl rfl | exact Or.inr (Or.inl rfl) | exact Or.inr (Or.inr rfl)) (hd : (x == ("__debug__" : Str)) = false := by decide)
    (hcd : (x == ("__classdict__" : Str)) = false := by decide) : PathM X (.Name x pos) (mVar i) := ⟨_, pe_var hN hv hd hcd, path_var, nx_var⟩
/-- a way of walking -/
def WayM (X : Cx) (tg iter e : PySem.Expr) (items : D → Option (List D)) : Prop := ∃ wi : TE → TI, (∀ te, PE X e te → PI X tg iter (wi te)) ∧ WK X.K wi items
abbrev anyI : D → Option (List D) := orI seqI (orI strI keysI)
theorem way_any {tg : PySem.Expr} : WayM X tg e e anyI := ⟨iOr (iSeq X.K) (iOr iStr iKeys), fun te h => pi_orI (pi_seq h) (pi_orI (pi_str h) (pi_keys h)), wk_seq.or (wk_str.or wk_keys)⟩
theorem way_vals {tg : PySem.Expr} {apos : Pos} (hbase : attributeBase e "values" X.env (eval e X.env) = eval e X.env := by rfl) (hline : (apos.endLine == pos.line) = true := by rfl) : WayM X tg (.Call (.Attribute e "values" apos) [] [] pos) e valsI := ⟨iVals, fun te h => pi_values h hbase hline, wk_vals⟩
theorem way_items {elts : List PySem.Expr} {kk : Nat} {tpos apos : Pos} (hbase : attributeBase e "items" X.env (eval e X.env) = eval e X.env := by rfl) (hline : (apos.endLine == pos.line) = true := by rfl) : WayM X (.Tuple elts kk tpos) (.Call (.Attribute e "items" apos) [] [] pos) e itemsI := ⟨iItems, fun te h => pi_items h hbase hline, wk_items⟩
theorem way_enum {elts : List PySem.Expr} {kk : Nat} {tpos : Pos} (hm : X.mg "enumerate" = none) (hg : Gl X "enumerate" := by rfl) (hs : starEach [e] X.env = (false, eval e X.env) :: starEach [] X.env := by rfl) (hs' : starEach [e] X.env = [(false, eval e X.env)] := by rfl) : WayM X (.Tuple elts kk tpos) (.Call (.Name "enumerate" p) [e] [] pos) e enumI :=
  ⟨iEnumS X.K, fun te h => pi_orI (pi_enum hg hm (pa_cons h pa_nil hs) hs') (ET.pi_enumT hg hm (pa_cons h pa_nil hs) hs'), wk_enum⟩
theorem im_seq {tg : PySem.Expr} (h : EM X E e m) : IM X E tg e (mItem asQ m) := let ⟨_, h1, h2⟩ := h; ⟨_, pi_seq h1, sndi_seq h2⟩
section
variable {elt tg iter kx : PySem.Expr} {ifs : List PySem.Expr} {scope : Scope} {own : List (Str × Nat)} {mi : RE → Out (List D × RE)} {st : D → RE → Option RE} {me : RE → Out (D × RE)} {y : Str} {py spos : Pos} {vs : List Nat} {items : D → Option (List D)}
theorem sm_forW (hq : PathM X e m) (hw : WayM X tg iter e items) (hg : GM X E tg st vs) (hb : BM X E ss ms) (hp : PassesOwn (model X.prog X.w) X.A X.env X.xe) (hc : X.calm = true := by rfl) (hs : ∀ x, foldedSetIterable iter X.env x = pure x := by intro _; rfl) :
    SM X E (.For tg iter ss [] pos) (mForW items m st ms) := by
  obtain ⟨te, p1, p2, p3⟩ := hq
  obtain ⟨wi, w1, w2⟩ := hw
  obtain ⟨_, g1, g2, _⟩ := hg
  obtain ⟨_, h1, h2⟩ := hb
  exact ⟨_, ps_orS (ps_lock (ps_for hp hc (w1 te p1) g1 h1 hs)) (ps_for hp hc (w1 te p1) g1 h1 hs), snds_forW w2 p2 p3 g2 h2⟩
theorem fm_lcW (vs : List Nat) (own : List (Str × Nat)) (nd : X.N.Nodup) (ok : BlkOk X.N X.env.scope scope own) (hq : PathM X e m) (hw : WayM X tg iter e items) (hg : ∀ i : BIx, GM (Xb X scope i) E tg st vs) (ht : ∀ i : BIx, TMs (Xb X scope i) E ifs mt) (he : ∀ i : BIx, EM (Xb X scope i) E elt me)
    (ho : own.map (·.2) = vs := by rfl) (hc : X.calm = true := by rfl) (hs : ∀ x, foldedSetIterable iter X.env x = pure x := by intro _; rfl) : FM X E (.ListComp elt [⟨tg, iter, ifs, 0⟩] scope pos) (mCompW items vs m st mt me) := by
  obtain ⟨ti, p1, p2, p3⟩ := hq
  obtain ⟨wi, w1, w2⟩ := hw
  obtain ⟨g, tt, te, h2, h3, h4, s1, s2, s3, s4⟩ := lc_all hg ht he
  subst ho
  have h := pe_lc (pos := pos) hc nd (w1 ti p1) ok (fun s H Ca cl fp => h2 (s, H, Ca, cl, fp)) (fun s H Ca cl fp => h3 (s, H, Ca, cl, fp)) (fun s H Ca cl fp => h4 (s, H, Ca, cl, fp)) hs
  exact ⟨_, pe_orE (pe_lock h) h, sndf_compW w2 p2 p3 s1 s2 s3 s4⟩
theorem nl_compW {m : RE → Out (D × RE)} : NL (mCompW items vs m st mt me) := fun r d r' e => by
  unfold mCompW at e
  cases h : m r with
  | stuck => rw [h] at e; cases e
  | exc x s => rw [h] at e; cases e
  | ok p =>
    rw [h, bnd_ok] at e
    split at e
    · rename_i ds r1 _
      cases h2 : mCompL (wipeL r1.s vs) st mt me ds r1.st [] with
      | stuck => rw [h2] at e; cases e
      | exc x s => rw [h2] at e; cases e
      | ok q => rw [h2] at e; cases e; rfl
    · rename_i ds r1 k e1 _
      cases h2 : mCompL (wipeL r1.s vs) st mt me ds r1.st [] with
      | stuck => rw [h2] at e; cases e
      | exc x s => rw [h2] at e; cases e
      | ok q => rw [h2] at e; cases e; rfl
    · cases e
theorem sm_setLcW (i : Nat) (vs : List Nat) (own : List (Str × Nat)) (cel : Bool) (nd : X.N.Nodup) (ok : BlkOk X.N X.env.scope scope own) (hq : PathM X e m) (hw : WayM X tg iter e items) (hg : ∀ i : BIx, GM (Xb X scope i) E tg st vs) (ht : ∀ i : BIx, TMs (Xb X scope i) E ifs mt) (he : ∀ i : BIx, EM (Xb X scope i) E elt me)
    (hy : X.N[i]? = some y := by rfl) (hyl : X.env.scope.names.lookup y = some .local := by rfl) (hsw : swapsWith (.ListComp elt [⟨tg, iter, ifs, 0⟩] scope pos) (some (.Name y py)) spos.line X.env = pure true := by exact sw_true rfl rfl rfl (by decide +kernel))
    (ho : own.map (·.2) = vs := by rfl) (hc : X.calm = true := by rfl) (hs : ∀ x, foldedSetIterable iter X.env x = pure x := by intro _; rfl) :
    SM X E (.Assign [.Name y py] (.ListComp elt [⟨tg, iter, ifs, 0⟩] scope pos) spos) (mSet i (if cel = true then mCell (mCompW items vs m st mt me) else mCompW items vs m st mt me)) := by
  obtain ⟨ti, p1, p2, p3⟩ := hq
  obtain ⟨wi, w1, w2⟩ := hw
  obtain ⟨g, tt, te, h2, h3, h4, s1, s2, s3, s4⟩ := lc_all hg ht he
  subst ho
  have h := ps_setLc hc nd hy hyl hsw (w1 ti p1) ok (fun s H Ca cl fp => h2 (s, H, Ca, cl, fp)) (fun s H Ca cl fp => h3 (s, H, Ca, cl, fp)) (fun s H Ca cl fp => h4 (s, H, Ca, cl, fp)) hs
  have k : SndS X.K E (tAsg (tOrE (tLockE (tLc (wi ti) g tt te (own.map (·.2)))) (tLc (wi ti) g tt te (own.map (·.2)))) (gName i)) (mSet i (if cel = true then mCell (mCompW items (own.map (·.2)) m st mt me) else mCompW items (own.map (·.2)) m st mt me)) := by
    refine snds_set ?_
    cases cel
    · exact snd_of_f (sndf_compW w2 p2 p3 s1 s2 s3 s4) fun r d r' q => unlck_nl (nl_compW r d r' q)
    · exact snd_cell (sndf_compW w2 p2 p3 s1 s2 s3 s4)
  exact ⟨_, ps_orS (ps_lock h) h, k⟩
/-! dict comprehensions -/
@[simp] def mDicOf (m : RE → Out (List (Key × D) × RE)) : RE → Out (D × RE) := fun r => (m r).bnd fun p => .ok (.dic p.1, p.2)
theorem nl_dic {m : RE → Out (List (Key × D) × RE)} : NL (mDicOf m) := nl_bnd fun a d r' e => by cases e; rfl
theorem dc_all {mk2 : RE → Out (D × RE)} (hg : ∀ i : BIx, GM (Xb X scope i) E tg st vs) (ht : ∀ i : BIx, TMs (Xb X scope i) E ifs mt) (hk : ∀ i : BIx, EM (Xb X scope i) E kx mk2) (he : ∀ i : BIx, EM (Xb X scope i) E elt me) :
    ∃ g tt tk te, (∀ i, PG (Xb X scope i) tg g) ∧ (∀ i, PTs (Xb X scope i) ifs tt) ∧ (∀ i, PE (Xb X scope i) kx tk) ∧ (∀ i, PE (Xb X scope i) elt te) ∧ GV g vs ∧ GS X.K E g st ∧ SndT X.K E tt mt ∧ Snd X.K E tk mk2 ∧ Snd X.K E te me := by
  obtain ⟨g, tt, te, h2, h3, h4, s1, s2, s3, s4⟩ := lc_all hg ht he
  have hk' := fun i => Classical.choose_spec (hk i)
  exact ⟨g, tt, fun σ H Q => ∀ i, Classical.choose (hk i) σ H Q, te, h2, h3, fun i => ⟨fun pins s σ H Q I h => (hk' i).1.run pins s σ H Q I (h i)⟩, h4, s1, s2, s3, fun c σ H W r Q R w i => (hk' i).2 c σ H W r Q R w, s4⟩
theorem fm_dc (vs : List Nat) (own : List (Str × Nat)) {mk2 : RE → Out (D × RE)} (nd : X.N.Nodup) (ok : BlkOk X.N X.env.scope scope own) (hi : IM X E tg iter mi) (hg : ∀ i : BIx, GM (Xb X scope i) E tg st vs) (ht : ∀ i : BIx, TMs (Xb X scope i) E ifs mt) (hk : ∀ i : BIx, EM (Xb X scope i) E kx mk2) (he : ∀ i : BIx, EM (Xb X scope i) E elt me)
    (ho : own.map (·.2) = vs := by rfl) (hc : X.calm = true := by rfl) (hs : ∀ x, foldedSetIterable iter X.env x = pure x := by intro _; rfl) : FM X E (.DictComp kx elt [⟨tg, iter, ifs, 0⟩] scope pos) (mDicOf (mCG vs mi st mt (mCons mk2 (mCons me mNil)) appD [])) := by
  obtain ⟨wi, i1, i2⟩ := hi
  obtain ⟨g, tt, tk, te, h2, h3, h5, h4, s1, s2, s3, s5, s4⟩ := dc_all hg ht hk he
  subst ho
  exact ⟨_, pe_dc hc nd i1 ok (fun s H Ca cl fp => h2 (s, H, Ca, cl, fp)) (fun s H Ca cl fp => h3 (s, H, Ca, cl, fp)) (fun s H Ca cl fp => h5 (s, H, Ca, cl, fp)) (fun s H Ca cl fp => h4 (s, H, Ca, cl, fp)) hs, sndf_of_g (sndg_comp (wi := wi) collects_dic s1 i2 s2 s3 (snd_cons s5 (snd_cons s4 snd_nil)))⟩
theorem fm_dcW (vs : List Nat) (own : List (Str × Nat)) {mk2 : RE → Out (D × RE)} (nd : X.N.Nodup) (ok : BlkOk X.N X.env.scope scope own) (hq : PathM X e m) (hw : WayM X tg iter e items) (hg : ∀ i : BIx, GM (Xb X scope i) E tg st vs) (ht : ∀ i : BIx, TMs (Xb X scope i) E ifs mt) (hk : ∀ i : BIx, EM (Xb X scope i) E kx mk2) (he : ∀ i : BIx, EM (Xb X scope i) E elt me)
    (ho : own.map (·.2) = vs := by rfl) (hc : X.calm = true := by rfl) (hs : ∀ x, foldedSetIterable iter X.env x = pure x := by intro _; rfl) : FM X E (.DictComp kx elt [⟨tg, iter, ifs, 0⟩] scope pos) (mDicOf (mCGW items vs m st mt (mCons mk2 (mCons me mNil)) appD [])) := by
  obtain ⟨ti, p1, p2, p3⟩ := hq
  obtain ⟨wi, w1, w2⟩ := hw
  obtain ⟨g, tt, tk, te, h2, h3, h5, h4, s1, s2, s3, s5, s4⟩ := dc_all hg ht hk he
  subst ho
  have h := pe_dc (pos := pos) hc nd (w1 ti p1) ok (fun s H Ca cl fp => h2 (s, H, Ca, cl, fp)) (fun s H Ca cl fp => h3 (s, H, Ca, cl, fp)) (fun s H Ca cl fp => h5 (s, H, Ca, cl, fp)) (fun s H Ca cl fp => h4 (s, H, Ca, cl, fp)) hs
  exact ⟨_, pe_orE (pe_lock h) h, sndf_of_g (sndg_compW collects_dic w2 p2 p3 s1 s2 s3 (snd_cons s5 (snd_cons s4 snd_nil)))⟩
/-! sets -/
def KM (X : Cx) (E : XK) (e : PySem.Expr) (m : RE → Out (List Key × RE)) : Prop := ∃ te, PE X e te ∧ SndG X.K E (aKs X.w) te m
theorem km_sc (vs : List Nat) (own : List (Str × Nat)) (nd : X.N.Nodup) (ok : BlkOk X.N X.env.scope scope own) (hi : IM X E tg iter mi) (hg : ∀ i : BIx, GM (Xb X scope i) E tg st vs) (ht : ∀ i : BIx, TMs (Xb X scope i) E ifs mt) (he : ∀ i : BIx, EM (Xb X scope i) E elt me)
    (ho : own.map (·.2) = vs := by rfl) (hc : X.calm = true := by rfl) (hs : ∀ x, foldedSetIterable iter X.env x = pure x := by intro _; rfl) : KM X E (.SetComp elt [⟨tg, iter, ifs, 0⟩] scope pos) (mCG vs mi st mt (mCons me mNil) appK []) := by
  obtain ⟨wi, i1, i2⟩ := hi
  obtain ⟨g, tt, te, h2, h3, h4, s1, s2, s3, s4⟩ := lc_all hg ht he
  subst ho
  exact ⟨_, KS.pe_scK hc nd i1 ok (fun s H Ca cl fp => h2 (s, H, Ca, cl, fp)) (fun s H Ca cl fp => h3 (s, H, Ca, cl, fp)) (fun s H Ca cl fp => h4 (s, H, Ca, cl, fp)) hs, sndg_comp (wi := wi) (collects_set (w := X.w)) s1 i2 s2 s3 (snd_cons s4 snd_nil)⟩
theorem km_scW (vs : List Nat) (own : List (Str × Nat)) (nd : X.N.Nodup) (ok : BlkOk X.N X.env.scope scope own) (hq : PathM X e m) (hw : WayM X tg iter e items) (hg : ∀ i : BIx, GM (Xb X scope i) E tg st vs) (ht : ∀ i : BIx, TMs (Xb X scope i) E ifs mt) (he : ∀ i : BIx, EM (Xb X scope i) E elt me)
    (ho : own.map (·.2) = vs := by rfl) (hc : X.calm = true := by rfl) (hs : ∀ x, foldedSetIterable iter X.env x = pure x := by intro _; rfl) : KM X E (.SetComp elt [⟨tg, iter, ifs, 0⟩] scope pos) (mCGW items vs m st mt (mCons me mNil) appK []) := by
  obtain ⟨ti, p1, p2, p3⟩ := hq
  obtain ⟨wi, w1, w2⟩ := hw
  obtain ⟨g, tt, te, h2, h3, h4, s1, s2, s3, s4⟩ := lc_all hg ht he
  subst ho
  have h := KS.pe_scK (pos := pos) hc nd (w1 ti p1) ok (fun s H Ca cl fp => h2 (s, H, Ca, cl, fp)) (fun s H Ca cl fp => h3 (s, H, Ca, cl, fp)) (fun s H Ca cl fp => h4 (s, H, Ca, cl, fp)) hs
  exact ⟨_, pe_orE (pe_lock h) h, sndg_compW (collects_set (w := X.w)) w2 p2 p3 s1 s2 s3 (snd_cons s4 snd_nil)⟩
end
end
end Mir

set_option maxHeartbeats 400000
namespace Mir
open PySem PySem.Spec PyProof.Rows L2
section
variable {K : PySem.W.Frag} {E : XK} {c : Fm} {σ σ' : L2.St} {H H' : Hp} {W W' : Wd} {r r' : RE}
/-! ### unpacking a list or tuple -/
@[simp] def stUnp (n : Nat) (ss : List D → RE → Option RE) : D → RE → Option RE := fun d r => match seqI d with
  | some ds => if ds.length = n then ss ds r else none
  | none => none
def gUnp (K : PySem.W.Frag) (n : Nat) (t : TGs) : TG := fun v σ H Q => gTup K n t v σ H Q ∨ gUnl K n t v σ H Q
theorem pg_unp {X : Cx} {tg : PySem.Expr} {t u : TG} (h : PG X tg t) (k : PG X tg u) : PG X tg (fun v σ H Q => t v σ H Q ∨ u v σ H Q) := ⟨fun pins s σ H v w Q I r q => q.elim (fun q => h.run pins s σ H v w Q I r q) fun q => k.run pins s σ H v w Q I r q⟩
theorem gs_unp {n : Nat} {gs : TGs} {ss : List D → RE → Option RE} (h2 : GSs K E gs ss) : GS K E (gUnp K n gs) (stUnp n ss) := fun c v d σ H W r r' Q R h e k => by
  unfold stUnp at e
  split at e
  · rename_i ds es
    split at e
    · rename_i hn
      cases d <;> simp only [seqI, reduceCtorEq, Option.some.injEq] at es <;> subst es <;> simp only [RepD] at h <;> obtain ⟨a, vs, ev, q, t⟩ := h
      · exact .inl ⟨a, vs, ev, SqT.of (R.gh.tup q), by rw [← repL_len t]; exact hn, h2 c vs _ σ H W r r' Q R t e k⟩
      · exact .inr ⟨a, vs, ev, SqL.of (R.gh.lst q), by rw [← repL_len t]; exact hn, h2 c vs _ σ H W r r' Q R t e k⟩
      · exact .inr ⟨a, vs, ev, R.gh.sqL q, by rw [← repL_len t]; exact hn, h2 c vs _ σ H W r r' Q R t e k⟩
    · cases e
  · cases e
/-! ### clear -/
@[simp] def fClear : D → List D → Out (D × D)
  | .lst _, [] => .ok (.non, .lst [])
  | .dic _, [] => .ok (.non, .dic [])
  | _, _ => .stuck
@[simp] def fClearL : D → List D → Out (D × D) := fun d ds => match d with
  | .lst _ => fClear d ds
  | _ => .stuck
@[simp] def fClearD : D → List D → Out (D × D) := fun d ds => match d with
  | .dic _ => fClear d ds
  | _ => .stuck
theorem nx_clear : NoXM fClear := fun a b x st h => by unfold fClear at h; split at h <;> cases h
theorem mut_clearL : MutS K rClear fClearL := fun a H W d res d' ds vs Q s ga ho hl e k => by
  cases d <;> simp only [fClearL, reduceCtorEq] at e
  cases ds <;> simp only [fClear, reduceCtorEq, Out.ok.injEq, Prod.mk.injEq] at e
  obtain ⟨rfl, rfl⟩ := e
  obtain ⟨b, us, ea, ha, la⟩ := ho
  cases ea
  simp only [RepL] at hl
  subst hl
  exact ⟨a, us, rfl, rfl, ha, k _ _ ⟨a, _, rfl, upd_same, by simp only [RepL]⟩ repD_non⟩
theorem mut_clearD : MutS K rDClear fClearD := fun a H W d res d' ds vs Q s ga ho hl e k => by
  cases d <;> simp only [fClearD, reduceCtorEq] at e
  cases ds <;> simp only [fClear, reduceCtorEq, Out.ok.injEq, Prod.mk.injEq] at e
  obtain ⟨rfl, rfl⟩ := e
  obtain ⟨b, us, ea, ha, la⟩ := ho
  cases ea
  simp only [RepL] at hl
  subst hl
  exact ⟨a, us, rfl, rfl, ha, k _ _ ⟨a, _, rfl, upd_same, by simp only [RepK]⟩ repD_non⟩
/-! ### len of anything -/
@[simp] def dLenA : D → Out D
  | .dic kvs => .ok (.int kvs.length)
  | d => dLen d
theorem lenA_ne {d : D} (h : ∀ kvs, d ≠ .dic kvs) : dLenA d = dLen d := by
  cases d <;> first | (simp only [dLenA]; done) | exact absurd rfl (h _)
theorem nx_lenA : NoX1 dLenA := fun a x st h => by
  by_cases z : ∃ kvs, a = .dic kvs
  · obtain ⟨kvs, rfl⟩ := z; simp only [dLenA, reduceCtorEq] at h
  · rw [lenA_ne fun kvs e => z ⟨kvs, e⟩] at h; exact nx_len _ x st h
abbrev rLenD : List V → Hp → VK → Prop := fun xs H Q => ∃ (a : Addr) (kvs : List (Key × V)), xs = [.ref a] ∧ Rd H a (.dK kvs) ∧ Q (.int kvs.length) H
theorem cr_lenD {X : Cx} : CallR X (.builtin "len") rLenD := by
  intro pins s σ H xs us Q I r h
  obtain ⟨a, kvs, rfl, ha, q⟩ := h
  obtain ⟨u, rfl, ru⟩ := vals1 r
  cases ru
  exact d_len I ha fun t s' I' => ⟨.int kvs.length, H, I', ⟨t, rfl⟩, q⟩
theorem CallR.or {X : Cx} {v : Value} {f g : List V → Hp → VK → Prop} (h : CallR X v f) (k : CallR X v g) : CallR X v (fun xs H Q => f xs H Q ∨ g xs H Q) := fun pins s σ H xs us Q I r q => q.elim (fun q => h pins s σ H xs us Q I r q) fun q => k pins s σ H xs us Q I r q
theorem calls_lenA : CallS K (fun xs H Q => (∃ x n, xs = [x] ∧ LenV K x H n ∧ Q (.int n) H) ∨ rLenD xs H Q) (d1 dLenA) := calls_1 fun x H W dx Q s h1 d hd k => by
  by_cases z : ∃ kvs, dx = .dic kvs
  · obtain ⟨kvs, rfl⟩ := z
    simp only [dLenA, Out.ok.injEq] at hd
    subst hd
    obtain ⟨a, us, rfl, ha, la⟩ := h1
    exact .inr ⟨a, us, rfl, ha, k _ _ _ (Ext.refl s) (by rw [repK_len la]; exact repD_int)⟩
  · rw [lenA_ne fun kvs e => z ⟨kvs, e⟩] at hd
    exact .inl (calls_len [x] H W [dx] Q s (.cons h1 .nil) d (by simpa only [d1] using hd) k)
/-! ### isinstance(x, (T, ..)) -/
@[simp] def tysD : List D → Option (List String)
  | [] => some []
  | .ty n :: ds => if n ∈ tyList then (tysD ds).map (n :: ·) else none
  | _ => none
@[simp] def dIsiT : D → D → Out D
  | d, .tup ts => match tyName d, tysD ts with
    | some t, some ns => .ok (.bl (ns.any fun n => isSub t n))
    | _, _ => .stuck
  | _, _ => .stuck
theorem nx_isiT : NoX2 dIsiT := fun a b x st h => by unfold dIsiT at h; split at h <;> (try split at h) <;> cases h
theorem tysD_rep {W : Wd} : ∀ {ds : List D} {ns : List String} {vs : List V}, tysD ds = some ns → RepL K W ds vs → Paired ClsV vs (ns.map Value.type) ∧ ∀ n ∈ ns, n ∈ tyList
  | [], ns, vs, e, h => by cases e; simp only [RepL] at h; subst h; exact ⟨.nil, fun n z => absurd z (by simp)⟩
  | d :: ds, ns, vs, e, h => by
    cases d <;> simp only [tysD, reduceCtorEq] at e
    rename_i n
    split at e
    · rename_i hn
      obtain ⟨ns', e', rfl⟩ := Option.map_eq_some_iff.mp e
      simp only [RepL] at h
      obtain ⟨v, us, rfl, hv, hl⟩ := h
      simp only [RepD] at hv
      subst hv
      obtain ⟨h1, h2⟩ := tysD_rep e' hl
      exact ⟨.cons (.ty n) h1, fun m z => (List.mem_cons.mp z).elim (fun y => y ▸ hn) (h2 m)⟩
    · cases e
theorem kit_any {t : String} (ht : t ∈ ["NoneType", "bool", "int", "str", "tuple", "list", "dict"]) : ∀ {ns : List String}, (∀ n ∈ ns, n ∈ tyList) → PySem.W.kitAny K (.type t) (ns.map Value.type) = some (ns.any fun n => isSub t n)
  | [], _ => rfl
  | n :: ns, h => by
    have h1 := kit_all (K := K) ht (h n List.mem_cons_self)
    have h2 := kit_any ht (ns := ns) fun m z => h m (List.mem_cons_of_mem _ z)
    simp only [List.map_cons, PySem.W.kitAny, h1, h2, List.any_cons]
    cases isSub t n <;> rfl
theorem calls_isiT : CallS K (rIsiT K) (d2 dIsiT) := calls_2 fun x y H W dx dy Q s hx hy d hd k => by
  cases dy <;> simp only [dIsiT, reduceCtorEq] at hd
  rename_i ts
  split at hd
  · rename_i t ns ht hn
    cases hd
    obtain ⟨a, vs, rfl, ha, la⟩ := hy
    obtain ⟨h1, h2⟩ := tysD_rep hn la
    exact ⟨x, a, vs, .type t, ns.map Value.type, _, rfl, s.tup ha, h1, tyName_ok s ht hx, kit_any (tyName_mem ht) h2, k _ _ _ (Ext.refl s) repD_bl⟩
  · cases hd
/-! ### == of dicts that are equal -/
@[simp] def isFlat : D → Bool
  | .non => true
  | .bl _ => true
  | .int _ => true
  | .str _ => true
  | _ => false
@[simp] def sameS : D → D → Bool
  | .non, .non => true
  | .bl a, .bl b => a == b
  | .int a, .int b => a == b
  | .str a, .str b => a == b
  | _, _ => false
@[simp] def dicSame (ks ls : List (Key × D)) : Bool := decide (ks.length = ls.length) && ks.all fun p => match valD ls p.1 with
  | some d => sameS p.2 d
  | none => false
@[simp] def dEqK : D → D → Out D
  | .dic ks, .dic ls => if dicSame ks ls = true then .ok (.bl true) else .stuck
  | a, b => dEq a b
@[simp] def dNeK : D → D → Out D
  | .dic ks, .dic ls => if dicSame ks ls = true then .ok (.bl false) else .stuck
  | a, b => dNe a b
theorem nx_eqK : NoX2 dEqK := fun a b x st h => by
  unfold dEqK at h
  split at h
  · split at h <;> cases h
  · exact nx_eq _ _ _ _ h
theorem nx_neK : NoX2 dNeK := fun a b x st h => by
  unfold dNeK at h
  split at h
  · split at h <;> cases h
  · exact nx_ne _ _ _ _ h
abbrev rDicR (o : Bool) : R2 := fun x y H Q => ∃ a b ks ls, x = .ref a ∧ y = .ref b ∧ Rd H a (.dK ks) ∧ Rd H b (.dK ls) ∧ ks.length = ls.length ∧ (∀ p ∈ ks, valV ls p.1 = some p.2 ∧ flatB p.2 = true) ∧ Q (.bl o) H
theorem op_eqR {X : Cx} (hu : X.A.units < cLine) : OpR X (compareOp .Eq) (rDicR true) := by
  intro pins s σ H x y v u Q I rx ry h
  obtain ⟨a, b, ks, ls, rfl, rfl, ea, eb, hlen, hp, q⟩ := h
  obtain rfl : v = Value.ref a := rx
  obtain rfl : u = Value.ref b := ry
  obtain ⟨_, ya, va, ra, da⟩ := dk_rd I.hok ea
  obtain ⟨_, yb, vb, rb, db⟩ := dk_rd I.hok eb
  have hl : va.length = vb.length := by rw [← ra.length, ← rb.length]; exact hlen
  exact PySem.W.keq_eq (knd := mixKind X.prog X.w) (r := true) ya yb da db hu (fun _ => hits_all rb ra hp) (fin_bl I q (by simp [hl]))
theorem op_neR {X : Cx} (hu : X.A.units < cLine) : OpR X (compareOp .NotEq) (rDicR false) := by
  intro pins s σ H x y v u Q I rx ry h
  obtain ⟨a, b, ks, ls, rfl, rfl, ea, eb, hlen, hp, q⟩ := h
  obtain rfl : v = Value.ref a := rx
  obtain rfl : u = Value.ref b := ry
  obtain ⟨_, ya, va, ra, da⟩ := dk_rd I.hok ea
  obtain ⟨_, yb, vb, rb, db⟩ := dk_rd I.hok eb
  have hl : va.length = vb.length := by rw [← ra.length, ← rb.length]; exact hlen
  exact PySem.W.keq_ne (knd := mixKind X.prog X.w) (r := true) ya yb da db hu (fun _ => hits_all rb ra hp) (fin_bl I q (by simp [hl]))
theorem repK_mem {W : Wd} : ∀ {ds : List (Key × D)} {vs : List (Key × V)} {p : Key × V}, RepK K W ds vs → p ∈ vs → ∃ d, (p.1, d) ∈ ds ∧ RepD K W d p.2
  | [], vs, p, h, m => by simp only [RepK] at h; subst h; cases m
  | (k, d) :: ds, vs, p, h, m => by
    simp only [RepK] at h
    obtain ⟨v, us, rfl, hd, hl⟩ := h
    rcases List.mem_cons.mp m with e | m
    · subst e; exact ⟨d, List.mem_cons_self, hd⟩
    · obtain ⟨d', h1, h2⟩ := repK_mem hl m
      exact ⟨d', List.mem_cons_of_mem _ h1, h2⟩
theorem sameS_rep {W : Wd} {a b : D} {x y : V} (e : sameS a b = true) (ha : RepD K W a x) (hb : RepD K W b y) : x = y ∧ flatB x = true := by
  cases a <;> cases b <;> simp only [sameS, reduceCtorEq, Bool.false_eq_true, beq_iff_eq] at e <;> simp only [RepD] at ha hb <;> subst ha hb
  · exact ⟨rfl, rfl⟩
  · subst e; exact ⟨rfl, rfl⟩
  · subst e; exact ⟨rfl, rfl⟩
  · subst e; exact ⟨rfl, rfl⟩
theorem dicSame_rep {H : Hp} {W : Wd} {ks ls : List (Key × D)} {us ws : List (Key × V)} (e : dicSame ks ls = true) (h : RepK K W ks us) (k : RepK K W ls ws) : us.length = ws.length ∧ ∀ p ∈ us, valV ws p.1 = some p.2 ∧ flatB p.2 = true := by
  simp only [dicSame, Bool.and_eq_true, decide_eq_true_eq] at e
  refine ⟨by rw [← repK_len h, ← repK_len k]; exact e.1, fun p hp => ?_⟩
  obtain ⟨d, hm, hd⟩ := repK_mem h hp
  have := List.all_eq_true.mp e.2 _ hm
  simp only at this
  rcases repK_val (k := p.1) k with ⟨z1, z2⟩ | ⟨d', v', z1, z2, z3⟩
  · rw [z1] at this; cases this
  · rw [z1] at this
    obtain ⟨q1, q2⟩ := sameS_rep this hd z3
    exact ⟨by rw [z2, q1], q2⟩
theorem ops_eqK : OpS K (fun x y H Q => (rEq x y H Q ∨ rEqD K x y H Q) ∨ rDicR true x y H Q) dEqK := fun x y H W dx dy Q s hx hy d hd k => by
  unfold dEqK at hd
  split at hd
  · rename_i ks ls
    split at hd
    · rename_i e
      cases hd
      obtain ⟨a, us, rfl, ha, la⟩ := hx
      obtain ⟨b, ws, rfl, hb, lb⟩ := hy
      obtain ⟨q1, q2⟩ := dicSame_rep (H := H) e la lb
      exact .inr ⟨a, b, us, ws, rfl, rfl, ha, hb, q1, q2, k _ _ _ (Ext.refl s) repD_bl⟩
    · cases hd
  · exact .inl (ops_eq x y H W _ _ Q s hx hy d hd k)
theorem ops_neK : OpS K (fun x y H Q => (rNe x y H Q ∨ rNeD K x y H Q) ∨ rDicR false x y H Q) dNeK := fun x y H W dx dy Q s hx hy d hd k => by
  unfold dNeK at hd
  split at hd
  · rename_i ks ls
    split at hd
    · rename_i e
      cases hd
      obtain ⟨a, us, rfl, ha, la⟩ := hx
      obtain ⟨b, ws, rfl, hb, lb⟩ := hy
      obtain ⟨q1, q2⟩ := dicSame_rep (H := H) e la lb
      exact .inr ⟨a, b, us, ws, rfl, rfl, ha, hb, q1, q2, k _ _ _ (Ext.refl s) repD_bl⟩
    · cases hd
  · exact .inl (ops_ne x y H W _ _ Q s hx hy d hd k)
end
/-! ## rules of syntax -/
section
variable {X : Cx} {E : XK} {a b c e f o : PySem.Expr} {es : List PySem.Expr} {pos p tpos apos : Pos} {x : Str}
variable {ma mb m oa ob oc mo mk mv : RE → Out (D × RE)} {mt mu : RE → Out (Bool × RE)} {as_ : RE → Out (List D × RE)} {ms mz : RE → Out Fl} {s : Stmt} {ss st2 : List Stmt}
theorem room0 {k : Nat} {A : Around} (hr : Room k A) : A.units < cLine := by have := room65 hr; omega
theorem room1 {k : Nat} {A : Around} (hr : Room k A) : A.units + 1 < cLine := by have := room65 hr; omega
theorem k_eqK {k : Nat} (hr : Room k X.A) : CmpK X .Eq dEqK := ⟨⟨_, OpR.or (OpR.or op_eq (op_eqD hr.units)) (op_eqR (room0 hr)), ops_eqK⟩, nx_eqK⟩
theorem k_neK {k : Nat} (hr : Room k X.A) : CmpK X .NotEq dNeK := ⟨⟨_, OpR.or (OpR.or op_ne (op_neD hr.units)) (op_neR (room0 hr)), ops_neK⟩, nx_neK⟩
theorem em_lenA (hm : X.mg "len" = none) (h : EM X E e oa) (hg : Gl X "len" := by rfl) (hs : starEach [e] X.env = (false, eval e X.env) :: starEach [] X.env := by rfl) (hpl : (backTo pos (starEach [] X.env)).any (·.1) = false := by rfl) : EM X E (.Call (.Name "len" p) [e] [] pos) (mArgs (d1 dLenA) (mCons oa mNil)) :=
  em_cb (CallR.or call_len cr_lenD) calls_lenA (nox_d1 nx_lenA) hm PySem.boot_len (am_cons h am_nil hs) hg (by decide) (by decide) hs hpl
theorem em_isiT (hm : X.mg "isinstance" = none) (h : EM X E a oa) (k : EM X E b ob) (hg : Gl X "isinstance" := by rfl) (hs2 : starEach [b] X.env = (false, eval b X.env) :: starEach [] X.env := by rfl) (hs : starEach [a, b] X.env = (false, eval a X.env) :: starEach [b] X.env := by rfl) (hpl : (backTo pos (starEach [b] X.env)).any (·.1) = false := by rfl) :
    EM X E (.Call (.Name "isinstance" p) [a, b] [] pos) (mArgs (d2 dIsiT) (mCons oa (mCons ob mNil))) := em_cb call_isiT calls_isiT (nox_d2 nx_isiT) hm (by decide +kernel) (am_cons h (am_cons k am_nil hs2) hs) hg (by decide) (by decide) hs hpl
theorem fm_sort {k : Nat} (hr : Room k X.A) (hm : X.mg "sorted" = none) (h : EM X E e oa) (hg : Gl X "sorted" := by rfl) (hs : starEach [e] X.env = (false, eval e X.env) :: starEach [] X.env := by rfl) (hpl : (backTo pos (starEach [] X.env)).any (·.1) = false := by rfl) : FM X E (.Call (.Name "sorted" p) [e] [] pos) (mArgs (d1 dSort) (mCons oa mNil)) :=
  fm_cb (cr_sortD (room65 hr)) callf_sort (nox_d1 nx_sort) hm (by decide +kernel) (am_cons h am_nil hs) hg (by decide) (by decide) hs hpl
theorem nl_sort : NL (mArgs (d1 dSort) as_) := nl_args fun ds d e => by
  unfold d1 at e
  split at e
  · unfold dSort at e
    split at e
    · split at e <;> cases e
      rfl
    · split at e <;> cases e
      rfl
    · cases e
  · cases e
@[simp] def mSetOf (oa : RE → Out (D × RE)) : RE → Out (List Key × RE) := fun r => (oa r).bnd fun p => match (dr p.2.st p.1).bind seqI with
    | some ds => match keysD ds with
      | some ks => if ks.length < 4000 then .ok (ks, p.2) else .stuck
      | none => .stuck
    | none => .stuck
theorem km_setOf (hm : X.mg "set" = none) (h : EM X E e oa) (hc : X.calm = true := by rfl) (hg : Gl X "set" := by rfl) (hs : starEach [e] X.env = (false, eval e X.env) :: starEach [] X.env := by rfl) (hpl : (backTo pos (starEach [] X.env)).any (·.1) = false := by rfl) : KM X E (.Call (.Name "set" p) [e] [] pos) (mSetOf oa) := let ⟨_, h1, h2⟩ := h; ⟨_, pe_callTy (KS.cr_setOf hc) hg hm (by decide +kernel) (pa_cons h1 pa_nil hs) (by decide) (by decide) hs hpl, sndg_setOf h2⟩
theorem fm_sortK {k : Nat} {mk : RE → Out (List Key × RE)} (hr : Room k X.A) (hm : X.mg "sorted" = none) (h : KM X E e mk) (hc : X.calm = true := by rfl) (hg : Gl X "sorted" := by rfl) (hs : starEach [e] X.env = (false, eval e X.env) :: starEach [] X.env := by rfl) (hpl : (backTo pos (starEach [] X.env)).any (·.1) = false := by rfl) : FM X E (.Call (.Name "sorted" p) [e] [] pos) (mSortK mk) :=
  let ⟨_, h1, h2⟩ := h; ⟨_, pe_callB (KS.cr_sortK hc (by have := hr.un; omega)) hg hm (by decide +kernel) (pa_cons h1 pa_nil hs) (by decide) (by decide) hs hpl, sndf_sortK h2⟩
theorem nl_sortK {mk : RE → Out (List Key × RE)} : NL (mSortK mk) := nl_bnd fun a d r' e => by
  split at e <;> cases e
  rfl
theorem em_lenK {mk : RE → Out (List Key × RE)} (hm : X.mg "len" = none) (h : KM X E e mk) (hg : Gl X "len" := by rfl) (hs : starEach [e] X.env = (false, eval e X.env) :: starEach [] X.env := by rfl) (hpl : (backTo pos (starEach [] X.env)).any (·.1) = false := by rfl) : EM X E (.Call (.Name "len" p) [e] [] pos) (mLenK mk) :=
  let ⟨_, h1, h2⟩ := h; ⟨_, pe_callB KS.cr_lenK hg hm PySem.boot_len (pa_cons h1 pa_nil hs) (by decide) (by decide) hs hpl, snd_lenK h2⟩
/-! subscripts of anything -/
theorem ix_dict (hu : X.A.units + 1 < cLine) : IxR X rIxD := by
  intro value slice pins s σ H x y v u Q I rx ry h hs
  obtain ⟨a, w, rfl, g, q⟩ := h
  obtain rfl : v = Value.ref a := rx
  exact tail_any (dict_typeIs I g) PySem.F.slot_dict_getitem.lookup (d_getItem hu I g ry fun w' s3 I3 rw' => ⟨w, H, I3, rw', q⟩) hs
theorem em_ixA {k : Nat} (hr : Room k X.A) (ha : EM X E a oa) (hb : EM X E b ob) (hs : PlainIx b := by exact fun _ _ => rfl) : EM X E (.Subscript a b pos) (mOp2 dIxA oa ob) :=
  let ⟨_, h1, h2⟩ := ha; let ⟨_, h3, h4⟩ := hb; ⟨_, pe_ix (IxR.or (IxR.or ix_list (IxR.or ix_tup ix_str)) (ix_dict (room1 hr))) h1 h3 hs, snd_op2 ops_ixA nx_ixA h2 h4⟩
theorem em_get1 {k : Nat} (hr : Room k X.A) (ho : EM X E o mo) (he : EM X E e mk) (m : M1 X o "get" apos e pos := by exact ⟨rfl, rfl, rfl, rfl⟩) : EM X E (.Call (.Attribute o "get" apos) [e] [] pos) (mGet mo mk (mC .non)) :=
  let ⟨_, h1, h2⟩ := ho; let ⟨_, h3, h4⟩ := he; ⟨_, pe_dget1 (room1 hr) h1 h3 m, snd_get1 h2 h4⟩
theorem em_get2 {k : Nat} (hr : Room k X.A) (ho : EM X E o mo) (he : EM X E e mk) (hf : EM X E f mv) (m : M2 X o "get" apos e f pos := by exact ⟨rfl, rfl, rfl, rfl⟩) : EM X E (.Call (.Attribute o "get" apos) [e, f] [] pos) (mGet mo mk mv) :=
  let ⟨_, h1, h2⟩ := ho; let ⟨_, h3, h4⟩ := he; let ⟨_, h5, h6⟩ := hf; ⟨_, pe_dget2 (room1 hr) h1 h3 h5 m, snd_get2 h2 h4 h6⟩
theorem em_setd (ho : EM X E o mo) (he : EM X E e mk) (hf : EM X E f mv) (m : M2 X o "setdefault" apos e f pos := by exact ⟨rfl, rfl, rfl, rfl⟩) : EM X E (.Call (.Attribute o "setdefault" apos) [e, f] [] pos) (mSetd mo mk mv) :=
  let ⟨_, h1, h2⟩ := ho; let ⟨_, h3, h4⟩ := he; let ⟨_, h5, h6⟩ := hf; ⟨_, pe_dsetd h1 h3 h5 m, snd_setd h2 h4 h6⟩
theorem sm_put {k : Nat} (hr : Room k X.A) (ho : EM X E o mo) (hi : EM X E a mk) (hv : EM X E e mv) (ha : ∀ v, assign (.Subscript o a tpos) X.env v = (do
      let ov ← holding [v] (eval o X.env)
      let iv ← holding [v, ov] (eval a X.env)
      standAt tpos
      holding [v, ov, iv] (setItem ov iv v)
      release [v, ov, iv] []) := by intro _; rfl) (hs : swapsWithSole [.Subscript o a tpos] e pos.line X.env = pure false := by rfl) (hw : swappedStores [.Subscript o a tpos] e X.env = pure none := by rfl)
    (h1 : (assignEach [.Subscript o a tpos] X.env).map (·.2) = [assign (.Subscript o a tpos) X.env] := by rfl) : SM X E (.Assign [.Subscript o a tpos] e pos) (mPut mo mk mv) :=
  let ⟨_, o1, o2⟩ := ho; let ⟨_, i1, i2⟩ := hi; let ⟨_, v1, v2⟩ := hv; ⟨_, ps_asg v1 (pg_sub o1 i1 (PSet.or set_list (set_dict (room1 hr))) ha) hs hw h1, snds_put o2 i2 v2⟩
theorem sm_aug (i : Nat) (nd : X.N.Nodup) (he : EM X E e mv) (hN : X.N[i]? = some x := by rfl) (hl : Loc X.env.scope x := by first | exact Or.inl rfl | exact Or.inr rfl) (hf : X.fn x = true ∨ X.env.scope.names.lookup x = some .local := by first | exact Or.inl rfl | exact Or.inr rfl) : SM X E (.AugAssign (.Name x tpos) .Add e pos) (mAug i addI mv) :=
  let ⟨_, h1, h2⟩ := he; ⟨_, ps_aug nd hN hl h1 ip_add hf, snds_augI h2⟩
theorem em_clearL (ho : EM X E o mo) (hbase : attributeBase o "clear" X.env (eval o X.env) = eval o X.env := by rfl) (hline : (apos.endLine == pos.line) = true := by rfl) : EM X E (.Call (.Attribute o "clear" apos) [] [] pos) (mMut mo "list" fClearL mNil) :=
  let ⟨_, a1, a2⟩ := ho; ⟨_, pe_bm0 PySem.F.plainAttrs_list PySem.F.slot_list_clear PySem.F.type_list_clear mt_clear a1 hbase hline, snd_mut0 mut_clearL (fun a b x st h => by unfold fClearL at h; split at h <;> first | exact nx_clear _ _ _ _ h | cases h) a2⟩
theorem em_clearD (ho : EM X E o mo) (hbase : attributeBase o "clear" X.env (eval o X.env) = eval o X.env := by rfl) (hline : (apos.endLine == pos.line) = true := by rfl) : EM X E (.Call (.Attribute o "clear" apos) [] [] pos) (mMut mo "dict" fClearD mNil) :=
  let ⟨_, a1, a2⟩ := ho; ⟨_, pe_dclear a1 hbase hline, snd_mut0 mut_clearD (fun a b x st h => by unfold fClearD at h; split at h <;> first | exact nx_clear _ _ _ _ h | cases h) a2⟩
theorem gm_unp {n : Nat} {tgs : List PySem.Expr} {st : List D → RE → Option RE} {vs : List Nat} {k : Nat} (h : GMs X E tgs st vs) (hc : X.calm = true := by rfl) (hn : (assignEach tgs X.env).length = n := by rfl) (hst : (assignEach tgs X.env).findIdx? (·.1) = none := by rfl) : GM X E (.Tuple tgs k pos) (stUnp n st) vs := by
  obtain ⟨gs, k1, k2, k3⟩ := h
  exact ⟨_, pg_unp (pg_tup hc k1 hn hst) (pg_unl hc k1 hn hst), gs_unp k2, fun v σ H Q Q' h q => q.elim (fun ⟨a, xs, e1, e2, e3, q⟩ => .inl ⟨a, xs, e1, e2, e3, k3 xs σ H Q Q' h q⟩) fun ⟨a, xs, e1, e2, e3, q⟩ => .inr ⟨a, xs, e1, e2, e3, k3 xs σ H Q Q' h q⟩⟩
theorem sm_asg {tg : PySem.Expr} {st : D → RE → Option RE} {vs : List Nat} (hv : EM X E e mv) (hg : GM X E tg st vs) (hs : swapsWithSole [tg] e pos.line X.env = pure false := by rfl) (hw : swappedStores [tg] e X.env = pure none := by rfl)
    (h1 : (assignEach [tg] X.env).map (·.2) = [assign tg X.env] := by rfl) : SM X E (.Assign [tg] e pos) (mAsg st mv) :=
  let ⟨_, v1, v2⟩ := hv; let ⟨_, g1, g2, _⟩ := hg; ⟨_, ps_asg v1 g1 hs hw h1, snds_asg v2 g2⟩
end
end Mir

set_option maxHeartbeats 400000
namespace Mir
open PySem PySem.Spec PyProof.Rows L2
/-! ## own classes -/
@[simp] def putFD (f : Str) (v : D) : List (Str × D) → List (Str × D)
  | [] => [(f, v)]
  | (g, x) :: r => if g = f then (g, v) :: r else (g, x) :: putFD f v r
/-- C(..): a new thing, then __init__ -/
def mkF (C : Addr) (mf : Fn) : Fn := fun ds st => (mf (.cell st.length :: ds) (st ++ [.ins C []])).bnd fun q => match q.1 with
  | .non => .ok (.cell st.length, q.2)
  | _ => .stuck
section
variable {K : PySem.W.Frag} {E : XK} {c : Fm} {σ σ' : L2.St} {H H' : Hp} {W W' : Wd} {r r' : RE}
theorem repF_look {f : Str} : ∀ {ds : List (Str × D)} {vs : List (Str × V)} {d : D}, RepF K W ds vs → ds.lookup f = some d → ∃ v, vs.lookup f = some v ∧ RepD K W d v
  | [], vs, d, h, e => by cases e
  | (g, x) :: ds, vs, d, h, e => by
    simp only [RepF] at h
    obtain ⟨v, us, rfl, hx, hl⟩ := h
    simp only [List.lookup_cons] at e ⊢
    split at e
    · rename_i z
      cases e
      exact ⟨v, rfl, hx⟩
    · rename_i z
      obtain ⟨w, h1, h2⟩ := repF_look hl e
      exact ⟨w, h1, h2⟩
theorem repF_none {f : Str} : ∀ {ds : List (Str × D)} {vs : List (Str × V)}, RepF K W ds vs → ds.lookup f = none → vs.lookup f = none
  | [], vs, h, e => by simp only [RepF] at h; subst h; rfl
  | (g, x) :: ds, vs, h, e => by
    simp only [RepF] at h
    obtain ⟨v, us, rfl, hx, hl⟩ := h
    simp only [List.lookup_cons] at e ⊢
    split at e
    · cases e
    · rename_i z
      exact repF_none hl e
theorem repF_len : ∀ {ds : List (Str × D)} {vs : List (Str × V)}, RepF K W ds vs → ds.length = vs.length
  | [], vs, h => by simp only [RepF] at h; subst h; rfl
  | (g, x) :: ds, vs, h => by
    simp only [RepF] at h
    obtain ⟨v, us, rfl, hx, hl⟩ := h
    simp only [List.length_cons, repF_len hl]
theorem repF_put {f : Str} {d : D} {v : V} (hd : RepD K W d v) : ∀ {ds : List (Str × D)} {vs : List (Str × V)}, RepF K W ds vs → RepF K W (putFD f d ds) (putF f v vs)
  | [], vs, h => by
    simp only [RepF] at h; subst h
    simp only [putFD, RepF]
    exact ⟨v, [], rfl, hd, rfl⟩
  | (g, x) :: ds, vs, h => by
    simp only [RepF] at h
    obtain ⟨w, us, rfl, hx, hl⟩ := h
    simp only [putFD, putF]
    by_cases z : g = f
    · rw [if_pos z, if_pos z]
      simp only [RepF]
      exact ⟨v, us, rfl, hd, hl⟩
    · rw [if_neg z, if_neg z]
      simp only [RepF]
      exact ⟨w, _, rfl, hx, repF_put hd hl⟩
/-! fields -/
@[simp] def mFld (C : Addr) (f : Str) (m : RE → Out (D × RE)) : RE → Out (D × RE) := fun r => (m r).bnd fun p => match dr p.2.st p.1 with
  | some (.ins C' fs) => if C' = C then match fs.lookup f with
      | some d => .ok (d, p.2)
      | none => .stuck
    else .stuck
  | _ => .stuck
theorem snd_fld {C : Addr} {f : Str} {te : TE} {m : RE → Out (D × RE)} (hC : Cls K C) (hN : NoAttr K C f) (h : Snd K E te m) : Snd K E (tFld K te f) (mFld C f m) := fun c σ H W r Q R w => by
  refine h c σ H W r _ R ((Wp.bnd w).mono (fun p q v H1 W1 R1 s1 h1 => ?_) fun _ _ x => x)
  split at q
  · rename_i C' fs e0
    split at q
    · rename_i hc
      subst hc
      split at q
      · rename_i d el
        obtain ⟨a, dx, us, rfl, ha, la⟩ := h1.at R1 e0
        obtain ⟨v, h3, h4⟩ := repF_look la el
        exact ⟨a, C', dx, us, v, rfl, ha, hC, hN, h3, q v H1 W1 R1 s1 h4⟩
      · exact q.elim
    · exact q.elim
  · exact q.elim
theorem path_fld {C : Addr} {f : Str} {te : TE} {m : RE → Out (D × RE)} (hC : Cls K C) (hN : NoAttr K C f) (h : SndPath K te m) : SndPath K (tFld K te f) (mFld C f m) := fun c σ H W r d r' R e => by
  unfold mFld at e
  cases em : m r with
  | exc x s => rw [em] at e; cases e
  | stuck => rw [em] at e; cases e
  | ok p =>
    obtain ⟨d0, r0⟩ := p
    rw [em, bnd_ok] at e
    obtain ⟨rfl, v, hv, hat⟩ := h c σ H W r d0 r0 R em
    simp only at e
    split at e
    · rename_i C' fs e0
      split at e
      · rename_i hc
        subst hc
        split at e
        · rename_i d1 el
          cases e
          obtain ⟨a, dx, us, rfl, ha, la⟩ := hv.at R e0
          obtain ⟨v1, h3, h4⟩ := repF_look la el
          exact ⟨rfl, v1, h4, fun H' Q k q => hat H' _ k ⟨a, C', dx, us, v1, rfl, k _ _ _ _ ha, hC, hN, h3, q⟩⟩
        · cases e
      · cases e
    · cases e
theorem nx_fld {C : Addr} {f : Str} {m : RE → Out (D × RE)} (nx : ∀ r x s, m r ≠ .exc x s) : ∀ r x s, mFld C f m r ≠ .exc x s := fun r x s e => by
  unfold mFld at e
  cases em : m r with
  | exc x s => exact nx _ _ _ em
  | stuck => rw [em] at e; cases e
  | ok p =>
    rw [em, bnd_ok] at e
    split at e
    · split at e
      · split at e <;> cases e
      · cases e
    · cases e
@[simp] def mSetF (C : Addr) (f : Str) (mo mv : RE → Out (D × RE)) : RE → Out Fl := fun r => (mv r).bnd fun v => (mo v.2).bnd fun o => match o.1 with
  | .cell i => match o.2.st[i]? with
    | some (.ins C' fs) => if C' = C ∧ fs.length < 1000 then .ok (.nx ⟨o.2.s, o.2.st.set i (.ins C (putFD f v.1 fs))⟩) else .stuck
    | _ => .stuck
  | _ => .stuck
theorem snds_fld {C : Addr} {f : Str} {to tv : TE} {mo mv : RE → Out (D × RE)} (hC : Cls K C) (hN : NoAttr K C f) (ho : Snd K E to mo) (hv : Snd K E tv mv) : SndS K E (sFld K to tv f) (mSetF C f mo mv) := fun c σ H W r Dd R w => by
  refine hv c σ H W r _ R ((Wp.bnd w).mono (fun p q v H1 W1 R1 s1 h1 => ?_) fun _ _ x => x)
  refine ho c σ H1 W1 p.2 _ R1 ((Wp.bnd q).mono (fun p2 q2 vo H2 W2 R2 s2 h2 => ?_) fun _ _ x => x)
  obtain ⟨od, or'⟩ := p2
  cases od <;> simp only at q2 <;> try exact q2.elim
  rename_i i
  simp only [RepD] at h2
  obtain ⟨a, ha, rfl⟩ := h2
  split at q2
  · rename_i C' fs e1
    split at q2
    · rename_i hc
      obtain ⟨rfl, hz⟩ := hc
      have ow := R2.ce i _ a e1 ha
      obtain ⟨b, dx, us, ea, hH, la⟩ := id ow
      cases ea
      refine ⟨a, C', dx, us, rfl, hH, hC, hN, by rw [← repF_len la]; exact hz, ?_⟩
      exact q2 σ _ W2 (R2.mut e1 ha (ow.nofrz rfl) ⟨a, dx, _, rfl, upd_same, repF_put (h1.mono s2) la⟩) (s1.trans s2)
    · exact q2.elim
  · exact q2.elim
/-! C(..) -/
theorem mk_sp {n : Nat} {C : Addr} {mf : Fn} {vs : List V} {Q : VK} (h : spP K n (mkF C mf) vs H Q E) {x dx : Addr} (hx : H x = none) (hdx : H dx = none) (hne : dx ≠ x) :
    spP K (n + 1) mf (.ref x :: vs) (upd (upd H dx (.own x)) x (.ins C dx [])) (fun v H2 => v = .non ∧ Q (.ref x) H2) E := by
  obtain ⟨hl, ds, st, W, R, rep, w⟩ := h
  have R1 : R0 K (fm0 H W) (upd H dx (.own x)) W st := R.ext (Ext.alloc0 R.gh hdx)
  have hx1 : (upd H dx (.own x)) x = none := by rw [upd_ne (Ne.symm hne)]; exact hx
  obtain ⟨R2, f2⟩ := R1.fresh (o := .ins C dx []) (d := .ins C []) hx1 ⟨x, dx, [], rfl, upd_same, by simp only [RepF]⟩
  obtain ⟨R3, h3⟩ := R2.newCell f2
  refine ⟨by simp only [List.length_cons, hl], .cell st.length :: ds, st ++ [.ins C []], W.add x, R3.entry, ?_, ?_⟩
  · simp only [RepL]
    exact ⟨_, _, rfl, h3, rep.mono Le.add⟩
  · unfold mkF at w
    refine (Wp.bnd w).mono (fun p q v H2 W2 R4 hv => ?_) fun x st hx => XP.call R3 hx
    obtain ⟨d, st2⟩ := p
    cases d <;> simp only at q <;> try exact q.elim
    simp only [RepD] at hv
    subst hv
    exact ⟨rfl, q (.ref x) H2 W2 (RR.call R3 R4) (h3.mono R4.g0)⟩
theorem hn_mk {n : Nat} {C : Addr} {m : Fn} (h : HasN (n + 1) m) : HasN n (mkF C m) := fun ds st z => by
  have := h (.cell st.length :: ds) (st ++ [.ins C []]) fun e => z (by unfold mkF; rw [e]; rfl)
  simpa using this
theorem nxf_mk {C : Addr} {m : Fn} (h : NoXF m) : NoXF (mkF C m) := fun ds st x st' e => by
  unfold mkF at e
  cases e2 : m (.cell st.length :: ds) (st ++ [.ins C []]) with
  | exc x s => exact h _ _ _ _ e2
  | stuck => rw [e2] at e; cases e
  | ok p => rw [e2, bnd_ok] at e; split at e <;> cases e
theorem snd_make {C : Addr} {ta : TA} {ms : RE → Out (List D × RE)} {n : Nat} {m : Fn} {dd : List D} {dvs : List V} {mg : Fn} (hn : HasN n mg) (nx : NoXF mg) (hg : ∀ vs H Q, spP K n mg vs H Q E0 → spP K n (mkF C m) vs H Q E0) (hd : ∀ W, RepL K W dd dvs) (h : SndA K E ta ms) : Snd K E (tMake C (spN K (n + 1) m) dvs E0 ta) (mCall mg dd ms) := fun c σ H W r Q R w => by
  refine h c σ H W r _ R ((Wp.bnd w).mono (fun p q vs H1 W1 R1 s1 h1 x dx hx hdx hne => ?_) fun _ _ x => x)
  have rl := repL_app h1 (hd W1)
  refine mk_sp (hg _ _ _ ⟨?_, p.1 ++ dd, p.2.st, W1, R1.entry, rl, ?_⟩) hx hdx hne
  · rw [← repL_len rl]
    refine hn _ p.2.st fun z => ?_
    simp only [z] at q; exact q
  · cases e : mg (p.1 ++ dd) p.2.st with
    | ok d =>
      simp only [e, bnd_ok] at q
      exact fun v H' W' a hv => q v H' W' (RR.call R1 a) (s1.trans a.g0) hv
    | exc x st => exact absurd e (nx _ _ _ _)
    | stuck => simp only [e] at q; exact q.elim
/-! properties, methods -/
@[simp] def mProp (C : Addr) (mf : Fn) (m : RE → Out (D × RE)) : RE → Out (D × RE) := fun r => (m r).bnd fun p => match dr p.2.st p.1 with
  | some (.ins C' _) => if C' = C then (mf [p.1] p.2.st).bnd fun q => .ok (q.1, ⟨p.2.s, q.2⟩) else .stuck
  | _ => .stuck
theorem snd_prop {C : Addr} {te : TE} {m : RE → Out (D × RE)} {mf : Fn} (nx : NoXF mf) (h : Snd K E te m) : Snd K E (tProp C (spN K 1 mf) [] E0 te) (mProp C mf m) := fun c σ H W r Q R w => by
  refine h c σ H W r _ R ((Wp.bnd w).mono (fun p q v H1 W1 R1 s1 h1 => ?_) fun _ _ x => x)
  split at q
  · rename_i C' fs e0
    split at q
    · rename_i hc
      subst hc
      obtain ⟨a, dx, us, rfl, ha, la⟩ := h1.at R1 e0
      refine ⟨a, dx, us, rfl, ha, rfl, [p.1], p.2.st, W1, R1.entry, repL_one h1, ?_⟩
      cases e : mf [p.1] p.2.st with
      | ok d =>
        simp only [e, bnd_ok] at q
        exact fun v H' W' a hv => q v H' W' (RR.call R1 a) (s1.trans a.g0) hv
      | exc x st => exact absurd e (nx _ _ _ _)
      | stuck => simp only [e] at q; exact q.elim
    · exact q.elim
  · exact q.elim
@[simp] def mMeth (C : Addr) (mname : Str) (mf : Fn) (dd : List D) (m : RE → Out (D × RE)) (ms : RE → Out (List D × RE)) : RE → Out (D × RE) := fun r => (m r).bnd fun p => match dr p.2.st p.1 with
  | some (.ins C' fs) => if C' = C ∧ (fs.lookup mname).isNone = true then (ms p.2).bnd fun q => (mf (p.1 :: (q.1 ++ dd)) q.2.st).bnd fun z => .ok (z.1, ⟨q.2.s, z.2⟩) else .stuck
  | _ => .stuck
theorem snd_meth {C : Addr} {mname : Str} {te : TE} {ta : TA} {m : RE → Out (D × RE)} {ms : RE → Out (List D × RE)} {n : Nat} {mf : Fn} {dd : List D} {dvs : List V} (hn : HasN n mf) (nx : NoXF mf) (hd : ∀ W, RepL K W dd dvs) (h : Snd K E te m) (ha : SndA K E ta ms) : Snd K E (tMeth C mname (spN K n mf) dvs E0 te ta) (mMeth C mname mf dd m ms) := fun c σ H W r Q R w => by
  refine h c σ H W r _ R ((Wp.bnd w).mono (fun p q v H1 W1 R1 s1 h1 => ?_) fun _ _ x => x)
  split at q
  · rename_i C' fs e0
    split at q
    · rename_i hc
      obtain ⟨rfl, hno⟩ := hc
      obtain ⟨a, dx, us, rfl, hH, la⟩ := h1.at R1 e0
      refine ⟨a, dx, us, rfl, hH, repF_none la (by simpa using hno), ?_⟩
      refine ha c σ H1 W1 p.2 _ R1 ((Wp.bnd q).mono (fun p2 q2 vs H2 W2 R2 s2 h2 => ?_) fun _ _ x => x)
      have rl : RepL K W2 (p.1 :: (p2.1 ++ dd)) (.ref a :: (vs ++ dvs)) := by
        simp only [RepL]
        exact ⟨_, _, rfl, h1.mono s2, repL_app h2 (hd W2)⟩
      refine ⟨?_, p.1 :: (p2.1 ++ dd), p2.2.st, W2, R2.entry, rl, ?_⟩
      · rw [← repL_len rl]
        refine hn _ p2.2.st fun z => ?_
        simp only [z] at q2; exact q2
      · cases e : mf (p.1 :: (p2.1 ++ dd)) p2.2.st with
        | ok d =>
          simp only [e, bnd_ok] at q2
          exact fun v H' W' a hv => q2 v H' W' (RR.call R2 a) ((s1.trans s2).trans a.g0) hv
        | exc x st => exact absurd e (nx _ _ _ _)
        | stuck => simp only [e] at q2; exact q2.elim
    · exact q.elim
  · exact q.elim
end
/-- what is known of a def at f that raises nothing -/
structure FnA (P : Program) (w : World) (K : PySem.W.Frag) (mg : Str → Option Value) (base : Heap) (k : Nat) (f : Addr) (n : Nat) (mf : Fn) (ds : List Value) : Prop where
  ex : ∃ fd ps, FnOk P w K mg base CX0 k f fd ps (spN K n mf) ∧ Binds K fd ps ds
  hn : HasN n mf
  nx : NoXF mf
section
variable {P : Program} {w : World} {K : PySem.W.Frag} {mg : Str → Option Value} {base : Heap}
theorem fna_k {x qual : Str} {st : Stmt} {f : Addr} {fd : FuncData} {N ps : List Str} {k : Nat} {mb : RE → Out Fl} {ds : List Value} (F : Fun K x qual st f fd) (S : FnScope N ps (defScope st)) (hbi : Binds K fd ps ds)
    (hb : ∀ (cdv : Value) (A : Around) (outer : List PySem.Env) (s : Shared) (H : Hp) (E : XK), Room k (A.deeper (envOfC qual (defScope st) s.heap.objs.size f cdv)) →
      BM (cxOf CX0 P w K mg base N qual (defScope st) f cdv A outer s H E).nox E0 (defBody st) mb) :
    FnA P w K mg base (k + 1) f ps.length (n0 (fnK ps.length N.length mb)) ds := ⟨⟨fd, ps, fn_0 F S hb, hbi⟩, hn_0 hn_k, nxf_0⟩
theorem FnA.cut {k n : Nat} {f : Addr} {mf : Fn} {ds : List Value} (F : FnA P w K mg base k f n mf ds) : FnA P w K mg base k f n (cutF mf) ds :=
  let ⟨fd, ps, h1, h2⟩ := F.ex; ⟨⟨fd, ps, h1.imp fun vs H Q E h => sp_cut h, h2⟩, hn_c F.hn, nxf_c F.nx⟩
theorem FnA.mono {k j n : Nat} {f : Addr} {mf : Fn} {ds : List Value} (F : FnA P w K mg base k f n mf ds) (h : k ≤ j) : FnA P w K mg base j f n mf ds :=
  let ⟨fd, ps, h1, h2⟩ := F.ex; ⟨⟨fd, ps, h1.mono h, h2⟩, F.hn, F.nx⟩
end
section
variable {X : Cx} {E : XK} {a b c e o : PySem.Expr} {es : List PySem.Expr} {pos p tpos apos : Pos} {x f : Str} {C g : Addr}
variable {ma mb m oa ob mo mv : RE → Out (D × RE)} {as_ : RE → Out (List D × RE)}
theorem em_fld (C : Addr) (hC : Cls X.K C) (hN : NoAttr X.K C f) (h : EM X E e m) (hb : attributeBase e f X.env (eval e X.env) = eval e X.env := by rfl) : EM X E (.Attribute e f pos) (mFld C f m) := let ⟨_, h1, h2⟩ := h; ⟨_, pe_fld h1 hb, snd_fld hC hN h2⟩
theorem pm_fld (C : Addr) (hC : Cls X.K C) (hN : NoAttr X.K C f) (h : PathM X e m) (hb : attributeBase e f X.env (eval e X.env) = eval e X.env := by rfl) : PathM X (.Attribute e f pos) (mFld C f m) := let ⟨_, h1, h2, h3⟩ := h; ⟨_, pe_fld h1 hb, path_fld hC hN h2, nx_fld h3⟩
theorem sm_fld (C : Addr) (hC : Cls X.K C) (hN : NoAttr X.K C f) (ho : EM X E o mo) (hv : EM X E e mv) (hs : swapsWith e (some (.Attribute o f tpos)) pos.line X.env = pure false := by rfl) : SM X E (.Assign [.Attribute o f tpos] e pos) (mSetF C f mo mv) := let ⟨_, o1, o2⟩ := ho; let ⟨_, v1, v2⟩ := hv; ⟨_, ps_fld o1 v1 hs, snds_fld hC hN o2 v2⟩
/-- C(..), frozen as soon as it stands -/
theorem em_make {k j n : Nat} {mf : Fn} {dd : List D} {dvs : List V} {ds : List Value} (M : Mk X.K C g) (F : FnA X.prog X.w X.K X.mg X.base k g (n + 1) mf ds) (hr : Room j X.A) (hm : X.mg x = some (.ref C)) (hd : Vals dvs ds) (hdd : ∀ W, RepL X.K W dd dvs) (h : AM X E (e :: es) as_) (hj : k + 1 ≤ j := by decide) (hg : Gl X x := by rfl)
    (hdb : (x == ("__debug__" : Str)) = false := by decide) (he : starEach (e :: es) X.env = (false, eval e X.env) :: starEach es X.env := by rfl) (hpl : (backTo pos (starEach es X.env)).any (·.1) = false := by rfl) :
    EM X E (.Call (.Name x p) (e :: es) [] pos) (mCall (cutF (mkF C mf)) dd as_) := by
  obtain ⟨_, h1, h2⟩ := h
  obtain ⟨fd, ps, F1, F2⟩ := F.ex
  exact ⟨_, pe_make M F1 (hr.mono hj) hg hm F2 hd pass0 h1 hdb he hpl, snd_make (hn_c (hn_mk F.hn)) (nxf_c (nxf_mk F.nx)) (fun _ _ _ h => sp_cut h) hdd h2⟩
/-- C(..), as a cell -/
theorem em_makeK {k j n : Nat} {mf : Fn} {dd : List D} {dvs : List V} {ds : List Value} (M : Mk X.K C g) (F : FnA X.prog X.w X.K X.mg X.base k g (n + 1) mf ds) (hr : Room j X.A) (hm : X.mg x = some (.ref C)) (hd : Vals dvs ds) (hdd : ∀ W, RepL X.K W dd dvs) (h : AM X E (e :: es) as_) (hj : k + 1 ≤ j := by decide) (hg : Gl X x := by rfl)
    (hdb : (x == ("__debug__" : Str)) = false := by decide) (he : starEach (e :: es) X.env = (false, eval e X.env) :: starEach es X.env := by rfl) (hpl : (backTo pos (starEach es X.env)).any (·.1) = false := by rfl) :
    EM X E (.Call (.Name x p) (e :: es) [] pos) (mCall (mkF C mf) dd as_) := by
  obtain ⟨_, h1, h2⟩ := h
  obtain ⟨fd, ps, F1, F2⟩ := F.ex
  exact ⟨_, pe_make M F1 (hr.mono hj) hg hm F2 hd pass0 h1 hdb he hpl, snd_make (hn_mk F.hn) (nxf_mk F.nx) (fun _ _ _ h => h) hdd h2⟩
theorem em_prop {k j : Nat} {mf : Fn} {q : Addr} (hC : Cls X.K C) (hp : PropOf X.K C f q g) (F : FnA X.prog X.w X.K X.mg X.base k g 1 mf []) (hr : Room j X.A) (h : EM X E e m) (hj : k + 1 ≤ j := by decide) (hab : attributeBase e f X.env (eval e X.env) = eval e X.env := by rfl) : EM X E (.Attribute e f pos) (mProp C mf m) := by
  obtain ⟨_, h1, h2⟩ := h
  obtain ⟨fd, ps, F1, F2⟩ := F.ex
  exact ⟨_, pe_prop h1 hC hp F1 (hr.mono hj) F2 .nil pass0 hab, snd_prop F.nx h2⟩
end
end Mir

set_option maxHeartbeats 400000
namespace Mir
open PySem PySem.Spec PyProof.Rows L2
section
variable {P : Program} {w : World} {K : PySem.W.Frag} {mg : Str → Option Value} {base : Heap}
/-- a def with one default, None -/
theorem funD_mk {x qual : Str} {st : Stmt} {f T : Addr} {oc tc : Value} {od an td : Option Addr} {osl tsl : Array (Option Value)} {kV doc pm cdv ct : Value} {n : Nat} (l : K.lookup f = some ⟨oc, od, .func (PySem.W.fnOf x qual (defArgs st) (defBody st) (defScope st) (.ref T) kV doc pm an cdv ct), osl⟩)
    (c : PySem.W.codeIn K cdv qual = true) (k : PySem.W.keepIn K (.ref f) = true) (t : K.lookup T = some ⟨tc, td, .seq #[.none] n, tsl⟩) : FunD K x qual (defArgs st) (defBody st) (defScope st) [.non] [] f (PySem.W.fnOf x qual (defArgs st) (defBody st) (defScope st) (.ref T) kV doc pm an cdv ct) :=
  ⟨⟨oc, od, .ref T, kV, doc, pm, an, cdv, ct, osl, rfl, l, c, .inr ⟨by simp, T, _, [.none], n, rfl, t, rfl, .cons rfl .nil⟩, .inl rfl⟩, k⟩
theorem fnaD_k {x qual : Str} {st : Stmt} {f : Addr} {fd : FuncData} {N ps : List Str} {k : Nat} {mb : RE → Out Fl} {ds : List Value} {dvs : List V} (F : FunD K x qual (defArgs st) (defBody st) (defScope st) dvs [] f fd) (S : FnScope N ps (defScope st)) (hbi : Binds K fd ps ds)
    (hb : ∀ (cdv : Value) (A : Around) (outer : List PySem.Env) (s : Shared) (H : Hp) (E : XK), Room k (A.deeper (envOfC qual (defScope st) s.heap.objs.size f cdv)) →
      BM (cxOf CX0 P w K mg base N qual (defScope st) f cdv A outer s H E).nox E0 (defBody st) mb) :
    FnA P w K mg base (k + 1) f ps.length (n0 (fnK ps.length N.length mb)) ds := by
  refine ⟨⟨fd, ps, ?_, hbi⟩, hn_0 hn_k, nxf_0⟩
  refine F.ok S (fun vs H Q E h => h.1) (fun cdv A outer s H vs Q E hr h => ?_)
  obtain ⟨hl, ds, sto, W, R, rep, wp⟩ := h
  obtain ⟨ts, hp, hs⟩ := hb cdv A outer s H E hr
  refine ⟨ts, PSs.nox hp, hs _ _ _ _ _ _ (rr_start R rep) (body_post ?_)⟩
  unfold n0 fnK at wp
  split at wp
  · exact wp.noX
  · exact wp.elim
theorem FnA.nil {k n : Nat} {f : Addr} {mf : Fn} {ds : List Value} (F : FnA P w K mg base k f n mf ds) (h : Vals [] ds) : FnA P w K mg base k f n mf [] := by cases h; exact F
theorem Binds.nil {fd : FuncData} {ps : List Str} (h : ∃ ds, Vals [] ds ∧ Binds K fd ps ds) : Binds K fd ps [] := by
  obtain ⟨ds, h1, h2⟩ := h
  cases h1
  exact h2
/-! ## the end of a law -/
theorem repL_ints {W : Wd} : ∀ ns : List Int, RepL K W (ns.map D.int) (ns.map V.int)
  | [] => by simp only [List.map_nil, RepL]
  | n :: ns => by
    rw [List.map_cons, List.map_cons]
    simp only [RepL]
    exact ⟨_, _, rfl, repD_int, repL_ints ns⟩
/-- nothing is a cell ahead of the law's call -/
theorem r0_zero (H : Hp) : R0 K (fm0 H ⟨H, []⟩) H ⟨H, []⟩ [] :=
  ⟨Sub.refl H, Le.refl _, fun a u e => .inl (by have e : H a = some u := e; show H a ≠ none; rw [e]; simp), fun a u e => ⟨fun _ => ⟨⟨u, e, rfl⟩, fun _ => e⟩, fun _ _ _ => e⟩, fun a ha => absurd ha (by simp), rfl, fun i d e => by simp at e, rfl, fun i d a h1 h2 => by simp at h2, fun a ha => absurd ha (by simp), by simp, fun p z => absurd z (by simp)⟩
theorem law_end {H : Hp} {a : Addr} {ns : List Int} {m : Fn} {st' : Sto} {Q : VK} {E : XK} (hS : SqL K H a (ns.map V.int)) (e : m [.frl (ns.map D.int)] [] = .ok (.bl true, st')) (k : ∀ H', Q (.bl true) H') : spN K 1 m [.ref a] H Q E := by
  refine ⟨rfl, [.frl (ns.map D.int)], [], ⟨H, []⟩, r0_zero H, ?_, ?_⟩
  · simp only [RepL, RepD]
    exact ⟨_, _, rfl, ⟨a, _, rfl, hS, repL_ints ns⟩, rfl⟩
  · rw [e]
    intro v H' W' _ hv
    simp only [RepD] at hv
    subst hv
    exact k H'
end
end Mir

set_option maxHeartbeats 400000
namespace Mir
open PySem PySem.Spec PyProof.Rows L2
theorem nl_dnew : NL mDnew := fun r d r' e => by cases e; rfl
theorem nl_dnewT : NL mDnewT := fun r d r' e => by cases e; rfl
theorem nl_disp {mp : RE → Out (List (Key × D) × RE)} : NL (mDisp mp) := nl_bnd fun a d r' e => by first | (cases e; rfl) | (split at e <;> cases e; rfl)
theorem nl_d1 {f : D → Out D} {as_ : RE → Out (List D × RE)} (h : ∀ a d, f a = .ok d → isLck d = false) : NL (mArgs (d1 f) as_) := nl_args fun ds d e => by
  unfold d1 at e
  split at e
  · exact h _ _ e
  · cases e
theorem nl_list {as_ : RE → Out (List D × RE)} : NL (mArgs (d1 dList) as_) := nl_d1 fun a d e => by cases a <;> cases e <;> rfl
theorem nl_dict {as_ : RE → Out (List D × RE)} : NL (mArgs (d1 dDict) as_) := nl_d1 fun a d e => by cases a <;> cases e <;> rfl
theorem nl_listD {as_ : RE → Out (List D × RE)} : NL (mArgs (d1 dListD) as_) := nl_d1 fun a d e => by cases a <;> cases e <;> rfl
theorem nl_rev {m : RE → Out (D × RE)} : NL (mOp1 dRev m) := nl_bnd fun a d r' e => by
  split at e
  · rename_i dx _
    cases dx <;> first | (cases e; rfl) | cases e
  · cases e
/-! bundles -/
section
variable {P : Program} {w : World} {K : PySem.W.Frag} {mg : Str → Option Value} {base : Heap}
structure Prp (P : Program) (w : World) (K : PySem.W.Frag) (mg : Str → Option Value) (base : Heap) (k : Nat) (C : Addr) (f : Str) (mf : Fn) : Prop where
  ex : ∃ q g, PropOf K C f q g ∧ FnA P w K mg base k g 1 mf []
theorem Prp.cut {k : Nat} {C : Addr} {f : Str} {mf : Fn} (h : Prp P w K mg base k C f mf) : Prp P w K mg base k C f (cutF mf) := let ⟨q, g, h1, h2⟩ := h.ex; ⟨q, g, h1, h2.cut⟩
structure Mkr (P : Program) (w : World) (K : PySem.W.Frag) (mg : Str → Option Value) (base : Heap) (k : Nat) (x : Str) (C : Addr) (n : Nat) (mf : Fn) : Prop where
  ex : ∃ g, Mk K C g ∧ mg x = some (.ref C) ∧ FnA P w K mg base k g (n + 1) mf []
structure Mth (P : Program) (w : World) (K : PySem.W.Frag) (mg : Str → Option Value) (base : Heap) (k : Nat) (C : Addr) (m : Str) (n : Nat) (mf : Fn) : Prop where
  ex : ∃ g, Cls K C ∧ Meth K C m g ∧ FnA P w K mg base k g n mf []
theorem Mth.cut {k n : Nat} {C : Addr} {f : Str} {mf : Fn} (h : Mth P w K mg base k C f n mf) : Mth P w K mg base k C f n (cutF mf) := let ⟨g, h1, h2, h3⟩ := h.ex; ⟨g, h1, h2, h3.cut⟩
/-- a def that is not called: the bottom of a recursion -/
def stuckF : Fn := fun _ _ => .stuck
theorem fn0_stuck {x qual : Str} {st : Stmt} {f : Addr} {fd : FuncData} {ps : List Str} (F : Fun K x qual st f fd) (hg : mg x = some (.ref f)) (hbi : Binds K fd ps []) (k n : Nat) : Fn0 P w K mg base k x n stuckF where
  ex := ⟨f, fd, ps, ⟨fun vs H Q E h => by obtain ⟨_, ds, st, W, _, _, h⟩ := h; exact h.elim, fun A outer s H args us vs Q E hr e0 hb hv h => by obtain ⟨_, ds, st, W, _, _, h⟩ := h; exact h.elim⟩, hg, F.kp, hbi⟩
  hn := fun ds st h => absurd rfl h
  nx := fun ds st x st' h => by cases h
end
section
variable {X : Cx} {E : XK} {e o : PySem.Expr} {es : List PySem.Expr} {pos p apos : Pos} {x f : Str} {C : Addr} {m mo : RE → Out (D × RE)} {as_ : RE → Out (List D × RE)}
theorem em_prp {k j : Nat} {mf : Fn} (hC : Cls X.K C) (F : Prp X.prog X.w X.K X.mg X.base k C f mf) (hr : Room j X.A) (h : EM X E e m) (hj : k + 1 ≤ j := by decide) (hab : attributeBase e f X.env (eval e X.env) = eval e X.env := by rfl) : EM X E (.Attribute e f pos) (mProp C mf m) :=
  let ⟨_, _, h1, h2⟩ := F.ex; em_prop hC h1 h2 hr h hj hab
/-- C(..), all parameters written -/
theorem em_mkr {k j n : Nat} {mf : Fn} (F : Mkr X.prog X.w X.K X.mg X.base k x C n mf) (hr : Room j X.A) (h : AM X E (e :: es) as_) (hj : k + 1 ≤ j := by decide) (hg : Gl X x := by rfl)
    (hdb : (x == ("__debug__" : Str)) = false := by decide) (he : starEach (e :: es) X.env = (false, eval e X.env) :: starEach es X.env := by rfl) (hpl : (backTo pos (starEach es X.env)).any (·.1) = false := by rfl) :
    EM X E (.Call (.Name x p) (e :: es) [] pos) (mCall (cutF (mkF C mf)) [] as_) := let ⟨_, h1, h2, h3⟩ := F.ex; em_make h1 h3 hr h2 .nil (fun _ => by simp only [RepL]) h hj hg hdb he hpl
theorem em_mkrK {k j n : Nat} {mf : Fn} (F : Mkr X.prog X.w X.K X.mg X.base k x C n mf) (hr : Room j X.A) (h : AM X E (e :: es) as_) (hj : k + 1 ≤ j := by decide) (hg : Gl X x := by rfl)
    (hdb : (x == ("__debug__" : Str)) = false := by decide) (he : starEach (e :: es) X.env = (false, eval e X.env) :: starEach es X.env := by rfl) (hpl : (backTo pos (starEach es X.env)).any (·.1) = false := by rfl) :
    EM X E (.Call (.Name x p) (e :: es) [] pos) (mCall (mkF C mf) [] as_) := let ⟨_, h1, h2, h3⟩ := F.ex; em_makeK h1 h3 hr h2 .nil (fun _ => by simp only [RepL]) h hj hg hdb he hpl
theorem em_mth {k j n : Nat} {mf : Fn} {pl : Sem Bool} (F : Mth X.prog X.w X.K X.mg X.base k C f n mf) (hr : Room j X.A) (ho : EM X E o mo) (h : AM X E (e :: es) as_) (hj : k ≤ j := by decide)
    (hst : starEach (e :: es) X.env = (false, eval e X.env) :: starEach es X.env := by rfl) (hpl : (backTo pos (starEach es X.env)).any (·.1) = false := by rfl)
    (ht : eval (.Call (.Attribute o f apos) (e :: es) [] pos) X.env = (do
      let ov ← eval o X.env
      standAt apos.atName
      let (f, first) ← holding [ov] (getMethod ov f pl)
      callWith pos f first (backTo pos (starEach (e :: es) X.env)) (backToKw pos (keywordEach [] X.env))) := by rfl) :
    EM X E (.Call (.Attribute o f apos) (e :: es) [] pos) (mMeth C f mf [] mo as_) := by
  obtain ⟨_, o1, o2⟩ := ho
  obtain ⟨_, h1, h2⟩ := h
  obtain ⟨g, hc, hm, hF⟩ := F.ex
  obtain ⟨fd, ps, F1, F2⟩ := hF.ex
  exact ⟨_, pe_meth (pl := pl) o1 hc hm F1 (hr.mono hj) F2 .nil pass0 h1 hst hpl ht, snd_meth hF.hn hF.nx (fun _ => by simp only [RepL]) o2 h2⟩
end
/-! plain: a cut of what holds no cell of its own -/
theorem cut_pure {m : Fn} {ds : List D} {st j : Sto} {d : D} (h : m ds st = .ok (d, st ++ j)) (ok : okC st.length d = true) : cutF m ds st = .ok (d, st) := by
  unfold cutF
  rw [h]
  simp only [cutR, cutSt_app, rsv_ok ok]
theorem cut_pure0 {m : Fn} {ds : List D} {st : Sto} {d : D} (h : m ds st = .ok (d, st)) (ok : okC st.length d = true) : cutF m ds st = .ok (d, st) := cut_pure (j := []) (by rw [List.append_nil]; exact h) ok
theorem cut_rsv {m : Fn} {ds : List D} {st j : Sto} {d d' : D} (h : m ds st = .ok (d, st ++ j)) (ok : rsv (st ++ j) st.length 20 d = some d') : cutF m ds st = .ok (d', st) := by
  unfold cutF
  rw [h]
  simp only [cutR, cutSt_app, ok]
end Mir
namespace Mir
/-- where the classes of the text stand -/
structure Cl where
  Machine : PySem.Addr
  Watch : PySem.Addr
  Post : PySem.Addr
  Views : PySem.Addr
  Trial : PySem.Addr
  KnowError : PySem.Addr
  BadState : PySem.Addr
  BadSteps : PySem.Addr
  BadFaults : PySem.Addr
  NotLive : PySem.Addr
  BadWord : PySem.Addr
  BadWatch : PySem.Addr
  BadWatches : PySem.Addr
  BadRun : PySem.Addr
  BadSights : PySem.Addr
  NoFault : PySem.Addr
  BadCount : PySem.Addr
  BadCosts : PySem.Addr
  BadRows : PySem.Addr
  BadProbes : PySem.Addr
  TooMany : PySem.Addr
  NotText : PySem.Addr
  NothingDone : PySem.Addr
end Mir

set_option maxHeartbeats 400000
namespace Mir
open PySem PySem.Spec PyProof.Rows L2
/-! ## == by an own __eq__ -/
def rOwn (C : Addr) (sp : Sp) (E : XK) : R2 := fun x y H Q => ∃ a b dx dy fs gs, x = .ref a ∧ y = .ref b ∧ H a = some (.ins C dx fs) ∧ H b = some (.ins C dy gs) ∧ sp [x, y] H (fun v H' => (∃ k, v = .bl k) ∧ Q v H') E
theorem op_own {X : Cx} {n : Nat} {C f : Addr} {fd : FuncData} {ps : List Str} {sp : Sp} {E : XK} (F : FnOk X.prog X.w X.K X.mg X.base CX0 n f fd ps sp)
    (hs : PySem.W.findIn X.K (.ref C) "__eq__" = some (some (.ref f))) (hf : PySem.W.isFn X.K (.ref f) = true) (hb : Binds X.K fd ps []) (hr : Room n X.A) : OpR X (compareOp .Eq) (rOwn C sp E) := by
  intro pins s σ H x y v u Q I rx ry hq
  obtain ⟨a, b, dx, dy, fs, gs, rfl, rfl, ha, hb', hsp⟩ := hq
  show wpAny (model X.prog X.w) X.A (richCompare .Eq v u) (EP X pins σ Q) X.xe s
  cases rx
  cases ry
  obtain ⟨mA, J, _⟩ := ins_get I.hok ha
  obtain ⟨mB, J', _⟩ := ins_get I.hok hb'
  obtain ⟨od, J, _⟩ := J.look
  obtain ⟨od', J', _⟩ := J'.look
  obtain ⟨m, hF⟩ := I.fr
  refine PySem.W.cmp_K (op := .Eq) (tb := .ref C) hr.units0 hF I.ok.mod.kin J J'.type (by simp [PySem.W.notFirst]) hs hf ?_
  have hl := F.len _ _ _ _ hsp
  have r2 : Vals [V.ref a, V.ref b] [Value.ref a, Value.ref b] := .cons rfl (.cons rfl .nil)
  refine wpAny_call (codeAny_mono (F.run X.A X.stack s H ⟨[.ref a, .ref b], []⟩ [.ref a, .ref b] [.ref a, .ref b] _ E hr I.env0 (by
    have := hb s [.ref a, .ref b] I.kIn (by simpa using hl)
    simpa using this) r2 hsp) fun r s' hq => ?_)
  cases r with
  | error e => exact hq.elim
  | ok fl =>
    cases fl with
    | ret w =>
      obtain ⟨z, H', I', rz, ⟨k, ez⟩, q⟩ := I.after hq
      subst ez
      cases rz
      exact ⟨.bl k, H', I', rfl, q⟩
    | next => exact False.elim hq
    | brk => exact False.elim hq
    | cont => exact False.elim hq
@[simp] def mEqO (C : Addr) (mf : Fn) (ma mb : RE → Out (D × RE)) : RE → Out (D × RE) := fun r => (ma r).bnd fun p => (mb p.2).bnd fun q => match dr q.2.st p.1, dr q.2.st q.1 with
  | some (.ins A _), some (.ins B _) => if A = C ∧ B = C then (mf [p.1, q.1] q.2.st).bnd fun z => match z.1 with
      | .bl k => .ok (.bl k, ⟨q.2.s, z.2⟩)
      | _ => .stuck
    else .stuck
  | _, _ => .stuck
section
variable {K : PySem.W.Frag} {E : XK}
theorem snd_own {C : Addr} {mf : Fn} {ta tb : TE} {ma mb : RE → Out (D × RE)} (nx : NoXF mf) (ha : Snd K E ta ma) (hb : Snd K E tb mb) : Snd K E (tOp (rOwn C (spN K 2 mf) E0) ta tb) (mEqO C mf ma mb) := fun c σ H W r Q R w => by
  refine ha c σ H W r _ R ((Wp.bnd w).mono (fun p q v1 H1 W1 R1 s1 h1 => ?_) fun _ _ x => x)
  refine hb c σ H1 W1 p.2 _ R1 ((Wp.bnd q).mono (fun p2 q2 v2 H2 W2 R2 s2 h2 => ?_) fun _ _ x => x)
  have h1' := h1.mono s2
  split at q2
  · rename_i A fsA B fsB e1 e2
    split at q2
    · rename_i hc
      obtain ⟨rfl, rfl⟩ := hc
      obtain ⟨a, dx, us, rfl, hA, la⟩ := h1'.at R2 e1
      obtain ⟨b, dy, vs, rfl, hB, lb⟩ := h2.at R2 e2
      have rl : RepL K W2 [p.1, p2.1] [.ref a, .ref b] := by
        simp only [RepL]
        exact ⟨_, _, rfl, h1', _, _, rfl, h2, rfl⟩
      refine ⟨a, b, dx, dy, us, vs, rfl, rfl, hA, hB, rfl, [p.1, p2.1], p2.2.st, W2, R2.entry, rl, ?_⟩
      cases e : mf [p.1, p2.1] p2.2.st with
      | ok d =>
        simp only [e, bnd_ok] at q2
        intro v H' W' a' hv
        obtain ⟨d1, st1⟩ := d
        cases d1 <;> simp only at q2 <;> try exact q2.elim
        rename_i k
        refine ⟨⟨k, by simpa only [RepD] using hv⟩, q2 v H' W' (RR.call R2 a') ((s1.trans s2).trans a'.g0) hv⟩
      | exc x st => exact absurd e (nx _ _ _ _)
      | stuck => simp only [e] at q2; exact q2.elim
    · exact q2.elim
  · exact q2.elim
end
structure EqO (P : Program) (w : World) (K : PySem.W.Frag) (mg : Str → Option Value) (base : Heap) (k : Nat) (C : Addr) (mf : Fn) : Prop where
  ex : ∃ g, PySem.W.findIn K (.ref C) "__eq__" = some (some (.ref g)) ∧ PySem.W.isFn K (.ref g) = true ∧ FnA P w K mg base k g 2 mf []
theorem EqO.cut {P : Program} {w : World} {K : PySem.W.Frag} {mg : Str → Option Value} {base : Heap} {k : Nat} {C : Addr} {mf : Fn} (h : EqO P w K mg base k C mf) : EqO P w K mg base k C (cutF mf) := let ⟨g, h1, h2, h3⟩ := h.ex; ⟨g, h1, h2, h3.cut⟩
section
variable {X : Cx} {E : XK} {a b e : PySem.Expr} {pos p : Pos} {C : Addr} {ma mb m : RE → Out (D × RE)}
theorem em_eqO {k j : Nat} {mf : Fn} (F : EqO X.prog X.w X.K X.mg X.base k C mf) (hr : Room j X.A) (ha : EM X E a ma) (hb : EM X E b mb) (hj : k ≤ j := by decide) (hm : behindInMarks .Eq b = false := by first | exact nomark _ | rfl) : EM X E (.Compare a [.Eq] [b] pos) (mEqO C mf ma mb) := by
  obtain ⟨_, a1, a2⟩ := ha
  obtain ⟨_, b1, b2⟩ := hb
  obtain ⟨g, h1, h2, h3⟩ := F.ex
  obtain ⟨fd, ps, F1, F2⟩ := h3.ex
  exact ⟨_, pe_cmpR (op_own (E := E0) F1 h1 h2 F2 (hr.mono hj)) a1 b1 hm, snd_own h3.nx a2 b2⟩
theorem tm_eqO {k j : Nat} {mf : Fn} (F : EqO X.prog X.w X.K X.mg X.base k C mf) (hr : Room j X.A) (ha : EM X E a ma) (hb : EM X E b mb) (hj : k ≤ j := by decide) (hm : behindInMarks .Eq b = false := by first | exact nomark _ | rfl) : TM X E (.Compare a [.Eq] [b] pos) (mBool (mEqO C mf ma mb)) := by
  obtain ⟨_, a1, a2⟩ := ha
  obtain ⟨_, b1, b2⟩ := hb
  obtain ⟨g, h1, h2, h3⟩ := F.ex
  obtain ⟨fd, ps, F1, F2⟩ := h3.ex
  exact ⟨_, pt_cmpR (op_own (E := E0) F1 h1 h2 F2 (hr.mono hj)) a1 b1 hm, snd_test (snd_own h3.nx a2 b2)⟩
end
end Mir

set_option maxHeartbeats 400000
namespace Mir
open PySem PySem.Spec PyProof.Rows L2
/-! ## isinstance(x, C), C an own class -/
structure IsO (K : PySem.W.Frag) (C : Addr) : Prop where
  ins : C8.InsC K C
  no : ∀ t ∈ ["NoneType", "bool", "int", "str", "tuple", "list", "dict"], PySem.W.kitOne K (.type t) (.ref C) = some false
@[simp] def mIsO (C : Addr) (m : RE → Out (D × RE)) : RE → Out (D × RE) := fun r => (m r).bnd fun p => match dr p.2.st p.1 with
  | some (.ins A _) => if A = C then .ok (.bl true, p.2) else .stuck
  | some d => match tyName d with
    | some _ => .ok (.bl false, p.2)
    | none => .stuck
  | none => .stuck
section
variable {X : Cx} {E : XK} {a : PySem.Expr} {pos p q : Pos} {C : Addr} {x : Str} {m : RE → Out (D × RE)}
theorem em_isO (hm : X.mg "isinstance" = none) (hc : X.mg x = some (.ref C)) (I : IsO X.K C) (h : EM X E a m) (hg : Gl X "isinstance" := by rfl) (hgx : Gl X x := by rfl) (hdb : (x == ("__debug__" : Str)) = false := by decide)
    (hs2 : starEach [.Name x q] X.env = (false, eval (.Name x q) X.env) :: starEach [] X.env := by rfl) (hs : starEach [a, .Name x q] X.env = (false, eval a X.env) :: starEach [.Name x q] X.env := by rfl) (hpl : (backTo pos (starEach [.Name x q] X.env)).any (·.1) = false := by rfl) :
    EM X E (.Call (.Name "isinstance" p) [a, .Name x q] [] pos) (mIsO C m) := by
  obtain ⟨te, h1, h2⟩ := h
  refine ⟨_, pe_callB call_isi hg hm (by decide +kernel) (pa_cons h1 (pa_cons (pe_glob (v := .ref C) hgx hc rfl hdb) pa_nil hs2) hs) (by decide) (by decide) hs hpl, fun c σ H W r Q R w => ?_⟩
  refine h2 c σ H W r _ R ((Wp.bnd w).mono (fun p q v1 H1 W1 R1 s1 h1 => ?_) fun _ _ x => x)
  show rIsi X.K [v1, .ref C] H1 Q
  cases e : dr p.2.st p.1 with
  | none => simp only [e] at q; exact q.elim
  | some d =>
    simp only [e] at q
    have rep := h1.at R1 e
    by_cases hi : ∃ A fs, d = .ins A fs
    · obtain ⟨A, fs, rfl⟩ := hi
      simp only at q
      split at q
      · rename_i hA
        subst hA
        obtain ⟨a, dx, us, rfl, ha, la⟩ := rep
        exact ⟨_, _, _, _, true, rfl, .own A, .base (TyOf.ins ha I.ins.cl I.ins.ha I.ins.hn I.ins.htk I.ins.hm), I.ins.me, q _ H1 W1 R1 s1 repD_bl⟩
      · exact q.elim
    · cases ht : tyName d with
      | none => cases d <;> first | (simp only [ht] at q; exact q.elim) | exact absurd ⟨_, _, rfl⟩ hi
      | some t =>
        refine ⟨_, _, _, _, false, rfl, .own C, tyName_ok R1.gh ht rep, I.no t (tyName_mem ht), ?_⟩
        cases d <;> first | (simp only [ht] at q; exact q _ H1 W1 R1 s1 repD_bl) | exact absurd ⟨_, _, rfl⟩ hi
end
end Mir

set_option maxHeartbeats 400000
namespace Mir
open PySem PySem.Spec PyProof.Rows L2
/-! ## list(d.values()) -/
def tListVals (td : TE) : TE := fun σ H Q => td σ H fun x H1 => ∃ (a : Addr) (kvs : List (Key × V)), x = V.ref a ∧ Rd H1 a (.dK kvs) ∧ ∀ p, H1 p = none → Q (.ref p) (upd H1 p (.lst (kvs.map (·.2))))
theorem vals_at {vs : List (Key × Value)} {kvs : List (Key × V)} (rel : Paired (fun a b => a.1 = b.1 ∧ RelV a.2 b.2) kvs vs) : Vals (kvs.map (·.2)) (vs.map (·.2)) := by
  induction rel with
  | nil => exact .nil
  | cons h _ ih => exact .cons h.2 ih
section
variable {X : Cx} {o : PySem.Expr} {p pos apos mpos : Pos} {td : TE}
theorem pe_listVals (hc : X.calm = true) (hg : Gl X "list") (hm : X.mg "list" = none) (hd : PE X o td) (hbase : attributeBase o "values" X.env (eval o X.env) = eval o X.env := by rfl) (hline : (apos.endLine == mpos.line) = true := by rfl)
    (hse : starEach [PySem.Expr.Call (.Attribute o "values" apos) [] [] mpos] X.env = [(false, eval (PySem.Expr.Call (.Attribute o "values" apos) [] [] mpos) X.env)] := by rfl) :
    PE X (.Call (.Name "list" p) [.Call (.Attribute o "values" apos) [] [] mpos] [] pos) (tListVals td) := by
  refine ⟨fun pins s σ H Q I h => ?_⟩
  refine wpAny_Call_Name_kw (ld_blt I hg hm (u := .type "list") (by first | rfl | decide +kernel) ?_ (by first | decide +kernel | decide) (by first | decide +kernel | decide))
  rw [hse]
  refine PySem.callWith_type1 (wpAny_Call_method0_late hbase hline (thn (hd.run pins s σ H _ I h) fun v s1 ⟨x, H1, I1, r1, a, kvs, ex, ha, q⟩ => ?_))
  subst ex
  obtain rfl : v = Value.ref a := r1
  obtain ⟨z, hsys, vs, rel, dof⟩ := dk_rd I1.hok ha
  obtain ⟨ep, dat⟩ := dof.dictAt
  have dat' := dat
  obtain ⟨ob, es, ho, ex, hdat, hko, hpr, hnd⟩ := dat'
  refine ⟨"dict", "dict.values", F.plainAttrs_dict, F.slot_dict_values, F.type_dict_values, ⟨ob, ho, ex.1⟩, fun b e => ?_, Calls.callWith_builtin rfl (PySem.evalArgs_none ?_)⟩
  · cases e
    exact ⟨ob, ho, ex.2.1⟩
  refine call_meetsIn F.slot_dict_values ⟨ob, ho, ex.1⟩ F.entry_dict_values (F.args_dict_values_1 _) (meets_dict_values (mixKind X.prog X.w) a hsys) ⟨⟨vs, dof⟩, ?_⟩
  have k1 : ∀ b u, s1.heap.get? b = some u → (s1.heap.push { cls := .type "dict_values", data := .fields #[.ref a] }).get? b = some u := fun b u e => Heap.get?_push_of_some _ e
  have dat1 : (s1.heap.push { cls := .type "dict_values", data := .fields #[.ref a] }).DictAt (mixKind X.prog X.w) a vs ep := dat.keep k1
  have hsz : (s1.heap.push { cls := .type "dict_values", data := .fields #[.ref a] }).objs.size = s1.heap.objs.size + 1 := Heap.size_push _ _
  refine PySem.W.kdl_call (PySem.W.kdl_values (knd := mixKind X.prog X.w) (kvs := vs) (ep := ep) (r := s1.heap.objs.size) (d := a)) (I.ok.hd hc) ⟨⟨_, Heap.get?_push_size _ rfl, rfl, rfl⟩, dat1⟩ (by rw [← rel.length]; exact z) fun h' tk acc c' hk hD hacc => ?_
  have hv : Vals (kvs.map (·.2)) acc.toList := by
    have e : acc.toList = vs.map (·.2) := by
      refine List.ext_getElem? fun i => ?_
      rw [List.getElem?_map]
      by_cases hi : i < acc.toList.length
      · have hg := List.getElem?_eq_getElem hi
        obtain ⟨k, hk'⟩ := hacc.2 i acc.toList[i] (by rw [← Array.getElem?_toList]; exact hg)
        rw [hg, hk']
        rfl
      · have h1 : acc.toList[i]? = none := List.getElem?_eq_none (by omega)
        have h2 : vs[i]? = none := List.getElem?_eq_none (by rw [← hacc.1, ← Array.length_toList]; omega)
        rw [h1, h2]
        rfl
    rw [e]
    exact vals_at rel
  refine ⟨.ref _, upd H1 (s1.heap.objs.size + 1) (.lst (kvs.map (·.2))), I1.laid (t' := tk) (fun b u e => hk b u (k1 b u e)) (Nat.le_succ _)
    (show ObjOk X.prog X.w _ _ _ (.lst (kvs.map (·.2))) from ⟨by rw [List.length_map]; exact z, acc.toList, c', hv, by rw [Array.toArray_toList, ← hsz]; exact hD⟩), by rw [hsz]; rfl, q _ (I1.hok.fresh (Nat.le_succ _))⟩
end
@[simp] def dListV : D → Out D
  | .dic kvs => .ok (.lst (kvs.map kvVal))
  | _ => .stuck
section
variable {K : PySem.W.Frag} {E : XK}
theorem repL_vals {W : Wd} : ∀ {ds : List (Key × D)} {vs : List (Key × V)}, RepK K W ds vs → RepL K W (ds.map kvVal) (vs.map (·.2))
  | [], vs, h => by simp only [RepK] at h; subst h; simp only [List.map_nil, RepL]
  | (k, d) :: ds, vs, h => by
    simp only [RepK] at h
    obtain ⟨v, us, rfl, hv, t⟩ := h
    simp only [List.map_cons, RepL]
    exact ⟨_, _, rfl, hv, repL_vals t⟩
theorem sndf_listV {te : TE} {m : RE → Out (D × RE)} (h : Snd K E te m) : SndF K E (tListVals te) (mOp1 dListV m) := fun c σ H W r Q R w => by
  refine h c σ H W r _ R ((Wp.bnd w).mono (fun p q v H1 W1 R1 s1 h1 => ?_) fun _ _ x => x)
  cases e : dr p.2.st p.1 with
  | none => simp only [e] at q; exact q.elim
  | some d =>
    simp only [e] at q
    have ht := h1.at R1 e
    cases d <;> simp only [dListV, bnd_stuck, bnd_ok] at q <;> try exact q.elim
    obtain ⟨a, us, rfl, hq, hl⟩ := ht
    refine ⟨a, us, rfl, hq, fun l hn => ?_⟩
    obtain ⟨R4, f4⟩ := R1.fresh (o := .lst (us.map (·.2))) (d := .lst _) hn ⟨l, _, rfl, upd_same, repL_vals hl⟩
    exact q l _ W1 R4 s1 f4
theorem nl_listV {m : RE → Out (D × RE)} : NL (mOp1 dListV m) := nl_bnd fun a d r' e => by
  split at e
  · rename_i dx _
    cases dx <;> first | (cases e; rfl) | cases e
  · cases e
end
theorem fm_listV {X : Cx} {E : XK} {e : PySem.Expr} {m : RE → Out (D × RE)} {p pos apos mpos : Pos} (hm : X.mg "list" = none) (h : EM X E e m) (hc : X.calm = true := by rfl) (hg : Gl X "list" := by rfl) (hbase : attributeBase e "values" X.env (eval e X.env) = eval e X.env := by rfl) (hline : (apos.endLine == mpos.line) = true := by rfl)
    (hse : starEach [PySem.Expr.Call (.Attribute e "values" apos) [] [] mpos] X.env = [(false, eval (PySem.Expr.Call (.Attribute e "values" apos) [] [] mpos) X.env)] := by rfl) :
    FM X E (.Call (.Name "list" p) [.Call (.Attribute e "values" apos) [] [] mpos] [] pos) (mOp1 dListV m) := let ⟨_, h1, h2⟩ := h; ⟨_, pe_listVals hc hg hm h1 hbase hline hse, sndf_listV h2⟩
end Mir

namespace Lm
open PySem L2 Mir
noncomputable def b_is_integer (C : Cl) : RE → Out Fl :=
      (mRet (mAnd (mArgs (d2 dIsi) (mCons (mVar 0) (mCons (mC (.ty "int")) mNil))) (mNot (mArgs (d2 dIsi) (mCons (mVar 0) (mCons (mC (.ty "bool")) mNil))))))
noncomputable def k_is_integer (C : Cl) : Fn := n0 (fnK 1 1 (b_is_integer C))
noncomputable def f_is_integer (C : Cl) : Fn := cutF (k_is_integer C)
noncomputable def b_is_count (C : Cl) : RE → Out Fl :=
      (mRet (mAnd (mCall (f_is_integer C) [] (mCons (mVar 0) mNil)) (mChain dLe dLe (mC (.int 0)) (mVar 0) (mVar 1))))
noncomputable def k_is_count (C : Cl) : Fn := n0 (fnK 2 2 (b_is_count C))
noncomputable def f_is_count (C : Cl) : Fn := cutF (k_is_count C)
noncomputable def b_is_state (C : Cl) : RE → Out Fl :=
      (mRet (mCall (f_is_count C) [] (mCons (mVar 0) (mCons (mC (.int 99)) mNil))))
noncomputable def k_is_state (C : Cl) : Fn := n0 (fnK 1 1 (b_is_state C))
noncomputable def f_is_state (C : Cl) : Fn := cutF (k_is_state C)
noncomputable def l_is_name_1 (C : Cl) : RE → Out Fl :=
      (mIf (mBool (mOp2 dNotIn (mVar 1) (mC (.str (Str.ofString "abcdefghijklmnopqrstuvwxyz")))))
          (mRet (mC (.bl false)))
          mNext)
noncomputable def b_is_name (C : Cl) : RE → Out Fl :=
      (mSeq (mIf (mTOr (mTNot (mTruth (mArgs (d2 dIsi) (mCons (mVar 0) (mCons (mC (.ty "str")) mNil))))) (mTNot (mBool (mChain dLe dLe (mC (.int 1)) (mArgs (d1 dLenA) (mCons (mVar 0) mNil)) (mC (.int 12))))))
        (mRet (mC (.bl false)))
        mNext)
      (mSeq (mForW anyI (mVar 0) (stName 1) (l_is_name_1 C))
      (mRet (mC (.bl true)))))
noncomputable def k_is_name (C : Cl) : Fn := n0 (fnK 1 2 (b_is_name C))
noncomputable def f_is_name (C : Cl) : Fn := cutF (k_is_name C)
noncomputable def b_is_row (C : Cl) : RE → Out Fl :=
      (mRet (mArgs (d2 dIsiT) (mCons (mVar 0) (mCons (mTup (mCons (mC (.ty "list")) (mCons (mC (.ty "tuple")) mNil))) mNil))))
noncomputable def k_is_row (C : Cl) : Fn := n0 (fnK 1 1 (b_is_row C))
noncomputable def f_is_row (C : Cl) : Fn := cutF (k_is_row C)
noncomputable def b_is_step (C : Cl) : RE → Out Fl :=
      (mSeq (mIf (mTOr (mTNot (mTruth (mArgs (d2 dIsi) (mCons (mVar 0) (mCons (mC (.ty "tuple")) mNil))))) (mBool (mOp2 dNeK (mArgs (d1 dLenA) (mCons (mVar 0) mNil)) (mC (.int 3)))))
        (mRet (mC (.bl false)))
        mNext)
      (mRet (mAnd (mCall (f_is_state C) [] (mCons (mOp2 dIxA (mVar 0) (mC (.int 0))) mNil)) (mAnd (mCall (f_is_name C) [] (mCons (mOp2 dIxA (mVar 0) (mC (.int 1))) mNil)) (mCall (f_is_state C) [] (mCons (mOp2 dIxA (mVar 0) (mC (.int 2))) mNil))))))
noncomputable def k_is_step (C : Cl) : Fn := n0 (fnK 1 1 (b_is_step C))
noncomputable def f_is_step (C : Cl) : Fn := cutF (k_is_step C)
noncomputable def l_checked_steps_1 (C : Cl) : RE → Out Fl :=
      (mSeq (mIf (mTOr (mTNot (mTruth (mCall (f_is_step C) [] (mCons (mVar 4) mNil)))) (mBool (mOp2 dIn (mVar 4) (mVar 1))))
          mNoS
          mNext)
        (mSeq (mPut (mVar 2) (mOp2 dIxA (mVar 4) (mC (.int 0))) (mOp2 dAdd (mGet (mVar 2) (mOp2 dIxA (mVar 4) (mC (.int 0))) (mC (.int 0))) (mC (.int 1))))
        (mSeq (mIf (mBool (mOp2 dGt (mOp2 dIxA (mVar 2) (mOp2 dIxA (mVar 4) (mC (.int 0)))) (mC (.int 8))))
          mNoS
          mNext)
        (mDrop (mMut (mVar 1) "list" fAppend (mCons (mVar 4) mNil))))))
noncomputable def b_checked_steps (C : Cl) : RE → Out Fl :=
      (mSeq (mIf (mTOr (mTNot (mTruth (mCall (f_is_row C) [] (mCons (mVar 0) mNil)))) (mTNot (mBool (mChain dLe dLe (mC (.int 1)) (mArgs (d1 dLenA) (mCons (mVar 0) mNil)) (mC (.int 80))))))
        mNoS
        mNext)
      (mSeq (mSet 1 (mCell (mLst mNil)))
      (mSeq (mSet 2 (mCell mDnew))
      (mSeq (mForW enumI (mVar 0) (stUnp 2 (stCons (stName 3) (stCons (stName 4) stNil))) (l_checked_steps_1 C))
      (mRet (mVar 1))))))
noncomputable def k_checked_steps (C : Cl) : Fn := n0 (fnK 1 5 (b_checked_steps C))
noncomputable def f_checked_steps (C : Cl) : Fn := cutF (k_checked_steps C)
noncomputable def l_checked_faults_1 (C : Cl) : RE → Out Fl :=
      (mSeq (mIf (mTOr (mTNot (mTruth (mCall (f_is_name C) [] (mCons (mVar 3) mNil)))) (mTOr (mBool (mOp2 dNotIn (mVar 3) (mVar 1))) (mTNot (mTruth (mCall (f_is_name C) [] (mCons (mVar 4) mNil))))))
          mNoS
          mNext)
        (mSeq (mIf (mBool (mOp2 dNotIn (mVar 4) (mVar 2)))
          (mDrop (mMut (mVar 2) "list" fAppend (mCons (mVar 4) mNil)))
          mNext)
        (mIf (mBool (mOp2 dGt (mArgs (d1 dLenA) (mCons (mVar 2) mNil)) (mC (.int 3))))
          mNoS
          mNext)))
noncomputable def l_checked_faults_2 (C : Cl) : RE → Out (Bool × RE) :=
      (mBool (mOp2 dIn (mVar 3) (mVar 0)))
noncomputable def l_checked_faults_3 (C : Cl) : RE → Out (List D × RE) :=
      (mCons (mVar 3) (mCons (mOp2 dIxA (mVar 0) (mVar 3)) mNil))
noncomputable def b_checked_faults (C : Cl) : RE → Out Fl :=
      (mSeq (mIf (mBool (mOp2 dIs (mVar 0) (mC .non)))
        (mRet mDnew)
        mNext)
      (mSeq (mIf (mTNot (mTruth (mArgs (d2 dIsi) (mCons (mVar 0) (mCons (mC (.ty "dict")) mNil)))))
        mNoS
        mNext)
      (mSeq (mSet 2 (mCell (mLst mNil)))
      (mSeq (mForW itemsI (mVar 0) (stUnp 2 (stCons (stName 3) (stCons (stName 4) stNil))) (l_checked_faults_1 C))
      (mRet (mDicOf (mCGW anyI [3] (mVar 1) (stName 3) (l_checked_faults_2 C) (l_checked_faults_3 C) appD [])))))))
noncomputable def k_checked_faults (C : Cl) : Fn := n0 (fnK 2 5 (b_checked_faults C))
noncomputable def f_checked_faults (C : Cl) : Fn := cutF (k_checked_faults C)
noncomputable def l_leaving_table_1 (C : Cl) : RE → Out Fl :=
      (mSeq (mSet 4 (mSetd (mVar 1) (mOp2 dIxA (mVar 3) (mC (.int 0))) (mCell (mLst mNil))))
        (mDrop (mMut (mVar 4) "list" fAppend (mCons (mVar 2) mNil))))
noncomputable def b_leaving_table (C : Cl) : RE → Out Fl :=
      (mSeq (mSet 1 (mCell mDnew))
      (mSeq (mForW enumI (mVar 0) (stUnp 2 (stCons (stName 2) (stCons (stName 3) stNil))) (l_leaving_table_1 C))
      (mRet (mVar 1))))
noncomputable def k_leaving_table (C : Cl) : Fn := n0 (fnK 1 5 (b_leaving_table C))
noncomputable def f_leaving_table (C : Cl) : Fn := cutF (k_leaving_table C)
noncomputable def l_reached_states_1 (C : Cl) : RE → Out Fl :=
      (mSeq (mSet 7 (mOp2 dIxA (mOp2 dIxA (mVar 1) (mVar 6)) (mC (.int 2))))
          (mIf (mBool (mOp2 dNotIn (mVar 7) (mVar 3)))
            (mSeq (mPut (mVar 3) (mVar 7) (mC (.bl true)))
            (mDrop (mMut (mVar 4) "list" fAppend (mCons (mVar 7) mNil))))
            mNext))
noncomputable def l_reached_states_2 (C : Cl) : RE → Out (Bool × RE) :=
      (mTruth (mVar 4))
noncomputable def l_reached_states_3 (C : Cl) : RE → Out Fl :=
      (mSeq (mSet 5 (mMut (mVar 4) "list" fPop mNil))
        (mFor (mItem asQ (mGet (mVar 2) (mVar 5) (mLst mNil))) (stName 6) (l_reached_states_1 C)))
noncomputable def b_reached_states (C : Cl) : RE → Out Fl :=
      (mSeq (mSet 3 (mCell (mDisp (mPr (mVar 0) (mC (.bl true)) mPr0))))
      (mSeq (mSet 4 (mCell (mLst (mCons (mVar 0) mNil))))
      (mSeq (mWhile (l_reached_states_2 C) (l_reached_states_3 C) 1000)
      (mRet (mArgs (d1 dSort) (mCons (mArgs (d1 dListD) (mCons (mVar 3) mNil)) mNil))))))
noncomputable def k_reached_states (C : Cl) : Fn := n0 (fnK 3 8 (b_reached_states C))
noncomputable def f_reached_states (C : Cl) : Fn := cutF (k_reached_states C)
noncomputable def l_Machine_init_1 (C : Cl) : RE → Out (Bool × RE) :=
      mYes
noncomputable def l_Machine_init_2 (C : Cl) : RE → Out (List D × RE) :=
      (mCons (mOp2 dIxA (mVar 7) (mC (.int 1))) mNil)
noncomputable def l_Machine_init_3 (C : Cl) : RE → Out Fl :=
      (mIf (mBool (mOp2 dNotIn (mVar 6) (mFld C.Machine (Str.ofString "leaving") (mVar 0))))
          mNoS
          mNext)
noncomputable def b_Machine_init (C : Cl) : RE → Out Fl :=
      (mSeq (mIf (mTNot (mTruth (mCall (f_is_state C) [] (mCons (mVar 1) mNil))))
        mNoS
        mNext)
      (mSeq (mSet 4 (mCall (f_checked_steps C) [] (mCons (mVar 2) mNil)))
      (mSeq (mSet 5 (mSortK (mCGW anyI [7] (mVar 4) (stName 7) (l_Machine_init_1 C) (l_Machine_init_2 C) appK [])))
      (mSeq (mIf (mBool (mOp2 dGt (mArgs (d1 dLenA) (mCons (mVar 5) mNil)) (mC (.int 14))))
        mNoS
        mNext)
      (mSeq (mSetF C.Machine (Str.ofString "first_state") (mVar 0) (mVar 1))
      (mSeq (mSetF C.Machine (Str.ofString "step_rows") (mVar 0) (mVar 4))
      (mSeq (mSetF C.Machine (Str.ofString "word_list") (mVar 0) (mVar 5))
      (mSeq (mSetF C.Machine (Str.ofString "fault_table") (mVar 0) (mCall (f_checked_faults C) [] (mCons (mVar 3) (mCons (mVar 5) mNil))))
      (mSeq (mSetF C.Machine (Str.ofString "leaving") (mVar 0) (mCall (f_leaving_table C) [] (mCons (mVar 4) mNil)))
      (mSeq (mSetF C.Machine (Str.ofString "met_states") (mVar 0) (mCall (f_reached_states C) [] (mCons (mVar 1) (mCons (mVar 4) (mCons (mFld C.Machine (Str.ofString "leaving") (mVar 0)) mNil)))))
      (mForW anyI (mFld C.Machine (Str.ofString "met_states") (mVar 0)) (stName 6) (l_Machine_init_3 C))))))))))))
noncomputable def k_Machine_init (C : Cl) : Fn := n0 (fnK 4 8 (b_Machine_init C))
noncomputable def f_Machine_init (C : Cl) : Fn := cutF (k_Machine_init C)
noncomputable def b_Machine_start (C : Cl) : RE → Out Fl :=
      (mRet (mFld C.Machine (Str.ofString "first_state") (mVar 0)))
noncomputable def k_Machine_start (C : Cl) : Fn := n0 (fnK 1 1 (b_Machine_start C))
noncomputable def f_Machine_start (C : Cl) : Fn := cutF (k_Machine_start C)
noncomputable def b_Machine_steps (C : Cl) : RE → Out Fl :=
      (mRet (mCell (mArgs (d1 dList) (mCons (mFld C.Machine (Str.ofString "step_rows") (mVar 0)) mNil))))
noncomputable def k_Machine_steps (C : Cl) : Fn := n0 (fnK 1 1 (b_Machine_steps C))
noncomputable def f_Machine_steps (C : Cl) : Fn := cutF (k_Machine_steps C)
noncomputable def b_Machine_words (C : Cl) : RE → Out Fl :=
      (mRet (mCell (mArgs (d1 dList) (mCons (mFld C.Machine (Str.ofString "word_list") (mVar 0)) mNil))))
noncomputable def k_Machine_words (C : Cl) : Fn := n0 (fnK 1 1 (b_Machine_words C))
noncomputable def f_Machine_words (C : Cl) : Fn := cutF (k_Machine_words C)
noncomputable def l_Machine_fault_names_1 (C : Cl) : RE → Out (Bool × RE) :=
      mYes
noncomputable def l_Machine_fault_names_2 (C : Cl) : RE → Out (List D × RE) :=
      (mCons (mVar 1) mNil)
noncomputable def b_Machine_fault_names (C : Cl) : RE → Out Fl :=
      (mRet (mCell (mSortK (mCGW valsI [1] (mFld C.Machine (Str.ofString "fault_table") (mVar 0)) (stName 1) (l_Machine_fault_names_1 C) (l_Machine_fault_names_2 C) appK []))))
noncomputable def k_Machine_fault_names (C : Cl) : Fn := n0 (fnK 1 2 (b_Machine_fault_names C))
noncomputable def f_Machine_fault_names (C : Cl) : Fn := cutF (k_Machine_fault_names C)
noncomputable def l_Machine_faults_1 (C : Cl) : RE → Out (Bool × RE) :=
      mYes
noncomputable def l_Machine_faults_2 (C : Cl) : RE → Out (List D × RE) :=
      (mCons (mVar 1) (mCons (mOp2 dIxA (mFld C.Machine (Str.ofString "fault_table") (mVar 0)) (mVar 1)) mNil))
noncomputable def b_Machine_faults (C : Cl) : RE → Out Fl :=
      (mRet (mCell (mDicOf (mCGW anyI [1] (mFld C.Machine (Str.ofString "fault_table") (mVar 0)) (stName 1) (l_Machine_faults_1 C) (l_Machine_faults_2 C) appD []))))
noncomputable def k_Machine_faults (C : Cl) : Fn := n0 (fnK 1 2 (b_Machine_faults C))
noncomputable def f_Machine_faults (C : Cl) : Fn := cutF (k_Machine_faults C)
noncomputable def b_Machine_states (C : Cl) : RE → Out Fl :=
      (mRet (mCell (mArgs (d1 dList) (mCons (mFld C.Machine (Str.ofString "met_states") (mVar 0)) mNil))))
noncomputable def k_Machine_states (C : Cl) : Fn := n0 (fnK 1 1 (b_Machine_states C))
noncomputable def f_Machine_states (C : Cl) : Fn := cutF (k_Machine_states C)
noncomputable def b_law_mix (C : Cl) : RE → Out Fl :=
      (mSeq (mSet 2 (mOp2 dMod (mOp2 dMul (mArgs (d1 dInt) (mCons (mOp2 dAdd (mOp2 dAdd (mArgs (d1 dInt) (mCons (mVar 0) mNil)) (mOp2 dMul (mC (.int 7919)) (mVar 1))) (mC (.int 1))) mNil)) (mC (.int 48271))) (mC (.int 2147483647))))
      (mSeq (mSet 2 (mOp2 dMod (mArgs (d1 dInt) (mCons (mOp2 dMul (mVar 2) (mOp2 dAdd (mOp2 dDiv (mVar 2) (mC (.int 1009))) (mC (.int 69621)))) mNil)) (mC (.int 2147483647))))
      (mRet (mOp2 dMod (mArgs (d1 dInt) (mCons (mOp2 dMul (mVar 2) (mOp2 dAdd (mOp2 dDiv (mVar 2) (mC (.int 2003))) (mC (.int 40692)))) mNil)) (mC (.int 2147483399))))))
noncomputable def k_law_mix (C : Cl) : Fn := n0 (fnK 2 3 (b_law_mix C))
noncomputable def f_law_mix (C : Cl) : Fn := cutF (k_law_mix C)
noncomputable def b_law_cell (C : Cl) : RE → Out Fl :=
      (mSeq (mIf (mBool (mOp2 dLt (mVar 1) (mArgs (d1 dLenA) (mCons (mVar 0) mNil))))
        (mRet (mArgs (d1 dInt) (mCons (mOp2 dIxA (mVar 0) (mVar 1)) mNil)))
        mNext)
      (mSeq (mIf (mBool (mOp2 dEqK (mArgs (d1 dLenA) (mCons (mVar 0) mNil)) (mC (.int 0))))
        (mRet (mVar 1))
        mNext)
      (mRet (mCall (f_law_mix C) [] (mCons (mOp2 dIxA (mVar 0) (mOp2 dMod (mArgs (d1 dInt) (mCons (mVar 1) mNil)) (mArgs (d1 dLenA) (mCons (mVar 0) mNil)))) (mCons (mVar 1) mNil))))))
noncomputable def k_law_cell (C : Cl) : Fn := n0 (fnK 2 2 (b_law_cell C))
noncomputable def f_law_cell (C : Cl) : Fn := cutF (k_law_cell C)
noncomputable def l_law_row_1 (C : Cl) : RE → Out Fl :=
      (mIf (mBool (mOp2 dGe (mVar 0) (mOp2 dPow (mC (.int 10)) (mC (.int 18)))))
          (mSeq (mDrop (mMut (mVar 2) "list" fAppend (mCons (mOp2 dMod (mArgs (d1 dInt) (mCons (mVar 3) mNil)) (mOp2 dIxA (mVar 1) (mVar 4))) mNil)))
          (mSet 3 (mOp2 dDiv (mVar 3) (mOp2 dIxA (mVar 1) (mVar 4)))))
          (mDrop (mMut (mVar 2) "list" fAppend (mCons (mOp2 dMod (mArgs (d1 dInt) (mCons (mCall (f_law_mix C) [] (mCons (mVar 0) (mCons (mVar 4) mNil))) mNil)) (mOp2 dIxA (mVar 1) (mVar 4))) mNil))))
noncomputable def b_law_row (C : Cl) : RE → Out Fl :=
      (mSeq (mSet 2 (mCell (mLst mNil)))
      (mSeq (mSet 3 (mArgs (d1 dInt) (mCons (mVar 0) mNil)))
      (mSeq (mFor (mRng1 (mArgs (d1 dLenA) (mCons (mVar 1) mNil))) (stName 4) (l_law_row_1 C))
      (mRet (mVar 2)))))
noncomputable def k_law_row (C : Cl) : Fn := n0 (fnK 2 5 (b_law_row C))
noncomputable def f_law_row (C : Cl) : Fn := cutF (k_law_row C)
noncomputable def l_law_names_1 (C : Cl) : RE → Out (Bool × RE) :=
      mYes
noncomputable def l_law_names_2 (C : Cl) : RE → Out (D × RE) :=
      (mOp2 dIxA (mC (.str (Str.ofString "abcdefghijklm"))) (mVar 9))
noncomputable def l_law_names_3 (C : Cl) : RE → Out Fl :=
      (mSeq (mSet 5 (mCut dCut (mVar 2) (mPart (mOp2 dAdd (mC (.int 3)) (mOp2 dMul (mC (.int 6)) (mVar 4)))) (mPart (mOp2 dAdd (mC (.int 9)) (mOp2 dMul (mC (.int 6)) (mVar 4))))))
        (mSeq (mIf (mBool (mOp2 dEqK (mOp2 dIxA (mVar 2) (mC (.int 1))) (mC (.int 1))))
          (mSet 5 (mCut dCut (mVar 2) (mPart (mC (.int 3))) (mPart (mC (.int 9)))))
          mNext)
        (mSeq (mSet 6 (mOp1 (dJoin (Str.ofString "")) (mComp [9] (mItem asQ (mCut dCut (mVar 5) (mPart (mC (.int 1))) (mPart (mOp2 dAdd (mC (.int 1)) (mOp2 dIxA (mVar 5) (mC (.int 0))))))) (stName 9) (l_law_names_1 C) (l_law_names_2 C))))
        (mSeq (mSet 7 (mOp2 dMod (mArgs (d1 dInt) (mCons (mOp2 dIxA (mVar 2) (mC (.int 2))) mNil)) (mOp2 dAdd (mArgs (d1 dLenA) (mCons (mVar 6) mNil)) (mC (.int 1)))))
        (mSeq (mSet 8 (mOp2 dIxA (mC (.str (Str.ofString "nopqrstuvwxyz"))) (mOp2 dMod (mArgs (d1 dInt) (mCons (mOp2 dAdd (mOp2 dIxA (mVar 2) (mC (.int 0))) (mOp2 dMul (mC (.int 5)) (mVar 4))) mNil)) (mC (.int 13)))))
        (mDrop (mMut (mVar 3) "list" fAppend (mCons (mOp2 dAdd (mOp2 dAdd (mCut dCutS (mVar 6) mNoP (mPart (mVar 7))) (mVar 8)) (mCut dCutS (mVar 6) (mPart (mVar 7)) mNoP)) mNil))))))))
noncomputable def b_law_names (C : Cl) : RE → Out Fl :=
      (mSeq (mSet 2 (mCall (f_law_row C) [] (mCons (mVar 0) (mCons (mOp2 dAdd (mLst (mCons (mC (.int 13)) (mCons (mC (.int 2)) (mCons (mC (.int 6)) mNil)))) (mOp2 dMul (mLst (mCons (mC (.int 6)) (mCons (mC (.int 13)) (mCons (mC (.int 13)) (mCons (mC (.int 13)) (mCons (mC (.int 13)) (mCons (mC (.int 13)) mNil))))))) (mVar 1))) mNil))))
      (mSeq (mSet 3 (mCell (mLst mNil)))
      (mSeq (mFor (mRng1 (mVar 1)) (stName 4) (l_law_names_3 C))
      (mRet (mVar 3)))))
noncomputable def k_law_names (C : Cl) : Fn := n0 (fnK 2 10 (b_law_names C))
noncomputable def f_law_names (C : Cl) : Fn := cutF (k_law_names C)
noncomputable def l_law_machine_1 (C : Cl) : RE → Out (Bool × RE) :=
      mYes
noncomputable def l_law_machine_2 (C : Cl) : RE → Out (D × RE) :=
      (mOp2 dMod (mArgs (d1 dInt) (mCons (mOp2 dAdd (mOp2 dIxA (mVar 5) (mC (.int 2))) (mOp2 dMul (mVar 7) (mVar 10))) mNil)) (mC (.int 100)))
noncomputable def l_law_machine_3 (C : Cl) : RE → Out Fl :=
      (mSeq (mSet 12 (mOp2 dIxA (mVar 1) (mOp2 dAdd (mC (.int 1)) (mOp2 dIxA (mVar 5) (mOp2 dAdd (mC (.int 5)) (mOp2 dMul (mC (.int 2)) (mVar 10)))))))
        (mDrop (mMut (mVar 9) "list" fAppend (mCons (mTup (mCons (mOp2 dIxA (mVar 8) (mVar 10)) (mCons (mVar 12) (mCons (mOp2 dIxA (mVar 8) (mOp2 dMod (mArgs (d1 dInt) (mCons (mOp2 dIxA (mVar 5) (mOp2 dAdd (mC (.int 6)) (mOp2 dMul (mC (.int 2)) (mVar 10)))) mNil)) (mVar 6))) mNil)))) mNil))))
noncomputable def l_law_machine_4 (C : Cl) : RE → Out Fl :=
      (mSeq (mSet 13 (mOp2 dAdd (mArgs (d1 dLenA) (mCons (mVar 4) mNil)) (mOp2 dMul (mC (.int 3)) (mVar 10))))
        (mSeq (mSet 12 (mOp2 dIxA (mVar 1) (mOp2 dMod (mArgs (d1 dInt) (mCons (mOp2 dIxA (mVar 5) (mOp2 dAdd (mVar 13) (mC (.int 1)))) mNil)) (mArgs (d1 dLenA) (mCons (mVar 1) mNil)))))
        (mSeq (mSet 14 (mTup (mCons (mOp2 dIxA (mVar 8) (mOp2 dMod (mArgs (d1 dInt) (mCons (mOp2 dIxA (mVar 5) (mVar 13)) mNil)) (mVar 6))) (mCons (mVar 12) mNil))))
        (mSeq (mSet 14 (mOp2 dAdd (mVar 14) (mTup (mCons (mOp2 dIxA (mVar 8) (mOp2 dMod (mArgs (d1 dInt) (mCons (mOp2 dIxA (mVar 5) (mOp2 dAdd (mVar 13) (mC (.int 2)))) mNil)) (mVar 6))) mNil))))
        (mIf (mBool (mOp2 dNotIn (mVar 14) (mVar 9)))
          (mDrop (mMut (mVar 9) "list" fAppend (mCons (mVar 14) mNil)))
          mNext)))))
noncomputable def l_law_machine_5 (C : Cl) : RE → Out (Bool × RE) :=
      (mBool (mOp2 dEqK (mOp2 dIxA (mVar 14) (mC (.int 1))) (mOp2 dIxA (mVar 1) (mC (.int 0)))))
noncomputable def l_law_machine_6 (C : Cl) : RE → Out (D × RE) :=
      (mVar 14)
noncomputable def b_law_machine (C : Cl) : RE → Out Fl :=
      (mSeq (mSet 4 (mOp2 dAdd (mLst (mCons (mVar 2) (mCons (mOp2 dAdd (mVar 3) (mC (.int 1))) (mCons (mC (.int 100)) (mCons (mC (.int 8)) (mCons (mC (.int 64)) mNil)))))) (mOp2 dMul (mLst (mCons (mOp2 dSub (mArgs (d1 dLenA) (mCons (mVar 1) mNil)) (mC (.int 1))) (mCons (mVar 2) mNil))) (mVar 2))))
      (mSeq (mSet 5 (mCall (f_law_row C) [] (mCons (mVar 0) (mCons (mOp2 dAdd (mVar 4) (mOp2 dMul (mLst (mCons (mVar 2) (mCons (mOp2 dAdd (mArgs (d1 dLenA) (mCons (mVar 1) mNil)) (mC (.int 2))) (mCons (mVar 2) mNil)))) (mVar 3))) mNil))))
      (mSeq (mSet 6 (mOp2 dAdd (mC (.int 1)) (mOp2 dIxA (mVar 5) (mC (.int 0)))))
      (mSeq (mSet 7 (mOp2 dIxA (mLst (mCons (mC (.int 1)) (mCons (mC (.int 3)) (mCons (mC (.int 7)) (mCons (mC (.int 9)) (mCons (mC (.int 11)) (mCons (mC (.int 13)) (mCons (mC (.int 17)) (mCons (mC (.int 19)) mNil))))))))) (mOp2 dIxA (mVar 5) (mC (.int 3)))))
      (mSeq (mSet 8 (mComp [10] (mRng1 (mVar 6)) (stName 10) (l_law_machine_1 C) (l_law_machine_2 C)))
      (mSeq (mSet 9 (mCell (mLst mNil)))
      (mSeq (mFor (mRng1 (mVar 6)) (stName 10) (l_law_machine_3 C))
      (mSeq (mFor (mRng1 (mOp2 dIxA (mVar 5) (mC (.int 1)))) (stName 10) (l_law_machine_4 C))
      (mSeq (mIf (mBool (mOp2 dEqK (mArgs (d1 dLenA) (mCons (mCompW anyI [14] (mVar 9) (stName 14) (l_law_machine_5 C) (l_law_machine_6 C)) mNil)) (mC (.int 0))))
        (mSeq (mSet 15 (mOp2 dIxA (mVar 8) (mOp2 dMod (mArgs (d1 dInt) (mCons (mOp2 dDiv (mOp2 dIxA (mVar 5) (mC (.int 4))) (mC (.int 8))) mNil)) (mVar 6))))
        (mDrop (mMut (mVar 9) "list" fAppend (mCons (mTup (mCons (mOp2 dIxA (mVar 8) (mOp2 dMod (mArgs (d1 dInt) (mCons (mOp2 dIxA (mVar 5) (mC (.int 4))) mNil)) (mVar 6))) (mCons (mOp2 dIxA (mVar 1) (mC (.int 0))) (mCons (mVar 15) mNil)))) mNil))))
        mNext)
      (mSeq (mSet 11 (mOp2 dMod (mArgs (d1 dInt) (mCons (mOp2 dIxA (mVar 5) (mC (.int 4))) mNil)) (mArgs (d1 dLenA) (mCons (mVar 9) mNil))))
      (mRet (mLst (mCons (mVar 8) (mCons (mOp2 dAdd (mCut dCut (mVar 9) (mPart (mVar 11)) mNoP) (mCut dCut (mVar 9) mNoP (mPart (mVar 11)))) mNil))))))))))))))
noncomputable def k_law_machine (C : Cl) : Fn := n0 (fnK 4 16 (b_law_machine C))
noncomputable def f_law_machine (C : Cl) : Fn := cutF (k_law_machine C)
noncomputable def l_law_faults_1 (C : Cl) : RE → Out (Bool × RE) :=
      mYes
noncomputable def l_law_faults_2 (C : Cl) : RE → Out (D × RE) :=
      (mOp2 dIxA (mVar 5) (mC (.int 1)))
noncomputable def b_law_faults (C : Cl) : RE → Out Fl :=
      (mSeq (mSet 4 (mCell (mDisp (mPr (mOp2 dIxA (mVar 2) (mC (.int 0))) (mOp2 dIxA (mVar 3) (mC (.int 0))) mPr0))))
      (mSeq (mIf (mTAnd (mBool (mOp2 dGt (mOp2 dMod (mArgs (d1 dInt) (mCons (mVar 0) mNil)) (mC (.int 3))) (mC (.int 0)))) (mBool (mOp2 dIn (mOp2 dIxA (mVar 2) (mC (.int 1))) (mCompW anyI [5] (mVar 1) (stName 5) (l_law_faults_1 C) (l_law_faults_2 C)))))
        (mPut (mVar 4) (mOp2 dIxA (mVar 2) (mC (.int 1))) (mOp2 dIxA (mVar 3) (mOp2 dSub (mOp2 dMod (mArgs (d1 dInt) (mCons (mVar 0) mNil)) (mC (.int 3))) (mC (.int 1)))))
        mNext)
      (mRet (mVar 4))))
noncomputable def k_law_faults (C : Cl) : Fn := n0 (fnK 4 6 (b_law_faults C))
noncomputable def f_law_faults (C : Cl) : Fn := cutF (k_law_faults C)
noncomputable def b_law_is_integer (C : Cl) : RE → Out Fl :=
      (mRet (mAnd (mArgs (d2 dIsi) (mCons (mVar 0) (mCons (mC (.ty "int")) mNil))) (mNot (mArgs (d2 dIsi) (mCons (mVar 0) (mCons (mC (.ty "bool")) mNil))))))
noncomputable def k_law_is_integer (C : Cl) : Fn := n0 (fnK 1 1 (b_law_is_integer C))
noncomputable def f_law_is_integer (C : Cl) : Fn := cutF (k_law_is_integer C)
noncomputable def l_law_exact_1 (C : Cl) (r_law_exact : Fn) : RE → Out Fl :=
      (mIf (mTNot (mTruth (mCall r_law_exact [] (mCons (mOp2 dIxA (mVar 0) (mVar 2)) (mCons (mOp2 dIxA (mVar 1) (mVar 2)) mNil)))))
            (mRet (mC (.bl false)))
            mNext)
noncomputable def b_law_exact (C : Cl) (r_law_exact : Fn) : RE → Out Fl :=
      (mSeq (mIf (mTOr (mTruth (mArgs (d2 dIsi) (mCons (mVar 1) (mCons (mC (.ty "list")) mNil)))) (mTruth (mArgs (d2 dIsi) (mCons (mVar 1) (mCons (mC (.ty "tuple")) mNil)))))
        (mSeq (mIf (mTAnd (mTruth (mArgs (d2 dIsi) (mCons (mVar 1) (mCons (mC (.ty "list")) mNil)))) (mTNot (mTruth (mArgs (d2 dIsi) (mCons (mVar 0) (mCons (mC (.ty "list")) mNil))))))
          (mRet (mC (.bl false)))
          mNext)
        (mSeq (mIf (mTAnd (mTruth (mArgs (d2 dIsi) (mCons (mVar 1) (mCons (mC (.ty "tuple")) mNil)))) (mTNot (mTruth (mArgs (d2 dIsi) (mCons (mVar 0) (mCons (mC (.ty "tuple")) mNil))))))
          (mRet (mC (.bl false)))
          mNext)
        (mSeq (mIf (mBool (mOp2 dNeK (mArgs (d1 dLenA) (mCons (mVar 0) mNil)) (mArgs (d1 dLenA) (mCons (mVar 1) mNil))))
          (mRet (mC (.bl false)))
          mNext)
        (mSeq (mFor (mRng1 (mArgs (d1 dLenA) (mCons (mVar 1) mNil))) (stName 2) (l_law_exact_1 C r_law_exact))
        (mRet (mC (.bl true)))))))
        mNext)
      (mSeq (mIf (mBool (mOp2 dIs (mVar 1) (mC .non)))
        (mRet (mOp2 dIs (mVar 0) (mC .non)))
        mNext)
      (mSeq (mIf (mTruth (mArgs (d2 dIsi) (mCons (mVar 1) (mCons (mC (.ty "bool")) mNil))))
        (mRet (mAnd (mArgs (d2 dIsi) (mCons (mVar 0) (mCons (mC (.ty "bool")) mNil))) (mOp2 dEqK (mVar 0) (mVar 1))))
        mNext)
      (mSeq (mIf (mTruth (mArgs (d2 dIsi) (mCons (mVar 1) (mCons (mC (.ty "int")) mNil))))
        (mRet (mAnd (mCall (f_law_is_integer C) [] (mCons (mVar 0) mNil)) (mOp2 dEqK (mVar 0) (mVar 1))))
        mNext)
      (mRet (mAnd (mArgs (d2 dIsi) (mCons (mVar 0) (mCons (mC (.ty "str")) mNil))) (mOp2 dEqK (mVar 0) (mVar 1))))))))
noncomputable def f_law_exact (C : Cl) : Nat → Fn
  | 0 => stuckF
  | n + 1 => cutF (n0 (fnK 2 3 (b_law_exact C (f_law_exact C n))))
noncomputable def l_law_reached_1 (C : Cl) : RE → Out Fl :=
      (mIf (mTAnd (mBool (mOp2 dIn (mOp2 dIxA (mVar 4) (mC (.int 0))) (mVar 2))) (mBool (mOp2 dNotIn (mOp2 dIxA (mVar 4) (mC (.int 2))) (mVar 2))))
            (mDrop (mMut (mVar 2) "list" fAppend (mCons (mOp2 dIxA (mVar 4) (mC (.int 2))) mNil)))
            mNext)
noncomputable def l_law_reached_2 (C : Cl) : RE → Out Fl :=
      (mForW anyI (mVar 1) (stName 4) (l_law_reached_1 C))
noncomputable def b_law_reached (C : Cl) : RE → Out Fl :=
      (mSeq (mSet 2 (mCell (mLst (mCons (mVar 0) mNil))))
      (mSeq (mFor (mRng1 (mC (.int 100))) (stName 3) (l_law_reached_2 C))
      (mRet (mArgs (d1 dSort) (mCons (mVar 2) mNil)))))
noncomputable def k_law_reached (C : Cl) : Fn := n0 (fnK 2 5 (b_law_reached C))
noncomputable def f_law_reached (C : Cl) : Fn := cutF (k_law_reached C)
noncomputable def b_law_told (C : Cl) : RE → Out Fl :=
      (mRet (mLst (mCons (mProp C.Machine (f_Machine_start C) (mVar 0)) (mCons (mProp C.Machine (f_Machine_steps C) (mVar 0)) (mCons (mProp C.Machine (f_Machine_words C) (mVar 0)) (mCons (mProp C.Machine (f_Machine_fault_names C) (mVar 0)) (mCons (mArgs (d1 dListD) (mCons (mProp C.Machine (f_Machine_faults C) (mVar 0)) mNil)) (mCons (mProp C.Machine (f_Machine_states C) (mVar 0)) mNil))))))))
noncomputable def k_law_told (C : Cl) : Fn := n0 (fnK 1 1 (b_law_told C))
noncomputable def f_law_told (C : Cl) : Fn := cutF (k_law_told C)
noncomputable def l_law_k02_1 (C : Cl) : RE → Out (Bool × RE) :=
      mYes
noncomputable def l_law_k02_2 (C : Cl) : RE → Out (D × RE) :=
      (mOp2 dIxA (mVar 15) (mC (.int 1)))
noncomputable def l_law_k02_3 (C : Cl) : RE → Out Fl :=
      (mPut (mVar 6) (mVar 7) (mOp2 dIxA (mVar 3) (mVar 7)))
noncomputable def l_law_k02_4 (C : Cl) : RE → Out (D × RE) :=
      (mOp2 dIxA (mVar 3) (mVar 7))
noncomputable def l_law_k02_5 (C : Cl) : RE → Out (Bool × RE) :=
      (mBool (mOp2 dIn (mVar 7) (mVar 3)))
noncomputable def l_law_k02_6 (C : Cl) : RE → Out (D × RE) :=
      (mVar 7)
noncomputable def l_law_k02_7 (C : Cl) : RE → Out Fl :=
      (mDrop (mMut (mVar 11) "list" fAppend (mCons (mC (.str (Str.ofString "zz"))) mNil)))
noncomputable def b_law_k02 (C : Cl) : RE → Out Fl :=
      (mSeq (mSet 1 (mCall (f_law_names C) [] (mCons (mCall (f_law_cell C) [] (mCons (mVar 0) (mCons (mC (.int 0)) mNil))) (mCons (mC (.int 8)) mNil))))
      (mSeq (mAsg (stUnp 2 (stCons (stName 12) (stCons (stName 13) stNil))) (mCall (f_law_machine C) [] (mCons (mCall (f_law_cell C) [] (mCons (mVar 0) (mCons (mC (.int 1)) mNil))) (mCons (mCut dCut (mVar 1) mNoP (mPart (mC (.int 6)))) (mCons (mC (.int 8)) (mCons (mC (.int 6)) mNil))))))
      (mSeq (mSet 2 (mCall (f_law_row C) [] (mCons (mCall (f_law_cell C) [] (mCons (mVar 0) (mCons (mC (.int 2)) mNil))) (mCons (mLst (mCons (mC (.int 3)) (mCons (mC (.int 2)) (mCons (mC (.int 2)) (mCons (mC (.int 8)) mNil))))) mNil))))
      (mSeq (mSet 3 (mCall (f_law_faults C) [] (mCons (mOp2 dIxA (mVar 2) (mC (.int 0))) (mCons (mVar 13) (mCons (mVar 1) (mCons (mCut dCut (mVar 1) (mPart (mC (.int 6))) mNoP) mNil))))))
      (mSeq (mSet 4 (mOp2 dIxA (mVar 12) (mOp2 dMod (mArgs (d1 dInt) (mCons (mOp2 dIxA (mVar 2) (mC (.int 3))) mNil)) (mArgs (d1 dLenA) (mCons (mVar 12) mNil)))))
      (mSeq (mSet 5 (mSortK (mSetOf (mCompW anyI [15] (mVar 13) (stName 15) (l_law_k02_1 C) (l_law_k02_2 C)))))
      (mSeq (mSet 6 (mCell mDnew))
      (mSeq (mFor (mItem asQ (mOp1 dRev (mArgs (d1 dSort) (mCons (mArgs (d1 dListD) (mCons (mVar 3) mNil)) mNil)))) (stName 7) (l_law_k02_3 C))
      (mSeq (mIf (mBool (mOp2 dEqK (mOp2 dIxA (mVar 2) (mC (.int 1))) (mC (.int 1))))
        (mSet 6 (mCell (mArgs (d1 dDict) (mCons (mVar 3) mNil))))
        mNext)
      (mSeq (mSet 8 (mCell (mArgs (d1 dList) (mCons (mVar 13) mNil))))
      (mSeq (mIf (mBool (mOp2 dEqK (mOp2 dIxA (mVar 2) (mC (.int 2))) (mC (.int 1))))
        (mSet 14 (mCall (cutF (mkF C.Machine (k_Machine_init C))) [] (mCons (mVar 4) (mCons (mArgs (d1 dTuple) (mCons (mVar 8) mNil)) (mCons (mVar 6) mNil)))))
        (mSet 14 (mCall (cutF (mkF C.Machine (k_Machine_init C))) [] (mCons (mVar 4) (mCons (mVar 8) (mCons (mVar 6) mNil))))))
      (mSeq (mSet 9 (mLst (mCons (mVar 4) (mCons (mVar 13) (mCons (mVar 5) (mCons (mSortK (mSetOf (mCompW anyI [7] (mVar 3) (stName 7) (l_law_k02_1 C) (l_law_k02_4 C)))) mNil))))))
      (mSeq (mSet 9 (mOp2 dAdd (mVar 9) (mLst (mCons (mCompW anyI [7] (mVar 5) (stName 7) (l_law_k02_5 C) (l_law_k02_6 C)) (mCons (mCall (f_law_reached C) [] (mCons (mVar 4) (mCons (mVar 13) mNil))) mNil)))))
      (mSeq (mIf (mTNot (mTruth (mCall (f_law_exact C 5) [] (mCons (mCall (f_law_told C) [] (mCons (mVar 14) mNil)) (mCons (mVar 9) mNil)))))
        (mRet (mC (.bl false)))
        mNext)
      (mSeq (mDrop (mMut (mVar 8) "list" fClearL mNil))
      (mSeq (mDrop (mMut (mVar 6) "dict" fClearD mNil))
      (mSeq (mSet 10 (mProp C.Machine (k_Machine_faults C) (mVar 14)))
      (mSeq (mIf (mTOr (mTNot (mTruth (mArgs (d2 dIsi) (mCons (mVar 10) (mCons (mC (.ty "dict")) mNil))))) (mBool (mOp2 dNeK (mVar 10) (mVar 3))))
        (mRet (mC (.bl false)))
        mNext)
      (mSeq (mDrop (mMut (mVar 10) "dict" fClearD mNil))
      (mSeq (mFor (mItem asQ (mLst (mCons (mProp C.Machine (k_Machine_steps C) (mVar 14)) (mCons (mProp C.Machine (k_Machine_words C) (mVar 14)) (mCons (mProp C.Machine (k_Machine_fault_names C) (mVar 14)) (mCons (mProp C.Machine (k_Machine_states C) (mVar 14)) mNil)))))) (stName 11) (l_law_k02_7 C))
      (mRet (mAnd (mCall (f_law_exact C 5) [] (mCons (mCall (f_law_told C) [] (mCons (mVar 14) mNil)) (mCons (mVar 9) mNil))) (mOp2 dEqK (mProp C.Machine (k_Machine_faults C) (mVar 14)) (mVar 3))))))))))))))))))))))))
noncomputable def k_law_k02 (C : Cl) : Fn := n0 (fnK 1 16 (b_law_k02 C))
noncomputable def f_law_k02 (C : Cl) : Fn := cutF (k_law_k02 C)
end Lm

namespace Lm
open PySem L2 Mir
noncomputable def b_Machine_eq (C : Cl) : RE → Out Fl :=
      (mSeq (mIf (mTNot (mTruth (mIsO C.Machine (mVar 1))))
        (mRet (mC (.bl false)))
        mNext)
      (mSeq (mIf (mTOr (mBool (mOp2 dNeK (mFld C.Machine (Str.ofString "first_state") (mVar 0)) (mFld C.Machine (Str.ofString "first_state") (mVar 1)))) (mBool (mOp2 dNeK (mFld C.Machine (Str.ofString "step_rows") (mVar 0)) (mFld C.Machine (Str.ofString "step_rows") (mVar 1)))))
        (mRet (mC (.bl false)))
        mNext)
      (mRet (mOp2 dEqK (mFld C.Machine (Str.ofString "fault_table") (mVar 0)) (mFld C.Machine (Str.ofString "fault_table") (mVar 1))))))
noncomputable def k_Machine_eq (C : Cl) : Fn := n0 (fnK 2 2 (b_Machine_eq C))
noncomputable def f_Machine_eq (C : Cl) : Fn := cutF (k_Machine_eq C)
noncomputable def b_steps_from (C : Cl) : RE → Out Fl :=
      (mRet (mArgs (d1 dList) (mCons (mGet (mFld C.Machine (Str.ofString "leaving") (mVar 0)) (mVar 1) (mLst mNil)) mNil)))
noncomputable def k_steps_from (C : Cl) : Fn := n0 (fnK 2 2 (b_steps_from C))
noncomputable def f_steps_from (C : Cl) : Fn := cutF (k_steps_from C)
noncomputable def b_is_fault_step (C : Cl) : RE → Out Fl :=
      (mRet (mOp2 dEqK (mGet (mFld C.Machine (Str.ofString "fault_table") (mVar 0)) (mOp2 dIxA (mOp2 dIxA (mFld C.Machine (Str.ofString "step_rows") (mVar 0)) (mVar 1)) (mC (.int 1))) (mC .non)) (mVar 2)))
noncomputable def k_is_fault_step (C : Cl) : Fn := n0 (fnK 3 3 (b_is_fault_step C))
noncomputable def f_is_fault_step (C : Cl) : Fn := cutF (k_is_fault_step C)
noncomputable def b_check_fault (C : Cl) : RE → Out Fl :=
      (mIf (mTOr (mTNot (mTruth (mCall (f_is_name C) [] (mCons (mVar 1) mNil)))) (mBool (mOp2 dNotIn (mVar 1) (mProp C.Machine (f_Machine_fault_names C) (mVar 0)))))
        mNoS
        mNext)
noncomputable def k_check_fault (C : Cl) : Fn := n0 (fnK 2 2 (b_check_fault C))
noncomputable def f_check_fault (C : Cl) : Fn := cutF (k_check_fault C)
noncomputable def l_is_sight_table_1 (C : Cl) : RE → Out Fl :=
      (mIf (mTOr (mTNot (mTruth (mCall (f_is_name C) [] (mCons (mVar 1) mNil)))) (mTNot (mTruth (mCall (f_is_name C) [] (mCons (mVar 2) mNil)))))
          (mRet (mC (.bl false)))
          mNext)
noncomputable def b_is_sight_table (C : Cl) : RE → Out Fl :=
      (mSeq (mIf (mTNot (mTruth (mArgs (d2 dIsi) (mCons (mVar 0) (mCons (mC (.ty "dict")) mNil)))))
        (mRet (mC (.bl false)))
        mNext)
      (mSeq (mForW itemsI (mVar 0) (stUnp 2 (stCons (stName 1) (stCons (stName 2) stNil))) (l_is_sight_table_1 C))
      (mRet (mC (.bl true)))))
noncomputable def k_is_sight_table (C : Cl) : Fn := n0 (fnK 1 3 (b_is_sight_table C))
noncomputable def f_is_sight_table (C : Cl) : Fn := cutF (k_is_sight_table C)
noncomputable def l_Watch_init_1 (C : Cl) : RE → Out (Bool × RE) :=
      mYes
noncomputable def l_Watch_init_2 (C : Cl) : RE → Out (List D × RE) :=
      (mCons (mVar 2) (mCons (mOp2 dIxA (mVar 1) (mVar 2)) mNil))
noncomputable def b_Watch_init (C : Cl) : RE → Out Fl :=
      (mSeq (mIf (mTAnd (mBool (mOp2 dIsNot (mVar 1) (mC .non))) (mTNot (mTruth (mCall (f_is_sight_table C) [] (mCons (mVar 1) mNil)))))
        mNoS
        mNext)
      (mSeq (mSetF C.Watch (Str.ofString "table") (mVar 0) mDnew)
      (mIf (mBool (mOp2 dIsNot (mVar 1) (mC .non)))
        (mSetF C.Watch (Str.ofString "table") (mVar 0) (mDicOf (mCGW anyI [2] (mVar 1) (stName 2) (l_Watch_init_1 C) (l_Watch_init_2 C) appD [])))
        mNext)))
noncomputable def k_Watch_init (C : Cl) : Fn := n0 (fnK 2 3 (b_Watch_init C))
noncomputable def f_Watch_init (C : Cl) : Fn := cutF (k_Watch_init C)
noncomputable def b_Watch_eq (C : Cl) : RE → Out Fl :=
      (mRet (mAnd (mIsO C.Watch (mVar 1)) (mOp2 dEqK (mFld C.Watch (Str.ofString "table") (mVar 0)) (mFld C.Watch (Str.ofString "table") (mVar 1)))))
noncomputable def k_Watch_eq (C : Cl) : Fn := n0 (fnK 2 2 (b_Watch_eq C))
noncomputable def f_Watch_eq (C : Cl) : Fn := cutF (k_Watch_eq C)
noncomputable def b_check_watch (C : Cl) : RE → Out Fl :=
      (mIf (mTNot (mTruth (mIsO C.Watch (mVar 0))))
        mNoS
        mNext)
noncomputable def k_check_watch (C : Cl) : Fn := n0 (fnK 1 1 (b_check_watch C))
noncomputable def f_check_watch (C : Cl) : Fn := cutF (k_check_watch C)
noncomputable def b_sight_of (C : Cl) : RE → Out Fl :=
      (mRet (mGet (mFld C.Watch (Str.ofString "table") (mVar 0)) (mVar 1) (mC .non)))
noncomputable def k_sight_of (C : Cl) : Fn := n0 (fnK 2 2 (b_sight_of C))
noncomputable def f_sight_of (C : Cl) : Fn := cutF (k_sight_of C)
noncomputable def l_check_run_1 (C : Cl) : RE → Out Fl :=
      (mSeq (mIf (mTOr (mTNot (mTruth (mCall (f_is_integer C) [] (mCons (mVar 4) mNil)))) (mBool (mOp2 dNotIn (mVar 4) (mCall (f_steps_from C) [] (mCons (mVar 0) (mCons (mVar 2) mNil))))))
          mNoS
          mNext)
        (mSet 2 (mOp2 dIxA (mOp2 dIxA (mFld C.Machine (Str.ofString "step_rows") (mVar 0)) (mVar 4)) (mC (.int 2)))))
noncomputable def b_check_run (C : Cl) : RE → Out Fl :=
      (mSeq (mIf (mTNot (mTruth (mArgs (d2 dIsi) (mCons (mVar 1) (mCons (mC (.ty "tuple")) mNil)))))
        mNoS
        mNext)
      (mSeq (mSet 2 (mProp C.Machine (f_Machine_start C) (mVar 0)))
      (mSeq (mForW enumI (mVar 1) (stUnp 2 (stCons (stName 3) (stCons (stName 4) stNil))) (l_check_run_1 C))
      (mRet (mVar 2)))))
noncomputable def k_check_run (C : Cl) : Fn := n0 (fnK 2 5 (b_check_run C))
noncomputable def f_check_run (C : Cl) : Fn := cutF (k_check_run C)
noncomputable def b_end_of (C : Cl) : RE → Out Fl :=
      (mRet (mCall (f_check_run C) [] (mCons (mVar 0) (mCons (mVar 1) mNil))))
noncomputable def k_end_of (C : Cl) : Fn := n0 (fnK 2 2 (b_end_of C))
noncomputable def f_end_of (C : Cl) : Fn := cutF (k_end_of C)
noncomputable def l_faults_in_1 (C : Cl) : RE → Out (Bool × RE) :=
      mYes
noncomputable def l_faults_in_2 (C : Cl) : RE → Out (D × RE) :=
      (mOp2 dIxA (mOp2 dIxA (mFld C.Machine (Str.ofString "step_rows") (mVar 0)) (mVar 4)) (mC (.int 1)))
noncomputable def l_faults_in_3 (C : Cl) : RE → Out (Bool × RE) :=
      (mBool (mOp2 dIn (mVar 5) (mVar 2)))
noncomputable def l_faults_in_4 (C : Cl) : RE → Out (List D × RE) :=
      (mCons (mOp2 dIxA (mVar 2) (mVar 5)) mNil)
noncomputable def b_faults_in (C : Cl) : RE → Out Fl :=
      (mSeq (mDrop (mCall (f_check_run C) [] (mCons (mVar 0) (mCons (mVar 1) mNil))))
      (mSeq (mSet 2 (mFld C.Machine (Str.ofString "fault_table") (mVar 0)))
      (mSeq (mSet 3 (mCompW anyI [4] (mVar 1) (stName 4) (l_faults_in_1 C) (l_faults_in_2 C)))
      (mRet (mSortK (mCGW anyI [5] (mVar 3) (stName 5) (l_faults_in_3 C) (l_faults_in_4 C) appK []))))))
noncomputable def k_faults_in (C : Cl) : Fn := n0 (fnK 2 6 (b_faults_in C))
noncomputable def f_faults_in (C : Cl) : Fn := cutF (k_faults_in C)
noncomputable def l_path_sights_1 (C : Cl) : RE → Out Fl :=
      (mSeq (mSet 5 (mCall (f_sight_of C) [] (mCons (mVar 1) (mCons (mOp2 dIxA (mOp2 dIxA (mFld C.Machine (Str.ofString "step_rows") (mVar 0)) (mVar 4)) (mC (.int 1))) mNil))))
        (mIf (mBool (mOp2 dIsNot (mVar 5) (mC .non)))
          (mDrop (mMut (mVar 3) "list" fAppend (mCons (mVar 5) mNil)))
          mNext))
noncomputable def b_path_sights (C : Cl) : RE → Out Fl :=
      (mSeq (mSet 3 (mCell (mLst mNil)))
      (mSeq (mForW anyI (mVar 2) (stName 4) (l_path_sights_1 C))
      (mRet (mArgs (d1 dTuple) (mCons (mVar 3) mNil)))))
noncomputable def k_path_sights (C : Cl) : Fn := n0 (fnK 3 6 (b_path_sights C))
noncomputable def f_path_sights (C : Cl) : Fn := cutF (k_path_sights C)
noncomputable def b_sights_of (C : Cl) : RE → Out Fl :=
      (mSeq (mDrop (mCall (f_check_watch C) [] (mCons (mVar 1) mNil)))
      (mSeq (mDrop (mCall (f_check_run C) [] (mCons (mVar 0) (mCons (mVar 2) mNil))))
      (mRet (mCall (f_path_sights C) [] (mCons (mVar 0) (mCons (mVar 1) (mCons (mVar 2) mNil)))))))
noncomputable def k_sights_of (C : Cl) : Fn := n0 (fnK 3 3 (b_sights_of C))
noncomputable def f_sights_of (C : Cl) : Fn := cutF (k_sights_of C)
noncomputable def l_run_behind_1 (C : Cl) : RE → Out Fl :=
      (mIf (mTruth (mCall (f_is_fault_step C) [] (mCons (mVar 0) (mCons (mVar 4) (mCons (mVar 2) mNil)))))
          (mRet (mOp2 dSub (mOp2 dSub (mArgs (d1 dLenA) (mCons (mVar 1) mNil)) (mVar 3)) (mC (.int 1))))
          mNext)
noncomputable def b_run_behind (C : Cl) : RE → Out Fl :=
      (mSeq (mForW enumI (mVar 1) (stUnp 2 (stCons (stName 3) (stCons (stName 4) stNil))) (l_run_behind_1 C))
      (mRet (mC .non)))
noncomputable def k_run_behind (C : Cl) : Fn := n0 (fnK 3 5 (b_run_behind C))
noncomputable def f_run_behind (C : Cl) : Fn := cutF (k_run_behind C)
noncomputable def b_steps_behind (C : Cl) : RE → Out Fl :=
      (mSeq (mDrop (mCall (f_check_run C) [] (mCons (mVar 0) (mCons (mVar 1) mNil))))
      (mSeq (mDrop (mCall (f_check_fault C) [] (mCons (mVar 0) (mCons (mVar 2) mNil))))
      (mRet (mCall (f_run_behind C) [] (mCons (mVar 0) (mCons (mVar 1) (mCons (mVar 2) mNil)))))))
noncomputable def k_steps_behind (C : Cl) : Fn := n0 (fnK 3 3 (b_steps_behind C))
noncomputable def f_steps_behind (C : Cl) : Fn := cutF (k_steps_behind C)
noncomputable def l_law_sights_1 (C : Cl) : RE → Out Fl :=
      (mIf (mBool (mOp2 dEqK (mOp2 dIxA (mVar 4) (mVar 6)) (mC (.int 1))))
          (mPut (mVar 5) (mOp2 dIxA (mVar 1) (mVar 6)) (mOp2 dIxA (mVar 1) (mVar 6)))
          (mIf (mBool (mChain dLe dLt (mC (.int 2)) (mOp2 dIxA (mVar 4) (mVar 6)) (mVar 3)))
            (mPut (mVar 5) (mOp2 dIxA (mVar 1) (mVar 6)) (mOp2 dIxA (mVar 2) (mOp2 dSub (mOp2 dIxA (mVar 4) (mVar 6)) (mC (.int 2)))))
            mNext))
noncomputable def b_law_sights (C : Cl) : RE → Out Fl :=
      (mSeq (mSet 3 (mOp2 dAdd (mArgs (d1 dLenA) (mCons (mVar 2) mNil)) (mC (.int 2))))
      (mSeq (mSet 4 (mCall (f_law_row C) [] (mCons (mVar 0) (mCons (mOp2 dAdd (mLst (mCons (mOp2 dMul (mC (.int 3)) (mVar 3)) mNil)) (mOp2 dMul (mLst (mCons (mVar 3) mNil)) (mOp2 dSub (mArgs (d1 dLenA) (mCons (mVar 1) mNil)) (mC (.int 1))))) mNil))))
      (mSeq (mSet 5 (mCell mDnew))
      (mSeq (mFor (mRng1 (mArgs (d1 dLenA) (mCons (mVar 1) mNil))) (stName 6) (l_law_sights_1 C))
      (mRet (mVar 5))))))
noncomputable def k_law_sights (C : Cl) : Fn := n0 (fnK 3 7 (b_law_sights C))
noncomputable def f_law_sights (C : Cl) : Fn := cutF (k_law_sights C)
noncomputable def l_law_seen_1 (C : Cl) : RE → Out (Bool × RE) :=
      mYes
noncomputable def l_law_seen_2 (C : Cl) : RE → Out (D × RE) :=
      (mOp2 dIxA (mOp2 dIxA (mVar 0) (mVar 4)) (mC (.int 1)))
noncomputable def l_law_seen_3 (C : Cl) : RE → Out (Bool × RE) :=
      (mBool (mOp2 dIn (mVar 5) (mVar 1)))
noncomputable def l_law_seen_4 (C : Cl) : RE → Out (D × RE) :=
      (mOp2 dIxA (mVar 1) (mVar 5))
noncomputable def b_law_seen (C : Cl) : RE → Out Fl :=
      (mSeq (mSet 3 (mCompW anyI [4] (mVar 2) (stName 4) (l_law_seen_1 C) (l_law_seen_2 C)))
      (mRet (mCompW anyI [5] (mVar 3) (stName 5) (l_law_seen_3 C) (l_law_seen_4 C))))
noncomputable def k_law_seen (C : Cl) : Fn := n0 (fnK 3 6 (b_law_seen C))
noncomputable def f_law_seen (C : Cl) : Fn := cutF (k_law_seen C)
noncomputable def l_law_walk_1 (C : Cl) : RE → Out (Bool × RE) :=
      (mBool (mOp2 dEqK (mOp2 dIxA (mOp2 dIxA (mVar 1) (mVar 8)) (mC (.int 0))) (mVar 4)))
noncomputable def l_law_walk_2 (C : Cl) : RE → Out (D × RE) :=
      (mVar 8)
noncomputable def l_law_walk_3 (C : Cl) : RE → Out Fl :=
      (mSeq (mSet 6 (mComp [8] (mRng1 (mArgs (d1 dLenA) (mCons (mVar 1) mNil))) (stName 8) (l_law_walk_1 C) (l_law_walk_2 C)))
        (mSeq (mSet 7 (mOp2 dIxA (mVar 6) (mOp2 dMod (mArgs (d1 dInt) (mCons (mVar 5) mNil)) (mArgs (d1 dLenA) (mCons (mVar 6) mNil)))))
        (mSeq (mDrop (mMut (mVar 3) "list" fAppend (mCons (mVar 7) mNil)))
        (mSet 4 (mOp2 dIxA (mOp2 dIxA (mVar 1) (mVar 7)) (mC (.int 2)))))))
noncomputable def b_law_walk (C : Cl) : RE → Out Fl :=
      (mSeq (mSet 3 (mCell (mLst mNil)))
      (mSeq (mSet 4 (mVar 2))
      (mSeq (mForW anyI (mVar 0) (stName 5) (l_law_walk_3 C))
      (mRet (mVar 3)))))
noncomputable def k_law_walk (C : Cl) : Fn := n0 (fnK 3 9 (b_law_walk C))
noncomputable def f_law_walk (C : Cl) : Fn := cutF (k_law_walk C)
noncomputable def b_law_system (C : Cl) : RE → Out Fl :=
      (mSeq (mSet 4 (mCall (f_law_names C) [] (mCons (mCall (f_law_cell C) [] (mCons (mVar 0) (mCons (mC (.int 0)) mNil))) (mCons (mOp2 dAdd (mVar 3) (mC (.int 2))) mNil))))
      (mSeq (mAsg (stUnp 2 (stCons (stName 7) (stCons (stName 8) stNil))) (mCall (f_law_machine C) [] (mCons (mCall (f_law_cell C) [] (mCons (mVar 0) (mCons (mC (.int 1)) mNil))) (mCons (mCut dCut (mVar 4) mNoP (mPart (mVar 3))) (mCons (mVar 1) (mCons (mVar 2) mNil))))))
      (mSeq (mSet 5 (mOp2 dIxA (mCall (f_law_row C) [] (mCons (mCall (f_law_cell C) [] (mCons (mVar 0) (mCons (mC (.int 2)) mNil))) (mCons (mLst (mCons (mC (.int 3)) (mCons (mC (.int 5)) mNil))) mNil))) (mC (.int 0))))
      (mSeq (mSet 6 (mCall (f_law_faults C) [] (mCons (mVar 5) (mCons (mVar 8) (mCons (mVar 4) (mCons (mCut dCut (mVar 4) (mPart (mVar 3)) mNoP) mNil))))))
      (mRet (mLst (mCons (mOp2 dIxA (mVar 7) (mC (.int 0))) (mCons (mVar 8) (mCons (mVar 6) (mCons (mCut dCut (mVar 4) mNoP (mPart (mVar 3))) (mCons (mCut dCut (mVar 4) (mPart (mVar 3)) mNoP) mNil)))))))))))
noncomputable def k_law_system (C : Cl) : Fn := n0 (fnK 4 9 (b_law_system C))
noncomputable def f_law_system (C : Cl) : Fn := cutF (k_law_system C)
noncomputable def l_law_count_1 (C : Cl) : RE → Out Fl :=
      (mIf (mBool (mOp2 dEqK (mGet (mVar 1) (mOp2 dIxA (mVar 0) (mVar 3)) (mC .non)) (mVar 2)))
          (mRet (mOp2 dSub (mOp2 dSub (mArgs (d1 dLenA) (mCons (mVar 0) mNil)) (mVar 3)) (mC (.int 1))))
          mNext)
noncomputable def b_law_count (C : Cl) : RE → Out Fl :=
      (mSeq (mFor (mRng1 (mArgs (d1 dLenA) (mCons (mVar 0) mNil))) (stName 3) (l_law_count_1 C))
      (mRet (mC .non)))
noncomputable def k_law_count (C : Cl) : Fn := n0 (fnK 3 4 (b_law_count C))
noncomputable def f_law_count (C : Cl) : Fn := cutF (k_law_count C)
noncomputable def l_law_k15_1 (C : Cl) : RE → Out (Bool × RE) :=
      mYes
noncomputable def l_law_k15_2 (C : Cl) : RE → Out (D × RE) :=
      (mOp2 dIxA (mOp2 dIxA (mVar 6) (mVar 18)) (mC (.int 1)))
noncomputable def l_law_k15_3 (C : Cl) : RE → Out (Bool × RE) :=
      (mBool (mOp2 dIn (mVar 19) (mVar 7)))
noncomputable def l_law_k15_4 (C : Cl) : RE → Out (D × RE) :=
      (mOp2 dIxA (mVar 7) (mVar 19))
noncomputable def l_law_k15_5 (C : Cl) : RE → Out Fl :=
      (mSeq (mSet 17 (mCall (f_law_count C) [] (mCons (mVar 12) (mCons (mVar 7) (mCons (mVar 16) mNil)))))
          (mIf (mTNot (mTruth (mCall (f_law_exact C 5) [] (mCons (mCall (f_steps_behind C) [] (mCons (mVar 2) (mCons (mVar 11) (mCons (mVar 16) mNil)))) (mCons (mVar 17) mNil)))))
            (mRet (mC (.bl false)))
            mNext))
noncomputable def l_law_k15_6 (C : Cl) : RE → Out Fl :=
      (mSeq (mSet 10 (mCall (f_law_row C) [] (mCons (mCall (f_law_cell C) [] (mCons (mVar 0) (mCons (mOp2 dAdd (mC (.int 4)) (mVar 4)) mNil))) (mCons (mOp2 dAdd (mLst (mCons (mC (.int 41)) mNil)) (mOp2 dMul (mLst (mCons (mC (.int 64)) mNil)) (mC (.int 40)))) mNil))))
        (mSeq (mSet 11 (mArgs (d1 dTuple) (mCons (mCall (f_law_walk C) [] (mCons (mCut dCut (mVar 10) (mPart (mC (.int 1))) (mPart (mOp2 dAdd (mC (.int 1)) (mOp2 dIxA (mVar 10) (mC (.int 0)))))) (mCons (mVar 6) (mCons (mVar 5) mNil)))) mNil)))
        (mSeq (mSet 12 (mCompW anyI [18] (mVar 11) (stName 18) (l_law_k15_1 C) (l_law_k15_2 C)))
        (mSeq (mSet 13 (mVar 5))
        (mSeq (mIf (mBool (mOp2 dGt (mArgs (d1 dLenA) (mCons (mVar 11) mNil)) (mC (.int 0))))
          (mSet 13 (mOp2 dIxA (mOp2 dIxA (mVar 6) (mOp2 dIxA (mVar 11) (mOp1 dNeg (mC (.int 1))))) (mC (.int 2))))
          mNext)
        (mSeq (mSet 14 (mSortK (mSetOf (mCompW anyI [19] (mVar 12) (stName 19) (l_law_k15_3 C) (l_law_k15_4 C)))))
        (mSeq (mIf (mTNot (mTruth (mCall (f_law_exact C 5) [] (mCons (mCall (f_end_of C) [] (mCons (mVar 2) (mCons (mVar 11) mNil))) (mCons (mVar 13) mNil)))))
          (mRet (mC (.bl false)))
          mNext)
        (mSeq (mIf (mTNot (mTruth (mCall (f_law_exact C 5) [] (mCons (mCall (f_faults_in C) [] (mCons (mVar 2) (mCons (mVar 11) mNil))) (mCons (mVar 14) mNil)))))
          (mRet (mC (.bl false)))
          mNext)
        (mSeq (mSet 15 (mArgs (d1 dTuple) (mCons (mCall (f_law_seen C) [] (mCons (mVar 6) (mCons (mVar 1) (mCons (mVar 11) mNil)))) mNil)))
        (mSeq (mIf (mTNot (mTruth (mCall (f_law_exact C 5) [] (mCons (mCall (f_sights_of C) [] (mCons (mVar 2) (mCons (mVar 3) (mCons (mVar 11) mNil)))) (mCons (mVar 15) mNil)))))
          (mRet (mC (.bl false)))
          mNext)
        (mFor (mItem asQ (mSortK (mSetOf (mOp1 dListV (mVar 7))))) (stName 16) (l_law_k15_5 C))))))))))))
noncomputable def b_law_k15 (C : Cl) : RE → Out Fl :=
      (mSeq (mAsg (stUnp 5 (stCons (stName 5) (stCons (stName 6) (stCons (stName 7) (stCons (stName 8) (stCons (stName 9) stNil)))))) (mCall (f_law_system C) [] (mCons (mVar 0) (mCons (mC (.int 8)) (mCons (mC (.int 6)) (mCons (mC (.int 6)) mNil))))))
      (mSeq (mSet 1 (mCall (f_law_sights C) [] (mCons (mCall (f_law_cell C) [] (mCons (mVar 0) (mCons (mC (.int 3)) mNil))) (mCons (mVar 8) (mCons (mLst (mCons (mOp2 dIxA (mVar 9) (mC (.int 0))) (mCons (mOp2 dIxA (mVar 8) (mC (.int 1))) mNil))) mNil)))))
      (mSeq (mSet 2 (mCall (cutF (mkF C.Machine (k_Machine_init C))) [] (mCons (mVar 5) (mCons (mVar 6) (mCons (mVar 7) mNil)))))
      (mSeq (mSet 3 (mCall (cutF (mkF C.Watch (k_Watch_init C))) [] (mCons (mVar 1) mNil)))
      (mSeq (mFor (mRng1 (mC (.int 3))) (stName 4) (l_law_k15_6 C))
      (mRet (mAnd (mEqO C.Machine (f_Machine_eq C) (mVar 2) (mCall (cutF (mkF C.Machine (k_Machine_init C))) [] (mCons (mVar 5) (mCons (mVar 6) (mCons (mVar 7) mNil))))) (mEqO C.Watch (f_Watch_eq C) (mVar 3) (mCall (cutF (mkF C.Watch (k_Watch_init C))) [] (mCons (mVar 1) mNil))))))))))
noncomputable def k_law_k15 (C : Cl) : Fn := n0 (fnK 1 20 (b_law_k15 C))
noncomputable def f_law_k15 (C : Cl) : Fn := cutF (k_law_k15 C)
end Lm

set_option maxHeartbeats 4000000
namespace K15
open PySem L2 Mir Lm
def top (i : Nat) : Stmt := PySem.Challenge.pw_knownlate_k15_what_a_run_did.main.body.getD i (.Pass ⟨0, 0, 0, 0⟩)
structure Txt (K : PySem.W.Frag) (mg : Str → Option Value) (C : Cl) : Prop where
  n_bool : mg (Str.ofString "bool") = none
  n_dict : mg (Str.ofString "dict") = none
  n_enumerate : mg (Str.ofString "enumerate") = none
  n_int : mg (Str.ofString "int") = none
  n_isinstance : mg (Str.ofString "isinstance") = none
  n_len : mg (Str.ofString "len") = none
  n_list : mg (Str.ofString "list") = none
  n_range : mg (Str.ofString "range") = none
  n_set : mg (Str.ofString "set") = none
  n_sorted : mg (Str.ofString "sorted") = none
  n_str : mg (Str.ofString "str") = none
  n_tuple : mg (Str.ofString "tuple") = none
  c_LETTERS : ∃ t, mg (Str.ofString "LETTERS") = some (.str (Str.ofString "abcdefghijklmnopqrstuvwxyz") t)
  c_MOST_FAULTS : ∃ t, mg (Str.ofString "MOST_FAULTS") = some (.int 3 t)
  c_MOST_FROM : ∃ t, mg (Str.ofString "MOST_FROM") = some (.int 8 t)
  c_MOST_LETTERS : ∃ t, mg (Str.ofString "MOST_LETTERS") = some (.int 12 t)
  c_MOST_STATE : ∃ t, mg (Str.ofString "MOST_STATE") = some (.int 99 t)
  c_MOST_STEPS : ∃ t, mg (Str.ofString "MOST_STEPS") = some (.int 80 t)
  c_MOST_WORDS : ∃ t, mg (Str.ofString "MOST_WORDS") = some (.int 14 t)
  cl_Machine : Cls K C.Machine
  cl_Watch : Cls K C.Watch
  na_Machine_fault_table : NoAttr K C.Machine (Str.ofString "fault_table")
  na_Machine_first_state : NoAttr K C.Machine (Str.ofString "first_state")
  na_Machine_leaving : NoAttr K C.Machine (Str.ofString "leaving")
  na_Machine_met_states : NoAttr K C.Machine (Str.ofString "met_states")
  na_Machine_step_rows : NoAttr K C.Machine (Str.ofString "step_rows")
  na_Machine_word_list : NoAttr K C.Machine (Str.ofString "word_list")
  na_Watch_table : NoAttr K C.Watch (Str.ofString "table")
  mg_Machine : mg (Str.ofString "Machine") = some (.ref C.Machine)
  iso_Machine : IsO K C.Machine
  mg_Watch : mg (Str.ofString "Watch") = some (.ref C.Watch)
  iso_Watch : IsO K C.Watch

section
variable {P : Program} {w : World} {K : PySem.W.Frag} {mg : Str → Option Value} {base : Heap}
/-! ### is_integer -/
abbrev s_is_integer : Stmt := top 16
abbrev N_is_integer : List Str := [Str.ofString "value"]
theorem sc_is_integer : FnScope N_is_integer [Str.ofString "value"] (defScope s_is_integer) := ⟨rfl, rfl, rfl, by decide +kernel, rfl, by decide +kernel, by decide +kernel⟩
theorem ok_is_integer {f : Addr} {fd : FuncData} {C : Cl} (T : Txt K mg C) (F : Fun K (Str.ofString "is_integer") (Str.ofString "is_integer") s_is_integer f fd) (hg : mg (Str.ofString "is_integer") = some (.ref f)) (hb : Binds K fd [Str.ofString "value"] [])  : Fn0 P w K mg base 1 (Str.ofString "is_integer") 1 (k_is_integer C) :=
  fn0_k (k := 0) (mb := b_is_integer C) F sc_is_integer hg hb fun cdv A outer s H E hr =>
      (bm_one (sm_ret (em_and (em_isi T.n_isinstance (em_var 0) (em_ty T.n_int (by decide +kernel))) (em_one (em_not (em_isi T.n_isinstance (em_var 0) (em_ty T.n_bool (by decide +kernel))))))))

/-! ### is_count -/
abbrev s_is_count : Stmt := top 17
abbrev N_is_count : List Str := [Str.ofString "value", Str.ofString "most"]
theorem sc_is_count : FnScope N_is_count [Str.ofString "value", Str.ofString "most"] (defScope s_is_count) := ⟨rfl, rfl, rfl, by decide +kernel, rfl, by decide +kernel, by decide +kernel⟩
theorem ok_is_count {f : Addr} {fd : FuncData} {C : Cl} (T : Txt K mg C) (F : Fun K (Str.ofString "is_count") (Str.ofString "is_count") s_is_count f fd) (hg : mg (Str.ofString "is_count") = some (.ref f)) (hb : Binds K fd [Str.ofString "value", Str.ofString "most"] []) (F_is_integer : Fn0 P w K mg base 1 (Str.ofString "is_integer") 1 (k_is_integer C)) : Fn0 P w K mg base 2 (Str.ofString "is_count") 2 (k_is_count C) :=
  fn0_k (k := 1) (mb := b_is_count C) F sc_is_count hg hb fun cdv A outer s H E hr =>
      (bm_one (sm_ret (em_and (e0 F_is_integer.cut hr (am_cons (em_var 0) am_nil)) (em_one (ech k_le k_le em_int (em_var 0) (em_var 1))))))

/-! ### is_state -/
abbrev s_is_state : Stmt := top 18
abbrev N_is_state : List Str := [Str.ofString "value"]
theorem sc_is_state : FnScope N_is_state [Str.ofString "value"] (defScope s_is_state) := ⟨rfl, rfl, rfl, by decide +kernel, rfl, by decide +kernel, by decide +kernel⟩
theorem ok_is_state {f : Addr} {fd : FuncData} {C : Cl} (T : Txt K mg C) (F : Fun K (Str.ofString "is_state") (Str.ofString "is_state") s_is_state f fd) (hg : mg (Str.ofString "is_state") = some (.ref f)) (hb : Binds K fd [Str.ofString "value"] []) (F_is_count : Fn0 P w K mg base 2 (Str.ofString "is_count") 2 (k_is_count C)) : Fn0 P w K mg base 3 (Str.ofString "is_state") 1 (k_is_state C) :=
  fn0_k (k := 2) (mb := b_is_state C) F sc_is_state hg hb fun cdv A outer s H E hr =>
      (bm_one (sm_ret (e0 F_is_count.cut hr (am_cons (em_var 0) (am_cons (em_gint T.c_MOST_STATE) am_nil)))))

/-! ### is_name -/
abbrev s_is_name : Stmt := top 19
abbrev N_is_name : List Str := [Str.ofString "value", Str.ofString "letter"]
theorem sc_is_name : FnScope N_is_name [Str.ofString "value"] (defScope s_is_name) := ⟨rfl, rfl, rfl, by decide +kernel, rfl, by decide +kernel, by decide +kernel⟩
theorem ok_is_name {f : Addr} {fd : FuncData} {C : Cl} (T : Txt K mg C) (F : Fun K (Str.ofString "is_name") (Str.ofString "is_name") s_is_name f fd) (hg : mg (Str.ofString "is_name") = some (.ref f)) (hb : Binds K fd [Str.ofString "value"] [])  : Fn0 P w K mg base 1 (Str.ofString "is_name") 1 (k_is_name C) :=
  fn0_k (k := 0) (mb := b_is_name C) F sc_is_name hg hb fun cdv A outer s H E hr =>
      (bm_cons (sm_if (tw (wm_or (tm_not (tm_v (em_isi T.n_isinstance (em_var 0) (em_ty T.n_str (by decide +kernel))))) (wm_or1 (tm_not (tch k_le k_le em_int (em_lenA T.n_len (em_var 0)) (em_gint T.c_MOST_LETTERS))))))
        (bm_one (sm_ret em_bl))
        bm_nil)
      (bm_cons (sm_forW (pm_var 0) way_any (gm_name 1 sc_is_name.nd)
        (bm_one (sm_if (tc (k_notIn hr) (em_var 1) (em_gstr T.c_LETTERS))
          (bm_one (sm_ret em_bl))
          bm_nil)) PassesOwn.never)
      (bm_one (sm_ret em_bl))))

/-! ### is_row -/
abbrev s_is_row : Stmt := top 20
abbrev N_is_row : List Str := [Str.ofString "value"]
theorem sc_is_row : FnScope N_is_row [Str.ofString "value"] (defScope s_is_row) := ⟨rfl, rfl, rfl, by decide +kernel, rfl, by decide +kernel, by decide +kernel⟩
theorem ok_is_row {f : Addr} {fd : FuncData} {C : Cl} (T : Txt K mg C) (F : Fun K (Str.ofString "is_row") (Str.ofString "is_row") s_is_row f fd) (hg : mg (Str.ofString "is_row") = some (.ref f)) (hb : Binds K fd [Str.ofString "value"] [])  : Fn0 P w K mg base 1 (Str.ofString "is_row") 1 (k_is_row C) :=
  fn0_k (k := 0) (mb := b_is_row C) F sc_is_row hg hb fun cdv A outer s H E hr =>
      (bm_one (sm_ret (em_isiT T.n_isinstance (em_var 0) (em_tup (am_cons (em_ty T.n_list (by decide +kernel)) (am_cons (em_ty T.n_tuple (by decide +kernel)) am_nil))))))

/-! ### is_step -/
abbrev s_is_step : Stmt := top 28
abbrev N_is_step : List Str := [Str.ofString "step"]
theorem sc_is_step : FnScope N_is_step [Str.ofString "step"] (defScope s_is_step) := ⟨rfl, rfl, rfl, by decide +kernel, rfl, by decide +kernel, by decide +kernel⟩
theorem ok_is_step {f : Addr} {fd : FuncData} {C : Cl} (T : Txt K mg C) (F : Fun K (Str.ofString "is_step") (Str.ofString "is_step") s_is_step f fd) (hg : mg (Str.ofString "is_step") = some (.ref f)) (hb : Binds K fd [Str.ofString "step"] []) (F_is_state : Fn0 P w K mg base 3 (Str.ofString "is_state") 1 (k_is_state C)) (F_is_name : Fn0 P w K mg base 1 (Str.ofString "is_name") 1 (k_is_name C)) : Fn0 P w K mg base 4 (Str.ofString "is_step") 1 (k_is_step C) :=
  fn0_k (k := 3) (mb := b_is_step C) F sc_is_step hg hb fun cdv A outer s H E hr =>
      (bm_cons (sm_if (tw (wm_or (tm_not (tm_v (em_isi T.n_isinstance (em_var 0) (em_ty T.n_tuple (by decide +kernel))))) (wm_or1 (tc (k_neK hr) (em_lenA T.n_len (em_var 0)) em_int))))
        (bm_one (sm_ret em_bl))
        bm_nil)
      (bm_one (sm_ret (em_and (e0 F_is_state.cut hr (am_cons (em_ixA hr (em_var 0) em_int) am_nil)) (em_and (e0 F_is_name.cut hr (am_cons (em_ixA hr (em_var 0) em_int) am_nil)) (em_one (e0 F_is_state.cut hr (am_cons (em_ixA hr (em_var 0) em_int) am_nil))))))))

/-! ### checked_steps -/
abbrev s_checked_steps : Stmt := top 27
abbrev N_checked_steps : List Str := [Str.ofString "steps", Str.ofString "rows", Str.ofString "counts", Str.ofString "at", Str.ofString "step"]
theorem sc_checked_steps : FnScope N_checked_steps [Str.ofString "steps"] (defScope s_checked_steps) := ⟨rfl, rfl, rfl, by decide +kernel, rfl, by decide +kernel, by decide +kernel⟩
theorem ok_checked_steps {f : Addr} {fd : FuncData} {C : Cl} (T : Txt K mg C) (F : Fun K (Str.ofString "checked_steps") (Str.ofString "checked_steps") s_checked_steps f fd) (hg : mg (Str.ofString "checked_steps") = some (.ref f)) (hb : Binds K fd [Str.ofString "steps"] []) (F_is_row : Fn0 P w K mg base 1 (Str.ofString "is_row") 1 (k_is_row C)) (F_is_step : Fn0 P w K mg base 4 (Str.ofString "is_step") 1 (k_is_step C)) : Fn0 P w K mg base 5 (Str.ofString "checked_steps") 1 (k_checked_steps C) :=
  fn0_k (k := 4) (mb := b_checked_steps C) F sc_checked_steps hg hb fun cdv A outer s H E hr =>
      (bm_cons (sm_if (tw (wm_or (tm_not (tm_v (e0 F_is_row.cut hr (am_cons (em_var 0) am_nil)))) (wm_or1 (tm_not (tch k_le k_le em_int (em_lenA T.n_len (em_var 0)) (em_gint T.c_MOST_STEPS))))))
        (bm_one sm_no)
        bm_nil)
      (bm_cons (sm_set 1 sc_checked_steps.nd (ecl (fm_lst am_nil)))
      (bm_cons (sm_set 2 sc_checked_steps.nd (ecl fm_dnew))
      (bm_cons (sm_forW (pm_var 0) (way_enum T.n_enumerate) (gm_unp (n := 2) (gms_name 3 (gm_name 3 sc_checked_steps.nd) (gms_name 4 (gm_name 4 sc_checked_steps.nd) gms_nil)))
        (bm_cons (sm_if (tw (wm_or (tm_not (tm_v (e0 F_is_step.cut hr (am_cons (em_var 4) am_nil)))) (wm_or1 (tc (k_in hr) (em_var 4) (em_var 1)))))
          (bm_one sm_no)
          bm_nil)
        (bm_cons (sm_put hr (em_var 2) (em_ixA hr (em_var 4) em_int) (em_add (em_get2 hr (em_var 2) (em_ixA hr (em_var 4) em_int) em_int) em_int))
        (bm_cons (sm_if (tc k_gt (em_ixA hr (em_var 2) (em_ixA hr (em_var 4) em_int)) (em_gint T.c_MOST_FROM))
          (bm_one sm_no)
          bm_nil)
        (bm_one (sm_expr (em_append (em_var 1) (em_var 4))))))) PassesOwn.never)
      (bm_one (sm_ret (em_var 1)))))))

/-! ### checked_faults -/
abbrev s_checked_faults : Stmt := top 29
abbrev N_checked_faults : List Str := [Str.ofString "faults", Str.ofString "words", Str.ofString "names", Str.ofString "word", Str.ofString "name"]
theorem sc_checked_faults : FnScope N_checked_faults [Str.ofString "faults", Str.ofString "words"] (defScope s_checked_faults) := ⟨rfl, rfl, rfl, by decide +kernel, rfl, by decide +kernel, by decide +kernel⟩
theorem ok_checked_faults {f : Addr} {fd : FuncData} {C : Cl} (T : Txt K mg C) (F : Fun K (Str.ofString "checked_faults") (Str.ofString "checked_faults") s_checked_faults f fd) (hg : mg (Str.ofString "checked_faults") = some (.ref f)) (hb : Binds K fd [Str.ofString "faults", Str.ofString "words"] []) (F_is_name : Fn0 P w K mg base 1 (Str.ofString "is_name") 1 (k_is_name C)) : Fn0 P w K mg base 2 (Str.ofString "checked_faults") 2 (k_checked_faults C) :=
  fn0_k (k := 1) (mb := b_checked_faults C) F sc_checked_faults hg hb fun cdv A outer s H E hr =>
      (bm_cons (sm_if (tc k_isN (em_var 0) em_non)
        (bm_one (sm_ret (ef fm_dnew nl_dnew)))
        bm_nil)
      (bm_cons (sm_if (tm_not (tm_v (em_isi T.n_isinstance (em_var 0) (em_ty T.n_dict (by decide +kernel)))))
        (bm_one sm_no)
        bm_nil)
      (bm_cons (sm_set 2 sc_checked_faults.nd (ecl (fm_lst am_nil)))
      (bm_cons (sm_forW (pm_var 0) way_items (gm_unp (n := 2) (gms_name 3 (gm_name 3 sc_checked_faults.nd) (gms_name 4 (gm_name 4 sc_checked_faults.nd) gms_nil)))
        (bm_cons (sm_if (tw (wm_or (tm_not (tm_v (e0 F_is_name.cut hr (am_cons (em_var 3) am_nil)))) (wm_or (tc (k_notIn hr) (em_var 3) (em_var 1)) (wm_or1 (tm_not (tm_v (e0 F_is_name.cut hr (am_cons (em_var 4) am_nil))))))))
          (bm_one sm_no)
          bm_nil)
        (bm_cons (sm_if (tc (k_notIn hr) (em_var 4) (em_var 2))
          (bm_one (sm_expr (em_append (em_var 2) (em_var 4))))
          bm_nil)
        (bm_one (sm_if (tc k_gt (em_lenA T.n_len (em_var 2)) (em_gint T.c_MOST_FAULTS))
          (bm_one sm_no)
          bm_nil)))) PassesOwn.never)
      (bm_one (sm_ret (ef (fm_dcW [3] [(Str.ofString "word", 3)] sc_checked_faults.nd (blkOk_by (N := N_checked_faults) (sc := defScope s_checked_faults) (own := [(Str.ofString "word", 3)]) (by decide +kernel)) (pm_var 1) way_any (fun _ => (gm_name 3 sc_checked_faults.nd)) (fun _ => (tms_one (tc (k_in hr) (em_var 3) (em_var 0)))) (fun _ => (em_var 3)) (fun _ => (em_ixA hr (em_var 0) (em_var 3)))) nl_dic)))))))

/-! ### leaving_table -/
abbrev s_leaving_table : Stmt := top 30
abbrev N_leaving_table : List Str := [Str.ofString "rows", Str.ofString "table", Str.ofString "number", Str.ofString "row", Str.ofString "known"]
theorem sc_leaving_table : FnScope N_leaving_table [Str.ofString "rows"] (defScope s_leaving_table) := ⟨rfl, rfl, rfl, by decide +kernel, rfl, by decide +kernel, by decide +kernel⟩
theorem ok_leaving_table {f : Addr} {fd : FuncData} {C : Cl} (T : Txt K mg C) (F : Fun K (Str.ofString "leaving_table") (Str.ofString "leaving_table") s_leaving_table f fd) (hg : mg (Str.ofString "leaving_table") = some (.ref f)) (hb : Binds K fd [Str.ofString "rows"] [])  : Fn0 P w K mg base 1 (Str.ofString "leaving_table") 1 (k_leaving_table C) :=
  fn0_k (k := 0) (mb := b_leaving_table C) F sc_leaving_table hg hb fun cdv A outer s H E hr =>
      (bm_cons (sm_set 1 sc_leaving_table.nd (ecl fm_dnew))
      (bm_cons (sm_forW (pm_var 0) (way_enum T.n_enumerate) (gm_unp (n := 2) (gms_name 2 (gm_name 2 sc_leaving_table.nd) (gms_name 3 (gm_name 3 sc_leaving_table.nd) gms_nil)))
        (bm_cons (sm_set 4 sc_leaving_table.nd (em_setd (em_var 1) (em_ixA hr (em_var 3) em_int) (ecl (fm_lst am_nil))))
        (bm_one (sm_expr (em_append (em_var 4) (em_var 2))))) PassesOwn.never)
      (bm_one (sm_ret (em_var 1)))))

/-! ### reached_states -/
abbrev s_reached_states : Stmt := top 31
abbrev N_reached_states : List Str := [Str.ofString "start", Str.ofString "rows", Str.ofString "leaving", Str.ofString "met", Str.ofString "waiting", Str.ofString "state", Str.ofString "number", Str.ofString "target"]
theorem sc_reached_states : FnScope N_reached_states [Str.ofString "start", Str.ofString "rows", Str.ofString "leaving"] (defScope s_reached_states) := ⟨rfl, rfl, rfl, by decide +kernel, rfl, by decide +kernel, by decide +kernel⟩
theorem ok_reached_states {f : Addr} {fd : FuncData} {C : Cl} (T : Txt K mg C) (F : Fun K (Str.ofString "reached_states") (Str.ofString "reached_states") s_reached_states f fd) (hg : mg (Str.ofString "reached_states") = some (.ref f)) (hb : Binds K fd [Str.ofString "start", Str.ofString "rows", Str.ofString "leaving"] [])  : Fn0 P w K mg base 1 (Str.ofString "reached_states") 3 (k_reached_states C) :=
  fn0_k (k := 0) (mb := b_reached_states C) F sc_reached_states hg hb fun cdv A outer s H E hr =>
      (bm_cons (sm_set 3 sc_reached_states.nd (ecl (fm_disp (prm_cons (em_var 0) em_bl prm_nil))))
      (bm_cons (sm_set 4 sc_reached_states.nd (ecl (fm_lst (am_cons (em_var 0) am_nil))))
      (bm_cons (sm_while 1000 (tm_v (em_var 4))
        (bm_cons (sm_set 5 sc_reached_states.nd (em_pop0 (em_var 4)))
        (bm_one (sm_for (im_seq (em_get2 hr (em_var 2) (em_var 5) (ef (fm_lst am_nil) nl_lst))) (gm_name 6 sc_reached_states.nd)
          (bm_cons (sm_set 7 sc_reached_states.nd (em_ixA hr (em_ixA hr (em_var 1) (em_var 6)) em_int))
          (bm_one (sm_if (tc (k_notIn hr) (em_var 7) (em_var 3))
            (bm_cons (sm_put hr (em_var 3) (em_var 7) em_bl)
            (bm_one (sm_expr (em_append (em_var 4) (em_var 7)))))
            bm_nil))) PassesOwn.never))) PassesOwn.never)
      (bm_one (sm_ret (ef (fm_sort hr T.n_sorted (ef (fm_listD T.n_list (em_var 3)) nl_listD)) nl_sort))))))

/-! ### Machine.__init__ -/
abbrev s_Machine_init : Stmt := inClass (top 26) 0
abbrev N_Machine_init : List Str := [Str.ofString "self", Str.ofString "start", Str.ofString "steps", Str.ofString "faults", Str.ofString "rows", Str.ofString "words", Str.ofString "state", Str.ofString "row"]
theorem sc_Machine_init : FnScope N_Machine_init [Str.ofString "self", Str.ofString "start", Str.ofString "steps", Str.ofString "faults"] (defScope s_Machine_init) := ⟨rfl, rfl, rfl, by decide +kernel, rfl, by decide +kernel, by decide +kernel⟩
theorem ok_Machine_init {f : Addr} {fd : FuncData} {C : Cl} (T : Txt K mg C) (F : FunD K (Str.ofString "__init__") (Str.ofString "Machine.__init__") (defArgs s_Machine_init) (defBody s_Machine_init) (defScope s_Machine_init) [.non] [] f fd) (hb : Binds K fd [Str.ofString "self", Str.ofString "start", Str.ofString "steps", Str.ofString "faults"] []) (F_is_state : Fn0 P w K mg base 3 (Str.ofString "is_state") 1 (k_is_state C)) (F_checked_steps : Fn0 P w K mg base 5 (Str.ofString "checked_steps") 1 (k_checked_steps C)) (F_checked_faults : Fn0 P w K mg base 2 (Str.ofString "checked_faults") 2 (k_checked_faults C)) (F_leaving_table : Fn0 P w K mg base 1 (Str.ofString "leaving_table") 1 (k_leaving_table C)) (F_reached_states : Fn0 P w K mg base 1 (Str.ofString "reached_states") 3 (k_reached_states C)) : FnA P w K mg base 6 f 4 (k_Machine_init C) [] :=
  fnaD_k (k := 5) (mb := b_Machine_init C) F sc_Machine_init hb fun cdv A outer s H E hr =>
      (bm_cons (sm_if (tm_not (tm_v (e0 F_is_state.cut hr (am_cons (em_var 1) am_nil))))
        (bm_one sm_no)
        bm_nil)
      (bm_cons (sm_set 4 sc_Machine_init.nd (e0 F_checked_steps.cut hr (am_cons (em_var 2) am_nil)))
      (bm_cons (sm_set 5 sc_Machine_init.nd (ef (fm_sortK hr T.n_sorted (km_scW [7] [(Str.ofString "row", 7)] sc_Machine_init.nd (blkOk_by (N := N_Machine_init) (sc := defScope s_Machine_init) (own := [(Str.ofString "row", 7)]) (by decide +kernel)) (pm_var 4) way_any (fun _ => (gm_name 7 sc_Machine_init.nd)) (fun _ => tms_nil) (fun _ => (em_ixA hr (em_var 7) em_int)))) nl_sortK))
      (bm_cons (sm_if (tc k_gt (em_lenA T.n_len (em_var 5)) (em_gint T.c_MOST_WORDS))
        (bm_one sm_no)
        bm_nil)
      (bm_cons (sm_fld C.Machine T.cl_Machine T.na_Machine_first_state (em_var 0) (em_var 1))
      (bm_cons (sm_fld C.Machine T.cl_Machine T.na_Machine_step_rows (em_var 0) (em_var 4))
      (bm_cons (sm_fld C.Machine T.cl_Machine T.na_Machine_word_list (em_var 0) (em_var 5))
      (bm_cons (sm_fld C.Machine T.cl_Machine T.na_Machine_fault_table (em_var 0) (e0 F_checked_faults.cut hr (am_cons (em_var 3) (am_cons (em_var 5) am_nil))))
      (bm_cons (sm_fld C.Machine T.cl_Machine T.na_Machine_leaving (em_var 0) (e0 F_leaving_table.cut hr (am_cons (em_var 4) am_nil)))
      (bm_cons (sm_fld C.Machine T.cl_Machine T.na_Machine_met_states (em_var 0) (e0 F_reached_states.cut hr (am_cons (em_var 1) (am_cons (em_var 4) (am_cons (em_fld C.Machine T.cl_Machine T.na_Machine_leaving (em_var 0)) am_nil)))))
      (bm_one (sm_forW (pm_fld C.Machine T.cl_Machine T.na_Machine_met_states (pm_var 0)) way_any (gm_name 6 sc_Machine_init.nd)
        (bm_one (sm_if (tc (k_notIn hr) (em_var 6) (em_fld C.Machine T.cl_Machine T.na_Machine_leaving (em_var 0)))
          (bm_one sm_no)
          bm_nil)) PassesOwn.never))))))))))))

/-! ### Machine.start -/
abbrev s_Machine_start : Stmt := inClass (top 26) 1
abbrev N_Machine_start : List Str := [Str.ofString "self"]
theorem sc_Machine_start : FnScope N_Machine_start [Str.ofString "self"] (defScope s_Machine_start) := ⟨rfl, rfl, rfl, by decide +kernel, rfl, by decide +kernel, by decide +kernel⟩
theorem ok_Machine_start {f : Addr} {fd : FuncData} {C : Cl} (T : Txt K mg C) (F : Fun K (Str.ofString "start") (Str.ofString "Machine.start") s_Machine_start f fd) (hb : Binds K fd [Str.ofString "self"] [])  : FnA P w K mg base 1 f 1 (k_Machine_start C) [] :=
  fna_k (k := 0) (mb := b_Machine_start C) F sc_Machine_start hb fun cdv A outer s H E hr =>
      (bm_one (sm_ret (em_fld C.Machine T.cl_Machine T.na_Machine_first_state (em_var 0))))

/-! ### Machine.fault_names -/
abbrev s_Machine_fault_names : Stmt := inClass (top 26) 4
abbrev N_Machine_fault_names : List Str := [Str.ofString "self", Str.ofString "name"]
theorem sc_Machine_fault_names : FnScope N_Machine_fault_names [Str.ofString "self"] (defScope s_Machine_fault_names) := ⟨rfl, rfl, rfl, by decide +kernel, rfl, by decide +kernel, by decide +kernel⟩
theorem ok_Machine_fault_names {f : Addr} {fd : FuncData} {C : Cl} (T : Txt K mg C) (F : Fun K (Str.ofString "fault_names") (Str.ofString "Machine.fault_names") s_Machine_fault_names f fd) (hb : Binds K fd [Str.ofString "self"] [])  : FnA P w K mg base 1 f 1 (k_Machine_fault_names C) [] :=
  fna_k (k := 0) (mb := b_Machine_fault_names C) F sc_Machine_fault_names hb fun cdv A outer s H E hr =>
      (bm_one (sm_ret (ecl (fm_sortK hr T.n_sorted (km_scW [1] [(Str.ofString "name", 1)] sc_Machine_fault_names.nd (blkOk_by (N := N_Machine_fault_names) (sc := defScope s_Machine_fault_names) (own := [(Str.ofString "name", 1)]) (by decide +kernel)) (pm_fld C.Machine T.cl_Machine T.na_Machine_fault_table (pm_var 0)) way_vals (fun _ => (gm_name 1 sc_Machine_fault_names.nd)) (fun _ => tms_nil) (fun _ => (em_var 1)))))))

/-! ### Machine.__eq__ -/
abbrev s_Machine_eq : Stmt := inClass (top 26) 7
abbrev N_Machine_eq : List Str := [Str.ofString "self", Str.ofString "other"]
theorem sc_Machine_eq : FnScope N_Machine_eq [Str.ofString "self", Str.ofString "other"] (defScope s_Machine_eq) := ⟨rfl, rfl, rfl, by decide +kernel, rfl, by decide +kernel, by decide +kernel⟩
theorem ok_Machine_eq {f : Addr} {fd : FuncData} {C : Cl} (T : Txt K mg C) (F : Fun K (Str.ofString "__eq__") (Str.ofString "Machine.__eq__") s_Machine_eq f fd) (hb : Binds K fd [Str.ofString "self", Str.ofString "other"] [])  : FnA P w K mg base 1 f 2 (k_Machine_eq C) [] :=
  fna_k (k := 0) (mb := b_Machine_eq C) F sc_Machine_eq hb fun cdv A outer s H E hr =>
      (bm_cons (sm_if (tm_not (tm_v (em_isO T.n_isinstance T.mg_Machine T.iso_Machine (em_var 1))))
        (bm_one (sm_ret em_bl))
        bm_nil)
      (bm_cons (sm_if (tw (wm_or (tc (k_neK hr) (em_fld C.Machine T.cl_Machine T.na_Machine_first_state (em_var 0)) (em_fld C.Machine T.cl_Machine T.na_Machine_first_state (em_var 1))) (wm_or1 (tc (k_neK hr) (em_fld C.Machine T.cl_Machine T.na_Machine_step_rows (em_var 0)) (em_fld C.Machine T.cl_Machine T.na_Machine_step_rows (em_var 1))))))
        (bm_one (sm_ret em_bl))
        bm_nil)
      (bm_one (sm_ret (ec (k_eqK hr) (em_fld C.Machine T.cl_Machine T.na_Machine_fault_table (em_var 0)) (em_fld C.Machine T.cl_Machine T.na_Machine_fault_table (em_var 1)))))))

/-! ### steps_from -/
abbrev s_steps_from : Stmt := top 32
abbrev N_steps_from : List Str := [Str.ofString "machine", Str.ofString "state"]
theorem sc_steps_from : FnScope N_steps_from [Str.ofString "machine", Str.ofString "state"] (defScope s_steps_from) := ⟨rfl, rfl, rfl, by decide +kernel, rfl, by decide +kernel, by decide +kernel⟩
theorem ok_steps_from {f : Addr} {fd : FuncData} {C : Cl} (T : Txt K mg C) (F : Fun K (Str.ofString "steps_from") (Str.ofString "steps_from") s_steps_from f fd) (hg : mg (Str.ofString "steps_from") = some (.ref f)) (hb : Binds K fd [Str.ofString "machine", Str.ofString "state"] [])  : Fn0 P w K mg base 1 (Str.ofString "steps_from") 2 (k_steps_from C) :=
  fn0_k (k := 0) (mb := b_steps_from C) F sc_steps_from hg hb fun cdv A outer s H E hr =>
      (bm_one (sm_ret (ef (fm_list T.n_list (em_get2 hr (em_fld C.Machine T.cl_Machine T.na_Machine_leaving (em_var 0)) (em_var 1) (ef (fm_lst am_nil) nl_lst))) nl_list)))

/-! ### is_fault_step -/
abbrev s_is_fault_step : Stmt := top 33
abbrev N_is_fault_step : List Str := [Str.ofString "machine", Str.ofString "number", Str.ofString "fault"]
theorem sc_is_fault_step : FnScope N_is_fault_step [Str.ofString "machine", Str.ofString "number", Str.ofString "fault"] (defScope s_is_fault_step) := ⟨rfl, rfl, rfl, by decide +kernel, rfl, by decide +kernel, by decide +kernel⟩
theorem ok_is_fault_step {f : Addr} {fd : FuncData} {C : Cl} (T : Txt K mg C) (F : Fun K (Str.ofString "is_fault_step") (Str.ofString "is_fault_step") s_is_fault_step f fd) (hg : mg (Str.ofString "is_fault_step") = some (.ref f)) (hb : Binds K fd [Str.ofString "machine", Str.ofString "number", Str.ofString "fault"] [])  : Fn0 P w K mg base 1 (Str.ofString "is_fault_step") 3 (k_is_fault_step C) :=
  fn0_k (k := 0) (mb := b_is_fault_step C) F sc_is_fault_step hg hb fun cdv A outer s H E hr =>
      (bm_one (sm_ret (ec (k_eqK hr) (em_get1 hr (em_fld C.Machine T.cl_Machine T.na_Machine_fault_table (em_var 0)) (em_ixA hr (em_ixA hr (em_fld C.Machine T.cl_Machine T.na_Machine_step_rows (em_var 0)) (em_var 1)) em_int)) (em_var 2))))

/-! ### check_fault -/
abbrev s_check_fault : Stmt := top 34
abbrev N_check_fault : List Str := [Str.ofString "machine", Str.ofString "fault"]
theorem sc_check_fault : FnScope N_check_fault [Str.ofString "machine", Str.ofString "fault"] (defScope s_check_fault) := ⟨rfl, rfl, rfl, by decide +kernel, rfl, by decide +kernel, by decide +kernel⟩
theorem ok_check_fault {f : Addr} {fd : FuncData} {C : Cl} (T : Txt K mg C) (F : Fun K (Str.ofString "check_fault") (Str.ofString "check_fault") s_check_fault f fd) (hg : mg (Str.ofString "check_fault") = some (.ref f)) (hb : Binds K fd [Str.ofString "machine", Str.ofString "fault"] []) (F_is_name : Fn0 P w K mg base 1 (Str.ofString "is_name") 1 (k_is_name C)) (F_Machine_fault_names : Prp P w K mg base 1 C.Machine (Str.ofString "fault_names") (k_Machine_fault_names C)) : Fn0 P w K mg base 3 (Str.ofString "check_fault") 2 (k_check_fault C) :=
  fn0_k (k := 2) (mb := b_check_fault C) F sc_check_fault hg hb fun cdv A outer s H E hr =>
      (bm_one (sm_if (tw (wm_or (tm_not (tm_v (e0 F_is_name.cut hr (am_cons (em_var 1) am_nil)))) (wm_or1 (tc (k_notIn hr) (em_var 1) (em_prp T.cl_Machine F_Machine_fault_names.cut hr (em_var 0))))))
        (bm_one sm_no)
        bm_nil))

/-! ### is_sight_table -/
abbrev s_is_sight_table : Stmt := top 37
abbrev N_is_sight_table : List Str := [Str.ofString "value", Str.ofString "word", Str.ofString "sight"]
theorem sc_is_sight_table : FnScope N_is_sight_table [Str.ofString "value"] (defScope s_is_sight_table) := ⟨rfl, rfl, rfl, by decide +kernel, rfl, by decide +kernel, by decide +kernel⟩
theorem ok_is_sight_table {f : Addr} {fd : FuncData} {C : Cl} (T : Txt K mg C) (F : Fun K (Str.ofString "is_sight_table") (Str.ofString "is_sight_table") s_is_sight_table f fd) (hg : mg (Str.ofString "is_sight_table") = some (.ref f)) (hb : Binds K fd [Str.ofString "value"] []) (F_is_name : Fn0 P w K mg base 1 (Str.ofString "is_name") 1 (k_is_name C)) : Fn0 P w K mg base 2 (Str.ofString "is_sight_table") 1 (k_is_sight_table C) :=
  fn0_k (k := 1) (mb := b_is_sight_table C) F sc_is_sight_table hg hb fun cdv A outer s H E hr =>
      (bm_cons (sm_if (tm_not (tm_v (em_isi T.n_isinstance (em_var 0) (em_ty T.n_dict (by decide +kernel)))))
        (bm_one (sm_ret em_bl))
        bm_nil)
      (bm_cons (sm_forW (pm_var 0) way_items (gm_unp (n := 2) (gms_name 1 (gm_name 1 sc_is_sight_table.nd) (gms_name 2 (gm_name 2 sc_is_sight_table.nd) gms_nil)))
        (bm_one (sm_if (tw (wm_or (tm_not (tm_v (e0 F_is_name.cut hr (am_cons (em_var 1) am_nil)))) (wm_or1 (tm_not (tm_v (e0 F_is_name.cut hr (am_cons (em_var 2) am_nil)))))))
          (bm_one (sm_ret em_bl))
          bm_nil)) PassesOwn.never)
      (bm_one (sm_ret em_bl))))

/-! ### Watch.__init__ -/
abbrev s_Watch_init : Stmt := inClass (top 36) 0
abbrev N_Watch_init : List Str := [Str.ofString "self", Str.ofString "sights", Str.ofString "word"]
theorem sc_Watch_init : FnScope N_Watch_init [Str.ofString "self", Str.ofString "sights"] (defScope s_Watch_init) := ⟨rfl, rfl, rfl, by decide +kernel, rfl, by decide +kernel, by decide +kernel⟩
theorem ok_Watch_init {f : Addr} {fd : FuncData} {C : Cl} (T : Txt K mg C) (F : FunD K (Str.ofString "__init__") (Str.ofString "Watch.__init__") (defArgs s_Watch_init) (defBody s_Watch_init) (defScope s_Watch_init) [.non] [] f fd) (hb : Binds K fd [Str.ofString "self", Str.ofString "sights"] []) (F_is_sight_table : Fn0 P w K mg base 2 (Str.ofString "is_sight_table") 1 (k_is_sight_table C)) : FnA P w K mg base 3 f 2 (k_Watch_init C) [] :=
  fnaD_k (k := 2) (mb := b_Watch_init C) F sc_Watch_init hb fun cdv A outer s H E hr =>
      (bm_cons (sm_if (tw (wm_and (tc k_notN (em_var 1) em_non) (wm_and1 (tm_not (tm_v (e0 F_is_sight_table.cut hr (am_cons (em_var 1) am_nil)))))))
        (bm_one sm_no)
        bm_nil)
      (bm_cons (sm_fld C.Watch T.cl_Watch T.na_Watch_table (em_var 0) (ef fm_dnew nl_dnew))
      (bm_one (sm_if (tc k_notN (em_var 1) em_non)
        (bm_one (sm_fld C.Watch T.cl_Watch T.na_Watch_table (em_var 0) (ef (fm_dcW [2] [(Str.ofString "word", 2)] sc_Watch_init.nd (blkOk_by (N := N_Watch_init) (sc := defScope s_Watch_init) (own := [(Str.ofString "word", 2)]) (by decide +kernel)) (pm_var 1) way_any (fun _ => (gm_name 2 sc_Watch_init.nd)) (fun _ => tms_nil) (fun _ => (em_var 2)) (fun _ => (em_ixA hr (em_var 1) (em_var 2)))) nl_dic)))
        bm_nil))))

/-! ### Watch.__eq__ -/
abbrev s_Watch_eq : Stmt := inClass (top 36) 5
abbrev N_Watch_eq : List Str := [Str.ofString "self", Str.ofString "other"]
theorem sc_Watch_eq : FnScope N_Watch_eq [Str.ofString "self", Str.ofString "other"] (defScope s_Watch_eq) := ⟨rfl, rfl, rfl, by decide +kernel, rfl, by decide +kernel, by decide +kernel⟩
theorem ok_Watch_eq {f : Addr} {fd : FuncData} {C : Cl} (T : Txt K mg C) (F : Fun K (Str.ofString "__eq__") (Str.ofString "Watch.__eq__") s_Watch_eq f fd) (hb : Binds K fd [Str.ofString "self", Str.ofString "other"] [])  : FnA P w K mg base 1 f 2 (k_Watch_eq C) [] :=
  fna_k (k := 0) (mb := b_Watch_eq C) F sc_Watch_eq hb fun cdv A outer s H E hr =>
      (bm_one (sm_ret (em_and (em_isO T.n_isinstance T.mg_Watch T.iso_Watch (em_var 1)) (em_one (ec (k_eqK hr) (em_fld C.Watch T.cl_Watch T.na_Watch_table (em_var 0)) (em_fld C.Watch T.cl_Watch T.na_Watch_table (em_var 1)))))))

/-! ### check_watch -/
abbrev s_check_watch : Stmt := top 42
abbrev N_check_watch : List Str := [Str.ofString "watch"]
theorem sc_check_watch : FnScope N_check_watch [Str.ofString "watch"] (defScope s_check_watch) := ⟨rfl, rfl, rfl, by decide +kernel, rfl, by decide +kernel, by decide +kernel⟩
theorem ok_check_watch {f : Addr} {fd : FuncData} {C : Cl} (T : Txt K mg C) (F : Fun K (Str.ofString "check_watch") (Str.ofString "check_watch") s_check_watch f fd) (hg : mg (Str.ofString "check_watch") = some (.ref f)) (hb : Binds K fd [Str.ofString "watch"] [])  : Fn0 P w K mg base 1 (Str.ofString "check_watch") 1 (k_check_watch C) :=
  fn0_k (k := 0) (mb := b_check_watch C) F sc_check_watch hg hb fun cdv A outer s H E hr =>
      (bm_one (sm_if (tm_not (tm_v (em_isO T.n_isinstance T.mg_Watch T.iso_Watch (em_var 0))))
        (bm_one sm_no)
        bm_nil))

/-! ### sight_of -/
abbrev s_sight_of : Stmt := top 43
abbrev N_sight_of : List Str := [Str.ofString "watch", Str.ofString "word"]
theorem sc_sight_of : FnScope N_sight_of [Str.ofString "watch", Str.ofString "word"] (defScope s_sight_of) := ⟨rfl, rfl, rfl, by decide +kernel, rfl, by decide +kernel, by decide +kernel⟩
theorem ok_sight_of {f : Addr} {fd : FuncData} {C : Cl} (T : Txt K mg C) (F : Fun K (Str.ofString "sight_of") (Str.ofString "sight_of") s_sight_of f fd) (hg : mg (Str.ofString "sight_of") = some (.ref f)) (hb : Binds K fd [Str.ofString "watch", Str.ofString "word"] [])  : Fn0 P w K mg base 1 (Str.ofString "sight_of") 2 (k_sight_of C) :=
  fn0_k (k := 0) (mb := b_sight_of C) F sc_sight_of hg hb fun cdv A outer s H E hr =>
      (bm_one (sm_ret (em_get1 hr (em_fld C.Watch T.cl_Watch T.na_Watch_table (em_var 0)) (em_var 1))))

/-! ### check_run -/
abbrev s_check_run : Stmt := top 45
abbrev N_check_run : List Str := [Str.ofString "machine", Str.ofString "run", Str.ofString "state", Str.ofString "at", Str.ofString "number"]
theorem sc_check_run : FnScope N_check_run [Str.ofString "machine", Str.ofString "run"] (defScope s_check_run) := ⟨rfl, rfl, rfl, by decide +kernel, rfl, by decide +kernel, by decide +kernel⟩
theorem ok_check_run {f : Addr} {fd : FuncData} {C : Cl} (T : Txt K mg C) (F : Fun K (Str.ofString "check_run") (Str.ofString "check_run") s_check_run f fd) (hg : mg (Str.ofString "check_run") = some (.ref f)) (hb : Binds K fd [Str.ofString "machine", Str.ofString "run"] []) (F_Machine_start : Prp P w K mg base 1 C.Machine (Str.ofString "start") (k_Machine_start C)) (F_is_integer : Fn0 P w K mg base 1 (Str.ofString "is_integer") 1 (k_is_integer C)) (F_steps_from : Fn0 P w K mg base 1 (Str.ofString "steps_from") 2 (k_steps_from C)) : Fn0 P w K mg base 3 (Str.ofString "check_run") 2 (k_check_run C) :=
  fn0_k (k := 2) (mb := b_check_run C) F sc_check_run hg hb fun cdv A outer s H E hr =>
      (bm_cons (sm_if (tm_not (tm_v (em_isi T.n_isinstance (em_var 1) (em_ty T.n_tuple (by decide +kernel)))))
        (bm_one sm_no)
        bm_nil)
      (bm_cons (sm_set 2 sc_check_run.nd (em_prp T.cl_Machine F_Machine_start.cut hr (em_var 0)))
      (bm_cons (sm_forW (pm_var 1) (way_enum T.n_enumerate) (gm_unp (n := 2) (gms_name 3 (gm_name 3 sc_check_run.nd) (gms_name 4 (gm_name 4 sc_check_run.nd) gms_nil)))
        (bm_cons (sm_if (tw (wm_or (tm_not (tm_v (e0 F_is_integer.cut hr (am_cons (em_var 4) am_nil)))) (wm_or1 (tc (k_notIn hr) (em_var 4) (e0 F_steps_from.cut hr (am_cons (em_var 0) (am_cons (em_var 2) am_nil)))))))
          (bm_one sm_no)
          bm_nil)
        (bm_one (sm_set 2 sc_check_run.nd (em_ixA hr (em_ixA hr (em_fld C.Machine T.cl_Machine T.na_Machine_step_rows (em_var 0)) (em_var 4)) em_int)))) PassesOwn.never)
      (bm_one (sm_ret (em_var 2))))))

/-! ### end_of -/
abbrev s_end_of : Stmt := top 46
abbrev N_end_of : List Str := [Str.ofString "machine", Str.ofString "run"]
theorem sc_end_of : FnScope N_end_of [Str.ofString "machine", Str.ofString "run"] (defScope s_end_of) := ⟨rfl, rfl, rfl, by decide +kernel, rfl, by decide +kernel, by decide +kernel⟩
theorem ok_end_of {f : Addr} {fd : FuncData} {C : Cl} (T : Txt K mg C) (F : Fun K (Str.ofString "end_of") (Str.ofString "end_of") s_end_of f fd) (hg : mg (Str.ofString "end_of") = some (.ref f)) (hb : Binds K fd [Str.ofString "machine", Str.ofString "run"] []) (F_check_run : Fn0 P w K mg base 3 (Str.ofString "check_run") 2 (k_check_run C)) : Fn0 P w K mg base 4 (Str.ofString "end_of") 2 (k_end_of C) :=
  fn0_k (k := 3) (mb := b_end_of C) F sc_end_of hg hb fun cdv A outer s H E hr =>
      (bm_one (sm_ret (e0 F_check_run.cut hr (am_cons (em_var 0) (am_cons (em_var 1) am_nil)))))

/-! ### faults_in -/
abbrev s_faults_in : Stmt := top 47
abbrev N_faults_in : List Str := [Str.ofString "machine", Str.ofString "run", Str.ofString "table", Str.ofString "words", Str.ofString "number", Str.ofString "word"]
theorem sc_faults_in : FnScope N_faults_in [Str.ofString "machine", Str.ofString "run"] (defScope s_faults_in) := ⟨rfl, rfl, rfl, by decide +kernel, rfl, by decide +kernel, by decide +kernel⟩
theorem ok_faults_in {f : Addr} {fd : FuncData} {C : Cl} (T : Txt K mg C) (F : Fun K (Str.ofString "faults_in") (Str.ofString "faults_in") s_faults_in f fd) (hg : mg (Str.ofString "faults_in") = some (.ref f)) (hb : Binds K fd [Str.ofString "machine", Str.ofString "run"] []) (F_check_run : Fn0 P w K mg base 3 (Str.ofString "check_run") 2 (k_check_run C)) : Fn0 P w K mg base 4 (Str.ofString "faults_in") 2 (k_faults_in C) :=
  fn0_k (k := 3) (mb := b_faults_in C) F sc_faults_in hg hb fun cdv A outer s H E hr =>
      (bm_cons (sm_expr (e0 F_check_run.cut hr (am_cons (em_var 0) (am_cons (em_var 1) am_nil))))
      (bm_cons (sm_set 2 sc_faults_in.nd (em_fld C.Machine T.cl_Machine T.na_Machine_fault_table (em_var 0)))
      (bm_cons (sm_setLcW 3 [4] [(Str.ofString "number", 4)] false sc_faults_in.nd (blkOk_by (N := N_faults_in) (sc := defScope s_faults_in) (own := [(Str.ofString "number", 4)]) (by decide +kernel)) (pm_var 1) way_any (fun _ => (gm_name 4 sc_faults_in.nd)) (fun _ => tms_nil) (fun _ => (em_ixA hr (em_ixA hr (em_fld C.Machine T.cl_Machine T.na_Machine_step_rows (em_var 0)) (em_var 4)) em_int)))
      (bm_one (sm_ret (ef (fm_sortK hr T.n_sorted (km_scW [5] [(Str.ofString "word", 5)] sc_faults_in.nd (blkOk_by (N := N_faults_in) (sc := defScope s_faults_in) (own := [(Str.ofString "word", 5)]) (by decide +kernel)) (pm_var 3) way_any (fun _ => (gm_name 5 sc_faults_in.nd)) (fun _ => (tms_one (tc (k_in hr) (em_var 5) (em_var 2)))) (fun _ => (em_ixA hr (em_var 2) (em_var 5))))) nl_sortK))))))

/-! ### path_sights -/
abbrev s_path_sights : Stmt := top 48
abbrev N_path_sights : List Str := [Str.ofString "machine", Str.ofString "watch", Str.ofString "path", Str.ofString "seen", Str.ofString "number", Str.ofString "sight"]
theorem sc_path_sights : FnScope N_path_sights [Str.ofString "machine", Str.ofString "watch", Str.ofString "path"] (defScope s_path_sights) := ⟨rfl, rfl, rfl, by decide +kernel, rfl, by decide +kernel, by decide +kernel⟩
theorem ok_path_sights {f : Addr} {fd : FuncData} {C : Cl} (T : Txt K mg C) (F : Fun K (Str.ofString "path_sights") (Str.ofString "path_sights") s_path_sights f fd) (hg : mg (Str.ofString "path_sights") = some (.ref f)) (hb : Binds K fd [Str.ofString "machine", Str.ofString "watch", Str.ofString "path"] []) (F_sight_of : Fn0 P w K mg base 1 (Str.ofString "sight_of") 2 (k_sight_of C)) : Fn0 P w K mg base 2 (Str.ofString "path_sights") 3 (k_path_sights C) :=
  fn0_k (k := 1) (mb := b_path_sights C) F sc_path_sights hg hb fun cdv A outer s H E hr =>
      (bm_cons (sm_set 3 sc_path_sights.nd (ecl (fm_lst am_nil)))
      (bm_cons (sm_forW (pm_var 2) way_any (gm_name 4 sc_path_sights.nd)
        (bm_cons (sm_set 5 sc_path_sights.nd (e0 F_sight_of.cut hr (am_cons (em_var 1) (am_cons (em_ixA hr (em_ixA hr (em_fld C.Machine T.cl_Machine T.na_Machine_step_rows (em_var 0)) (em_var 4)) em_int) am_nil))))
        (bm_one (sm_if (tc k_notN (em_var 5) em_non)
          (bm_one (sm_expr (em_append (em_var 3) (em_var 5))))
          bm_nil))) PassesOwn.never)
      (bm_one (sm_ret (em_tuple T.n_tuple (em_var 3))))))

/-! ### sights_of -/
abbrev s_sights_of : Stmt := top 49
abbrev N_sights_of : List Str := [Str.ofString "machine", Str.ofString "watch", Str.ofString "run"]
theorem sc_sights_of : FnScope N_sights_of [Str.ofString "machine", Str.ofString "watch", Str.ofString "run"] (defScope s_sights_of) := ⟨rfl, rfl, rfl, by decide +kernel, rfl, by decide +kernel, by decide +kernel⟩
theorem ok_sights_of {f : Addr} {fd : FuncData} {C : Cl} (T : Txt K mg C) (F : Fun K (Str.ofString "sights_of") (Str.ofString "sights_of") s_sights_of f fd) (hg : mg (Str.ofString "sights_of") = some (.ref f)) (hb : Binds K fd [Str.ofString "machine", Str.ofString "watch", Str.ofString "run"] []) (F_check_watch : Fn0 P w K mg base 1 (Str.ofString "check_watch") 1 (k_check_watch C)) (F_check_run : Fn0 P w K mg base 3 (Str.ofString "check_run") 2 (k_check_run C)) (F_path_sights : Fn0 P w K mg base 2 (Str.ofString "path_sights") 3 (k_path_sights C)) : Fn0 P w K mg base 4 (Str.ofString "sights_of") 3 (k_sights_of C) :=
  fn0_k (k := 3) (mb := b_sights_of C) F sc_sights_of hg hb fun cdv A outer s H E hr =>
      (bm_cons (sm_expr (e0 F_check_watch.cut hr (am_cons (em_var 1) am_nil)))
      (bm_cons (sm_expr (e0 F_check_run.cut hr (am_cons (em_var 0) (am_cons (em_var 2) am_nil))))
      (bm_one (sm_ret (e0 F_path_sights.cut hr (am_cons (em_var 0) (am_cons (em_var 1) (am_cons (em_var 2) am_nil))))))))

/-! ### run_behind -/
abbrev s_run_behind : Stmt := top 50
abbrev N_run_behind : List Str := [Str.ofString "machine", Str.ofString "run", Str.ofString "fault", Str.ofString "at", Str.ofString "number"]
theorem sc_run_behind : FnScope N_run_behind [Str.ofString "machine", Str.ofString "run", Str.ofString "fault"] (defScope s_run_behind) := ⟨rfl, rfl, rfl, by decide +kernel, rfl, by decide +kernel, by decide +kernel⟩
theorem ok_run_behind {f : Addr} {fd : FuncData} {C : Cl} (T : Txt K mg C) (F : Fun K (Str.ofString "run_behind") (Str.ofString "run_behind") s_run_behind f fd) (hg : mg (Str.ofString "run_behind") = some (.ref f)) (hb : Binds K fd [Str.ofString "machine", Str.ofString "run", Str.ofString "fault"] []) (F_is_fault_step : Fn0 P w K mg base 1 (Str.ofString "is_fault_step") 3 (k_is_fault_step C)) : Fn0 P w K mg base 2 (Str.ofString "run_behind") 3 (k_run_behind C) :=
  fn0_k (k := 1) (mb := b_run_behind C) F sc_run_behind hg hb fun cdv A outer s H E hr =>
      (bm_cons (sm_forW (pm_var 1) (way_enum T.n_enumerate) (gm_unp (n := 2) (gms_name 3 (gm_name 3 sc_run_behind.nd) (gms_name 4 (gm_name 4 sc_run_behind.nd) gms_nil)))
        (bm_one (sm_if (tm_v (e0 F_is_fault_step.cut hr (am_cons (em_var 0) (am_cons (em_var 4) (am_cons (em_var 2) am_nil)))))
          (bm_one (sm_ret (em_sub (em_sub (em_lenA T.n_len (em_var 1)) (em_var 3)) em_int)))
          bm_nil)) PassesOwn.never)
      (bm_one (sm_ret em_non)))

/-! ### steps_behind -/
abbrev s_steps_behind : Stmt := top 51
abbrev N_steps_behind : List Str := [Str.ofString "machine", Str.ofString "run", Str.ofString "fault"]
theorem sc_steps_behind : FnScope N_steps_behind [Str.ofString "machine", Str.ofString "run", Str.ofString "fault"] (defScope s_steps_behind) := ⟨rfl, rfl, rfl, by decide +kernel, rfl, by decide +kernel, by decide +kernel⟩
theorem ok_steps_behind {f : Addr} {fd : FuncData} {C : Cl} (T : Txt K mg C) (F : Fun K (Str.ofString "steps_behind") (Str.ofString "steps_behind") s_steps_behind f fd) (hg : mg (Str.ofString "steps_behind") = some (.ref f)) (hb : Binds K fd [Str.ofString "machine", Str.ofString "run", Str.ofString "fault"] []) (F_check_run : Fn0 P w K mg base 3 (Str.ofString "check_run") 2 (k_check_run C)) (F_check_fault : Fn0 P w K mg base 3 (Str.ofString "check_fault") 2 (k_check_fault C)) (F_run_behind : Fn0 P w K mg base 2 (Str.ofString "run_behind") 3 (k_run_behind C)) : Fn0 P w K mg base 4 (Str.ofString "steps_behind") 3 (k_steps_behind C) :=
  fn0_k (k := 3) (mb := b_steps_behind C) F sc_steps_behind hg hb fun cdv A outer s H E hr =>
      (bm_cons (sm_expr (e0 F_check_run.cut hr (am_cons (em_var 0) (am_cons (em_var 1) am_nil))))
      (bm_cons (sm_expr (e0 F_check_fault.cut hr (am_cons (em_var 0) (am_cons (em_var 2) am_nil))))
      (bm_one (sm_ret (e0 F_run_behind.cut hr (am_cons (em_var 0) (am_cons (em_var 1) (am_cons (em_var 2) am_nil))))))))

/-! ### _law_mix -/
abbrev s_law_mix : Stmt := top 53
abbrev N_law_mix : List Str := [Str.ofString "_law_cell_here", Str.ofString "_law_k", Str.ofString "_law_number"]
theorem sc_law_mix : FnScope N_law_mix [Str.ofString "_law_cell_here", Str.ofString "_law_k"] (defScope s_law_mix) := ⟨rfl, rfl, rfl, by decide +kernel, rfl, by decide +kernel, by decide +kernel⟩
theorem ok_law_mix {f : Addr} {fd : FuncData} {C : Cl} (T : Txt K mg C) (F : Fun K (Str.ofString "_law_mix") (Str.ofString "_law_mix") s_law_mix f fd) (hg : mg (Str.ofString "_law_mix") = some (.ref f)) (hb : Binds K fd [Str.ofString "_law_cell_here", Str.ofString "_law_k"] [])  : Fn0 P w K mg base 1 (Str.ofString "_law_mix") 2 (k_law_mix C) :=
  fn0_k (k := 0) (mb := b_law_mix C) F sc_law_mix hg hb fun cdv A outer s H E hr =>
      (bm_cons (sm_set 2 sc_law_mix.nd (em_mod (em_mul (em_toint T.n_int (em_add (em_add (em_toint T.n_int (em_var 0)) (em_mul em_int (em_var 1))) em_int)) em_int) em_int))
      (bm_cons (sm_set 2 sc_law_mix.nd (em_mod (em_toint T.n_int (em_mul (em_var 2) (em_add (em_div (em_var 2) em_int) em_int))) em_int))
      (bm_one (sm_ret (em_mod (em_toint T.n_int (em_mul (em_var 2) (em_add (em_div (em_var 2) em_int) em_int))) em_int)))))

/-! ### _law_cell -/
abbrev s_law_cell : Stmt := top 54
abbrev N_law_cell : List Str := [Str.ofString "_law_script", Str.ofString "_law_k"]
theorem sc_law_cell : FnScope N_law_cell [Str.ofString "_law_script", Str.ofString "_law_k"] (defScope s_law_cell) := ⟨rfl, rfl, rfl, by decide +kernel, rfl, by decide +kernel, by decide +kernel⟩
theorem ok_law_cell {f : Addr} {fd : FuncData} {C : Cl} (T : Txt K mg C) (F : Fun K (Str.ofString "_law_cell") (Str.ofString "_law_cell") s_law_cell f fd) (hg : mg (Str.ofString "_law_cell") = some (.ref f)) (hb : Binds K fd [Str.ofString "_law_script", Str.ofString "_law_k"] []) (F_law_mix : Fn0 P w K mg base 1 (Str.ofString "_law_mix") 2 (k_law_mix C)) : Fn0 P w K mg base 2 (Str.ofString "_law_cell") 2 (k_law_cell C) :=
  fn0_k (k := 1) (mb := b_law_cell C) F sc_law_cell hg hb fun cdv A outer s H E hr =>
      (bm_cons (sm_if (tc k_lt (em_var 1) (em_lenA T.n_len (em_var 0)))
        (bm_one (sm_ret (em_toint T.n_int (em_ixA hr (em_var 0) (em_var 1)))))
        bm_nil)
      (bm_cons (sm_if (tc (k_eqK hr) (em_lenA T.n_len (em_var 0)) em_int)
        (bm_one (sm_ret (em_var 1)))
        bm_nil)
      (bm_one (sm_ret (e0 F_law_mix.cut hr (am_cons (em_ixA hr (em_var 0) (em_mod (em_toint T.n_int (em_var 1)) (em_lenA T.n_len (em_var 0)))) (am_cons (em_var 1) am_nil)))))))

/-! ### _law_row -/
abbrev s_law_row : Stmt := top 55
abbrev N_law_row : List Str := [Str.ofString "_law_cell_here", Str.ofString "_law_sizes", Str.ofString "_law_row_here", Str.ofString "_law_rest", Str.ofString "_law_k"]
theorem sc_law_row : FnScope N_law_row [Str.ofString "_law_cell_here", Str.ofString "_law_sizes"] (defScope s_law_row) := ⟨rfl, rfl, rfl, by decide +kernel, rfl, by decide +kernel, by decide +kernel⟩
theorem ok_law_row {f : Addr} {fd : FuncData} {C : Cl} (T : Txt K mg C) (F : Fun K (Str.ofString "_law_row") (Str.ofString "_law_row") s_law_row f fd) (hg : mg (Str.ofString "_law_row") = some (.ref f)) (hb : Binds K fd [Str.ofString "_law_cell_here", Str.ofString "_law_sizes"] []) (F_law_mix : Fn0 P w K mg base 1 (Str.ofString "_law_mix") 2 (k_law_mix C)) : Fn0 P w K mg base 2 (Str.ofString "_law_row") 2 (k_law_row C) :=
  fn0_k (k := 1) (mb := b_law_row C) F sc_law_row hg hb fun cdv A outer s H E hr =>
      (bm_cons (sm_set 2 sc_law_row.nd (ecl (fm_lst am_nil)))
      (bm_cons (sm_set 3 sc_law_row.nd (em_toint T.n_int (em_var 0)))
      (bm_cons (sm_for (im_rng1 T.n_range (em_lenA T.n_len (em_var 1))) (gm_name 4 sc_law_row.nd)
        (bm_one (sm_if (tc k_ge (em_var 0) (em_pow em_int em_int))
          (bm_cons (sm_expr (em_append (em_var 2) (em_mod (em_toint T.n_int (em_var 3)) (em_ixA hr (em_var 1) (em_var 4)))))
          (bm_one (sm_set 3 sc_law_row.nd (em_div (em_var 3) (em_ixA hr (em_var 1) (em_var 4))))))
          (bm_one (sm_expr (em_append (em_var 2) (em_mod (em_toint T.n_int (e0 F_law_mix.cut hr (am_cons (em_var 0) (am_cons (em_var 4) am_nil)))) (em_ixA hr (em_var 1) (em_var 4)))))))) PassesOwn.never)
      (bm_one (sm_ret (em_var 2))))))

/-! ### _law_names -/
abbrev s_law_names : Stmt := top 56
abbrev N_law_names : List Str := [Str.ofString "_law_cell_here", Str.ofString "_law_many", Str.ofString "_law_row_here", Str.ofString "_law_names_here", Str.ofString "_law_k", Str.ofString "_law_own", Str.ofString "_law_text", Str.ofString "_law_at", Str.ofString "_law_letter", Str.ofString "_law_digit"]
theorem sc_law_names : FnScope N_law_names [Str.ofString "_law_cell_here", Str.ofString "_law_many"] (defScope s_law_names) := ⟨rfl, rfl, rfl, by decide +kernel, rfl, by decide +kernel, by decide +kernel⟩
theorem ok_law_names {f : Addr} {fd : FuncData} {C : Cl} (T : Txt K mg C) (F : Fun K (Str.ofString "_law_names") (Str.ofString "_law_names") s_law_names f fd) (hg : mg (Str.ofString "_law_names") = some (.ref f)) (hb : Binds K fd [Str.ofString "_law_cell_here", Str.ofString "_law_many"] []) (F_law_row : Fn0 P w K mg base 2 (Str.ofString "_law_row") 2 (k_law_row C)) : Fn0 P w K mg base 3 (Str.ofString "_law_names") 2 (k_law_names C) :=
  fn0_k (k := 2) (mb := b_law_names C) F sc_law_names hg hb fun cdv A outer s H E hr =>
      (bm_cons (sm_set 2 sc_law_names.nd (e0 F_law_row.cut hr (am_cons (em_var 0) (am_cons (em_add (ef (fm_lst (am_cons em_int (am_cons em_int (am_cons em_int am_nil)))) nl_lst) (em_mul (ef (fm_lst (am_cons em_int (am_cons em_int (am_cons em_int (am_cons em_int (am_cons em_int (am_cons em_int am_nil))))))) nl_lst) (em_var 1))) am_nil))))
      (bm_cons (sm_set 3 sc_law_names.nd (ecl (fm_lst am_nil)))
      (bm_cons (sm_for (im_rng1 T.n_range (em_var 1)) (gm_name 4 sc_law_names.nd)
        (bm_cons (sm_set 5 sc_law_names.nd (ef (fm_cut (em_var 2) (pm_some (em_add em_int (em_mul em_int (em_var 4)))) (pm_some (em_add em_int (em_mul em_int (em_var 4))))) nl_cut))
        (bm_cons (sm_if (tc (k_eqK hr) (em_ixA hr (em_var 2) em_int) em_int)
          (bm_one (sm_set 5 sc_law_names.nd (ef (fm_cut (em_var 2) (pm_some em_int) (pm_some em_int)) nl_cut)))
          bm_nil)
        (bm_cons (sm_set 6 sc_law_names.nd (em_join (ef (fm_lc [9] [(Str.ofString "_law_digit", 9)] sc_law_names.nd (blkOk_by (N := N_law_names) (sc := defScope s_law_names) (own := [(Str.ofString "_law_digit", 9)]) (by decide +kernel)) (im_seq (ef (fm_cut (em_var 5) (pm_some em_int) (pm_some (em_add em_int (em_ixA hr (em_var 5) em_int)))) nl_cut)) (fun _ => (gm_name 9 sc_law_names.nd)) (fun _ => tms_nil) (fun _ => (em_ixA hr em_str (em_var 9)))) nl_comp)))
        (bm_cons (sm_set 7 sc_law_names.nd (em_mod (em_toint T.n_int (em_ixA hr (em_var 2) em_int)) (em_add (em_lenA T.n_len (em_var 6)) em_int)))
        (bm_cons (sm_set 8 sc_law_names.nd (em_ixA hr em_str (em_mod (em_toint T.n_int (em_add (em_ixA hr (em_var 2) em_int) (em_mul em_int (em_var 4)))) em_int)))
        (bm_one (sm_expr (em_append (em_var 3) (em_add (em_add (em_cutS (em_var 6) pm_none (pm_some (em_var 7))) (em_var 8)) (em_cutS (em_var 6) (pm_some (em_var 7)) pm_none)))))))))) PassesOwn.never)
      (bm_one (sm_ret (em_var 3))))))

/-! ### _law_machine -/
abbrev s_law_machine : Stmt := top 57
abbrev N_law_machine : List Str := [Str.ofString "_law_cell_here", Str.ofString "_law_names_here", Str.ofString "_law_most", Str.ofString "_law_extra", Str.ofString "_law_sizes", Str.ofString "_law_row_here", Str.ofString "_law_many", Str.ofString "_law_stride", Str.ofString "_law_labels", Str.ofString "_law_steps", Str.ofString "_law_k", Str.ofString "_law_turn", Str.ofString "_law_word", Str.ofString "_law_at", Str.ofString "_law_step", Str.ofString "_law_target"]
theorem sc_law_machine : FnScope N_law_machine [Str.ofString "_law_cell_here", Str.ofString "_law_names_here", Str.ofString "_law_most", Str.ofString "_law_extra"] (defScope s_law_machine) := ⟨rfl, rfl, rfl, by decide +kernel, rfl, by decide +kernel, by decide +kernel⟩
theorem ok_law_machine {f : Addr} {fd : FuncData} {C : Cl} (T : Txt K mg C) (F : Fun K (Str.ofString "_law_machine") (Str.ofString "_law_machine") s_law_machine f fd) (hg : mg (Str.ofString "_law_machine") = some (.ref f)) (hb : Binds K fd [Str.ofString "_law_cell_here", Str.ofString "_law_names_here", Str.ofString "_law_most", Str.ofString "_law_extra"] []) (F_law_row : Fn0 P w K mg base 2 (Str.ofString "_law_row") 2 (k_law_row C)) : Fn0 P w K mg base 3 (Str.ofString "_law_machine") 4 (k_law_machine C) :=
  fn0_k (k := 2) (mb := b_law_machine C) F sc_law_machine hg hb fun cdv A outer s H E hr =>
      (bm_cons (sm_set 4 sc_law_machine.nd (em_add (ef (fm_lst (am_cons (em_var 2) (am_cons (em_add (em_var 3) em_int) (am_cons em_int (am_cons em_int (am_cons em_int am_nil)))))) nl_lst) (em_mul (ef (fm_lst (am_cons (em_sub (em_lenA T.n_len (em_var 1)) em_int) (am_cons (em_var 2) am_nil))) nl_lst) (em_var 2))))
      (bm_cons (sm_set 5 sc_law_machine.nd (e0 F_law_row.cut hr (am_cons (em_var 0) (am_cons (em_add (em_var 4) (em_mul (ef (fm_lst (am_cons (em_var 2) (am_cons (em_add (em_lenA T.n_len (em_var 1)) em_int) (am_cons (em_var 2) am_nil)))) nl_lst) (em_var 3))) am_nil))))
      (bm_cons (sm_set 6 sc_law_machine.nd (em_add em_int (em_ixA hr (em_var 5) em_int)))
      (bm_cons (sm_set 7 sc_law_machine.nd (em_ixA hr (ef (fm_lst (am_cons em_int (am_cons em_int (am_cons em_int (am_cons em_int (am_cons em_int (am_cons em_int (am_cons em_int (am_cons em_int am_nil))))))))) nl_lst) (em_ixA hr (em_var 5) em_int)))
      (bm_cons (sm_setLc 8 [10] [(Str.ofString "_law_k", 10)] false sc_law_machine.nd (blkOk_by (N := N_law_machine) (sc := defScope s_law_machine) (own := [(Str.ofString "_law_k", 10)]) (by decide +kernel)) (im_rng1 T.n_range (em_var 6)) (fun _ => (gm_name 10 sc_law_machine.nd)) (fun _ => tms_nil) (fun _ => (em_mod (em_toint T.n_int (em_add (em_ixA hr (em_var 5) em_int) (em_mul (em_var 7) (em_var 10)))) em_int)))
      (bm_cons (sm_set 9 sc_law_machine.nd (ecl (fm_lst am_nil)))
      (bm_cons (sm_for (im_rng1 T.n_range (em_var 6)) (gm_name 10 sc_law_machine.nd)
        (bm_cons (sm_set 12 sc_law_machine.nd (em_ixA hr (em_var 1) (em_add em_int (em_ixA hr (em_var 5) (em_add em_int (em_mul em_int (em_var 10)))))))
        (bm_one (sm_expr (em_append (em_var 9) (em_tup (am_cons (em_ixA hr (em_var 8) (em_var 10)) (am_cons (em_var 12) (am_cons (em_ixA hr (em_var 8) (em_mod (em_toint T.n_int (em_ixA hr (em_var 5) (em_add em_int (em_mul em_int (em_var 10))))) (em_var 6))) am_nil)))))))) PassesOwn.never)
      (bm_cons (sm_for (im_rng1 T.n_range (em_ixA hr (em_var 5) em_int)) (gm_name 10 sc_law_machine.nd)
        (bm_cons (sm_set 13 sc_law_machine.nd (em_add (em_lenA T.n_len (em_var 4)) (em_mul em_int (em_var 10))))
        (bm_cons (sm_set 12 sc_law_machine.nd (em_ixA hr (em_var 1) (em_mod (em_toint T.n_int (em_ixA hr (em_var 5) (em_add (em_var 13) em_int))) (em_lenA T.n_len (em_var 1)))))
        (bm_cons (sm_set 14 sc_law_machine.nd (em_tup (am_cons (em_ixA hr (em_var 8) (em_mod (em_toint T.n_int (em_ixA hr (em_var 5) (em_var 13))) (em_var 6))) (am_cons (em_var 12) am_nil))))
        (bm_cons (sm_set 14 sc_law_machine.nd (em_add (em_var 14) (em_tup (am_cons (em_ixA hr (em_var 8) (em_mod (em_toint T.n_int (em_ixA hr (em_var 5) (em_add (em_var 13) em_int))) (em_var 6))) am_nil))))
        (bm_one (sm_if (tc (k_notIn hr) (em_var 14) (em_var 9))
          (bm_one (sm_expr (em_append (em_var 9) (em_var 14))))
          bm_nil)))))) PassesOwn.never)
      (bm_cons (sm_if (tc (k_eqK hr) (em_lenA T.n_len (ef (fm_lcW [14] [(Str.ofString "_law_step", 14)] sc_law_machine.nd (blkOk_by (N := N_law_machine) (sc := defScope s_law_machine) (own := [(Str.ofString "_law_step", 14)]) (by decide +kernel)) (pm_var 9) way_any (fun _ => (gm_name 14 sc_law_machine.nd)) (fun _ => (tms_one (tc (k_eqK hr) (em_ixA hr (em_var 14) em_int) (em_ixA hr (em_var 1) em_int)))) (fun _ => (em_var 14))) nl_compW)) em_int)
        (bm_cons (sm_set 15 sc_law_machine.nd (em_ixA hr (em_var 8) (em_mod (em_toint T.n_int (em_div (em_ixA hr (em_var 5) em_int) em_int)) (em_var 6))))
        (bm_one (sm_expr (em_append (em_var 9) (em_tup (am_cons (em_ixA hr (em_var 8) (em_mod (em_toint T.n_int (em_ixA hr (em_var 5) em_int)) (em_var 6))) (am_cons (em_ixA hr (em_var 1) em_int) (am_cons (em_var 15) am_nil))))))))
        bm_nil)
      (bm_cons (sm_set 11 sc_law_machine.nd (em_mod (em_toint T.n_int (em_ixA hr (em_var 5) em_int)) (em_lenA T.n_len (em_var 9))))
      (bm_one (sm_ret (ef (fm_lst (am_cons (em_var 8) (am_cons (em_add (ef (fm_cut (em_var 9) (pm_some (em_var 11)) pm_none) nl_cut) (ef (fm_cut (em_var 9) pm_none (pm_some (em_var 11))) nl_cut)) am_nil))) nl_lst)))))))))))))

/-! ### _law_faults -/
abbrev s_law_faults : Stmt := top 58
abbrev N_law_faults : List Str := [Str.ofString "_law_digit", Str.ofString "_law_steps", Str.ofString "_law_names_here", Str.ofString "_law_marks", Str.ofString "_law_faults_here", Str.ofString "_law_step"]
theorem sc_law_faults : FnScope N_law_faults [Str.ofString "_law_digit", Str.ofString "_law_steps", Str.ofString "_law_names_here", Str.ofString "_law_marks"] (defScope s_law_faults) := ⟨rfl, rfl, rfl, by decide +kernel, rfl, by decide +kernel, by decide +kernel⟩
theorem ok_law_faults {f : Addr} {fd : FuncData} {C : Cl} (T : Txt K mg C) (F : Fun K (Str.ofString "_law_faults") (Str.ofString "_law_faults") s_law_faults f fd) (hg : mg (Str.ofString "_law_faults") = some (.ref f)) (hb : Binds K fd [Str.ofString "_law_digit", Str.ofString "_law_steps", Str.ofString "_law_names_here", Str.ofString "_law_marks"] [])  : Fn0 P w K mg base 1 (Str.ofString "_law_faults") 4 (k_law_faults C) :=
  fn0_k (k := 0) (mb := b_law_faults C) F sc_law_faults hg hb fun cdv A outer s H E hr =>
      (bm_cons (sm_set 4 sc_law_faults.nd (ecl (fm_disp (prm_cons (em_ixA hr (em_var 2) em_int) (em_ixA hr (em_var 3) em_int) prm_nil))))
      (bm_cons (sm_if (tw (wm_and (tc k_gt (em_mod (em_toint T.n_int (em_var 0)) em_int) em_int) (wm_and1 (tc (k_in hr) (em_ixA hr (em_var 2) em_int) (ef (fm_lcW [5] [(Str.ofString "_law_step", 5)] sc_law_faults.nd (blkOk_by (N := N_law_faults) (sc := defScope s_law_faults) (own := [(Str.ofString "_law_step", 5)]) (by decide +kernel)) (pm_var 1) way_any (fun _ => (gm_name 5 sc_law_faults.nd)) (fun _ => tms_nil) (fun _ => (em_ixA hr (em_var 5) em_int))) nl_compW)))))
        (bm_one (sm_put hr (em_var 4) (em_ixA hr (em_var 2) em_int) (em_ixA hr (em_var 3) (em_sub (em_mod (em_toint T.n_int (em_var 0)) em_int) em_int))))
        bm_nil)
      (bm_one (sm_ret (em_var 4)))))

/-! ### _law_sights -/
abbrev s_law_sights : Stmt := top 59
abbrev N_law_sights : List Str := [Str.ofString "_law_cell_here", Str.ofString "_law_names_here", Str.ofString "_law_marks", Str.ofString "_law_wide", Str.ofString "_law_row_here", Str.ofString "_law_table", Str.ofString "_law_k"]
theorem sc_law_sights : FnScope N_law_sights [Str.ofString "_law_cell_here", Str.ofString "_law_names_here", Str.ofString "_law_marks"] (defScope s_law_sights) := ⟨rfl, rfl, rfl, by decide +kernel, rfl, by decide +kernel, by decide +kernel⟩
theorem ok_law_sights {f : Addr} {fd : FuncData} {C : Cl} (T : Txt K mg C) (F : Fun K (Str.ofString "_law_sights") (Str.ofString "_law_sights") s_law_sights f fd) (hg : mg (Str.ofString "_law_sights") = some (.ref f)) (hb : Binds K fd [Str.ofString "_law_cell_here", Str.ofString "_law_names_here", Str.ofString "_law_marks"] []) (F_law_row : Fn0 P w K mg base 2 (Str.ofString "_law_row") 2 (k_law_row C)) : Fn0 P w K mg base 3 (Str.ofString "_law_sights") 3 (k_law_sights C) :=
  fn0_k (k := 2) (mb := b_law_sights C) F sc_law_sights hg hb fun cdv A outer s H E hr =>
      (bm_cons (sm_set 3 sc_law_sights.nd (em_add (em_lenA T.n_len (em_var 2)) em_int))
      (bm_cons (sm_set 4 sc_law_sights.nd (e0 F_law_row.cut hr (am_cons (em_var 0) (am_cons (em_add (ef (fm_lst (am_cons (em_mul em_int (em_var 3)) am_nil)) nl_lst) (em_mul (ef (fm_lst (am_cons (em_var 3) am_nil)) nl_lst) (em_sub (em_lenA T.n_len (em_var 1)) em_int))) am_nil))))
      (bm_cons (sm_set 5 sc_law_sights.nd (ecl fm_dnew))
      (bm_cons (sm_for (im_rng1 T.n_range (em_lenA T.n_len (em_var 1))) (gm_name 6 sc_law_sights.nd)
        (bm_one (sm_if (tc (k_eqK hr) (em_ixA hr (em_var 4) (em_var 6)) em_int)
          (bm_one (sm_put hr (em_var 5) (em_ixA hr (em_var 1) (em_var 6)) (em_ixA hr (em_var 1) (em_var 6))))
          (bm_one (sm_if (tch k_le k_lt em_int (em_ixA hr (em_var 4) (em_var 6)) (em_var 3))
            (bm_one (sm_put hr (em_var 5) (em_ixA hr (em_var 1) (em_var 6)) (em_ixA hr (em_var 2) (em_sub (em_ixA hr (em_var 4) (em_var 6)) em_int))))
            bm_nil)))) PassesOwn.never)
      (bm_one (sm_ret (em_var 5)))))))

/-! ### _law_is_integer -/
abbrev s_law_is_integer : Stmt := top 60
abbrev N_law_is_integer : List Str := [Str.ofString "_law_thing"]
theorem sc_law_is_integer : FnScope N_law_is_integer [Str.ofString "_law_thing"] (defScope s_law_is_integer) := ⟨rfl, rfl, rfl, by decide +kernel, rfl, by decide +kernel, by decide +kernel⟩
theorem ok_law_is_integer {f : Addr} {fd : FuncData} {C : Cl} (T : Txt K mg C) (F : Fun K (Str.ofString "_law_is_integer") (Str.ofString "_law_is_integer") s_law_is_integer f fd) (hg : mg (Str.ofString "_law_is_integer") = some (.ref f)) (hb : Binds K fd [Str.ofString "_law_thing"] [])  : Fn0 P w K mg base 1 (Str.ofString "_law_is_integer") 1 (k_law_is_integer C) :=
  fn0_k (k := 0) (mb := b_law_is_integer C) F sc_law_is_integer hg hb fun cdv A outer s H E hr =>
      (bm_one (sm_ret (em_and (em_isi T.n_isinstance (em_var 0) (em_ty T.n_int (by decide +kernel))) (em_one (em_not (em_isi T.n_isinstance (em_var 0) (em_ty T.n_bool (by decide +kernel))))))))

/-! ### _law_seen -/
abbrev s_law_seen : Stmt := top 61
abbrev N_law_seen : List Str := [Str.ofString "_law_steps", Str.ofString "_law_table", Str.ofString "_law_path", Str.ofString "_law_words", Str.ofString "_law_number", Str.ofString "_law_word"]
theorem sc_law_seen : FnScope N_law_seen [Str.ofString "_law_steps", Str.ofString "_law_table", Str.ofString "_law_path"] (defScope s_law_seen) := ⟨rfl, rfl, rfl, by decide +kernel, rfl, by decide +kernel, by decide +kernel⟩
theorem ok_law_seen {f : Addr} {fd : FuncData} {C : Cl} (T : Txt K mg C) (F : Fun K (Str.ofString "_law_seen") (Str.ofString "_law_seen") s_law_seen f fd) (hg : mg (Str.ofString "_law_seen") = some (.ref f)) (hb : Binds K fd [Str.ofString "_law_steps", Str.ofString "_law_table", Str.ofString "_law_path"] [])  : Fn0 P w K mg base 1 (Str.ofString "_law_seen") 3 (k_law_seen C) :=
  fn0_k (k := 0) (mb := b_law_seen C) F sc_law_seen hg hb fun cdv A outer s H E hr =>
      (bm_cons (sm_setLcW 3 [4] [(Str.ofString "_law_number", 4)] false sc_law_seen.nd (blkOk_by (N := N_law_seen) (sc := defScope s_law_seen) (own := [(Str.ofString "_law_number", 4)]) (by decide +kernel)) (pm_var 2) way_any (fun _ => (gm_name 4 sc_law_seen.nd)) (fun _ => tms_nil) (fun _ => (em_ixA hr (em_ixA hr (em_var 0) (em_var 4)) em_int)))
      (bm_one (sm_ret (ef (fm_lcW [5] [(Str.ofString "_law_word", 5)] sc_law_seen.nd (blkOk_by (N := N_law_seen) (sc := defScope s_law_seen) (own := [(Str.ofString "_law_word", 5)]) (by decide +kernel)) (pm_var 3) way_any (fun _ => (gm_name 5 sc_law_seen.nd)) (fun _ => (tms_one (tc (k_in hr) (em_var 5) (em_var 1)))) (fun _ => (em_ixA hr (em_var 1) (em_var 5)))) nl_compW))))

/-! ### _law_walk -/
abbrev s_law_walk : Stmt := top 62
abbrev N_law_walk : List Str := [Str.ofString "_law_row_here", Str.ofString "_law_steps", Str.ofString "_law_start", Str.ofString "_law_path", Str.ofString "_law_state", Str.ofString "_law_digit", Str.ofString "_law_ways", Str.ofString "_law_number", Str.ofString "_law_k"]
theorem sc_law_walk : FnScope N_law_walk [Str.ofString "_law_row_here", Str.ofString "_law_steps", Str.ofString "_law_start"] (defScope s_law_walk) := ⟨rfl, rfl, rfl, by decide +kernel, rfl, by decide +kernel, by decide +kernel⟩
theorem ok_law_walk {f : Addr} {fd : FuncData} {C : Cl} (T : Txt K mg C) (F : Fun K (Str.ofString "_law_walk") (Str.ofString "_law_walk") s_law_walk f fd) (hg : mg (Str.ofString "_law_walk") = some (.ref f)) (hb : Binds K fd [Str.ofString "_law_row_here", Str.ofString "_law_steps", Str.ofString "_law_start"] [])  : Fn0 P w K mg base 1 (Str.ofString "_law_walk") 3 (k_law_walk C) :=
  fn0_k (k := 0) (mb := b_law_walk C) F sc_law_walk hg hb fun cdv A outer s H E hr =>
      (bm_cons (sm_set 3 sc_law_walk.nd (ecl (fm_lst am_nil)))
      (bm_cons (sm_set 4 sc_law_walk.nd (em_var 2))
      (bm_cons (sm_forW (pm_var 0) way_any (gm_name 5 sc_law_walk.nd)
        (bm_cons (sm_setLc 6 [8] [(Str.ofString "_law_k", 8)] false sc_law_walk.nd (blkOk_by (N := N_law_walk) (sc := defScope s_law_walk) (own := [(Str.ofString "_law_k", 8)]) (by decide +kernel)) (im_rng1 T.n_range (em_lenA T.n_len (em_var 1))) (fun _ => (gm_name 8 sc_law_walk.nd)) (fun _ => (tms_one (tc (k_eqK hr) (em_ixA hr (em_ixA hr (em_var 1) (em_var 8)) em_int) (em_var 4)))) (fun _ => (em_var 8)))
        (bm_cons (sm_set 7 sc_law_walk.nd (em_ixA hr (em_var 6) (em_mod (em_toint T.n_int (em_var 5)) (em_lenA T.n_len (em_var 6)))))
        (bm_cons (sm_expr (em_append (em_var 3) (em_var 7)))
        (bm_one (sm_set 4 sc_law_walk.nd (em_ixA hr (em_ixA hr (em_var 1) (em_var 7)) em_int)))))) PassesOwn.never)
      (bm_one (sm_ret (em_var 3))))))

/-! ### _law_exact -/
abbrev s_law_exact : Stmt := top 63
abbrev N_law_exact : List Str := [Str.ofString "_law_told", Str.ofString "_law_due", Str.ofString "_law_k"]
theorem sc_law_exact : FnScope N_law_exact [Str.ofString "_law_told", Str.ofString "_law_due"] (defScope s_law_exact) := ⟨rfl, rfl, rfl, by decide +kernel, rfl, by decide +kernel, by decide +kernel⟩
theorem ok_law_exact {f : Addr} {fd : FuncData} {C : Cl} (T : Txt K mg C) (F : Fun K (Str.ofString "_law_exact") (Str.ofString "_law_exact") s_law_exact f fd) (hg : mg (Str.ofString "_law_exact") = some (.ref f)) (hb : Binds K fd [Str.ofString "_law_told", Str.ofString "_law_due"] []) (F_law_is_integer : Fn0 P w K mg base 1 (Str.ofString "_law_is_integer") 1 (k_law_is_integer C)) : ∀ n, Fn0 P w K mg base (1 + n) (Str.ofString "_law_exact") 2 (f_law_exact C n)
  | 0 => fn0_stuck F hg hb _ _
  | n + 1 => have G := ok_law_exact T F hg hb F_law_is_integer n; fn0_c (k := 1 + n) (mb := b_law_exact C (f_law_exact C n)) F sc_law_exact hg hb fun cdv A outer s H E hr =>
      (bm_cons (sm_if (tw (wm_or (tm_v (em_isi T.n_isinstance (em_var 1) (em_ty T.n_list (by decide +kernel)))) (wm_or1 (tm_v (em_isi T.n_isinstance (em_var 1) (em_ty T.n_tuple (by decide +kernel)))))))
        (bm_cons (sm_if (tw (wm_and (tm_v (em_isi T.n_isinstance (em_var 1) (em_ty T.n_list (by decide +kernel)))) (wm_and1 (tm_not (tm_v (em_isi T.n_isinstance (em_var 0) (em_ty T.n_list (by decide +kernel))))))))
          (bm_one (sm_ret em_bl))
          bm_nil)
        (bm_cons (sm_if (tw (wm_and (tm_v (em_isi T.n_isinstance (em_var 1) (em_ty T.n_tuple (by decide +kernel)))) (wm_and1 (tm_not (tm_v (em_isi T.n_isinstance (em_var 0) (em_ty T.n_tuple (by decide +kernel))))))))
          (bm_one (sm_ret em_bl))
          bm_nil)
        (bm_cons (sm_if (tc (k_neK hr) (em_lenA T.n_len (em_var 0)) (em_lenA T.n_len (em_var 1)))
          (bm_one (sm_ret em_bl))
          bm_nil)
        (bm_cons (sm_for (im_rng1 T.n_range (em_lenA T.n_len (em_var 1))) (gm_name 2 sc_law_exact.nd)
          (bm_one (sm_if (tm_not (tm_v (e0 G hr (am_cons (em_ixA hr (em_var 0) (em_var 2)) (am_cons (em_ixA hr (em_var 1) (em_var 2)) am_nil)) (hj := by omega))))
            (bm_one (sm_ret em_bl))
            bm_nil)) PassesOwn.never)
        (bm_one (sm_ret em_bl))))))
        bm_nil)
      (bm_cons (sm_if (tc k_isN (em_var 1) em_non)
        (bm_one (sm_ret (ec k_isN (em_var 0) em_non)))
        bm_nil)
      (bm_cons (sm_if (tm_v (em_isi T.n_isinstance (em_var 1) (em_ty T.n_bool (by decide +kernel))))
        (bm_one (sm_ret (em_and (em_isi T.n_isinstance (em_var 0) (em_ty T.n_bool (by decide +kernel))) (em_one (ec (k_eqK hr) (em_var 0) (em_var 1))))))
        bm_nil)
      (bm_cons (sm_if (tm_v (em_isi T.n_isinstance (em_var 1) (em_ty T.n_int (by decide +kernel))))
        (bm_one (sm_ret (em_and (e0 F_law_is_integer.cut hr (am_cons (em_var 0) am_nil) (hj := by omega)) (em_one (ec (k_eqK hr) (em_var 0) (em_var 1))))))
        bm_nil)
      (bm_one (sm_ret (em_and (em_isi T.n_isinstance (em_var 0) (em_ty T.n_str (by decide +kernel))) (em_one (ec (k_eqK hr) (em_var 0) (em_var 1))))))))))

/-! ### _law_system -/
abbrev s_law_system : Stmt := top 64
abbrev N_law_system : List Str := [Str.ofString "_law_script", Str.ofString "_law_most", Str.ofString "_law_extra", Str.ofString "_law_many", Str.ofString "_law_names_here", Str.ofString "_law_digit", Str.ofString "_law_table", Str.ofString "_law_labels", Str.ofString "_law_steps"]
theorem sc_law_system : FnScope N_law_system [Str.ofString "_law_script", Str.ofString "_law_most", Str.ofString "_law_extra", Str.ofString "_law_many"] (defScope s_law_system) := ⟨rfl, rfl, rfl, by decide +kernel, rfl, by decide +kernel, by decide +kernel⟩
theorem ok_law_system {f : Addr} {fd : FuncData} {C : Cl} (T : Txt K mg C) (F : Fun K (Str.ofString "_law_system") (Str.ofString "_law_system") s_law_system f fd) (hg : mg (Str.ofString "_law_system") = some (.ref f)) (hb : Binds K fd [Str.ofString "_law_script", Str.ofString "_law_most", Str.ofString "_law_extra", Str.ofString "_law_many"] []) (F_law_cell : Fn0 P w K mg base 2 (Str.ofString "_law_cell") 2 (k_law_cell C)) (F_law_names : Fn0 P w K mg base 3 (Str.ofString "_law_names") 2 (k_law_names C)) (F_law_machine : Fn0 P w K mg base 3 (Str.ofString "_law_machine") 4 (k_law_machine C)) (F_law_row : Fn0 P w K mg base 2 (Str.ofString "_law_row") 2 (k_law_row C)) (F_law_faults : Fn0 P w K mg base 1 (Str.ofString "_law_faults") 4 (k_law_faults C)) : Fn0 P w K mg base 4 (Str.ofString "_law_system") 4 (k_law_system C) :=
  fn0_k (k := 3) (mb := b_law_system C) F sc_law_system hg hb fun cdv A outer s H E hr =>
      (bm_cons (sm_set 4 sc_law_system.nd (e0 F_law_names.cut hr (am_cons (e0 F_law_cell.cut hr (am_cons (em_var 0) (am_cons em_int am_nil))) (am_cons (em_add (em_var 3) em_int) am_nil))))
      (bm_cons (sm_asg (e0 F_law_machine.cut hr (am_cons (e0 F_law_cell.cut hr (am_cons (em_var 0) (am_cons em_int am_nil))) (am_cons (ef (fm_cut (em_var 4) pm_none (pm_some (em_var 3))) nl_cut) (am_cons (em_var 1) (am_cons (em_var 2) am_nil))))) (gm_unp (n := 2) (gms_name 7 (gm_name 7 sc_law_system.nd) (gms_name 8 (gm_name 8 sc_law_system.nd) gms_nil))))
      (bm_cons (sm_set 5 sc_law_system.nd (em_ixA hr (e0 F_law_row.cut hr (am_cons (e0 F_law_cell.cut hr (am_cons (em_var 0) (am_cons em_int am_nil))) (am_cons (ef (fm_lst (am_cons em_int (am_cons em_int am_nil))) nl_lst) am_nil))) em_int))
      (bm_cons (sm_set 6 sc_law_system.nd (e0 F_law_faults.cut hr (am_cons (em_var 5) (am_cons (em_var 8) (am_cons (em_var 4) (am_cons (ef (fm_cut (em_var 4) (pm_some (em_var 3)) pm_none) nl_cut) am_nil))))))
      (bm_one (sm_ret (ef (fm_lst (am_cons (em_ixA hr (em_var 7) em_int) (am_cons (em_var 8) (am_cons (em_var 6) (am_cons (ef (fm_cut (em_var 4) pm_none (pm_some (em_var 3))) nl_cut) (am_cons (ef (fm_cut (em_var 4) (pm_some (em_var 3)) pm_none) nl_cut) am_nil)))))) nl_lst)))))))

/-! ### _law_count -/
abbrev s_law_count : Stmt := top 65
abbrev N_law_count : List Str := [Str.ofString "_law_words", Str.ofString "_law_table", Str.ofString "_law_fault", Str.ofString "_law_at"]
theorem sc_law_count : FnScope N_law_count [Str.ofString "_law_words", Str.ofString "_law_table", Str.ofString "_law_fault"] (defScope s_law_count) := ⟨rfl, rfl, rfl, by decide +kernel, rfl, by decide +kernel, by decide +kernel⟩
theorem ok_law_count {f : Addr} {fd : FuncData} {C : Cl} (T : Txt K mg C) (F : Fun K (Str.ofString "_law_count") (Str.ofString "_law_count") s_law_count f fd) (hg : mg (Str.ofString "_law_count") = some (.ref f)) (hb : Binds K fd [Str.ofString "_law_words", Str.ofString "_law_table", Str.ofString "_law_fault"] [])  : Fn0 P w K mg base 1 (Str.ofString "_law_count") 3 (k_law_count C) :=
  fn0_k (k := 0) (mb := b_law_count C) F sc_law_count hg hb fun cdv A outer s H E hr =>
      (bm_cons (sm_for (im_rng1 T.n_range (em_lenA T.n_len (em_var 0))) (gm_name 3 sc_law_count.nd)
        (bm_one (sm_if (tc (k_eqK hr) (em_get1 hr (em_var 1) (em_ixA hr (em_var 0) (em_var 3))) (em_var 2))
          (bm_one (sm_ret (em_sub (em_sub (em_lenA T.n_len (em_var 0)) (em_var 3)) em_int)))
          bm_nil)) PassesOwn.never)
      (bm_one (sm_ret em_non)))

/-! ### law -/
abbrev s_law : Stmt := top 66
abbrev N_law : List Str := [Str.ofString "_law_script", Str.ofString "_law_sights_here", Str.ofString "_law_machine_here", Str.ofString "_law_watch", Str.ofString "_law_k", Str.ofString "_law_start", Str.ofString "_law_steps", Str.ofString "_law_table", Str.ofString "_law_names_here", Str.ofString "_law_marks", Str.ofString "_law_row_here", Str.ofString "_law_path", Str.ofString "_law_words", Str.ofString "_law_end", Str.ofString "_law_done", Str.ofString "_law_seen_here", Str.ofString "_law_fault", Str.ofString "_law_due", Str.ofString "_law_number", Str.ofString "_law_word"]
theorem sc_law : FnScope N_law [Str.ofString "_law_script"] (defScope s_law) := ⟨rfl, rfl, rfl, by decide +kernel, rfl, by decide +kernel, by decide +kernel⟩
theorem okL {f : Addr} {fd : FuncData} {C : Cl} (T : Txt K mg C) (F : Fun K (Str.ofString "law") (Str.ofString "law") s_law f fd) (F_law_system : Fn0 P w K mg base 4 (Str.ofString "_law_system") 4 (k_law_system C)) (F_law_cell : Fn0 P w K mg base 2 (Str.ofString "_law_cell") 2 (k_law_cell C)) (F_law_sights : Fn0 P w K mg base 3 (Str.ofString "_law_sights") 3 (k_law_sights C)) (F_Machine_init : Mkr P w K mg base 6 (Str.ofString "Machine") C.Machine 3 (k_Machine_init C)) (F_Watch_init : Mkr P w K mg base 3 (Str.ofString "Watch") C.Watch 1 (k_Watch_init C)) (F_law_row : Fn0 P w K mg base 2 (Str.ofString "_law_row") 2 (k_law_row C)) (F_law_walk : Fn0 P w K mg base 1 (Str.ofString "_law_walk") 3 (k_law_walk C)) (F_end_of : Fn0 P w K mg base 4 (Str.ofString "end_of") 2 (k_end_of C)) (F_law_exact : Fn0 P w K mg base 6 (Str.ofString "_law_exact") 2 (f_law_exact C 5)) (F_faults_in : Fn0 P w K mg base 4 (Str.ofString "faults_in") 2 (k_faults_in C)) (F_law_seen : Fn0 P w K mg base 1 (Str.ofString "_law_seen") 3 (k_law_seen C)) (F_sights_of : Fn0 P w K mg base 4 (Str.ofString "sights_of") 3 (k_sights_of C)) (F_law_count : Fn0 P w K mg base 1 (Str.ofString "_law_count") 3 (k_law_count C)) (F_steps_behind : Fn0 P w K mg base 4 (Str.ofString "steps_behind") 3 (k_steps_behind C)) (F_Machine_eq : EqO P w K mg base 1 C.Machine (k_Machine_eq C)) (F_Watch_eq : EqO P w K mg base 1 C.Watch (k_Watch_eq C)) : FnOk P w K mg base CX0 8 f fd [Str.ofString "_law_script"] (spN K 1 (k_law_k15 C)) :=
  fn_0 (N := N_law) (ps := [Str.ofString "_law_script"]) (k := 7) (mb := b_law_k15 C) F sc_law fun cdv A outer s H E hr =>
      (bm_cons (sm_asg (e0 F_law_system.cut hr (am_cons (em_var 0) (am_cons em_int (am_cons em_int (am_cons em_int am_nil))))) (gm_unp (n := 5) (gms_name 5 (gm_name 5 sc_law.nd) (gms_name 6 (gm_name 6 sc_law.nd) (gms_name 7 (gm_name 7 sc_law.nd) (gms_name 8 (gm_name 8 sc_law.nd) (gms_name 9 (gm_name 9 sc_law.nd) gms_nil)))))))
      (bm_cons (sm_set 1 sc_law.nd (e0 F_law_sights.cut hr (am_cons (e0 F_law_cell.cut hr (am_cons (em_var 0) (am_cons em_int am_nil))) (am_cons (em_var 8) (am_cons (ef (fm_lst (am_cons (em_ixA hr (em_var 9) em_int) (am_cons (em_ixA hr (em_var 8) em_int) am_nil))) nl_lst) am_nil)))))
      (bm_cons (sm_set 2 sc_law.nd (em_mkr F_Machine_init hr (am_cons (em_var 5) (am_cons (em_var 6) (am_cons (em_var 7) am_nil)))))
      (bm_cons (sm_set 3 sc_law.nd (em_mkr F_Watch_init hr (am_cons (em_var 1) am_nil)))
      (bm_cons (sm_for (im_rng1 T.n_range em_int) (gm_name 4 sc_law.nd)
        (bm_cons (sm_set 10 sc_law.nd (e0 F_law_row.cut hr (am_cons (e0 F_law_cell.cut hr (am_cons (em_var 0) (am_cons (em_add em_int (em_var 4)) am_nil))) (am_cons (em_add (ef (fm_lst (am_cons em_int am_nil)) nl_lst) (em_mul (ef (fm_lst (am_cons em_int am_nil)) nl_lst) em_int)) am_nil))))
        (bm_cons (sm_set 11 sc_law.nd (em_tuple T.n_tuple (e0 F_law_walk.cut hr (am_cons (ef (fm_cut (em_var 10) (pm_some em_int) (pm_some (em_add em_int (em_ixA hr (em_var 10) em_int)))) nl_cut) (am_cons (em_var 6) (am_cons (em_var 5) am_nil))))))
        (bm_cons (sm_setLcW 12 [18] [(Str.ofString "_law_number", 18)] false sc_law.nd (blkOk_by (N := N_law) (sc := defScope s_law) (own := [(Str.ofString "_law_number", 18)]) (by decide +kernel)) (pm_var 11) way_any (fun _ => (gm_name 18 sc_law.nd)) (fun _ => tms_nil) (fun _ => (em_ixA hr (em_ixA hr (em_var 6) (em_var 18)) em_int)))
        (bm_cons (sm_set 13 sc_law.nd (em_var 5))
        (bm_cons (sm_if (tc k_gt (em_lenA T.n_len (em_var 11)) em_int)
          (bm_one (sm_set 13 sc_law.nd (em_ixA hr (em_ixA hr (em_var 6) (em_ixA hr (em_var 11) (em_neg em_int))) em_int)))
          bm_nil)
        (bm_cons (sm_set 14 sc_law.nd (ef (fm_sortK hr T.n_sorted (km_setOf T.n_set (ef (fm_lcW [19] [(Str.ofString "_law_word", 19)] sc_law.nd (blkOk_by (N := N_law) (sc := defScope s_law) (own := [(Str.ofString "_law_word", 19)]) (by decide +kernel)) (pm_var 12) way_any (fun _ => (gm_name 19 sc_law.nd)) (fun _ => (tms_one (tc (k_in hr) (em_var 19) (em_var 7)))) (fun _ => (em_ixA hr (em_var 7) (em_var 19)))) nl_compW))) nl_sortK))
        (bm_cons (sm_if (tm_not (tm_v (e0 F_law_exact hr (am_cons (e0 F_end_of.cut hr (am_cons (em_var 2) (am_cons (em_var 11) am_nil))) (am_cons (em_var 13) am_nil)))))
          (bm_one (sm_ret em_bl))
          bm_nil)
        (bm_cons (sm_if (tm_not (tm_v (e0 F_law_exact hr (am_cons (e0 F_faults_in.cut hr (am_cons (em_var 2) (am_cons (em_var 11) am_nil))) (am_cons (em_var 14) am_nil)))))
          (bm_one (sm_ret em_bl))
          bm_nil)
        (bm_cons (sm_set 15 sc_law.nd (em_tuple T.n_tuple (e0 F_law_seen.cut hr (am_cons (em_var 6) (am_cons (em_var 1) (am_cons (em_var 11) am_nil))))))
        (bm_cons (sm_if (tm_not (tm_v (e0 F_law_exact hr (am_cons (e0 F_sights_of.cut hr (am_cons (em_var 2) (am_cons (em_var 3) (am_cons (em_var 11) am_nil)))) (am_cons (em_var 15) am_nil)))))
          (bm_one (sm_ret em_bl))
          bm_nil)
        (bm_one (sm_for (im_seq (ef (fm_sortK hr T.n_sorted (km_setOf T.n_set (ef (fm_listV T.n_list (em_var 7)) nl_listV))) nl_sortK)) (gm_name 16 sc_law.nd)
          (bm_cons (sm_set 17 sc_law.nd (e0 F_law_count.cut hr (am_cons (em_var 12) (am_cons (em_var 7) (am_cons (em_var 16) am_nil)))))
          (bm_one (sm_if (tm_not (tm_v (e0 F_law_exact hr (am_cons (e0 F_steps_behind.cut hr (am_cons (em_var 2) (am_cons (em_var 11) (am_cons (em_var 16) am_nil)))) (am_cons (em_var 17) am_nil)))))
            (bm_one (sm_ret em_bl))
            bm_nil))) PassesOwn.never)))))))))))) PassesOwn.never)
      (bm_one (sm_ret (em_and (em_eqO F_Machine_eq.cut hr (em_var 2) (em_mkr F_Machine_init hr (am_cons (em_var 5) (am_cons (em_var 6) (am_cons (em_var 7) am_nil))))) (em_one (em_eqO F_Watch_eq.cut hr (em_var 3) (em_mkr F_Watch_init hr (am_cons (em_var 1) am_nil))))))))))))

end
end K15

set_option maxHeartbeats 400000
namespace Mir
open PySem PySem.Spec PyProof.Rows L2
theorem kit_self {K : PySem.W.Frag} {C : Addr} : PySem.W.kitOne K (.ref C) (.ref C) = some true := by
  unfold PySem.W.kitOne
  rw [if_pos (by simp)]
theorem kit_no {K : PySem.W.Frag} {C : Addr} {t : String} (h1 : PySem.W.isClsIn K C = true) (h2 : PySem.W.typeIn K (.ref C) = some (.type "type")) (h3 : PySem.W.subIn K (.type t) (.ref C) = some false) : PySem.W.kitOne K (.type t) (.ref C) = some false := by
  unfold PySem.W.kitOne
  rw [if_neg (by simp)]
  unfold PySem.W.kitCls
  have h1' : (PySem.W.clsIn K C).isSome = true := h1
  simp only [h1', h2, beq_self_eq_true, Bool.and_self, if_true]
  exact h3
end Mir

set_option maxHeartbeats 400000
namespace Mir
open PySem L2
/-! ## plain facts of mirrors -/
/-! the store behind its old part -/
@[simp] theorem get_0 (st : Sto) (x : D) (l : Sto) : (st ++ x :: l)[st.length]? = some x := by simp
@[simp] theorem get_1 (st : Sto) (x y : D) (l : Sto) : (st ++ x :: y :: l)[st.length + 1]? = some y := by simp
@[simp] theorem get_2 (st : Sto) (x y z : D) (l : Sto) : (st ++ x :: y :: z :: l)[st.length + 2]? = some z := by simp
@[simp] theorem get_3 (st : Sto) (x y z u : D) (l : Sto) : (st ++ x :: y :: z :: u :: l)[st.length + 3]? = some u := by simp
@[simp] theorem set_0 (st : Sto) (x a : D) (l : Sto) : (st ++ x :: l).set st.length a = st ++ a :: l := by simp
@[simp] theorem set_1 (st : Sto) (x y a : D) (l : Sto) : (st ++ x :: y :: l).set (st.length + 1) a = st ++ x :: a :: l := by simp
@[simp] theorem set_2 (st : Sto) (x y z a : D) (l : Sto) : (st ++ x :: y :: z :: l).set (st.length + 2) a = st ++ x :: y :: a :: l := by simp
@[simp] theorem set_3 (st : Sto) (x y z u a : D) (l : Sto) : (st ++ x :: y :: z :: u :: l).set (st.length + 3) a = st ++ x :: y :: z :: a :: l := by simp
@[simp] theorem dr_str (st : Sto) (x : Str) : dr st (.str x) = some (.str x) := rfl
@[simp] theorem dr_int (st : Sto) (x : Int) : dr st (.int x) = some (.int x) := rfl
@[simp] theorem dr_bl (st : Sto) (x : Bool) : dr st (.bl x) = some (.bl x) := rfl
@[simp] theorem dr_non (st : Sto) : dr st .non = some .non := rfl
@[simp] theorem dr_ty (st : Sto) (x : String) : dr st (.ty x) = some (.ty x) := rfl
@[simp] theorem dr_lst (st : Sto) (x : List D) : dr st (.lst x) = some (.lst x) := rfl
@[simp] theorem dr_frl (st : Sto) (x : List D) : dr st (.frl x) = some (.frl x) := rfl
@[simp] theorem dr_tup (st : Sto) (x : List D) : dr st (.tup x) = some (.tup x) := rfl
@[simp] theorem dr_dic (st : Sto) (x : List (Key × D)) : dr st (.dic x) = some (.dic x) := rfl
@[simp] theorem dr_ins (st : Sto) (A : Addr) (x : List (Str × D)) : dr st (.ins A x) = some (.ins A x) := rfl
theorem dr_cell {st : Sto} {c : Nat} {d : D} (h : st[c]? = some d) (hn : ∀ e, d ≠ .lck e) : dr st (.cell c) = some d := by
  simp only [dr, h]
  cases d <;> first | rfl | exact absurd rfl (hn _)
theorem dr_lckl {st : Sto} {c : Nat} {d : List D} (h : st[c]? = some (.lck (.lst d))) : dr st (.cell c) = some (.frl d) := by simp only [dr, h]
theorem dr_lckd {st : Sto} {c : Nat} {d : List (Key × D)} (h : st[c]? = some (.lck (.dic d))) : dr st (.cell c) = some (.dic d) := by simp only [dr, h]
/-- a cell of the old part -/
structure Has (st : Sto) (c : Nat) (d : D) : Prop where
  get : st[c]? = some d
theorem Has.lt {st : Sto} {c : Nat} {d : D} (h : Has st c d) : c < st.length := (List.getElem?_eq_some_iff.mp h.get).1
theorem Has.app {st : Sto} {c : Nat} {d : D} (h : Has st c d) (l : Sto) : (st ++ l)[c]? = some d := by rw [List.getElem?_append_left h.lt]; exact h.get
theorem Has.set {st : Sto} {c : Nat} {d : D} (h : Has st c d) (l : Sto) (x : D) : (st ++ l).set c x = st.set c x ++ l := by rw [List.set_append_left _ _ h.lt]
theorem Has.back {st : Sto} {c : Nat} {d : D} (h : Has st c d) (x : D) : (st.set c x).set c d = st := by
  rw [List.set_set]
  have := h.get
  refine List.ext_getElem? fun i => ?_
  by_cases e : c = i
  · subst e; rw [List.getElem?_set_self h.lt]; exact this.symm
  · rw [List.getElem?_set_ne e]
theorem Has.at {st : Sto} {c : Nat} {d : D} (h : Has st c d) (x : D) : Has (st.set c x) c x := ⟨List.getElem?_set_self h.lt⟩
theorem Has.ne {st : Sto} {c k : Nat} {d : D} (h : Has st c d) (e : k ≠ c) (x : D) : Has (st.set k x) c d := ⟨by rw [List.getElem?_set_ne e]; exact h.get⟩
theorem Has.more {st : Sto} {c : Nat} {d : D} (h : Has st c d) (l : Sto) : Has (st ++ l) c d := ⟨h.app l⟩
theorem drop_step {α : Type} {xs ys : List α} {y : α} {i : Nat} (hd : xs.drop i = y :: ys) : xs[i]? = some y ∧ xs.drop (i + 1) = ys ∧ i + 1 ≤ xs.length := by
  have hx : xs[i]? = some y := by
    have := congrArg List.head? hd
    rw [List.head?_drop] at this
    exact this
  refine ⟨hx, ?_, (List.getElem?_eq_some_iff.mp hx).1⟩
  rw [← List.drop_drop, hd]; rfl
/-- a loop that runs through: what holds by the turn -/
theorem loop_inv0 {st : D → RE → Option RE} {b : RE → Out Fl} (P : Nat → RE → Prop) {xs : List D}
    (hs : ∀ (i : Nat) (x : D) (r : RE), xs[i]? = some x → P i r → ∃ r1 r2, st x r = some r1 ∧ (b r1 = .ok (.nx r2) ∨ b r1 = .ok (.ct r2)) ∧ P (i + 1) r2) : ∀ {ys : List D} {i : Nat} {r : RE}, i ≤ xs.length → xs.drop i = ys → P i r → ∃ r', mLoop st b ys r = .ok (.nx r') ∧ P xs.length r'
  | [], i, r, hi, hd, hP => by
    have h : xs.length ≤ i := List.drop_eq_nil_iff.mp hd
    have e : i = xs.length := by omega
    exact ⟨r, rfl, e ▸ hP⟩
  | y :: ys, i, r, hi, hd, hP => by
    obtain ⟨hx, hd', hi'⟩ := drop_step hd
    obtain ⟨r1, r2, h1, h2, h3⟩ := hs i y r hx hP
    obtain ⟨r', h4, h5⟩ := loop_inv0 P hs (i := i + 1) (r := r2) hi' hd' h3
    refine ⟨r', ?_, h5⟩
    unfold mLoop
    rw [h1]
    rcases h2 with h2 | h2 <;> simp only [h2, bnd_ok, h4]
theorem loop_inv {st : D → RE → Option RE} {b : RE → Out Fl} (P : Nat → RE → Prop) {xs : List D} {r : RE} (h0 : P 0 r)
    (hs : ∀ (i : Nat) (x : D) (r : RE), xs[i]? = some x → P i r → ∃ r1 r2, st x r = some r1 ∧ (b r1 = .ok (.nx r2) ∨ b r1 = .ok (.ct r2)) ∧ P (i + 1) r2) : ∃ r', mLoop st b xs r = .ok (.nx r') ∧ P xs.length r' :=
  loop_inv0 P hs (i := 0) (Nat.zero_le _) (by simp) h0
/-- a loop by what is left and what has come: a function of the data -/
theorem loop_fold {α : Type} {st : D → RE → Option RE} {b : RE → Out Fl} (P : α → RE → Prop) (f : α → D → α) : ∀ {xs : List D}, (∀ (a : α) (x : D) (r : RE), x ∈ xs → P a r → ∃ r1 r2, st x r = some r1 ∧ (b r1 = .ok (.nx r2) ∨ b r1 = .ok (.ct r2)) ∧ P (f a x) r2) → ∀ {a : α} {r : RE}, P a r → ∃ r', mLoop st b xs r = .ok (.nx r') ∧ P (xs.foldl f a) r'
  | [], _, a, r, h => ⟨r, rfl, h⟩
  | x :: xs, hs, a, r, h => by
    obtain ⟨r1, r2, h1, h2, h3⟩ := hs a x r List.mem_cons_self h
    obtain ⟨r', h4, h5⟩ := loop_fold P f (fun a y r hy => hs a y r (List.mem_cons_of_mem _ hy)) h3
    refine ⟨r', ?_, h5⟩
    unfold mLoop
    rw [h1]
    rcases h2 with h2 | h2 <;> simp only [h2, bnd_ok, h4]
/-- a loop that may return: all turns say p, or the first that does not returns d -/
theorem loop_all {st : D → RE → Option RE} {b : RE → Out Fl} (P : RE → Prop) (p : D → Bool) (d : D) : ∀ {xs : List D}, (∀ (x : D) (r : RE), x ∈ xs → P r → ∃ r1, st x r = some r1 ∧ ((p x = true ∧ ∃ r2, b r1 = .ok (.nx r2) ∧ P r2) ∨ (p x = false ∧ ∃ r2, b r1 = .ok (.rt d r2) ∧ P r2))) → ∀ {r : RE}, P r → ∃ r', P r' ∧ mLoop st b xs r = if xs.all p = true then .ok (.nx r') else .ok (.rt d r')
  | [], _, r, h => ⟨r, h, rfl⟩
  | x :: xs, hs, r, h => by
    obtain ⟨r1, h1, h2⟩ := hs x r List.mem_cons_self h
    rcases h2 with ⟨hp, r2, h2, h3⟩ | ⟨hp, r2, h2, h3⟩
    · obtain ⟨r', h4, h5⟩ := loop_all P p d (fun y r hy => hs y r (List.mem_cons_of_mem _ hy)) h3
      refine ⟨r', h4, ?_⟩
      unfold mLoop
      simp only [h1, h2, bnd_ok, h5, List.all_cons, hp, Bool.true_and]
    · refine ⟨r2, h3, ?_⟩
      unfold mLoop
      simp only [h1, h2, bnd_ok, List.all_cons, hp, Bool.false_and, Bool.false_eq_true, if_false]
/-! comprehensions whose turns hang on nothing but the item -/
theorem comp_map {s0 : List (Option D)} {st : D → RE → Option RE} {mt : RE → Out (Bool × RE)} {me : RE → Out (D × RE)} {so : Sto} (p : D → Bool) (f : D → D) : ∀ (xs : List D) (acc : List D),
    (∀ x ∈ xs, ∃ r1 r2, st x ⟨s0, so⟩ = some r1 ∧ mt r1 = .ok (p x, r2) ∧ r2.st = so ∧ (p x = true → ∃ r3, me r2 = .ok (f x, r3) ∧ r3.st = so)) → acc.length + xs.length ≤ 1000000 →
    mCompL s0 st mt me xs so acc = .ok (acc ++ (xs.filter p).map f, so)
  | [], acc, _, _ => by simp [mCompL]
  | x :: xs, acc, h, hl => by
    obtain ⟨r1, r2, h1, h2, h3, h4⟩ := h x List.mem_cons_self
    rw [List.length_cons] at hl
    unfold mCompL
    rw [h1]
    simp only [h2, bnd_ok]
    by_cases hp : p x = true
    · obtain ⟨r3, h5, h6⟩ := h4 hp
      rw [if_pos hp, h5]
      simp only [bnd_ok]
      rw [if_pos (by omega), h6, comp_map p f xs (acc ++ [f x]) (fun y hy => h y (List.mem_cons_of_mem _ hy)) (by rw [List.length_append, List.length_singleton]; omega)]
      rw [List.filter_cons_of_pos hp, List.map_cons, List.append_assoc]
      rfl
    · rw [if_neg hp, h3, comp_map p f xs acc (fun y hy => h y (List.mem_cons_of_mem _ hy)) (by omega)]
      rw [List.filter_cons_of_neg hp]
theorem comp_all {s0 : List (Option D)} {st : D → RE → Option RE} {mt : RE → Out (Bool × RE)} {me : RE → Out (D × RE)} {so : Sto} (f : D → D) (xs : List D)
    (h : ∀ x ∈ xs, ∃ r1 r2 r3, st x ⟨s0, so⟩ = some r1 ∧ mt r1 = .ok (true, r2) ∧ r2.st = so ∧ me r2 = .ok (f x, r3) ∧ r3.st = so) (hl : xs.length ≤ 1000000) :
    mCompL s0 st mt me xs so [] = .ok (xs.map f, so) := by
  have := comp_map (s0 := s0) (st := st) (mt := mt) (me := me) (so := so) (fun _ => true) f xs [] (fun x hx => by
    obtain ⟨r1, r2, r3, h1, h2, h3, h4, h5⟩ := h x hx
    exact ⟨r1, r2, h1, h2, h3, fun _ => ⟨r3, h4, h5⟩⟩) (by rw [List.length_nil]; omega)
  rw [this, List.filter_eq_self.mpr (fun _ _ => rfl), List.nil_append]
def foldA {α : Type} (app : List D → α → Option α) : List (List D) → α → Option α
  | [], a => some a
  | d :: ds, a => (app d a).bind (foldA app ds)
theorem compG_map {α : Type} {app : List D → α → Option α} {s0 : List (Option D)} {st : D → RE → Option RE} {mt : RE → Out (Bool × RE)} {ma : RE → Out (List D × RE)} {so : Sto} (p : D → Bool) (f : D → List D) : ∀ (xs : List D) (a a' : α),
    (∀ x ∈ xs, ∃ r1 r2, st x ⟨s0, so⟩ = some r1 ∧ mt r1 = .ok (p x, r2) ∧ r2.st = so ∧ (p x = true → ∃ r3, ma r2 = .ok (f x, r3) ∧ r3.st = so)) → foldA app ((xs.filter p).map f) a = some a' →
    mCompG s0 st mt ma app xs so a = .ok (a', so)
  | [], a, a', _, e => by simp only [List.filter_nil, List.map_nil, foldA, Option.some.injEq] at e; subst e; rfl
  | x :: xs, a, a', h, e => by
    obtain ⟨r1, r2, h1, h2, h3, h4⟩ := h x List.mem_cons_self
    unfold mCompG
    rw [h1]
    simp only [h2, bnd_ok]
    by_cases hp : p x = true
    · obtain ⟨r3, h5, h6⟩ := h4 hp
      rw [List.filter_cons_of_pos hp, List.map_cons] at e
      simp only [foldA] at e
      obtain ⟨a1, e1, e2⟩ := Option.bind_eq_some_iff.mp e
      rw [if_pos hp, h5]
      simp only [bnd_ok, e1]
      rw [h6]
      exact compG_map p f xs a1 a' (fun y hy => h y (List.mem_cons_of_mem _ hy)) e2
    · rw [List.filter_cons_of_neg hp] at e
      rw [if_neg hp, h3]
      exact compG_map p f xs a a' (fun y hy => h y (List.mem_cons_of_mem _ hy)) e
@[simp] theorem atI_0 {α : Type} (x : α) (l : List α) : atI (x :: l) 0 = some x := atI_nat (j := 0) (xs := x :: l) rfl
@[simp] theorem atI_1 {α : Type} (x y : α) (l : List α) : atI (x :: y :: l) 1 = some y := atI_nat (j := 1) (xs := x :: y :: l) rfl
@[simp] theorem atI_2 {α : Type} (x y z : α) (l : List α) : atI (x :: y :: z :: l) 2 = some z := atI_nat (j := 2) (xs := x :: y :: z :: l) rfl
@[simp] theorem atI_3 {α : Type} (x y z u : α) (l : List α) : atI (x :: y :: z :: u :: l) 3 = some u := atI_nat (j := 3) (xs := x :: y :: z :: u :: l) rfl
theorem atI_in {α : Type} {xs : List α} {i : Int} (h0 : 0 ≤ i) (h1 : i < xs.length) : ∃ x, atI xs i = some x ∧ xs[i.toNat]? = some x := by
  have hi : i.toNat < xs.length := by omega
  have e : ((i.toNat : Nat) : Int) = i := by omega
  refine ⟨xs[i.toNat], ?_, List.getElem?_eq_getElem hi⟩
  have := atI_nat (List.getElem?_eq_getElem hi)
  rw [e] at this
  exact this
theorem rangeD_mem {lo : Int} {n : Nat} {x : D} {i : Nat} (h : (rangeD lo n)[i]? = some x) : x = .int (lo + i) ∧ i < n := by
  have hi : i < n := by
    have := (List.getElem?_eq_some_iff.mp h).1
    rwa [rangeD_len] at this
  rw [rangeD_get hi] at h
  exact ⟨(Option.some.inj h).symm, hi⟩
end Mir

set_option maxHeartbeats 400000
namespace Mir
open PySem L2
theorem nodup_map {α β : Type} {f : α → β} (hf : ∀ a b, f a = f b → a = b) : ∀ {l : List α}, l.Nodup → (l.map f).Nodup
  | [], _ => by simp
  | x :: l, h => by
    rw [List.nodup_cons] at h
    rw [List.map_cons, List.nodup_cons]
    refine ⟨fun z => ?_, nodup_map hf h.2⟩
    obtain ⟨y, hy, e⟩ := List.mem_map.mp z
    exact h.1 (hf _ _ e ▸ hy)
/-! ## dicts as lists of pairs -/
section
variable {κ : Type} [DecidableEq κ]
theorem hasD_val {kvs : List (κ × D)} {k : κ} : hasD kvs k = (valD kvs k).isSome := by
  unfold hasD valD
  rw [Option.isSome_map, Bool.eq_iff_iff, List.any_eq_true, List.find?_isSome]
theorem find_map {kvs : List (κ × D)} {k j : κ} {v : D} : ((kvs.map fun kv => if kv.1 = k then (kv.1, v) else kv).find? fun kv => decide (kv.1 = j)).map (·.2) = if j = k then (if hasD kvs k = true then some v else none) else valD kvs j := by
  induction kvs with
  | nil => by_cases h : j = k <;> simp [h, hasD, valD]
  | cons kv kvs ih =>
    obtain ⟨k', d⟩ := kv
    by_cases h1 : k' = k
    · subst h1
      by_cases h2 : k' = j
      · subst h2; simp [hasD]
      · have h3 : j ≠ k' := fun z => h2 z.symm
        simp only [List.map_cons, if_true, List.find?_cons, decide_eq_false h2] 
        rw [ih]
        simp [h3, valD, h2]
    · simp only [List.map_cons, if_neg h1, List.find?_cons]
      by_cases h2 : k' = j
      · subst h2
        have h3 : ¬ k' = k := h1
        simp [h3, valD]
      · simp only [decide_eq_false h2]
        rw [ih]
        have e1 : hasD ((k', d) :: kvs) k = hasD kvs k := by simp only [hasD, List.any_cons, decide_eq_false h1, Bool.false_or]
        have e2 : valD ((k', d) :: kvs) j = valD kvs j := by simp only [valD, List.find?_cons, decide_eq_false h2]
        rw [e1, e2]
theorem val_put {kvs : List (κ × D)} {k j : κ} {v : D} : valD (putD kvs k v) j = if j = k then some v else valD kvs j := by
  unfold putD
  by_cases h : hasD kvs k = true
  · rw [if_pos h]
    unfold valD
    rw [find_map]
    by_cases e : j = k
    · rw [if_pos e, if_pos e, if_pos h]
    · rw [if_neg e, if_neg e]; rfl
  · rw [if_neg h]
    unfold valD
    rw [List.find?_append]
    by_cases e : j = k
    · subst e
      have : kvs.find? (fun kv => decide (kv.1 = j)) = none := by
        rw [List.find?_eq_none]
        intro x hx z
        exact h (List.any_eq_true.mpr ⟨x, hx, z⟩)
      rw [this]
      simp
    · rw [if_neg e]
      have : ([(k, v)] : List (κ × D)).find? (fun kv => decide (kv.1 = j)) = none := by
        rw [List.find?_eq_none]
        intro x hx z
        simp at hx
        subst hx
        exact e (by simpa using (of_decide_eq_true z).symm)
      rw [this, Option.or_none]
theorem keys_put {kvs : List (κ × D)} {k : κ} {v : D} : (putD kvs k v).map (·.1) = if hasD kvs k = true then kvs.map (·.1) else kvs.map (·.1) ++ [k] := by
  unfold putD
  split
  · rw [List.map_map]
    apply List.map_congr_left
    intro kv _
    simp only [Function.comp]
    split <;> rfl
  · simp
theorem len_put {kvs : List (κ × D)} {k : κ} {v : D} : (putD kvs k v).length ≤ kvs.length + 1 := by
  unfold putD
  split
  · simp
  · simp
theorem hasD_mem {kvs : List (κ × D)} {k : κ} : hasD kvs k = true ↔ k ∈ kvs.map (·.1) := by
  unfold hasD
  rw [List.any_eq_true]
  constructor
  · rintro ⟨x, hx, e⟩
    exact List.mem_map.mpr ⟨x, hx, of_decide_eq_true e⟩
  · intro h
    obtain ⟨x, hx, e⟩ := List.mem_map.mp h
    exact ⟨x, hx, decide_eq_true e⟩
theorem nodup_put {kvs : List (κ × D)} {k : κ} {v : D} (h : (kvs.map (·.1)).Nodup) : ((putD kvs k v).map (·.1)).Nodup := by
  rw [keys_put]
  split
  · exact h
  · rename_i q
    rw [List.nodup_append]
    refine ⟨h, by simp, fun a ha b hb => ?_⟩
    simp at hb
    subst hb
    intro e
    subst e
    exact q (hasD_mem.mpr ha)
/-- by a key that is new -/
theorem put_new {kvs : List (κ × D)} {k : κ} {v : D} (h : k ∉ kvs.map (·.1)) : putD kvs k v = kvs ++ [(k, v)] := by
  unfold putD
  rw [if_neg (fun z => h (hasD_mem.mp z))]
theorem val_mem {kvs : List (κ × D)} {k : κ} {v : D} (hn : (kvs.map (·.1)).Nodup) (h : (k, v) ∈ kvs) : valD kvs k = some v := by
  induction kvs with
  | nil => cases h
  | cons kv kvs ih =>
    obtain ⟨k', d⟩ := kv
    simp only [List.map_cons, List.nodup_cons] at hn
    rcases List.mem_cons.mp h with e | h
    · cases e; simp [valD]
    · have : k' ≠ k := fun z => hn.1 (z ▸ List.mem_map.mpr ⟨_, h, rfl⟩)
      have := ih hn.2 h
      unfold valD at this ⊢
      rw [List.find?_cons]
      simp only [decide_eq_false ‹k' ≠ k›]
      exact this
end
end Mir

set_option maxHeartbeats 400000
namespace Mir
open PySem PySem.W L2
theorem nodup_sub_len {α : Type} [DecidableEq α] : ∀ {l m : List α}, l.Nodup → (∀ a ∈ l, a ∈ m) → l.length ≤ m.length
  | [], m, _, _ => Nat.zero_le _
  | x :: l, m, hn, hs => by
    rw [List.nodup_cons] at hn
    have hx : x ∈ m := hs x List.mem_cons_self
    have h := nodup_sub_len (l := l) (m := m.erase x) hn.2 (fun a ha => (List.mem_erase_of_ne (fun (e : a = x) => hn.1 (e ▸ ha))).mpr (hs a (List.mem_cons_of_mem _ ha)))
    rw [List.length_erase_of_mem hx] at h
    have := List.length_pos_of_mem hx
    rw [List.length_cons]
    omega
theorem loop_cons {st : D → RE → Option RE} {b : RE → Out Fl} {x : D} {xs : List D} {r r1 r2 : RE} (h1 : st x r = some r1) (h2 : b r1 = .ok (.nx r2)) : mLoop st b (x :: xs) r = mLoop st b xs r2 := by
  rw [mLoop]
  simp only [h1, h2, bnd_ok]
/-- a while loop: m falls at each turn -/
theorem while_run {t : RE → Out (Bool × RE)} {b : RE → Out Fl} (P : Nat → RE → Prop) (Q : RE → Prop)
    (hs : ∀ m r, P m r → (∃ r1, t r = .ok (false, r1) ∧ Q r1) ∨ ∃ r1 r2, t r = .ok (true, r1) ∧ (b r1 = .ok (.nx r2) ∨ b r1 = .ok (.ct r2)) ∧ ∃ m', m' < m ∧ P m' r2) : ∀ {n m : Nat} {r : RE}, P m r → m < n → ∃ r', mWhile t b n r = .ok (.nx r') ∧ Q r'
  | 0, m, r, _, h => absurd h (by omega)
  | n + 1, m, r, hP, h => by
    rcases hs m r hP with ⟨r1, h1, h2⟩ | ⟨r1, r2, h1, h2, m', hm, h3⟩
    · refine ⟨r1, ?_, h2⟩
      simp only [mWhile, h1, bnd_ok, Bool.false_eq_true, if_false]
    · obtain ⟨r', h4, h5⟩ := while_run P Q hs (n := n) (m := m') (r := r2) h3 (by omega)
      refine ⟨r', ?_, h5⟩
      rcases h2 with h2 | h2 <;> simp only [mWhile, h1, bnd_ok, if_true, h2, h4]
/-! ## sorted lists of keys -/
theorem leD_key (a b : Key) : leD (ofKey a) (ofKey b) = KS.leK a b := by cases a <;> cases b <;> rfl
theorem sort_keys (ks : List Key) : (ks.map ofKey).mergeSort leD = (KS.sortK ks).map ofKey := by
  unfold KS.sortK
  exact (List.map_mergeSort fun a _ b _ => (leD_key a b).symm).symm
theorem sortOk_ints : ∀ l : List Int, sortOk (l.map D.int) = true := fun l => by
  have e : toPs (l.map D.int) = l.map PyData.int := by
    rw [toPs_map, List.map_map]; rfl
  unfold sortOk
  rw [e]
  simp only [Bool.and_eq_true, List.all_map, List.all_eq_true, Function.comp]
  refine ⟨⟨fun x _ => ⟨by simp [PyData.canLay0], by simp [PyData.depth]⟩, fun x _ y _ => by simp [alike]⟩, ?_⟩
  rw [Bool.or_eq_true]
  exact .inr (by simp)
theorem sortOk_strs {l : List Str} (h : ∀ x ∈ l, PyData.strOk x = true) : sortOk (l.map D.str) = true := by
  have e : toPs (l.map D.str) = l.map PyData.str := by
    rw [toPs_map, List.map_map]; rfl
  unfold sortOk
  rw [e]
  simp only [Bool.and_eq_true, List.all_map, List.all_eq_true, Function.comp]
  refine ⟨⟨fun x hx => ⟨by simp [PyData.canLay0, h x hx], by simp [PyData.depth]⟩, fun x _ y _ => by simp [alike]⟩, ?_⟩
  rw [Bool.or_eq_true]
  exact .inr (by simp)
/-- the ints, sorted -/
def sortI (l : List Int) : List Int := l.mergeSort fun a b => decide (a ≤ b)
theorem sort_ints (l : List Int) : (l.map D.int).mergeSort leD = (sortI l).map D.int := by
  unfold sortI
  refine (List.map_mergeSort fun a _ b _ => ?_).symm
  have := leD_key (.inl a) (.inl b)
  rw [KS.leK_ii] at this
  exact this.symm
theorem sortI_perm (l : List Int) : (sortI l).Perm l := List.mergeSort_perm _ _
theorem sortI_sorted (l : List Int) : (sortI l).Pairwise fun a b => a ≤ b := by
  have := List.pairwise_mergeSort (le := fun a b : Int => decide (a ≤ b)) (fun a b c h1 h2 => by simp only [decide_eq_true_eq] at *; omega) (fun a b => by simp only [Bool.or_eq_true, decide_eq_true_eq]; omega) l
  exact this.imp fun h => of_decide_eq_true h
theorem sortI_congr {l m : List Int} (h : l.Perm m) : sortI l = sortI m :=
  List.Perm.eq_of_pairwise (fun a b _ _ h1 h2 => Int.le_antisymm h1 h2) (sortI_sorted l) (sortI_sorted m) ((sortI_perm l).trans (h.trans (sortI_perm m).symm))
end Mir

set_option maxHeartbeats 400000
namespace Mir
open PySem L2
/-! ## texts as lists of signs -/
abbrev cl (x : Str) : List Nat := x.cps.toList
theorem cl_len (x : Str) : (cl x).length = x.length := Array.length_toList
theorem cl_app (a b : Str) : cl (a ++ b) = cl a ++ cl b := Array.toList_append
theorem cl_inj {a b : Str} (h : cl a = cl b) : a = b := by
  obtain ⟨⟨a⟩⟩ := a
  obtain ⟨⟨b⟩⟩ := b
  simp only [cl] at h
  subst h
  rfl
theorem cl_one (c : Nat) : cl ⟨#[c]⟩ = [c] := rfl
theorem len_app (a b : Str) : (a ++ b).length = a.length + b.length := Array.size_append
theorem cl_join : ∀ ys : List Str, cl (Str.join (Str.ofString "") ys) = (ys.map cl).flatten
  | [] => rfl
  | [x] => by simp [Str.join]
  | x :: y :: ys => by
    have := cl_join (y :: ys)
    rw [Str.join]
    · have e : cl (Str.ofString "") = [] := by decide +kernel
      rw [cl_app, cl_app, this, e, List.append_nil]
      rfl
    · intro z; cases z
theorem cl_cut (z : Str) (lo hi : Option Int) : cl (cutS z lo hi) = ((cl z).drop (HT.sIx z.length 0 lo)).take (HT.sIx z.length z.length hi - HT.sIx z.length 0 lo) := rfl
/-- z[:a] and z[a:] -/
theorem cl_take (z : Str) (a : Nat) (h : a ≤ z.length) : cl (cutS z none (some (a : Int))) = (cl z).take a := by
  rw [cl_cut, HT.sIx_none, HT.sIx_nat, Nat.min_eq_left h]
  rfl
theorem cl_drop (z : Str) (a : Nat) (h : a ≤ z.length) : cl (cutS z (some (a : Int)) none) = (cl z).drop a := by
  rw [cl_cut, HT.sIx_none, HT.sIx_nat, Nat.min_eq_left h, List.take_of_length_le]
  rw [List.length_drop, cl_len]
  exact Nat.le_refl _
theorem len_join (ys : List Str) : (Str.join (Str.ofString "") ys).length = ((ys.map cl).flatten).length := by rw [← cl_join, cl_len]
/-- slices of lists -/
theorem cutD_nat {xs : List D} {a b : Nat} (h1 : a ≤ b) (h2 : b ≤ xs.length) : cutD xs (some (a : Int)) (some (b : Int)) = (xs.drop a).take (b - a) := by
  unfold cutD
  rw [HT.sIx_nat, HT.sIx_nat, Nat.min_eq_left h2, Nat.min_eq_left (Nat.le_trans h1 h2)]
theorem cutD_to {xs : List D} {b : Nat} (h2 : b ≤ xs.length) : cutD xs none (some (b : Int)) = xs.take b := by
  unfold cutD
  rw [HT.sIx_none, HT.sIx_nat, Nat.min_eq_left h2]
  rfl
theorem cutD_from {xs : List D} {a : Nat} (h : a ≤ xs.length) : cutD xs (some (a : Int)) none = xs.drop a := by
  unfold cutD
  rw [HT.sIx_none, HT.sIx_nat, Nat.min_eq_left h, List.take_of_length_le]
  rw [List.length_drop]
  exact Nat.le_refl _
end Mir

set_option maxHeartbeats 400000
namespace Mir
open PySem L2
theorem dMul_l {a : List D} {k : Nat} (h : a.length * k ≤ 1000000) (hk : k ≤ 1000000) : dMul (.lst a) (.int (k : Nat)) = .ok (.lst (List.replicate k a).flatten) := by
  simp only [dMul]
  rw [if_pos ⟨by omega, by omega, by rw [Int.toNat_natCast]; exact h⟩, Int.toNat_natCast]
theorem dAdd_l {a b : List D} (h : a.length + b.length ≤ 1000000) : dAdd (.lst a) (.lst b) = .ok (.lst (a ++ b)) := by
  simp only [dAdd]
  rw [if_pos h]
theorem dAdd_i {i j : Int} : dAdd (.int i) (.int j) = .ok (.int (i + j)) := rfl
theorem dMul_i {i j : Int} (h0 : 0 ≤ i) (h : i < 1000000000) : dMul (.int i) (.int j) = .ok (.int (i * j)) := by
  simp only [dMul]
  rw [if_pos (.inl ⟨by omega, by omega⟩)]
theorem dMod_i {i j : Int} (h : 0 < j) : dMod (.int i) (.int j) = .ok (.int (i % j)) := by
  simp only [dMod]
  rw [if_pos h]
theorem dDiv_i {i j : Int} (h : 0 < j) (h1 : j < 1073741824) : dDiv (.int i) (.int j) = .ok (.int (i / j)) := by
  simp only [dDiv]
  rw [if_pos ⟨h, h1⟩]
theorem rng1 {oa : RE → Out (D × RE)} {r r' : RE} {n : Nat} (h : oa r = .ok (.int n, r')) (hn : n ≤ 1000000) : mRng1 oa r = .ok (rangeD 0 n, r') := by
  simp only [mRng1, mCons, mNil, h, bnd_ok, drs, dr_int]
  rw [if_pos ⟨by omega, by omega⟩, Int.toNat_natCast]
theorem op2_ok {f : D → D → Out D} {a b : RE → Out (D × RE)} {r r1 r2 : RE} {x y x' y' z : D} (ha : a r = .ok (x, r1)) (hb : b r1 = .ok (y, r2)) (hx : dr r2.st x = some x') (hy : dr r2.st y = some y') (h : f x' y' = .ok z) : mOp2 f a b r = .ok (z, r2) := by
  simp only [mOp2, ha, hb, bnd_ok, hx, hy, h]
theorem set_ok {m : RE → Out (D × RE)} {r r1 : RE} {x : D} {i : Nat} (h : m r = .ok (x, r1)) : mSet i m r = .ok (.nx ⟨r1.s.set i (some x), r1.st⟩) := by
  simp only [mSet, h, bnd_ok]
  rfl
theorem call_ok {f : Fn} {dd ds : List D} {ms : RE → Out (List D × RE)} {r r1 : RE} {x : D} {st' : Sto} (h : ms r = .ok (ds, r1)) (hf : f (ds ++ dd) r1.st = .ok (x, st')) : mCall f dd ms r = .ok (x, ⟨r1.s, st'⟩) := by
  simp only [mCall, h, hf, bnd_ok]
theorem cons_ok {m : RE → Out (D × RE)} {ms : RE → Out (List D × RE)} {r r1 r2 : RE} {x : D} {ds : List D} (h : m r = .ok (x, r1)) (hs : ms r1 = .ok (ds, r2)) : mCons m ms r = .ok (x :: ds, r2) := by
  simp only [mCons, h, hs, bnd_ok]
end Mir

set_option maxHeartbeats 400000
namespace Lm
open PySem L2 Mir
/-! ## names and states -/
def isInt : D → Bool
  | .int _ => true
  | _ => false
def isSt : D → Bool
  | .int i => decide (0 ≤ i) && decide (i ≤ 99)
  | _ => false
/-- what the odd things have in common: nothing of it is told apart but by its type -/
def plain : D → Bool
  | .ins _ _ => false
  | .dct _ => false
  | .ty _ => false
  | .cell _ => false
  | .lck _ => false
  | .str x => decide (x.length ≤ 1000)
  | _ => true
variable {C : Cl} {st : Sto}
theorem k_integer {d : D} (h : plain d = true) : k_is_integer C [d] st = .ok (.bl (isInt d), st) := by
  cases d <;> first | rfl | cases h
theorem okC_bl {n : Nat} {b : Bool} : okC n (.bl b) = true := rfl
theorem p_integer {d : D} (h : plain d = true) : f_is_integer C [d] st = .ok (.bl (isInt d), st) := cut_pure0 (k_integer h) rfl
theorem p_count {d : D} (h : plain d = true) : f_is_count C [d, .int 99] st = .ok (.bl (isSt d), st) := by
  refine cut_pure0 ?_ rfl
  simp [k_is_count, b_is_count, p_integer h]
  cases d <;> (try cases h) <;> simp [isInt, isSt]
  rename_i i; by_cases hi : 0 ≤ i <;> simp [hi]
theorem p_state {d : D} (h : plain d = true) : f_is_state C [d] st = .ok (.bl (isSt d), st) := by
  refine cut_pure0 ?_ rfl
  simp [k_is_state, b_is_state, p_count h]
/-! names -/
def letters : Str := Str.ofString "abcdefghijklmnopqrstuvwxyz"
def okLen (x : Str) : Bool := decide (1 ≤ (x.length : Int)) && decide ((x.length : Int) ≤ 12)
def allLet (x : Str) : Bool := x.cps.toList.all fun c => decide (c ∈ letters.cps.toList)
def isNm : D → Bool
  | .str x => okLen x && allLet x
  | _ => false
theorem name_turn {a b : Option D} {c : Nat} : l_is_name_1 C ⟨[a, some (.str ⟨#[c]⟩)], st⟩ = if c ∈ letters.cps.toList then .ok (.nx ⟨[a, some (.str ⟨#[c]⟩)], st⟩) else .ok (.rt (.bl false) ⟨[a, some (.str ⟨#[c]⟩)], st⟩) := by
  by_cases h : c ∈ letters.cps.toList
  · rw [if_pos h]
    have h' : c ∈ (Str.ofString "abcdefghijklmnopqrstuvwxyz").cps.toList := h
    simp [l_is_name_1, hasIn, h']
    simpa using h'
  · rw [if_neg h]
    have h' : c ∉ (Str.ofString "abcdefghijklmnopqrstuvwxyz").cps.toList := h
    simp [l_is_name_1, hasIn, h']
    simpa using h'
theorem name_loop (a : Option D) (x : Str) (b : Option D) : ∃ b', mLoop (stName 1) (l_is_name_1 C) (chars x) ⟨[a, b], st⟩ = if allLet x = true then .ok (.nx ⟨[a, b'], st⟩) else .ok (.rt (.bl false) ⟨[a, b'], st⟩) := by
  obtain ⟨r', ⟨b', hb⟩, h⟩ := loop_all (st := stName 1) (b := l_is_name_1 C) (fun r => ∃ b', r = ⟨[a, b'], st⟩) (fun d => match d with | .str x => decide (x.cps.getD 0 0 ∈ letters.cps.toList) | _ => false) (.bl false) (xs := chars x) (fun y r hy hr => by
    obtain ⟨c, hc, rfl⟩ := List.mem_map.mp hy
    obtain ⟨b', rfl⟩ := hr
    refine ⟨⟨[a, some (.str ⟨#[c]⟩)], st⟩, rfl, ?_⟩
    rw [name_turn (b := b')]
    by_cases hz : c ∈ letters.cps.toList
    · exact .inl ⟨by simpa using hz, _, if_pos hz, _, rfl⟩
    · exact .inr ⟨by simpa using hz, _, if_neg hz, _, rfl⟩) ⟨b, rfl⟩
  subst hb
  refine ⟨b', ?_⟩
  rw [h]
  unfold chars
  rw [List.all_map]
  rfl
theorem p_name {d : D} (h : plain d = true) : f_is_name C [d] st = .ok (.bl (isNm d), st) := by
  refine cut_pure0 ?_ rfl
  cases d with
  | str x =>
    have hx : x.length ≤ 1000000 := by
      have : x.length ≤ 1000 := by simpa [plain] using h
      omega
    obtain ⟨b', e⟩ := name_loop (C := C) (st := st) (some (.str x)) x none
    have e2 : isNm (.str x) = (okLen x && allLet x) := rfl
    rw [e2]
    by_cases h1 : (1 : Int) ≤ (x.length : Int)
    · by_cases h2 : (x.length : Int) ≤ 12
      · have ho : okLen x = true := by simp [okLen, h2]; omega
        simp [k_is_name, b_is_name, hx, ho, h1, h2]
        rw [e]
        by_cases ha : allLet x = true <;> simp [ha]
      · have ho : okLen x = false := by simp [okLen, h2]
        simp [k_is_name, b_is_name, hx, ho, h1, h2]
    · have ho : okLen x = false := by simp [okLen, h1]
      simp [k_is_name, b_is_name, hx, ho, h1]
  | non => rfl
  | bl b => rfl
  | int i => rfl
  | tup xs => rfl
  | lst xs => rfl
  | frl xs => rfl
  | dic xs => rfl
  | _ => cases h
/-! steps -/
structure Stp where
  a : Int
  w : Str
  b : Int
  deriving DecidableEq
def Stp.d (s : Stp) : D := .tup [.int s.a, .str s.w, .int s.b]
def okSt (i : Int) : Bool := decide (0 ≤ i) && decide (i ≤ 99)
def okNm (x : Str) : Bool := okLen x && allLet x
def Stp.ok (s : Stp) : Bool := okSt s.a && okNm s.w && okSt s.b
theorem okNm_len {x : Str} (h : okNm x = true) : x.length ≤ 12 := by
  simp only [okNm, okLen, Bool.and_eq_true, decide_eq_true_eq] at h
  omega
theorem plain_nm {x : Str} (h : okNm x = true) : plain (.str x) = true := by
  have := okNm_len h
  simp only [plain, decide_eq_true_eq]; omega
theorem p_step {s : Stp} (h : s.ok = true) : f_is_step C [s.d] st = .ok (.bl true, st) := by
  refine cut_pure0 ?_ rfl
  simp only [Stp.ok, Bool.and_eq_true] at h
  have h1 : isSt (.int s.a) = true := h.1.1
  have h2 : isNm (.str s.w) = true := h.1.2
  have h3 : isSt (.int s.b) = true := h.2
  simp [k_is_step, b_is_step, Stp.d, p_state (d := .int s.a) rfl, p_state (d := .int s.b) rfl, p_name (plain_nm h.1.2), h1, h2, h3, eqOk, eqD, scalD]
end Lm

set_option maxHeartbeats 400000
namespace Lm
open PySem L2 Mir
variable {C : Cl} {st : Sto}
/-! ## steps as data -/
def Stp.p (s : Stp) : PyData := .tuple [.int s.a, .str s.w, .int s.b]
theorem toP_d (s : Stp) : toP s.d = s.p := by simp only [Stp.d, toP, toPs, Stp.p]
theorem toPs_d : ∀ l : List Stp, toPs (l.map Stp.d) = l.map Stp.p
  | [] => rfl
  | s :: l => by simp only [List.map_cons, toPs, toP_d, toPs_d l]
theorem let_lt {c : Nat} (h : c ∈ letters.cps.toList) : c < 0x110000 := by
  have : letters.cps.toList.all (fun c => decide (c < 0x110000)) = true := by decide +kernel
  exact of_decide_eq_true (List.all_eq_true.mp this c h)
theorem okNm_str {x : Str} (h : okNm x = true) : PyData.strOk x = true := by
  simp only [okNm, Bool.and_eq_true, allLet, List.all_eq_true, decide_eq_true_eq] at h
  unfold PyData.strOk
  rw [← Array.all_toList, List.all_eq_true]
  exact fun c hc => decide_eq_true (let_lt (h.2 c hc))
def Good (l : List Stp) : Prop := ∀ s ∈ l, s.ok = true
theorem ok_str {s : Stp} (h : s.ok = true) : PyData.strOk s.w = true := by
  simp only [Stp.ok, Bool.and_eq_true] at h
  exact okNm_str h.1.2
theorem lay_p {s : Stp} (h : s.ok = true) : s.p.canLay0 = true := by simp [Stp.p, PyData.canLay0, PyData.canLayAll0, ok_str h]
theorem depth_p (s : Stp) : s.p.depth = 1 := by simp [Stp.p, PyData.depth, PyData.depthAll]
theorem lays_p : ∀ {l : List Stp}, Good l → PyData.canLayAll0 (l.map Stp.p) = true
  | [], _ => by simp [PyData.canLayAll0]
  | s :: l, h => by simp only [List.map_cons, PyData.canLayAll0, lay_p (h s List.mem_cons_self), lays_p fun t ht => h t (List.mem_cons_of_mem _ ht), Bool.and_self]
theorem depths_p : ∀ l : List Stp, PyData.depthAll (l.map Stp.p) ≤ 1
  | [] => by simp [PyData.depthAll]
  | s :: l => by
    have := depths_p l
    simp only [List.map_cons, PyData.depthAll, depth_p]
    omega
theorem shaped_p {s : Stp} (h : s.ok = true) : SeqAt.shaped s.p = true := by simp [SeqAt.shaped, lay_p h, depth_p]
theorem shaped_ps {l : List Stp} (h : Good l) : SeqAt.shaped (.list (l.map Stp.p)) = true := by
  have := depths_p l
  unfold SeqAt.shaped
  rw [Bool.and_eq_true]
  refine ⟨?_, decide_eq_true ?_⟩
  · simp only [PyData.canLay0]; exact lays_p h
  · simp only [PyData.depth]; omega
theorem eqv_p (s t : Stp) : PyData.eqv s.p t.p = decide (s = t) := by
  obtain ⟨a, w, b⟩ := s
  obtain ⟨a', w', b'⟩ := t
  simp only [Stp.p, PyData.eqv, PyData.eqvAll, Bool.and_true]
  rw [Bool.eq_iff_iff]
  simp
theorem in_steps {s : Stp} {l : List Stp} (hs : s.ok = true) (hl : Good l) : hasIn s.d (.lst (l.map Stp.d)) = some (decide (s ∈ l)) := by
  have h1 : isScal s.d = false := rfl
  have e : hasIn s.d (.lst (l.map Stp.d)) = if inOk s.d (l.map Stp.d) = true then some (inD s.d (l.map Stp.d)) else none := by
    unfold Stp.d; simp only [hasIn]
  rw [e]
  have h2 : inOk s.d (l.map Stp.d) = true := by
    unfold inOk
    rw [h1, toP_d, toPs_d, shaped_p hs, shaped_ps hl]; rfl
  rw [if_pos h2]
  unfold inD
  rw [h1, toP_d, toPs_d]
  simp only [Bool.false_and, Bool.false_eq_true, if_false, Option.some.injEq]
  rw [List.any_map, Bool.eq_iff_iff, List.any_eq_true]
  simp only [Function.comp, eqv_p, decide_eq_true_eq]
  exact ⟨fun ⟨x, hx, e⟩ => e ▸ hx, fun h => ⟨s, h, rfl⟩⟩
/-! ## checked_steps -/
/-- the counts in the dict -/
def cntOf (kvs : List (Key × D)) (k : Int) : Int := match valD kvs (.inl k) with
  | some (.int c) => c
  | _ => 0
def Ints (kvs : List (Key × D)) : Prop := ∀ k d, valD kvs k = some d → ∃ c, d = .int c
theorem cnt_put {kvs : List (Key × D)} {k j : Int} {c : Int} : cntOf (putD kvs (.inl k) (.int c)) j = if j = k then c else cntOf kvs j := by
  unfold cntOf
  rw [val_put]
  by_cases h : j = k
  · subst h; simp
  · have : ¬ (Sum.inl j : Key) = .inl k := fun e => h (by cases e; rfl)
    rw [if_neg this, if_neg h]
theorem ints_put {kvs : List (Key × D)} {k : Key} {c : Int} (h : Ints kvs) : Ints (putD kvs k (.int c)) := fun j d e => by
  rw [val_put] at e
  split at e
  · cases e; exact ⟨c, rfl⟩
  · exact h j d e
theorem get_cnt {kvs : List (Key × D)} (h : Ints kvs) (k : Int) : (valD kvs (.inl k)).getD (.int 0) = .int (cntOf kvs k) := by
  unfold cntOf
  cases e : valD kvs (.inl k) with
  | none => rfl
  | some d => obtain ⟨c, rfl⟩ := h _ _ e; rfl
theorem steps_turn {a0 : Option D} {i : Int} {s : Stp} {done : List Stp} {kvs : List (Key × D)} (hs : s.ok = true) (hg : Good done) (hn : s ∉ done) (hi : Ints kvs) (hc : cntOf kvs s.a < 8) (hk : kvs.length < 1000) (hd : done.length < 1000) :
    l_checked_steps_1 C ⟨[a0, some (.cell st.length), some (.cell (st.length + 1)), some (.int i), some s.d], st ++ [.lst (done.map Stp.d), .dic kvs]⟩ =
      .ok (.nx ⟨[a0, some (.cell st.length), some (.cell (st.length + 1)), some (.int i), some s.d], st ++ [.lst ((done ++ [s]).map Stp.d), .dic (putD kvs (.inl s.a) (.int (cntOf kvs s.a + 1)))]⟩) := by
  have h1 : hasIn (.tup [.int s.a, .str s.w, .int s.b]) (.lst (done.map Stp.d)) = some false := by
    have := in_steps hs hg
    rw [decide_eq_false hn] at this
    exact this
  have h2 : ∀ st', f_is_step C [.tup [.int s.a, .str s.w, .int s.b]] st' = .ok (.bl true, st') := fun st' => p_step hs
  have hv : valD (putD kvs (.inl s.a) (.int (cntOf kvs s.a + 1))) (.inl s.a) = some (.int (cntOf kvs s.a + 1)) := by rw [val_put, if_pos rfl]
  have hgc := get_cnt hi s.a
  have hk' : kvs.length < 1000000 := by omega
  have hd' : done.length < 1000000 := by omega
  have h8 : ¬ 8 < cntOf kvs s.a + 1 := by omega
  have e1 : s.d = .tup [.int s.a, .str s.w, .int s.b] := rfl
  rw [List.map_append, List.map_cons, List.map_nil, e1]
  simp [l_checked_steps_1, h2, h1, getA, hgc, hk', hv, h8, hd']
def srcN (l : List Stp) (k : Int) : Nat := l.countP fun s => decide (s.a = k)
/-- rows that make a machine -/
structure Rows (l : List Stp) : Prop where
  ok : Good l
  nd : l.Nodup
  len : l.length ≤ 80
  ne : l ≠ []
  few : ∀ k, srcN l k ≤ 8
theorem take_succ {α : Type} {l : List α} {i : Nat} {x : α} (h : l[i]? = some x) : l.take (i + 1) = l.take i ++ [x] := by
  rw [List.take_add_one, h]; rfl
theorem okCL_steps {n : Nat} : ∀ l : List Stp, okCL n (l.map Stp.d) = true
  | [] => rfl
  | s :: l => by simp only [List.map_cons, okCL, okCL_steps l, Stp.d, okC, Bool.and_self]
theorem enum_steps {l : List Stp} {i : Nat} {x : D} (h : (enumD 0 (l.map Stp.d))[i]? = some x) : ∃ s, l[i]? = some s ∧ x = .tup [.int (i : Int), s.d] := by
  have hi : i < (enumD 0 (l.map Stp.d)).length := (List.getElem?_eq_some_iff.mp h).1
  rw [enumD_len, List.length_map] at hi
  refine ⟨l[i], List.getElem?_eq_getElem hi, ?_⟩
  have := enumD_get (s := 0) (ds := l.map Stp.d) (j := i) (d := (l[i]).d) (by rw [List.getElem?_map, List.getElem?_eq_getElem hi]; rfl)
  rw [h, Nat.zero_add] at this
  exact Option.some.inj this
def StepsInv (st : Sto) (a0 : Option D) (l : List Stp) (i : Nat) (r : RE) : Prop := ∃ kvs x3 x4, r = ⟨[a0, some (.cell st.length), some (.cell (st.length + 1)), x3, x4], st ++ [.lst ((l.take i).map Stp.d), .dic kvs]⟩ ∧ Ints kvs ∧ (∀ k, cntOf kvs k = srcN (l.take i) k) ∧ kvs.length ≤ i
theorem st_pair {x0 x1 x2 x3 x4 : Option D} {so : Sto} {a b : D} : stUnp 2 (stCons (stName 3) (stCons (stName 4) stNil)) (.tup [a, b]) ⟨[x0, x1, x2, x3, x4], so⟩ = some ⟨[x0, x1, x2, some a, some b], so⟩ := rfl
theorem steps_loop {a0 : Option D} {l : List Stp} (h : Rows l) : ∃ kvs x3 x4, mLoop (stUnp 2 (stCons (stName 3) (stCons (stName 4) stNil))) (l_checked_steps_1 C) (enumD 0 (l.map Stp.d)) ⟨[a0, some (.cell st.length), some (.cell (st.length + 1)), none, none], st ++ [.lst [], .dic []]⟩ =
    .ok (.nx ⟨[a0, some (.cell st.length), some (.cell (st.length + 1)), x3, x4], st ++ [.lst (l.map Stp.d), .dic kvs]⟩) := by
  have turn : ∀ (i : Nat) (x : D) (r : RE), (enumD 0 (l.map Stp.d))[i]? = some x → StepsInv st a0 l i r → ∃ r1 r2, stUnp 2 (stCons (stName 3) (stCons (stName 4) stNil)) x r = some r1 ∧ (l_checked_steps_1 C r1 = .ok (.nx r2) ∨ l_checked_steps_1 C r1 = .ok (.ct r2)) ∧ StepsInv st a0 l (i + 1) r2 := by
    rintro i x r hx ⟨kvs, x3, x4, rfl, hi, hc, hk⟩
    obtain ⟨s, hs, rfl⟩ := enum_steps hx
    have hil : i < l.length := (List.getElem?_eq_some_iff.mp hs).1
    have hlen := h.len
    have hsm : s ∈ l := List.mem_of_getElem? hs
    have hsplit : l = l.take i ++ s :: l.drop (i + 1) := by
      have e := List.take_append_drop i l
      rw [List.drop_eq_getElem_cons hil] at e
      have : l[i] = s := by
        have := List.getElem?_eq_getElem hil
        rw [hs] at this; exact (Option.some.inj this).symm
      rw [this] at e; exact e.symm
    have hn : s ∉ l.take i := fun z => by
      have nd := h.nd
      rw [hsplit, List.nodup_append] at nd
      exact nd.2.2 s z s List.mem_cons_self rfl
    have h8 : cntOf kvs s.a < 8 := by
      rw [hc]
      have := h.few s.a
      rw [hsplit] at this
      unfold srcN at this ⊢
      rw [List.countP_append, List.countP_cons_of_pos (by simp)] at this
      omega
    have t := steps_turn (C := C) (st := st) (a0 := a0) (i := i) (h.ok s hsm) (fun t ht => h.ok t (List.mem_of_mem_take ht)) hn hi h8 (by omega) (by rw [List.length_take]; omega)
    rw [← take_succ hs] at t
    refine ⟨_, _, st_pair, .inl t, _, _, _, rfl, ints_put hi, fun k => ?_, ?_⟩
    · rw [cnt_put, take_succ hs]
      unfold srcN
      rw [List.countP_append]
      by_cases e : k = s.a
      · subst e
        rw [if_pos rfl, hc, List.countP_cons_of_pos (by simp)]
        unfold srcN
        simp
      · rw [if_neg e, hc, List.countP_cons_of_neg (by simpa using fun z => e z.symm)]
        unfold srcN
        simp
    · have := len_put (kvs := kvs) (k := (.inl s.a : Key)) (v := .int (cntOf kvs s.a + 1))
      omega
  obtain ⟨r', h1, kvs, x3, x4, rfl, _⟩ := loop_inv (r := ⟨[a0, some (.cell st.length), some (.cell (st.length + 1)), none, none], st ++ [.lst [], .dic []]⟩) (StepsInv st a0 l) ⟨[], none, none, by simp, (fun k d e => by simp [valD] at e), (fun k => rfl), Nat.le_refl _⟩ turn
  rw [enumD_len, List.length_map, List.take_length] at h1
  exact ⟨kvs, x3, x4, h1⟩
theorem p_row_l {xs : List D} : f_is_row C [.lst xs] st = .ok (.bl true, st) := cut_pure0 (by simp [k_is_row, b_is_row]) rfl
theorem p_row_f {xs : List D} : f_is_row C [.frl xs] st = .ok (.bl true, st) := cut_pure0 (by simp [k_is_row, b_is_row]) rfl
theorem p_row_t {xs : List D} : f_is_row C [.tup xs] st = .ok (.bl true, st) := cut_pure0 (by simp [k_is_row, b_is_row]) rfl
theorem p_row_c {xs : List D} {c : Nat} (h : st[c]? = some (.lst xs)) : f_is_row C [.cell c] st = .ok (.bl true, st) := cut_pure0 (by simp [k_is_row, b_is_row, h]) rfl
theorem ne_len {l : List Stp} (h : l ≠ []) : 1 ≤ l.length := by cases l with | nil => exact absurd rfl h | cons a b => simp
theorem p_checked_t {l : List Stp} (h : Rows l) : f_checked_steps C [.tup (l.map Stp.d)] st = .ok (.lst (l.map Stp.d), st) := by
  obtain ⟨kvs, x3, x4, e⟩ := steps_loop (C := C) (st := st) (a0 := some (.tup (l.map Stp.d))) h
  have h1 := ne_len h.ne
  have h2 := h.len
  have h3 : (1 : Int) ≤ (l.length : Int) := by omega
  have h4 : (l.length : Int) ≤ 80 := by omega
  have h5 : l.length ≤ 1000000 := by omega
  refine cut_rsv (d := .cell st.length) (j := [.lst (l.map Stp.d), .dic kvs]) ?_ ?_
  · simp [k_checked_steps, b_checked_steps, p_row_t, h3, h4, h5]
    rw [e]
    simp
  · rw [rsv_cell (d := .lst (l.map Stp.d)) (Nat.lt_irrefl _) (get_0 _ _ _)]
    exact rsv_ok (okCL_steps l)
theorem p_checked_l {l : List Stp} (h : Rows l) : f_checked_steps C [.lst (l.map Stp.d)] st = .ok (.lst (l.map Stp.d), st) := by
  obtain ⟨kvs, x3, x4, e⟩ := steps_loop (C := C) (st := st) (a0 := some (.lst (l.map Stp.d))) h
  have h1 := ne_len h.ne
  have h2 := h.len
  have h3 : (1 : Int) ≤ (l.length : Int) := by omega
  have h4 : (l.length : Int) ≤ 80 := by omega
  have h5 : l.length ≤ 1000000 := by omega
  refine cut_rsv (d := .cell st.length) (j := [.lst (l.map Stp.d), .dic kvs]) ?_ ?_
  · simp [k_checked_steps, b_checked_steps, p_row_l, h3, h4, h5]
    rw [e]
    simp
  · rw [rsv_cell (d := .lst (l.map Stp.d)) (Nat.lt_irrefl _) (get_0 _ _ _)]
    exact rsv_ok (okCL_steps l)
theorem p_checked_c {l : List Stp} {c : Nat} (h : Rows l) (hc : Has st c (.lst (l.map Stp.d))) : f_checked_steps C [.cell c] st = .ok (.lst (l.map Stp.d), st) := by
  obtain ⟨kvs, x3, x4, e⟩ := steps_loop (C := C) (st := st.set c (.lck (.lst (l.map Stp.d)))) (a0 := some (.cell c)) h
  rw [List.length_set] at e
  have h1 := ne_len h.ne
  have h2 := h.len
  have h3 : (1 : Int) ≤ (l.length : Int) := by omega
  have h4 : (l.length : Int) ≤ 80 := by omega
  have h5 : l.length ≤ 1000000 := by omega
  refine cut_rsv (d := .cell st.length) (j := [.lst (l.map Stp.d), .dic kvs]) ?_ ?_
  · simp [k_checked_steps, b_checked_steps, p_row_c hc.get, hc.get, hc.app, hc.set, h3, h4, h5]
    rw [e]
    simp [(hc.at _).set, hc.back]
  · rw [rsv_cell (d := .lst (l.map Stp.d)) (Nat.lt_irrefl _) (get_0 _ _ _)]
    exact rsv_ok (okCL_steps l)
end Lm

set_option maxHeartbeats 400000
namespace Lm
open PySem L2 Mir
variable {C : Cl} {st : Sto}
/-! ## lists of texts, dicts of texts -/
abbrev sDs (l : List Str) : List D := l.map D.str
theorem sDs_scal : ∀ l : List Str, (sDs l).all isScal = true
  | [] => rfl
  | x :: l => by simp only [sDs, List.map_cons, List.all_cons]; exact Bool.and_eq_true_iff.mpr ⟨rfl, sDs_scal l⟩
theorem any_sDs {w : Str} : ∀ {l : List Str}, ((sDs l).any fun y => eqS y (.str w)) = decide (w ∈ l)
  | [] => rfl
  | x :: l => by
    have := any_sDs (w := w) (l := l)
    simp only [sDs, List.map_cons, List.any_cons] at this ⊢
    rw [this]
    have e : eqS (.str x) (.str w) = decide (x = w) := by simp only [eqS]; rw [Bool.eq_iff_iff]; simp
    rw [e]
    by_cases h : x = w
    · subst h; simp
    · have h' : ¬ w = x := fun z => h z.symm
      simp [h, h']
theorem in_sDs {w : Str} {l : List Str} : hasIn (.str w) (.lst (sDs l)) = some (decide (w ∈ l)) := by
  have h : (isScal (.str w) && (sDs l).all isScal) = true := by rw [sDs_scal]; rfl
  simp only [hasIn, inOk, inD, h, Bool.true_or, if_true, any_sDs]
abbrev fDic (fs : List (Str × Str)) : List (Key × D) := fs.map fun p => (.inr p.1, .str p.2)
theorem fDic_val {fs : List (Str × Str)} {w : Str} : valD (fDic fs) (.inr w) = ((fs.find? fun p => decide (p.1 = w)).map fun p => .str p.2) := by
  induction fs with
  | nil => rfl
  | cons p fs ih =>
    unfold valD at ih ⊢
    simp only [fDic, List.map_cons, List.find?_cons] at ih ⊢
    by_cases h : p.1 = w
    · simp [h]
    · have : ¬ ((.inr p.1 : Key) = .inr w) := fun e => h (by cases e; rfl)
      simp only [decide_eq_false h, decide_eq_false this]
      exact ih
def look (fs : List (Str × Str)) (w : Str) : Str := ((fs.find? fun p => decide (p.1 = w)).map (·.2)).getD Str.empty
theorem fDic_has {fs : List (Str × Str)} {w : Str} : (valD (fDic fs) (.inr w)).isSome = decide (w ∈ fs.map (·.1)) := by
  rw [fDic_val, Option.isSome_map, Bool.eq_iff_iff, List.find?_isSome]
  simp only [decide_eq_true_eq, List.mem_map]
theorem fDic_look {fs : List (Str × Str)} {w : Str} (h : w ∈ fs.map (·.1)) : valD (fDic fs) (.inr w) = some (.str (look fs w)) := by
  have := fDic_has (fs := fs) (w := w)
  rw [decide_eq_true h] at this
  rw [fDic_val] at this ⊢
  unfold look
  cases e : fs.find? (fun p => decide (p.1 = w)) with
  | none => rw [e] at this; cases this
  | some p => rfl
theorem keyD_of (k : Key) : keyD (ofKey k) = some k := by cases k <;> rfl
theorem foldA_dic : ∀ (ps acc : List (Key × D)), ((acc ++ ps).map (·.1)).Nodup → (acc ++ ps).length < 1000000 → foldA appD (ps.map fun p => [ofKey p.1, p.2]) acc = some (acc ++ ps)
  | [], acc, _, _ => by simp [foldA]
  | p :: ps, acc, hn, hl => by
    have e : acc ++ p :: ps = (acc ++ [p]) ++ ps := by simp
    have hk : p.1 ∉ acc.map (·.1) := fun z => by
      rw [List.map_append, List.map_cons, List.nodup_append] at hn
      exact hn.2.2 _ z _ List.mem_cons_self rfl
    have hlen : acc.length < 1000000 := by rw [List.length_append] at hl; omega
    rw [List.map_cons]
    unfold foldA
    simp only [appD, hlen, if_true, keyD_of, Option.map_some, Option.bind_some, put_new hk]
    rw [foldA_dic ps (acc ++ [(p.1, p.2)]) (by rw [← e]; exact hn) (by rw [← e]; exact hl), ← e]
/-! ## checked_faults -/
structure Flts (fs : List (Str × Str)) (ws : List Str) : Prop where
  okw : ∀ p ∈ fs, okNm p.1 = true
  okn : ∀ p ∈ fs, okNm p.2 = true
  sub : ∀ p ∈ fs, p.1 ∈ ws
  nd : (fs.map (·.1)).Nodup
  wnd : ws.Nodup
  len : ws.length ≤ 1000
  few : ∀ ns : List Str, ns.Nodup → (∀ n ∈ ns, n ∈ fs.map (·.2)) → ns.length ≤ 3
def addNew (ns : List Str) (n : Str) : List Str := if n ∈ ns then ns else ns ++ [n]
theorem faults_turn {a0 a1 : Option D} {w n : Str} {ws ns : List Str} (hw : okNm w = true) (hn : okNm n = true) (hm : w ∈ ws) (hl : (addNew ns n).length ≤ 3) (h1 : a1 = some (.lst (sDs ws))) :
    l_checked_faults_1 C ⟨[a0, a1, some (.cell st.length), some (.str w), some (.str n)], st ++ [.lst (sDs ns)]⟩ = .ok (.nx ⟨[a0, a1, some (.cell st.length), some (.str w), some (.str n)], st ++ [.lst (sDs (addNew ns n))]⟩) := by
  subst h1
  have i1 : hasIn (.str w) (.lst (sDs ws)) = some true := by rw [in_sDs, decide_eq_true hm]
  have p1 : ∀ st', f_is_name C [.str w] st' = .ok (.bl true, st') := fun st' => by
    have : isNm (.str w) = true := hw
    rw [p_name (plain_nm hw), this]
  have p2 : ∀ st', f_is_name C [.str n] st' = .ok (.bl true, st') := fun st' => by
    have : isNm (.str n) = true := hn
    rw [p_name (plain_nm hn), this]
  by_cases h : n ∈ ns
  · have i2 : hasIn (.str n) (.lst (sDs ns)) = some true := by rw [in_sDs, decide_eq_true h]
    unfold addNew at hl ⊢
    rw [if_pos h] at hl ⊢
    have l1 : ns.length ≤ 1000000 := by omega
    have l2 : ¬ (3 : Int) < (ns.length : Int) := by omega
    simp [l_checked_faults_1, p1, p2, i1, i2, l1, l2]
  · have i2 : hasIn (.str n) (.lst (sDs ns)) = some false := by rw [in_sDs, decide_eq_false h]
    unfold addNew at hl ⊢
    rw [if_neg h] at hl ⊢
    rw [List.length_append, List.length_singleton] at hl
    have l0 : ns.length < 1000000 := by omega
    have l1 : ns.length + 1 ≤ 1000000 := by omega
    have l2 : ¬ (3 : Int) < (ns.length : Int) + 1 := by omega
    simp [l_checked_faults_1, p1, p2, i1, i2, l0, l1, l2]
theorem pair_items {fs : List (Str × Str)} {x : D} (h : x ∈ (fDic fs).map kvPair) : ∃ p ∈ fs, x = .tup [.str p.1, .str p.2] := by
  obtain ⟨kv, h1, rfl⟩ := List.mem_map.mp h
  obtain ⟨p, h2, rfl⟩ := List.mem_map.mp h1
  exact ⟨p, h2, rfl⟩
theorem addNew_nd {ns : List Str} {n : Str} (h : ns.Nodup) : (addNew ns n).Nodup := by
  unfold addNew
  split
  · exact h
  · rename_i q
    rw [List.nodup_append]
    exact ⟨h, by simp, fun a ha b hb => by simp at hb; subst hb; exact fun e => q (e ▸ ha)⟩
theorem addNew_mem {ns : List Str} {n m : Str} : m ∈ addNew ns n ↔ m ∈ ns ∨ m = n := by
  unfold addNew
  split
  · rename_i q
    exact ⟨.inl, fun h => h.elim id fun e => e ▸ q⟩
  · simp
def FltsInv (st : Sto) (a0 a1 : Option D) (fs : List (Str × Str)) (ns : List Str) (r : RE) : Prop := ns.Nodup ∧ (∀ n ∈ ns, n ∈ fs.map (·.2)) ∧ ∃ x3 x4, r = ⟨[a0, a1, some (.cell st.length), x3, x4], st ++ [.lst (sDs ns)]⟩
theorem faults_loop {a0 : Option D} {fs : List (Str × Str)} {ws : List Str} (h : Flts fs ws) : ∃ ns x3 x4, mLoop (stUnp 2 (stCons (stName 3) (stCons (stName 4) stNil))) (l_checked_faults_1 C) ((fDic fs).map kvPair) ⟨[a0, some (.lst (sDs ws)), some (.cell st.length), none, none], st ++ [.lst []]⟩ =
    .ok (.nx ⟨[a0, some (.lst (sDs ws)), some (.cell st.length), x3, x4], st ++ [.lst (sDs ns)]⟩) := by
  have turn : ∀ (ns : List Str) (x : D) (r : RE), x ∈ (fDic fs).map kvPair → FltsInv st a0 (some (.lst (sDs ws))) fs ns r → ∃ r1 r2, stUnp 2 (stCons (stName 3) (stCons (stName 4) stNil)) x r = some r1 ∧ (l_checked_faults_1 C r1 = .ok (.nx r2) ∨ l_checked_faults_1 C r1 = .ok (.ct r2)) ∧ FltsInv st a0 (some (.lst (sDs ws))) fs ((fun ns x => match x with | .tup [_, .str n] => addNew ns n | _ => ns) ns x) r2 := by
    rintro ns x r hx ⟨nd, hm, x3, x4, rfl⟩
    obtain ⟨p, hp, rfl⟩ := pair_items hx
    have nd' := addNew_nd (n := p.2) nd
    have hm' : ∀ n ∈ addNew ns p.2, n ∈ fs.map (·.2) := fun n hn => (addNew_mem.mp hn).elim (hm n) fun e => e ▸ List.mem_map.mpr ⟨p, hp, rfl⟩
    have t := faults_turn (C := C) (st := st) (a0 := a0) (w := p.1) (n := p.2) (ws := ws) (ns := ns) (h.okw p hp) (h.okn p hp) (h.sub p hp) (h.few _ nd' hm') rfl
    exact ⟨_, _, st_pair, .inl t, nd', hm', _, _, rfl⟩
  obtain ⟨r', h1, _, _, x3, x4, e⟩ := loop_fold (FltsInv st a0 (some (.lst (sDs ws))) fs) (fun ns x => match x with | .tup [_, .str n] => addNew ns n | _ => ns) turn (a := []) (r := ⟨[a0, some (.lst (sDs ws)), some (.cell st.length), none, none], st ++ [.lst []]⟩) ⟨by simp, (fun n hn => by simp at hn), none, none, rfl⟩
  subst e
  exact ⟨_, x3, x4, h1⟩
/-- what a machine keeps of its faults -/
def keepF (fs : List (Str × Str)) (ws : List Str) : List (Str × Str) := (ws.filter fun w => decide (w ∈ fs.map (·.1))).map fun w => (w, look fs w)
theorem faults_comp {fs : List (Str × Str)} {ws : List Str} {s0 : List (Option D)} {a0 : D} (h : Flts fs ws) (hs : s0 = [some a0, some (.lst (sDs ws)), some (.cell st.length), none, s0.getD 4 none]) (hd : ∀ l, dr (st ++ l) a0 = some (.dic (fDic fs))) {l : Sto} :
    mCompG s0 (stName 3) (l_checked_faults_2 C) (l_checked_faults_3 C) appD (sDs ws) (st ++ l) [] = .ok (fDic (keepF fs ws), st ++ l) := by
  rw [hs]
  refine compG_map (fun d => match d with | .str w => decide (w ∈ fs.map (·.1)) | _ => false) (fun d => match d with | .str w => [.str w, .str (look fs w)] | _ => []) (sDs ws) [] _ (fun x hx => ?_) ?_
  · obtain ⟨w, hw, rfl⟩ := List.mem_map.mp hx
    have hv := fDic_has (fs := fs) (w := w)
    refine ⟨_, ⟨[some a0, some (.lst (sDs ws)), some (.cell st.length), some (.str w), s0.getD 4 none], st ++ l⟩, rfl, ?_, rfl, fun hp => ⟨⟨[some a0, some (.lst (sDs ws)), some (.cell st.length), some (.str w), s0.getD 4 none], st ++ l⟩, ?_, rfl⟩⟩
    · have hd' := hd l
      simp [-dr, l_checked_faults_2, hd', hasIn, hv]
    · have hd' := hd l
      have hm : w ∈ fs.map (·.1) := of_decide_eq_true hp
      have hg := fDic_look hm
      simp [-dr, l_checked_faults_3, hd', getA, hg]
  · have e : ((sDs ws).filter fun d => match d with | .str w => decide (w ∈ fs.map (·.1)) | _ => false).map (fun d => match d with | .str w => [.str w, .str (look fs w)] | _ => []) = (fDic (keepF fs ws)).map fun p => [ofKey p.1, p.2] := by
      unfold keepF
      simp only [sDs, fDic, List.filter_map, List.map_map]
      rfl
    rw [e]
    refine (foldA_dic _ [] ?_ ?_).trans (by simp)
    · have e2 : (([] : List (Key × D)) ++ fDic (keepF fs ws)).map (·.1) = (ws.filter fun w => decide (w ∈ fs.map (·.1))).map fun w => (.inr w : Key) := by
        unfold keepF
        simp only [fDic, List.nil_append, List.map_map]
        rfl
      rw [e2]
      exact nodup_map (fun a b e => by cases e; rfl) (h.wnd.filter _)
    · have := h.len
      have h2 := List.length_filter_le (fun w => decide (w ∈ fs.map (·.1))) ws
      simp only [keepF, fDic, List.nil_append, List.length_map]
      omega
theorem okC_fDic {n : Nat} : ∀ fs : List (Str × Str), okCK n (fDic fs) = true
  | [] => rfl
  | p :: fs => by simp only [fDic, List.map_cons, okCK, okC]; exact Bool.and_eq_true_iff.mpr ⟨rfl, okC_fDic fs⟩
theorem p_faults_d {fs : List (Str × Str)} {ws : List Str} (h : Flts fs ws) : f_checked_faults C [.dic (fDic fs), .lst (sDs ws)] st = .ok (.dic (fDic (keepF fs ws)), st) := by
  obtain ⟨ns, x3, x4, e⟩ := faults_loop (C := C) (st := st) (a0 := some (.dic (fDic fs))) h
  refine cut_pure (j := [.lst (sDs ns)]) ?_ (okC_fDic _)
  have c := faults_comp (C := C) (st := st) (fs := fs) (ws := ws) (a0 := .dic (fDic fs)) (s0 := [some (.dic (fDic fs)), some (.lst (sDs ws)), some (.cell st.length), none, x4]) h rfl (fun _ => rfl) (l := [.lst (sDs ns)])
  simp [-List.map_map, k_checked_faults, b_checked_faults]
  rw [e]
  simp [c]
theorem p_faults_c {fs : List (Str × Str)} {ws : List Str} {k : Nat} (h : Flts fs ws) (hk : Has st k (.dic (fDic fs))) : f_checked_faults C [.cell k, .lst (sDs ws)] st = .ok (.dic (fDic (keepF fs ws)), st) := by
  obtain ⟨ns, x3, x4, e⟩ := faults_loop (C := C) (st := st.set k (.lck (.dic (fDic fs)))) (a0 := some (.cell k)) h
  rw [List.length_set] at e
  refine cut_pure (j := [.lst (sDs ns)]) ?_ (okC_fDic _)
  have c := faults_comp (C := C) (st := st) (fs := fs) (ws := ws) (a0 := .cell k) (s0 := [some (.cell k), some (.lst (sDs ws)), some (.cell st.length), none, x4]) h rfl (fun l => dr_cell (hk.app l) fun e => by simp) (l := [.lst (sDs ns)])
  simp [-List.map_map, k_checked_faults, b_checked_faults, hk.get, hk.app, hk.set]
  rw [e]
  simp [(hk.at _).set, hk.back, c]
theorem p_faults_n {ws : D} : f_checked_faults C [.non, ws] st = .ok (.dic [], st) := cut_pure0 (by simp [k_checked_faults, b_checked_faults]) rfl
end Lm

set_option maxHeartbeats 1000000
namespace Lm
open PySem L2 Mir
variable {C : Cl} {st : Sto}
/-! ## the laws' numbers -/
def mix1 (c k : Int) : Int := (c + 7919 * k + 1) * 48271 % 2147483647
def mix2 (n : Int) : Int := n * (n / 1009 + 69621) % 2147483647
def mix3 (n : Int) : Int := n * (n / 2003 + 40692) % 2147483399
def mixI (c k : Int) : Int := mix3 (mix2 (mix1 c k))
theorem p_mix (c k : Int) : f_law_mix C [.int c, .int k] st = .ok (.int (mixI c k), st) := by
  refine cut_pure0 ?_ rfl
  have a1 : 0 ≤ mix1 c k ∧ mix1 c k < 2147483647 := ⟨Int.emod_nonneg _ (by decide), Int.emod_lt_of_pos _ (by decide)⟩
  have a2 : 0 ≤ mix2 (mix1 c k) ∧ mix2 (mix1 c k) < 2147483647 := ⟨Int.emod_nonneg _ (by decide), Int.emod_lt_of_pos _ (by decide)⟩
  have b1 : -10000000000000000000 < mix1 c k := by omega
  have b2 : mix1 c k < 10000000000000000000 := by omega
  have b3 : -10000000000000000000 < mix2 (mix1 c k) := by omega
  have b4 : mix2 (mix1 c k) < 10000000000000000000 := by omega
  unfold mixI mix3
  have e1 : (c + 7919 * k + 1) * 48271 % 2147483647 = mix1 c k := rfl
  have e2 : mix1 c k * (mix1 c k / 1009 + 69621) % 2147483647 = mix2 (mix1 c k) := rfl
  simp [k_law_mix, b_law_mix, e1, b1, b2, e2, b3, b4]
theorem p_cell (ns : List Int) (k : Nat) : ∃ i, ∀ st, f_law_cell C [.frl (ns.map D.int), .int k] st = .ok (.int i, st) := by
  by_cases h : k < ns.length
  · have h' : (k : Int) < (ns.length : Int) := by omega
    obtain ⟨x, h1, h2⟩ := atI_in (xs := ns.map D.int) (i := (k : Int)) (by omega) (by rw [List.length_map]; exact h')
    rw [List.getElem?_map] at h2
    have h3 : ns[(k : Int).toNat]? = some ns[k] := by rw [Int.toNat_natCast]; exact List.getElem?_eq_getElem h
    rw [h3] at h2
    cases h2
    exact ⟨ns[k], fun st => cut_pure0 (by simp [k_law_cell, b_law_cell, h', h1]) rfl⟩
  · have h' : ¬ (k : Int) < (ns.length : Int) := by omega
    by_cases h0 : ns = []
    · subst h0
      have h2 : ¬ (k : Int) < 0 := by omega
      exact ⟨k, fun st => cut_pure0 (by simp [k_law_cell, b_law_cell, h2, eqOk, eqD, scalD]) rfl⟩
    · have hl : 0 < ns.length := List.length_pos_iff.mpr h0
      have hl0 : ¬ ns.length = 0 := by omega
      have m1 : 0 ≤ (k : Int) % (ns.length : Int) := Int.emod_nonneg _ (by omega)
      have m2 : (k : Int) % (ns.length : Int) < (ns.length : Int) := Int.emod_lt_of_pos _ (by omega)
      obtain ⟨x, h1, h2⟩ := atI_in (xs := ns.map D.int) m1 (by rw [List.length_map]; exact m2)
      obtain ⟨y, _, rfl⟩ : ∃ y, y ∈ ns ∧ D.int y = x := List.mem_map.mp (List.mem_of_getElem? h2)
      have hl' : (0 : Int) < (ns.length : Int) := by omega
      exact ⟨mixI y k, fun st => cut_pure0 (by simp [k_law_cell, b_law_cell, h', h0, hl0, hl, h1, p_mix, eqOk, eqD, scalD]) rfl⟩
abbrev jDs (l : List Int) : List D := l.map D.int
/-- row fits sizes -/
def Fit (row sizes : List Int) : Prop := row.length = sizes.length ∧ ∀ (k : Nat) (x s : Int), row[k]? = some x → sizes[k]? = some s → 0 ≤ x ∧ x < s
theorem row_turn {c rest s : Int} {sizes acc : List Int} {k : Nat} {a1 x4 : Option D} (hs : sizes[k]? = some s) (h0 : 0 < s) (h1 : s < 1073741824) (hl : acc.length < 1000) (ha : a1 = some (.lst (jDs sizes))) :
    ∃ x rest', 0 ≤ x ∧ x < s ∧ ∀ st, l_law_row_1 C ⟨[some (.int c), a1, some (.cell st.length), some (.int rest), some (.int (k : Nat))], st ++ [.lst (jDs acc)]⟩ = .ok (.nx ⟨[some (.int c), a1, some (.cell st.length), some (.int rest'), some (.int (k : Nat))], st ++ [.lst (jDs (acc ++ [x]))]⟩) := by
  subst ha
  have e : atI (jDs sizes) (k : Nat) = some (.int s) := atI_nat (by rw [List.getElem?_map, hs]; rfl)
  have hl' : acc.length < 1000000 := by omega
  by_cases hc : c ≥ 10 ^ 18
  · have hc' : (1000000000000000000 : Int) ≤ c := by simpa using hc
    refine ⟨rest % s, rest / s, Int.emod_nonneg _ (by omega), Int.emod_lt_of_pos _ h0, fun st => ?_⟩
    simp [l_law_row_1, e, h0, h1, hl', hc']
  · have hc' : ¬ (1000000000000000000 : Int) ≤ c := by simpa using hc
    refine ⟨mixI c k % s, rest, Int.emod_nonneg _ (by omega), Int.emod_lt_of_pos _ h0, fun st => ?_⟩
    simp [l_law_row_1, e, h0, h1, hl', hc', p_mix]
theorem range_drop {n k : Nat} (h : k < n) : (rangeD 0 n).drop k = .int (k : Nat) :: (rangeD 0 n).drop (k + 1) := by
  have hk : k < (rangeD 0 n).length := by rw [rangeD_len]; exact h
  rw [List.drop_eq_getElem_cons hk]
  have := rangeD_get (lo := 0) h
  rw [List.getElem?_eq_getElem hk] at this
  rw [Option.some.inj this, Int.zero_add]
theorem row_loop {c : Int} {sizes : List Int} (hp : ∀ s ∈ sizes, 0 < s ∧ s < 1073741824) (hn : sizes.length < 900) : ∀ (n k : Nat) (acc : List Int) (rest : Int), k + n = sizes.length → acc.length = k → ∃ more rest', more.length = n ∧ (∀ (j : Nat) (x s : Int), more[j]? = some x → sizes[k + j]? = some s → 0 ≤ x ∧ x < s) ∧
    ∀ st x4, ∃ y4, mLoop (stName 4) (l_law_row_1 C) ((rangeD 0 sizes.length).drop k) ⟨[some (.int c), some (.lst (jDs sizes)), some (.cell st.length), some (.int rest), x4], st ++ [.lst (jDs acc)]⟩ = .ok (.nx ⟨[some (.int c), some (.lst (jDs sizes)), some (.cell st.length), some (.int rest'), y4], st ++ [.lst (jDs (acc ++ more))]⟩)
  | 0, k, acc, rest, hk, ha => by
    refine ⟨[], rest, rfl, fun j x s h => by simp at h, fun st x4 => ⟨x4, ?_⟩⟩
    rw [List.drop_of_length_le (by rw [rangeD_len]; omega), List.append_nil]
    rfl
  | n + 1, k, acc, rest, hk, ha => by
    have hlt : k < sizes.length := by omega
    have hs : sizes[k]? = some sizes[k] := List.getElem?_eq_getElem hlt
    obtain ⟨h0, h1⟩ := hp sizes[k] (List.getElem_mem hlt)
    obtain ⟨x, rest1, x0, x1, t⟩ := row_turn (C := C) (c := c) (rest := rest) (acc := acc) (x4 := none) (a1 := some (.lst (jDs sizes))) hs h0 h1 (by omega) rfl
    obtain ⟨more, rest', m1, m2, e⟩ := row_loop hp hn n (k + 1) (acc ++ [x]) rest1 (by omega) (by simp [ha])
    refine ⟨x :: more, rest', by simp [m1], fun j y s hy hj => ?_, fun st x4 => ?_⟩
    · cases j with
      | zero =>
        simp at hy hj
        subst hy
        rw [hs] at hj
        cases hj
        exact ⟨x0, x1⟩
      | succ j =>
        exact m2 j y s (by simpa using hy) (by rw [show k + 1 + j = k + (j + 1) by omega]; exact hj)
    · obtain ⟨y4, e4⟩ := e st (some (.int (k : Nat)))
      refine ⟨y4, ?_⟩
      rw [range_drop hlt, loop_cons (st := stName 4) rfl (t st), e4, List.append_assoc]
      rfl
theorem okCL_j {n : Nat} : ∀ l : List Int, okCL n (jDs l) = true
  | [] => rfl
  | s :: l => by simp only [jDs, List.map_cons, okCL, okC]; exact Bool.and_eq_true_iff.mpr ⟨rfl, okCL_j l⟩
theorem p_row (c : Int) (sizes : List Int) (hp : ∀ s ∈ sizes, 0 < s ∧ s < 1073741824) (hn : sizes.length < 900) : ∃ row, Fit row sizes ∧ ∀ st, f_law_row C [.int c, .lst (jDs sizes)] st = .ok (.lst (jDs row), st) := by
  obtain ⟨row, rest', h1, h2, e⟩ := row_loop (C := C) (c := c) hp hn sizes.length 0 [] c (by omega) rfl
  refine ⟨row, ⟨h1, fun k x s hx hs => h2 k x s hx (by rw [Nat.zero_add]; exact hs)⟩, fun st => ?_⟩
  obtain ⟨y4, e4⟩ := e st none
  rw [List.drop_zero, List.nil_append] at e4
  have l1 : sizes.length ≤ 1000000 := by omega
  have l2 : (-1000000 : Int) ≤ (sizes.length : Int) := by omega
  have l3 : (sizes.length : Int) ≤ 1000000 := by omega
  refine cut_rsv (d := .cell st.length) (j := [.lst (jDs row)]) ?_ ?_
  · have e5 : mLoop (stName 4) (l_law_row_1 C) (rangeD 0 sizes.length) ⟨[some (.int c), some (.lst (jDs sizes)), some (.cell st.length), some (.int c), none], st ++ [.lst []]⟩ = _ := e4
    simp [k_law_row, b_law_row, l1, l2, l3]
    rw [e5]
    simp
  · rw [rsv_cell (d := .lst (jDs row)) (Nat.lt_irrefl _) (get_0 _ _ _)]
    exact rsv_ok (okCL_j row)
end Lm

set_option maxHeartbeats 1000000
namespace Lm
open PySem L2 Mir
variable {C : Cl} {st : Sto}
/-! ## _law_names -/
theorem lo_at {i : Int} (h0 : 0 ≤ i) (h1 : i < 13) : atI (Str.ofString "abcdefghijklm").cps.toList i = some (97 + i.toNat) := by
  have : ∀ k < 13, (Str.ofString "abcdefghijklm").cps.toList[k]? = some (97 + k) := by decide +kernel
  have e := atI_nat (this i.toNat (by omega))
  rw [show ((i.toNat : Nat) : Int) = i by omega] at e
  exact e
theorem hi_at {i : Int} (h0 : 0 ≤ i) (h1 : i < 13) : atI (Str.ofString "nopqrstuvwxyz").cps.toList i = some (110 + i.toNat) := by
  have : ∀ k < 13, (Str.ofString "nopqrstuvwxyz").cps.toList[k]? = some (110 + k) := by decide +kernel
  have e := atI_nat (this i.toNat (by omega))
  rw [show ((i.toNat : Nat) : Int) = i by omega] at e
  exact e
theorem letter_in {c : Nat} (h0 : 97 ≤ c) (h1 : c ≤ 122) : c ∈ letters.cps.toList := by
  have : ∀ k < 26, (97 + k) ∈ letters.cps.toList := by decide +kernel
  have := this (c - 97) (by omega)
  rwa [show 97 + (c - 97) = c by omega] at this
def chr (i : Int) : Str := ⟨#[97 + i.toNat]⟩
def textOf (ds : List Int) : Str := Str.join (Str.ofString "") (ds.map chr)
theorem cl_text (ds : List Int) : cl (textOf ds) = ds.map fun i => 97 + i.toNat := by
  unfold textOf
  rw [cl_join, List.map_map]
  induction ds with
  | nil => rfl
  | cons d ds ih => simp only [List.map_cons, List.flatten_cons, ih]; rfl
theorem text_len (ds : List Int) : (textOf ds).length = ds.length := by
  rw [← cl_len, cl_text, List.length_map]
theorem strsD_chr : ∀ ds : List Int, strsD (ds.map fun i => D.str (chr i)) = some (ds.map chr)
  | [] => rfl
  | d :: ds => by simp only [List.map_cons, strsD, strsD_chr ds, Option.map_some]
theorem sum_chr : ∀ ds : List Int, ((ds.map chr).map (·.length)).sum = ds.length
  | [] => rfl
  | d :: ds => by
    have := sum_chr ds
    simp only [List.map_cons, List.sum_cons, this, List.length_cons]
    show 1 + _ = _
    omega
theorem l0 : (Str.ofString "").length = 0 := by decide +kernel
theorem l13 : (Str.ofString "abcdefghijklm").length = 13 := by decide +kernel
theorem l13' : (Str.ofString "nopqrstuvwxyz").length = 13 := by decide +kernel
theorem text_comp {s0 : List (Option D)} {so : Sto} {ds : List Int} (h9 : 9 < s0.length) (hd : ∀ i ∈ ds, 0 ≤ i ∧ i < 13) (hl : ds.length ≤ 10) : mCompL s0 (stName 9) (l_law_names_1 C) (l_law_names_2 C) (jDs ds) so [] = .ok (ds.map fun i => D.str (chr i), so) := by
  have e : (ds.map fun i => D.str (chr i)) = (jDs ds).map fun d => match d with | .int i => D.str (chr i) | _ => .non := by
    rw [List.map_map]; rfl
  rw [e]
  refine comp_all _ (jDs ds) (fun x hx => ?_) (by rw [List.length_map]; omega)
  obtain ⟨i, hi, rfl⟩ := List.mem_map.mp hx
  obtain ⟨h0, h1⟩ := hd i hi
  have g : (s0.set 9 (some (.int i)))[9]? = some (some (.int i)) := List.getElem?_set_self h9
  refine ⟨⟨s0.set 9 (some (.int i)), so⟩, ⟨s0.set 9 (some (.int i)), so⟩, ⟨s0.set 9 (some (.int i)), so⟩, rfl, rfl, rfl, ?_, rfl⟩
  have a := lo_at h0 h1
  have z : (Str.ofString "abcdefghijklm").length ≤ 1000000 := by rw [l13]; omega
  simp [l_law_names_2, g, z, chr, a]
/-- a name: a text with one sign of n .. z in it -/
structure NameIs (x : Str) (c : Nat) : Prop where
  ok : okNm x = true
  hi : (cl x).filter (fun k => decide (110 ≤ k)) = [c]
def nameOf (ds : List Int) (a : Nat) (c : Nat) : Str := cutS (textOf ds) none (some (a : Int)) ++ (⟨#[c]⟩ : Str) ++ cutS (textOf ds) (some (a : Int)) none
theorem cl_name {ds : List Int} {a c : Nat} (h : a ≤ ds.length) : cl (nameOf ds a c) = ((ds.map fun i => 97 + i.toNat).take a) ++ c :: (ds.map fun i => 97 + i.toNat).drop a := by
  have h' : a ≤ (textOf ds).length := by rw [text_len]; exact h
  unfold nameOf
  rw [cl_app, cl_app, cl_take _ _ h', cl_drop _ _ h', cl_text, cl_one, List.append_assoc]
  rfl
theorem name_is {ds : List Int} {a c : Nat} (h : a ≤ ds.length) (hl : ds.length ≤ 10) (hd : ∀ i ∈ ds, 0 ≤ i ∧ i < 13) (h0 : 110 ≤ c) (h1 : c ≤ 122) : NameIs (nameOf ds a c) c := by
  have e := cl_name (c := c) h
  have small : ∀ k ∈ ds.map (fun i => 97 + i.toNat), 97 ≤ k ∧ k < 110 := fun k hk => by
    obtain ⟨i, hi, rfl⟩ := List.mem_map.mp hk
    have := hd i hi
    omega
  constructor
  · unfold okNm okLen allLet
    have hlen : (nameOf ds a c).length = ds.length + 1 := by
      rw [← cl_len, e]
      simp
      omega
    rw [hlen, Bool.and_eq_true, Bool.and_eq_true]
    refine ⟨⟨decide_eq_true (by omega), decide_eq_true (by omega)⟩, ?_⟩
    rw [show (nameOf ds a c).cps.toList = _ from e, List.all_eq_true]
    intro k hk
    refine decide_eq_true ?_
    rcases List.mem_append.mp hk with z | z
    · have := small k (List.mem_of_mem_take z)
      exact letter_in (by omega) (by omega)
    · rcases List.mem_cons.mp z with z | z
      · subst z; exact letter_in (by omega) h1
      · have := small k (List.mem_of_mem_drop z)
        exact letter_in (by omega) (by omega)
  · rw [e, List.filter_append, List.filter_cons_of_pos (by simpa using h0)]
    have z1 : ((ds.map fun i => 97 + i.toNat).take a).filter (fun k => decide (110 ≤ k)) = [] := by
      rw [List.filter_eq_nil_iff]
      intro k hk
      have := small k (List.mem_of_mem_take hk)
      simp; omega
    have z2 : ((ds.map fun i => 97 + i.toNat).drop a).filter (fun k => decide (110 ≤ k)) = [] := by
      rw [List.filter_eq_nil_iff]
      intro k hk
      have := small k (List.mem_of_mem_drop hk)
      simp; omega
    rw [z1, z2]
    rfl
end Lm

set_option maxHeartbeats 400000
namespace Lm
open PySem L2 Mir
variable {C : Cl} {st : Sto}
/-- the six numbers of a name -/
structure Own (own : List Int) (o : Int) (ds : List Int) : Prop where
  eq : own = o :: ds
  o0 : 0 ≤ o
  o1 : o < 6
  len : ds.length = 5
  sm : ∀ i ∈ ds, 0 ≤ i ∧ i < 13
theorem names_mid {row : List Int} {own ds : List Int} {o r0 r1 r2 : Int} {rest : List Int} {k : Nat} {nms : List Str} (hr : row = r0 :: r1 :: r2 :: rest) (ho : Own own o ds) (h0 : 0 ≤ r0) (h2 : 0 ≤ r2) (hk : k < 1000) (hn : nms.length < 1000) :
    ∃ nm y6 y7 y8, NameIs nm (110 + ((r0 + 5 * k) % 13).toNat) ∧ ∀ (st : Sto) (x0 x1 x6 x7 x8 x9 : Option D), (mSeq (mSet 6 (mOp1 (dJoin (Str.ofString "")) (mComp [9] (mItem asQ (mCut dCut (mVar 5) (mPart (mC (.int 1))) (mPart (mOp2 dAdd (mC (.int 1)) (mOp2 dIxA (mVar 5) (mC (.int 0))))))) (stName 9) (l_law_names_1 C) (l_law_names_2 C))))
        (mSeq (mSet 7 (mOp2 dMod (mArgs (d1 dInt) (mCons (mOp2 dIxA (mVar 2) (mC (.int 2))) mNil)) (mOp2 dAdd (mArgs (d1 dLenA) (mCons (mVar 6) mNil)) (mC (.int 1)))))
        (mSeq (mSet 8 (mOp2 dIxA (mC (.str (Str.ofString "nopqrstuvwxyz"))) (mOp2 dMod (mArgs (d1 dInt) (mCons (mOp2 dAdd (mOp2 dIxA (mVar 2) (mC (.int 0))) (mOp2 dMul (mC (.int 5)) (mVar 4))) mNil)) (mC (.int 13)))))
        (mDrop (mMut (mVar 3) "list" fAppend (mCons (mOp2 dAdd (mOp2 dAdd (mCut dCutS (mVar 6) mNoP (mPart (mVar 7))) (mVar 8)) (mCut dCutS (mVar 6) (mPart (mVar 7)) mNoP)) mNil))))))
      ⟨[x0, x1, some (.lst (jDs row)), some (.cell st.length), some (.int (k : Nat)), some (.lst (jDs own)), x6, x7, x8, x9], st ++ [.lst (sDs nms)]⟩ =
      .ok (.nx ⟨[x0, x1, some (.lst (jDs row)), some (.cell st.length), some (.int (k : Nat)), some (.lst (jDs own)), y6, y7, y8, x9], st ++ [.lst (sDs (nms ++ [nm]))]⟩) := by
  obtain ⟨rfl, o0, o1, len, sm⟩ := ho
  subst hr
  have hd : ∀ i ∈ ds.take o.toNat, 0 ≤ i ∧ i < 13 := fun i hi => sm i (List.mem_of_mem_take hi)
  have hl : (ds.take o.toNat).length = o.toNat := by rw [List.length_take]; omega
  have hcut : cutD (.int o :: jDs ds) (some 1) (some (1 + o)) = jDs (ds.take o.toNat) := by
    have := cutD_nat (xs := .int o :: jDs ds) (a := 1) (b := 1 + o.toNat) (by omega) (by simp; omega)
    rw [show ((1 + o.toNat : Nat) : Int) = 1 + o by omega] at this
    refine Eq.trans this ?_
    simp [List.map_take]
  generalize ds.take o.toNat = ts at hd hl hcut
  have ht : (textOf ts).length = o.toNat := by rw [text_len, hl]
  have z1 : (textOf ts).length ≤ 1000000 := by omega
  have hs := strsD_chr ts
  have hj := sum_chr ts
  have z2 : 0 < ((textOf ts).length : Int) + 1 := by omega
  have z3 : ((textOf ts).length : Int) + 1 < 1073741824 := by omega
  have m0 : 0 ≤ r2 % (((textOf ts).length : Int) + 1) := Int.emod_nonneg _ (by omega)
  have m1 : r2 % (((textOf ts).length : Int) + 1) < ((textOf ts).length : Int) + 1 := Int.emod_lt_of_pos _ z2
  obtain ⟨a, ha⟩ : ∃ a : Nat, r2 % (((textOf ts).length : Int) + 1) = (a : Int) := ⟨(r2 % (((textOf ts).length : Int) + 1)).toNat, by omega⟩
  have q0 : 0 ≤ (r0 + 5 * (k : Int)) % 13 := Int.emod_nonneg _ (by omega)
  have q1 : (r0 + 5 * (k : Int)) % 13 < 13 := Int.emod_lt_of_pos _ (by omega)
  have hc := hi_at q0 q1
  have z : (Str.ofString "nopqrstuvwxyz").length ≤ 1000000 := by rw [l13']; omega
  have hal : a ≤ ts.length := by rw [hl]; omega
  refine ⟨nameOf ts a (110 + ((r0 + 5 * k) % 13).toNat), some (.str (textOf ts)), some (.int a), some (.str ⟨#[110 + ((r0 + 5 * k) % 13).toNat]⟩), name_is hal (by omega) hd (by omega) (by omega), fun st x0 x1 x6 x7 x8 x9 => ?_⟩
  have hn' : nms.length < 1000000 := by omega
  have hj' : ((ts.map chr).map (·.length)).sum + (ts.map chr).length * (Str.ofString "").length ≤ 1000000 := by
    rw [hj, l0]; omega
  have tc := text_comp (C := C) (s0 := [x0, x1, some (.lst (.int r0 :: .int r1 :: .int r2 :: rest.map D.int)), some (.cell st.length), some (.int (k : Nat)), some (.lst (.int o :: ds.map D.int)), x6, x7, x8, none]) (so := st ++ [.lst (sDs nms)]) (by simp) hd (by omega)
  have j1 : dJoin (Str.ofString "") (.lst (ts.map fun i => D.str (chr i))) = .ok (.str (textOf ts)) := by
    simp only [dJoin, hs]
    rw [if_pos hj']
    rfl
  have c1 : dCutS (.str (textOf ts)) none (some (a : Int)) = .ok (.str (cutS (textOf ts) none (some (a : Int)))) := by simp [z1]
  have c2 : dCutS (.str (textOf ts)) (some (a : Int)) none = .ok (.str (cutS (textOf ts) (some (a : Int)) none)) := by simp [z1]
  have lt1 : (cutS (textOf ts) none (some (a : Int))).length ≤ 1000 := by
    rw [← cl_len, cl_take _ _ (by rw [text_len]; exact hal), List.length_take, cl_len]; omega
  have lt2 : (cutS (textOf ts) (some (a : Int)) none).length ≤ 1000 := by
    rw [← cl_len, cl_drop _ _ (by rw [text_len]; exact hal), List.length_drop, cl_len]; omega
  have k1 : (cutS (textOf ts) none (some (a : Int))).length + (⟨#[110 + ((r0 + 5 * (k : Int)) % 13).toNat]⟩ : Str).length ≤ 1000000 := by
    have : (⟨#[110 + ((r0 + 5 * (k : Int)) % 13).toNat]⟩ : Str).length = 1 := rfl
    omega
  have k2 : (cutS (textOf ts) none (some (a : Int)) ++ (⟨#[110 + ((r0 + 5 * (k : Int)) % 13).toNat]⟩ : Str)).length + (cutS (textOf ts) (some (a : Int)) none).length ≤ 1000000 := by
    have : (⟨#[110 + ((r0 + 5 * (k : Int)) % 13).toNat]⟩ : Str).length = 1 := rfl
    rw [len_app]
    omega
  simp [-dJoin, -dCutS, hcut, tc, j1, z1, z2, z3, ha, hc, z, c1, c2, k1, k2, hn', nameOf]
theorem seq_nx {a b : RE → Out Fl} {r r' : RE} (h : a r = .ok (.nx r')) : mSeq a b r = b r' := by simp [h]
theorem names_turn {row : List Int} {own0 own1 ds0 ds1 : List Int} {o0 o1 r0 r1 r2 : Int} {rest : List Int} {k : Nat} {nms : List Str} (hr : row = r0 :: r1 :: r2 :: rest) (e0 : (row.drop (3 + 6 * k)).take 6 = own0) (ho : Own own0 o0 ds0) (e1 : (row.drop 3).take 6 = own1) (ho1 : Own own1 o1 ds1) (hl : 9 + 6 * k ≤ row.length) (h0 : 0 ≤ r0) (h2 : 0 ≤ r2) (hk : k < 1000) (hn : nms.length < 1000) :
    ∃ nm y5 y6 y7 y8, NameIs nm (110 + ((r0 + 5 * k) % 13).toNat) ∧ ∀ (st : Sto) (x0 x1 x5 x6 x7 x8 x9 : Option D), l_law_names_3 C ⟨[x0, x1, some (.lst (jDs row)), some (.cell st.length), some (.int (k : Nat)), x5, x6, x7, x8, x9], st ++ [.lst (sDs nms)]⟩ =
      .ok (.nx ⟨[x0, x1, some (.lst (jDs row)), some (.cell st.length), some (.int (k : Nat)), y5, y6, y7, y8, x9], st ++ [.lst (sDs (nms ++ [nm]))]⟩) := by
  have c0 : cutD (jDs row) (some (3 + 6 * (k : Int))) (some (9 + 6 * (k : Int))) = jDs own0 := by
    have := cutD_nat (xs := jDs row) (a := 3 + 6 * k) (b := 9 + 6 * k) (by omega) (by rw [List.length_map]; exact hl)
    rw [show ((3 + 6 * k : Nat) : Int) = 3 + 6 * (k : Int) by omega, show ((9 + 6 * k : Nat) : Int) = 9 + 6 * (k : Int) by omega, show 9 + 6 * k - (3 + 6 * k) = 6 by omega] at this
    rw [this, ← e0]; simp [jDs]
  have c1 : cutD (jDs row) (some 3) (some 9) = jDs own1 := by
    have := cutD_nat (xs := jDs row) (a := 3) (b := 9) (by omega) (by rw [List.length_map]; omega)
    refine Eq.trans this ?_
    rw [← e1]; simp [jDs]
  have hr1 : atI (jDs row) 1 = some (.int r1) := by rw [hr]; exact atI_1 _ _ _
  by_cases h1 : r1 = 1
  · obtain ⟨nm, y6, y7, y8, hN, e⟩ := names_mid (C := C) (nms := nms) (k := k) hr ho1 h0 h2 hk hn
    refine ⟨nm, some (.lst (jDs own1)), y6, y7, y8, hN, fun st x0 x1 x5 x6 x7 x8 x9 => ?_⟩
    rw [l_law_names_3, seq_nx (r' := ⟨[x0, x1, some (.lst (jDs row)), some (.cell st.length), some (.int (k : Nat)), some (.lst (jDs own0)), x6, x7, x8, x9], st ++ [.lst (sDs nms)]⟩) (by simp [c0]),
      seq_nx (r' := ⟨[x0, x1, some (.lst (jDs row)), some (.cell st.length), some (.int (k : Nat)), some (.lst (jDs own1)), x6, x7, x8, x9], st ++ [.lst (sDs nms)]⟩) (by simp [c1, hr1, h1, eqOk, eqD, scalD])]
    exact e st x0 x1 x6 x7 x8 x9
  · obtain ⟨nm, y6, y7, y8, hN, e⟩ := names_mid (C := C) (nms := nms) (k := k) hr ho h0 h2 hk hn
    refine ⟨nm, some (.lst (jDs own0)), y6, y7, y8, hN, fun st x0 x1 x5 x6 x7 x8 x9 => ?_⟩
    rw [l_law_names_3, seq_nx (r' := ⟨[x0, x1, some (.lst (jDs row)), some (.cell st.length), some (.int (k : Nat)), some (.lst (jDs own0)), x6, x7, x8, x9], st ++ [.lst (sDs nms)]⟩) (by simp [c0]),
      seq_nx (r' := ⟨[x0, x1, some (.lst (jDs row)), some (.cell st.length), some (.int (k : Nat)), some (.lst (jDs own0)), x6, x7, x8, x9], st ++ [.lst (sDs nms)]⟩) (by simp [hr1, h1, eqOk, eqD, scalD])]
    exact e st x0 x1 x6 x7 x8 x9
/-- names that are told apart by their signs of n .. z -/
structure Names (nms : List Str) (many : Nat) : Prop where
  len : nms.length = many
  nd : nms.Nodup
  ok : ∀ x ∈ nms, okNm x = true
def sizesN (many : Nat) : List Int := [13, 2, 6] ++ (List.replicate many [6, 13, 13, 13, 13, 13]).flatten
theorem rep_len (many : Nat) : ((List.replicate many ([6, 13, 13, 13, 13, 13] : List Int)).flatten).length = 6 * many := by
  induction many with
  | zero => rfl
  | succ n ih => rw [List.replicate_succ, List.flatten_cons, List.length_append, ih]; simp; omega
theorem rep_at (many k j : Nat) (hk : k < many) (hj : j < 6) : ((List.replicate many ([6, 13, 13, 13, 13, 13] : List Int)).flatten)[6 * k + j]? = ([6, 13, 13, 13, 13, 13] : List Int)[j]? := by
  induction many generalizing k with
  | zero => omega
  | succ n ih =>
    rw [List.replicate_succ, List.flatten_cons]
    cases k with
    | zero => rw [List.getElem?_append_left (by simp; omega)]; simp
    | succ k =>
      rw [List.getElem?_append_right (by simp; omega)]
      have := ih k (by omega)
      rw [← this]
      congr 1
      simp
      omega
theorem own_of {row : List Int} {many k : Nat} (h : Fit row (sizesN many)) (hk : k < many) : ∃ own o ds, (row.drop (3 + 6 * k)).take 6 = own ∧ Own own o ds := by
  obtain ⟨hl, hf⟩ := h
  have hlen : (sizesN many).length = 3 + 6 * many := by simp only [sizesN, List.length_append, rep_len]; rfl
  have sat : ∀ j, j < 6 → (sizesN many)[3 + 6 * k + j]? = ([6, 13, 13, 13, 13, 13] : List Int)[j]? := fun j hj => by
    unfold sizesN
    rw [List.getElem?_append_right (by simp; omega)]
    rw [← rep_at many k j hk hj]
    congr 1
    simp
    omega
  have hin : ∀ j, j < 6 → ∃ x, row[3 + 6 * k + j]? = some x := fun j hj => ⟨_, List.getElem?_eq_getElem (by omega)⟩
  have g : ∀ (j : Nat) (x s : Int), j < 6 → row[3 + 6 * k + j]? = some x → ([6, 13, 13, 13, 13, 13] : List Int)[j]? = some s → 0 ≤ x ∧ x < s := fun j x s hj hx hs => hf _ _ _ hx (by rw [sat j hj]; exact hs)
  obtain ⟨a0, h0⟩ := hin 0 (by omega)
  obtain ⟨a1, h1⟩ := hin 1 (by omega)
  obtain ⟨a2, h2⟩ := hin 2 (by omega)
  obtain ⟨a3, h3⟩ := hin 3 (by omega)
  obtain ⟨a4, h4⟩ := hin 4 (by omega)
  obtain ⟨a5, h5⟩ := hin 5 (by omega)
  have e : (row.drop (3 + 6 * k)).take 6 = [a0, a1, a2, a3, a4, a5] := by
    refine List.ext_getElem? fun i => ?_
    rw [List.getElem?_take]
    by_cases hi : i < 6
    · rw [if_pos hi, List.getElem?_drop]
      match i, hi with
      | 0, _ => exact h0
      | 1, _ => exact h1
      | 2, _ => exact h2
      | 3, _ => exact h3
      | 4, _ => exact h4
      | 5, _ => exact h5
    · rw [if_neg hi, List.getElem?_eq_none (by simp; omega)]
  have b0 := g 0 a0 6 (by omega) h0 rfl
  have b1 := g 1 a1 13 (by omega) h1 rfl
  have b2 := g 2 a2 13 (by omega) h2 rfl
  have b3 := g 3 a3 13 (by omega) h3 rfl
  have b4 := g 4 a4 13 (by omega) h4 rfl
  have b5 := g 5 a5 13 (by omega) h5 rfl
  refine ⟨_, a0, [a1, a2, a3, a4, a5], e, rfl, b0.1, b0.2, rfl, fun i hi => ?_⟩
  simp only [List.mem_cons, List.not_mem_nil, or_false] at hi
  rcases hi with rfl | rfl | rfl | rfl | rfl <;> assumption
/-- what is known of the names behind k turns -/
structure NamesTo (r0 : Int) (nms : List Str) (k : Nat) : Prop where
  len : nms.length = k
  is : ∀ (j : Nat) (x : Str), nms[j]? = some x → NameIs x (110 + ((r0 + 5 * j) % 13).toNat)
theorem NamesTo.names {r0 : Int} {nms : List Str} {many : Nat} (h : NamesTo r0 nms many) (hm : many ≤ 13) : Names nms many where
  len := h.len
  ok := fun x hx => by
    obtain ⟨j, hj⟩ := List.getElem?_of_mem hx
    exact (h.is j x hj).ok
  nd := by
    refine List.pairwise_iff_getElem.mpr fun i j hi hj hij e => ?_
    have a := (h.is i _ (List.getElem?_eq_getElem hi)).hi
    have b := (h.is j _ (List.getElem?_eq_getElem hj)).hi
    rw [← e, a] at b
    have c : 110 + ((r0 + 5 * (i : Int)) % 13).toNat = 110 + ((r0 + 5 * (j : Int)) % 13).toNat := by simpa using b
    have hlen := h.len
    omega
theorem names_loop {row : List Int} {many : Nat} {x0 x1 : Option D} {r0 r1 r2 : Int} {rest : List Int} (hf : Fit row (sizesN many)) (hr : row = r0 :: r1 :: r2 :: rest) (h0 : 0 ≤ r0) (h2 : 0 ≤ r2) (hm : many < 900) : ∀ (n k : Nat) (acc : List Str), k + n = many → NamesTo r0 acc k → ∃ nms, NamesTo r0 nms many ∧
    ∀ st x4 x5 x6 x7 x8 x9, ∃ y4 y5 y6 y7 y8 y9, mLoop (stName 4) (l_law_names_3 C) ((rangeD 0 many).drop k) ⟨[x0, x1, some (.lst (jDs row)), some (.cell st.length), x4, x5, x6, x7, x8, x9], st ++ [.lst (sDs acc)]⟩ = .ok (.nx ⟨[x0, x1, some (.lst (jDs row)), some (.cell st.length), y4, y5, y6, y7, y8, y9], st ++ [.lst (sDs nms)]⟩)
  | 0, k, acc, hk, ha => by
    refine ⟨acc, ?_, fun st x4 x5 x6 x7 x8 x9 => ⟨x4, x5, x6, x7, x8, x9, ?_⟩⟩
    · rw [show many = k by omega]; exact ha
    · rw [List.drop_eq_nil_of_le (by rw [rangeD_len]; omega)]
      rfl
  | n + 1, k, acc, hk, ha => by
    have hlt : k < many := by omega
    obtain ⟨own0, o0, ds0, e0, ho0⟩ := own_of hf hlt
    obtain ⟨own1, o1, ds1, e1, ho1⟩ := own_of (k := 0) hf (by omega)
    have hlen : (sizesN many).length = 3 + 6 * many := by simp only [sizesN, List.length_append, rep_len]; rfl
    have hl : 9 + 6 * k ≤ row.length := by rw [hf.1, hlen]; omega
    obtain ⟨nm, z5, z6, z7, z8, hN, t⟩ := names_turn (C := C) (nms := acc) hr e0 ho0 e1 ho1 hl h0 h2 (by omega) (by have := ha.len; omega)
    have hacc : NamesTo r0 (acc ++ [nm]) (k + 1) := ⟨by simp [ha.len], fun j x hj => by
      by_cases h : j < acc.length
      · rw [List.getElem?_append_left h] at hj; exact ha.is j x hj
      · rw [List.getElem?_append_right (by omega)] at hj
        have e : j - acc.length = 0 := by
          have := (List.getElem?_eq_some_iff.mp hj).1
          simp at this; omega
        rw [e] at hj
        have hl := ha.len
        rw [show j = k by omega]
        simp at hj
        rw [← hj]
        exact hN⟩
    obtain ⟨nms, hnms, e⟩ := names_loop hf hr h0 h2 hm n (k + 1) (acc ++ [nm]) (by omega) hacc
    refine ⟨nms, hnms, fun st x4 x5 x6 x7 x8 x9 => ?_⟩
    obtain ⟨y4, y5, y6, y7, y8, y9, e⟩ := e st (some (.int (k : Nat))) z5 z6 z7 z8 x9
    refine ⟨y4, y5, y6, y7, y8, y9, ?_⟩
    rw [range_drop hlt, loop_cons (st := stName 4) rfl (t st x0 x1 x5 x6 x7 x8 x9), e]
theorem fit_three {row sizes : List Int} {a b c : Int} (h : Fit row (a :: b :: c :: sizes)) : ∃ r0 r1 r2 rest, row = r0 :: r1 :: r2 :: rest ∧ 0 ≤ r0 ∧ r0 < a ∧ 0 ≤ r1 ∧ r1 < b ∧ 0 ≤ r2 ∧ r2 < c := by
  obtain ⟨hl, hf⟩ := h
  match row, hl, hf with
  | r0 :: r1 :: r2 :: rest, hl, hf =>
    have h0 := hf 0 r0 a rfl rfl
    have h1 := hf 1 r1 b rfl rfl
    have h2 := hf 2 r2 c rfl rfl
    exact ⟨r0, r1, r2, rest, rfl, h0.1, h0.2, h1.1, h1.2, h2.1, h2.2⟩
theorem okCL_s {n : Nat} : ∀ l : List Str, okCL n (sDs l) = true
  | [] => rfl
  | s :: l => by simp only [sDs, List.map_cons, okCL, okC]; exact Bool.and_eq_true_iff.mpr ⟨rfl, okCL_s l⟩
end Lm

set_option maxHeartbeats 400000
namespace Lm
open PySem L2 Mir
variable {C : Cl} {st : Sto}
theorem p_names (c : Int) (many : Nat) (hm : many ≤ 13) : ∃ nms, Names nms many ∧ ∀ st, f_law_names C [.int c, .int many] st = .ok (.lst (sDs nms), st) := by
  obtain ⟨row, hf, er⟩ := p_row (C := C) c (sizesN many) (fun s hs => by
    unfold sizesN at hs
    simp only [List.cons_append, List.nil_append, List.mem_cons, List.mem_flatten, List.mem_replicate] at hs
    rcases hs with rfl | rfl | rfl | ⟨l, ⟨_, rfl⟩, hs⟩
    · omega
    · omega
    · omega
    · simp at hs; omega) (by simp only [sizesN, List.length_append, rep_len]; simp; omega)
  obtain ⟨r0, r1, r2, rest, hr, h0, _, _, _, h2, _⟩ := fit_three (sizes := (List.replicate many [6, 13, 13, 13, 13, 13]).flatten) hf
  obtain ⟨nms, hn, e⟩ := names_loop (C := C) (x0 := some (.int c)) (x1 := some (.int many)) hf hr h0 h2 (by omega) many 0 [] (by omega) ⟨rfl, fun j x hj => by simp at hj⟩
  refine ⟨nms, hn.names hm, fun st => ?_⟩
  refine cut_rsv (d := .cell st.length) (j := [.lst (sDs nms)]) ?_ ?_
  · obtain ⟨y4, y5, y6, y7, y8, y9, e⟩ := e st none none none none none none
    rw [List.drop_zero] at e
    have e : mLoop (stName 4) (l_law_names_3 C) (rangeD 0 many) ⟨[some (.int c), some (.int many), some (.lst (jDs row)), some (.cell st.length), none, none, none, none, none, none], st ++ [.lst []]⟩ = _ := e
    have l2 : (-1000000 : Int) ≤ (many : Int) := by omega
    have l3 : (many : Int) ≤ 1000000 := by omega
    have l6 : 6 * many ≤ 1000000 := by omega
    have eS : jDs (sizesN many) = .int 13 :: .int 2 :: .int 6 :: (List.replicate many [D.int 6, D.int 13, D.int 13, D.int 13, D.int 13, D.int 13]).flatten := by
      simp [sizesN, jDs, List.map_flatten]
    rw [eS] at er
    have ll : ((List.replicate many [D.int 6, D.int 13, D.int 13, D.int 13, D.int 13, D.int 13]).flatten).length = 6 * many := by
      have := congrArg List.length eS
      simp only [jDs, List.length_map, List.length_cons, sizesN, List.length_append, rep_len, List.length_nil] at this
      omega
    have em := dMul_l (a := [.int 6, .int 13, .int 13, .int 13, .int 13, .int 13]) (k := many) (by simp only [List.length_cons, List.length_nil]; omega) (by omega)
    have ea := dAdd_l (a := [.int 13, .int 2, .int 6]) (b := (List.replicate many [D.int 6, D.int 13, D.int 13, D.int 13, D.int 13, D.int 13]).flatten) (by rw [ll]; simp only [List.length_cons, List.length_nil]; omega)
    rw [List.cons_append, List.cons_append, List.cons_append, List.nil_append] at ea
    have h1 : mSet 2 (mCall (f_law_row C) [] (mCons (mVar 0) (mCons (mOp2 dAdd (mLst (mCons (mC (.int 13)) (mCons (mC (.int 2)) (mCons (mC (.int 6)) mNil)))) (mOp2 dMul (mLst (mCons (mC (.int 6)) (mCons (mC (.int 13)) (mCons (mC (.int 13)) (mCons (mC (.int 13)) (mCons (mC (.int 13)) (mCons (mC (.int 13)) mNil))))))) (mVar 1))) mNil))) ⟨[some (.int c), some (.int many), none, none, none, none, none, none, none, none], st⟩ = .ok (.nx ⟨[some (.int c), some (.int many), some (.lst (jDs row)), none, none, none, none, none, none, none], st⟩) := by
      have a0 := op2_ok (f := dMul) (a := mLst (mCons (mC (.int 6)) (mCons (mC (.int 13)) (mCons (mC (.int 13)) (mCons (mC (.int 13)) (mCons (mC (.int 13)) (mCons (mC (.int 13)) mNil))))))) (b := mVar 1) (r := ⟨[some (.int c), some (.int many), none, none, none, none, none, none, none, none], st⟩) rfl rfl rfl rfl em
      have a1 := op2_ok (f := dAdd) (a := mLst (mCons (mC (.int 13)) (mCons (mC (.int 2)) (mCons (mC (.int 6)) mNil)))) rfl a0 rfl rfl ea
      have a2 := cons_ok (m := mVar 0) (r := ⟨[some (.int c), some (.int many), none, none, none, none, none, none, none, none], st⟩) rfl (cons_ok a1 (rfl : mNil _ = _))
      exact set_ok (i := 2) (call_ok a2 (er st))
    have h2 : mSet 3 (mCell (mLst mNil)) ⟨[some (.int c), some (.int many), some (.lst (jDs row)), none, none, none, none, none, none, none], st⟩ = .ok (.nx ⟨[some (.int c), some (.int many), some (.lst (jDs row)), some (.cell st.length), none, none, none, none, none, none], st ++ [.lst []]⟩) := by
      simp
    have rg := rng1 (oa := mVar 1) (r := ⟨[some (.int c), some (.int many), some (.lst (jDs row)), some (.cell st.length), none, none, none, none, none, none], st ++ [.lst []]⟩) (n := many) rfl (by omega)
    have h3 : mFor (mRng1 (mVar 1)) (stName 4) (l_law_names_3 C) ⟨[some (.int c), some (.int many), some (.lst (jDs row)), some (.cell st.length), none, none, none, none, none, none], st ++ [.lst []]⟩ = .ok (.nx ⟨[some (.int c), some (.int many), some (.lst (jDs row)), some (.cell st.length), y4, y5, y6, y7, y8, y9], st ++ [.lst (sDs nms)]⟩) := by
      simp only [mFor, rg, bnd_ok]
      exact e
    have main : b_law_names C ⟨[some (.int c), some (.int many), none, none, none, none, none, none, none, none], st⟩ = .ok (.rt (.cell st.length) ⟨[some (.int c), some (.int many), some (.lst (jDs row)), some (.cell st.length), y4, y5, y6, y7, y8, y9], st ++ [.lst (sDs nms)]⟩) := by
      rw [b_law_names, seq_nx h1, seq_nx h2, seq_nx h3]
      rfl
    simp [k_law_names, main]
  · rw [rsv_cell (d := .lst (sDs nms)) (Nat.lt_irrefl _) (get_0 _ _ _)]
    exact rsv_ok (okCL_s nms)
end Lm

set_option maxHeartbeats 400000
namespace Lm
open PySem L2 Mir
variable {C : Cl} {st : Sto}
/-! ## _law_machine -/
theorem atI_ints {l : List Int} {i : Int} (h0 : 0 ≤ i) (h1 : i < l.length) : ∃ x, x ∈ l ∧ l[i.toNat]? = some x ∧ atI (jDs l) i = some (.int x) := by
  obtain ⟨x, hx⟩ : ∃ x, l[i.toNat]? = some x := ⟨_, List.getElem?_eq_getElem (by omega)⟩
  refine ⟨x, List.mem_of_getElem? hx, hx, ?_⟩
  have e := atI_nat (xs := jDs l) (j := i.toNat) (v := .int x) (by rw [List.getElem?_map, hx]; rfl)
  rwa [show ((i.toNat : Nat) : Int) = i by omega] at e
theorem atI_strs {l : List Str} {i : Int} (h0 : 0 ≤ i) (h1 : i < l.length) : ∃ x, x ∈ l ∧ l[i.toNat]? = some x ∧ atI (sDs l) i = some (.str x) := by
  obtain ⟨x, hx⟩ : ∃ x, l[i.toNat]? = some x := ⟨_, List.getElem?_eq_getElem (by omega)⟩
  refine ⟨x, List.mem_of_getElem? hx, hx, ?_⟩
  have e := atI_nat (xs := sDs l) (j := i.toNat) (v := .str x) (by rw [List.getElem?_map, hx]; rfl)
  rwa [show ((i.toNat : Nat) : Int) = i by omega] at e
/-- the frame of _law_machine -/
def mfr (c : D) (nms : List Str) (m e : D) (zs : List D) (row : List Int) (many stride : Int) (labels : List Int) (st : Sto) (acc : List Stp) (x10 x11 x12 x13 x14 x15 : Option D) : RE :=
  ⟨[some c, some (.lst (sDs nms)), some m, some e, some (.lst zs), some (.lst (jDs row)), some (.int many), some (.int stride), some (.lst (jDs labels)), some (.cell st.length), x10, x11, x12, x13, x14, x15], st ++ [.lst (acc.map Stp.d)]⟩
theorem m_turn1 {c m e : D} {nms : List Str} {zs : List D} {row labels : List Int} {many stride a b t x : Int} {w : Str} {k : Nat} {acc : List Stp} {x11 x12 x13 x14 x15 : Option D}
    (ha : atI (jDs row) (5 + 2 * (k : Int)) = some (.int a)) (hw : atI (sDs nms) (1 + a) = some (.str w)) (hx : atI (jDs labels) (k : Int) = some (.int x)) (hb : atI (jDs row) (6 + 2 * (k : Int)) = some (.int b)) (hm : 0 < many) (ht : atI (jDs labels) (b % many) = some (.int t)) (hl : acc.length < 1000000) :
    l_law_machine_3 C (mfr c nms m e zs row many stride labels st acc (some (.int (k : Nat))) x11 x12 x13 x14 x15) = .ok (.nx (mfr c nms m e zs row many stride labels st (acc ++ [⟨x, w, t⟩]) (some (.int (k : Nat))) x11 (some (.str w)) x13 x14 x15)) := by
  simp only [jDs, sDs] at *
  simp [l_law_machine_3, mfr, ha, hw, hx, hb, hm, ht, hl, Stp.d]
theorem m_turn2 {c m e : D} {nms : List Str} {zs : List D} {row labels : List Int} {many stride a b g t x : Int} {w : Str} {k : Nat} {acc : List Stp} {x11 x12 x13 x14 x15 : Option D}
    (ha : atI (jDs row) ((zs.length : Int) + 3 * (k : Int)) = some (.int a)) (hb : atI (jDs row) ((zs.length : Int) + 3 * (k : Int) + 1) = some (.int b)) (hg : atI (jDs row) ((zs.length : Int) + 3 * (k : Int) + 2) = some (.int g))
    (hn : 0 < nms.length) (hw : atI (sDs nms) (b % (nms.length : Int)) = some (.str w)) (hm : 0 < many) (hx : atI (jDs labels) (a % many) = some (.int x)) (ht : atI (jDs labels) (g % many) = some (.int t)) (hl : acc.length < 1000000)
    (hs : Stp.ok ⟨x, w, t⟩ = true) (hg2 : Good acc) :
    l_law_machine_4 C (mfr c nms m e zs row many stride labels st acc (some (.int (k : Nat))) x11 x12 x13 x14 x15) = .ok (.nx (mfr c nms m e zs row many stride labels st (if (⟨x, w, t⟩ : Stp) ∈ acc then acc else acc ++ [⟨x, w, t⟩]) (some (.int (k : Nat))) x11 (some (.str w)) (some (.int ((zs.length : Int) + 3 * (k : Int)))) (some (Stp.d ⟨x, w, t⟩)) x15)) := by
  have hi := in_steps hs hg2
  simp only [Stp.d] at hi
  simp only [jDs, sDs] at *
  by_cases h : (⟨x, w, t⟩ : Stp) ∈ acc
  · simp [l_law_machine_4, mfr, ha, hb, hg, hn, hw, hx, hm, ht, hi, h, Stp.d]
  · simp [l_law_machine_4, mfr, ha, hb, hg, hn, hw, hx, hm, ht, hi, h, hl, Stp.d]
end Lm

set_option maxHeartbeats 400000
namespace Lm
open PySem L2 Mir
variable {C : Cl} {st : Sto}
/-- what the row gives -/
structure RowOk (row : List Int) (n m e : Nat) (many ex : Nat) : Prop where
  m1 : 1 ≤ many
  mm : many ≤ m
  exe : ex ≤ e
  r0 : row[0]? = some ((many : Int) - 1)
  r1 : row[1]? = some (ex : Int)
  one : ∀ k, k < m → ∃ a b : Int, row[5 + 2 * k]? = some a ∧ row[6 + 2 * k]? = some b ∧ 0 ≤ a ∧ a < (n : Int) - 1 ∧ 0 ≤ b
  two : ∀ k, k < e → ∃ a b c : Int, row[5 + 2 * m + 3 * k]? = some a ∧ row[5 + 2 * m + 3 * k + 1]? = some b ∧ row[5 + 2 * m + 3 * k + 2]? = some c ∧ 0 ≤ a ∧ 0 ≤ b ∧ 0 ≤ c
theorem atI_row {row : List Int} {j : Nat} {i a : Int} (h : row[j]? = some a) (e : i = (j : Int)) : atI (jDs row) i = some (.int a) := by
  subst e
  exact atI_nat (by rw [List.getElem?_map, h]; rfl)
/-- behind k turns of the first loop -/
structure Acc1 (labels : List Int) (nms : List Str) (acc : List Stp) (k : Nat) : Prop where
  src : acc.map (·.a) = labels.take k
  w : ∀ s ∈ acc, s.w ∈ nms
  b : ∀ s ∈ acc, s.b ∈ labels
theorem m_loop1 {c m' e' : D} {zs : List D} {nms : List Str} {row labels : List Int} {m e many ex : Nat} {stride : Int} {x11 x13 x14 x15 : Option D} (hr : RowOk row nms.length m e many ex) (hl : labels.length = many) (hmm : many ≤ 1000) :
    ∀ (j k : Nat) (acc : List Stp) (x10 x12 : Option D), k + j = many → Acc1 labels nms acc k → ∃ acc' y10 y12, Acc1 labels nms acc' many ∧
      mLoop (stName 10) (l_law_machine_3 C) ((rangeD 0 many).drop k) (mfr c nms m' e' zs row many stride labels st acc x10 x11 x12 x13 x14 x15) = .ok (.nx (mfr c nms m' e' zs row many stride labels st acc' y10 x11 y12 x13 x14 x15))
  | 0, k, acc, x10, x12, hk, ha => by
    refine ⟨acc, x10, x12, ?_, ?_⟩
    · rw [show many = k by omega]; exact ha
    · rw [List.drop_eq_nil_of_le (by rw [rangeD_len]; omega)]
      rfl
  | j + 1, k, acc, x10, x12, hk, ha => by
    have hlt : k < many := by omega
    obtain ⟨a, b, h5, h6, a0, a1, b0⟩ := hr.one k (by have := hr.mm; omega)
    obtain ⟨w, wm, _, hw⟩ := atI_strs (l := nms) (i := 1 + a) (by omega) (by omega)
    obtain ⟨x, xm, xg, hx⟩ := atI_ints (l := labels) (i := (k : Int)) (by omega) (by omega)
    have m0 : (0 : Int) < (many : Int) := by omega
    have b1 := Int.emod_nonneg b (show (many : Int) ≠ 0 by omega)
    have b2 := Int.emod_lt_of_pos b m0
    obtain ⟨t, tm, _, ht⟩ := atI_ints (l := labels) (i := b % (many : Int)) b1 (by rw [hl]; exact b2)
    have hlen : acc.length = k := by
      have := congrArg List.length ha.src
      rw [List.length_map, List.length_take, hl] at this
      omega
    have tr := m_turn1 (C := C) (st := st) (c := c) (m := m') (e := e') (zs := zs) (stride := stride) (acc := acc) (x11 := x11) (x12 := x12) (x13 := x13) (x14 := x14) (x15 := x15) (atI_row h5 (by omega)) hw hx (atI_row h6 (by omega)) m0 ht (by omega)
    have ha' : Acc1 labels nms (acc ++ [⟨x, w, t⟩]) (k + 1) := ⟨by
      rw [Int.toNat_natCast] at xg
      rw [List.map_append, ha.src, take_succ xg]
      rfl, fun s hs => by
        rcases List.mem_append.mp hs with z | z
        · exact ha.w s z
        · rw [List.mem_singleton.mp z]; exact wm, fun s hs => by
        rcases List.mem_append.mp hs with z | z
        · exact ha.b s z
        · rw [List.mem_singleton.mp z]; exact tm⟩
    obtain ⟨acc', y10, y12, hA, el⟩ := m_loop1 hr hl hmm j (k + 1) (acc ++ [⟨x, w, t⟩]) (some (.int (k : Nat))) (some (.str w)) (by omega) ha'
    refine ⟨acc', y10, y12, hA, ?_⟩
    rw [range_drop hlt, loop_cons (st := stName 10) (r1 := mfr c nms m' e' zs row many stride labels st acc (some (.int (k : Nat))) x11 x12 x13 x14 x15) rfl tr, el]
/-- behind k turns of the second loop -/
structure Acc2 (labels : List Int) (nms : List Str) (acc : List Stp) (k : Nat) : Prop where
  nd : acc.Nodup
  a : ∀ s ∈ acc, s.a ∈ labels
  w : ∀ s ∈ acc, s.w ∈ nms
  b : ∀ s ∈ acc, s.b ∈ labels
  src : ∀ x ∈ labels, ∃ s ∈ acc, s.a = x
  few : ∀ x, srcN acc x ≤ 1 + k
  len : acc.length ≤ labels.length + k
theorem srcN_le_count {acc : List Stp} {x : Int} : srcN acc x = (acc.map (·.a)).count x := by
  unfold srcN
  rw [List.count, List.countP_map]
  congr 1
theorem Acc1.two {labels : List Int} {nms : List Str} {acc : List Stp} {k : Nat} (h : Acc1 labels nms acc k) (hk : k = labels.length) (nd : labels.Nodup) : Acc2 labels nms acc 0 := by
  have e : acc.map (·.a) = labels := by rw [h.src, hk, List.take_length]
  refine ⟨?_, fun s hs => ?_, h.w, h.b, fun x hx => ?_, fun x => ?_, ?_⟩
  · have : (acc.map (·.a)).Nodup := by rw [e]; exact nd
    exact List.Pairwise.of_map (S := (· ≠ ·)) (fun s => s.a) (fun a b hab z => hab (by rw [z])) this
  · rw [← e]; exact List.mem_map_of_mem hs
  · rw [← e] at hx
    obtain ⟨s, hs, hx⟩ := List.mem_map.mp hx
    exact ⟨s, hs, hx⟩
  · rw [srcN_le_count, e]
    exact List.nodup_iff_count.mp nd x
  · rw [← e, List.length_map]; omega
theorem Acc2.add {labels : List Int} {nms : List Str} {acc : List Stp} {k : Nat} {s : Stp} (h : Acc2 labels nms acc k) (hn : s ∉ acc) (ha : s.a ∈ labels) (hw : s.w ∈ nms) (hb : s.b ∈ labels) : Acc2 labels nms (acc ++ [s]) (k + 1) := by
  have key : ∀ (P : Stp → Prop), (∀ t ∈ acc, P t) → P s → ∀ t ∈ acc ++ [s], P t := fun P h1 h2 t ht => by
    rcases List.mem_append.mp ht with z | z
    · exact h1 t z
    · rw [List.mem_singleton.mp z]; exact h2
  refine ⟨?_, key _ h.a ha, key _ h.w hw, key _ h.b hb, fun x hx => ?_, fun x => ?_, ?_⟩
  · rw [List.nodup_append]
    exact ⟨h.nd, List.nodup_cons.mpr ⟨List.not_mem_nil, List.nodup_nil⟩, fun a ha b hb e => by
      rw [List.mem_singleton] at hb
      exact hn (by rw [← hb, ← e]; exact ha)⟩
  · obtain ⟨t, ht, e⟩ := h.src x hx
    exact ⟨t, List.mem_append_left _ ht, e⟩
  · unfold srcN
    rw [List.countP_append]
    have h1 := h.few x
    unfold srcN at h1
    have h2 : List.countP (fun t : Stp => decide (t.a = x)) [s] ≤ 1 := by
      have := List.countP_le_length (p := fun t : Stp => decide (t.a = x)) (l := [s])
      simpa using this
    omega
  · rw [List.length_append, List.length_singleton]
    have := h.len
    omega
theorem Acc2.up {labels : List Int} {nms : List Str} {acc : List Stp} {k : Nat} (h : Acc2 labels nms acc k) : Acc2 labels nms acc (k + 1) := ⟨h.nd, h.a, h.w, h.b, h.src, fun x => by have := h.few x; omega, by have := h.len; omega⟩
theorem m_loop2 {c m' e' : D} {zs : List D} {nms : List Str} {row labels : List Int} {m e many ex : Nat} {stride : Int} {x11 x15 : Option D} (hr : RowOk row nms.length m e many ex) (hl : labels.length = many) (hmm : m ≤ 1000) (hee : e ≤ 1000) (hz : zs.length = 5 + 2 * m) (okl : ∀ x ∈ labels, okSt x = true) (okn : ∀ x ∈ nms, okNm x = true) (hn0 : 0 < nms.length) :
    ∀ (j k : Nat) (acc : List Stp) (x10 x12 x13 x14 : Option D), k + j = ex → Acc2 labels nms acc k → ∃ acc' y10 y12 y13 y14, Acc2 labels nms acc' ex ∧
      mLoop (stName 10) (l_law_machine_4 C) ((rangeD 0 ex).drop k) (mfr c nms m' e' zs row many stride labels st acc x10 x11 x12 x13 x14 x15) = .ok (.nx (mfr c nms m' e' zs row many stride labels st acc' y10 x11 y12 y13 y14 x15))
  | 0, k, acc, x10, x12, x13, x14, hk, ha => by
    refine ⟨acc, x10, x12, x13, x14, ?_, ?_⟩
    · rw [show ex = k by omega]; exact ha
    · rw [List.drop_eq_nil_of_le (by rw [rangeD_len]; omega)]
      rfl
  | j + 1, k, acc, x10, x12, x13, x14, hk, ha => by
    have hlt : k < ex := by omega
    have he := hr.exe
    have h1m := hr.m1
    have hmm' := hr.mm
    obtain ⟨a, b, g, ga, gb, gg, a0, b0, g0⟩ := hr.two k (by omega)
    have m0 : (0 : Int) < (many : Int) := by omega
    have n0 : (0 : Int) < (nms.length : Int) := by omega
    obtain ⟨w, wm, _, hw⟩ := atI_strs (l := nms) (i := b % (nms.length : Int)) (Int.emod_nonneg b (by omega)) (Int.emod_lt_of_pos b n0)
    obtain ⟨x, xm, xg, hx⟩ := atI_ints (l := labels) (i := a % (many : Int)) (Int.emod_nonneg a (by omega)) (by rw [hl]; exact Int.emod_lt_of_pos a m0)
    obtain ⟨t, tm, _, ht⟩ := atI_ints (l := labels) (i := g % (many : Int)) (Int.emod_nonneg g (by omega)) (by rw [hl]; exact Int.emod_lt_of_pos g m0)
    have hs : Stp.ok ⟨x, w, t⟩ = true := by simp only [Stp.ok, okl x xm, okn w wm, okl t tm]; rfl
    have hgd : Good acc := fun s hs => by simp only [Stp.ok, okl _ (ha.a s hs), okn _ (ha.w s hs), okl _ (ha.b s hs)]; rfl
    have hlen := ha.len
    have tr := m_turn2 (C := C) (st := st) (c := c) (m := m') (e := e') (zs := zs) (stride := stride) (acc := acc) (k := k) (x11 := x11) (x12 := x12) (x13 := x13) (x14 := x14) (x15 := x15) (atI_row ga (by omega)) (atI_row gb (by omega)) (atI_row gg (by omega)) hn0 hw m0 hx ht (by omega) hs hgd
    have ha' : Acc2 labels nms (if (⟨x, w, t⟩ : Stp) ∈ acc then acc else acc ++ [⟨x, w, t⟩]) (k + 1) := by
      split
      · exact ha.up
      · rename_i z; exact ha.add z xm wm tm
    obtain ⟨acc', y10, y12, y13, y14, hA, el⟩ := m_loop2 hr hl hmm hee hz okl okn hn0 j (k + 1) _ (some (.int (k : Nat))) (some (.str w)) (some (.int ((zs.length : Int) + 3 * (k : Int)))) (some (Stp.d ⟨x, w, t⟩)) (by omega) ha'
    refine ⟨acc', y10, y12, y13, y14, hA, ?_⟩
    rw [range_drop hlt, loop_cons (st := stName 10) (r1 := mfr c nms m' e' zs row many stride labels st acc (some (.int (k : Nat))) x11 x12 x13 x14 x15) rfl tr, el]
/-- the steps whose word is the first name -/
theorem m_comp {s0 : List (Option D)} {so : Sto} {nms : List Str} {w0 : Str} {acc : List Stp} (h14 : s0.length = 16) (h1 : s0[1]? = some (some (.lst (sDs nms)))) (hw : nms[0]? = some w0) (hl : acc.length ≤ 1000000) :
    mCompL s0 (stName 14) (l_law_machine_5 C) (l_law_machine_6 C) (acc.map Stp.d) so [] = .ok ((acc.filter fun s => decide (s.w = w0)).map Stp.d, so) := by
  have e : (acc.filter fun s => decide (s.w = w0)).map Stp.d = ((acc.map Stp.d).filter fun d => match d with | .tup [_, .str w, _] => decide (w = w0) | _ => false).map id := by
    rw [List.map_id, List.filter_map]
    rfl
  rw [e]
  have := comp_map (s0 := s0) (st := stName 14) (mt := l_law_machine_5 C) (me := l_law_machine_6 C) (so := so) (fun d => match d with | .tup [_, .str w, _] => decide (w = w0) | _ => false) id (acc.map Stp.d) [] (fun x hx => ?_) (by rw [List.length_map, List.length_nil]; omega)
  · rw [this, List.nil_append]
  · obtain ⟨s, hs, rfl⟩ := List.mem_map.mp hx
    have g14 : (s0.set 14 (some s.d))[14]? = some (some s.d) := List.getElem?_set_self (by omega)
    have g1 : (s0.set 14 (some s.d))[1]? = some (some (.lst (sDs nms))) := by rw [List.getElem?_set_ne (by omega)]; exact h1
    refine ⟨⟨s0.set 14 (some s.d), so⟩, ⟨s0.set 14 (some s.d), so⟩, rfl, ?_, rfl, fun _ => ⟨⟨s0.set 14 (some s.d), so⟩, ?_, rfl⟩⟩
    · have a0 : atI (sDs nms) 0 = some (.str w0) := by
        have := atI_nat (xs := sDs nms) (j := 0) (v := .str w0) (by rw [List.getElem?_map, hw]; rfl)
        exact this
      simp only [sDs] at a0 g1
      simp only [Stp.d] at g14 g1 ⊢
      simp [l_law_machine_5, g14, g1, a0, eqOk, eqD, scal]
    · simp [l_law_machine_6, g14]
end Lm

set_option maxHeartbeats 400000
namespace Lm
open PySem L2 Mir
variable {C : Cl} {st : Sto}
theorem rep_len' {α : Type} (p : List α) (m : Nat) : ((List.replicate m p).flatten).length = p.length * m := by
  induction m with
  | zero => simp
  | succ n ih => rw [List.replicate_succ, List.flatten_cons, List.length_append, ih, Nat.mul_succ]; omega
theorem rep_at' {α : Type} (p : List α) (m k j : Nat) (hk : k < m) (hj : j < p.length) : ((List.replicate m p).flatten)[p.length * k + j]? = p[j]? := by
  induction m generalizing k with
  | zero => omega
  | succ n ih =>
    rw [List.replicate_succ, List.flatten_cons]
    cases k with
    | zero => rw [Nat.mul_zero, Nat.zero_add, List.getElem?_append_left hj]
    | succ k =>
      rw [List.getElem?_append_right (by rw [Nat.mul_succ]; omega)]
      have := ih k (by omega)
      rw [← this]
      congr 1
      rw [Nat.mul_succ]
      omega
def sizesM (n m e : Nat) : List Int := (m : Int) :: ((e : Int) + 1) :: 100 :: 8 :: 64 :: ((List.replicate m [(n : Int) - 1, (m : Int)]).flatten ++ (List.replicate e [(m : Int), (n : Int) + 2, (m : Int)]).flatten)
theorem sizesM_len (n m e : Nat) : (sizesM n m e).length = 5 + 2 * m + 3 * e := by
  simp only [sizesM, List.length_cons, List.length_append, rep_len', List.length_nil]
  omega
theorem sizesM_one (n m e k : Nat) (hk : k < m) : (sizesM n m e)[5 + 2 * k]? = some ((n : Int) - 1) ∧ (sizesM n m e)[6 + 2 * k]? = some (m : Int) := by
  have l := rep_len' [(n : Int) - 1, (m : Int)] m
  have key : ∀ j, j < 2 → (sizesM n m e)[5 + 2 * k + j]? = [(n : Int) - 1, (m : Int)][j]? := fun j hj => by
    unfold sizesM
    rw [show 5 + 2 * k + j = (2 * k + j) + 1 + 1 + 1 + 1 + 1 by omega]
    simp only [List.getElem?_cons_succ]
    rw [List.getElem?_append_left (by rw [l]; simp; omega)]
    exact rep_at' [(n : Int) - 1, (m : Int)] m k j hk hj
  exact ⟨key 0 (by omega), by rw [show 6 + 2 * k = 5 + 2 * k + 1 by omega]; exact key 1 (by omega)⟩
theorem sizesM_two (n m e k j : Nat) (hk : k < e) (hj : j < 3) : (sizesM n m e)[5 + 2 * m + 3 * k + j]? = [(m : Int), (n : Int) + 2, (m : Int)][j]? := by
  have l := rep_len' [(n : Int) - 1, (m : Int)] m
  unfold sizesM
  rw [show 5 + 2 * m + 3 * k + j = (2 * m + 3 * k + j) + 1 + 1 + 1 + 1 + 1 by omega]
  simp only [List.getElem?_cons_succ]
  rw [List.getElem?_append_right (by rw [l]; simp; omega), l]
  have := rep_at' [(m : Int), (n : Int) + 2, (m : Int)] e k j hk hj
  rw [← this]
  congr 1
  simp
  omega
theorem sizesM_pos {n m e : Nat} (hn : 2 ≤ n) (hm : 1 ≤ m) (hm2 : m ≤ 1000) (hn2 : n ≤ 1000) (he : e ≤ 1000) : ∀ s ∈ sizesM n m e, 0 < s ∧ s < 1073741824 := fun s hs => by
  unfold sizesM at hs
  simp only [List.mem_cons, List.mem_append, List.mem_flatten, List.mem_replicate, List.not_mem_nil, or_false] at hs
  rcases hs with rfl | rfl | rfl | rfl | rfl | ⟨l, ⟨_, rfl⟩, hs⟩ | ⟨l, ⟨_, rfl⟩, hs⟩
  · omega
  · omega
  · omega
  · omega
  · omega
  · simp only [List.mem_cons, List.not_mem_nil, or_false] at hs
    rcases hs with rfl | rfl <;> omega
  · simp only [List.mem_cons, List.not_mem_nil, or_false] at hs
    rcases hs with rfl | rfl | rfl <;> omega
theorem Fit.at {row sizes : List Int} (h : Fit row sizes) {k : Nat} {s : Int} (hs : sizes[k]? = some s) : ∃ x, row[k]? = some x ∧ 0 ≤ x ∧ x < s := by
  have hk := (List.getElem?_eq_some_iff.mp hs).1
  have e : row[k]? = some (row[k]'(by rw [h.1]; exact hk)) := List.getElem?_eq_getElem _
  exact ⟨_, e, h.2 k _ s e hs⟩
theorem row_ok {row : List Int} {n m e : Nat} (h : Fit row (sizesM n m e)) : ∃ many ex : Nat, RowOk row n m e many ex ∧ ∃ r2 r3 r4 : Int, row[2]? = some r2 ∧ row[3]? = some r3 ∧ row[4]? = some r4 ∧ 0 ≤ r2 ∧ 0 ≤ r3 ∧ r3 < 8 ∧ 0 ≤ r4 := by
  obtain ⟨r0, h0, a0, b0⟩ := h.at (k := 0) (s := m) rfl
  obtain ⟨r1, h1, a1, b1⟩ := h.at (k := 1) (s := (e : Int) + 1) rfl
  obtain ⟨r2, h2, a2, b2⟩ := h.at (k := 2) (s := 100) rfl
  obtain ⟨r3, h3, a3, b3⟩ := h.at (k := 3) (s := 8) rfl
  obtain ⟨r4, h4, a4, b4⟩ := h.at (k := 4) (s := 64) rfl
  refine ⟨r0.toNat + 1, r1.toNat, ⟨by omega, by omega, by omega, by rw [h0]; congr 1; omega, by rw [h1]; congr 1; omega, fun k hk => ?_, fun k hk => ?_⟩, r2, r3, r4, h2, h3, h4, a2, a3, b3, a4⟩
  · obtain ⟨s1, s2⟩ := sizesM_one n m e k hk
    obtain ⟨a, ha, x1, x2⟩ := h.at s1
    obtain ⟨b, hb, y1, y2⟩ := h.at s2
    exact ⟨a, b, ha, hb, x1, x2, y1⟩
  · obtain ⟨a, ha, x1, x2⟩ := h.at (sizesM_two n m e k 0 hk (by omega))
    obtain ⟨b, hb, y1, y2⟩ := h.at (sizesM_two n m e k 1 hk (by omega))
    obtain ⟨c, hc, z1, z2⟩ := h.at (sizesM_two n m e k 2 hk (by omega))
    exact ⟨a, b, c, ha, hb, hc, x1, y1, z1⟩
/-! the labels -/
def labelsOf (r2 s : Int) (many : Nat) : List Int := (List.range many).map fun (k : Nat) => (r2 + s * (k : Int)) % 100
def strides : List Int := [1, 3, 7, 9, 11, 13, 17, 19]
theorem labels_nd {r2 s : Int} {many : Nat} (hs : s ∈ strides) (hm : many ≤ 40) : (labelsOf r2 s many).Nodup := by
  unfold labelsOf
  refine List.pairwise_map.mpr (List.Pairwise.imp_of_mem (fun {a b} ha hb hab e => ?_) (List.nodup_range (n := many)))
  have ha := List.mem_range.mp ha
  have hb := List.mem_range.mp hb
  simp only [strides, List.mem_cons, List.not_mem_nil, or_false] at hs
  rcases hs with rfl | rfl | rfl | rfl | rfl | rfl | rfl | rfl <;> omega
theorem labels_ok {r2 s : Int} {many : Nat} : ∀ x ∈ labelsOf r2 s many, okSt x = true := fun x hx => by
  obtain ⟨k, _, rfl⟩ := List.mem_map.mp hx
  simp only [okSt, Bool.and_eq_true, decide_eq_true_eq]
  omega
theorem labels_len {r2 s : Int} {many : Nat} : (labelsOf r2 s many).length = many := by simp [labelsOf]
theorem labels_comp {s0 : List (Option D)} {so : Sto} {row : List Int} {r2 s : Int} {many : Nat} (hl : s0.length = 16) (h5 : s0[5]? = some (some (.lst (jDs row)))) (h7 : s0[7]? = some (some (.int s))) (hr : row[2]? = some r2) (hm : many ≤ 1000000) (hs0 : 0 ≤ s) (hs1 : s < 1000000000) :
    mCompL s0 (stName 10) (l_law_machine_1 C) (l_law_machine_2 C) (rangeD 0 many) so [] = .ok (jDs (labelsOf r2 s many), so) := by
  have e : jDs (labelsOf r2 s many) = (rangeD 0 many).map fun d => match d with | .int k => .int ((r2 + s * k) % 100) | _ => .non := by
    simp [labelsOf, rangeD, jDs]
  rw [e]
  refine comp_all _ _ (fun x hx => ?_) (by rw [rangeD_len]; exact hm)
  obtain ⟨k, hk, rfl⟩ := List.mem_map.mp hx
  have g10 : (s0.set 10 (some (.int (0 + (k : Int)))))[10]? = some (some (.int (0 + (k : Int)))) := List.getElem?_set_self (by omega)
  have g5 : (s0.set 10 (some (.int (0 + (k : Int)))))[5]? = some (some (.lst (jDs row))) := by rw [List.getElem?_set_ne (by omega)]; exact h5
  have g7 : (s0.set 10 (some (.int (0 + (k : Int)))))[7]? = some (some (.int s)) := by rw [List.getElem?_set_ne (by omega)]; exact h7
  refine ⟨⟨s0.set 10 (some (.int (0 + (k : Int)))), so⟩, ⟨s0.set 10 (some (.int (0 + (k : Int)))), so⟩, ⟨s0.set 10 (some (.int (0 + (k : Int)))), so⟩, rfl, rfl, rfl, ?_, rfl⟩
  have a2 : atI (jDs row) 2 = some (.int r2) := atI_row hr rfl
  have mm := dMul_i (i := s) (j := 0 + (k : Int)) hs0 hs1
  unfold l_law_machine_2
  have o1 := op2_ok (f := dIxA) (a := mVar 5) (b := mC (.int 2)) (r := ⟨s0.set 10 (some (.int (0 + (k : Int)))), so⟩) (r1 := ⟨s0.set 10 (some (.int (0 + (k : Int)))), so⟩) (r2 := ⟨s0.set 10 (some (.int (0 + (k : Int)))), so⟩) (x := .lst (jDs row)) (by simp only [mVar, g5]) rfl rfl rfl (show dIxA _ _ = .ok (.int r2) by simp only [dIxA, dIx, a2])
  have o2 := op2_ok (f := dMul) (a := mVar 7) (b := mVar 10) (r := ⟨s0.set 10 (some (.int (0 + (k : Int)))), so⟩) (r1 := ⟨s0.set 10 (some (.int (0 + (k : Int)))), so⟩) (r2 := ⟨s0.set 10 (some (.int (0 + (k : Int)))), so⟩) (x := .int s) (y := .int (0 + (k : Int))) (by simp only [mVar, g7]) (by simp only [mVar, g10]) rfl rfl mm
  have o3 := op2_ok (f := dAdd) o1 o2 rfl rfl dAdd_i
  have o4 : mArgs (d1 dInt) (mCons (mOp2 dAdd (mOp2 dIxA (mVar 5) (mC (.int 2))) (mOp2 dMul (mVar 7) (mVar 10))) mNil) ⟨s0.set 10 (some (.int (0 + (k : Int)))), so⟩ = .ok (.int (r2 + s * (0 + (k : Int))), ⟨s0.set 10 (some (.int (0 + (k : Int)))), so⟩) := by
    simp only [mArgs, mCons, mNil, o3, bnd_ok, drs, dr_int, d1_one, dInt]
  exact op2_ok o4 rfl rfl rfl (dMod_i (by omega))
end Lm

set_option maxHeartbeats 400000
namespace Lm
open PySem L2 Mir
variable {C : Cl} {st : Sto}
theorem seq_run {a b : RE → Out Fl} {r r1 : RE} {f : Fl} (h1 : a r = .ok (.nx r1)) (h2 : b r1 = .ok f) : mSeq a b r = .ok f := by rw [seq_nx h1, h2]
theorem args_ok {f : List D → Out D} {ms : RE → Out (List D × RE)} {r r1 : RE} {ds ds' : List D} {x : D} (h : ms r = .ok (ds, r1)) (hd : drs r1.st ds = some ds') (hf : f ds' = .ok x) : mArgs f ms r = .ok (x, r1) := by
  simp only [mArgs, h, bnd_ok, hd, hf]
theorem lst_ok {ms : RE → Out (List D × RE)} {r r1 : RE} {ds : List D} (h : ms r = .ok (ds, r1)) (hl : ds.length ≤ 1000000) : mLst ms r = .ok (.lst ds, r1) := by
  simp only [mLst, h, bnd_ok, hl, if_true]
/-- what _law_machine makes -/
structure Made (labels : List Int) (steps : List Stp) (nms : List Str) (m e : Nat) : Prop where
  lnd : labels.Nodup
  lne : 1 ≤ labels.length
  lm : labels.length ≤ m
  lok : ∀ x ∈ labels, okSt x = true
  nd : steps.Nodup
  a : ∀ s ∈ steps, s.a ∈ labels
  w : ∀ s ∈ steps, s.w ∈ nms
  b : ∀ s ∈ steps, s.b ∈ labels
  src : ∀ x ∈ labels, ∃ s ∈ steps, s.a = x
  w0 : ∀ w, nms[0]? = some w → ∃ s ∈ steps, s.w = w
  few : ∀ x, srcN steps x ≤ e + 2
  len : steps.length ≤ m + e + 1
theorem made_of {labels : List Int} {nms : List Str} {acc l : List Stp} {m e : Nat} (lnd : labels.Nodup) (lne : 1 ≤ labels.length) (lm : labels.length ≤ m) (lok : ∀ x ∈ labels, okSt x = true) (h : Acc2 labels nms acc (e + 1)) (w0 : ∀ w, nms[0]? = some w → ∃ s ∈ acc, s.w = w) (p : l.Perm acc) : Made labels l nms m e where
  lnd := lnd
  lne := lne
  lm := lm
  lok := lok
  nd := p.nodup_iff.mpr h.nd
  a := fun s hs => h.a s (p.mem_iff.mp hs)
  w := fun s hs => h.w s (p.mem_iff.mp hs)
  b := fun s hs => h.b s (p.mem_iff.mp hs)
  src := fun x hx => by
    obtain ⟨s, hs, e⟩ := h.src x hx
    exact ⟨s, p.mem_iff.mpr hs, e⟩
  w0 := fun w hw => by
    obtain ⟨s, hs, e⟩ := w0 w hw
    exact ⟨s, p.mem_iff.mpr hs, e⟩
  few := fun x => by
    have := h.few x
    unfold srcN at this ⊢
    rw [p.countP_eq]
    omega
  len := by
    have := h.len
    rw [p.length_eq]
    omega
theorem Acc2.ups {labels : List Int} {nms : List Str} {acc : List Stp} {k j : Nat} (h : Acc2 labels nms acc k) (hj : k ≤ j) : Acc2 labels nms acc j := ⟨h.nd, h.a, h.w, h.b, h.src, fun x => by have := h.few x; omega, by have := h.len; omega⟩
/-- the steps, with one more if the first name is not there yet -/
def last1 (acc : List Stp) (w0 : Str) (x t : Int) : List Stp := if acc.filter (fun s => decide (s.w = w0)) = [] then acc ++ [⟨x, w0, t⟩] else acc
theorem m_if {c m e : D} {nms : List Str} {zs : List D} {row labels : List Int} {many stride r4 t x : Int} {w0 : Str} {acc : List Stp} {x10 x11 x12 x13 x14 x15 : Option D}
    (h4 : row[4]? = some r4) (hw : nms[0]? = some w0) (hm : 0 < many) (hx : atI (jDs labels) (r4 % many) = some (.int x)) (ht : atI (jDs labels) (r4 / 8 % many) = some (.int t)) (hl : acc.length < 1000000) :
    ∃ y15, (mIf (mBool (mOp2 dEqK (mArgs (d1 dLenA) (mCons (mCompW anyI [14] (mVar 9) (stName 14) (l_law_machine_5 C) (l_law_machine_6 C)) mNil)) (mC (.int 0))))
        (mSeq (mSet 15 (mOp2 dIxA (mVar 8) (mOp2 dMod (mArgs (d1 dInt) (mCons (mOp2 dDiv (mOp2 dIxA (mVar 5) (mC (.int 4))) (mC (.int 8))) mNil)) (mVar 6))))
        (mDrop (mMut (mVar 9) "list" fAppend (mCons (mTup (mCons (mOp2 dIxA (mVar 8) (mOp2 dMod (mArgs (d1 dInt) (mCons (mOp2 dIxA (mVar 5) (mC (.int 4))) mNil)) (mVar 6))) (mCons (mOp2 dIxA (mVar 1) (mC (.int 0))) (mCons (mVar 15) mNil)))) mNil))))
        mNext) (mfr c nms m e zs row many stride labels st acc x10 x11 x12 x13 x14 x15) = .ok (.nx (mfr c nms m e zs row many stride labels st (last1 acc w0 x t) x10 x11 x12 x13 x14 y15)) := by
  have mc := m_comp (C := C) (s0 := [some c, some (.lst (sDs nms)), some m, some e, some (.lst zs), some (.lst (jDs row)), some (.int many), some (.int stride), some (.lst (jDs labels)), some (.cell st.length), x10, x11, x12, x13, none, x15]) (so := st ++ [.lck (.lst (acc.map Stp.d))]) (acc := acc) rfl rfl hw (by omega)
  have a4 : atI (jDs row) 4 = some (.int r4) := atI_row h4 rfl
  have a0 : atI (sDs nms) 0 = some (.str w0) := atI_nat (xs := sDs nms) (j := 0) (v := .str w0) (by rw [List.getElem?_map, hw]; rfl)
  simp only [jDs, sDs] at *
  by_cases h : acc.filter (fun s => decide (s.w = w0)) = []
  · refine ⟨some (.int t), ?_⟩
    rw [h] at mc
    simp [mfr, mc, a4, a0, hm, hx, ht, hl, last1, h, Stp.d, eqOk, eqD, scal]
  · refine ⟨x15, ?_⟩
    have hz : ¬ ((acc.filter fun s => decide (s.w = w0)).length : Int) = 0 := fun z => h (List.length_eq_zero_iff.mp (by omega))
    have e1 : last1 acc w0 x t = acc := by unfold last1; rw [if_neg h]
    rw [e1]
    generalize acc.filter (fun s => decide (s.w = w0)) = fl at mc hz
    simp [mfr, mc, eqOk, eqD, scal]
    intro z; exact absurd (by rw [z]; rfl) hz
end Lm

set_option maxHeartbeats 400000
namespace Lm
open PySem L2 Mir
variable {C : Cl} {st : Sto}
def zsM (n m e : Nat) : List D := .int m :: .int ((e : Int) + 1) :: .int 100 :: .int 8 :: .int 64 :: (List.replicate m [D.int ((n : Int) - 1), D.int m]).flatten
theorem zsM_len (n m e : Nat) : (zsM n m e).length = 5 + 2 * m := by
  simp only [zsM, List.length_cons, rep_len', List.length_nil]
  omega
theorem zsM_eq (n m e : Nat) : jDs (sizesM n m e) = zsM n m e ++ (List.replicate e [D.int m, D.int ((n : Int) + 2), D.int m]).flatten := by
  simp [sizesM, zsM, jDs, List.map_flatten]
/-- labels -/
theorem m_s8 {s0 : List (Option D)} {row : List Int} {r2 s : Int} {many : Nat} (hl : s0.length = 16) (h5 : s0[5]? = some (some (.lst (jDs row)))) (h6 : s0[6]? = some (some (.int many))) (h7 : s0[7]? = some (some (.int s))) (hr : row[2]? = some r2) (hm : many ≤ 1000000) (hs0 : 0 ≤ s) (hs1 : s < 1000000000) :
    mSet 8 (mComp [10] (mRng1 (mVar 6)) (stName 10) (l_law_machine_1 C) (l_law_machine_2 C)) ⟨s0, st⟩ = .ok (.nx ⟨s0.set 8 (some (.lst (jDs (labelsOf r2 s many)))), st⟩) := by
  have rg := rng1 (oa := mVar 6) (r := ⟨s0, st⟩) (r' := ⟨s0, st⟩) (n := many) (by simp only [mVar, h6]) hm
  have w : wipeL s0 [10] = s0.set 10 none := rfl
  have lc := labels_comp (C := C) (s0 := s0.set 10 none) (so := st) (row := row) (r2 := r2) (s := s) (many := many) (by rw [List.length_set]; exact hl) (by rw [List.getElem?_set_ne (by omega)]; exact h5) (by rw [List.getElem?_set_ne (by omega)]; exact h7) hr hm hs0 hs1
  refine set_ok (r1 := ⟨s0, st⟩) ?_
  simp only [mComp, rg, bnd_ok, w, lc]
theorem strides_pos {s : Int} (h : s ∈ strides) : 0 ≤ s ∧ s < 1000000000 := by
  simp only [strides, List.mem_cons, List.not_mem_nil, or_false] at h
  rcases h with rfl | rfl | rfl | rfl | rfl | rfl | rfl | rfl <;> omega
theorem cut2 {xs : List D} {k : Nat} (h : k ≤ xs.length) : cutD xs (some (k : Int)) none ++ cutD xs none (some (k : Int)) = xs.drop k ++ xs.take k := by
  rw [cutD_from h, cutD_to h]
theorem rot_perm {α : Type} (l : List α) (k : Nat) : (l.drop k ++ l.take k).Perm l := by
  have := List.perm_append_comm (l₁ := l.drop k) (l₂ := l.take k)
  rwa [List.take_append_drop] at this
theorem p_machine (c : Int) (nms : List Str) (m e : Nat) (hn : 2 ≤ nms.length) (hn2 : nms.length ≤ 1000) (okn : ∀ x ∈ nms, okNm x = true) (hm1 : 1 ≤ m) (hm : m ≤ 40) (he : e ≤ 40) :
    ∃ labels steps, Made labels steps nms m e ∧ f_law_machine C [.int c, .lst (sDs nms), .int m, .int e] st = .ok (.lst [.lst (jDs labels), .lst (steps.map Stp.d)], st) := by
  obtain ⟨row, hf, er⟩ := p_row (C := C) c (sizesM nms.length m e) (sizesM_pos hn hm1 (by omega) (by omega) (by omega)) (by rw [sizesM_len]; omega)
  obtain ⟨many, ex, hr, r2, r3, r4, h2, h3, h4, a2, a3, b3, a4⟩ := row_ok hf
  have hmm := hr.mm
  have hm1' := hr.m1
  have hexe := hr.exe
  obtain ⟨s, sm, _, hs⟩ := atI_ints (l := strides) (i := r3) a3 b3
  have sp := strides_pos sm
  have hlen : (labelsOf r2 s many).length = many := labels_len
  have lnd := labels_nd (r2 := r2) (many := many) sm (by omega)
  have lok := labels_ok (r2 := r2) (s := s) (many := many)
  generalize hlab : labelsOf r2 s many = labels at hlen lnd lok
  have hz := zsM_len nms.length m e
  obtain ⟨acc1, y10, y12, hA1, el1⟩ := m_loop1 (C := C) (st := st) (c := .int c) (m' := .int m) (e' := .int e) (zs := zsM nms.length m e) (nms := nms) (stride := s) (x11 := none) (x13 := none) (x14 := none) (x15 := none) hr hlen (by omega) many 0 [] none none (by omega) ⟨rfl, fun s h => (by cases h), fun s h => (by cases h)⟩
  obtain ⟨acc2, z10, z12, z13, z14, hA3, el2⟩ := m_loop2 (C := C) (st := st) (c := .int c) (m' := .int m) (e' := .int e) (zs := zsM nms.length m e) (nms := nms) (stride := s) (x11 := none) (x15 := none) hr hlen (by omega) (by omega) hz lok okn (by omega) ex 0 acc1 y10 y12 none none (by omega) (hA1.two hlen.symm lnd)
  have m0 : (0 : Int) < (many : Int) := by omega
  obtain ⟨w0, hw0⟩ : ∃ w0, nms[0]? = some w0 := ⟨_, List.getElem?_eq_getElem (by omega)⟩
  obtain ⟨x, xm, _, hx⟩ := atI_ints (l := labels) (i := r4 % (many : Int)) (Int.emod_nonneg _ (by omega)) (by rw [hlen]; exact Int.emod_lt_of_pos _ m0)
  obtain ⟨t, tm, _, ht⟩ := atI_ints (l := labels) (i := r4 / 8 % (many : Int)) (Int.emod_nonneg _ (by omega)) (by rw [hlen]; exact Int.emod_lt_of_pos _ m0)
  have l2 := hA3.len
  obtain ⟨y15, ei⟩ := m_if (C := C) (st := st) (c := .int c) (m := .int m) (e := .int e) (nms := nms) (zs := zsM nms.length m e) (row := row) (labels := labels) (many := many) (stride := s) (x10 := z10) (x11 := none) (x12 := z12) (x13 := z13) (x14 := z14) (x15 := none) h4 hw0 m0 hx ht (acc := acc2) (by omega)
  have wm0 : w0 ∈ nms := List.mem_of_getElem? hw0
  have hA4 : Acc2 labels nms (last1 acc2 w0 x t) (e + 1) := by
    unfold last1
    split
    · rename_i q
      refine ((hA3.add (fun z => ?_) xm wm0 tm)).ups (by omega)
      have : (⟨x, w0, t⟩ : Stp) ∈ acc2.filter (fun s => decide (s.w = w0)) := List.mem_filter.mpr ⟨z, decide_eq_true rfl⟩
      rw [q] at this
      cases this
    · exact hA3.ups (by omega)
  have hw1 : ∀ w, nms[0]? = some w → ∃ s ∈ last1 acc2 w0 x t, s.w = w := fun w hw => by
    rw [hw0] at hw
    cases hw
    unfold last1
    split
    · exact ⟨⟨x, w0, t⟩, List.mem_append_right _ List.mem_cons_self, rfl⟩
    · rename_i q
      obtain ⟨s, hs⟩ := List.exists_mem_of_ne_nil _ q
      have := List.mem_filter.mp hs
      exact ⟨s, this.1, of_decide_eq_true this.2⟩
  generalize last1 acc2 w0 x t = acc3 at hA4 hw1 ei
  have l3 := hA4.len
  have n3 : 0 < acc3.length := by
    obtain ⟨s, hs, _⟩ := hw1 w0 hw0
    exact List.length_pos_of_mem hs
  have tk0 := Int.emod_nonneg r4 (show (acc3.length : Int) ≠ 0 by omega)
  have tk1 := Int.emod_lt_of_pos r4 (show (0 : Int) < (acc3.length : Int) by omega)
  obtain ⟨tk, htk⟩ : ∃ tk : Nat, r4 % (acc3.length : Int) = tk := ⟨(r4 % (acc3.length : Int)).toNat, by omega⟩
  refine ⟨labels, acc3.drop tk ++ acc3.take tk, made_of lnd (by omega) (by omega) lok hA4 hw1 (rot_perm _ _), ?_⟩
  -- the walk
  have q4 : mSet 4 (mOp2 dAdd (mLst (mCons (mVar 2) (mCons (mOp2 dAdd (mVar 3) (mC (.int 1))) (mCons (mC (.int 100)) (mCons (mC (.int 8)) (mCons (mC (.int 64)) mNil)))))) (mOp2 dMul (mLst (mCons (mOp2 dSub (mArgs (d1 dLenA) (mCons (mVar 1) mNil)) (mC (.int 1))) (mCons (mVar 2) mNil))) (mVar 2)))
      ⟨[some (.int c), some (.lst (sDs nms)), some (.int m), some (.int e), none, none, none, none, none, none, none, none, none, none, none, none], st⟩ = .ok (.nx ⟨[some (.int c), some (.lst (sDs nms)), some (.int m), some (.int e), some (.lst (zsM nms.length m e)), none, none, none, none, none, none, none, none, none, none, none], st⟩) := by
    have em := dMul_l (a := [.int ((nms.length : Int) - 1), .int m]) (k := m) (by simp only [List.length_cons, List.length_nil]; omega) (by omega)
    have ll : ((List.replicate m [D.int ((nms.length : Int) - 1), D.int m]).flatten).length = 2 * m := rep_len' _ _
    have ea := dAdd_l (a := [.int m, .int ((e : Int) + 1), .int 100, .int 8, .int 64]) (b := (List.replicate m [D.int ((nms.length : Int) - 1), D.int m]).flatten) (by rw [ll]; simp only [List.length_cons, List.length_nil]; omega)
    have sl : (sDs nms).length = nms.length := List.length_map ..
    refine set_ok (r1 := ⟨[some (.int c), some (.lst (sDs nms)), some (.int m), some (.int e), none, none, none, none, none, none, none, none, none, none, none, none], st⟩) ?_
    refine op2_ok (x := .lst [.int m, .int ((e : Int) + 1), .int 100, .int 8, .int 64]) (y := .lst ((List.replicate m [D.int ((nms.length : Int) - 1), D.int m]).flatten)) rfl ?_ rfl rfl ea
    refine op2_ok (x := .lst [.int ((nms.length : Int) - 1), .int m]) (y := .int m) (r1 := ⟨[some (.int c), some (.lst (sDs nms)), some (.int m), some (.int e), none, none, none, none, none, none, none, none, none, none, none, none], st⟩) ?_ rfl rfl rfl em
    have l1 : nms.length ≤ 1000000 := by omega
    simp [sl, l1]
  have q5 : mSet 5 (mCall (f_law_row C) [] (mCons (mVar 0) (mCons (mOp2 dAdd (mVar 4) (mOp2 dMul (mLst (mCons (mVar 2) (mCons (mOp2 dAdd (mArgs (d1 dLenA) (mCons (mVar 1) mNil)) (mC (.int 2))) (mCons (mVar 2) mNil)))) (mVar 3))) mNil)))
      ⟨[some (.int c), some (.lst (sDs nms)), some (.int m), some (.int e), some (.lst (zsM nms.length m e)), none, none, none, none, none, none, none, none, none, none, none], st⟩ = .ok (.nx ⟨[some (.int c), some (.lst (sDs nms)), some (.int m), some (.int e), some (.lst (zsM nms.length m e)), some (.lst (jDs row)), none, none, none, none, none, none, none, none, none, none], st⟩) := by
    have em := dMul_l (a := [.int m, .int ((nms.length : Int) + 2), .int m]) (k := e) (by simp only [List.length_cons, List.length_nil]; omega) (by omega)
    have ll : ((List.replicate e [D.int m, D.int ((nms.length : Int) + 2), D.int m]).flatten).length = 3 * e := rep_len' _ _
    have ea := dAdd_l (a := zsM nms.length m e) (b := (List.replicate e [D.int m, D.int ((nms.length : Int) + 2), D.int m]).flatten) (by rw [ll, hz]; omega)
    rw [← zsM_eq] at ea
    have l1 : nms.length ≤ 1000000 := by omega
    have b0 : mLst (mCons (mVar 2) (mCons (mOp2 dAdd (mArgs (d1 dLenA) (mCons (mVar 1) mNil)) (mC (.int 2))) (mCons (mVar 2) mNil))) ⟨[some (.int c), some (.lst (sDs nms)), some (.int m), some (.int e), some (.lst (zsM nms.length m e)), none, none, none, none, none, none, none, none, none, none, none], st⟩ = .ok (.lst [.int m, .int ((nms.length : Int) + 2), .int m], ⟨[some (.int c), some (.lst (sDs nms)), some (.int m), some (.int e), some (.lst (zsM nms.length m e)), none, none, none, none, none, none, none, none, none, none, none], st⟩) := by
      simp [l1]
    have b1 := op2_ok (f := dMul) (b := mVar 3) b0 rfl rfl rfl em
    have b2 := op2_ok (f := dAdd) (a := mVar 4) (x := .lst (zsM nms.length m e)) (r := ⟨[some (.int c), some (.lst (sDs nms)), some (.int m), some (.int e), some (.lst (zsM nms.length m e)), none, none, none, none, none, none, none, none, none, none, none], st⟩) rfl b1 rfl rfl ea
    have b3 := cons_ok (m := mVar 0) (x := .int c) (r := ⟨[some (.int c), some (.lst (sDs nms)), some (.int m), some (.int e), some (.lst (zsM nms.length m e)), none, none, none, none, none, none, none, none, none, none, none], st⟩) rfl (cons_ok b2 (rfl : mNil _ = _))
    exact set_ok (i := 5) (call_ok b3 (er st))
  have q6 : mSet 6 (mOp2 dAdd (mC (.int 1)) (mOp2 dIxA (mVar 5) (mC (.int 0)))) ⟨[some (.int c), some (.lst (sDs nms)), some (.int m), some (.int e), some (.lst (zsM nms.length m e)), some (.lst (jDs row)), none, none, none, none, none, none, none, none, none, none], st⟩ = .ok (.nx ⟨[some (.int c), some (.lst (sDs nms)), some (.int m), some (.int e), some (.lst (zsM nms.length m e)), some (.lst (jDs row)), some (.int many), none, none, none, none, none, none, none, none, none], st⟩) := by
    have a0 := atI_row (i := 0) hr.r0 rfl
    simp only [jDs] at a0
    simp [a0]
    omega
  have q7 : mSet 7 (mOp2 dIxA (mLst (mCons (mC (.int 1)) (mCons (mC (.int 3)) (mCons (mC (.int 7)) (mCons (mC (.int 9)) (mCons (mC (.int 11)) (mCons (mC (.int 13)) (mCons (mC (.int 17)) (mCons (mC (.int 19)) mNil))))))))) (mOp2 dIxA (mVar 5) (mC (.int 3)))) ⟨[some (.int c), some (.lst (sDs nms)), some (.int m), some (.int e), some (.lst (zsM nms.length m e)), some (.lst (jDs row)), some (.int many), none, none, none, none, none, none, none, none, none], st⟩ = .ok (.nx ⟨[some (.int c), some (.lst (sDs nms)), some (.int m), some (.int e), some (.lst (zsM nms.length m e)), some (.lst (jDs row)), some (.int many), some (.int s), none, none, none, none, none, none, none, none], st⟩) := by
    have a3 := atI_row (i := 3) h3 rfl
    simp only [jDs, strides, List.map_cons, List.map_nil] at a3 hs
    simp [a3, hs]
  have q8 := m_s8 (C := C) (st := st) (s0 := [some (.int c), some (.lst (sDs nms)), some (.int m), some (.int e), some (.lst (zsM nms.length m e)), some (.lst (jDs row)), some (.int many), some (.int s), none, none, none, none, none, none, none, none]) (row := row) (r2 := r2) (s := s) (many := many) rfl rfl rfl rfl h2 (by omega) sp.1 sp.2
  rw [hlab] at q8
  have q9 : mSet 9 (mCell (mLst mNil)) ⟨[some (.int c), some (.lst (sDs nms)), some (.int m), some (.int e), some (.lst (zsM nms.length m e)), some (.lst (jDs row)), some (.int many), some (.int s), some (.lst (jDs labels)), none, none, none, none, none, none, none], st⟩ = .ok (.nx (mfr (.int c) nms (.int m) (.int e) (zsM nms.length m e) row many s labels st [] none none none none none none)) := by
    simp [mfr]
  have rg1 := rng1 (oa := mVar 6) (r := mfr (.int c) nms (.int m) (.int e) (zsM nms.length m e) row many s labels st [] none none none none none none) (n := many) rfl (by omega)
  have q10 : mFor (mRng1 (mVar 6)) (stName 10) (l_law_machine_3 C) (mfr (.int c) nms (.int m) (.int e) (zsM nms.length m e) row many s labels st [] none none none none none none) = .ok (.nx (mfr (.int c) nms (.int m) (.int e) (zsM nms.length m e) row many s labels st acc1 y10 none y12 none none none)) := by
    simp only [mFor, rg1, bnd_ok]
    exact el1
  have rg2 := rng1 (oa := mOp2 dIxA (mVar 5) (mC (.int 1))) (r := mfr (.int c) nms (.int m) (.int e) (zsM nms.length m e) row many s labels st acc1 y10 none y12 none none none) (n := ex) (r' := mfr (.int c) nms (.int m) (.int e) (zsM nms.length m e) row many s labels st acc1 y10 none y12 none none none) (op2_ok (x := .lst (jDs row)) (y := .int 1) rfl rfl rfl rfl (by simp only [dIxA, dIx, atI_row (i := 1) hr.r1 rfl])) (by omega)
  have q11 : mFor (mRng1 (mOp2 dIxA (mVar 5) (mC (.int 1)))) (stName 10) (l_law_machine_4 C) (mfr (.int c) nms (.int m) (.int e) (zsM nms.length m e) row many s labels st acc1 y10 none y12 none none none) = .ok (.nx (mfr (.int c) nms (.int m) (.int e) (zsM nms.length m e) row many s labels st acc2 z10 none z12 z13 z14 none)) := by
    simp only [mFor, rg2, bnd_ok]
    exact el2
  have q12 : mSet 11 (mOp2 dMod (mArgs (d1 dInt) (mCons (mOp2 dIxA (mVar 5) (mC (.int 4))) mNil)) (mArgs (d1 dLenA) (mCons (mVar 9) mNil))) (mfr (.int c) nms (.int m) (.int e) (zsM nms.length m e) row many s labels st acc3 z10 none z12 z13 z14 y15) = .ok (.nx (mfr (.int c) nms (.int m) (.int e) (zsM nms.length m e) row many s labels st acc3 z10 (some (.int (tk : Int))) z12 z13 z14 y15)) := by
    have a4 := atI_row (i := 4) h4 rfl
    simp only [jDs] at a4
    have n3' : (0 : Int) < (acc3.length : Int) := by omega
    have l3' : acc3.length ≤ 1000000 := by omega
    simp [mfr, a4, n3, n3', l3', htk]
  have q13 : mLst (mCons (mVar 8) (mCons (mOp2 dAdd (mCut dCut (mVar 9) (mPart (mVar 11)) mNoP) (mCut dCut (mVar 9) mNoP (mPart (mVar 11)))) mNil)) (mfr (.int c) nms (.int m) (.int e) (zsM nms.length m e) row many s labels st acc3 z10 (some (.int (tk : Int))) z12 z13 z14 y15) = .ok (.lst [.lst (jDs labels), .lst ((acc3.drop tk ++ acc3.take tk).map Stp.d)], mfr (.int c) nms (.int m) (.int e) (zsM nms.length m e) row many s labels st acc3 z10 (some (.int (tk : Int))) z12 z13 z14 y15) := by
    have ltk : tk ≤ (acc3.map Stp.d).length := by rw [List.length_map]; omega
    have c2 := cut2 ltk
    rw [← List.map_drop, ← List.map_take, ← List.map_append] at c2
    have ll : (acc3.map Stp.d).length = acc3.length := List.length_map ..
    have ea := dAdd_l (a := cutD (acc3.map Stp.d) (some (tk : Int)) none) (b := cutD (acc3.map Stp.d) none (some (tk : Int))) (by rw [cutD_from ltk, cutD_to ltk, List.length_drop, List.length_take]; omega)
    rw [c2] at ea
    have k1 : mCut dCut (mVar 9) (mPart (mVar 11)) mNoP (mfr (.int c) nms (.int m) (.int e) (zsM nms.length m e) row many s labels st acc3 z10 (some (.int (tk : Int))) z12 z13 z14 y15) = .ok (.lst (cutD (acc3.map Stp.d) (some (tk : Int)) none), mfr (.int c) nms (.int m) (.int e) (zsM nms.length m e) row many s labels st acc3 z10 (some (.int (tk : Int))) z12 z13 z14 y15) := by
      simp [mfr]
    have k2 : mCut dCut (mVar 9) mNoP (mPart (mVar 11)) (mfr (.int c) nms (.int m) (.int e) (zsM nms.length m e) row many s labels st acc3 z10 (some (.int (tk : Int))) z12 z13 z14 y15) = .ok (.lst (cutD (acc3.map Stp.d) none (some (tk : Int))), mfr (.int c) nms (.int m) (.int e) (zsM nms.length m e) row many s labels st acc3 z10 (some (.int (tk : Int))) z12 z13 z14 y15) := by
      simp [mfr]
    have k3 := op2_ok (f := dAdd) k1 k2 rfl rfl ea
    exact lst_ok (cons_ok (m := mVar 8) (x := .lst (jDs labels)) (r := mfr (.int c) nms (.int m) (.int e) (zsM nms.length m e) row many s labels st acc3 z10 (some (.int (tk : Int))) z12 z13 z14 y15) rfl (cons_ok k3 (rfl : mNil _ = _))) (by simp)
  have main : b_law_machine C ⟨[some (.int c), some (.lst (sDs nms)), some (.int m), some (.int e), none, none, none, none, none, none, none, none, none, none, none, none], st⟩ = .ok (.rt (.lst [.lst (jDs labels), .lst ((acc3.drop tk ++ acc3.take tk).map Stp.d)]) (mfr (.int c) nms (.int m) (.int e) (zsM nms.length m e) row many s labels st acc3 z10 (some (.int (tk : Int))) z12 z13 z14 y15)) := by
    rw [b_law_machine, seq_nx q4, seq_nx q5, seq_nx q6, seq_nx q7, seq_nx q8]
    simp only [List.set_cons_succ, List.set_cons_zero]
    rw [seq_nx q9, seq_nx q10, seq_nx q11, seq_nx ei, seq_nx q12]
    simp only [mRet, q13, bnd_ok]
  refine cut_pure (j := [.lst (acc3.map Stp.d)]) ?_ ?_
  · simp only [k_law_machine, n0, fnK, List.length_cons, List.length_nil, if_true]
    rw [show startR 16 [.int c, .lst (sDs nms), .int m, .int e] st = ⟨[some (.int c), some (.lst (sDs nms)), some (.int m), some (.int e), none, none, none, none, none, none, none, none, none, none, none, none], st⟩ from rfl]
    simp only [runB, main, bnd_ok, noX]
    rfl
  · simp only [okC, okCL, okCL_j, Bool.true_and, Bool.and_true]
    exact okCL_steps _
end Lm

set_option maxHeartbeats 400000
namespace Lm
open PySem L2 Mir
variable {C : Cl} {st : Sto}
/-! ## leaving_table -/
def addI (l : List Int) (s : Int) : List Int := if s ∈ l then l else l ++ [s]
/-- the sources, by first appearance -/
def srcs (l : List Stp) : List Int := l.foldl (fun acc x => addI acc x.a) []
def numsF : Nat → List Stp → Int → List Int
  | _, [], _ => []
  | o, x :: l, s => (if x.a = s then [(o : Int)] else []) ++ numsF (o + 1) l s
abbrev nums (l : List Stp) (s : Int) : List Int := numsF 0 l s
theorem numsF_app {x : Stp} {s : Int} : ∀ {l : List Stp} {o : Nat}, numsF o (l ++ [x]) s = numsF o l s ++ (if x.a = s then [((o + l.length : Nat) : Int)] else [])
  | [], o => by simp [numsF]
  | y :: l, o => by
    have := numsF_app (x := x) (s := s) (l := l) (o := o + 1)
    simp only [List.cons_append, numsF, this, List.append_assoc, List.length_cons]
    rw [show o + 1 + l.length = o + (l.length + 1) by omega]
theorem srcs_app {l : List Stp} {x : Stp} : srcs (l ++ [x]) = addI (srcs l) x.a := by unfold srcs; rw [List.foldl_append]; rfl
theorem addI_mem {l : List Int} {s t : Int} : t ∈ addI l s ↔ t ∈ l ∨ t = s := by
  unfold addI
  split
  · rename_i q; exact ⟨.inl, fun h => h.elim id fun e => e ▸ q⟩
  · simp
abbrev iDs (l : List Int) : List D := l.map D.int
theorem get_t (st : Sto) (x : D) (l : Sto) (j : Nat) : (st ++ x :: l)[st.length + 1 + j]? = l[j]? := by
  rw [List.getElem?_append_right (by omega)]
  rw [show st.length + 1 + j - st.length = j + 1 by omega]
  rfl
theorem set_t (st : Sto) (x a : D) (l : Sto) (j : Nat) : (st ++ x :: l).set (st.length + 1 + j) a = st ++ x :: l.set j a := by
  rw [List.set_append_right _ _ (by omega)]
  rw [show st.length + 1 + j - st.length = j + 1 by omega]
  rfl
theorem leave_old {a0 x4 : Option D} {i : Int} {s : Stp} {tab : List (Key × D)} {lists : Sto} {j : Nat} {ns : List D} (hv : valD tab (.inl s.a) = some (.cell (st.length + 1 + j))) (hj : lists[j]? = some (.lst ns)) (hl : tab.length < 1000) (hn : ns.length < 1000) :
    l_leaving_table_1 C ⟨[a0, some (.cell st.length), some (.int i), some s.d, x4], st ++ .dic tab :: lists⟩ = .ok (.nx ⟨[a0, some (.cell st.length), some (.int i), some s.d, some (.cell (st.length + 1 + j))], st ++ .dic tab :: (lists ++ [D.lst []]).set j (D.lst (ns ++ [D.int i]))⟩) := by
  have e1 : s.d = .tup [.int s.a, .str s.w, .int s.b] := rfl
  have hl' : tab.length < 1000000 := by omega
  have hn' : ns.length < 1000000 := by omega
  have hjl : j < lists.length := (List.getElem?_eq_some_iff.mp hj).1
  have g : (lists ++ [D.lst []])[j]? = some (.lst ns) := by rw [List.getElem?_append_left hjl]; exact hj
  have a : (st ++ .dic tab :: lists) ++ [.lst []] = st ++ .dic tab :: (lists ++ [.lst []]) := by simp
  rw [e1]
  simp [l_leaving_table_1, hv, hl', get_t, set_t, g, hn', a]
theorem leave_new {a0 x4 : Option D} {i : Int} {s : Stp} {tab : List (Key × D)} {lists : Sto} (hv : valD tab (.inl s.a) = none) (hl : tab.length < 1000) :
    l_leaving_table_1 C ⟨[a0, some (.cell st.length), some (.int i), some s.d, x4], st ++ .dic tab :: lists⟩ = .ok (.nx ⟨[a0, some (.cell st.length), some (.int i), some s.d, some (.cell (st.length + 1 + lists.length))], st ++ .dic (tab ++ [(.inl s.a, .cell (st.length + 1 + lists.length))]) :: (lists ++ [.lst [.int i]])⟩) := by
  have e1 : s.d = .tup [.int s.a, .str s.w, .int s.b] := rfl
  have hl' : tab.length < 1000000 := by omega
  have g : ∀ x : D, (lists ++ [x])[lists.length]? = some x := fun x => by simp
  have a : (st ++ .dic tab :: lists) ++ [.lst []] = st ++ .dic tab :: (lists ++ [.lst []]) := by simp
  have hp : ∀ v, putD tab (.inl s.a) v = tab ++ [(.inl s.a, v)] := fun v => put_new (fun z => by
    have := hasD_mem.mpr z
    rw [hasD_val, hv] at this; cases this)
  have n1 : st.length + (lists.length + 1) = st.length + 1 + lists.length := by omega
  rw [e1]
  simp [l_leaving_table_1, hv, hl', get_t, set_t, g, a, hp, n1]
/-- what stands behind the turns over l -/
structure LeaveAt (n : Nat) (l : List Stp) (tab : List (Key × D)) (lists : Sto) : Prop where
  keys : tab.map (·.1) = (srcs l).map fun s => (.inl s : Key)
  len : lists.length = l.length
  at_ : ∀ s ∈ srcs l, ∃ j x, l[j]? = some x ∧ x.a = s ∧ valD tab (.inl s) = some (.cell (n + 1 + j)) ∧ lists[j]? = some (.lst (iDs (nums l s)))
theorem srcs_len : ∀ l : List Stp, (srcs l).length ≤ l.length := by
  have gen : ∀ (l : List Stp) (acc : List Int), (l.foldl (fun acc x => addI acc x.a) acc).length ≤ acc.length + l.length := by
    intro l
    induction l with
    | nil => intro acc; simp
    | cons x l ih =>
      intro acc
      rw [List.foldl_cons]
      have h1 := ih (addI acc x.a)
      have h2 : (addI acc x.a).length ≤ acc.length + 1 := by unfold addI; split <;> simp
      rw [List.length_cons]
      omega
  intro l
  have := gen l []
  simpa [srcs] using this
theorem numsF_len : ∀ (l : List Stp) (o : Nat) (s : Int), (numsF o l s).length ≤ l.length
  | [], _, _ => by simp [numsF]
  | x :: l, o, s => by
    have := numsF_len l (o + 1) s
    simp only [numsF, List.length_append, List.length_cons]
    split <;> simp <;> omega
theorem mem_srcs : ∀ (l : List Stp) (s : Int), s ∈ srcs l ↔ ∃ x ∈ l, x.a = s := by
  have gen : ∀ (l : List Stp) (acc : List Int) (s : Int), s ∈ l.foldl (fun acc x => addI acc x.a) acc ↔ s ∈ acc ∨ ∃ x ∈ l, x.a = s := by
    intro l
    induction l with
    | nil => intro acc s; simp
    | cons x l ih =>
      intro acc s
      rw [List.foldl_cons, ih, addI_mem]
      constructor
      · rintro ((h | h) | ⟨y, hy, e⟩)
        · exact .inl h
        · exact .inr ⟨x, List.mem_cons_self, h.symm⟩
        · exact .inr ⟨y, List.mem_cons_of_mem _ hy, e⟩
      · rintro (h | ⟨y, hy, e⟩)
        · exact .inl (.inl h)
        · rcases List.mem_cons.mp hy with z | hy
          · subst z; exact .inl (.inr e.symm)
          · exact .inr ⟨y, hy, e⟩
  intro l s
  have := gen l [] s
  simpa [srcs] using this
theorem leave_step {a0 x4 : Option D} {l : List Stp} {s : Stp} {tab : List (Key × D)} {lists : Sto} (h : LeaveAt st.length l tab lists) (hl : l.length < 900) :
    ∃ tab' lists' x, LeaveAt st.length (l ++ [s]) tab' lists' ∧ l_leaving_table_1 C ⟨[a0, some (.cell st.length), some (.int (l.length : Nat)), some s.d, x4], st ++ .dic tab :: lists⟩ = .ok (.nx ⟨[a0, some (.cell st.length), some (.int (l.length : Nat)), some s.d, some x], st ++ .dic tab' :: lists'⟩) := by
  have hk : tab.length < 1000 := by
    have := congrArg List.length h.keys
    rw [List.length_map, List.length_map] at this
    have := srcs_len l
    omega
  by_cases hm : s.a ∈ srcs l
  · obtain ⟨j, x, hj, ex, hv, hg⟩ := h.at_ _ hm
    have hjl : j < l.length := (List.getElem?_eq_some_iff.mp hj).1
    have hjl' : j < lists.length := by rw [h.len]; exact hjl
    have hnl : (iDs (nums l s.a)).length < 1000 := by
      rw [List.length_map]
      have := numsF_len l 0 s.a
      show (numsF 0 l s.a).length < 1000
      omega
    have t := leave_old (C := C) (st := st) (a0 := a0) (x4 := x4) (i := ((l.length : Nat) : Int)) (s := s) hv hg hk hnl
    refine ⟨tab, _, _, ⟨?_, ?_, fun u hu => ?_⟩, t⟩
    · rw [srcs_app]; unfold addI; rw [if_pos hm]; exact h.keys
    · simp [h.len]
    · rw [srcs_app] at hu
      unfold addI at hu
      rw [if_pos hm] at hu
      obtain ⟨j2, x2, hj2, ex2, hv2, hg2⟩ := h.at_ _ hu
      have hjl2 : j2 < lists.length := (List.getElem?_eq_some_iff.mp hg2).1
      refine ⟨j2, x2, by rw [List.getElem?_append_left (by rw [h.len] at hjl2; exact hjl2)]; exact hj2, ex2, hv2, ?_⟩
      rw [show nums (l ++ [s]) u = _ from numsF_app]
      by_cases e : s.a = u
      · subst e
        have : j2 = j := by
          rw [hv] at hv2
          have e2 := Option.some.inj hv2
          have e3 : st.length + 1 + j = st.length + 1 + j2 := by injection e2
          omega
        subst this
        rw [List.getElem?_set_self (by simp; omega), if_pos rfl]
        simp
      · rw [if_neg e, List.append_nil, List.getElem?_set_ne]
        · rw [List.getElem?_append_left hjl2]; exact hg2
        · intro z
          subst z
          rw [hj] at hj2
          have := Option.some.inj hj2
          subst this
          exact e (ex.symm.trans ex2)
  · have hv : valD tab (.inl s.a) = none := by
      cases q : valD tab (.inl s.a) with
      | none => rfl
      | some d =>
        have : hasD tab (.inl s.a : Key) = true := by rw [hasD_val, q]; rfl
        have := hasD_mem.mp this
        rw [h.keys] at this
        obtain ⟨u, hu, e⟩ := List.mem_map.mp this
        cases e
        exact absurd hu hm
    have t := leave_new (C := C) (st := st) (a0 := a0) (x4 := x4) (i := ((l.length : Nat) : Int)) (s := s) (lists := lists) hv hk
    refine ⟨_, _, _, ⟨?_, ?_, fun u hu => ?_⟩, t⟩
    · rw [srcs_app]
      unfold addI
      rw [if_neg hm, List.map_append, List.map_append, h.keys]
      rfl
    · simp [h.len]
    · rw [srcs_app, addI_mem] at hu
      rw [show nums (l ++ [s]) u = _ from numsF_app]
      by_cases e : s.a = u
      · subst e
        refine ⟨l.length, s, by simp, rfl, ?_, ?_⟩
        · rw [← put_new (v := .cell (st.length + 1 + lists.length)) (fun z => by
            have := hasD_mem.mpr z
            rw [hasD_val, hv] at this; cases this), val_put, if_pos rfl, h.len]
        · have n0 : numsF 0 l s.a = [] := by
            have gen : ∀ (l : List Stp) (o : Nat), s.a ∉ srcs l → numsF o l s.a = [] := by
              intro l
              induction l with
              | nil => intro o _; rfl
              | cons y l ih =>
                intro o hn
                have h1 : ¬ y.a = s.a := fun z => hn ((mem_srcs _ _).mpr ⟨y, List.mem_cons_self, z⟩)
                have h2 : s.a ∉ srcs l := fun z => by
                  obtain ⟨q, hq, e⟩ := (mem_srcs _ _).mp z
                  exact hn ((mem_srcs _ _).mpr ⟨q, List.mem_cons_of_mem _ hq, e⟩)
                simp only [numsF, if_neg h1, List.nil_append]
                exact ih _ h2
            exact gen l 0 hm
          rw [n0, if_pos rfl, ← h.len]
          simp
      · have hu' : u ∈ srcs l := hu.elim id fun z => absurd z.symm e
        obtain ⟨j2, x2, hj2, ex2, hv2, hg2⟩ := h.at_ _ hu'
        have hjl2 : j2 < lists.length := (List.getElem?_eq_some_iff.mp hg2).1
        refine ⟨j2, x2, by rw [List.getElem?_append_left (by rw [h.len] at hjl2; exact hjl2)]; exact hj2, ex2, ?_, ?_⟩
        · rw [← put_new (v := .cell (st.length + 1 + lists.length)) (fun z => by
            have := hasD_mem.mpr z
            rw [hasD_val, hv] at this; cases this), val_put, if_neg (fun z => e (by cases z; rfl))]
          exact hv2
        · rw [if_neg e, List.append_nil, List.getElem?_append_left hjl2]; exact hg2
/-- the table -/
def leaving (l : List Stp) : List (Key × D) := (srcs l).map fun s => (.inl s, .lst (iDs (nums l s)))
theorem mapO2_eq {κ : Type} {f : D → Option D} : ∀ {kvs : List (κ × D)} {us : List (κ × D)}, kvs.map (·.1) = us.map (·.1) → (∀ (i : Nat) (k : κ) (d : D), kvs[i]? = some (k, d) → ∃ e, us[i]? = some (k, e) ∧ f d = some e) → mapO2 f kvs = some us
  | [], us, hk, h => by
    cases us with
    | nil => rfl
    | cons a b => simp at hk
  | (k, d) :: kvs, us, hk, h => by
    cases us with
    | nil => simp at hk
    | cons u us =>
      simp only [List.map_cons, List.cons.injEq] at hk
      obtain ⟨e, h1, h2⟩ := h 0 k d rfl
      have hu : u = (k, e) := by simpa using h1
      have := mapO2_eq (f := f) hk.2 (fun i k d q => by
        obtain ⟨e, h3, h4⟩ := h (i + 1) k d (by simpa using q)
        exact ⟨e, by simpa using h3, h4⟩)
      simp only [mapO2, h2, this, hu]
def LeaveInv (st : Sto) (a0 : Option D) (l : List Stp) (i : Nat) (r : RE) : Prop := ∃ tab lists x2 x3 x4, r = ⟨[a0, some (.cell st.length), x2, x3, x4], st ++ .dic tab :: lists⟩ ∧ LeaveAt st.length (l.take i) tab lists
theorem st_pair23 {x0 x1 x2 x3 x4 : Option D} {so : Sto} {a b : D} : stUnp 2 (stCons (stName 2) (stCons (stName 3) stNil)) (.tup [a, b]) ⟨[x0, x1, x2, x3, x4], so⟩ = some ⟨[x0, x1, some a, some b, x4], so⟩ := rfl
theorem leave_loop {a0 : Option D} {l : List Stp} (hl : l.length ≤ 800) : ∃ tab lists x2 x3 x4, LeaveAt st.length l tab lists ∧ mLoop (stUnp 2 (stCons (stName 2) (stCons (stName 3) stNil))) (l_leaving_table_1 C) (enumD 0 (l.map Stp.d)) ⟨[a0, some (.cell st.length), none, none, none], st ++ [.dic []]⟩ =
    .ok (.nx ⟨[a0, some (.cell st.length), x2, x3, x4], st ++ .dic tab :: lists⟩) := by
  have turn : ∀ (i : Nat) (x : D) (r : RE), (enumD 0 (l.map Stp.d))[i]? = some x → LeaveInv st a0 l i r → ∃ r1 r2, stUnp 2 (stCons (stName 2) (stCons (stName 3) stNil)) x r = some r1 ∧ (l_leaving_table_1 C r1 = .ok (.nx r2) ∨ l_leaving_table_1 C r1 = .ok (.ct r2)) ∧ LeaveInv st a0 l (i + 1) r2 := by
    rintro i x r hx ⟨tab, lists, x2, x3, x4, rfl, h⟩
    obtain ⟨s, hs, rfl⟩ := enum_steps hx
    have hil : i < l.length := (List.getElem?_eq_some_iff.mp hs).1
    have hlt : (l.take i).length = i := by rw [List.length_take]; omega
    obtain ⟨tab', lists', y, h', t⟩ := leave_step (C := C) (st := st) (a0 := a0) (x4 := x4) (s := s) h (by omega)
    rw [hlt] at t
    rw [← take_succ hs] at h'
    exact ⟨_, _, st_pair23, .inl t, tab', lists', _, _, _, rfl, h'⟩
  obtain ⟨r', h1, tab, lists, x2, x3, x4, rfl, h⟩ := loop_inv (r := ⟨[a0, some (.cell st.length), none, none, none], st ++ [.dic []]⟩) (LeaveInv st a0 l) ⟨[], [], none, none, none, rfl, ⟨rfl, by simp, fun s hs => by simp [srcs] at hs⟩⟩ turn
  rw [enumD_len, List.length_map, List.take_length] at h
  exact ⟨tab, lists, x2, x3, x4, h, h1⟩
theorem okCL_ints {n : Nat} : ∀ l : List Int, okCL n (iDs l) = true
  | [] => rfl
  | s :: l => by simp only [iDs, List.map_cons, okCL, okC]; exact Bool.and_eq_true_iff.mpr ⟨rfl, okCL_ints l⟩
theorem srcs_nodup (l : List Stp) : (srcs l).Nodup := by
  have gen : ∀ (l : List Stp) (acc : List Int), acc.Nodup → (l.foldl (fun acc x => addI acc x.a) acc).Nodup := by
    intro l
    induction l with
    | nil => intro acc h; exact h
    | cons x l ih =>
      intro acc h
      rw [List.foldl_cons]
      refine ih _ ?_
      unfold addI
      split
      · exact h
      · rename_i q
        rw [List.nodup_append]
        exact ⟨h, by simp, fun a ha b hb => by simp at hb; subst hb; exact fun e => q (e ▸ ha)⟩
  exact gen l [] (by simp)
theorem leave_rsv {l : List Stp} {tab : List (Key × D)} {lists : Sto} (h : LeaveAt st.length l tab lists) : rsv (st ++ .dic tab :: lists) st.length 20 (.cell st.length) = some (.dic (leaving l)) := by
  rw [rsv_cell (d := .dic tab) (Nat.lt_irrefl _) (get_0 _ _ _)]
  have m : mapO2 (rsv (st ++ .dic tab :: lists) st.length 18) tab = some (leaving l) := by
    refine mapO2_eq (by rw [h.keys]; unfold leaving; rw [List.map_map]; rfl) fun i k d e => ?_
    have ki : (tab.map (·.1))[i]? = some k := by rw [List.getElem?_map, e]; rfl
    rw [h.keys, List.getElem?_map] at ki
    obtain ⟨s, hs, rfl⟩ := Option.map_eq_some_iff.mp ki
    refine ⟨.lst (iDs (nums l s)), by unfold leaving; rw [List.getElem?_map, hs]; rfl, ?_⟩
    obtain ⟨j, x, h1, h2, h3, h4⟩ := h.at_ s (List.mem_of_getElem? hs)
    have nd : (tab.map (·.1)).Nodup := by rw [h.keys]; exact nodup_map (fun a b e => by cases e; rfl) (srcs_nodup l)
    have := val_mem nd (List.mem_of_getElem? e)
    rw [h3] at this
    cases this
    rw [rsv_cell (d := .lst (iDs (nums l s))) (by omega) (by rw [get_t]; exact h4)]
    exact rsv_ok (okCL_ints _)
  show rsv (st ++ .dic tab :: lists) st.length 19 (.dic tab) = _
  unfold rsv
  split
  · rename_i q
    -- no cell at all: the table is empty
    cases ht : tab with
    | nil =>
      rw [ht] at m
      have : leaving l = [] := by simpa [mapO2] using m.symm
      rw [this]
    | cons p t =>
      exfalso
      obtain ⟨k, d⟩ := p
      have ki : (tab.map (·.1))[0]? = some k := by rw [ht]; rfl
      rw [h.keys, List.getElem?_map] at ki
      obtain ⟨s, hs, rfl⟩ := Option.map_eq_some_iff.mp ki
      obtain ⟨j, x, h1, h2, h3, h4⟩ := h.at_ s (List.mem_of_getElem? hs)
      have : d = .cell (st.length + 1 + j) := by
        rw [ht] at h3
        simpa [valD] using h3
      subst this
      rw [ht] at q
      simp only [okC, okCK, Bool.and_eq_true, decide_eq_true_eq] at q
      omega
  · simp only [m, Option.map_some]
theorem p_leaving {l : List Stp} (hl : l.length ≤ 800) : f_leaving_table C [.lst (l.map Stp.d)] st = .ok (.dic (leaving l), st) := by
  obtain ⟨tab, lists, x2, x3, x4, h, e⟩ := leave_loop (C := C) (st := st) (a0 := some (.lst (l.map Stp.d))) hl
  refine cut_rsv (d := .cell st.length) (j := .dic tab :: lists) ?_ (leave_rsv h)
  simp [k_leaving_table, b_leaving_table]
  rw [e]
  simp
end Lm

set_option maxHeartbeats 400000
namespace Lm
open PySem L2 Mir
variable {C : Cl} {st : Sto}
/-! ## what is reached -/
inductive Reach (l : List Stp) (start : Int) : Int → Prop
  | base : Reach l start start
  | step {x : Int} {s : Stp} : Reach l start x → s ∈ l → s.a = x → Reach l start s.b
/-- the ascending list of it -/
structure States (l : List Stp) (start : Int) (xs : List Int) : Prop where
  asc : xs.Pairwise fun a b => a < b
  mem : ∀ x, x ∈ xs ↔ Reach l start x
theorem asc_nodup {xs : List Int} (h : xs.Pairwise fun a b => a < b) : xs.Nodup := h.imp fun h => Int.ne_of_lt h
theorem States.uniq {l : List Stp} {start : Int} {xs ys : List Int} (h : States l start xs) (k : States l start ys) : xs = ys :=
  List.Perm.eq_of_pairwise (fun a b _ _ h1 h2 => absurd (Int.lt_trans h1 h2) (Int.lt_irrefl _)) h.asc k.asc ((List.perm_ext_iff_of_nodup (asc_nodup h.asc) (asc_nodup k.asc)).mpr fun x => (h.mem x).trans (k.mem x).symm)
theorem states_of {l : List Stp} {start : Int} {met : List Int} (nd : met.Nodup) (h : ∀ x, x ∈ met ↔ Reach l start x) : States l start (sortI met) where
  asc := by
    have n2 : (sortI met).Nodup := (sortI_perm met).nodup_iff.mpr nd
    exact (List.pairwise_and_iff.mpr ⟨sortI_sorted met, n2⟩).imp fun ⟨h1, h2⟩ => Int.lt_iff_le_and_ne.mpr ⟨h1, h2⟩
  mem := fun x => (sortI_perm met).mem_iff.trans (h x)
/-! the search -/
def visit (p : List Int × List Int) (t : Int) : List Int × List Int := if t ∈ p.1 then p else (p.1 ++ [t], p.2 ++ [t])
structure Visited (p q : List Int × List Int) (ts : List Int) : Prop where
  nd : p.1.Nodup → q.1.Nodup
  m1 : ∀ x ∈ p.1, x ∈ q.1
  w1 : ∀ x ∈ p.2, x ∈ q.2
  all : ∀ t ∈ ts, t ∈ q.1
  old : ∀ x ∈ q.1, x ∈ p.1 ∨ x ∈ ts
  w2 : ∀ x ∈ q.2, x ∈ p.2 ∨ x ∈ q.1
  new : ∀ x ∈ q.1, x ∉ p.1 → x ∈ q.2
  len : q.1.length + p.2.length = p.1.length + q.2.length
theorem visit_one (p : List Int × List Int) (t : Int) : Visited p (visit p t) [t] := by
  unfold visit
  split
  · rename_i h
    exact ⟨id, fun _ h => h, fun _ h => h, fun x hx => by simp at hx; subst hx; exact h, fun x hx => .inl hx, fun x hx => .inl hx, fun x hx hn => absurd hx hn, rfl⟩
  · rename_i h
    refine ⟨fun nd => ?_, fun x hx => by simp [hx], fun x hx => by simp [hx], fun x hx => by simp at hx; simp [hx], fun x hx => by simpa using hx, fun x hx => ?_, fun x hx hn => ?_, by simp; omega⟩
    · rw [List.nodup_append]
      exact ⟨nd, by simp, fun a ha b hb => by simp at hb; subst hb; exact fun e => h (e ▸ ha)⟩
    · simp at hx ⊢
      rcases hx with hx | hx
      · exact .inl hx
      · exact .inr (.inr hx)
    · simp at hx ⊢
      rcases hx with hx | hx
      · exact absurd hx hn
      · exact .inr hx
theorem Visited.trans {p q r : List Int × List Int} {ts us : List Int} (h : Visited p q ts) (k : Visited q r us) : Visited p r (ts ++ us) where
  nd := fun z => k.nd (h.nd z)
  m1 := fun x hx => k.m1 x (h.m1 x hx)
  w1 := fun x hx => k.w1 x (h.w1 x hx)
  all := fun t ht => (List.mem_append.mp ht).elim (fun z => k.m1 t (h.all t z)) (k.all t)
  old := fun x hx => (k.old x hx).elim (fun z => (h.old x z).elim .inl fun y => .inr (List.mem_append_left _ y)) fun z => .inr (List.mem_append_right _ z)
  w2 := fun x hx => (k.w2 x hx).elim (fun z => (h.w2 x z).elim .inl fun y => .inr (k.m1 x y)) .inr
  new := fun x hx hn => by
    by_cases z : x ∈ q.1
    · exact k.w1 x (h.new x z hn)
    · exact k.new x hx z
  len := by have := h.len; have := k.len; omega
theorem visit_all : ∀ (ts : List Int) (p : List Int × List Int), Visited p (ts.foldl visit p) ts
  | [], p => ⟨id, fun _ h => h, fun _ h => h, (fun _ h => by cases h), fun _ h => .inl h, fun _ h => .inl h, fun x hx hn => absurd hx hn, rfl⟩
  | t :: ts, p => (visit_one p t).trans (visit_all ts (visit p t))
def tgs (l : List Stp) (s : Int) : List Int := (l.filter fun x => decide (x.a = s)).map (·.b)
theorem mem_tgs {l : List Stp} {s t : Int} : t ∈ tgs l s ↔ ∃ x ∈ l, x.a = s ∧ x.b = t := by
  unfold tgs
  simp only [List.mem_map, List.mem_filter, decide_eq_true_eq]
  exact ⟨fun ⟨x, ⟨h1, h2⟩, h3⟩ => ⟨x, h1, h2, h3⟩, fun ⟨x, h1, h2, h3⟩ => ⟨x, ⟨h1, h2⟩, h3⟩⟩
/-- where the search stands -/
structure Dfs (l : List Stp) (start : Int) (p : List Int × List Int) : Prop where
  nd : p.1.Nodup
  sub : ∀ x ∈ p.2, x ∈ p.1
  rch : ∀ x ∈ p.1, Reach l start x
  clo : ∀ x ∈ p.1, x ∉ p.2 → ∀ t ∈ tgs l x, t ∈ p.1
  st : start ∈ p.1
theorem Dfs.turn {l : List Stp} {start s : Int} {met w : List Int} (h : Dfs l start (met, w ++ [s])) : Dfs l start ((tgs l s).foldl visit (met, w)) := by
  have v := visit_all (tgs l s) (met, w)
  have hs : s ∈ met := h.sub s (by simp)
  refine ⟨v.nd h.nd, fun x hx => (v.w2 x hx).elim (fun z => v.m1 x (h.sub x (List.mem_append_left _ z))) id, fun x hx => ?_, fun x hx hn t ht => ?_, v.m1 _ h.st⟩
  · rcases v.old x hx with z | z
    · exact h.rch x z
    · obtain ⟨q, h1, h2, rfl⟩ := mem_tgs.mp z
      exact .step (h.rch s hs) h1 h2
  · by_cases z : x ∈ met
    · by_cases y : x ∈ w ++ [s]
      · rcases List.mem_append.mp y with y | y
        · exact absurd (v.w1 x y) hn
        · have : x = s := by simpa using y
          subst this
          exact v.all t ht
      · exact v.m1 t (h.clo x z y t ht)
    · exact absurd (v.new x hx z) hn
theorem Dfs.done {l : List Stp} {start : Int} {met : List Int} (h : Dfs l start (met, [])) : ∀ x, x ∈ met ↔ Reach l start x := fun x => by
  refine ⟨h.rch x, fun r => ?_⟩
  induction r with
  | base => exact h.st
  | step r hs e ih => exact h.clo _ ih (by simp) _ (mem_tgs.mpr ⟨_, hs, e, rfl⟩)
theorem Dfs.small {l : List Stp} {start : Int} {p : List Int × List Int} (h : Dfs l start p) : p.1.length ≤ l.length + 1 := by
  have : ∀ x ∈ p.1, x ∈ start :: l.map (·.b) := fun x hx => by
    cases h.rch x hx with
    | base => simp
    | step r hs e => exact List.mem_cons_of_mem _ (List.mem_map.mpr ⟨_, hs, rfl⟩)
  have := nodup_sub_len h.nd this
  simpa using this
/-! the mirror -/
def mDic (met : List Int) : List (Key × D) := met.map fun s => (.inl s, .bl true)
theorem mDic_keys (met : List Int) : (mDic met).map (·.1) = met.map fun s => (.inl s : Key) := by unfold mDic; rw [List.map_map]; rfl
theorem mDic_has {met : List Int} {t : Int} : (valD (mDic met) (.inl t)).isSome = decide (t ∈ met) := by
  rw [← hasD_val, Bool.eq_iff_iff, hasD_mem, mDic_keys]
  simp
theorem mDic_put {met : List Int} {t : Int} (h : t ∉ met) : putD (mDic met) (.inl t) (.bl true) = mDic (met ++ [t]) := by
  rw [put_new (by rw [mDic_keys]; simpa using h)]
  unfold mDic
  simp
theorem reach_turn {x0 x2 x5 x7 : Option D} {l : List Stp} {k : Nat} {s : Stp} {p : List Int × List Int} (hk : l[k]? = some s) (h1 : p.1.length < 1000) (h2 : p.2.length < 1000) :
    l_reached_states_1 C ⟨[x0, some (.lst (l.map Stp.d)), x2, some (.cell st.length), some (.cell (st.length + 1)), x5, some (.int (k : Nat)), x7], st ++ [.dic (mDic p.1), .lst (iDs p.2)]⟩ =
      .ok (.nx ⟨[x0, some (.lst (l.map Stp.d)), x2, some (.cell st.length), some (.cell (st.length + 1)), x5, some (.int (k : Nat)), some (.int s.b)], st ++ [.dic (mDic (visit p s.b).1), .lst (iDs (visit p s.b).2)]⟩) := by
  have e : atI (l.map Stp.d) (k : Nat) = some (.tup [.int s.a, .str s.w, .int s.b]) := by
    refine atI_nat ?_
    rw [List.getElem?_map, hk]; rfl
  have hv := mDic_has (met := p.1) (t := s.b)
  have l1 : (mDic p.1).length < 1000000 := by unfold mDic; rw [List.length_map]; omega
  have l2 : p.2.length < 1000000 := by omega
  by_cases h : s.b ∈ p.1
  · have e2 : visit p s.b = p := by unfold visit; rw [if_pos h]
    rw [e2]
    rw [decide_eq_true h] at hv
    simp [l_reached_states_1, e, hasIn, hv]
  · have e2 : visit p s.b = (p.1 ++ [s.b], p.2 ++ [s.b]) := by unfold visit; rw [if_neg h]
    rw [e2]
    rw [decide_eq_false h] at hv
    simp [l_reached_states_1, e, hasIn, hv, l1, l2, mDic_put h]
def pairs : Nat → List Stp → Int → List (Nat × Stp)
  | _, [], _ => []
  | o, x :: l, s => (if x.a = s then [(o, x)] else []) ++ pairs (o + 1) l s
theorem pairs_nums : ∀ (l : List Stp) (o : Nat) (s : Int), numsF o l s = (pairs o l s).map fun p => ((p.1 : Nat) : Int)
  | [], _, _ => rfl
  | x :: l, o, s => by
    simp only [numsF, pairs, List.map_append, pairs_nums l]
    split <;> rfl
theorem pairs_tgs : ∀ (l : List Stp) (o : Nat) (s : Int), (pairs o l s).map (fun p => p.2.b) = tgs l s
  | [], _, _ => rfl
  | x :: l, o, s => by
    have := pairs_tgs l (o + 1) s
    unfold tgs at this ⊢
    simp only [pairs, List.map_append, this, List.filter_cons]
    by_cases h : x.a = s <;> simp [h]
theorem pairs_at : ∀ (l : List Stp) (o : Nat) (s : Int), ∀ p ∈ pairs o l s, ∃ k, p.1 = o + k ∧ l[k]? = some p.2
  | [], _, _, p, h => by cases h
  | x :: l, o, s, p, h => by
    simp only [pairs, List.mem_append] at h
    rcases h with h | h
    · split at h
      · have : p = (o, x) := by simpa using h
        subst this
        exact ⟨0, rfl, rfl⟩
      · cases h
    · obtain ⟨k, h1, h2⟩ := pairs_at l (o + 1) s p h
      exact ⟨k + 1, by omega, by simpa using h2⟩
def ReachInv (st : Sto) (x0 x1 x2 : Option D) (p : List Int × List Int) (r : RE) : Prop := ∃ x5 x6 x7, r = ⟨[x0, x1, x2, some (.cell st.length), some (.cell (st.length + 1)), x5, x6, x7], st ++ [.dic (mDic p.1), .lst (iDs p.2)]⟩
theorem visit_len (p : List Int × List Int) (t : Int) : (visit p t).1.length ≤ p.1.length + 1 ∧ (visit p t).2.length ≤ p.2.length + 1 := by
  unfold visit
  split <;> simp
theorem reach_inner {x0 x2 : Option D} {l : List Stp} : ∀ (ps : List (Nat × Stp)) (p : List Int × List Int) (r : RE), (∀ q ∈ ps, l[q.1]? = some q.2) → p.1.length + ps.length < 1000 → p.2.length + ps.length < 1000 → ReachInv st x0 (some (.lst (l.map Stp.d))) x2 p r →
    ∃ r', mLoop (stName 6) (l_reached_states_1 C) (ps.map fun q => .int ((q.1 : Nat) : Int)) r = .ok (.nx r') ∧ ReachInv st x0 (some (.lst (l.map Stp.d))) x2 ((ps.map fun q => q.2.b).foldl visit p) r'
  | [], p, r, _, _, _, h => ⟨r, rfl, h⟩
  | q :: ps, p, r, hq, h1, h2, h => by
    obtain ⟨x5, x6, x7, rfl⟩ := h
    rw [List.length_cons] at h1 h2
    have hv := visit_len p q.2.b
    have t := reach_turn (C := C) (st := st) (x0 := x0) (x2 := x2) (x5 := x5) (x7 := x7) (k := q.1) (s := q.2) (p := p) (hq q List.mem_cons_self) (by omega) (by omega)
    obtain ⟨r', e, i⟩ := reach_inner ps (visit p q.2.b) ⟨[x0, some (.lst (l.map Stp.d)), x2, some (.cell st.length), some (.cell (st.length + 1)), x5, some (.int (q.1 : Nat)), some (.int q.2.b)], st ++ [.dic (mDic (visit p q.2.b).1), .lst (iDs (visit p q.2.b).2)]⟩ (fun z hz => hq z (List.mem_cons_of_mem _ hz)) (by omega) (by omega) ⟨x5, _, _, rfl⟩
    refine ⟨r', ?_, i⟩
    rw [List.map_cons, loop_cons (st := stName 6) rfl t]
    exact e
theorem leaving_get {l : List Stp} {s : Int} : (valD (leaving l) (.inl s)).getD (.lst []) = .lst (iDs (nums l s)) := by
  have hk : (leaving l).map (·.1) = (srcs l).map fun s => (.inl s : Key) := by unfold leaving; rw [List.map_map]; rfl
  by_cases h : s ∈ srcs l
  · have : ((.inl s : Key), D.lst (iDs (nums l s))) ∈ leaving l := by unfold leaving; exact List.mem_map.mpr ⟨s, h, rfl⟩
    rw [val_mem (by rw [hk]; exact nodup_map (fun a b e => by cases e; rfl) (srcs_nodup l)) this]
    rfl
  · have : valD (leaving l) (.inl s) = none := by
      cases q : valD (leaving l) (.inl s) with
      | none => rfl
      | some d =>
        have : hasD (leaving l) (.inl s : Key) = true := by rw [hasD_val, q]; rfl
        have := hasD_mem.mp this
        rw [hk] at this
        obtain ⟨u, hu, e⟩ := List.mem_map.mp this
        cases e
        exact absurd hu h
    rw [this]
    have n0 : nums l s = [] := by
      show numsF 0 l s = []
      have e := congrArg List.length (pairs_tgs l 0 s)
      have : tgs l s = [] := by
        cases q : tgs l s with
        | nil => rfl
        | cons t ts =>
          obtain ⟨x, h1, h2, _⟩ := mem_tgs.mp (q ▸ List.mem_cons_self : t ∈ tgs l s)
          exact absurd ((mem_srcs _ _).mpr ⟨x, h1, h2⟩) h
      rw [this] at e
      rw [pairs_nums]
      cases q : pairs 0 l s with
      | nil => rfl
      | cons a b => rw [q] at e; simp at e
    rw [n0]
    rfl
theorem reach_outer {x0 : Option D} {l : List Stp} {s : Int} {met w : List Int} {r : RE} (hl : l.length ≤ 400) (h1 : met.length ≤ 500) (h2 : w.length ≤ 500) (h : ReachInv st x0 (some (.lst (l.map Stp.d))) (some (.dic (leaving l))) (met, w ++ [s]) r) :
    ∃ r', l_reached_states_3 C r = .ok (.nx r') ∧ ReachInv st x0 (some (.lst (l.map Stp.d))) (some (.dic (leaving l))) ((tgs l s).foldl visit (met, w)) r' := by
  obtain ⟨x5, x6, x7, rfl⟩ := h
  have hp : (pairs 0 l s).length ≤ l.length := by
    have := numsF_len l 0 s
    rw [pairs_nums, List.length_map] at this
    exact this
  obtain ⟨r', e, i⟩ := reach_inner (C := C) (st := st) (x0 := x0) (x2 := some (.dic (leaving l))) (l := l) (pairs 0 l s) (met, w) ⟨[x0, some (.lst (l.map Stp.d)), some (.dic (leaving l)), some (.cell st.length), some (.cell (st.length + 1)), some (.int s), x6, x7], st ++ [.dic (mDic met), .lst (iDs w)]⟩ (fun q hq => by
    obtain ⟨k, h1, h2⟩ := pairs_at l 0 s q hq
    rw [h1, Nat.zero_add]; exact h2) (by show met.length + _ < _; omega) (by show w.length + _ < _; omega) ⟨_, _, _, rfl⟩
  rw [pairs_tgs] at i
  refine ⟨r', ?_, i⟩
  have hg := leaving_get (l := l) (s := s)
  have en : iDs (nums l s) = (pairs 0 l s).map fun q => .int ((q.1 : Nat) : Int) := by
    show (numsF 0 l s).map D.int = _
    rw [pairs_nums, List.map_map]; rfl
  rw [← en] at e
  simp [l_reached_states_3, getA, hg]
  exact e
def WhileInv (st : Sto) (l : List Stp) (start : Int) (m : Nat) (r : RE) : Prop := ∃ p, Dfs l start p ∧ m + p.1.length = l.length + 1 + p.2.length ∧ m ≤ l.length + 1 ∧ ReachInv st (some (.int start)) (some (.lst (l.map Stp.d))) (some (.dic (leaving l))) p r
def WhileEnd (st : Sto) (l : List Stp) (start : Int) (r : RE) : Prop := ∃ met, Dfs l start (met, []) ∧ ReachInv st (some (.int start)) (some (.lst (l.map Stp.d))) (some (.dic (leaving l))) (met, []) r
theorem reach_step {l : List Stp} {start : Int} (hl : l.length ≤ 400) (m : Nat) (r : RE) (h : WhileInv st l start m r) : (∃ r1, l_reached_states_2 C r = .ok (false, r1) ∧ WhileEnd st l start r1) ∨ ∃ r1 r2, l_reached_states_2 C r = .ok (true, r1) ∧ (l_reached_states_3 C r1 = .ok (.nx r2) ∨ l_reached_states_3 C r1 = .ok (.ct r2)) ∧ ∃ m', m' < m ∧ WhileInv st l start m' r2 := by
  obtain ⟨⟨met, w⟩, hd, hm, hle, hi⟩ := h
  have hs : met.length ≤ l.length + 1 := hd.small
  simp only at hm
  rcases List.eq_nil_or_concat w with e | ⟨w', s, e⟩
  · subst e
    left
    obtain ⟨x5, x6, x7, rfl⟩ := hi
    exact ⟨_, by simp [l_reached_states_2], met, hd, x5, x6, x7, rfl⟩
  · right
    rw [List.concat_eq_append] at e
    subst e
    rw [List.length_append, List.length_singleton] at hm
    obtain ⟨r', h1, h2⟩ := reach_outer (C := C) hl (by omega) (by omega) hi
    have v := (visit_all (tgs l s) (met, w')).len
    simp only at v
    refine ⟨r, r', ?_, .inl h1, m - 1, by omega, _, hd.turn, by omega, by omega, h2⟩
    obtain ⟨x5, x6, x7, rfl⟩ := hi
    simp [l_reached_states_2]
theorem p_reached {l : List Stp} {start : Int} (hl : l.length ≤ 400) : ∃ xs, States l start xs ∧ f_reached_states C [.int start, .lst (l.map Stp.d), .dic (leaving l)] st = .ok (.lst (iDs xs), st) := by
  have h0 : WhileInv st l start (l.length + 1) ⟨[some (.int start), some (.lst (l.map Stp.d)), some (.dic (leaving l)), some (.cell st.length), some (.cell (st.length + 1)), none, none, none], st ++ [.dic (mDic [start]), .lst (iDs [start])]⟩ :=
    ⟨([start], [start]), ⟨by simp, fun x hx => hx, fun x hx => by simp at hx; subst hx; exact .base, fun x hx hn => absurd hx hn, by simp⟩, by simp, Nat.le_refl _, none, none, none, rfl⟩
  obtain ⟨r', e, met, hd, x5, x6, x7, rfl⟩ := while_run (n := 1000) (WhileInv st l start) (WhileEnd st l start) (reach_step (C := C) hl) h0 (by omega)
  refine ⟨sortI met, states_of hd.nd hd.done, ?_⟩
  refine cut_pure (j := [.dic (mDic met), .lst (iDs [])]) ?_ (okCL_ints _)
  have hk : (mDic met).map kvKey = iDs met := by unfold mDic; rw [List.map_map]; rfl
  have hso : sortOk (iDs met) = true := sortOk_ints met
  have hsi : (iDs met).mergeSort leD = iDs (sortI met) := sort_ints met
  have m0 : mergeD [] [((.inl start : Key), D.bl true)] = mDic [start] := rfl
  have e' : mWhile (l_reached_states_2 C) (l_reached_states_3 C) 1000 ⟨[some (.int start), some (.lst (l.map Stp.d)), some (.dic (leaving l)), some (.cell st.length), some (.cell (st.length + 1)), none, none, none], st ++ [.dic (mDic [start]), .lst [.int start]]⟩ = _ := e
  simp [-List.map_map, k_reached_states, b_reached_states, m0]
  rw [e']
  simp [-List.map_map, hk, hso, hsi]
end Lm

set_option maxHeartbeats 400000
namespace Lm
open PySem L2 Mir
variable {C : Cl} {st : Sto}
/-! ## the words -/
def wKeys (l : List Stp) : List Key := l.map fun s => .inr s.w
theorem allS_inr : ∀ {ks : List Key}, (∀ k ∈ ks, ∃ x, k = .inr x) → KS.hom ks = true := fun {ks} h => by
  unfold KS.hom
  rw [Bool.or_eq_true]
  right
  unfold KS.allS
  rw [List.all_eq_true]
  intro k hk
  obtain ⟨x, rfl⟩ := h k hk
  rfl
def sOf : Key → Str
  | .inr x => x
  | .inl _ => Str.empty
def wordsOf (l : List Stp) : List Str := (KS.sortK (KS.dedupK (wKeys l))).map sOf
theorem mem_wk {l : List Stp} {k : Key} (h : k ∈ KS.sortK (KS.dedupK (wKeys l))) : ∃ s ∈ l, k = .inr s.w := by
  have := KS.mem_dedup.mp ((KS.sortK_perm _).mem_iff.mp h)
  obtain ⟨s, hs, rfl⟩ := List.mem_map.mp this
  exact ⟨s, hs, rfl⟩
theorem words_of {ks : List Key} {l : List Stp} (h : ∀ k, k ∈ ks ↔ k ∈ wKeys l) : (KS.sortK (KS.dedupK ks)).map ofKey = sDs (wordsOf l) := by
  have e : KS.sortK (KS.dedupK ks) = KS.sortK (KS.dedupK (wKeys l)) := KS.sortK_congr (KS.perm_of_mem KS.nodup_dedup KS.nodup_dedup fun k => by rw [KS.mem_dedup, KS.mem_dedup]; exact h k)
  rw [e]
  unfold wordsOf
  simp only [sDs, List.map_map]
  refine List.map_congr_left fun k hk => ?_
  obtain ⟨s, _, rfl⟩ := mem_wk hk
  rfl
theorem mem_words {l : List Stp} {w : Str} : w ∈ wordsOf l ↔ ∃ s ∈ l, s.w = w := by
  unfold wordsOf
  constructor
  · intro h
    obtain ⟨k, hk, rfl⟩ := List.mem_map.mp h
    obtain ⟨s, hs, rfl⟩ := mem_wk hk
    exact ⟨s, hs, rfl⟩
  · rintro ⟨s, hs, rfl⟩
    exact List.mem_map.mpr ⟨.inr s.w, (KS.sortK_perm _).mem_iff.mpr (KS.mem_dedup.mpr (List.mem_map.mpr ⟨s, hs, rfl⟩)), rfl⟩
theorem nodup_words (l : List Stp) : (wordsOf l).Nodup := by
  unfold wordsOf
  have nd : (KS.sortK (KS.dedupK (wKeys l))).Nodup := (KS.sortK_perm _).nodup_iff.mpr KS.nodup_dedup
  have gen : ∀ ks : List Key, ks.Nodup → (∀ k ∈ ks, ∃ x, k = .inr x) → (ks.map sOf).Nodup := by
    intro ks
    induction ks with
    | nil => intro _ _; simp
    | cons k ks ih =>
      intro hn hs
      rw [List.nodup_cons] at hn
      rw [List.map_cons, List.nodup_cons]
      refine ⟨fun z => ?_, ih hn.2 fun j hj => hs j (List.mem_cons_of_mem _ hj)⟩
      obtain ⟨j, hj, e⟩ := List.mem_map.mp z
      obtain ⟨x, rfl⟩ := hs k List.mem_cons_self
      obtain ⟨y, rfl⟩ := hs j (List.mem_cons_of_mem _ hj)
      simp only [sOf] at e
      exact hn.1 (e ▸ hj)
  exact gen _ nd fun k hk => by obtain ⟨s, _, rfl⟩ := mem_wk hk; exact ⟨_, rfl⟩
theorem foldA_keys : ∀ (ks acc : List Key), acc.length + ks.length ≤ 4000 → foldA appK (ks.map fun k => [ofKey k]) acc = some (ks.reverse ++ acc)
  | [], acc, _ => by simp [foldA]
  | k :: ks, acc, h => by
    rw [List.length_cons] at h
    rw [List.map_cons]
    unfold foldA
    have h1 : acc.length < 4000 := by omega
    simp only [appK, h1, if_true, keyD_of, Option.map_some, Option.bind_some]
    rw [foldA_keys ks (k :: acc) (by rw [List.length_cons]; omega)]
    simp
theorem words_comp {s0 : List (Option D)} {so : Sto} {l : List Stp} (hl : l.length ≤ 4000) (h7 : 7 < s0.length) : mCompG s0 (stName 7) (l_Machine_init_1 C) (l_Machine_init_2 C) appK (l.map Stp.d) so [] = .ok ((wKeys l).reverse, so) := by
  refine compG_map (fun _ => true) (fun d => match d with | .tup [_, w, _] => [w] | _ => []) (l.map Stp.d) [] _ (fun x hx => ?_) ?_
  · obtain ⟨s, hs, rfl⟩ := List.mem_map.mp hx
    refine ⟨⟨s0.set 7 (some s.d), so⟩, ⟨s0.set 7 (some s.d), so⟩, rfl, rfl, rfl, fun _ => ⟨⟨s0.set 7 (some s.d), so⟩, ?_, rfl⟩⟩
    have g : (s0.set 7 (some s.d))[7]? = some (some s.d) := List.getElem?_set_self h7
    have e1 : s.d = .tup [.int s.a, .str s.w, .int s.b] := rfl
    rw [e1] at g ⊢
    simp [l_Machine_init_2, g]
  · have e : ((l.map Stp.d).filter fun _ => true).map (fun d => match d with | .tup [_, w, _] => [w] | _ => []) = (wKeys l).map fun k => [ofKey k] := by
      rw [List.filter_eq_self.mpr (fun _ _ => rfl)]
      unfold wKeys
      rw [List.map_map, List.map_map]
      rfl
    rw [e, foldA_keys _ _ (by unfold wKeys; simp; omega)]
    simp
end Lm

set_option maxHeartbeats 1000000
namespace Lm
open PySem L2 Mir
variable {C : Cl} {st : Sto}
/-! ## the fields' names are unlike -/
@[simp] theorem n12 : (Str.ofString "first_state" = Str.ofString "step_rows") = False := eq_false (by decide +kernel)
@[simp] theorem n13 : (Str.ofString "first_state" = Str.ofString "word_list") = False := eq_false (by decide +kernel)
@[simp] theorem n14 : (Str.ofString "first_state" = Str.ofString "fault_table") = False := eq_false (by decide +kernel)
@[simp] theorem n15 : (Str.ofString "first_state" = Str.ofString "leaving") = False := eq_false (by decide +kernel)
@[simp] theorem n16 : (Str.ofString "first_state" = Str.ofString "met_states") = False := eq_false (by decide +kernel)
@[simp] theorem n23 : (Str.ofString "step_rows" = Str.ofString "word_list") = False := eq_false (by decide +kernel)
@[simp] theorem n24 : (Str.ofString "step_rows" = Str.ofString "fault_table") = False := eq_false (by decide +kernel)
@[simp] theorem n25 : (Str.ofString "step_rows" = Str.ofString "leaving") = False := eq_false (by decide +kernel)
@[simp] theorem n26 : (Str.ofString "step_rows" = Str.ofString "met_states") = False := eq_false (by decide +kernel)
@[simp] theorem n34 : (Str.ofString "word_list" = Str.ofString "fault_table") = False := eq_false (by decide +kernel)
@[simp] theorem n35 : (Str.ofString "word_list" = Str.ofString "leaving") = False := eq_false (by decide +kernel)
@[simp] theorem n36 : (Str.ofString "word_list" = Str.ofString "met_states") = False := eq_false (by decide +kernel)
@[simp] theorem n45 : (Str.ofString "fault_table" = Str.ofString "leaving") = False := eq_false (by decide +kernel)
@[simp] theorem n46 : (Str.ofString "fault_table" = Str.ofString "met_states") = False := eq_false (by decide +kernel)
@[simp] theorem n56 : (Str.ofString "leaving" = Str.ofString "met_states") = False := eq_false (by decide +kernel)
/-- the machine as data -/
def fields (start : Int) (l : List Stp) (fs : List (Str × Str)) (xs : List Int) : List (Str × D) :=
  [(Str.ofString "first_state", .int start), (Str.ofString "step_rows", .lst (l.map Stp.d)), (Str.ofString "word_list", .lst (sDs (wordsOf l))), (Str.ofString "fault_table", .dic (fDic (keepF fs (wordsOf l)))), (Str.ofString "leaving", .dic (leaving l)), (Str.ofString "met_states", .lst (iDs xs))]
def machD (C : Cl) (start : Int) (l : List Stp) (fs : List (Str × Str)) (xs : List Int) : D := .ins C.Machine (fields start l fs xs)
theorem look1 {start : Int} {l : List Stp} {fs : List (Str × Str)} {xs : List Int} : (fields start l fs xs).lookup (Str.ofString "first_state") = some (.int start) := by
  unfold fields; simp [List.lookup]
theorem look_leaving {start : Int} {l : List Stp} {fs : List (Str × Str)} {xs : List Int} : (fields start l fs xs).lookup (Str.ofString "leaving") = some (.dic (leaving l)) := by
  unfold fields
  have h : ∀ a b : Str, a ≠ b → (a == b) = false := fun a b h => beq_eq_false_iff_ne.mpr h
  simp only [List.lookup, h (Str.ofString "leaving") (Str.ofString "first_state") (by decide +kernel), h (Str.ofString "leaving") (Str.ofString "step_rows") (by decide +kernel), h (Str.ofString "leaving") (Str.ofString "word_list") (by decide +kernel), h (Str.ofString "leaving") (Str.ofString "fault_table") (by decide +kernel), beq_self_eq_true]
theorem look_met {start : Int} {l : List Stp} {fs : List (Str × Str)} {xs : List Int} : (fields start l fs xs).lookup (Str.ofString "met_states") = some (.lst (iDs xs)) := by
  unfold fields
  have h : ∀ a b : Str, a ≠ b → (a == b) = false := fun a b h => beq_eq_false_iff_ne.mpr h
  simp only [List.lookup, h (Str.ofString "met_states") (Str.ofString "first_state") (by decide +kernel), h (Str.ofString "met_states") (Str.ofString "step_rows") (by decide +kernel), h (Str.ofString "met_states") (Str.ofString "word_list") (by decide +kernel), h (Str.ofString "met_states") (Str.ofString "fault_table") (by decide +kernel), h (Str.ofString "met_states") (Str.ofString "leaving") (by decide +kernel), beq_self_eq_true]
theorem look_steps {start : Int} {l : List Stp} {fs : List (Str × Str)} {xs : List Int} : (fields start l fs xs).lookup (Str.ofString "step_rows") = some (.lst (l.map Stp.d)) := by
  unfold fields
  have h : ∀ a b : Str, a ≠ b → (a == b) = false := fun a b h => beq_eq_false_iff_ne.mpr h
  simp only [List.lookup, h (Str.ofString "step_rows") (Str.ofString "first_state") (by decide +kernel), beq_self_eq_true]
theorem look_words {start : Int} {l : List Stp} {fs : List (Str × Str)} {xs : List Int} : (fields start l fs xs).lookup (Str.ofString "word_list") = some (.lst (sDs (wordsOf l))) := by
  unfold fields
  have h : ∀ a b : Str, a ≠ b → (a == b) = false := fun a b h => beq_eq_false_iff_ne.mpr h
  simp only [List.lookup, h (Str.ofString "word_list") (Str.ofString "first_state") (by decide +kernel), h (Str.ofString "word_list") (Str.ofString "step_rows") (by decide +kernel), beq_self_eq_true]
theorem look_faults {start : Int} {l : List Stp} {fs : List (Str × Str)} {xs : List Int} : (fields start l fs xs).lookup (Str.ofString "fault_table") = some (.dic (fDic (keepF fs (wordsOf l)))) := by
  unfold fields
  have h : ∀ a b : Str, a ≠ b → (a == b) = false := fun a b h => beq_eq_false_iff_ne.mpr h
  simp only [List.lookup, h (Str.ofString "fault_table") (Str.ofString "first_state") (by decide +kernel), h (Str.ofString "fault_table") (Str.ofString "step_rows") (by decide +kernel), h (Str.ofString "fault_table") (Str.ofString "word_list") (by decide +kernel), beq_self_eq_true]
/-- what a machine wants of its parts -/
structure Mach (start : Int) (l : List Stp) (fs : List (Str × Str)) : Prop where
  st : okSt start = true
  rows : Rows l
  words : (wordsOf l).length ≤ 14
  flts : Flts fs (wordsOf l)
  live : ∀ x, Reach l start x → x ∈ srcs l
theorem leaving_has {l : List Stp} {x : Int} : (valD (leaving l) (.inl x)).isSome = decide (x ∈ srcs l) := by
  rw [← hasD_val, Bool.eq_iff_iff, hasD_mem]
  have hk : (leaving l).map (·.1) = (srcs l).map fun s => (.inl s : Key) := by unfold leaving; rw [List.map_map]; rfl
  rw [hk]
  simp
theorem live_loop {a1 a2 a3 a4 a5 a7 : Option D} {start : Int} {l : List Stp} {fs : List (Str × Str)} {ys : List Int} : ∀ (xs : List Int) (x6 : Option D), (∀ x ∈ xs, x ∈ srcs l) → ∃ y6, mLoop (stName 6) (l_Machine_init_3 C) (iDs xs) ⟨[some (.cell st.length), a1, a2, a3, a4, a5, x6, a7], st ++ [.ins C.Machine (fields start l fs ys)]⟩ = .ok (.nx ⟨[some (.cell st.length), a1, a2, a3, a4, a5, y6, a7], st ++ [.ins C.Machine (fields start l fs ys)]⟩)
  | [], x6, _ => ⟨x6, rfl⟩
  | x :: xs, x6, h => by
    obtain ⟨y6, e⟩ := live_loop (a1 := a1) (a2 := a2) (a3 := a3) (a4 := a4) (a5 := a5) (a7 := a7) (start := start) (fs := fs) (ys := ys) xs (some (.int x)) fun z hz => h z (List.mem_cons_of_mem _ hz)
    refine ⟨y6, ?_⟩
    have hv := leaving_has (l := l) (x := x)
    rw [decide_eq_true (h x List.mem_cons_self)] at hv
    have t : l_Machine_init_3 C ⟨[some (.cell st.length), a1, a2, a3, a4, a5, some (.int x), a7], st ++ [.ins C.Machine (fields start l fs ys)]⟩ = .ok (.nx ⟨[some (.cell st.length), a1, a2, a3, a4, a5, some (.int x), a7], st ++ [.ins C.Machine (fields start l fs ys)]⟩) := by
      simp [l_Machine_init_3, look_leaving, hasIn, hv]
    rw [show iDs (x :: xs) = .int x :: iDs xs from rfl, loop_cons (st := stName 6) rfl t]
    exact e
/-- how the rows come in -/
def RowsIn (st : Sto) (l : List Stp) (d : D) : Prop := d = .tup (l.map Stp.d) ∨ d = .lst (l.map Stp.d) ∨ ∃ c, d = .cell c ∧ Has st c (.lst (l.map Stp.d))
/-- how the faults come in -/
def FltsIn (st : Sto) (fs : List (Str × Str)) (d : D) : Prop := d = .dic (fDic fs) ∨ (d = .non ∧ fs = []) ∨ ∃ c, d = .cell c ∧ Has st c (.dic (fDic fs))
theorem RowsIn.run {l : List Stp} {d : D} (h : RowsIn st l d) (hr : Rows l) (j : Sto) : f_checked_steps C [d] (st ++ j) = .ok (.lst (l.map Stp.d), st ++ j) := by
  rcases h with rfl | rfl | ⟨c, rfl, hc⟩
  · exact p_checked_t hr
  · exact p_checked_l hr
  · exact p_checked_c hr (hc.more j)
theorem FltsIn.run {l : List Stp} {fs : List (Str × Str)} {d : D} (h : FltsIn st fs d) (hf : Flts fs (wordsOf l)) (j : Sto) : f_checked_faults C [d, .lst (sDs (wordsOf l))] (st ++ j) = .ok (.dic (fDic (keepF fs (wordsOf l))), st ++ j) := by
  rcases h with rfl | ⟨rfl, rfl⟩ | ⟨c, rfl, hc⟩
  · exact p_faults_d hf
  · rw [p_faults_n]
    have : keepF [] (wordsOf l) = [] := by unfold keepF; simp
    rw [this]; rfl
  · exact p_faults_c hf (hc.more j)
theorem init_run {start : Int} {l : List Stp} {fs : List (Str × Str)} {d2 d3 : D} (h : Mach start l fs) (hr : RowsIn st l d2) (hf : FltsIn st fs d3) : ∃ xs, States l start xs ∧ k_Machine_init C [.cell st.length, .int start, d2, d3] (st ++ [.ins C.Machine []]) = .ok (.non, st ++ [.ins C.Machine (fields start l fs xs)]) := by
  have hlen := h.rows.len
  obtain ⟨xs, hxs, er⟩ := p_reached (C := C) (st := st ++ [.ins C.Machine [(Str.ofString "first_state", .int start), (Str.ofString "step_rows", .lst (l.map Stp.d)), (Str.ofString "word_list", .lst (sDs (wordsOf l))), (Str.ofString "fault_table", .dic (fDic (keepF fs (wordsOf l)))), (Str.ofString "leaving", .dic (leaving l))]]) (l := l) (start := start) (by omega)
  refine ⟨xs, hxs, ?_⟩
  have es : ∀ so, f_is_state C [.int start] so = .ok (.bl true, so) := fun so => by
    have : isSt (.int start) = true := h.st
    rw [p_state (d := .int start) rfl, this]
  have ec := hr.run (C := C) h.rows
  have ef := hf.run (C := C) h.flts
  have el : ∀ so, f_leaving_table C [.lst (l.map Stp.d)] so = .ok (.dic (leaving l), so) := fun so => p_leaving (by omega)
  have ew : (KS.sortK (KS.dedupK (wKeys l).reverse)).map ofKey = sDs (wordsOf l) := words_of fun k => by simp
  have hh : KS.hom (wKeys l).reverse = true := allS_inr fun k hk => by
    have := List.mem_reverse.mp hk
    obtain ⟨s, _, rfl⟩ := List.mem_map.mp this
    exact ⟨_, rfl⟩
  have hw := h.words
  have w1 : (wordsOf l).length ≤ 1000000 := by omega
  have w2 : ¬ (14 : Int) < ((wordsOf l).length : Int) := by omega
  obtain ⟨y6, ey⟩ := live_loop (C := C) (st := st) (a1 := some (.int start)) (a2 := some d2) (a3 := some d3) (a4 := some (.lst (l.map Stp.d))) (a5 := some (.lst (sDs (wordsOf l)))) (a7 := none) (start := start) (l := l) (fs := fs) (ys := xs) xs none fun x hx => h.live x ((hxs.mem x).mp hx)
  have wc := fun so => words_comp (C := C) (s0 := [some (.cell st.length), some (.int start), some d2, some d3, some (.lst (l.map Stp.d)), none, none, none]) (so := so) (l := l) (by omega) (by simp)
  have hff : [(Str.ofString "first_state", D.int start), (Str.ofString "step_rows", .lst (l.map Stp.d)), (Str.ofString "word_list", .lst (sDs (wordsOf l))), (Str.ofString "fault_table", .dic (fDic (keepF fs (wordsOf l)))), (Str.ofString "leaving", .dic (leaving l)), (Str.ofString "met_states", .lst (iDs xs))] = fields start l fs xs := rfl
  simp [-dr, k_Machine_init, b_Machine_init, es, ec, wc, hh, ew, w1, w2, ef, el]
  have h5 : ∀ a b : Str, a ≠ b → (a == b) = false := fun a b h => beq_eq_false_iff_ne.mpr h
  have hl5 : List.lookup (Str.ofString "leaving") [(Str.ofString "first_state", D.int start), (Str.ofString "step_rows", .lst (l.map Stp.d)), (Str.ofString "word_list", .lst (sDs (wordsOf l))), (Str.ofString "fault_table", .dic (fDic (keepF fs (wordsOf l)))), (Str.ofString "leaving", .dic (leaving l))] = some (.dic (leaving l)) := by
    simp only [List.lookup, h5 (Str.ofString "leaving") (Str.ofString "first_state") (by decide +kernel), h5 (Str.ofString "leaving") (Str.ofString "step_rows") (by decide +kernel), h5 (Str.ofString "leaving") (Str.ofString "word_list") (by decide +kernel), h5 (Str.ofString "leaving") (Str.ofString "fault_table") (by decide +kernel), beq_self_eq_true]
  have hd : ∀ fs', dr (st ++ [D.ins C.Machine fs']) (.cell st.length) = some (.ins C.Machine fs') := fun fs' => dr_cell (get_0 _ _ _) fun e => by simp
  have hlm := look_met (start := start) (l := l) (fs := fs) (xs := xs)
  rw [← hff] at hlm ey
  simp [-dr, hd, hl5, er, hlm]
  rw [ey]
  simp [hff]
end Lm

set_option maxHeartbeats 1000000
namespace Lm
open PySem L2 Mir
variable {C : Cl} {st : Sto}
theorem okCL_strs {n : Nat} : ∀ l : List Str, okCL n (sDs l) = true
  | [] => rfl
  | s :: l => by simp only [sDs, List.map_cons, okCL, okC]; exact Bool.and_eq_true_iff.mpr ⟨rfl, okCL_strs l⟩
theorem okCK_leaving {n : Nat} (l : List Stp) : okCK n (leaving l) = true := by
  unfold leaving
  have gen : ∀ ss : List Int, okCK n (ss.map fun s => ((.inl s : Key), D.lst (iDs (nums l s)))) = true := by
    intro ss
    induction ss with
    | nil => rfl
    | cons s ss ih => simp only [List.map_cons, okCK, okC]; exact Bool.and_eq_true_iff.mpr ⟨okCL_ints _, ih⟩
  exact gen _
theorem okC_mach {n : Nat} {start : Int} {l : List Stp} {fs : List (Str × Str)} {xs : List Int} : okC n (machD C start l fs xs) = true := by
  simp only [machD, fields, okC, okCF, okCL_steps, okCL_strs, okC_fDic, okCK_leaving, okCL_ints, Bool.and_self]
/-- Machine(start, steps, faults) -/
theorem p_make {start : Int} {l : List Stp} {fs : List (Str × Str)} {d2 d3 : D} (h : Mach start l fs) (hr : RowsIn st l d2) (hf : FltsIn st fs d3) : ∃ xs, States l start xs ∧ cutF (mkF C.Machine (k_Machine_init C)) [.int start, d2, d3] st = .ok (machD C start l fs xs, st) := by
  obtain ⟨xs, hxs, e⟩ := init_run (C := C) h hr hf
  refine ⟨xs, hxs, cut_rsv (d := .cell st.length) (j := [machD C start l fs xs]) ?_ ?_⟩
  · unfold mkF
    rw [e]
    rfl
  · rw [rsv_cell (d := machD C start l fs xs) (Nat.lt_irrefl _) (get_0 _ _ _)]
    exact rsv_ok okC_mach
section
variable {start : Int} {l : List Stp} {fs : List (Str × Str)} {xs : List Int}
theorem p_start : f_Machine_start C [machD C start l fs xs] st = .ok (.int start, st) := cut_pure0 (by simp [k_Machine_start, b_Machine_start, machD, look1]) rfl
theorem k_steps : k_Machine_steps C [machD C start l fs xs] st = .ok (.cell st.length, st ++ [.lst (l.map Stp.d)]) := by simp [k_Machine_steps, b_Machine_steps, machD, look_steps]
theorem p_steps : f_Machine_steps C [machD C start l fs xs] st = .ok (.lst (l.map Stp.d), st) := cut_rsv k_steps (by rw [rsv_cell (d := .lst (l.map Stp.d)) (Nat.lt_irrefl _) (get_0 _ _ _)]; exact rsv_ok (okCL_steps l))
theorem k_words : k_Machine_words C [machD C start l fs xs] st = .ok (.cell st.length, st ++ [.lst (sDs (wordsOf l))]) := by simp [k_Machine_words, b_Machine_words, machD, look_words]
theorem p_words : f_Machine_words C [machD C start l fs xs] st = .ok (.lst (sDs (wordsOf l)), st) := cut_rsv k_words (by rw [rsv_cell (d := .lst (sDs (wordsOf l))) (Nat.lt_irrefl _) (get_0 _ _ _)]; exact rsv_ok (okCL_strs _))
theorem k_states : k_Machine_states C [machD C start l fs xs] st = .ok (.cell st.length, st ++ [.lst (iDs xs)]) := by simp [k_Machine_states, b_Machine_states, machD, look_met]
theorem p_states : f_Machine_states C [machD C start l fs xs] st = .ok (.lst (iDs xs), st) := cut_rsv k_states (by rw [rsv_cell (d := .lst (iDs xs)) (Nat.lt_irrefl _) (get_0 _ _ _)]; exact rsv_ok (okCL_ints _))
end
/-! ### the faults' names, the faults -/
def sortS (xs : List Str) : List Str := (KS.sortK (KS.dedupK (xs.map fun x => (.inr x : Key)))).map sOf
theorem sortS_of {ks : List Key} {xs : List Str} (h : ∀ k, k ∈ ks ↔ k ∈ xs.map fun x => (.inr x : Key)) : (KS.sortK (KS.dedupK ks)).map ofKey = sDs (sortS xs) := by
  have e : KS.sortK (KS.dedupK ks) = KS.sortK (KS.dedupK (xs.map fun x => (.inr x : Key))) := KS.sortK_congr (KS.perm_of_mem KS.nodup_dedup KS.nodup_dedup fun k => by rw [KS.mem_dedup, KS.mem_dedup]; exact h k)
  rw [e]
  unfold sortS
  simp only [sDs, List.map_map]
  refine List.map_congr_left fun k hk => ?_
  have := KS.mem_dedup.mp ((KS.sortK_perm _).mem_iff.mp hk)
  obtain ⟨x, _, rfl⟩ := List.mem_map.mp this
  rfl
theorem sortS_congr {xs ys : List Str} (h : ∀ x, x ∈ xs ↔ x ∈ ys) : sortS xs = sortS ys := by
  unfold sortS
  rw [KS.sortK_congr (KS.perm_of_mem (l := KS.dedupK (xs.map fun x => (.inr x : Key))) (l' := KS.dedupK (ys.map fun x => (.inr x : Key))) KS.nodup_dedup KS.nodup_dedup fun k => by
    rw [KS.mem_dedup, KS.mem_dedup]
    simp only [List.mem_map]
    exact ⟨fun ⟨x, h1, h2⟩ => ⟨x, (h x).mp h1, h2⟩, fun ⟨x, h1, h2⟩ => ⟨x, (h x).mpr h1, h2⟩⟩)]
theorem wordsOf_sortS (l : List Stp) : wordsOf l = sortS (l.map (·.w)) := by
  unfold wordsOf sortS wKeys
  rw [List.map_map]
  rfl
theorem names_comp {a : Option D} {so : Sto} {fs : List (Str × Str)} (hl : fs.length ≤ 4000) : mCompG [a, none] (stName 1) (l_Machine_fault_names_1 C) (l_Machine_fault_names_2 C) appK ((fDic fs).map kvVal) so [] = .ok ((fs.map fun p => (.inr p.2 : Key)).reverse, so) := by
  refine compG_map (fun _ => true) (fun d => [d]) _ [] _ (fun x hx => ?_) ?_
  · exact ⟨⟨[a, some x], so⟩, ⟨[a, some x], so⟩, rfl, rfl, rfl, fun _ => ⟨⟨[a, some x], so⟩, by simp [l_Machine_fault_names_2], rfl⟩⟩
  · have e : (((fDic fs).map kvVal).filter fun _ => true).map (fun d => [d]) = (fs.map fun p => (.inr p.2 : Key)).map fun k => [ofKey k] := by
      rw [List.filter_eq_self.mpr (fun _ _ => rfl)]
      simp only [fDic, List.map_map]
      rfl
    rw [e, foldA_keys _ _ (by simp; omega)]
    simp
theorem keepF_len (fs : List (Str × Str)) (ws : List Str) : (keepF fs ws).length ≤ ws.length := by
  unfold keepF
  rw [List.length_map]
  exact List.length_filter_le _ _
section
variable {start : Int} {l : List Stp} {fs : List (Str × Str)} {xs : List Int}
theorem k_fault_names (hw : (wordsOf l).length ≤ 14) : k_Machine_fault_names C [machD C start l fs xs] st = .ok (.cell st.length, st ++ [.lst (sDs (sortS ((keepF fs (wordsOf l)).map (·.2))))]) := by
  have hk := keepF_len fs (wordsOf l)
  have c := names_comp (C := C) (a := some (machD C start l fs xs)) (so := st) (fs := keepF fs (wordsOf l)) (by omega)
  have es := sortS_of (ks := ((keepF fs (wordsOf l)).map fun p => (.inr p.2 : Key)).reverse) (xs := (keepF fs (wordsOf l)).map (·.2)) fun k => by simp
  have hh : KS.hom ((keepF fs (wordsOf l)).map fun p => (.inr p.2 : Key)).reverse = true := allS_inr fun k hk => by
    have := List.mem_reverse.mp hk
    obtain ⟨s, _, rfl⟩ := List.mem_map.mp this
    exact ⟨_, rfl⟩
  have e1 : machD C start l fs xs = .ins C.Machine (fields start l fs xs) := rfl
  rw [e1] at c ⊢
  simp [-List.map_map, -List.map_reverse, k_Machine_fault_names, b_Machine_fault_names, look_faults, c, hh, es]
theorem p_fault_names (hw : (wordsOf l).length ≤ 14) : f_Machine_fault_names C [machD C start l fs xs] st = .ok (.lst (sDs (sortS ((keepF fs (wordsOf l)).map (·.2)))), st) := cut_rsv (k_fault_names hw) (by rw [rsv_cell (d := .lst (sDs (sortS ((keepF fs (wordsOf l)).map (·.2))))) (Nat.lt_irrefl _) (get_0 _ _ _)]; exact rsv_ok (okCL_strs _))
theorem keepF_keys (fs : List (Str × Str)) (ws : List Str) : (keepF fs ws).map (·.1) = ws.filter fun w => decide (w ∈ fs.map (·.1)) := by
  unfold keepF
  rw [List.map_map]
  exact List.map_id _
theorem faults_dcomp {so : Sto} (hw : (wordsOf l).length ≤ 14) : mCompG [some (machD C start l fs xs), none] (stName 1) (l_Machine_faults_1 C) (l_Machine_faults_2 C) appD ((fDic (keepF fs (wordsOf l))).map kvKey) so [] = .ok (fDic (keepF fs (wordsOf l)), so) := by
  have hk := keepF_len fs (wordsOf l)
  have kk := keepF_keys fs (wordsOf l)
  generalize hg : keepF fs (wordsOf l) = gs at hk kk
  have nd : (gs.map (·.1)).Nodup := by rw [kk]; exact (nodup_words l).filter _
  refine compG_map (fun _ => true) (fun d => match d with | .str w => [.str w, .str (look gs w)] | _ => []) _ [] _ (fun x hx => ?_) ?_
  · obtain ⟨kv, h1, rfl⟩ := List.mem_map.mp hx
    obtain ⟨p, h2, rfl⟩ := List.mem_map.mp h1
    have hv := fDic_look (fs := gs) (w := p.1) (List.mem_map.mpr ⟨p, h2, rfl⟩)
    have lf := look_faults (start := start) (l := l) (fs := fs) (xs := xs)
    rw [hg] at lf
    refine ⟨⟨[some (machD C start l fs xs), some (.str p.1)], so⟩, ⟨[some (machD C start l fs xs), some (.str p.1)], so⟩, rfl, rfl, rfl, fun _ => ⟨⟨[some (machD C start l fs xs), some (.str p.1)], so⟩, ?_, rfl⟩⟩
    simp [l_Machine_faults_2, machD, lf, getA, hv, ofKey]
  · have e : (((fDic gs).map kvKey).filter fun _ => true).map (fun d => match d with | .str w => [.str w, .str (look gs w)] | _ => []) = (fDic gs).map fun p => [ofKey p.1, p.2] := by
      rw [List.filter_eq_self.mpr (fun _ _ => rfl)]
      simp only [fDic, List.map_map]
      refine List.map_congr_left fun p hp => ?_
      have hv := fDic_look (fs := gs) (w := p.1) (List.mem_map.mpr ⟨p, hp, rfl⟩)
      have : valD (fDic gs) (.inr p.1) = some (.str p.2) := val_mem (by
        have : (fDic gs).map (·.1) = (gs.map (·.1)).map fun w => (.inr w : Key) := by simp only [fDic, List.map_map]; rfl
        rw [this]
        exact nodup_map (fun a b e => by cases e; rfl) nd) (List.mem_map.mpr ⟨p, hp, rfl⟩)
      rw [hv] at this
      have e2 : look gs p.1 = p.2 := by injection (Option.some.inj this)
      show [D.str p.1, .str (look gs p.1)] = [.str p.1, .str p.2]
      rw [e2]
    rw [e]
    refine (foldA_dic _ [] ?_ ?_).trans (by simp)
    · have : (([] : List (Key × D)) ++ fDic gs).map (·.1) = (gs.map (·.1)).map fun w => (.inr w : Key) := by simp only [fDic, List.nil_append, List.map_map]; rfl
      rw [this]
      exact nodup_map (fun a b e => by cases e; rfl) nd
    · simp only [List.nil_append, fDic, List.length_map]; omega
theorem k_faults (hw : (wordsOf l).length ≤ 14) : k_Machine_faults C [machD C start l fs xs] st = .ok (.cell st.length, st ++ [.dic (fDic (keepF fs (wordsOf l)))]) := by
  have c := faults_dcomp (C := C) (start := start) (l := l) (fs := fs) (xs := xs) (so := st) hw
  have e1 : machD C start l fs xs = .ins C.Machine (fields start l fs xs) := rfl
  rw [e1] at c ⊢
  simp [-List.map_map, k_Machine_faults, b_Machine_faults, look_faults, c]
theorem p_faults (hw : (wordsOf l).length ≤ 14) : f_Machine_faults C [machD C start l fs xs] st = .ok (.dic (fDic (keepF fs (wordsOf l))), st) := cut_rsv (k_faults hw) (by rw [rsv_cell (d := .dic (fDic (keepF fs (wordsOf l)))) (Nat.lt_irrefl _) (get_0 _ _ _)]; exact rsv_ok (okC_fDic _))
end
end Lm

set_option maxHeartbeats 400000
namespace Lm
open PySem L2 Mir
variable {C : Cl} {st : Sto}
/-! ## _law_exact of a thing and itself -/
def flatOk : Nat → D → Bool
  | 0, _ => false
  | _ + 1, .non => true
  | _ + 1, .bl _ => true
  | _ + 1, .int _ => true
  | _ + 1, .str _ => true
  | n + 1, .lst xs => decide (xs.length ≤ 100000) && xs.all (flatOk n)
  | n + 1, .tup xs => decide (xs.length ≤ 100000) && xs.all (flatOk n)
  | _ + 1, _ => false
theorem exact_loop {f : Fn} {d : D} {xs : List D} (hf : ∀ x ∈ xs, ∀ st, f [x, x] st = .ok (.bl true, st)) (hd : d = .lst xs ∨ d = .tup xs) : ∃ x2, mLoop (stName 2) (l_law_exact_1 C f) (rangeD 0 xs.length) ⟨[some d, some d, none], st⟩ = .ok (.nx ⟨[some d, some d, x2], st⟩) := by
  obtain ⟨r', h1, x2, rfl⟩ := loop_inv (st := stName 2) (b := l_law_exact_1 C f) (fun _ r => ∃ x2, r = ⟨[some d, some d, x2], st⟩) (xs := rangeD 0 xs.length) (r := ⟨[some d, some d, none], st⟩) ⟨none, rfl⟩ (fun i x r hx hr => by
    obtain ⟨x2, rfl⟩ := hr
    obtain ⟨rfl, hi⟩ := rangeD_mem hx
    have e : xs[i]? = some xs[i] := List.getElem?_eq_getElem hi
    have a := atI_nat e
    have hx := hf xs[i] (List.getElem_mem hi)
    refine ⟨⟨[some d, some d, some (.int (0 + (i : Int)))], st⟩, ⟨[some d, some d, some (.int (0 + (i : Int)))], st⟩, rfl, .inl ?_, _, rfl⟩
    rw [Int.zero_add]
    rcases hd with rfl | rfl <;> simp [l_law_exact_1, a, hx])
  exact ⟨x2, h1⟩
theorem p_exact : ∀ {n : Nat} {d : D} {st : Sto}, flatOk n d = true → f_law_exact C n [d, d] st = .ok (.bl true, st)
  | 0, _, _, h => by cases h
  | n + 1, d, st, h => by
    unfold f_law_exact
    refine cut_pure0 ?_ rfl
    cases d with
    | non => simp [b_law_exact]
    | bl b => simp [b_law_exact, eqOk, eqD, scalD]
    | int i =>
      have hi : f_law_is_integer C [.int i] st = .ok (.bl true, st) := cut_pure0 (by simp [k_law_is_integer, b_law_is_integer]) rfl
      simp [b_law_exact, hi, eqOk, eqD, scalD]
    | str x => simp [b_law_exact, eqOk, eqD, scalD]
    | lst xs =>
      simp only [flatOk, Bool.and_eq_true, decide_eq_true_eq, List.all_eq_true] at h
      obtain ⟨x2, e⟩ := exact_loop (C := C) (st := st) (f := f_law_exact C n) (d := .lst xs) (xs := xs) (fun x hx st => p_exact (h.2 x hx)) (.inl rfl)
      have l1 : xs.length ≤ 1000000 := by omega
      have l2 : (-1000000 : Int) ≤ (xs.length : Int) := by omega
      have l3 : (xs.length : Int) ≤ 1000000 := by omega
      simp [b_law_exact, l1, l2, l3, eqOk, eqD, scalD]
      rw [e]
      simp
    | tup xs =>
      simp only [flatOk, Bool.and_eq_true, decide_eq_true_eq, List.all_eq_true] at h
      obtain ⟨x2, e⟩ := exact_loop (C := C) (st := st) (f := f_law_exact C n) (d := .tup xs) (xs := xs) (fun x hx st => p_exact (h.2 x hx)) (.inr rfl)
      have l1 : xs.length ≤ 1000000 := by omega
      have l2 : (-1000000 : Int) ≤ (xs.length : Int) := by omega
      have l3 : (xs.length : Int) ≤ 1000000 := by omega
      simp [b_law_exact, l1, l2, l3, eqOk, eqD, scalD]
      rw [e]
      simp
    | _ => cases h
/-! ## _law_reached -/
def grow (l : List Stp) (acc : List Int) : List Int := l.foldl (fun a s => if s.a ∈ a ∧ s.b ∉ a then a ++ [s.b] else a) acc
theorem iDs_scal : ∀ l : List Int, (iDs l).all isScal = true
  | [] => rfl
  | x :: l => by simp only [iDs, List.map_cons, List.all_cons]; exact Bool.and_eq_true_iff.mpr ⟨rfl, iDs_scal l⟩
theorem any_iDs {w : Int} : ∀ {l : List Int}, ((iDs l).any fun y => eqS y (.int w)) = decide (w ∈ l)
  | [] => rfl
  | x :: l => by
    have := any_iDs (w := w) (l := l)
    simp only [iDs, List.map_cons, List.any_cons] at this ⊢
    rw [this]
    have e : eqS (.int x) (.int w) = decide (x = w) := by simp only [eqS]; rw [Bool.eq_iff_iff]; simp
    rw [e]
    by_cases h : x = w
    · subst h; simp
    · have h' : ¬ w = x := fun z => h z.symm
      simp [h, h']
theorem in_iDs {w : Int} {l : List Int} : hasIn (.int w) (.lst (iDs l)) = some (decide (w ∈ l)) := by
  have h : (isScal (.int w) && (iDs l).all isScal) = true := by rw [iDs_scal]; rfl
  simp only [hasIn, inOk, inD, h, Bool.true_or, if_true, any_iDs]
theorem lreach_turn {x0 x1 x3 : Option D} {s : Stp} {acc : List Int} (hl : acc.length < 1000) : l_law_reached_1 C ⟨[x0, x1, some (.cell st.length), x3, some s.d], st ++ [.lst (iDs acc)]⟩ = .ok (.nx ⟨[x0, x1, some (.cell st.length), x3, some s.d], st ++ [.lst (iDs (if s.a ∈ acc ∧ s.b ∉ acc then acc ++ [s.b] else acc))]⟩) := by
  have i1 := in_iDs (w := s.a) (l := acc)
  have i2 := in_iDs (w := s.b) (l := acc)
  have l0 : acc.length < 1000000 := by omega
  by_cases h1 : s.a ∈ acc
  · by_cases h2 : s.b ∈ acc
    · rw [decide_eq_true h1] at i1
      rw [decide_eq_true h2] at i2
      simp [l_law_reached_1, Stp.d, i1, i2, h1, h2]
    · rw [decide_eq_true h1] at i1
      rw [decide_eq_false h2] at i2
      simp [l_law_reached_1, Stp.d, i1, i2, h1, h2, l0]
  · rw [decide_eq_false h1] at i1
    simp [l_law_reached_1, Stp.d, i1, h1]
theorem lreach_round {x0 x3 : Option D} {l : List Stp} : ∀ (ss : List Stp) (acc : List Int) (x4 : Option D), acc.length + ss.length < 1000 → ∃ y4, mLoop (stName 4) (l_law_reached_1 C) (ss.map Stp.d) ⟨[x0, some (.lst (l.map Stp.d)), some (.cell st.length), x3, x4], st ++ [.lst (iDs acc)]⟩ = .ok (.nx ⟨[x0, some (.lst (l.map Stp.d)), some (.cell st.length), x3, y4], st ++ [.lst (iDs (grow ss acc))]⟩)
  | [], acc, x4, _ => ⟨x4, rfl⟩
  | s :: ss, acc, x4, h => by
    rw [List.length_cons] at h
    have t := lreach_turn (C := C) (st := st) (x0 := x0) (x1 := some (.lst (l.map Stp.d))) (x3 := x3) (s := s) (acc := acc) (by omega)
    obtain ⟨y4, e⟩ := lreach_round (l := l) ss (if s.a ∈ acc ∧ s.b ∉ acc then acc ++ [s.b] else acc) (some s.d) (by split <;> (try simp only [List.length_append, List.length_singleton]) <;> omega)
    refine ⟨y4, ?_⟩
    rw [List.map_cons, loop_cons (st := stName 4) rfl t, e]
    rfl
/-! what grows -/
theorem grow_sub : ∀ (ss : List Stp) (acc : List Int), ∃ more, grow ss acc = acc ++ more
  | [], acc => ⟨[], by simp [grow]⟩
  | s :: ss, acc => by
    obtain ⟨m, e⟩ := grow_sub ss (if s.a ∈ acc ∧ s.b ∉ acc then acc ++ [s.b] else acc)
    have e2 : grow (s :: ss) acc = grow ss (if s.a ∈ acc ∧ s.b ∉ acc then acc ++ [s.b] else acc) := rfl
    rw [e2, e]
    split
    · exact ⟨s.b :: m, by simp⟩
    · exact ⟨m, rfl⟩
structure Grown (l : List Stp) (start : Int) (acc : List Int) : Prop where
  nd : acc.Nodup
  base : start ∈ acc
  reach : ∀ x ∈ acc, Reach l start x
theorem grow_grown {l : List Stp} {start : Int} : ∀ (ss : List Stp) (acc : List Int), (∀ s ∈ ss, s ∈ l) → Grown l start acc → Grown l start (grow ss acc)
  | [], acc, _, h => h
  | s :: ss, acc, hs, h => by
    refine grow_grown ss (if s.a ∈ acc ∧ s.b ∉ acc then acc ++ [s.b] else acc) (fun t ht => hs t (List.mem_cons_of_mem _ ht)) ?_
    split
    · rename_i q
      refine ⟨?_, List.mem_append_left _ h.base, fun x hx => ?_⟩
      · rw [List.nodup_append]
        exact ⟨h.nd, by simp, fun a ha b hb => by simp at hb; subst hb; exact fun e => q.2 (e ▸ ha)⟩
      · rcases List.mem_append.mp hx with z | z
        · exact h.reach x z
        · rw [List.mem_singleton.mp z]
          exact .step (h.reach _ q.1) (hs s List.mem_cons_self) rfl
    · exact h
theorem grow_closed : ∀ (ss : List Stp) (acc : List Int), grow ss acc = acc → ∀ s ∈ ss, s.a ∈ acc → s.b ∈ acc
  | [], acc, _, s, hs, _ => by cases hs
  | t :: ss, acc, e, s, hs, ha => by
    have e2 : grow (t :: ss) acc = grow ss (if t.a ∈ acc ∧ t.b ∉ acc then acc ++ [t.b] else acc) := rfl
    rw [e2] at e
    by_cases q : t.a ∈ acc ∧ t.b ∉ acc
    · rw [if_pos q] at e
      obtain ⟨m, e3⟩ := grow_sub ss (acc ++ [t.b])
      rw [e3] at e
      have := congrArg List.length e
      simp at this
    · rw [if_neg q] at e
      rcases List.mem_cons.mp hs with rfl | hs
      · exact Classical.byContradiction fun z => q ⟨ha, z⟩
      · exact grow_closed ss acc e s hs ha
def growN (l : List Stp) : Nat → List Int → List Int
  | 0, acc => acc
  | n + 1, acc => growN l n (grow l acc)
theorem growN_fix {l : List Stp} : ∀ (n : Nat) {acc : List Int}, grow l acc = acc → growN l n acc = acc
  | 0, _, _ => rfl
  | n + 1, acc, e => by simp only [growN]; rw [e]; exact growN_fix n e
theorem growN_grown {l : List Stp} {start : Int} : ∀ (n : Nat) {acc : List Int}, Grown l start acc → Grown l start (growN l n acc)
  | 0, _, h => h
  | n + 1, acc, h => growN_grown n (grow_grown l acc (fun _ h => h) h)
theorem growN_len {l : List Stp} : ∀ (n : Nat) (acc : List Int), grow l (growN l n acc) = growN l n acc ∨ acc.length + n ≤ (growN l n acc).length
  | 0, acc => .inr (Nat.le_refl _)
  | n + 1, acc => by
    by_cases h : grow l acc = acc
    · left
      simp only [growN]
      rw [h, growN_fix n h, h]
    · rcases growN_len n (grow l acc) with e | e
      · exact .inl e
      · right
        simp only [growN]
        obtain ⟨m, e3⟩ := grow_sub l acc
        have : m ≠ [] := fun z => h (by rw [e3, z, List.append_nil])
        have := List.length_pos_iff.mpr this
        have := congrArg List.length e3
        rw [List.length_append] at this
        omega
theorem Grown.small {l : List Stp} {start : Int} {acc : List Int} (h : Grown l start acc) (ok : Good l) (os : okSt start = true) : acc.length ≤ 100 := by
  have hr : ∀ x, Reach l start x → okSt x = true := fun x hx => by
    cases hx with
    | base => exact os
    | step h1 h2 h3 =>
      have := ok _ h2
      simp only [Stp.ok, Bool.and_eq_true] at this
      exact this.2
  have := nodup_sub_len (m := (List.range 100).map fun i : Nat => (i : Int)) h.nd (fun x hx => by
    have := hr x (h.reach x hx)
    simp only [okSt, Bool.and_eq_true, decide_eq_true_eq] at this
    exact List.mem_map.mpr ⟨x.toNat, List.mem_range.mpr (by omega), by omega⟩)
  simpa using this
theorem lreach_rounds {x0 : Option D} {l : List Stp} {start : Int} (hl : l.length ≤ 400) (ok : Good l) (os : okSt start = true) : ∀ (ds : List D) (acc : List Int) (x3 x4 : Option D), Grown l start acc → ∃ y3 y4, mLoop (stName 3) (l_law_reached_2 C) ds ⟨[x0, some (.lst (l.map Stp.d)), some (.cell st.length), x3, x4], st ++ [.lst (iDs acc)]⟩ = .ok (.nx ⟨[x0, some (.lst (l.map Stp.d)), some (.cell st.length), y3, y4], st ++ [.lst (iDs (growN l ds.length acc))]⟩)
  | [], acc, x3, x4, _ => ⟨x3, x4, rfl⟩
  | d :: ds, acc, x3, x4, h => by
    have hs := h.small ok os
    obtain ⟨y4, e⟩ := lreach_round (C := C) (st := st) (x0 := x0) (x3 := some d) (l := l) l acc x4 (by omega)
    obtain ⟨z3, z4, e2⟩ := lreach_rounds hl ok os ds (grow l acc) (some d) y4 (grow_grown l acc (fun _ h => h) h)
    refine ⟨z3, z4, ?_⟩
    have t : l_law_reached_2 C ⟨[x0, some (.lst (l.map Stp.d)), some (.cell st.length), some d, x4], st ++ [.lst (iDs acc)]⟩ = .ok (.nx ⟨[x0, some (.lst (l.map Stp.d)), some (.cell st.length), some d, y4], st ++ [.lst (iDs (grow l acc))]⟩) := by
      simp [l_law_reached_2]
      rw [e]
    rw [loop_cons (st := stName 3) rfl t, e2]
    rfl
theorem p_lreached {l : List Stp} {start : Int} (hl : l.length ≤ 400) (ok : Good l) (os : okSt start = true) : ∃ xs, States l start xs ∧ ∀ st, f_law_reached C [.int start, .lst (l.map Stp.d)] st = .ok (.lst (iDs xs), st) := by
  have g0 : Grown l start [start] := ⟨by simp, by simp, fun x hx => by simp at hx; subst hx; exact .base⟩
  have g := growN_grown 100 g0
  have cl : grow l (growN l 100 [start]) = growN l 100 [start] := by
    rcases growN_len (l := l) 100 [start] with e | e
    · exact e
    · have := g.small ok os
      simp at e
      omega
  refine ⟨sortI (growN l 100 [start]), states_of g.nd fun x => ⟨g.reach x, fun h => ?_⟩, fun st => ?_⟩
  · induction h with
    | base => exact g.base
    | step h1 h2 h3 ih => exact grow_closed l _ cl _ h2 (h3 ▸ ih)
  · obtain ⟨y3, y4, e⟩ := lreach_rounds (C := C) (st := st) (x0 := some (.int start)) hl ok os (rangeD 0 100) [start] none none g0
    rw [rangeD_len] at e
    refine cut_pure (j := [.lst (iDs (growN l 100 [start]))]) ?_ (okCL_ints _)
    have hso : sortOk (iDs (growN l 100 [start])) = true := sortOk_ints _
    have hsi : (iDs (growN l 100 [start])).mergeSort leD = iDs (sortI (growN l 100 [start])) := sort_ints _
    have e' : mLoop (stName 3) (l_law_reached_2 C) (rangeD 0 100) ⟨[some (.int start), some (.lst (l.map Stp.d)), some (.cell st.length), none, none], st ++ [.lst [.int start]]⟩ = _ := e
    simp [-List.map_map, k_law_reached, b_law_reached]
    rw [e']
    simp [-List.map_map, hso, hsi]
/-! ## _law_told -/
theorem p_told {start : Int} {l : List Stp} {fs : List (Str × Str)} {xs : List Int} (hw : (wordsOf l).length ≤ 14) : f_law_told C [machD C start l fs xs] st = .ok (.lst [.int start, .lst (l.map Stp.d), .lst (sDs (wordsOf l)), .lst (sDs (sortS ((keepF fs (wordsOf l)).map (·.2)))), .lst (sDs ((keepF fs (wordsOf l)).map (·.1))), .lst (iDs xs)], st) := by
  have hk : (fDic (keepF fs (wordsOf l))).map kvKey = sDs ((keepF fs (wordsOf l)).map (·.1)) := by simp only [fDic, sDs, List.map_map]; rfl
  refine cut_pure0 ?_ ?_
  · have e1 : machD C start l fs xs = .ins C.Machine (fields start l fs xs) := rfl
    have h1 := fun st => p_start (C := C) (st := st) (start := start) (l := l) (fs := fs) (xs := xs)
    have h2 := fun st => p_steps (C := C) (st := st) (start := start) (l := l) (fs := fs) (xs := xs)
    have h3 := fun st => p_words (C := C) (st := st) (start := start) (l := l) (fs := fs) (xs := xs)
    have h4 := fun st => p_fault_names (C := C) (st := st) (start := start) (l := l) (fs := fs) (xs := xs) hw
    have h5 := fun st => p_faults (C := C) (st := st) (start := start) (l := l) (fs := fs) (xs := xs) hw
    have h6 := fun st => p_states (C := C) (st := st) (start := start) (l := l) (fs := fs) (xs := xs)
    rw [e1] at *
    simp [-List.map_map, k_law_told, b_law_told, h1, h2, h3, h4, h5, h6, hk]
  · simp only [okC, okCL, okCL_steps, okCL_strs, okCL_ints, Bool.and_self]
end Lm

set_option maxHeartbeats 400000
namespace Lm
open PySem L2 Mir
variable {C : Cl} {st : Sto}
/-! ## _law_faults -/
def lfs (d : Int) (l : List Stp) (n0 n1 m0 m1 : Str) : List (Str × Str) := if 0 < d % 3 ∧ n1 ∈ l.map (·.w) then [(n0, m0), (n1, if d % 3 = 1 then m0 else m1)] else [(n0, m0)]
/-- what the faults of a law are -/
structure LFlts (fs : List (Str × Str)) (l : List Stp) : Prop where
  nd : (fs.map (·.1)).Nodup
  sub : ∀ p ∈ fs, p.1 ∈ l.map (·.w)
  okw : ∀ p ∈ fs, okNm p.1 = true
  okn : ∀ p ∈ fs, okNm p.2 = true
  len : fs.length ≤ 2
  ne : 1 ≤ fs.length
theorem lfaults_comp {s0 : List (Option D)} {so : Sto} {l : List Stp} (h5 : s0.length = 6) (hl : l.length ≤ 1000) : mCompL s0 (stName 5) (l_law_faults_1 C) (l_law_faults_2 C) (l.map Stp.d) so [] = .ok (sDs (l.map (·.w)), so) := by
  have e : sDs (l.map (·.w)) = (l.map Stp.d).map fun d => match d with | .tup [_, .str w, _] => .str w | _ => .non := by
    simp only [sDs, List.map_map]
    rfl
  rw [e]
  refine comp_all _ _ (fun x hx => ?_) (by rw [List.length_map]; omega)
  obtain ⟨s, hs, rfl⟩ := List.mem_map.mp hx
  have g : (s0.set 5 (some s.d))[5]? = some (some s.d) := List.getElem?_set_self (by omega)
  refine ⟨⟨s0.set 5 (some s.d), so⟩, ⟨s0.set 5 (some s.d), so⟩, ⟨s0.set 5 (some s.d), so⟩, rfl, rfl, rfl, ?_, rfl⟩
  simp only [Stp.d] at g ⊢
  simp [l_law_faults_2, g]
theorem p_lfaults {d : Int} {l : List Stp} {nms marks : List Str} {n0 n1 m0 m1 : Str} (hl : l.length ≤ 1000) (h0 : nms[0]? = some n0) (h1 : nms[1]? = some n1) (k0 : marks[0]? = some m0) (k1 : marks[1]? = some m1) (hn : n0 ≠ n1) :
    f_law_faults C [.int d, .lst (l.map Stp.d), .lst (sDs nms), .lst (sDs marks)] st = .ok (.dic (fDic (lfs d l n0 n1 m0 m1)), st) := by
  have a0 : atI (sDs nms) 0 = some (.str n0) := atI_nat (xs := sDs nms) (j := 0) (by rw [List.getElem?_map, h0]; rfl)
  have a1 : atI (sDs nms) 1 = some (.str n1) := atI_nat (xs := sDs nms) (j := 1) (by rw [List.getElem?_map, h1]; rfl)
  have b0 : atI (sDs marks) 0 = some (.str m0) := atI_nat (xs := sDs marks) (j := 0) (by rw [List.getElem?_map, k0]; rfl)
  have b1 : atI (sDs marks) 1 = some (.str m1) := atI_nat (xs := sDs marks) (j := 1) (by rw [List.getElem?_map, k1]; rfl)
  have cp := fun so => lfaults_comp (C := C) (s0 := [some (.int d), some (.lst (l.map Stp.d)), some (.lst (sDs nms)), some (.lst (sDs marks)), some (.cell st.length), none]) (so := so) (l := l) rfl hl
  have m1' : mergeD [] [((.inr n0 : Key), D.str m0)] = [((.inr n0 : Key), D.str m0)] := rfl
  refine cut_rsv (d := .cell st.length) (j := [.dic (fDic (lfs d l n0 n1 m0 m1))]) ?_ ?_
  · by_cases hd : 0 < d % 3
    · have hi := in_sDs (w := n1) (l := l.map (·.w))
      by_cases hw : n1 ∈ l.map (·.w)
      · rw [decide_eq_true hw] at hi
        have e1 : lfs d l n0 n1 m0 m1 = [(n0, m0), (n1, if d % 3 = 1 then m0 else m1)] := if_pos ⟨hd, hw⟩
        rw [e1]
        have hp : ∀ x, putD [((.inr n0 : Key), D.str m0)] (.inr n1) (.str x) = [((.inr n0 : Key), D.str m0), (.inr n1, .str x)] := fun x => by
          rw [put_new (by simp; exact fun z => hn z.symm)]; rfl
        have hm : atI (sDs marks) (d % 3 - 1) = some (.str (if d % 3 = 1 then m0 else m1)) := by
          by_cases z : d % 3 = 1
          · rw [if_pos z, z]; exact b0
          · rw [if_neg z, show d % 3 - 1 = 1 by omega]; exact b1
        simp only [sDs] at *
        simp [-List.map_map, k_law_faults, b_law_faults, a0, a1, b0, m1', hd, cp, hi, hm, hp]
      · rw [decide_eq_false hw] at hi
        have e1 : lfs d l n0 n1 m0 m1 = [(n0, m0)] := if_neg fun z => hw z.2
        rw [e1]
        simp only [sDs] at *
        simp [-List.map_map, k_law_faults, b_law_faults, a0, a1, b0, m1', hd, cp, hi]
    · have e1 : lfs d l n0 n1 m0 m1 = [(n0, m0)] := if_neg fun z => hd z.1
      rw [e1]
      simp only [sDs] at *
      simp [-List.map_map, k_law_faults, b_law_faults, a0, b0, m1', hd]
  · rw [rsv_cell (d := .dic (fDic (lfs d l n0 n1 m0 m1))) (Nat.lt_irrefl _) (get_0 _ _ _)]
    exact rsv_ok (okC_fDic _)
theorem lflts {d : Int} {l : List Stp} {n0 n1 m0 m1 : Str} (hn : n0 ≠ n1) (w0 : n0 ∈ l.map (·.w)) (o0 : okNm n0 = true) (o1 : okNm n1 = true) (p0 : okNm m0 = true) (p1 : okNm m1 = true) : LFlts (lfs d l n0 n1 m0 m1) l := by
  unfold lfs
  split
  · rename_i q
    refine ⟨by simp [hn], fun p hp => ?_, fun p hp => ?_, fun p hp => ?_, by simp, by simp⟩ <;> simp only [List.mem_cons, List.not_mem_nil, or_false] at hp <;> rcases hp with rfl | rfl
    · exact w0
    · exact q.2
    · exact o0
    · exact o1
    · exact p0
    · show okNm (if d % 3 = 1 then m0 else m1) = true
      split
      · exact p0
      · exact p1
  · refine ⟨by simp, fun p hp => ?_, fun p hp => ?_, fun p hp => ?_, by simp, by simp⟩ <;> simp only [List.mem_cons, List.not_mem_nil, or_false] at hp <;> subst hp
    · exact w0
    · exact o0
    · exact p0
end Lm

set_option maxHeartbeats 400000
namespace Lm
open PySem L2 Mir
variable {C : Cl} {st : Sto}
/-! ## faults in another order -/
theorem find_nd {fs : List (Str × Str)} (nd : (fs.map (·.1)).Nodup) {p : Str × Str} (h : p ∈ fs) : fs.find? (fun q => decide (q.1 = p.1)) = some p := by
  induction fs with
  | nil => cases h
  | cons q fs ih =>
    rw [List.map_cons, List.nodup_cons] at nd
    rw [List.find?_cons]
    rcases List.mem_cons.mp h with rfl | h
    · simp
    · have : ¬ q.1 = p.1 := fun z => nd.1 (z ▸ List.mem_map_of_mem h)
      simp only [decide_eq_false this]
      exact ih nd.2 h
theorem look_mem {fs : List (Str × Str)} (nd : (fs.map (·.1)).Nodup) {p : Str × Str} (h : p ∈ fs) : look fs p.1 = p.2 := by
  unfold look
  rw [find_nd nd h]
  rfl
theorem look_perm {fs gs : List (Str × Str)} (nd : (fs.map (·.1)).Nodup) (h : gs.Perm fs) (w : Str) : look gs w = look fs w := by
  have nd' : (gs.map (·.1)).Nodup := (h.map _).nodup_iff.mpr nd
  by_cases hw : w ∈ fs.map (·.1)
  · obtain ⟨p, hp, rfl⟩ := List.mem_map.mp hw
    rw [look_mem nd hp, look_mem nd' (h.mem_iff.mpr hp)]
  · have hw' : w ∉ gs.map (·.1) := fun z => hw ((h.map _).mem_iff.mp z)
    unfold look
    rw [List.find?_eq_none.mpr (fun p hp z => hw (List.mem_map.mpr ⟨p, hp, of_decide_eq_true z⟩)), List.find?_eq_none.mpr (fun p hp z => hw' (List.mem_map.mpr ⟨p, hp, of_decide_eq_true z⟩))]
theorem keepF_perm {fs gs : List (Str × Str)} (nd : (fs.map (·.1)).Nodup) (h : gs.Perm fs) (ws : List Str) : keepF gs ws = keepF fs ws := by
  unfold keepF
  have e : (ws.filter fun w => decide (w ∈ gs.map (·.1))) = ws.filter fun w => decide (w ∈ fs.map (·.1)) := List.filter_congr fun w _ => by
    rw [Bool.eq_iff_iff, decide_eq_true_eq, decide_eq_true_eq]
    exact (h.map _).mem_iff
  rw [e]
  exact List.map_congr_left fun w _ => by rw [look_perm nd h]
theorem keepF_mem {fs : List (Str × Str)} {ws : List Str} (nd : (fs.map (·.1)).Nodup) (sub : ∀ p ∈ fs, p.1 ∈ ws) (p : Str × Str) : p ∈ keepF fs ws ↔ p ∈ fs := by
  unfold keepF
  constructor
  · intro h
    obtain ⟨w, hw, rfl⟩ := List.mem_map.mp h
    obtain ⟨_, h2⟩ := List.mem_filter.mp hw
    obtain ⟨q, hq, rfl⟩ := List.mem_map.mp (of_decide_eq_true h2)
    rw [look_mem nd hq]
    exact hq
  · intro h
    refine List.mem_map.mpr ⟨p.1, List.mem_filter.mpr ⟨sub p h, decide_eq_true (List.mem_map_of_mem h)⟩, ?_⟩
    rw [look_mem nd h]
theorem keepF_names {fs : List (Str × Str)} {ws : List Str} (nd : (fs.map (·.1)).Nodup) (sub : ∀ p ∈ fs, p.1 ∈ ws) : sortS ((keepF fs ws).map (·.2)) = sortS (fs.map (·.2)) :=
  sortS_congr fun x => by
    simp only [List.mem_map]
    exact ⟨fun ⟨p, h1, h2⟩ => ⟨p, (keepF_mem nd sub p).mp h1, h2⟩, fun ⟨p, h1, h2⟩ => ⟨p, (keepF_mem nd sub p).mpr h1, h2⟩⟩
theorem keepF_nd {fs : List (Str × Str)} {ws : List Str} (wnd : ws.Nodup) : ((keepF fs ws).map (·.1)).Nodup := by
  rw [keepF_keys]
  exact wnd.filter _
theorem nd_of_keys {fs : List (Str × Str)} (nd : (fs.map (·.1)).Nodup) : fs.Nodup := List.Pairwise.of_map (S := (· ≠ ·)) (fun p => p.1) (fun a b hab z => hab (by rw [z])) nd
theorem keepF_perm_self {fs : List (Str × Str)} {ws : List Str} (wnd : ws.Nodup) (nd : (fs.map (·.1)).Nodup) (sub : ∀ p ∈ fs, p.1 ∈ ws) : (keepF fs ws).Perm fs :=
  (List.perm_ext_iff_of_nodup (nd_of_keys (keepF_nd wnd)) (nd_of_keys nd)).mpr (keepF_mem nd sub)
theorem dicSame_perm {fs gs : List (Str × Str)} (nd : (fs.map (·.1)).Nodup) (h : gs.Perm fs) : dicSame (fDic gs) (fDic fs) = true := by
  simp only [dicSame, Bool.and_eq_true, decide_eq_true_eq, List.all_eq_true]
  refine ⟨by simp [h.length_eq], fun q hq => ?_⟩
  obtain ⟨p, hp, rfl⟩ := List.mem_map.mp hq
  have hp' := h.mem_iff.mp hp
  have := fDic_look (fs := fs) (w := p.1) (List.mem_map_of_mem hp')
  rw [look_mem nd hp'] at this
  simp only [this, sameS, beq_self_eq_true]
theorem LFlts.perm {fs gs : List (Str × Str)} {l : List Stp} (h : LFlts fs l) (p : gs.Perm fs) : LFlts gs l :=
  ⟨(p.map _).nodup_iff.mpr h.nd, fun q hq => h.sub q (p.mem_iff.mp hq), fun q hq => h.okw q (p.mem_iff.mp hq), fun q hq => h.okn q (p.mem_iff.mp hq), by rw [p.length_eq]; exact h.len, by rw [p.length_eq]; exact h.ne⟩
theorem LFlts.sub' {fs : List (Str × Str)} {l : List Stp} (h : LFlts fs l) : ∀ p ∈ fs, p.1 ∈ wordsOf l := fun p hp => by
  obtain ⟨s, hs, e⟩ := List.mem_map.mp (h.sub p hp)
  exact mem_words.mpr ⟨s, hs, e⟩
theorem words_few {l : List Stp} {nms : List Str} (h : ∀ s ∈ l, s.w ∈ nms) : (wordsOf l).length ≤ nms.length :=
  nodup_sub_len (nodup_words l) fun w hw => by
    obtain ⟨s, hs, rfl⟩ := mem_words.mp hw
    exact h s hs
theorem LFlts.flts {fs : List (Str × Str)} {l : List Stp} (h : LFlts fs l) (hw : (wordsOf l).length ≤ 14) : Flts fs (wordsOf l) where
  okw := h.okw
  okn := h.okn
  sub := h.sub'
  nd := h.nd
  wnd := nodup_words l
  len := by omega
  few := fun ns nd hs => by
    have := nodup_sub_len nd hs
    rw [List.length_map] at this
    have := h.len
    omega
theorem Made.good {labels : List Int} {steps : List Stp} {nms : List Str} {m e : Nat} (h : Made labels steps nms m e) (okn : ∀ x ∈ nms, okNm x = true) : Good steps := fun s hs => by
  simp only [Stp.ok, h.lok _ (h.a s hs), okn _ (h.w s hs), h.lok _ (h.b s hs), Bool.and_self]
theorem Made.rows {labels : List Int} {steps : List Stp} {nms : List Str} {m e : Nat} (h : Made labels steps nms m e) (okn : ∀ x ∈ nms, okNm x = true) (he : e ≤ 6) (hm : m ≤ 40) : Rows steps where
  ok := h.good okn
  nd := h.nd
  len := by have := h.len; omega
  ne := fun z => by
    obtain ⟨x, hx⟩ := List.exists_mem_of_length_pos (l := labels) h.lne
    obtain ⟨s, hs, _⟩ := h.src x hx
    rw [z] at hs
    cases hs
  few := fun k => by have := h.few k; omega
theorem Made.mach {labels : List Int} {steps : List Stp} {nms : List Str} {m e : Nat} {start : Int} {fs : List (Str × Str)} (h : Made labels steps nms m e) (okn : ∀ x ∈ nms, okNm x = true) (he : e ≤ 6) (hm : m ≤ 40) (hn : nms.length ≤ 14) (hs : start ∈ labels) (hf : LFlts fs steps) : Mach start steps fs where
  st := h.lok _ hs
  rows := h.rows okn he hm
  words := Nat.le_trans (words_few h.w) hn
  flts := hf.flts (Nat.le_trans (words_few h.w) hn)
  live := fun x hx => by
    have hl : x ∈ labels := by
      cases hx with
      | base => exact hs
      | step _ h2 _ => exact h.b _ h2
    obtain ⟨s, h1, h2⟩ := h.src x hl
    exact (mem_srcs steps x).mpr ⟨s, h1, h2⟩
theorem sortS_sub {xs : List Str} {x : Str} (h : x ∈ sortS xs) : x ∈ xs := by
  obtain ⟨k, hk, rfl⟩ := List.mem_map.mp h
  have := KS.mem_dedup.mp ((KS.sortK_perm _).mem_iff.mp hk)
  obtain ⟨y, hy, rfl⟩ := List.mem_map.mp this
  exact hy
theorem sortS_mem {xs : List Str} {x : Str} : x ∈ sortS xs ↔ x ∈ xs := ⟨sortS_sub, fun h => List.mem_map.mpr ⟨.inr x, (KS.sortK_perm _).mem_iff.mpr (KS.mem_dedup.mpr (List.mem_map.mpr ⟨x, h, rfl⟩)), rfl⟩⟩
theorem sortS_len (xs : List Str) : (sortS xs).length ≤ xs.length := by
  unfold sortS
  rw [List.length_map, (KS.sortK_perm _).length_eq]
  have := nodup_sub_len (l := KS.dedupK (xs.map fun x => (.inr x : Key))) KS.nodup_dedup (fun k hk => KS.mem_dedup.mp hk)
  rwa [List.length_map] at this
end Lm

set_option maxHeartbeats 400000
namespace Mir
open PySem L2
/-! comprehensions over a list of anything -/
theorem comp_of {α : Type} {s0 : List (Option D)} {st : D → RE → Option RE} {mt : RE → Out (Bool × RE)} {me : RE → Out (D × RE)} {so : Sto} (i f : α → D) (p : α → Bool) : ∀ (as : List α) (acc : List D),
    (∀ a ∈ as, ∃ r1 r2, st (i a) ⟨s0, so⟩ = some r1 ∧ mt r1 = .ok (p a, r2) ∧ r2.st = so ∧ (p a = true → ∃ r3, me r2 = .ok (f a, r3) ∧ r3.st = so)) → acc.length + as.length ≤ 1000000 →
    mCompL s0 st mt me (as.map i) so acc = .ok (acc ++ (as.filter p).map f, so)
  | [], acc, _, _ => by simp [mCompL]
  | x :: xs, acc, h, hl => by
    obtain ⟨r1, r2, h1, h2, h3, h4⟩ := h x List.mem_cons_self
    rw [List.length_cons] at hl
    rw [List.map_cons]
    unfold mCompL
    rw [h1]
    simp only [h2, bnd_ok]
    by_cases hp : p x = true
    · obtain ⟨r3, h5, h6⟩ := h4 hp
      rw [if_pos hp, h5]
      simp only [bnd_ok]
      rw [if_pos (by omega), h6, comp_of i f p xs (acc ++ [f x]) (fun y hy => h y (List.mem_cons_of_mem _ hy)) (by rw [List.length_append, List.length_singleton]; omega)]
      rw [List.filter_cons_of_pos hp, List.map_cons, List.append_assoc]
      rfl
    · rw [if_neg hp, h3, comp_of i f p xs acc (fun y hy => h y (List.mem_cons_of_mem _ hy)) (by omega)]
      rw [List.filter_cons_of_neg hp]
theorem comp_each {α : Type} {s0 : List (Option D)} {st : D → RE → Option RE} {mt : RE → Out (Bool × RE)} {me : RE → Out (D × RE)} {so : Sto} (i f : α → D) (as : List α)
    (h : ∀ a ∈ as, ∃ r1 r2, st (i a) ⟨s0, so⟩ = some r1 ∧ mt r1 = .ok (true, r2) ∧ r2.st = so ∧ ∃ r3, me r2 = .ok (f a, r3) ∧ r3.st = so) (hl : as.length ≤ 1000000) :
    mCompL s0 st mt me (as.map i) so [] = .ok (as.map f, so) := by
  have := comp_of (s0 := s0) (st := st) (mt := mt) (me := me) (so := so) i f (fun _ => true) as [] (fun a ha => by
    obtain ⟨r1, r2, h1, h2, h3, h4⟩ := h a ha
    exact ⟨r1, r2, h1, h2, h3, fun _ => h4⟩) (by rw [List.length_nil]; omega)
  rw [this, List.filter_eq_self.mpr (fun _ _ => rfl), List.nil_append]
theorem compG_of {α β : Type} {app : List D → β → Option β} {s0 : List (Option D)} {st : D → RE → Option RE} {mt : RE → Out (Bool × RE)} {ma : RE → Out (List D × RE)} {so : Sto} (i : α → D) (f : α → List D) (p : α → Bool) : ∀ (xs : List α) (a a' : β),
    (∀ x ∈ xs, ∃ r1 r2, st (i x) ⟨s0, so⟩ = some r1 ∧ mt r1 = .ok (p x, r2) ∧ r2.st = so ∧ (p x = true → ∃ r3, ma r2 = .ok (f x, r3) ∧ r3.st = so)) → foldA app ((xs.filter p).map f) a = some a' →
    mCompG s0 st mt ma app (xs.map i) so a = .ok (a', so)
  | [], a, a', _, e => by simp only [List.filter_nil, List.map_nil, foldA, Option.some.injEq] at e; subst e; rfl
  | x :: xs, a, a', h, e => by
    obtain ⟨r1, r2, h1, h2, h3, h4⟩ := h x List.mem_cons_self
    rw [List.map_cons]
    unfold mCompG
    rw [h1]
    simp only [h2, bnd_ok]
    by_cases hp : p x = true
    · obtain ⟨r3, h5, h6⟩ := h4 hp
      rw [List.filter_cons_of_pos hp, List.map_cons] at e
      simp only [foldA] at e
      obtain ⟨a1, e1, e2⟩ := Option.bind_eq_some_iff.mp e
      rw [if_pos hp, h5]
      simp only [bnd_ok, e1]
      rw [h6]
      exact compG_of i f p xs a1 a' (fun y hy => h y (List.mem_cons_of_mem _ hy)) e2
    · rw [List.filter_cons_of_neg hp] at e
      rw [if_neg hp, h3]
      exact compG_of i f p xs a a' (fun y hy => h y (List.mem_cons_of_mem _ hy)) e
/-- a loop over a list of anything, the frame by what has come -/
theorem loop_list {α β : Type} {st : D → RE → Option RE} {b : RE → Out Fl} (i : α → D) (F : β → RE → Prop) (g : β → α → β) : ∀ (as : List α) (x : β) (r : RE),
    (∀ (x : β) (a : α) (r : RE), a ∈ as → F x r → ∃ r1 r2, st (i a) r = some r1 ∧ (b r1 = .ok (.nx r2) ∨ b r1 = .ok (.ct r2)) ∧ F (g x a) r2) → F x r → ∃ r', mLoop st b (as.map i) r = .ok (.nx r') ∧ F (as.foldl g x) r'
  | [], x, r, _, h => ⟨r, rfl, h⟩
  | a :: as, x, r, hs, h => by
    obtain ⟨r1, r2, h1, h2, h3⟩ := hs x a r List.mem_cons_self h
    obtain ⟨r', h4, h5⟩ := loop_list i F g as (g x a) r2 (fun x b r hb => hs x b r (List.mem_cons_of_mem _ hb)) h3
    refine ⟨r', ?_, h5⟩
    rw [List.map_cons]
    unfold mLoop
    rw [h1]
    rcases h2 with h2 | h2 <;> simp only [h2, bnd_ok, h4]
end Mir

set_option maxHeartbeats 400000
namespace Lm
open PySem L2 Mir
variable {C : Cl} {st : Sto}
/-! ## walks -/
inductive Walk (l : List Stp) : Int → List (Nat × Stp) → Int → Prop
  | nil {x : Int} : Walk l x [] x
  | cons {x y : Int} {n : Nat} {s : Stp} {ps : List (Nat × Stp)} : l[n]? = some s → s.a = x → Walk l s.b ps y → Walk l x ((n, s) :: ps) y
abbrev nDs (ps : List (Nat × Stp)) : List D := ps.map fun p => .int ((p.1 : Nat) : Int)
theorem Walk.at {l : List Stp} {x y : Int} {ps : List (Nat × Stp)} (h : Walk l x ps y) : ∀ p ∈ ps, l[p.1]? = some p.2 := by
  induction h with
  | nil => intro p hp; cases hp
  | cons h1 _ _ ih => intro p hp; rcases List.mem_cons.mp hp with rfl | hp; exact h1; exact ih p hp
theorem Walk.snoc {l : List Stp} {x y : Int} {ps : List (Nat × Stp)} {n : Nat} {s : Stp} (h : Walk l x ps y) (h1 : l[n]? = some s) (h2 : s.a = y) : Walk l x (ps ++ [(n, s)]) s.b := by
  induction h with
  | nil => exact .cons h1 h2 .nil
  | cons a b _ ih => exact .cons a b (ih h2)
theorem numsF_mem {n : Nat} {s : Stp} : ∀ {l : List Stp} {o : Nat}, l[n]? = some s → ((o + n : Nat) : Int) ∈ numsF o l s.a := by
  intro l
  induction l generalizing n with
  | nil => intro o h; simp at h
  | cons t l ih =>
    intro o h
    cases n with
    | zero =>
      simp at h
      subst h
      unfold numsF
      simp
    | succ n =>
      have := ih (n := n) (o := o + 1) (by simpa using h)
      have e : o + 1 + n = o + (n + 1) := by omega
      rw [e] at this
      unfold numsF
      split
      · exact List.mem_cons_of_mem _ this
      · exact this
section
variable {start : Int} {l : List Stp} {fs : List (Str × Str)} {xs : List Int}
abbrev mch (C : Cl) (start : Int) (l : List Stp) (fs : List (Str × Str)) (xs : List Int) : D := .ins C.Machine (fields start l fs xs)
theorem p_steps_from {x : Int} : f_steps_from C [mch C start l fs xs, .int x] st = .ok (.lst (iDs (nums l x)), st) := by
  refine cut_pure0 ?_ (okCL_ints _)
  have hv := leaving_get (l := l) (s := x)
  generalize (valD (leaving l) (.inl x)).getD (.lst []) = d at hv
  subst hv
  simp [k_steps_from, b_steps_from, look_leaving, getA, leaving_get]
theorem run_turn {x1 x3 : Option D} {x : Int} {n : Nat} {s : Stp} (h1 : l[n]? = some s) (h2 : s.a = x) : l_check_run_1 C ⟨[some (mch C start l fs xs), x1, some (.int x), x3, some (.int (n : Nat))], st⟩ = .ok (.nx ⟨[some (mch C start l fs xs), x1, some (.int s.b), x3, some (.int (n : Nat))], st⟩) := by
  subst h2
  have hi := p_integer (C := C) (d := .int (n : Nat)) (st := st) rfl
  have hi' : isInt (.int (n : Nat)) = true := rfl
  rw [hi'] at hi
  have hf := p_steps_from (C := C) (st := st) (start := start) (l := l) (fs := fs) (xs := xs) (x := s.a)
  have hm := numsF_mem (o := 0) h1
  rw [Nat.zero_add] at hm
  have hin := in_iDs (w := (n : Int)) (l := nums l s.a)
  rw [decide_eq_true hm] at hin
  have ha : atI (l.map Stp.d) (n : Int) = some s.d := atI_nat (by rw [List.getElem?_map, h1]; rfl)
  simp only [iDs] at hf hin
  simp [l_check_run_1, hi, hf, hin, look_steps, ha, Stp.d]
theorem run_loop {x1 : Option D} : ∀ (ps : List (Nat × Stp)) (o : Nat) (x y : Int) (x3 x4 : Option D), Walk l x ps y → ∃ y3 y4, mLoop (stUnp 2 (stCons (stName 3) (stCons (stName 4) stNil))) (l_check_run_1 C) (enumD o (nDs ps)) ⟨[some (mch C start l fs xs), x1, some (.int x), x3, x4], st⟩ = .ok (.nx ⟨[some (mch C start l fs xs), x1, some (.int y), y3, y4], st⟩)
  | [], o, x, y, x3, x4, h => by cases h; exact ⟨x3, x4, rfl⟩
  | (n, s) :: ps, o, x, y, x3, x4, h => by
    cases h with
    | cons h1 h2 h3 =>
      obtain ⟨y3, y4, e⟩ := run_loop ps (o + 1) s.b y (some (.int (o : Nat))) (some (.int (n : Nat))) h3
      refine ⟨y3, y4, ?_⟩
      rw [show enumD o (nDs ((n, s) :: ps)) = .tup [.int (o : Nat), .int (n : Nat)] :: enumD (o + 1) (nDs ps) from rfl, loop_cons (st := stUnp 2 (stCons (stName 3) (stCons (stName 4) stNil))) st_pair (run_turn (C := C) (st := st) (x1 := x1) h1 h2), e]
theorem p_check_run {ps : List (Nat × Stp)} {y : Int} (h : Walk l start ps y) : f_check_run C [mch C start l fs xs, .tup (nDs ps)] st = .ok (.int y, st) := by
  refine cut_pure0 ?_ rfl
  obtain ⟨y3, y4, e⟩ := run_loop (C := C) (st := st) (start := start) (l := l) (fs := fs) (xs := xs) (x1 := some (.tup (nDs ps))) ps 0 start y none none h
  have hs := p_start (C := C) (st := st) (start := start) (l := l) (fs := fs) (xs := xs)
  simp only [machD] at hs
  simp [k_check_run, b_check_run, hs]
  rw [e]
  simp
theorem p_end_of {ps : List (Nat × Stp)} {y : Int} (h : Walk l start ps y) : f_end_of C [mch C start l fs xs, .tup (nDs ps)] st = .ok (.int y, st) := by
  refine cut_pure0 ?_ rfl
  have := p_check_run (C := C) (st := st) (fs := fs) (xs := xs) h
  simp [k_end_of, b_end_of, this]
/-! faults of a run -/
theorem word_at {n : Nat} {s : Stp} (h : l[n]? = some s) : atI (l.map Stp.d) (n : Int) = some (.tup [.int s.a, .str s.w, .int s.b]) := atI_nat (by rw [List.getElem?_map, h]; rfl)
def wDs (ps : List (Nat × Stp)) : List Str := ps.map fun p => p.2.w
theorem fi_words {s0 : List (Option D)} {so : Sto} {ps : List (Nat × Stp)} (h : ∀ p ∈ ps, l[p.1]? = some p.2) (hl : ps.length ≤ 1000) (h6 : s0.length = 6) (h0 : s0[0]? = some (some (mch C start l fs xs))) : mCompL s0 (stName 4) (l_faults_in_1 C) (l_faults_in_2 C) (nDs ps) so [] = .ok (sDs (wDs ps), so) := by
  have e : sDs (wDs ps) = ps.map fun p => .str p.2.w := by simp only [sDs, wDs, List.map_map]; rfl
  rw [e]
  refine comp_each (fun p : Nat × Stp => .int ((p.1 : Nat) : Int)) _ ps (fun q hq => ?_) (by omega)
  have g4 : (s0.set 4 (some (.int (q.1 : Nat))))[4]? = some (some (.int (q.1 : Nat))) := List.getElem?_set_self (by omega)
  have g0 : (s0.set 4 (some (.int (q.1 : Nat))))[0]? = some (some (mch C start l fs xs)) := by rw [List.getElem?_set_ne (by omega)]; exact h0
  have wa := word_at (h q hq)
  refine ⟨⟨s0.set 4 (some (.int (q.1 : Nat))), so⟩, ⟨s0.set 4 (some (.int (q.1 : Nat))), so⟩, rfl, rfl, rfl, ⟨s0.set 4 (some (.int (q.1 : Nat))), so⟩, ?_, rfl⟩
  simp [l_faults_in_2, g4, g0, look_steps, wa]
def inT (ts : List (Str × Str)) (w : Str) : Bool := decide (w ∈ ts.map (·.1))
/-- what a table tells of words -/
def toldW (ts : List (Str × Str)) (ws : List Str) : List Str := (ws.filter (inT ts)).map (look ts)
theorem fi_names {s0 : List (Option D)} {so : Sto} {ts : List (Str × Str)} {ws : List Str} (hl : ws.length ≤ 1000) (h6 : s0.length = 6) (h2 : s0[2]? = some (some (.dic (fDic ts)))) : mCompG s0 (stName 5) (l_faults_in_3 C) (l_faults_in_4 C) appK (sDs ws) so [] = .ok (((toldW ts ws).map fun x => (.inr x : Key)).reverse, so) := by
  refine compG_of D.str (fun w => [.str (look ts w)]) (inT ts) ws [] _ (fun w hw => ?_) ?_
  · have g5 : (s0.set 5 (some (.str w)))[5]? = some (some (.str w)) := List.getElem?_set_self (by omega)
    have g2 : (s0.set 5 (some (.str w)))[2]? = some (some (.dic (fDic ts))) := by rw [List.getElem?_set_ne (by omega)]; exact h2
    have hv := fDic_has (fs := ts) (w := w)
    have hi : hasIn (.str w) (.dic (fDic ts)) = some (inT ts w) := by simp only [hasIn, keyD, hv]; rfl
    refine ⟨⟨s0.set 5 (some (.str w)), so⟩, ⟨s0.set 5 (some (.str w)), so⟩, rfl, ?_, rfl, fun hp => ⟨⟨s0.set 5 (some (.str w)), so⟩, ?_, rfl⟩⟩
    · simp only [fDic] at g2 hi
      simp [l_faults_in_3, g5, g2, hi]
    · have hk := fDic_look (fs := ts) (w := w) (of_decide_eq_true hp)
      simp only [fDic] at g2 hk
      simp [l_faults_in_4, g5, g2, getA, hk]
  · have e : (ws.filter (inT ts)).map (fun w => [D.str (look ts w)]) = ((toldW ts ws).map fun x => (.inr x : Key)).map fun k => [ofKey k] := by
      simp only [toldW, List.map_map]
      rfl
    have hf := List.length_filter_le (inT ts) ws
    rw [e, foldA_keys _ _ (by simp only [List.length_map, toldW, List.length_nil]; omega)]
    simp
theorem p_faults_in {ps : List (Nat × Stp)} {y : Int} (h : Walk l start ps y) (hl : ps.length ≤ 1000) : f_faults_in C [mch C start l fs xs, .tup (nDs ps)] st = .ok (.lst (sDs (sortS (toldW (keepF fs (wordsOf l)) (wDs ps)))), st) := by
  refine cut_pure0 ?_ (okCL_strs _)
  have hc := p_check_run (C := C) (st := st) (fs := fs) (xs := xs) h
  have hw := fi_words (C := C) (start := start) (fs := fs) (xs := xs) (so := st) (s0 := [some (mch C start l fs xs), some (.tup (nDs ps)), some (.dic (fDic (keepF fs (wordsOf l)))), none, none, none]) h.at hl rfl rfl
  have hlw : (wDs ps).length ≤ 1000 := by rw [wDs, List.length_map]; exact hl
  have hn := fi_names (C := C) (so := st) (ts := keepF fs (wordsOf l)) (ws := wDs ps) (s0 := [some (mch C start l fs xs), some (.tup (nDs ps)), some (.dic (fDic (keepF fs (wordsOf l)))), some (.lst (sDs (wDs ps))), none, none]) hlw rfl rfl
  generalize toldW (keepF fs (wordsOf l)) (wDs ps) = tw at hn
  have hs := sortS_of (ks := (tw.map fun x => (.inr x : Key)).reverse) (xs := tw) fun k => by simp
  have hh : KS.hom (tw.map fun x => (.inr x : Key)).reverse = true := allS_inr fun k hk => by
    obtain ⟨x, _, rfl⟩ := List.mem_map.mp (List.mem_reverse.mp hk)
    exact ⟨_, rfl⟩
  simp [-List.map_map, -List.map_reverse, k_faults_in, b_faults_in, hc, look_faults, hw, hn, hh, hs]
end
end Lm

set_option maxHeartbeats 400000
namespace Lm
open PySem L2 Mir
variable {C : Cl} {st : Sto}
/-! ## watches -/
abbrev wch (C : Cl) (tb : List (Str × Str)) : D := .ins C.Watch [(Str.ofString "table", .dic (fDic tb))]
theorem look_tab {d : D} : List.lookup (Str.ofString "table") [(Str.ofString "table", d)] = some d := by simp [List.lookup]
def sgt (tb : List (Str × Str)) (w : Str) : D := if inT tb w = true then .str (look tb w) else .non
theorem val_sgt {tb : List (Str × Str)} {w : Str} : (valD (fDic tb) (.inr w)).getD .non = sgt tb w := by
  unfold sgt inT
  by_cases h : w ∈ tb.map (·.1)
  · rw [fDic_look h, decide_eq_true h]; rfl
  · have := fDic_has (fs := tb) (w := w)
    rw [decide_eq_false h] at this ⊢
    rw [Option.isSome_eq_false_iff, Option.isNone_iff_eq_none] at this
    rw [this]; rfl
structure Table (tb : List (Str × Str)) : Prop where
  nd : (tb.map (·.1)).Nodup
  okw : ∀ p ∈ tb, okNm p.1 = true
  oks : ∀ p ∈ tb, okNm p.2 = true
  len : tb.length ≤ 100
theorem st_pair3 {x0 x1 x2 : Option D} {so : Sto} {a b : D} : stUnp 2 (stCons (stName 1) (stCons (stName 2) stNil)) (.tup [a, b]) ⟨[x0, x1, x2], so⟩ = some ⟨[x0, some a, some b], so⟩ := rfl
theorem tab_loop {x0 : Option D} : ∀ (tb : List (Str × Str)) (x1 x2 : Option D), (∀ p ∈ tb, okNm p.1 = true) → (∀ p ∈ tb, okNm p.2 = true) → ∃ y1 y2, mLoop (stUnp 2 (stCons (stName 1) (stCons (stName 2) stNil))) (l_is_sight_table_1 C) ((fDic tb).map kvPair) ⟨[x0, x1, x2], st⟩ = .ok (.nx ⟨[x0, y1, y2], st⟩)
  | [], x1, x2, _, _ => ⟨x1, x2, rfl⟩
  | p :: tb, x1, x2, h1, h2 => by
    obtain ⟨y1, y2, e⟩ := tab_loop (x0 := x0) tb (some (.str p.1)) (some (.str p.2)) (fun q hq => h1 q (List.mem_cons_of_mem _ hq)) (fun q hq => h2 q (List.mem_cons_of_mem _ hq))
    refine ⟨y1, y2, ?_⟩
    have n1 : isNm (.str p.1) = true := h1 p List.mem_cons_self
    have n2 : isNm (.str p.2) = true := h2 p List.mem_cons_self
    have a1 := p_name (C := C) (st := st) (plain_nm (h1 p List.mem_cons_self))
    have a2 := p_name (C := C) (st := st) (plain_nm (h2 p List.mem_cons_self))
    rw [n1] at a1
    rw [n2] at a2
    have t : l_is_sight_table_1 C ⟨[x0, some (.str p.1), some (.str p.2)], st⟩ = .ok (.nx ⟨[x0, some (.str p.1), some (.str p.2)], st⟩) := by
      simp [l_is_sight_table_1, a1, a2]
    rw [show (fDic (p :: tb)).map kvPair = .tup [.str p.1, .str p.2] :: (fDic tb).map kvPair from rfl, loop_cons (st := stUnp 2 (stCons (stName 1) (stCons (stName 2) stNil))) st_pair3 t, e]
theorem p_sight_table {tb : List (Str × Str)} (h : Table tb) : f_is_sight_table C [.dic (fDic tb)] st = .ok (.bl true, st) := by
  refine cut_pure0 ?_ rfl
  obtain ⟨y1, y2, e⟩ := tab_loop (C := C) (st := st) (x0 := some (.dic (fDic tb))) tb none none h.okw h.oks
  simp [-List.map_map, k_is_sight_table, b_is_sight_table]
  rw [e]
  simp
theorem watch_comp {tb : List (Str × Str)} {c : Option D} {so : Sto} (h : Table tb) : mCompG [c, some (.dic (fDic tb)), none] (stName 2) (l_Watch_init_1 C) (l_Watch_init_2 C) appD ((fDic tb).map kvKey) so [] = .ok (fDic tb, so) := by
  have hl := h.len
  have e0 : (fDic tb).map kvKey = tb.map fun p => .str p.1 := by simp only [fDic, List.map_map]; rfl
  rw [e0]
  refine compG_of (fun p : Str × Str => D.str p.1) (fun p => [.str p.1, .str p.2]) (fun _ => true) tb [] _ (fun p hp => ?_) ?_
  · have hk := fDic_look (fs := tb) (w := p.1) (List.mem_map_of_mem hp)
    rw [look_mem h.nd hp] at hk
    refine ⟨⟨[c, some (.dic (fDic tb)), some (.str p.1)], so⟩, ⟨[c, some (.dic (fDic tb)), some (.str p.1)], so⟩, rfl, rfl, rfl, fun _ => ⟨⟨[c, some (.dic (fDic tb)), some (.str p.1)], so⟩, ?_, rfl⟩⟩
    simp only [fDic] at hk
    simp [l_Watch_init_2, getA, hk]
  · have e : (tb.filter fun _ => true).map (fun p => [D.str p.1, .str p.2]) = (fDic tb).map fun p => [ofKey p.1, p.2] := by
      rw [List.filter_eq_self.mpr (fun _ _ => rfl)]
      simp only [fDic, List.map_map]
      rfl
    rw [e]
    refine (foldA_dic _ [] ?_ ?_).trans (by simp)
    · have : (([] : List (Key × D)) ++ fDic tb).map (·.1) = (tb.map (·.1)).map fun w => (.inr w : Key) := by simp only [fDic, List.nil_append, List.map_map]; rfl
      rw [this]
      exact nodup_map (fun a b e => by cases e; rfl) h.nd
    · simp only [List.nil_append, fDic, List.length_map]; omega
theorem okC_wch {n : Nat} {tb : List (Str × Str)} : okC n (wch C tb) = true := by
  simp only [wch, okC, okCF, okC_fDic, Bool.and_self]
theorem p_watch {tb : List (Str × Str)} (h : Table tb) : cutF (mkF C.Watch (k_Watch_init C)) [.dic (fDic tb)] st = .ok (wch C tb, st) := by
  refine cut_rsv (d := .cell st.length) (j := [wch C tb]) ?_ ?_
  · have hs := fun so => p_sight_table (C := C) (st := so) h
    have wc := fun so => watch_comp (C := C) (c := some (.cell st.length)) (so := so) h
    have hd : ∀ x : D, dr (st ++ [x]) (.dic (fDic tb)) = some (.dic (fDic tb)) := fun _ => rfl
    unfold mkF
    simp [-List.map_map, k_Watch_init, b_Watch_init, hs, wc]
  · rw [rsv_cell (d := wch C tb) (Nat.lt_irrefl _) (get_0 _ _ _)]
    exact rsv_ok okC_wch
theorem p_check_watch {tb : List (Str × Str)} : f_check_watch C [wch C tb] st = .ok (.non, st) := cut_pure0 (by simp [k_check_watch, b_check_watch]) rfl
theorem p_sight_of {tb : List (Str × Str)} {w : Str} : f_sight_of C [wch C tb, .str w] st = .ok (sgt tb w, st) := by
  refine cut_pure0 ?_ (by unfold sgt; split <;> rfl)
  have hv := val_sgt (tb := tb) (w := w)
  simp only [fDic] at hv
  simp [k_sight_of, b_sight_of, look_tab, getA, hv]
/-! ## sights of a path -/
section
variable {start : Int} {l : List Stp} {fs tb : List (Str × Str)} {xs : List Int}
theorem toldW_cons {w : Str} {ws : List Str} : toldW tb (w :: ws) = (if inT tb w = true then [look tb w] else []) ++ toldW tb ws := by
  unfold toldW
  by_cases h : inT tb w = true
  · rw [List.filter_cons_of_pos h, if_pos h]; rfl
  · rw [List.filter_cons_of_neg h, if_neg h]; rfl
theorem sights_loop {x2 : Option D} : ∀ (ps : List (Nat × Stp)) (acc : List Str) (x4 x5 : Option D), (∀ p ∈ ps, l[p.1]? = some p.2) → acc.length + ps.length ≤ 1000 → ∃ y4 y5, mLoop (stName 4) (l_path_sights_1 C) (nDs ps) ⟨[some (mch C start l fs xs), some (wch C tb), x2, some (.cell st.length), x4, x5], st ++ [.lst (sDs acc)]⟩ = .ok (.nx ⟨[some (mch C start l fs xs), some (wch C tb), x2, some (.cell st.length), y4, y5], st ++ [.lst (sDs (acc ++ toldW tb (wDs ps)))]⟩)
  | [], acc, x4, x5, _, _ => ⟨x4, x5, by simp [mLoop, toldW, wDs]⟩
  | p :: ps, acc, x4, x5, h, hl => by
    rw [List.length_cons] at hl
    have wa := word_at (h p List.mem_cons_self)
    have hs := fun so => p_sight_of (C := C) (st := so) (tb := tb) (w := p.2.w)
    have l0 : acc.length < 1000000 := by omega
    by_cases hw : inT tb p.2.w = true
    · obtain ⟨y4, y5, e⟩ := sights_loop (x2 := x2) ps (acc ++ [look tb p.2.w]) (some (.int (p.1 : Nat))) (some (sgt tb p.2.w)) (fun q hq => h q (List.mem_cons_of_mem _ hq)) (by rw [List.length_append, List.length_singleton]; omega)
      refine ⟨y4, y5, ?_⟩
      have eg : sgt tb p.2.w = .str (look tb p.2.w) := if_pos hw
      rw [eg] at hs e
      have t : l_path_sights_1 C ⟨[some (mch C start l fs xs), some (wch C tb), x2, some (.cell st.length), some (.int (p.1 : Nat)), x5], st ++ [.lst (sDs acc)]⟩ = .ok (.nx ⟨[some (mch C start l fs xs), some (wch C tb), x2, some (.cell st.length), some (.int (p.1 : Nat)), some (.str (look tb p.2.w))], st ++ [.lst (sDs (acc ++ [look tb p.2.w]))]⟩) := by
        simp [l_path_sights_1, look_steps, wa, hs, l0]
      rw [show nDs (p :: ps) = .int (p.1 : Nat) :: nDs ps from rfl, loop_cons (st := stName 4) rfl t, e, show wDs (p :: ps) = p.2.w :: wDs ps from rfl, toldW_cons, if_pos hw, List.append_assoc]
    · obtain ⟨y4, y5, e⟩ := sights_loop (x2 := x2) ps acc (some (.int (p.1 : Nat))) (some (sgt tb p.2.w)) (fun q hq => h q (List.mem_cons_of_mem _ hq)) (by omega)
      refine ⟨y4, y5, ?_⟩
      have eg : sgt tb p.2.w = .non := if_neg hw
      rw [eg] at hs e
      have t : l_path_sights_1 C ⟨[some (mch C start l fs xs), some (wch C tb), x2, some (.cell st.length), some (.int (p.1 : Nat)), x5], st ++ [.lst (sDs acc)]⟩ = .ok (.nx ⟨[some (mch C start l fs xs), some (wch C tb), x2, some (.cell st.length), some (.int (p.1 : Nat)), some .non], st ++ [.lst (sDs acc)]⟩) := by
        simp [l_path_sights_1, look_steps, wa, hs]
      rw [show nDs (p :: ps) = .int (p.1 : Nat) :: nDs ps from rfl, loop_cons (st := stName 4) rfl t, e, show wDs (p :: ps) = p.2.w :: wDs ps from rfl, toldW_cons, if_neg hw]
      rfl
theorem p_path_sights {ps : List (Nat × Stp)} (h : ∀ p ∈ ps, l[p.1]? = some p.2) (hl : ps.length ≤ 1000) : f_path_sights C [mch C start l fs xs, wch C tb, .tup (nDs ps)] st = .ok (.tup (sDs (toldW tb (wDs ps))), st) := by
  obtain ⟨y4, y5, e⟩ := sights_loop (C := C) (st := st) (start := start) (l := l) (fs := fs) (tb := tb) (xs := xs) (x2 := some (.tup (nDs ps))) ps [] none none h (by rw [List.length_nil]; omega)
  refine cut_pure (j := [.lst (sDs (toldW tb (wDs ps)))]) ?_ (okCL_strs _)
  have e' : mLoop (stName 4) (l_path_sights_1 C) (nDs ps) ⟨[some (mch C start l fs xs), some (wch C tb), some (.tup (nDs ps)), some (.cell st.length), none, none], st ++ [.lst []]⟩ = _ := e
  rw [List.nil_append] at e'
  simp [-List.map_map, k_path_sights, b_path_sights]
  rw [e']
  simp
theorem p_sights_of {ps : List (Nat × Stp)} {y : Int} (h : Walk l start ps y) (hl : ps.length ≤ 1000) : f_sights_of C [mch C start l fs xs, wch C tb, .tup (nDs ps)] st = .ok (.tup (sDs (toldW tb (wDs ps))), st) := by
  refine cut_pure0 ?_ (okCL_strs _)
  have h1 := p_check_watch (C := C) (st := st) (tb := tb)
  have h2 := p_check_run (C := C) (st := st) (fs := fs) (xs := xs) h
  have h3 := p_path_sights (C := C) (st := st) (start := start) (fs := fs) (xs := xs) (tb := tb) h.at hl
  simp [-List.map_map, k_sights_of, b_sights_of, h1, h2, h3]
/-! ## steps behind a fault -/
def isF (ts : List (Str × Str)) (f w : Str) : Bool := inT ts w && decide (look ts w = f)
def behind (q : Str → Bool) : List Str → Option Nat
  | [] => none
  | w :: ws => if q w = true then some ws.length else behind q ws
def behD (o : Option Nat) : D := match o with
  | some n => .int (n : Nat)
  | none => .non
theorem sgt_eq {ts : List (Str × Str)} {f w : Str} : dEqK (sgt ts w) (.str f) = .ok (.bl (isF ts f w)) := by
  unfold sgt isF
  by_cases h : inT ts w = true
  · rw [if_pos h, h]
    simp [eqOk, eqD, scalD]
  · rw [if_neg h, Bool.eq_false_iff.mpr h]
    simp [eqOk, eqD, scalD]
theorem dr_sgt {so : Sto} {ts : List (Str × Str)} {w : Str} : dr so (sgt ts w) = some (sgt ts w) := by unfold sgt; split <;> rfl
theorem p_is_fault_step {n : Nat} {s : Stp} {f : Str} (h : l[n]? = some s) : f_is_fault_step C [mch C start l fs xs, .int (n : Nat), .str f] st = .ok (.bl (isF (keepF fs (wordsOf l)) f s.w), st) := by
  refine cut_pure0 ?_ rfl
  have wa := word_at h
  have hv := val_sgt (tb := keepF fs (wordsOf l)) (w := s.w)
  have he := sgt_eq (ts := keepF fs (wordsOf l)) (f := f) (w := s.w)
  have hd := fun so => dr_sgt (so := so) (ts := keepF fs (wordsOf l)) (w := s.w)
  generalize sgt (keepF fs (wordsOf l)) s.w = d at hv he hd
  simp only [fDic] at hv
  simp only [k_is_fault_step, b_is_fault_step]
  simp [-dr, -dEqK, look_faults, look_steps, wa, getA, hv, hd]
  simp [-dEqK, he]
end
end Lm

set_option maxHeartbeats 400000
namespace Lm
open PySem L2 Mir
variable {C : Cl} {st : Sto}
section
variable {start : Int} {l : List Stp} {fs tb : List (Str × Str)} {xs : List Int}
theorem behind_loop {f : Str} {ds : List D} : ∀ (ps : List (Nat × Stp)) (o : Nat) (x3 x4 : Option D), (∀ p ∈ ps, l[p.1]? = some p.2) → o + ps.length = ds.length → ∃ y3 y4, mLoop (stUnp 2 (stCons (stName 3) (stCons (stName 4) stNil))) (l_run_behind_1 C) (enumD o (nDs ps)) ⟨[some (mch C start l fs xs), some (.tup ds), some (.str f), x3, x4], st⟩ =
    match behind (isF (keepF fs (wordsOf l)) f) (wDs ps) with
    | some n => .ok (.rt (.int (n : Nat)) ⟨[some (mch C start l fs xs), some (.tup ds), some (.str f), y3, y4], st⟩)
    | none => .ok (.nx ⟨[some (mch C start l fs xs), some (.tup ds), some (.str f), y3, y4], st⟩)
  | [], o, x3, x4, _, _ => ⟨x3, x4, rfl⟩
  | (n, s) :: ps, o, x3, x4, h, hl => by
    rw [List.length_cons] at hl
    have hq := h (n, s) List.mem_cons_self
    have hf := fun so => p_is_fault_step (C := C) (st := so) (start := start) (fs := fs) (xs := xs) (f := f) hq
    have ew : wDs ((n, s) :: ps) = s.w :: wDs ps := rfl
    have lw : (wDs ps).length = ps.length := by rw [wDs, List.length_map]
    rw [ew, show enumD o (nDs ((n, s) :: ps)) = .tup [.int (o : Nat), .int (n : Nat)] :: enumD (o + 1) (nDs ps) from rfl]
    by_cases hz : isF (keepF fs (wordsOf l)) f s.w = true
    · simp only at hf
      rw [hz] at hf
      refine ⟨some (.int (o : Nat)), some (.int (n : Nat)), ?_⟩
      have e1 : behind (isF (keepF fs (wordsOf l)) f) (s.w :: wDs ps) = some ps.length := by
        rw [behind, if_pos hz, lw]
      rw [e1]
      have ei : (ds.length : Int) - (o : Int) - 1 = (ps.length : Int) := by omega
      unfold mLoop
      rw [st_pair]
      simp [l_run_behind_1, hf, ei]
    · simp only at hf
      have hz' : isF (keepF fs (wordsOf l)) f s.w = false := by simpa using hz
      rw [hz'] at hf
      obtain ⟨y3, y4, e⟩ := behind_loop (f := f) (ds := ds) ps (o + 1) (some (.int (o : Nat))) (some (.int (n : Nat))) (fun p hp => h p (List.mem_cons_of_mem _ hp)) (by omega)
      refine ⟨y3, y4, ?_⟩
      have e1 : behind (isF (keepF fs (wordsOf l)) f) (s.w :: wDs ps) = behind (isF (keepF fs (wordsOf l)) f) (wDs ps) := by
        rw [behind, if_neg hz]
      rw [e1, ← e]
      have t : l_run_behind_1 C ⟨[some (mch C start l fs xs), some (.tup ds), some (.str f), some (.int (o : Nat)), some (.int (n : Nat))], st⟩ = .ok (.nx ⟨[some (mch C start l fs xs), some (.tup ds), some (.str f), some (.int (o : Nat)), some (.int (n : Nat))], st⟩) := by
        simp [l_run_behind_1, hf]
      rw [loop_cons (st := stUnp 2 (stCons (stName 3) (stCons (stName 4) stNil))) st_pair t]
theorem p_run_behind {f : Str} {ps : List (Nat × Stp)} (h : ∀ p ∈ ps, l[p.1]? = some p.2) : f_run_behind C [mch C start l fs xs, .tup (nDs ps), .str f] st = .ok (behD (behind (isF (keepF fs (wordsOf l)) f) (wDs ps)), st) := by
  refine cut_pure0 ?_ (by unfold behD; split <;> rfl)
  obtain ⟨y3, y4, e⟩ := behind_loop (C := C) (st := st) (start := start) (fs := fs) (xs := xs) (f := f) (ds := nDs ps) ps 0 none none h (by rw [List.length_map]; omega)
  cases hb : behind (isF (keepF fs (wordsOf l)) f) (wDs ps) with
  | none =>
    rw [hb] at e
    simp [-List.map_map, k_run_behind, b_run_behind]
    rw [e]
    simp [behD]
  | some n =>
    rw [hb] at e
    simp [-List.map_map, k_run_behind, b_run_behind]
    rw [e]
    simp [behD]
theorem p_check_fault {f : Str} (hw : (wordsOf l).length ≤ 14) (ho : okNm f = true) (hf : f ∈ (keepF fs (wordsOf l)).map (·.2)) : f_check_fault C [mch C start l fs xs, .str f] st = .ok (.non, st) := by
  refine cut_pure0 ?_ rfl
  have n1 : isNm (.str f) = true := ho
  have a1 := p_name (C := C) (st := st) (plain_nm ho)
  rw [n1] at a1
  have h4 := p_fault_names (C := C) (st := st) (start := start) (l := l) (fs := fs) (xs := xs) hw
  simp only [machD] at h4
  have hi := in_sDs (w := f) (l := sortS ((keepF fs (wordsOf l)).map (·.2)))
  rw [decide_eq_true (sortS_mem.mpr hf)] at hi
  simp [-List.map_map, k_check_fault, b_check_fault, a1, h4, hi]
theorem p_steps_behind {f : Str} {ps : List (Nat × Stp)} {y : Int} (h : Walk l start ps y) (hw : (wordsOf l).length ≤ 14) (ho : okNm f = true) (hf : f ∈ (keepF fs (wordsOf l)).map (·.2)) : f_steps_behind C [mch C start l fs xs, .tup (nDs ps), .str f] st = .ok (behD (behind (isF (keepF fs (wordsOf l)) f) (wDs ps)), st) := by
  refine cut_pure0 ?_ (by unfold behD; split <;> rfl)
  have h1 := p_check_run (C := C) (st := st) (fs := fs) (xs := xs) h
  have h2 := p_check_fault (C := C) (st := st) (start := start) (fs := fs) (xs := xs) hw ho hf
  have h3 := p_run_behind (C := C) (st := st) (start := start) (fs := fs) (xs := xs) (f := f) h.at
  simp [-List.map_map, k_steps_behind, b_steps_behind, h1, h2, h3]
/-! ## == -/
theorem steps_same {l : List Stp} (h : Good l) : dNeK (.lst (l.map Stp.d)) (.lst (l.map Stp.d)) = .ok (.bl false) := by
  have sh := shaped_ps h
  have e1 : toP (.lst (l.map Stp.d)) = .list (l.map Stp.p) := by simp only [toP, toPs_d]
  have ok : eqOk (.lst (l.map Stp.d)) (.lst (l.map Stp.d)) = true := by
    unfold eqOk
    rw [e1, sh]
    rfl
  have cl : PyData.canLay0 (.list (l.map Stp.p)) = true := by
    simp only [PyData.canLay0]
    exact lays_p h
  have eq : eqD (.lst (l.map Stp.d)) (.lst (l.map Stp.d)) = true := by
    unfold eqD
    simp only [scalD]
    rw [e1]
    exact PySem.SeqAt.eqv_refl _ cl
  simp [dNeK, dNe, ok, eq]
theorem dicSame_refl {gs : List (Str × Str)} (nd : (gs.map (·.1)).Nodup) : dicSame (fDic gs) (fDic gs) = true := dicSame_perm nd (List.Perm.refl _)
theorem p_meq (hg : Good l) : f_Machine_eq C [mch C start l fs xs, mch C start l fs xs] st = .ok (.bl true, st) := by
  refine cut_pure0 ?_ rfl
  have hs := steps_same hg
  have hd := dicSame_refl (keepF_nd (fs := fs) (nodup_words l))
  have h1 : dNeK (.int start) (.int start) = .ok (.bl false) := by simp [eqOk, eqD, scalD]
  have h3 : dEqK (.dic (fDic (keepF fs (wordsOf l)))) (.dic (fDic (keepF fs (wordsOf l)))) = .ok (.bl true) := by
    simp only [dEqK, hd, if_true]
  simp only [k_Machine_eq, b_Machine_eq]
  simp [-dicSame, -dNeK, -dEqK, look1, look_steps, look_faults, hs, h1, h3]
theorem p_weq (h : Table tb) : f_Watch_eq C [wch C tb, wch C tb] st = .ok (.bl true, st) := by
  refine cut_pure0 ?_ rfl
  have hd := dicSame_refl h.nd
  simp [-dicSame, k_Watch_eq, b_Watch_eq, look_tab, hd]
end
end Lm

set_option maxHeartbeats 400000
namespace Lm
open PySem L2 Mir
variable {C : Cl} {st : Sto}
/-! ## _law_sights -/
structure TabTo (nms : List Str) (acc : List (Str × Str)) (k : Nat) : Prop where
  nd : (acc.map (·.1)).Nodup
  sub : ∀ p ∈ acc, p.1 ∈ nms.take k
  oks : ∀ p ∈ acc, okNm p.2 = true
  len : acc.length ≤ k
theorem put_fDic {acc : List (Str × Str)} {w v : Str} (h : w ∉ acc.map (·.1)) : putD (fDic acc) (.inr w) (.str v) = fDic (acc ++ [(w, v)]) := by
  rw [put_new (by
    intro z
    obtain ⟨q, hq, e⟩ := List.mem_map.mp z
    obtain ⟨p, hp, rfl⟩ := List.mem_map.mp hq
    cases e
    exact h (List.mem_map_of_mem hp))]
  simp [fDic]
theorem TabTo.add {nms : List Str} {acc : List (Str × Str)} {k : Nat} {w v : Str} (h : TabTo nms acc k) (hw : nms[k]? = some w) (nd : nms.Nodup) (hv : okNm v = true) : w ∉ acc.map (·.1) ∧ TabTo nms (acc ++ [(w, v)]) (k + 1) := by
  have hn : w ∉ nms.take k := fun z => by
    obtain ⟨j, hj⟩ := List.getElem?_of_mem z
    rw [List.getElem?_take] at hj
    split at hj
    · rename_i hlt
      obtain ⟨b0, a0⟩ := List.getElem?_eq_some_iff.mp hj
      obtain ⟨b1, a1⟩ := List.getElem?_eq_some_iff.mp hw
      have := List.pairwise_iff_getElem.mp nd j k b0 b1 hlt
      rw [a0, a1] at this
      exact this rfl
    · cases hj
  have hn' : w ∉ acc.map (·.1) := fun z => by
    obtain ⟨p, hp, rfl⟩ := List.mem_map.mp z
    exact hn (h.sub p hp)
  refine ⟨hn', ?_, fun p hp => ?_, fun p hp => ?_, ?_⟩
  · rw [List.map_append, List.nodup_append]
    exact ⟨h.nd, by simp, fun a ha b hb => by simp at hb; subst hb; exact fun e => hn' (e ▸ ha)⟩
  · rw [take_succ hw]
    rcases List.mem_append.mp hp with z | z
    · exact List.mem_append_left _ (h.sub p z)
    · rw [List.mem_singleton.mp z]; exact List.mem_append_right _ List.mem_cons_self
  · rcases List.mem_append.mp hp with z | z
    · exact h.oks p z
    · rw [List.mem_singleton.mp z]; exact hv
  · rw [List.length_append, List.length_singleton]; have := h.len; omega
theorem TabTo.skip {nms : List Str} {acc : List (Str × Str)} {k : Nat} {w : Str} (h : TabTo nms acc k) (hw : nms[k]? = some w) : TabTo nms acc (k + 1) :=
  ⟨h.nd, fun p hp => by rw [take_succ hw]; exact List.mem_append_left _ (h.sub p hp), h.oks, by have := h.len; omega⟩
theorem ls_turn {c : D} {nms ms : List Str} {row : List Int} {acc : List (Str × Str)} {k : Nat} {x : Int} {w : Str} (h : TabTo nms acc k) (nd : nms.Nodup) (okn : ∀ y ∈ nms, okNm y = true) (okm : ∀ y ∈ ms, okNm y = true) (hw : nms[k]? = some w) (hx : row[k]? = some x) (hk : k ≤ 1000) :
    ∃ acc', TabTo nms acc' (k + 1) ∧ ∀ st, l_law_sights_1 C ⟨[some c, some (.lst (sDs nms)), some (.lst (sDs ms)), some (.int ((ms.length : Int) + 2)), some (.lst (jDs row)), some (.cell st.length), some (.int (k : Nat))], st ++ [.dic (fDic acc)]⟩ =
      .ok (.nx ⟨[some c, some (.lst (sDs nms)), some (.lst (sDs ms)), some (.int ((ms.length : Int) + 2)), some (.lst (jDs row)), some (.cell st.length), some (.int (k : Nat))], st ++ [.dic (fDic acc')]⟩) := by
  have aw : atI (sDs nms) (k : Int) = some (.str w) := atI_nat (by rw [List.getElem?_map, hw]; rfl)
  have ax : atI (jDs row) (k : Int) = some (.int x) := atI_nat (by rw [List.getElem?_map, hx]; rfl)
  have hl := h.len
  have l0 : acc.length < 1000000 := by omega
  by_cases h1 : x = 1
  · subst h1
    obtain ⟨hn, h'⟩ := h.add (v := w) hw nd (okn w (List.mem_of_getElem? hw))
    refine ⟨_, h', fun st => ?_⟩
    have hp := put_fDic (v := w) hn
    simp only [sDs, jDs, fDic] at aw ax hp
    simp [-List.map_append, l_law_sights_1, aw, ax, hp, l0, eqOk, eqD, scalD]
  · by_cases h2 : 2 ≤ x ∧ x < (ms.length : Int) + 2
    · obtain ⟨v, hv, _, av⟩ := atI_strs (l := ms) (i := x - 2) (by omega) (by omega)
      obtain ⟨hn, h'⟩ := h.add (v := v) hw nd (okm v hv)
      refine ⟨_, h', fun st => ?_⟩
      have hp := put_fDic (v := v) hn
      have h3 : (2 : Int) ≤ x := h2.1
      have h4 : x < (ms.length : Int) + 2 := h2.2
      simp only [sDs, jDs, fDic] at aw ax hp av
      simp [-List.map_append, l_law_sights_1, aw, ax, av, hp, l0, h1, h3, h4, eqOk, eqD, scalD]
    · refine ⟨acc, h.skip hw, fun st => ?_⟩
      simp only [sDs, jDs] at aw ax
      by_cases h3 : (2 : Int) ≤ x
      · have h4 : ¬ x < (ms.length : Int) + 2 := fun z => h2 ⟨h3, z⟩
        simp [l_law_sights_1, aw, ax, h1, h3, h4, eqOk, eqD, scalD]
      · simp [l_law_sights_1, aw, ax, h1, h3, eqOk, eqD, scalD]
theorem ls_loop {c : D} {nms ms : List Str} {row : List Int} (nd : nms.Nodup) (okn : ∀ y ∈ nms, okNm y = true) (okm : ∀ y ∈ ms, okNm y = true) (hr : row.length = nms.length) (hn : nms.length ≤ 100) :
    ∀ (j k : Nat) (acc : List (Str × Str)), k + j = nms.length → TabTo nms acc k → ∃ tb, TabTo nms tb nms.length ∧ ∀ st x6, ∃ y6, mLoop (stName 6) (l_law_sights_1 C) ((rangeD 0 nms.length).drop k) ⟨[some c, some (.lst (sDs nms)), some (.lst (sDs ms)), some (.int ((ms.length : Int) + 2)), some (.lst (jDs row)), some (.cell st.length), x6], st ++ [.dic (fDic acc)]⟩ =
      .ok (.nx ⟨[some c, some (.lst (sDs nms)), some (.lst (sDs ms)), some (.int ((ms.length : Int) + 2)), some (.lst (jDs row)), some (.cell st.length), y6], st ++ [.dic (fDic tb)]⟩)
  | 0, k, acc, hk, ha => by
    refine ⟨acc, by rw [show nms.length = k by omega]; exact ha, fun st x6 => ⟨x6, ?_⟩⟩
    rw [List.drop_of_length_le (by rw [rangeD_len]; omega)]
    rfl
  | j + 1, k, acc, hk, ha => by
    have hlt : k < nms.length := by omega
    obtain ⟨acc', h', t⟩ := ls_turn (C := C) (c := c) (ms := ms) (row := row) ha nd okn okm (List.getElem?_eq_getElem hlt) (List.getElem?_eq_getElem (by omega)) (by omega)
    obtain ⟨tb, h2, e⟩ := ls_loop nd okn okm hr hn j (k + 1) acc' (by omega) h'
    refine ⟨tb, h2, fun st x6 => ?_⟩
    obtain ⟨y6, e6⟩ := e st (some (.int (k : Nat)))
    refine ⟨y6, ?_⟩
    rw [range_drop hlt, loop_cons (st := stName 6) rfl (t st), e6]
theorem p_lsights (c : Int) (nms ms : List Str) (nd : nms.Nodup) (okn : ∀ y ∈ nms, okNm y = true) (okm : ∀ y ∈ ms, okNm y = true) (h1 : 1 ≤ nms.length) (hn : nms.length ≤ 100) (hm : ms.length ≤ 100) : ∃ tb, Table tb ∧ (∀ p ∈ tb, p.1 ∈ nms) ∧ ∀ st, f_law_sights C [.int c, .lst (sDs nms), .lst (sDs ms)] st = .ok (.dic (fDic tb), st) := by
  obtain ⟨row, hf, er⟩ := p_row (C := C) c ((3 * ((ms.length : Int) + 2)) :: List.replicate (nms.length - 1) ((ms.length : Int) + 2)) (fun s hs => by
    rcases List.mem_cons.mp hs with rfl | hs
    · omega
    · rw [(List.mem_replicate.mp hs).2]; omega) (by rw [List.length_cons, List.length_replicate]; omega)
  have hrl : row.length = nms.length := by rw [hf.1, List.length_cons, List.length_replicate]; omega
  obtain ⟨tb, h2, e⟩ := ls_loop (C := C) (c := .int c) (ms := ms) (row := row) nd okn okm hrl hn nms.length 0 [] (by omega) ⟨by simp, (fun p hp => by cases hp), (fun p hp => by cases hp), by simp⟩
  have hl := h2.len
  rw [List.drop_zero] at e
  have sub : ∀ p ∈ tb, p.1 ∈ nms := fun p hp => List.mem_of_mem_take (h2.sub p hp)
  refine ⟨tb, ⟨h2.nd, fun p hp => okn _ (sub p hp), h2.oks, by omega⟩, sub, fun st => ?_⟩
  obtain ⟨y6, e6⟩ := e st none
  have lm : ms.length ≤ 1000000 := by omega
  have ln : nms.length ≤ 1000000 := by omega
  have lz : (List.replicate (nms.length - 1) ((ms.length : Int) + 2)).length = nms.length - 1 := List.length_replicate
  have eS : jDs ((3 * ((ms.length : Int) + 2)) :: List.replicate (nms.length - 1) ((ms.length : Int) + 2)) = .int (3 * ((ms.length : Int) + 2)) :: (List.replicate (nms.length - 1) [D.int ((ms.length : Int) + 2)]).flatten := by
    simp [jDs]
  rw [eS] at er
  have em := dMul_l (a := [.int ((ms.length : Int) + 2)]) (k := nms.length - 1) (by simp only [List.length_cons, List.length_nil]; omega) (by omega)
  have ec : (((nms.length - 1 : Nat) : Int)) = (nms.length : Int) - 1 := by omega
  rw [ec] at em
  have ll : ((List.replicate (nms.length - 1) [D.int ((ms.length : Int) + 2)]).flatten).length = 1 * (nms.length - 1) := rep_len' _ _
  have ea := dAdd_l (a := [.int (3 * ((ms.length : Int) + 2))]) (b := (List.replicate (nms.length - 1) [D.int ((ms.length : Int) + 2)]).flatten) (by rw [ll]; simp only [List.length_cons, List.length_nil]; omega)
  rw [List.cons_append, List.nil_append] at ea
  generalize (List.replicate (nms.length - 1) [D.int ((ms.length : Int) + 2)]).flatten = zs at *
  refine cut_rsv (d := .cell st.length) (j := [.dic (fDic tb)]) ?_ ?_
  · have q3 : mSet 3 (mOp2 dAdd (mArgs (d1 dLenA) (mCons (mVar 2) mNil)) (mC (.int 2))) ⟨[some (.int c), some (.lst (sDs nms)), some (.lst (sDs ms)), none, none, none, none], st⟩ = .ok (.nx ⟨[some (.int c), some (.lst (sDs nms)), some (.lst (sDs ms)), some (.int ((ms.length : Int) + 2)), none, none, none], st⟩) := by
      simp [lm]
    have b0 : mOp2 dMul (mLst (mCons (mVar 3) mNil)) (mOp2 dSub (mArgs (d1 dLenA) (mCons (mVar 1) mNil)) (mC (.int 1))) ⟨[some (.int c), some (.lst (sDs nms)), some (.lst (sDs ms)), some (.int ((ms.length : Int) + 2)), none, none, none], st⟩ = .ok (.lst zs, ⟨[some (.int c), some (.lst (sDs nms)), some (.lst (sDs ms)), some (.int ((ms.length : Int) + 2)), none, none, none], st⟩) := by
      refine op2_ok (x := .lst [.int ((ms.length : Int) + 2)]) (y := .int ((nms.length : Int) - 1)) (r1 := ⟨[some (.int c), some (.lst (sDs nms)), some (.lst (sDs ms)), some (.int ((ms.length : Int) + 2)), none, none, none], st⟩) rfl ?_ rfl rfl em
      simp [ln]
    have b1 : mLst (mCons (mOp2 dMul (mC (.int 3)) (mVar 3)) mNil) ⟨[some (.int c), some (.lst (sDs nms)), some (.lst (sDs ms)), some (.int ((ms.length : Int) + 2)), none, none, none], st⟩ = .ok (.lst [.int (3 * ((ms.length : Int) + 2))], ⟨[some (.int c), some (.lst (sDs nms)), some (.lst (sDs ms)), some (.int ((ms.length : Int) + 2)), none, none, none], st⟩) := by
      simp
    have b2 := op2_ok (f := dAdd) b1 b0 rfl rfl ea
    have b3 := cons_ok (m := mVar 0) (x := .int c) (r := ⟨[some (.int c), some (.lst (sDs nms)), some (.lst (sDs ms)), some (.int ((ms.length : Int) + 2)), none, none, none], st⟩) rfl (cons_ok b2 (rfl : mNil _ = _))
    have q4 := set_ok (i := 4) (call_ok (dd := []) b3 (er st))
    have q5 : mSet 5 (mCell mDnew) ⟨[some (.int c), some (.lst (sDs nms)), some (.lst (sDs ms)), some (.int ((ms.length : Int) + 2)), some (.lst (jDs row)), none, none], st⟩ = .ok (.nx ⟨[some (.int c), some (.lst (sDs nms)), some (.lst (sDs ms)), some (.int ((ms.length : Int) + 2)), some (.lst (jDs row)), some (.cell st.length), none], st ++ [.dic (fDic [])]⟩) := by
      simp
    have rg := rng1 (oa := mArgs (d1 dLenA) (mCons (mVar 1) mNil)) (r := ⟨[some (.int c), some (.lst (sDs nms)), some (.lst (sDs ms)), some (.int ((ms.length : Int) + 2)), some (.lst (jDs row)), some (.cell st.length), none], st ++ [.dic (fDic [])]⟩) (r' := ⟨[some (.int c), some (.lst (sDs nms)), some (.lst (sDs ms)), some (.int ((ms.length : Int) + 2)), some (.lst (jDs row)), some (.cell st.length), none], st ++ [.dic (fDic [])]⟩) (n := nms.length) (by simp [ln]) (by omega)
    have q6 : mFor (mRng1 (mArgs (d1 dLenA) (mCons (mVar 1) mNil))) (stName 6) (l_law_sights_1 C) ⟨[some (.int c), some (.lst (sDs nms)), some (.lst (sDs ms)), some (.int ((ms.length : Int) + 2)), some (.lst (jDs row)), some (.cell st.length), none], st ++ [.dic (fDic [])]⟩ = .ok (.nx ⟨[some (.int c), some (.lst (sDs nms)), some (.lst (sDs ms)), some (.int ((ms.length : Int) + 2)), some (.lst (jDs row)), some (.cell st.length), y6], st ++ [.dic (fDic tb)]⟩) := by
      simp only [mFor, rg, bnd_ok]
      exact e6
    have main : b_law_sights C ⟨[some (.int c), some (.lst (sDs nms)), some (.lst (sDs ms)), none, none, none, none], st⟩ = .ok (.rt (.cell st.length) ⟨[some (.int c), some (.lst (sDs nms)), some (.lst (sDs ms)), some (.int ((ms.length : Int) + 2)), some (.lst (jDs row)), some (.cell st.length), y6], st ++ [.dic (fDic tb)]⟩) := by
      rw [b_law_sights, seq_nx q3, seq_nx q4]
      simp only [List.set_cons_succ, List.set_cons_zero]
      rw [seq_nx q5, seq_nx q6]
      rfl
    simp only [k_law_sights, Mir.n0, fnK, List.length_cons, List.length_nil, if_true]
    rw [show startR 7 [.int c, .lst (sDs nms), .lst (sDs ms)] st = ⟨[some (.int c), some (.lst (sDs nms)), some (.lst (sDs ms)), none, none, none, none], st⟩ from rfl]
    simp only [runB, main, bnd_ok, noX]
  · rw [rsv_cell (d := .dic (fDic tb)) (Nat.lt_irrefl _) (get_0 _ _ _)]
    exact rsv_ok (okC_fDic _)
end Lm

set_option maxHeartbeats 400000
namespace Lm
open PySem L2 Mir
variable {C : Cl} {st : Sto}
/-! ## _law_seen -/
section
variable {l : List Stp} {tb : List (Str × Str)} {ps : List (Nat × Stp)}
theorem lseen_words {s0 : List (Option D)} {so : Sto} (h : ∀ p ∈ ps, l[p.1]? = some p.2) (hl : ps.length ≤ 1000) (h6 : s0.length = 6) (h0 : s0[0]? = some (some (.lst (l.map Stp.d)))) : mCompL s0 (stName 4) (l_law_seen_1 C) (l_law_seen_2 C) (nDs ps) so [] = .ok (sDs (wDs ps), so) := by
  have e : sDs (wDs ps) = ps.map fun p => .str p.2.w := by simp only [sDs, wDs, List.map_map]; rfl
  rw [e]
  refine comp_each (fun p : Nat × Stp => .int ((p.1 : Nat) : Int)) _ ps (fun q hq => ?_) (by omega)
  have g4 : (s0.set 4 (some (.int (q.1 : Nat))))[4]? = some (some (.int (q.1 : Nat))) := List.getElem?_set_self (by omega)
  have g0 : (s0.set 4 (some (.int (q.1 : Nat))))[0]? = some (some (.lst (l.map Stp.d))) := by rw [List.getElem?_set_ne (by omega)]; exact h0
  have wa := word_at (h q hq)
  refine ⟨⟨s0.set 4 (some (.int (q.1 : Nat))), so⟩, ⟨s0.set 4 (some (.int (q.1 : Nat))), so⟩, rfl, rfl, rfl, ⟨s0.set 4 (some (.int (q.1 : Nat))), so⟩, ?_, rfl⟩
  simp [l_law_seen_2, g4, g0, wa]
theorem lseen_told {s0 : List (Option D)} {so : Sto} {ws : List Str} (hl : ws.length ≤ 1000) (h6 : s0.length = 6) (h1 : s0[1]? = some (some (.dic (fDic tb)))) : mCompL s0 (stName 5) (l_law_seen_3 C) (l_law_seen_4 C) (sDs ws) so [] = .ok (sDs (toldW tb ws), so) := by
  have e : sDs (toldW tb ws) = [] ++ (ws.filter (inT tb)).map fun w => .str (look tb w) := by simp only [sDs, toldW, List.map_map, List.nil_append]; rfl
  rw [e]
  refine comp_of D.str _ (inT tb) ws [] (fun w hw => ?_) (by rw [List.length_nil]; omega)
  have g5 : (s0.set 5 (some (.str w)))[5]? = some (some (.str w)) := List.getElem?_set_self (by omega)
  have g1 : (s0.set 5 (some (.str w)))[1]? = some (some (.dic (fDic tb))) := by rw [List.getElem?_set_ne (by omega)]; exact h1
  have hv := fDic_has (fs := tb) (w := w)
  have hi : hasIn (.str w) (.dic (fDic tb)) = some (inT tb w) := by simp only [hasIn, keyD, hv]; rfl
  refine ⟨⟨s0.set 5 (some (.str w)), so⟩, ⟨s0.set 5 (some (.str w)), so⟩, rfl, ?_, rfl, fun hp => ⟨⟨s0.set 5 (some (.str w)), so⟩, ?_, rfl⟩⟩
  · simp only [fDic] at g1 hi
    simp [l_law_seen_3, g5, g1, hi]
  · have hk := fDic_look (fs := tb) (w := w) (of_decide_eq_true hp)
    simp only [fDic] at g1 hk
    simp [l_law_seen_4, g5, g1, getA, hk]
theorem p_lseen (h : ∀ p ∈ ps, l[p.1]? = some p.2) (hl : ps.length ≤ 1000) : f_law_seen C [.lst (l.map Stp.d), .dic (fDic tb), .tup (nDs ps)] st = .ok (.lst (sDs (toldW tb (wDs ps))), st) := by
  refine cut_pure0 ?_ (okCL_strs _)
  have h1 := lseen_words (C := C) (so := st) (s0 := [some (.lst (l.map Stp.d)), some (.dic (fDic tb)), some (.tup (nDs ps)), none, none, none]) h hl rfl rfl
  have h2 := lseen_told (C := C) (so := st) (tb := tb) (ws := wDs ps) (s0 := [some (.lst (l.map Stp.d)), some (.dic (fDic tb)), some (.tup (nDs ps)), some (.lst (sDs (wDs ps))), none, none]) (by rw [wDs, List.length_map]; exact hl) rfl rfl
  simp [-List.map_map, k_law_seen, b_law_seen, h1, h2]
end
/-! ## _law_count -/
theorem count_loop {fs : List (Str × Str)} {f : Str} {ws : List Str} (hl : ws.length ≤ 1000) : ∀ (j k : Nat) (x3 : Option D), k + j = ws.length → ∃ y3, mLoop (stName 3) (l_law_count_1 C) ((rangeD 0 ws.length).drop k) ⟨[some (.lst (sDs ws)), some (.dic (fDic fs)), some (.str f), x3], st⟩ =
    match behind (isF fs f) (ws.drop k) with
    | some n => .ok (.rt (.int (n : Nat)) ⟨[some (.lst (sDs ws)), some (.dic (fDic fs)), some (.str f), y3], st⟩)
    | none => .ok (.nx ⟨[some (.lst (sDs ws)), some (.dic (fDic fs)), some (.str f), y3], st⟩)
  | 0, k, x3, hk => by
    refine ⟨x3, ?_⟩
    rw [List.drop_of_length_le (by rw [rangeD_len]; omega), List.drop_of_length_le (by omega)]
    rfl
  | j + 1, k, x3, hk => by
    have hlt : k < ws.length := by omega
    have hd : ws.drop k = ws[k] :: ws.drop (k + 1) := List.drop_eq_getElem_cons hlt
    have aw : atI (sDs ws) (k : Int) = some (.str ws[k]) := atI_nat (by rw [List.getElem?_map, List.getElem?_eq_getElem hlt]; rfl)
    have hv := val_sgt (tb := fs) (w := ws[k])
    have he := sgt_eq (ts := fs) (f := f) (w := ws[k])
    have hdr := fun so => dr_sgt (so := so) (ts := fs) (w := ws[k])
    generalize sgt fs ws[k] = d at hv he hdr
    have l1 : ws.length ≤ 1000000 := by omega
    have ld : (ws.drop (k + 1)).length = ws.length - k - 1 := by rw [List.length_drop]; omega
    simp only [sDs, fDic] at aw hv
    rw [hd, range_drop hlt]
    by_cases hz : isF fs f ws[k] = true
    · refine ⟨some (.int (k : Nat)), ?_⟩
      rw [hz] at he
      have e1 : behind (isF fs f) (ws[k] :: ws.drop (k + 1)) = some (ws.length - k - 1) := by rw [behind, if_pos hz, ld]
      rw [e1]
      have ei : (ws.length : Int) - (k : Int) - 1 = ((ws.length - k - 1 : Nat) : Int) := by omega
      have t : l_law_count_1 C ⟨[some (.lst (sDs ws)), some (.dic (fDic fs)), some (.str f), some (.int (k : Nat))], st⟩ = .ok (.rt (.int ((ws.length - k - 1 : Nat) : Int)) ⟨[some (.lst (sDs ws)), some (.dic (fDic fs)), some (.str f), some (.int (k : Nat))], st⟩) := by
        simp only [l_law_count_1]
        simp [-dr, -dEqK, aw, getA, hv, hdr]
        simp [-dEqK, he, l1, ei]
      unfold mLoop
      simp only [stName, RE.put, List.set_cons_succ, List.set_cons_zero, t, bnd_ok]
    · have hz' : isF fs f ws[k] = false := by simpa using hz
      rw [hz'] at he
      obtain ⟨y3, e⟩ := count_loop hl j (k + 1) (some (.int (k : Nat))) (by omega)
      refine ⟨y3, ?_⟩
      have e1 : behind (isF fs f) (ws[k] :: ws.drop (k + 1)) = behind (isF fs f) (ws.drop (k + 1)) := by rw [behind, if_neg hz]
      rw [e1, ← e]
      have t : l_law_count_1 C ⟨[some (.lst (sDs ws)), some (.dic (fDic fs)), some (.str f), some (.int (k : Nat))], st⟩ = .ok (.nx ⟨[some (.lst (sDs ws)), some (.dic (fDic fs)), some (.str f), some (.int (k : Nat))], st⟩) := by
        simp only [l_law_count_1]
        simp [-dr, -dEqK, aw, getA, hv, hdr]
        simp [-dEqK, he]
      rw [loop_cons (st := stName 3) rfl t]
theorem p_lcount {fs : List (Str × Str)} {f : Str} {ws : List Str} (hl : ws.length ≤ 1000) : f_law_count C [.lst (sDs ws), .dic (fDic fs), .str f] st = .ok (behD (behind (isF fs f) ws), st) := by
  refine cut_pure0 ?_ (by unfold behD; split <;> rfl)
  obtain ⟨y3, e⟩ := count_loop (C := C) (st := st) (fs := fs) (f := f) hl ws.length 0 none (by omega)
  rw [List.drop_zero, List.drop_zero] at e
  have l1 : ws.length ≤ 1000000 := by omega
  have l2 : (-1000000 : Int) ≤ (ws.length : Int) := by omega
  have l3 : (ws.length : Int) ≤ 1000000 := by omega
  cases hb : behind (isF fs f) ws with
  | none =>
    rw [hb] at e
    simp [-List.map_map, k_law_count, b_law_count, l1, l2, l3]
    rw [e]
    simp [behD]
  | some n =>
    rw [hb] at e
    simp [-List.map_map, k_law_count, b_law_count, l1, l2, l3]
    rw [e]
    simp [behD]
/-! ## _law_walk -/
def ways (l : List Stp) (x : Int) : List Nat := (List.range l.length).filter fun k => match l[k]? with | some s => decide (s.a = x) | none => false
theorem ways_at {l : List Stp} {x : Int} {k : Nat} (h : k ∈ ways l x) : ∃ s, l[k]? = some s ∧ s.a = x := by
  obtain ⟨h1, h2⟩ := List.mem_filter.mp h
  have hk := List.mem_range.mp h1
  rw [List.getElem?_eq_getElem hk] at h2
  exact ⟨l[k], List.getElem?_eq_getElem hk, of_decide_eq_true h2⟩
theorem ways_ne {l : List Stp} {x : Int} (h : ∃ s ∈ l, s.a = x) : 0 < (ways l x).length := by
  obtain ⟨s, hs, e⟩ := h
  obtain ⟨k, hk⟩ := List.getElem?_of_mem hs
  refine List.length_pos_of_mem (a := k) (List.mem_filter.mpr ⟨List.mem_range.mpr (List.getElem?_eq_some_iff.mp hk).1, ?_⟩)
  rw [hk]
  exact decide_eq_true e
abbrev kDs (ks : List Nat) : List D := ks.map fun k => .int ((k : Nat) : Int)
theorem walk_comp {s0 : List (Option D)} {so : Sto} {l : List Stp} {x : Int} (h9 : s0.length = 9) (h1 : s0[1]? = some (some (.lst (l.map Stp.d)))) (h4 : s0[4]? = some (some (.int x))) (hl : l.length ≤ 1000) : mCompL s0 (stName 8) (l_law_walk_1 C) (l_law_walk_2 C) (rangeD 0 l.length) so [] = .ok (kDs (ways l x), so) := by
  have e : kDs (ways l x) = [] ++ ((List.range l.length).filter fun k => match l[k]? with | some s => decide (s.a = x) | none => false).map fun k => .int (0 + ((k : Nat) : Int)) := by
    rw [List.nil_append]
    refine List.map_congr_left fun k _ => ?_
    show D.int (k : Nat) = .int (0 + ((k : Nat) : Int))
    rw [Int.zero_add]
  rw [e]
  refine comp_of (fun k : Nat => D.int (0 + ((k : Nat) : Int))) _ _ (List.range l.length) [] (fun k hk => ?_) (by rw [List.length_nil, List.length_range]; omega)
  have hk := List.mem_range.mp hk
  have hg : l[k]? = some l[k] := List.getElem?_eq_getElem hk
  have wa := word_at hg
  have g8 : (s0.set 8 (some (.int (0 + (k : Int)))))[8]? = some (some (.int (0 + (k : Int)))) := List.getElem?_set_self (by omega)
  have g1 : (s0.set 8 (some (.int (0 + (k : Int)))))[1]? = some (some (.lst (l.map Stp.d))) := by rw [List.getElem?_set_ne (by omega)]; exact h1
  have g4 : (s0.set 8 (some (.int (0 + (k : Int)))))[4]? = some (some (.int x)) := by rw [List.getElem?_set_ne (by omega)]; exact h4
  refine ⟨⟨s0.set 8 (some (.int (0 + (k : Int)))), so⟩, ⟨s0.set 8 (some (.int (0 + (k : Int)))), so⟩, rfl, ?_, rfl, fun _ => ⟨⟨s0.set 8 (some (.int (0 + (k : Int)))), so⟩, ?_, rfl⟩⟩
  · rw [hg]
    rw [Int.zero_add] at *
    simp [l_law_walk_1, g8, g1, g4, wa, eqOk, eqD, scalD]
  · simp only [l_law_walk_2, mVar, g8]
theorem walk_turn {x0 x2 x6 x7 : Option D} {l : List Stp} {x d : Int} {acc : List (Nat × Stp)} (hl : l.length ≤ 1000) (hs : ∃ s ∈ l, s.a = x) (ha : acc.length ≤ 1000) : ∃ n s, l[n]? = some s ∧ s.a = x ∧ ∀ st (x6 x7 : Option D), ∃ y6 y7, l_law_walk_3 C ⟨[x0, some (.lst (l.map Stp.d)), x2, some (.cell st.length), some (.int x), some (.int d), x6, x7, none], st ++ [.lst (nDs acc)]⟩ = .ok (.nx ⟨[x0, some (.lst (l.map Stp.d)), x2, some (.cell st.length), some (.int s.b), some (.int d), y6, y7, none], st ++ [.lst (nDs (acc ++ [(n, s)]))]⟩) := by
  have hw := ways_ne hs
  have hw' : (0 : Int) < ((ways l x).length : Int) := by omega
  have m0 := Int.emod_nonneg d (show ((ways l x).length : Int) ≠ 0 by omega)
  have m1 := Int.emod_lt_of_pos d hw'
  have hi : (d % ((ways l x).length : Int)).toNat < (ways l x).length := by omega
  have hm : (ways l x)[(d % ((ways l x).length : Int)).toNat] ∈ ways l x := List.getElem_mem hi
  obtain ⟨s, h1, h2⟩ := ways_at hm
  have aw : atI (kDs (ways l x)) (d % ((ways l x).length : Int)) = some (.int (((ways l x)[(d % ((ways l x).length : Int)).toNat] : Nat) : Int)) := by
    have := atI_nat (xs := kDs (ways l x)) (j := (d % ((ways l x).length : Int)).toNat) (v := .int (((ways l x)[(d % ((ways l x).length : Int)).toNat] : Nat) : Int)) (by rw [List.getElem?_map, List.getElem?_eq_getElem hi]; rfl)
    rwa [show (((d % ((ways l x).length : Int)).toNat : Nat) : Int) = d % ((ways l x).length : Int) by omega] at this
  generalize (ways l x)[(d % ((ways l x).length : Int)).toNat] = n at h1 aw
  refine ⟨n, s, h1, h2, fun st x6 x7 => ⟨some (.lst (kDs (ways l x))), some (.int (n : Nat)), ?_⟩⟩
  have wc := fun so => walk_comp (C := C) (so := so) (l := l) (x := x) (s0 := [x0, some (.lst (l.map Stp.d)), x2, some (.cell st.length), some (.int x), some (.int d), x6, x7, none]) rfl rfl rfl hl
  have wa := word_at h1
  have lw : (ways l x).length ≤ 1000000 := by
    have := List.length_filter_le (fun k => match l[k]? with | some s => decide (s.a = x) | none => false) (List.range l.length)
    rw [List.length_range] at this
    unfold ways
    omega
  have l1 : l.length ≤ 1000000 := by omega
  have l2 : (-1000000 : Int) ≤ (l.length : Int) := by omega
  have l3 : (l.length : Int) ≤ 1000000 := by omega
  have la : acc.length < 1000000 := by omega
  generalize ways l x = ww at *
  simp only [kDs] at aw wc
  simp [l_law_walk_3, l1, l2, l3, wc, lw, hw, hw', aw, la, wa]
theorem walk_loop {x0 x2 : Option D} {l : List Stp} {start : Int} {labels : List Int} (hl : l.length ≤ 1000) (hsrc : ∀ x ∈ labels, ∃ s ∈ l, s.a = x) (htg : ∀ s ∈ l, s.b ∈ labels) :
    ∀ (ds : List Int) (x : Int) (acc : List (Nat × Stp)), x ∈ labels → Walk l start acc x → acc.length + ds.length ≤ 1000 → ∃ ps y, Walk l start ps y ∧ ps.length = acc.length + ds.length ∧ ∀ st x5 x6 x7, ∃ y5 y6 y7, mLoop (stName 5) (l_law_walk_3 C) (jDs ds) ⟨[x0, some (.lst (l.map Stp.d)), x2, some (.cell st.length), some (.int x), x5, x6, x7, none], st ++ [.lst (nDs acc)]⟩ =
      .ok (.nx ⟨[x0, some (.lst (l.map Stp.d)), x2, some (.cell st.length), some (.int y), y5, y6, y7, none], st ++ [.lst (nDs ps)]⟩)
  | [], x, acc, hx, hw, _ => ⟨acc, x, hw, rfl, fun st x5 x6 x7 => ⟨x5, x6, x7, rfl⟩⟩
  | d :: ds, x, acc, hx, hw, ha => by
    rw [List.length_cons] at ha
    obtain ⟨n, s, h1, h2, t⟩ := walk_turn (C := C) (x0 := x0) (x2 := x2) (x6 := none) (x7 := none) (d := d) (acc := acc) hl (hsrc x hx) (by omega)
    obtain ⟨ps, y, hp, hlen, e⟩ := walk_loop (x0 := x0) (x2 := x2) hl hsrc htg ds s.b (acc ++ [(n, s)]) (htg s (List.mem_of_getElem? h1)) (hw.snoc h1 h2) (by rw [List.length_append, List.length_singleton]; omega)
    refine ⟨ps, y, hp, by rw [hlen, List.length_append, List.length_singleton, List.length_cons]; omega, fun st x5 x6 x7 => ?_⟩
    obtain ⟨z6, z7, t'⟩ := t st x6 x7
    obtain ⟨y5, y6, y7, e'⟩ := e st (some (.int d)) z6 z7
    refine ⟨y5, y6, y7, ?_⟩
    rw [show jDs (d :: ds) = .int d :: jDs ds from rfl, loop_cons (st := stName 5) rfl t', e']
theorem p_lwalk {l : List Stp} {start : Int} {labels : List Int} {ds : List Int} (hl : l.length ≤ 1000) (hsrc : ∀ x ∈ labels, ∃ s ∈ l, s.a = x) (htg : ∀ s ∈ l, s.b ∈ labels) (hs : start ∈ labels) (hd : ds.length ≤ 1000) : ∃ ps y, Walk l start ps y ∧ ps.length = ds.length ∧ ∀ st, f_law_walk C [.lst (jDs ds), .lst (l.map Stp.d), .int start] st = .ok (.lst (nDs ps), st) := by
  obtain ⟨ps, y, hp, hlen, e⟩ := walk_loop (C := C) (x0 := some (.lst (jDs ds))) (x2 := some (.int start)) hl hsrc htg ds start [] hs .nil (by rw [List.length_nil]; omega)
  refine ⟨ps, y, hp, by rw [hlen, List.length_nil]; omega, fun st => ?_⟩
  obtain ⟨y5, y6, y7, e'⟩ := e st none none none
  refine cut_rsv (d := .cell st.length) (j := [.lst (nDs ps)]) ?_ ?_
  · have e2 : mLoop (stName 5) (l_law_walk_3 C) (jDs ds) ⟨[some (.lst (jDs ds)), some (.lst (l.map Stp.d)), some (.int start), some (.cell st.length), some (.int start), none, none, none, none], st ++ [.lst []]⟩ = _ := e'
    simp [-List.map_map, k_law_walk, b_law_walk]
    rw [e2]
    simp
  · rw [rsv_cell (d := .lst (nDs ps)) (Nat.lt_irrefl _) (get_0 _ _ _)]
    have : nDs ps = iDs (ps.map fun p => ((p.1 : Nat) : Int)) := by simp only [nDs, iDs, List.map_map]; rfl
    rw [this]
    exact rsv_ok (okCL_ints _)
end Lm

set_option maxHeartbeats 400000
namespace Lm
open PySem L2 Mir
variable {C : Cl} {st : Sto}
/-! ## _law_system -/
structure Sys (start : Int) (l : List Stp) (fs : List (Str × Str)) (nms ms : List Str) (m e many : Nat) : Prop where
  made : ∃ labels, Made labels l nms m e ∧ start ∈ labels
  fl : LFlts fs l
  nlen : nms.length = many
  nnd : nms.Nodup
  nok : ∀ x ∈ nms, okNm x = true
  mlen : ms.length = 2
  mok : ∀ x ∈ ms, okNm x = true
theorem nd_ne {nms : List Str} {i j : Nat} {a b : Str} (nd : nms.Nodup) (hi : nms[i]? = some a) (hj : nms[j]? = some b) (h : i < j) : a ≠ b := by
  obtain ⟨b0, a0⟩ := List.getElem?_eq_some_iff.mp hi
  obtain ⟨b1, a1⟩ := List.getElem?_eq_some_iff.mp hj
  have := List.pairwise_iff_getElem.mp nd i j b0 b1 h
  rwa [a0, a1] at this
theorem p_lsystem (ns : List Int) (m e many : Nat) (h2 : 2 ≤ many) (h11 : many ≤ 11) (hm1 : 1 ≤ m) (hm : m ≤ 40) (he : e ≤ 40) : ∃ start l fs nms ms, Sys start l fs nms ms m e many ∧ f_law_system C [.frl (ns.map D.int), .int m, .int e, .int many] st = .ok (.lst [.int start, .lst (l.map Stp.d), .dic (fDic fs), .lst (sDs nms), .lst (sDs ms)], st) := by
  obtain ⟨c0, ec0⟩ := p_cell (C := C) ns 0
  obtain ⟨c1, ec1⟩ := p_cell (C := C) ns 1
  obtain ⟨c2, ec2⟩ := p_cell (C := C) ns 2
  obtain ⟨nms, hn, en⟩ := p_names (C := C) c0 (many + 2) (by omega)
  have ln := hn.len
  have okT : ∀ x ∈ nms.take many, okNm x = true := fun x hx => hn.ok x (List.mem_of_mem_take hx)
  have lT : (nms.take many).length = many := by rw [List.length_take]; omega
  have lD : (nms.drop many).length = 2 := by rw [List.length_drop]; omega
  obtain ⟨labels, l, hmd, em⟩ := p_machine (C := C) (st := st) c1 (nms.take many) m e (by omega) (by omega) okT hm1 hm he
  obtain ⟨row, hf, er⟩ := p_row (C := C) c2 [3, 5] (fun s hs => by simp only [List.mem_cons, List.not_mem_nil, or_false] at hs; rcases hs with rfl | rfl <;> omega) (by simp)
  obtain ⟨r0, r1, rfl⟩ : ∃ r0 r1, row = [r0, r1] := by
    obtain ⟨hl, hk⟩ := hf
    match row, hl with
    | [r0, r1], _ => exact ⟨r0, r1, rfl⟩
  obtain ⟨n0, g0⟩ : ∃ x, nms[0]? = some x := ⟨_, List.getElem?_eq_getElem (by omega)⟩
  obtain ⟨n1, g1⟩ : ∃ x, nms[1]? = some x := ⟨_, List.getElem?_eq_getElem (by omega)⟩
  obtain ⟨m0, g6⟩ : ∃ x, (nms.drop many)[0]? = some x := ⟨_, List.getElem?_eq_getElem (by omega)⟩
  obtain ⟨m1, g7⟩ : ∃ x, (nms.drop many)[1]? = some x := ⟨_, List.getElem?_eq_getElem (by omega)⟩
  have hne : n0 ≠ n1 := nd_ne hn.nd g0 g1 (by omega)
  have t0 : (nms.take many)[0]? = some n0 := by rw [List.getElem?_take_of_lt (by omega)]; exact g0
  have hlen := hmd.len
  have okD : ∀ x ∈ nms.drop many, okNm x = true := fun x hx => hn.ok x (List.mem_of_mem_drop hx)
  have lf : LFlts (lfs r0 l n0 n1 m0 m1) l := lflts hne (by
    obtain ⟨s, hs, e⟩ := hmd.w0 n0 t0
    exact List.mem_map.mpr ⟨s, hs, e⟩) (hn.ok _ (List.mem_of_getElem? g0)) (hn.ok _ (List.mem_of_getElem? g1)) (okD _ (List.mem_of_getElem? g6)) (okD _ (List.mem_of_getElem? g7))
  have ef := fun st => p_lfaults (C := C) (st := st) (d := r0) (l := l) (nms := nms) (marks := nms.drop many) (n0 := n0) (n1 := n1) (m0 := m0) (m1 := m1) (by omega) g0 g1 g6 g7 hne
  generalize lfs r0 l n0 n1 m0 m1 = fs at lf ef
  have lne := hmd.lne
  obtain ⟨start, hs0⟩ : ∃ x, labels[0]? = some x := ⟨_, List.getElem?_eq_getElem (by omega)⟩
  refine ⟨start, l, fs, nms.take many, nms.drop many, ⟨⟨labels, hmd, List.mem_of_getElem? hs0⟩, lf, lT, hn.nd.sublist (List.take_sublist _ _), okT, lD, okD⟩, ?_⟩
  have ec0 : ∀ st, f_law_cell C [.frl (ns.map D.int), .int 0] st = _ := ec0
  have ec1 : ∀ st, f_law_cell C [.frl (ns.map D.int), .int 1] st = _ := ec1
  have ec2 : ∀ st, f_law_cell C [.frl (ns.map D.int), .int 2] st = _ := ec2
  have ecast : ((many + 2 : Nat) : Int) = (many : Int) + 2 := by omega
  simp only [ecast] at en
  have er : ∀ st, f_law_row C [.int c2, .lst [.int 3, .int 5]] st = .ok (.lst [.int r0, .int r1], st) := er
  have ct : cutD (sDs nms) none (some (many : Int)) = sDs (nms.take many) := by
    rw [cutD_to (by rw [List.length_map]; omega), ← List.map_take]
  have cd : cutD (sDs nms) (some (many : Int)) none = sDs (nms.drop many) := by
    rw [cutD_from (by rw [List.length_map]; omega), ← List.map_drop]
  have as : atI (jDs labels) 0 = some (.int start) := atI_row (i := 0) hs0 rfl
  generalize nms.take many = nt at *
  generalize nms.drop many = nd at *
  have q4 : mSet 4 (mCall (f_law_names C) [] (mCons (mCall (f_law_cell C) [] (mCons (mVar 0) (mCons (mC (.int 0)) mNil))) (mCons (mOp2 dAdd (mVar 3) (mC (.int 2))) mNil))) ⟨[some (.frl (ns.map D.int)), some (.int m), some (.int e), some (.int many), none, none, none, none, none], st⟩ = .ok (.nx ⟨[some (.frl (ns.map D.int)), some (.int m), some (.int e), some (.int many), some (.lst (sDs nms)), none, none, none, none], st⟩) := by
    have k1 := op2_ok (f := dAdd) (a := mVar 3) (b := mC (.int 2)) (r := ⟨[some (.frl (ns.map D.int)), some (.int m), some (.int e), some (.int many), none, none, none, none, none], st⟩) (x := .int many) (y := .int 2) rfl rfl rfl rfl dAdd_i
    have k2 := cons_ok (m := mVar 0) (x := .frl (ns.map D.int)) (r := ⟨[some (.frl (ns.map D.int)), some (.int m), some (.int e), some (.int many), none, none, none, none, none], st⟩) rfl (cons_ok (m := mC (.int 0)) (x := .int 0) (r := ⟨[some (.frl (ns.map D.int)), some (.int m), some (.int e), some (.int many), none, none, none, none, none], st⟩) rfl (rfl : mNil _ = _))
    have k3 := call_ok (dd := []) k2 (ec0 st)
    have k4 := cons_ok k3 (cons_ok k1 (rfl : mNil _ = _))
    exact set_ok (i := 4) (call_ok (dd := []) k4 (en st))
  have q7 : mAsg (stUnp 2 (stCons (stName 7) (stCons (stName 8) stNil))) (mCall (f_law_machine C) [] (mCons (mCall (f_law_cell C) [] (mCons (mVar 0) (mCons (mC (.int 1)) mNil))) (mCons (mCut dCut (mVar 4) mNoP (mPart (mVar 3))) (mCons (mVar 1) (mCons (mVar 2) mNil))))) ⟨[some (.frl (ns.map D.int)), some (.int m), some (.int e), some (.int many), some (.lst (sDs nms)), none, none, none, none], st⟩ = .ok (.nx ⟨[some (.frl (ns.map D.int)), some (.int m), some (.int e), some (.int many), some (.lst (sDs nms)), none, none, some (.lst (jDs labels)), some (.lst (l.map Stp.d))], st⟩) := by
    simp [-List.map_map, ec1, ct, em]
  have q5 : mSet 5 (mOp2 dIxA (mCall (f_law_row C) [] (mCons (mCall (f_law_cell C) [] (mCons (mVar 0) (mCons (mC (.int 2)) mNil))) (mCons (mLst (mCons (mC (.int 3)) (mCons (mC (.int 5)) mNil))) mNil))) (mC (.int 0))) ⟨[some (.frl (ns.map D.int)), some (.int m), some (.int e), some (.int many), some (.lst (sDs nms)), none, none, some (.lst (jDs labels)), some (.lst (l.map Stp.d))], st⟩ = .ok (.nx ⟨[some (.frl (ns.map D.int)), some (.int m), some (.int e), some (.int many), some (.lst (sDs nms)), some (.int r0), none, some (.lst (jDs labels)), some (.lst (l.map Stp.d))], st⟩) := by
    simp [-List.map_map, ec2, er]
  have q6 : mSet 6 (mCall (f_law_faults C) [] (mCons (mVar 5) (mCons (mVar 8) (mCons (mVar 4) (mCons (mCut dCut (mVar 4) (mPart (mVar 3)) mNoP) mNil))))) ⟨[some (.frl (ns.map D.int)), some (.int m), some (.int e), some (.int many), some (.lst (sDs nms)), some (.int r0), none, some (.lst (jDs labels)), some (.lst (l.map Stp.d))], st⟩ = .ok (.nx ⟨[some (.frl (ns.map D.int)), some (.int m), some (.int e), some (.int many), some (.lst (sDs nms)), some (.int r0), some (.dic (fDic fs)), some (.lst (jDs labels)), some (.lst (l.map Stp.d))], st⟩) := by
    simp [-List.map_map, cd, ef]
  have q9 : mLst (mCons (mOp2 dIxA (mVar 7) (mC (.int 0))) (mCons (mVar 8) (mCons (mVar 6) (mCons (mCut dCut (mVar 4) mNoP (mPart (mVar 3))) (mCons (mCut dCut (mVar 4) (mPart (mVar 3)) mNoP) mNil))))) ⟨[some (.frl (ns.map D.int)), some (.int m), some (.int e), some (.int many), some (.lst (sDs nms)), some (.int r0), some (.dic (fDic fs)), some (.lst (jDs labels)), some (.lst (l.map Stp.d))], st⟩ = .ok (.lst [.int start, .lst (l.map Stp.d), .dic (fDic fs), .lst (sDs nt), .lst (sDs nd)], ⟨[some (.frl (ns.map D.int)), some (.int m), some (.int e), some (.int many), some (.lst (sDs nms)), some (.int r0), some (.dic (fDic fs)), some (.lst (jDs labels)), some (.lst (l.map Stp.d))], st⟩) := by
    simp only [jDs] at as
    simp [-List.map_map, ct, cd, as]
  refine cut_pure0 ?_ ?_
  · have main : b_law_system C ⟨[some (.frl (ns.map D.int)), some (.int m), some (.int e), some (.int many), none, none, none, none, none], st⟩ = .ok (.rt (.lst [.int start, .lst (l.map Stp.d), .dic (fDic fs), .lst (sDs nt), .lst (sDs nd)]) ⟨[some (.frl (ns.map D.int)), some (.int m), some (.int e), some (.int many), some (.lst (sDs nms)), some (.int r0), some (.dic (fDic fs)), some (.lst (jDs labels)), some (.lst (l.map Stp.d))], st⟩) := by
      rw [b_law_system, seq_nx q4, seq_nx q7, seq_nx q5, seq_nx q6]
      simp only [mRet, q9, bnd_ok]
    simp only [k_law_system, Mir.n0, fnK, List.length_cons, List.length_nil, if_true]
    rw [show startR 9 [.frl (ns.map D.int), .int m, .int e, .int many] st = ⟨[some (.frl (ns.map D.int)), some (.int m), some (.int e), some (.int many), none, none, none, none, none], st⟩ from rfl]
    simp only [runB, main, bnd_ok, noX]
  · simp only [okC, okCL, okCL_steps, okCL_strs, okC_fDic, Bool.and_self]
section
variable {start : Int} {l : List Stp} {fs : List (Str × Str)} {nms ms : List Str} {m e many : Nat}
theorem Sys.mach (h : Sys start l fs nms ms m e many) (he : e ≤ 6) (hm : m ≤ 40) (hn : many ≤ 14) : Mach start l fs :=
  let ⟨_, h1, h2⟩ := h.made; h1.mach h.nok he hm (by rw [h.nlen]; exact hn) h2 h.fl
theorem Sys.few (h : Sys start l fs nms ms m e many) : (wordsOf l).length ≤ many := by
  obtain ⟨_, h1, _⟩ := h.made
  have := words_few h1.w
  rwa [h.nlen] at this
theorem Sys.len (h : Sys start l fs nms ms m e many) : l.length ≤ m + e + 1 := by
  obtain ⟨_, h1, _⟩ := h.made
  exact h1.len
/-- the faults of a machine and the faults of its law tell the same of its words -/
theorem inT_keep {w : Str} (hw : w ∈ wordsOf l) : inT (keepF fs (wordsOf l)) w = inT fs w := by
  unfold inT
  rw [keepF_keys, Bool.eq_iff_iff, decide_eq_true_eq, decide_eq_true_eq, List.mem_filter]
  exact ⟨fun h => of_decide_eq_true h.2, fun h => ⟨hw, decide_eq_true h⟩⟩
theorem look_keep {w : Str} (nd : (fs.map (·.1)).Nodup) (sub : ∀ p ∈ fs, p.1 ∈ wordsOf l) : look (keepF fs (wordsOf l)) w = look fs w := look_perm nd (keepF_perm_self (nodup_words l) nd sub) w
theorem isF_keep {w f : Str} (h : LFlts fs l) (hw : w ∈ wordsOf l) : isF (keepF fs (wordsOf l)) f w = isF fs f w := by
  unfold isF
  rw [inT_keep hw, look_keep h.nd h.sub']
theorem toldW_keep {ws : List Str} (h : LFlts fs l) (hw : ∀ w ∈ ws, w ∈ wordsOf l) : toldW (keepF fs (wordsOf l)) ws = toldW fs ws := by
  unfold toldW
  rw [List.filter_congr (fun w hw' => inT_keep (fs := fs) (hw w hw'))]
  exact List.map_congr_left fun w _ => look_keep h.nd h.sub'
theorem behind_congr {q q' : Str → Bool} : ∀ {ws : List Str}, (∀ w ∈ ws, q w = q' w) → behind q ws = behind q' ws
  | [], _ => rfl
  | w :: ws, h => by
    simp only [behind]
    rw [h w List.mem_cons_self, behind_congr fun v hv => h v (List.mem_cons_of_mem _ hv)]
theorem Walk.words {ps : List (Nat × Stp)} {x y : Int} (h : Walk l x ps y) : ∀ w ∈ wDs ps, w ∈ wordsOf l := fun w hw => by
  obtain ⟨p, hp, rfl⟩ := List.mem_map.mp hw
  exact mem_words.mpr ⟨p.2, List.mem_of_getElem? (h.at p hp), rfl⟩
/-- the state at the end of a walk, as the law finds it -/
theorem Walk.last {ps : List (Nat × Stp)} {x y : Int} (h : Walk l x ps y) (hp : ps ≠ []) : ∃ qs n s, ps = qs ++ [(n, s)] ∧ l[n]? = some s ∧ s.b = y := by
  induction h with
  | nil => exact absurd rfl hp
  | @cons x y n s ps h1 h2 h3 ih =>
    cases ps with
    | nil => cases h3; exact ⟨[], n, s, rfl, h1, rfl⟩
    | cons q qs =>
      obtain ⟨q', n', s', e1, e2, e3⟩ := ih (by simp)
      exact ⟨(n, s) :: q', n', s', by rw [e1]; rfl, e2, e3⟩
end
end Lm

set_option maxHeartbeats 400000
namespace Lm
open PySem L2 Mir
variable {C : Cl} {st : Sto}
section
variable {x0 x1 x2 x3 x4 x5 x6 x7 x8 x9 x10 x11 x12 x13 x15 : Option D} {start : Int} {l : List Stp} {gs fs : List (Str × Str)} {xs : List Int}
abbrev insM (C : Cl) (start : Int) (l : List Stp) (gs : List (Str × Str)) (xs : List Int) : D := .ins C.Machine (fields start l gs xs)
theorem t_10 (hw : (wordsOf l).length ≤ 14) : mSet 10 (mProp C.Machine (k_Machine_faults C) (mVar 14)) ⟨[x0, x1, x2, x3, x4, x5, x6, x7, x8, x9, x10, x11, x12, x13, some (insM C start l gs xs), x15], st⟩ = .ok (.nx ⟨[x0, x1, x2, x3, x4, x5, x6, x7, x8, x9, some (.cell st.length), x11, x12, x13, some (insM C start l gs xs), x15], st ++ [.dic (fDic (keepF gs (wordsOf l)))]⟩) := by
  have h5 := k_faults (C := C) (st := st) (start := start) (l := l) (fs := gs) (xs := xs) hw
  simp only [machD] at h5
  simp [h5]
theorem t_if {ks ls : List (Key × D)} (h : dicSame ks ls = true) : mIf (mTOr (mTNot (mTruth (mArgs (d2 dIsi) (mCons (mVar 10) (mCons (mC (.ty "dict")) mNil))))) (mBool (mOp2 dNeK (mVar 10) (mVar 3)))) (mRet (mC (.bl false))) mNext ⟨[x0, x1, x2, some (.dic ls), x4, x5, x6, x7, x8, x9, some (.cell st.length), x11, x12, x13, some (insM C start l gs xs), x15], st ++ [.dic ks]⟩ = .ok (.nx ⟨[x0, x1, x2, some (.dic ls), x4, x5, x6, x7, x8, x9, some (.cell st.length), x11, x12, x13, some (insM C start l gs xs), x15], st ++ [.dic ks]⟩) := by
  simp [-dicSame, h]
theorem t_clr {ks : List (Key × D)} : mDrop (mMut (mVar 10) "dict" fClearD mNil) ⟨[x0, x1, x2, x3, x4, x5, x6, x7, x8, x9, some (.cell st.length), x11, x12, x13, some (insM C start l gs xs), x15], st ++ [.dic ks]⟩ = .ok (.nx ⟨[x0, x1, x2, x3, x4, x5, x6, x7, x8, x9, some (.cell st.length), x11, x12, x13, some (insM C start l gs xs), x15], st ++ [.dic []]⟩) := by
  simp
theorem t_zz {c : Nat} {ds : List D} (h : Has st c (.lst ds)) (hl : ds.length ≤ 1000) : l_law_k02_7 C ⟨[x0, x1, x2, x3, x4, x5, x6, x7, x8, x9, x10, some (.cell c), x12, x13, some (insM C start l gs xs), x15], st⟩ = .ok (.nx ⟨[x0, x1, x2, x3, x4, x5, x6, x7, x8, x9, x10, some (.cell c), x12, x13, some (insM C start l gs xs), x15], st.set c (.lst (ds ++ [.str (Str.ofString "zz")]))⟩) := by
  have hg := h.get
  have l0 : ds.length < 1000000 := by omega
  simp [l_law_k02_7, hg, l0]
theorem t_for (hw : (wordsOf l).length ≤ 14) (hl : l.length ≤ 1000) (hx : xs.length ≤ 1000) : ∃ st', mFor (mItem asQ (mLst (mCons (mProp C.Machine (k_Machine_steps C) (mVar 14)) (mCons (mProp C.Machine (k_Machine_words C) (mVar 14)) (mCons (mProp C.Machine (k_Machine_fault_names C) (mVar 14)) (mCons (mProp C.Machine (k_Machine_states C) (mVar 14)) mNil)))))) (stName 11) (l_law_k02_7 C) ⟨[x0, x1, x2, x3, x4, x5, x6, x7, x8, x9, x10, x11, x12, x13, some (insM C start l gs xs), x15], st⟩ = .ok (.nx ⟨[x0, x1, x2, x3, x4, x5, x6, x7, x8, x9, x10, some (.cell (st.length + 3)), x12, x13, some (insM C start l gs xs), x15], st'⟩) := by
  have h2 := fun st => k_steps (C := C) (st := st) (start := start) (l := l) (fs := gs) (xs := xs)
  have h3 := fun st => k_words (C := C) (st := st) (start := start) (l := l) (fs := gs) (xs := xs)
  have h4 := fun st => k_fault_names (C := C) (st := st) (start := start) (l := l) (fs := gs) (xs := xs) hw
  have h6 := fun st => k_states (C := C) (st := st) (start := start) (l := l) (fs := gs) (xs := xs)
  simp only [machD] at h2 h3 h4 h6
  have l4 : (sortS ((keepF gs (wordsOf l)).map (·.2))).length ≤ 1000 := by
    have := sortS_len ((keepF gs (wordsOf l)).map (·.2))
    have := keepF_len gs (wordsOf l)
    simp only [List.length_map] at *
    omega
  generalize sortS ((keepF gs (wordsOf l)).map (·.2)) = nn at h4 l4
  refine ⟨st ++ [.lst (l.map Stp.d ++ [.str (Str.ofString "zz")]), .lst (sDs (wordsOf l) ++ [.str (Str.ofString "zz")]), .lst (sDs nn ++ [.str (Str.ofString "zz")]), .lst (iDs xs ++ [.str (Str.ofString "zz")])], ?_⟩
  have e0 : mItem asQ (mLst (mCons (mProp C.Machine (k_Machine_steps C) (mVar 14)) (mCons (mProp C.Machine (k_Machine_words C) (mVar 14)) (mCons (mProp C.Machine (k_Machine_fault_names C) (mVar 14)) (mCons (mProp C.Machine (k_Machine_states C) (mVar 14)) mNil))))) ⟨[x0, x1, x2, x3, x4, x5, x6, x7, x8, x9, x10, x11, x12, x13, some (insM C start l gs xs), x15], st⟩ = .ok ([.cell st.length, .cell (st.length + 1), .cell (st.length + 2), .cell (st.length + 3)], ⟨[x0, x1, x2, x3, x4, x5, x6, x7, x8, x9, x10, x11, x12, x13, some (insM C start l gs xs), x15], st ++ [.lst (l.map Stp.d), .lst (sDs (wordsOf l)), .lst (sDs nn), .lst (iDs xs)]⟩) := by
    simp [h2, h3, h4, h6]
  simp only [mFor, e0, bnd_ok]
  have z1 := t_zz (C := C) (st := st ++ [.lst (l.map Stp.d), .lst (sDs (wordsOf l)), .lst (sDs nn), .lst (iDs xs)]) (x0 := x0) (x1 := x1) (x2 := x2) (x3 := x3) (x4 := x4) (x5 := x5) (x6 := x6) (x7 := x7) (x8 := x8) (x9 := x9) (x10 := x10) (x12 := x12) (x13 := x13) (x15 := x15) (start := start) (l := l) (gs := gs) (xs := xs) (c := st.length) (ds := l.map Stp.d) ⟨get_0 _ _ _⟩ (by rw [List.length_map]; exact hl)
  rw [set_0] at z1
  have z2 := t_zz (C := C) (st := st ++ [.lst (l.map Stp.d ++ [.str (Str.ofString "zz")]), .lst (sDs (wordsOf l)), .lst (sDs nn), .lst (iDs xs)]) (x0 := x0) (x1 := x1) (x2 := x2) (x3 := x3) (x4 := x4) (x5 := x5) (x6 := x6) (x7 := x7) (x8 := x8) (x9 := x9) (x10 := x10) (x12 := x12) (x13 := x13) (x15 := x15) (start := start) (l := l) (gs := gs) (xs := xs) (c := st.length + 1) (ds := sDs (wordsOf l)) ⟨get_1 _ _ _ _⟩ (by rw [List.length_map]; omega)
  rw [set_1] at z2
  have z3 := t_zz (C := C) (st := st ++ [.lst (l.map Stp.d ++ [.str (Str.ofString "zz")]), .lst (sDs (wordsOf l) ++ [.str (Str.ofString "zz")]), .lst (sDs nn), .lst (iDs xs)]) (x0 := x0) (x1 := x1) (x2 := x2) (x3 := x3) (x4 := x4) (x5 := x5) (x6 := x6) (x7 := x7) (x8 := x8) (x9 := x9) (x10 := x10) (x12 := x12) (x13 := x13) (x15 := x15) (start := start) (l := l) (gs := gs) (xs := xs) (c := st.length + 2) (ds := sDs nn) ⟨get_2 _ _ _ _ _⟩ (by rw [List.length_map]; omega)
  rw [set_2] at z3
  have z4 := t_zz (C := C) (st := st ++ [.lst (l.map Stp.d ++ [.str (Str.ofString "zz")]), .lst (sDs (wordsOf l) ++ [.str (Str.ofString "zz")]), .lst (sDs nn ++ [.str (Str.ofString "zz")]), .lst (iDs xs)]) (x0 := x0) (x1 := x1) (x2 := x2) (x3 := x3) (x4 := x4) (x5 := x5) (x6 := x6) (x7 := x7) (x8 := x8) (x9 := x9) (x10 := x10) (x12 := x12) (x13 := x13) (x15 := x15) (start := start) (l := l) (gs := gs) (xs := xs) (c := st.length + 3) (ds := iDs xs) ⟨get_3 _ _ _ _ _ _⟩ (by rw [List.length_map]; omega)
  rw [set_3] at z4
  rw [loop_cons (st := stName 11) rfl z1, loop_cons (st := stName 11) rfl z2, loop_cons (st := stName 11) rfl z3, loop_cons (st := stName 11) rfl z4]
  rfl
end
end Lm

set_option maxHeartbeats 400000
namespace Lm
open PySem L2 Mir
variable {C : Cl} {st : Sto}
theorem keysD_s : ∀ xs : List Str, keysD (sDs xs) = some (xs.map fun x => (.inr x : Key))
  | [] => rfl
  | x :: xs => by
    have := keysD_s xs
    simp only [sDs] at this
    simp [this, keyD]
theorem hom_s (xs : List Str) : KS.hom (xs.map fun x => (.inr x : Key)) = true := allS_inr fun k hk => by
  obtain ⟨x, _, rfl⟩ := List.mem_map.mp hk
  exact ⟨x, rfl⟩
theorem sortS_eq (xs : List Str) : (KS.sortK (KS.dedupK (xs.map fun x => (.inr x : Key)))).map ofKey = sDs (sortS xs) := sortS_of fun k => Iff.rfl
section
variable {s0 : List (Option D)} {so : Sto}
theorem c_words {l : List Stp} (h : s0.length = 16) (hl : l.length ≤ 1000) : mCompL s0 (stName 15) (l_law_k02_1 C) (l_law_k02_2 C) (l.map Stp.d) so [] = .ok (sDs (l.map (·.w)), so) := by
  have e : sDs (l.map (·.w)) = (l.map Stp.d).map fun d => match d with | .tup [_, .str w, _] => .str w | _ => .non := by
    simp only [sDs, List.map_map]
    rfl
  rw [e]
  refine comp_all _ _ (fun x hx => ?_) (by rw [List.length_map]; omega)
  obtain ⟨s, hs, rfl⟩ := List.mem_map.mp hx
  have g : (s0.set 15 (some s.d))[15]? = some (some s.d) := List.getElem?_set_self (by omega)
  refine ⟨⟨s0.set 15 (some s.d), so⟩, ⟨s0.set 15 (some s.d), so⟩, ⟨s0.set 15 (some s.d), so⟩, rfl, rfl, rfl, ?_, rfl⟩
  simp only [Stp.d] at g ⊢
  simp [l_law_k02_2, g]
theorem c_names {fs : List (Str × Str)} (h : s0.length = 16) (h3 : s0[3]? = some (some (.dic (fDic fs)))) (nd : (fs.map (·.1)).Nodup) (hl : fs.length ≤ 1000) : mCompL s0 (stName 7) (l_law_k02_1 C) (l_law_k02_4 C) (sDs (fs.map (·.1))) so [] = .ok (sDs (fs.map (·.2)), so) := by
  have e : sDs (fs.map (·.2)) = (sDs (fs.map (·.1))).map fun d => match d with | .str w => .str (look fs w) | _ => .non := by
    simp only [sDs, List.map_map]
    refine List.map_congr_left fun p hp => ?_
    show D.str p.2 = .str (look fs p.1)
    rw [look_mem nd hp]
  rw [e]
  refine comp_all _ _ (fun x hx => ?_) (by simp; omega)
  obtain ⟨w, hw, rfl⟩ := List.mem_map.mp hx
  have hv := fDic_look (fs := fs) (w := w) hw
  have g : (s0.set 7 (some (.str w)))[7]? = some (some (.str w)) := List.getElem?_set_self (by omega)
  have g3 : (s0.set 7 (some (.str w)))[3]? = some (some (.dic (fDic fs))) := by rw [List.getElem?_set_ne (by omega)]; exact h3
  refine ⟨⟨s0.set 7 (some (.str w)), so⟩, ⟨s0.set 7 (some (.str w)), so⟩, ⟨s0.set 7 (some (.str w)), so⟩, rfl, rfl, rfl, ?_, rfl⟩
  simp only [fDic] at g3 hv
  simp [l_law_k02_4, g, g3, getA, hv]
theorem c_keep {fs : List (Str × Str)} {ws : List Str} (h : s0.length = 16) (h3 : s0[3]? = some (some (.dic (fDic fs)))) (hl : ws.length ≤ 1000) : mCompL s0 (stName 7) (l_law_k02_5 C) (l_law_k02_6 C) (sDs ws) so [] = .ok (sDs (ws.filter fun w => decide (w ∈ fs.map (·.1))), so) := by
  have e : sDs (ws.filter fun w => decide (w ∈ fs.map (·.1))) = ((sDs ws).filter fun d => match d with | .str w => decide (w ∈ fs.map (·.1)) | _ => false).map id := by
    rw [List.map_id, List.filter_map]
    rfl
  rw [e]
  have := comp_map (s0 := s0) (st := stName 7) (mt := l_law_k02_5 C) (me := l_law_k02_6 C) (so := so) (fun d => match d with | .str w => decide (w ∈ fs.map (·.1)) | _ => false) id (sDs ws) [] (fun x hx => ?_) (by simp; omega)
  · rw [this, List.nil_append]
  · obtain ⟨w, hw, rfl⟩ := List.mem_map.mp hx
    have hv := fDic_has (fs := fs) (w := w)
    have g : (s0.set 7 (some (.str w)))[7]? = some (some (.str w)) := List.getElem?_set_self (by omega)
    have g3 : (s0.set 7 (some (.str w)))[3]? = some (some (.dic (fDic fs))) := by rw [List.getElem?_set_ne (by omega)]; exact h3
    refine ⟨⟨s0.set 7 (some (.str w)), so⟩, ⟨s0.set 7 (some (.str w)), so⟩, rfl, ?_, rfl, fun _ => ⟨⟨s0.set 7 (some (.str w)), so⟩, ?_, rfl⟩⟩
    · have hi : hasIn (.str w) (.dic (fDic fs)) = some (decide (w ∈ fs.map (·.1))) := by simp only [hasIn, keyD, hv]
      simp only [fDic] at g3 hi
      simp [l_law_k02_5, g, g3, hi]
    · simp [l_law_k02_6, g]
end
/-! the faults that are given, in falling order -/
theorem g_loop {x0 x1 x2 x4 x5 x8 x9 x10 x11 x12 x13 x14 x15 : Option D} {fs : List (Str × Str)} : ∀ (rs : List Str) (acc : List (Str × Str)) (x7 : Option D), (∀ w ∈ rs, w ∈ fs.map (·.1)) → (acc.map (·.1) ++ rs).Nodup → acc.length + rs.length ≤ 1000 → ∃ y7,
    mLoop (stName 7) (l_law_k02_3 C) (sDs rs) ⟨[x0, x1, x2, some (.dic (fDic fs)), x4, x5, some (.cell st.length), x7, x8, x9, x10, x11, x12, x13, x14, x15], st ++ [.dic (fDic acc)]⟩ = .ok (.nx ⟨[x0, x1, x2, some (.dic (fDic fs)), x4, x5, some (.cell st.length), y7, x8, x9, x10, x11, x12, x13, x14, x15], st ++ [.dic (fDic (acc ++ rs.map fun w => (w, look fs w)))]⟩)
  | [], acc, x7, _, _, _ => ⟨x7, by simp [mLoop]⟩
  | w :: rs, acc, x7, hm, nd, hl => by
    have hv := fDic_look (fs := fs) (w := w) (hm w List.mem_cons_self)
    rw [List.length_cons] at hl
    have hn : w ∉ acc.map (·.1) := fun z => by
      rw [List.nodup_append] at nd
      exact nd.2.2 _ z _ List.mem_cons_self rfl
    have hp : putD (fDic acc) (.inr w) (.str (look fs w)) = fDic (acc ++ [(w, look fs w)]) := by
      rw [put_new (by
        intro z
        obtain ⟨q, hq, e⟩ := List.mem_map.mp z
        obtain ⟨p, hp, rfl⟩ := List.mem_map.mp hq
        cases e
        exact hn (List.mem_map_of_mem hp))]
      simp [fDic]
    obtain ⟨y7, e⟩ := g_loop rs (acc ++ [(w, look fs w)]) (some (.str w)) (fun v hv => hm v (List.mem_cons_of_mem _ hv)) (by rw [List.map_append, List.append_assoc]; exact nd) (by rw [List.length_append, List.length_singleton]; omega)
    refine ⟨y7, ?_⟩
    have ll : acc.length < 1000000 := by omega
    have t : l_law_k02_3 C ⟨[x0, x1, x2, some (.dic (fDic fs)), x4, x5, some (.cell st.length), some (.str w), x8, x9, x10, x11, x12, x13, x14, x15], st ++ [.dic (fDic acc)]⟩ = .ok (.nx ⟨[x0, x1, x2, some (.dic (fDic fs)), x4, x5, some (.cell st.length), some (.str w), x8, x9, x10, x11, x12, x13, x14, x15], st ++ [.dic (fDic (acc ++ [(w, look fs w)]))]⟩) := by
      simp only [fDic] at hv hp
      simp [-List.map_append, l_law_k02_3, getA, hv, hp, ll]
    rw [show sDs (w :: rs) = .str w :: sDs rs from rfl, loop_cons (st := stName 7) rfl t, e, List.append_assoc]
    rfl
theorem sort_strs (xs : List Str) : ∃ rs : List Str, rs.Perm xs ∧ (sDs xs).mergeSort leD = sDs rs := by
  refine ⟨(KS.sortK (xs.map fun x => (.inr x : Key))).map sOf, ?_, ?_⟩
  · have := (KS.sortK_perm (xs.map fun x => (.inr x : Key))).map sOf
    rw [List.map_map] at this
    have e : xs.map (sOf ∘ fun x => (.inr x : Key)) = xs := by
      have : (sOf ∘ fun x => (.inr x : Key)) = id := rfl
      rw [this, List.map_id]
    rwa [e] at this
  · have := sort_keys (xs.map fun x => (.inr x : Key))
    rw [List.map_map] at this
    have e1 : sDs xs = xs.map (ofKey ∘ fun x => (.inr x : Key)) := rfl
    rw [e1, this]
    simp only [sDs, List.map_map]
    refine List.map_congr_left fun k hk => ?_
    obtain ⟨y, hy, rfl⟩ := List.mem_map.mp ((KS.sortK_perm _).mem_iff.mp hk)
    rfl
theorem gs_perm {fs : List (Str × Str)} {rs : List Str} (nd : (fs.map (·.1)).Nodup) (h : rs.Perm (fs.map (·.1))) : (rs.map fun w => (w, look fs w)).Perm fs := by
  have := h.map fun w => (w, look fs w)
  rw [List.map_map] at this
  have e : fs.map ((fun w => (w, look fs w)) ∘ (·.1)) = fs := by
    conv => rhs; rw [← List.map_id fs]
    refine List.map_congr_left fun p hp => ?_
    show (p.1, look fs p.1) = p
    rw [look_mem nd hp]
  rwa [e] at this
end Lm

set_option maxHeartbeats 400000
namespace Lm
open PySem L2 Mir
variable {C : Cl} {st : Sto}
def dueD (start : Int) (l : List Stp) (fs : List (Str × Str)) (xs : List Int) : D := .lst [.int start, .lst (l.map Stp.d), .lst (sDs (wordsOf l)), .lst (sDs (sortS (fs.map (·.2)))), .lst (sDs ((wordsOf l).filter fun w => decide (w ∈ fs.map (·.1)))), .lst (iDs xs)]
theorem flat_s (xs : List Str) (n : Nat) : (sDs xs).all (flatOk (n + 1)) = true := by
  simp only [List.all_eq_true]
  intro x hx
  obtain ⟨y, _, rfl⟩ := List.mem_map.mp hx
  rfl
theorem flat_i (xs : List Int) (n : Nat) : (iDs xs).all (flatOk (n + 1)) = true := by
  simp only [List.all_eq_true]
  intro x hx
  obtain ⟨y, _, rfl⟩ := List.mem_map.mp hx
  rfl
theorem flat_l (xs : List Stp) (n : Nat) : (xs.map Stp.d).all (flatOk (n + 2)) = true := by
  simp only [List.all_eq_true]
  intro x hx
  obtain ⟨y, _, rfl⟩ := List.mem_map.mp hx
  rfl
theorem due_flat {start : Int} {l : List Stp} {fs : List (Str × Str)} {xs : List Int} (h1 : l.length ≤ 1000) (h2 : (wordsOf l).length ≤ 1000) (h3 : fs.length ≤ 1000) (h4 : xs.length ≤ 1000) : flatOk 5 (dueD start l fs xs) = true := by
  have a := sortS_len (fs.map (·.2))
  rw [List.length_map] at a
  have b := List.length_filter_le (fun w => decide (w ∈ fs.map (·.1))) (wordsOf l)
  have k1 : (l.map Stp.d).length ≤ 100000 := by rw [List.length_map]; omega
  have k2 : (sDs (wordsOf l)).length ≤ 100000 := by rw [List.length_map]; omega
  have k3 : (sDs (sortS (fs.map (·.2)))).length ≤ 100000 := by rw [List.length_map]; omega
  have k4 : (sDs ((wordsOf l).filter fun w => decide (w ∈ fs.map (·.1)))).length ≤ 100000 := by rw [List.length_map]; omega
  have k5 : (iDs xs).length ≤ 100000 := by rw [List.length_map]; omega
  simp only [dueD, flatOk, List.all_cons, List.all_nil, decide_eq_true k1, decide_eq_true k2, decide_eq_true k3, decide_eq_true k4, decide_eq_true k5, flat_s, flat_i, flat_l, Bool.and_self, Bool.true_and, Bool.and_true]
  exact decide_eq_true (by simp)
theorem told_due {start : Int} {l : List Stp} {fs gs : List (Str × Str)} {xs : List Int} (hf : LFlts fs l) (hp : gs.Perm fs) (hw : (wordsOf l).length ≤ 14) : ∀ st, f_law_told C [machD C start l gs xs] st = .ok (dueD start l fs xs, st) := fun st => by
  rw [p_told hw, keepF_perm hf.nd hp, keepF_names hf.nd hf.sub', keepF_keys]
  rfl
section
variable {x0 x1 x2 x4 x5 x6 x7 x8 x10 x11 x12 x13 x15 : Option D} {start : Int} {l : List Stp} {gs fs : List (Str × Str)} {xs : List Int}
theorem t_ex (hf : LFlts fs l) (hp : gs.Perm fs) (hl : l.length ≤ 1000) (hw : (wordsOf l).length ≤ 14) (hx : xs.length ≤ 1000) : mCall (f_law_exact C 5) [] (mCons (mCall (f_law_told C) [] (mCons (mVar 14) mNil)) (mCons (mVar 9) mNil)) ⟨[x0, x1, x2, some (.dic (fDic fs)), x4, x5, x6, x7, x8, some (dueD start l fs xs), x10, x11, x12, x13, some (insM C start l gs xs), x15], st⟩ = .ok (.bl true, ⟨[x0, x1, x2, some (.dic (fDic fs)), x4, x5, x6, x7, x8, some (dueD start l fs xs), x10, x11, x12, x13, some (insM C start l gs xs), x15], st⟩) := by
  have ht := told_due (C := C) (start := start) (xs := xs) hf hp hw
  have hfl := hf.len
  have hx := fun st => p_exact (C := C) (st := st) (due_flat (start := start) (l := l) (fs := fs) (xs := xs) hl (by omega) (by omega) hx)
  simp only [machD] at ht
  simp [ht, hx]
theorem t_ret (hf : LFlts fs l) (hp : gs.Perm fs) (hl : l.length ≤ 1000) (hw : (wordsOf l).length ≤ 14) (hx : xs.length ≤ 1000) : ∃ r', mRet (mAnd (mCall (f_law_exact C 5) [] (mCons (mCall (f_law_told C) [] (mCons (mVar 14) mNil)) (mCons (mVar 9) mNil))) (mOp2 dEqK (mProp C.Machine (k_Machine_faults C) (mVar 14)) (mVar 3))) ⟨[x0, x1, x2, some (.dic (fDic fs)), x4, x5, x6, x7, x8, some (dueD start l fs xs), x10, x11, x12, x13, some (insM C start l gs xs), x15], st⟩ = .ok (.rt (.bl true) r') := by
  have h1 := t_ex (C := C) (st := st) (x0 := x0) (x1 := x1) (x2 := x2) (x4 := x4) (x5 := x5) (x6 := x6) (x7 := x7) (x8 := x8) (x10 := x10) (x11 := x11) (x12 := x12) (x13 := x13) (x15 := x15) (start := start) hf hp hl hw hx
  have h5 := k_faults (C := C) (st := st) (start := start) (l := l) (fs := gs) (xs := xs) hw
  simp only [machD] at h5
  have ds : dicSame (fDic (keepF gs (wordsOf l))) (fDic fs) = true := dicSame_perm hf.nd (by rw [keepF_perm hf.nd hp]; exact keepF_perm_self (nodup_words l) hf.nd hf.sub')
  refine ⟨⟨[x0, x1, x2, some (.dic (fDic fs)), x4, x5, x6, x7, x8, some (dueD start l fs xs), x10, x11, x12, x13, some (insM C start l gs xs), x15], st ++ [.dic (fDic (keepF gs (wordsOf l)))]⟩, ?_⟩
  simp only [mRet, mAnd, h1, bnd_ok, asB, if_true]
  simp [-dicSame, h5, ds]
theorem t_exif (hf : LFlts fs l) (hp : gs.Perm fs) (hl : l.length ≤ 1000) (hw : (wordsOf l).length ≤ 14) (hx : xs.length ≤ 1000) : mIf (mTNot (mTruth (mCall (f_law_exact C 5) [] (mCons (mCall (f_law_told C) [] (mCons (mVar 14) mNil)) (mCons (mVar 9) mNil))))) (mRet (mC (.bl false))) mNext ⟨[x0, x1, x2, some (.dic (fDic fs)), x4, x5, x6, x7, x8, some (dueD start l fs xs), x10, x11, x12, x13, some (insM C start l gs xs), x15], st⟩ = .ok (.nx ⟨[x0, x1, x2, some (.dic (fDic fs)), x4, x5, x6, x7, x8, some (dueD start l fs xs), x10, x11, x12, x13, some (insM C start l gs xs), x15], st⟩) := by
  have h1 := t_ex (C := C) (st := st) (x0 := x0) (x1 := x1) (x2 := x2) (x4 := x4) (x5 := x5) (x6 := x6) (x7 := x7) (x8 := x8) (x10 := x10) (x11 := x11) (x12 := x12) (x13 := x13) (x15 := x15) (start := start) hf hp hl hw hx
  simp only [mIf, mTNot, mTruth, h1, bnd_ok, dr_bl, truth, Bool.not_true, Bool.false_eq_true, if_false, mNext]
end
/-- from the making on -/
theorem law_tail {x0 x1 x7 : Option D} {labels : List D} {r0 r1 r2 r3 : Int} {start : Int} {l : List Stp} {gs fs : List (Str × Str)} {c6 c8 : Nat}
    (hm : Mach start l gs) (hf : LFlts fs l) (hp : gs.Perm fs) (h6 : Has st c6 (.dic (fDic gs))) (h8 : Has st c8 (.lst (l.map Stp.d))) (hne : c8 ≠ c6) :
    ∃ r', (mSeq (mIf (mBool (mOp2 dEqK (mOp2 dIxA (mVar 2) (mC (.int 2))) (mC (.int 1))))
        (mSet 14 (mCall (cutF (mkF C.Machine (k_Machine_init C))) [] (mCons (mVar 4) (mCons (mArgs (d1 dTuple) (mCons (mVar 8) mNil)) (mCons (mVar 6) mNil)))))
        (mSet 14 (mCall (cutF (mkF C.Machine (k_Machine_init C))) [] (mCons (mVar 4) (mCons (mVar 8) (mCons (mVar 6) mNil))))))
      (mSeq (mSet 9 (mLst (mCons (mVar 4) (mCons (mVar 13) (mCons (mVar 5) (mCons (mSortK (mSetOf (mCompW anyI [7] (mVar 3) (stName 7) (l_law_k02_1 C) (l_law_k02_4 C)))) mNil))))))
      (mSeq (mSet 9 (mOp2 dAdd (mVar 9) (mLst (mCons (mCompW anyI [7] (mVar 5) (stName 7) (l_law_k02_5 C) (l_law_k02_6 C)) (mCons (mCall (f_law_reached C) [] (mCons (mVar 4) (mCons (mVar 13) mNil))) mNil)))))
      (mSeq (mIf (mTNot (mTruth (mCall (f_law_exact C 5) [] (mCons (mCall (f_law_told C) [] (mCons (mVar 14) mNil)) (mCons (mVar 9) mNil)))))
        (mRet (mC (.bl false)))
        mNext)
      (mSeq (mDrop (mMut (mVar 8) "list" fClearL mNil))
      (mSeq (mDrop (mMut (mVar 6) "dict" fClearD mNil))
      (mSeq (mSet 10 (mProp C.Machine (k_Machine_faults C) (mVar 14)))
      (mSeq (mIf (mTOr (mTNot (mTruth (mArgs (d2 dIsi) (mCons (mVar 10) (mCons (mC (.ty "dict")) mNil))))) (mBool (mOp2 dNeK (mVar 10) (mVar 3))))
        (mRet (mC (.bl false)))
        mNext)
      (mSeq (mDrop (mMut (mVar 10) "dict" fClearD mNil))
      (mSeq (mFor (mItem asQ (mLst (mCons (mProp C.Machine (k_Machine_steps C) (mVar 14)) (mCons (mProp C.Machine (k_Machine_words C) (mVar 14)) (mCons (mProp C.Machine (k_Machine_fault_names C) (mVar 14)) (mCons (mProp C.Machine (k_Machine_states C) (mVar 14)) mNil)))))) (stName 11) (l_law_k02_7 C))
      (mRet (mAnd (mCall (f_law_exact C 5) [] (mCons (mCall (f_law_told C) [] (mCons (mVar 14) mNil)) (mCons (mVar 9) mNil))) (mOp2 dEqK (mProp C.Machine (k_Machine_faults C) (mVar 14)) (mVar 3))))))))))))))
      ⟨[x0, x1, some (.lst [.int r0, .int r1, .int r2, .int r3]), some (.dic (fDic fs)), some (.int start), some (.lst (sDs (wordsOf l))), some (.cell c6), x7, some (.cell c8), none, none, none, some (.lst labels), some (.lst (l.map Stp.d)), none, none], st⟩ = .ok (.rt (.bl true) r') := by
  have hw := hm.words
  have hl80 := hm.rows.len
  have hl : l.length ≤ 1000 := by omega
  have hfl := hf.len
  -- the machine
  obtain ⟨xs, hxs, e14⟩ : ∃ xs, States l start xs ∧ mIf (mBool (mOp2 dEqK (mOp2 dIxA (mVar 2) (mC (.int 2))) (mC (.int 1))))
        (mSet 14 (mCall (cutF (mkF C.Machine (k_Machine_init C))) [] (mCons (mVar 4) (mCons (mArgs (d1 dTuple) (mCons (mVar 8) mNil)) (mCons (mVar 6) mNil)))))
        (mSet 14 (mCall (cutF (mkF C.Machine (k_Machine_init C))) [] (mCons (mVar 4) (mCons (mVar 8) (mCons (mVar 6) mNil)))))
        ⟨[x0, x1, some (.lst [.int r0, .int r1, .int r2, .int r3]), some (.dic (fDic fs)), some (.int start), some (.lst (sDs (wordsOf l))), some (.cell c6), x7, some (.cell c8), none, none, none, some (.lst labels), some (.lst (l.map Stp.d)), none, none], st⟩ = .ok (.nx ⟨[x0, x1, some (.lst [.int r0, .int r1, .int r2, .int r3]), some (.dic (fDic fs)), some (.int start), some (.lst (sDs (wordsOf l))), some (.cell c6), x7, some (.cell c8), none, none, none, some (.lst labels), some (.lst (l.map Stp.d)), some (insM C start l gs xs), none], st⟩) := by
    have g8 := h8.get
    by_cases hr : r2 = 1
    · obtain ⟨xs, hxs, e⟩ := p_make (C := C) (st := st) hm (d2 := .tup (l.map Stp.d)) (d3 := .cell c6) (.inl rfl) (.inr (.inr ⟨c6, rfl, h6⟩))
      refine ⟨xs, hxs, ?_⟩
      simp only [machD] at e
      simp [hr, eqOk, eqD, scalD, g8, e]
    · obtain ⟨xs, hxs, e⟩ := p_make (C := C) (st := st) hm (d2 := .cell c8) (d3 := .cell c6) (.inr (.inr ⟨c8, rfl, h8⟩)) (.inr (.inr ⟨c6, rfl, h6⟩))
      refine ⟨xs, hxs, ?_⟩
      simp only [machD] at e
      simp [hr, eqOk, eqD, scalD, e]
  obtain ⟨ys, hys, er⟩ := p_lreached (C := C) (l := l) (start := start) (by omega) hm.rows.ok hm.st
  have : ys = xs := hys.uniq hxs
  subst this
  have hxl : ys.length ≤ 1000 := by
    have := nodup_sub_len (asc_nodup hxs.asc) (m := start :: l.map (·.b)) (fun x hx => by
      have := (hxs.mem x).mp hx
      cases this with
      | base => exact List.mem_cons_self
      | step _ h2 _ => exact List.mem_cons_of_mem _ (List.mem_map_of_mem h2))
    rw [List.length_cons, List.length_map] at this
    omega
  have e9 : mSet 9 (mLst (mCons (mVar 4) (mCons (mVar 13) (mCons (mVar 5) (mCons (mSortK (mSetOf (mCompW anyI [7] (mVar 3) (stName 7) (l_law_k02_1 C) (l_law_k02_4 C)))) mNil))))) ⟨[x0, x1, some (.lst [.int r0, .int r1, .int r2, .int r3]), some (.dic (fDic fs)), some (.int start), some (.lst (sDs (wordsOf l))), some (.cell c6), x7, some (.cell c8), none, none, none, some (.lst labels), some (.lst (l.map Stp.d)), some (insM C start l gs ys), none], st⟩ = .ok (.nx ⟨[x0, x1, some (.lst [.int r0, .int r1, .int r2, .int r3]), some (.dic (fDic fs)), some (.int start), some (.lst (sDs (wordsOf l))), some (.cell c6), x7, some (.cell c8), some (.lst [.int start, .lst (l.map Stp.d), .lst (sDs (wordsOf l)), .lst (sDs (sortS (fs.map (·.2))))]), none, none, some (.lst labels), some (.lst (l.map Stp.d)), some (insM C start l gs ys), none], st⟩) := by
    have cn := c_names (C := C) (s0 := [x0, x1, some (.lst [.int r0, .int r1, .int r2, .int r3]), some (.dic (fDic fs)), some (.int start), some (.lst (sDs (wordsOf l))), some (.cell c6), none, some (.cell c8), none, none, none, some (.lst labels), some (.lst (l.map Stp.d)), some (insM C start l gs ys), none]) (so := st) (fs := fs) rfl rfl hf.nd (by omega)
    have kk : (fDic fs).map kvKey = sDs (fs.map (·.1)) := by simp only [fDic, sDs, List.map_map]; rfl
    have ks := keysD_s (fs.map (·.2))
    have hh := hom_s (fs.map (·.2))
    have se := sortS_eq (fs.map (·.2))
    have lf : fs.length < 4000 := by omega
    simp [-List.map_map, kk, cn, ks, hh, se, lf]
  have e9b : mSet 9 (mOp2 dAdd (mVar 9) (mLst (mCons (mCompW anyI [7] (mVar 5) (stName 7) (l_law_k02_5 C) (l_law_k02_6 C)) (mCons (mCall (f_law_reached C) [] (mCons (mVar 4) (mCons (mVar 13) mNil))) mNil)))) ⟨[x0, x1, some (.lst [.int r0, .int r1, .int r2, .int r3]), some (.dic (fDic fs)), some (.int start), some (.lst (sDs (wordsOf l))), some (.cell c6), x7, some (.cell c8), some (.lst [.int start, .lst (l.map Stp.d), .lst (sDs (wordsOf l)), .lst (sDs (sortS (fs.map (·.2))))]), none, none, some (.lst labels), some (.lst (l.map Stp.d)), some (insM C start l gs ys), none], st⟩ = .ok (.nx ⟨[x0, x1, some (.lst [.int r0, .int r1, .int r2, .int r3]), some (.dic (fDic fs)), some (.int start), some (.lst (sDs (wordsOf l))), some (.cell c6), x7, some (.cell c8), some (dueD start l fs ys), none, none, some (.lst labels), some (.lst (l.map Stp.d)), some (insM C start l gs ys), none], st⟩) := by
    have ck := c_keep (C := C) (s0 := [x0, x1, some (.lst [.int r0, .int r1, .int r2, .int r3]), some (.dic (fDic fs)), some (.int start), some (.lst (sDs (wordsOf l))), some (.cell c6), none, some (.cell c8), some (.lst [.int start, .lst (l.map Stp.d), .lst (sDs (wordsOf l)), .lst (sDs (sortS (fs.map (·.2))))]), none, none, some (.lst labels), some (.lst (l.map Stp.d)), some (insM C start l gs ys), none]) (so := st) (fs := fs) (ws := wordsOf l) rfl rfl (by omega)
    unfold dueD
    generalize sDs ((wordsOf l).filter fun w => decide (w ∈ fs.map (·.1))) = zs at ck ⊢
    simp [-List.map_map, ck, er]
  have g8 := h8.get
  have e8 : mDrop (mMut (mVar 8) "list" fClearL mNil) ⟨[x0, x1, some (.lst [.int r0, .int r1, .int r2, .int r3]), some (.dic (fDic fs)), some (.int start), some (.lst (sDs (wordsOf l))), some (.cell c6), x7, some (.cell c8), some (dueD start l fs ys), none, none, some (.lst labels), some (.lst (l.map Stp.d)), some (insM C start l gs ys), none], st⟩ = .ok (.nx ⟨[x0, x1, some (.lst [.int r0, .int r1, .int r2, .int r3]), some (.dic (fDic fs)), some (.int start), some (.lst (sDs (wordsOf l))), some (.cell c6), x7, some (.cell c8), some (dueD start l fs ys), none, none, some (.lst labels), some (.lst (l.map Stp.d)), some (insM C start l gs ys), none], st.set c8 (.lst [])⟩) := by
    simp [g8]
  have g6 := (h6.ne hne (.lst [])).get
  generalize st.set c8 (.lst []) = st2 at e8 g6
  have e6 : mDrop (mMut (mVar 6) "dict" fClearD mNil) ⟨[x0, x1, some (.lst [.int r0, .int r1, .int r2, .int r3]), some (.dic (fDic fs)), some (.int start), some (.lst (sDs (wordsOf l))), some (.cell c6), x7, some (.cell c8), some (dueD start l fs ys), none, none, some (.lst labels), some (.lst (l.map Stp.d)), some (insM C start l gs ys), none], st2⟩ = .ok (.nx ⟨[x0, x1, some (.lst [.int r0, .int r1, .int r2, .int r3]), some (.dic (fDic fs)), some (.int start), some (.lst (sDs (wordsOf l))), some (.cell c6), x7, some (.cell c8), some (dueD start l fs ys), none, none, some (.lst labels), some (.lst (l.map Stp.d)), some (insM C start l gs ys), none], st2.set c6 (.dic [])⟩) := by
    simp [g6]
  generalize st2.set c6 (.dic []) = st3 at e6
  have ds : dicSame (fDic (keepF gs (wordsOf l))) (fDic fs) = true := dicSame_perm hf.nd (by rw [keepF_perm hf.nd hp]; exact keepF_perm_self (nodup_words l) hf.nd hf.sub')
  rw [seq_nx e14, seq_nx e9, seq_nx e9b, seq_nx (t_exif hf hp hl hw hxl), seq_nx e8, seq_nx e6, seq_nx (t_10 hw), seq_nx (t_if ds), seq_nx t_clr]
  obtain ⟨st4, ef⟩ := t_for (C := C) (st := st3 ++ [.dic []]) (x0 := x0) (x1 := x1) (x2 := some (.lst [.int r0, .int r1, .int r2, .int r3])) (x3 := some (.dic (fDic fs))) (x4 := some (.int start)) (x5 := some (.lst (sDs (wordsOf l)))) (x6 := some (.cell c6)) (x7 := x7) (x8 := some (.cell c8)) (x9 := some (dueD start l fs ys)) (x10 := some (.cell st3.length)) (x11 := none) (x12 := some (.lst labels)) (x13 := some (.lst (l.map Stp.d))) (x15 := none) (start := start) (l := l) (gs := gs) (xs := ys) hw hl hxl
  rw [seq_nx ef]
  exact t_ret hf hp hl hw hxl
end Lm

set_option maxHeartbeats 400000
namespace Lm
open PySem L2 Mir
variable {C : Cl} {st : Sto}
/-- if not _law_exact(f(..), x): return False -/
theorem exact_if {f : Fn} {ms : RE → Out (List D × RE)} {ds : List D} {d : D} {i : Nat} {r : RE} (h1 : ms r = .ok (ds, r)) (h2 : f (ds ++ []) r.st = .ok (d, r.st)) (h3 : r.s[i]? = some (some d)) (h4 : flatOk 5 d = true) :
    mIf (mTNot (mTruth (mCall (f_law_exact C 5) [] (mCons (mCall f [] ms) (mCons (mVar i) mNil))))) (mRet (mC (.bl false))) mNext r = .ok (.nx r) := by
  have e1 := call_ok (dd := []) h1 h2
  have e2 : mVar i ⟨r.s, r.st⟩ = .ok (d, ⟨r.s, r.st⟩) := by simp only [mVar, h3]
  have e3 := cons_ok e1 (cons_ok e2 (rfl : mNil _ = _))
  have e4 := call_ok (dd := []) e3 (p_exact (C := C) (st := r.st) h4)
  simp only [mIf, mTNot, mTruth, e4, bnd_ok, dr_bl, truth, Bool.not_true, Bool.false_eq_true, if_false, mNext]
theorem flat_str_list {xs : List Str} (h : xs.length ≤ 1000) : flatOk 5 (.lst (sDs xs)) = true := by
  simp only [flatOk, flat_s, Bool.and_true]
  exact decide_eq_true (by rw [List.length_map]; omega)
theorem flat_str_tup {xs : List Str} (h : xs.length ≤ 1000) : flatOk 5 (.tup (sDs xs)) = true := by
  simp only [flatOk, flat_s, Bool.and_true]
  exact decide_eq_true (by rw [List.length_map]; omega)
theorem flat_beh {o : Option Nat} : flatOk 5 (behD o) = true := by cases o <;> rfl
theorem toldW_len {ts : List (Str × Str)} {ws : List Str} : (toldW ts ws).length ≤ ws.length := by
  unfold toldW
  rw [List.length_map]
  exact List.length_filter_le _ _
section
variable {s0 : List (Option D)} {so : Sto} {l : List Stp} {fs : List (Str × Str)} {ps : List (Nat × Stp)}
theorem c15_words (h : ∀ p ∈ ps, l[p.1]? = some p.2) (hl : ps.length ≤ 1000) (h20 : s0.length = 20) (h6 : s0[6]? = some (some (.lst (l.map Stp.d)))) : mCompL s0 (stName 18) (l_law_k15_1 C) (l_law_k15_2 C) (nDs ps) so [] = .ok (sDs (wDs ps), so) := by
  have e : sDs (wDs ps) = ps.map fun p => .str p.2.w := by simp only [sDs, wDs, List.map_map]; rfl
  rw [e]
  refine comp_each (fun p : Nat × Stp => .int ((p.1 : Nat) : Int)) _ ps (fun q hq => ?_) (by omega)
  have g4 : (s0.set 18 (some (.int (q.1 : Nat))))[18]? = some (some (.int (q.1 : Nat))) := List.getElem?_set_self (by omega)
  have g0 : (s0.set 18 (some (.int (q.1 : Nat))))[6]? = some (some (.lst (l.map Stp.d))) := by rw [List.getElem?_set_ne (by omega)]; exact h6
  have wa := word_at (h q hq)
  refine ⟨⟨s0.set 18 (some (.int (q.1 : Nat))), so⟩, ⟨s0.set 18 (some (.int (q.1 : Nat))), so⟩, rfl, rfl, rfl, ⟨s0.set 18 (some (.int (q.1 : Nat))), so⟩, ?_, rfl⟩
  simp [l_law_k15_2, g4, g0, wa]
theorem c15_told {ws : List Str} (hl : ws.length ≤ 1000) (h20 : s0.length = 20) (h7 : s0[7]? = some (some (.dic (fDic fs)))) : mCompL s0 (stName 19) (l_law_k15_3 C) (l_law_k15_4 C) (sDs ws) so [] = .ok (sDs (toldW fs ws), so) := by
  have e : sDs (toldW fs ws) = [] ++ (ws.filter (inT fs)).map fun w => .str (look fs w) := by simp only [sDs, toldW, List.map_map, List.nil_append]; rfl
  rw [e]
  refine comp_of D.str _ (inT fs) ws [] (fun w hw => ?_) (by rw [List.length_nil]; omega)
  have g5 : (s0.set 19 (some (.str w)))[19]? = some (some (.str w)) := List.getElem?_set_self (by omega)
  have g1 : (s0.set 19 (some (.str w)))[7]? = some (some (.dic (fDic fs))) := by rw [List.getElem?_set_ne (by omega)]; exact h7
  have hv := fDic_has (fs := fs) (w := w)
  have hi : hasIn (.str w) (.dic (fDic fs)) = some (inT fs w) := by simp only [hasIn, keyD, hv]; rfl
  refine ⟨⟨s0.set 19 (some (.str w)), so⟩, ⟨s0.set 19 (some (.str w)), so⟩, rfl, ?_, rfl, fun hp => ⟨⟨s0.set 19 (some (.str w)), so⟩, ?_, rfl⟩⟩
  · simp only [fDic] at g1 hi
    simp [l_law_k15_3, g5, g1, hi]
  · have hk := fDic_look (fs := fs) (w := w) (of_decide_eq_true hp)
    simp only [fDic] at g1 hk
    simp [l_law_k15_4, g5, g1, getA, hk]
end
/-- the frame of the law's loop -/
def f15 (C : Cl) (ns : List Int) (tb : List (Str × Str)) (start : Int) (l : List Stp) (fs : List (Str × Str)) (xs : List Int) (nms ms : List Str) (x4 x10 x11 x12 x13 x14 x15 x16 x17 : Option D) (st : Sto) : RE :=
  ⟨[some (.frl (ns.map D.int)), some (.dic (fDic tb)), some (mch C start l fs xs), some (wch C tb), x4, some (.int start), some (.lst (l.map Stp.d)), some (.dic (fDic fs)), some (.lst (sDs nms)), some (.lst (sDs ms)), x10, x11, x12, x13, x14, x15, x16, x17, none, none], st⟩
section
variable {ns : List Int} {tb fs : List (Str × Str)} {start : Int} {l : List Stp} {xs : List Int} {nms ms : List Str}
theorem atI_last {α : Type} (xs : List α) (x : α) : atI (xs ++ [x]) (-1) = some x := by
  have h : ixN (xs ++ [x]).length (-1) = some xs.length := by
    unfold ixN
    rw [List.length_append, List.length_singleton, if_neg (by omega), if_pos (by omega)]
    congr 1
    omega
  unfold atI
  rw [h]
  simp
/-- the faults, one by one -/
theorem r15_faults {x4 x10 x13 x14 x15 : Option D} {ps : List (Nat × Stp)} {y : Int} (hw : Walk l start ps y) (hl : ps.length ≤ 1000) (hf : LFlts fs l) (hwd : (wordsOf l).length ≤ 14) : ∀ (gs : List Str) (x16 x17 : Option D), (∀ f ∈ gs, f ∈ fs.map (·.2)) → ∃ y16 y17, mLoop (stName 16) (l_law_k15_5 C) (sDs gs) (f15 C ns tb start l fs xs nms ms x4 x10 (some (.tup (nDs ps))) (some (.lst (sDs (wDs ps)))) x13 x14 x15 x16 x17 st) = .ok (.nx (f15 C ns tb start l fs xs nms ms x4 x10 (some (.tup (nDs ps))) (some (.lst (sDs (wDs ps)))) x13 x14 x15 y16 y17 st))
  | [], x16, x17, _ => ⟨x16, x17, rfl⟩
  | f :: gs, x16, x17, h => by
    obtain ⟨p, hp, ep⟩ := List.mem_map.mp (h f List.mem_cons_self)
    have ho : okNm f = true := ep ▸ hf.okn p hp
    have hfk : f ∈ (keepF fs (wordsOf l)).map (·.2) := List.mem_map.mpr ⟨p, (keepF_mem hf.nd hf.sub' p).mpr hp, ep⟩
    have hlw : (wDs ps).length ≤ 1000 := by rw [wDs, List.length_map]; exact hl
    have h1 := p_lcount (C := C) (st := st) (fs := fs) (f := f) hlw
    have h2 := p_steps_behind (C := C) (st := st) (fs := fs) (xs := xs) hw hwd ho hfk
    rw [behind_congr (q' := isF fs f) fun w hw' => isF_keep hf (hw.words w hw')] at h2
    obtain ⟨y16, y17, e⟩ := r15_faults hw hl hf hwd gs (some (.str f)) (some (behD (behind (isF fs f) (wDs ps)))) fun g hg => h g (List.mem_cons_of_mem _ hg)
    refine ⟨y16, y17, ?_⟩
    have a1 : mSet 17 (mCall (f_law_count C) [] (mCons (mVar 12) (mCons (mVar 7) (mCons (mVar 16) mNil)))) (f15 C ns tb start l fs xs nms ms x4 x10 (some (.tup (nDs ps))) (some (.lst (sDs (wDs ps)))) x13 x14 x15 (some (.str f)) x17 st) = .ok (.nx (f15 C ns tb start l fs xs nms ms x4 x10 (some (.tup (nDs ps))) (some (.lst (sDs (wDs ps)))) x13 x14 x15 (some (.str f)) (some (behD (behind (isF fs f) (wDs ps)))) st)) := by
      refine set_ok (r1 := f15 C ns tb start l fs xs nms ms x4 x10 (some (.tup (nDs ps))) (some (.lst (sDs (wDs ps)))) x13 x14 x15 (some (.str f)) x17 st) ?_
      exact call_ok (f := f_law_count C) (dd := []) (ds := [.lst (sDs (wDs ps)), .dic (fDic fs), .str f]) (r1 := f15 C ns tb start l fs xs nms ms x4 x10 (some (.tup (nDs ps))) (some (.lst (sDs (wDs ps)))) x13 x14 x15 (some (.str f)) x17 st) rfl h1
    have a2 : mIf (mTNot (mTruth (mCall (f_law_exact C 5) [] (mCons (mCall (f_steps_behind C) [] (mCons (mVar 2) (mCons (mVar 11) (mCons (mVar 16) mNil)))) (mCons (mVar 17) mNil))))) (mRet (mC (.bl false))) mNext (f15 C ns tb start l fs xs nms ms x4 x10 (some (.tup (nDs ps))) (some (.lst (sDs (wDs ps)))) x13 x14 x15 (some (.str f)) (some (behD (behind (isF fs f) (wDs ps)))) st) = .ok (.nx (f15 C ns tb start l fs xs nms ms x4 x10 (some (.tup (nDs ps))) (some (.lst (sDs (wDs ps)))) x13 x14 x15 (some (.str f)) (some (behD (behind (isF fs f) (wDs ps)))) st)) :=
      exact_if (ds := [mch C start l fs xs, .tup (nDs ps), .str f]) rfl h2 rfl flat_beh
    have t : l_law_k15_5 C (f15 C ns tb start l fs xs nms ms x4 x10 (some (.tup (nDs ps))) (some (.lst (sDs (wDs ps)))) x13 x14 x15 (some (.str f)) x17 st) = .ok (.nx (f15 C ns tb start l fs xs nms ms x4 x10 (some (.tup (nDs ps))) (some (.lst (sDs (wDs ps)))) x13 x14 x15 (some (.str f)) (some (behD (behind (isF fs f) (wDs ps)))) st)) := by
      rw [l_law_k15_5, seq_nx a1, a2]
    rw [show sDs (f :: gs) = .str f :: sDs gs from rfl, loop_cons (st := stName 16) (r1 := f15 C ns tb start l fs xs nms ms x4 x10 (some (.tup (nDs ps))) (some (.lst (sDs (wDs ps)))) x13 x14 x15 (some (.str f)) x17 st) rfl t, e]
end
end Lm

set_option maxHeartbeats 400000
namespace Lm
open PySem L2 Mir
variable {C : Cl} {st : Sto}
section
variable {ns : List Int} {tb fs : List (Str × Str)} {start : Int} {l : List Stp} {xs : List Int} {nms ms : List Str}
theorem r15_round {k : Nat} {x10 x11 x12 x13 x14 x15 x16 x17 : Option D} {labels : List Int} (hsrc : ∀ x ∈ labels, ∃ s ∈ l, s.a = x) (htg : ∀ s ∈ l, s.b ∈ labels) (hst : start ∈ labels) (hl : l.length ≤ 100) (hf : LFlts fs l) (hwd : (wordsOf l).length ≤ 14) (ht : Table tb) :
    ∃ y10 y11 y12 y13 y14 y15 y16 y17, l_law_k15_6 C (f15 C ns tb start l fs xs nms ms (some (.int (k : Nat))) x10 x11 x12 x13 x14 x15 x16 x17 st) = .ok (.nx (f15 C ns tb start l fs xs nms ms (some (.int (k : Nat))) y10 y11 y12 y13 y14 y15 y16 y17 st)) := by
  obtain ⟨c, ec⟩ := p_cell (C := C) ns (4 + k)
  have ecast : ((4 + k : Nat) : Int) = 4 + (k : Int) := by omega
  simp only [ecast] at ec
  obtain ⟨row, hft, er⟩ := p_row (C := C) c (41 :: List.replicate 40 64) (fun s hs => by
    rcases List.mem_cons.mp hs with rfl | hs
    · omega
    · rw [(List.mem_replicate.mp hs).2]; omega) (by rw [List.length_cons, List.length_replicate]; omega)
  obtain ⟨r0, hr0, r00, r01⟩ := hft.at (k := 0) (s := 41) rfl
  obtain ⟨n0, rfl⟩ : ∃ n0 : Nat, r0 = n0 := ⟨r0.toNat, by omega⟩
  have hrl : row.length = 41 := by rw [hft.1, List.length_cons, List.length_replicate]
  have ct : cutD (jDs row) (some 1) (some (1 + (n0 : Int))) = jDs ((row.drop 1).take n0) := by
    have := cutD_nat (xs := jDs row) (a := 1) (b := 1 + n0) (by omega) (by rw [List.length_map]; omega)
    rw [show ((1 + n0 : Nat) : Int) = 1 + (n0 : Int) by omega, show 1 + n0 - 1 = n0 by omega, ← List.map_drop, ← List.map_take] at this
    exact this
  have ld : ((row.drop 1).take n0).length ≤ 40 := by rw [List.length_take]; omega
  obtain ⟨ps, y, hw, hlen, ew⟩ := p_lwalk (C := C) (l := l) (start := start) (labels := labels) (ds := (row.drop 1).take n0) (by omega) hsrc htg hst (by omega)
  have hlp : ps.length ≤ 40 := by omega
  have a0 : atI (jDs row) 0 = some (.int n0) := atI_row (i := 0) hr0 rfl
  -- the row
  have em := dMul_l (a := [.int 64]) (k := 40) (by simp) (by simp)
  have ea := dAdd_l (a := [.int 41]) (b := (List.replicate 40 [D.int 64]).flatten) (by simp)
  have eS : jDs (41 :: List.replicate 40 64) = [.int 41] ++ (List.replicate 40 [D.int 64]).flatten := by simp [jDs]
  rw [eS] at er
  have em' : dMul (.lst [.int 64]) (.int 40) = .ok (.lst (List.replicate 40 [D.int 64]).flatten) := em
  have q10 : mSet 10 (mCall (f_law_row C) [] (mCons (mCall (f_law_cell C) [] (mCons (mVar 0) (mCons (mOp2 dAdd (mC (.int 4)) (mVar 4)) mNil))) (mCons (mOp2 dAdd (mLst (mCons (mC (.int 41)) mNil)) (mOp2 dMul (mLst (mCons (mC (.int 64)) mNil)) (mC (.int 40)))) mNil))) (f15 C ns tb start l fs xs nms ms (some (.int (k : Nat))) x10 x11 x12 x13 x14 x15 x16 x17 st) = .ok (.nx (f15 C ns tb start l fs xs nms ms (some (.int (k : Nat))) (some (.lst (jDs row))) x11 x12 x13 x14 x15 x16 x17 st)) := by
    have k1 := op2_ok (f := dAdd) (a := mC (.int 4)) (b := mVar 4) (r := f15 C ns tb start l fs xs nms ms (some (.int (k : Nat))) x10 x11 x12 x13 x14 x15 x16 x17 st) (x := .int 4) (y := .int k) rfl rfl rfl rfl dAdd_i
    have k2 := cons_ok (m := mVar 0) (x := .frl (ns.map D.int)) (r := f15 C ns tb start l fs xs nms ms (some (.int (k : Nat))) x10 x11 x12 x13 x14 x15 x16 x17 st) rfl (cons_ok k1 (rfl : mNil _ = _))
    have k3 := call_ok (dd := []) k2 (ec st)
    have k4 := op2_ok (f := dMul) (a := mLst (mCons (mC (.int 64)) mNil)) (b := mC (.int 40)) (r := f15 C ns tb start l fs xs nms ms (some (.int (k : Nat))) x10 x11 x12 x13 x14 x15 x16 x17 st) (x := .lst [.int 64]) (y := .int 40) rfl rfl rfl rfl em'
    have k5 := op2_ok (f := dAdd) (a := mLst (mCons (mC (.int 41)) mNil)) (r := f15 C ns tb start l fs xs nms ms (some (.int (k : Nat))) x10 x11 x12 x13 x14 x15 x16 x17 st) (x := .lst [.int 41]) rfl k4 rfl rfl ea
    have k6 := cons_ok k3 (cons_ok k5 (rfl : mNil _ = _))
    exact set_ok (i := 10) (call_ok (dd := []) k6 (er st))
  have q11 : mSet 11 (mArgs (d1 dTuple) (mCons (mCall (f_law_walk C) [] (mCons (mCut dCut (mVar 10) (mPart (mC (.int 1))) (mPart (mOp2 dAdd (mC (.int 1)) (mOp2 dIxA (mVar 10) (mC (.int 0)))))) (mCons (mVar 6) (mCons (mVar 5) mNil)))) mNil)) (f15 C ns tb start l fs xs nms ms (some (.int (k : Nat))) (some (.lst (jDs row))) x11 x12 x13 x14 x15 x16 x17 st) = .ok (.nx (f15 C ns tb start l fs xs nms ms (some (.int (k : Nat))) (some (.lst (jDs row))) (some (.tup (nDs ps))) x12 x13 x14 x15 x16 x17 st)) := by
    have k1 : mCut dCut (mVar 10) (mPart (mC (.int 1))) (mPart (mOp2 dAdd (mC (.int 1)) (mOp2 dIxA (mVar 10) (mC (.int 0))))) (f15 C ns tb start l fs xs nms ms (some (.int (k : Nat))) (some (.lst (jDs row))) x11 x12 x13 x14 x15 x16 x17 st) = .ok (.lst (jDs ((row.drop 1).take n0)), f15 C ns tb start l fs xs nms ms (some (.int (k : Nat))) (some (.lst (jDs row))) x11 x12 x13 x14 x15 x16 x17 st) := by
      rw [← ct]
      simp only [jDs] at a0
      simp [f15, a0]
    have k2 := cons_ok k1 (cons_ok (m := mVar 6) (x := .lst (l.map Stp.d)) rfl (cons_ok (m := mVar 5) (x := .int start) rfl (rfl : mNil _ = _)))
    have k3 := call_ok (dd := []) k2 (ew st)
    exact set_ok (i := 11) (args_ok (cons_ok k3 (rfl : mNil _ = _)) rfl rfl)
  have cw := c15_words (C := C) (so := st) (s0 := (f15 C ns tb start l fs xs nms ms (some (.int (k : Nat))) (some (.lst (jDs row))) (some (.tup (nDs ps))) x12 x13 x14 x15 x16 x17 st).s) (l := l) (ps := ps) hw.at (by omega) rfl rfl
  have q12 : mSet 12 (mCompW anyI [18] (mVar 11) (stName 18) (l_law_k15_1 C) (l_law_k15_2 C)) (f15 C ns tb start l fs xs nms ms (some (.int (k : Nat))) (some (.lst (jDs row))) (some (.tup (nDs ps))) x12 x13 x14 x15 x16 x17 st) = .ok (.nx (f15 C ns tb start l fs xs nms ms (some (.int (k : Nat))) (some (.lst (jDs row))) (some (.tup (nDs ps))) (some (.lst (sDs (wDs ps)))) x13 x14 x15 x16 x17 st)) := by
    simp only [f15] at cw
    simp [-List.map_map, f15, cw]
  have q13 : mSet 13 (mVar 5) (f15 C ns tb start l fs xs nms ms (some (.int (k : Nat))) (some (.lst (jDs row))) (some (.tup (nDs ps))) (some (.lst (sDs (wDs ps)))) x13 x14 x15 x16 x17 st) = .ok (.nx (f15 C ns tb start l fs xs nms ms (some (.int (k : Nat))) (some (.lst (jDs row))) (some (.tup (nDs ps))) (some (.lst (sDs (wDs ps)))) (some (.int start)) x14 x15 x16 x17 st)) := rfl
  have q13b : mIf (mBool (mOp2 dGt (mArgs (d1 dLenA) (mCons (mVar 11) mNil)) (mC (.int 0)))) (mSet 13 (mOp2 dIxA (mOp2 dIxA (mVar 6) (mOp2 dIxA (mVar 11) (mOp1 dNeg (mC (.int 1))))) (mC (.int 2)))) mNext (f15 C ns tb start l fs xs nms ms (some (.int (k : Nat))) (some (.lst (jDs row))) (some (.tup (nDs ps))) (some (.lst (sDs (wDs ps)))) (some (.int start)) x14 x15 x16 x17 st) = .ok (.nx (f15 C ns tb start l fs xs nms ms (some (.int (k : Nat))) (some (.lst (jDs row))) (some (.tup (nDs ps))) (some (.lst (sDs (wDs ps)))) (some (.int y)) x14 x15 x16 x17 st)) := by
    by_cases hp : ps = []
    · subst hp
      cases hw
      simp [f15]
    · have h0 : 0 < ps.length := List.length_pos_iff.mpr hp
      obtain ⟨qs, n, s, e1, e2, e3⟩ := hw.last hp
      have al : atI (nDs ps) (-1) = some (.int (n : Nat)) := by
        rw [e1, show nDs (qs ++ [(n, s)]) = nDs qs ++ [.int (n : Nat)] by simp [nDs]]
        exact atI_last _ _
      have wa := word_at e2
      rw [e3] at wa
      simp only [nDs] at al
      simp [f15, h0, al, wa]
  have hlw : (wDs ps).length ≤ 40 := by rw [wDs, List.length_map]; exact hlp
  have ct2 := c15_told (C := C) (so := st) (s0 := (f15 C ns tb start l fs xs nms ms (some (.int (k : Nat))) (some (.lst (jDs row))) (some (.tup (nDs ps))) (some (.lst (sDs (wDs ps)))) (some (.int y)) x14 x15 x16 x17 st).s) (fs := fs) (ws := wDs ps) (by omega) rfl rfl
  have tl := toldW_len (ts := fs) (ws := wDs ps)
  have q14 : mSet 14 (mSortK (mSetOf (mCompW anyI [19] (mVar 12) (stName 19) (l_law_k15_3 C) (l_law_k15_4 C)))) (f15 C ns tb start l fs xs nms ms (some (.int (k : Nat))) (some (.lst (jDs row))) (some (.tup (nDs ps))) (some (.lst (sDs (wDs ps)))) (some (.int y)) x14 x15 x16 x17 st) = .ok (.nx (f15 C ns tb start l fs xs nms ms (some (.int (k : Nat))) (some (.lst (jDs row))) (some (.tup (nDs ps))) (some (.lst (sDs (wDs ps)))) (some (.int y)) (some (.lst (sDs (sortS (toldW fs (wDs ps)))))) x15 x16 x17 st)) := by
    simp only [f15] at ct2
    generalize toldW fs (wDs ps) = tw at ct2 tl
    have ks := keysD_s tw
    have hh := hom_s tw
    have se := sortS_eq tw
    have lf : tw.length < 4000 := by omega
    simp [-List.map_map, f15, ct2, ks, hh, se, lf]
  have q7 : mIf (mTNot (mTruth (mCall (f_law_exact C 5) [] (mCons (mCall (f_end_of C) [] (mCons (mVar 2) (mCons (mVar 11) mNil))) (mCons (mVar 13) mNil))))) (mRet (mC (.bl false))) mNext (f15 C ns tb start l fs xs nms ms (some (.int (k : Nat))) (some (.lst (jDs row))) (some (.tup (nDs ps))) (some (.lst (sDs (wDs ps)))) (some (.int y)) (some (.lst (sDs (sortS (toldW fs (wDs ps)))))) x15 x16 x17 st) = .ok (.nx (f15 C ns tb start l fs xs nms ms (some (.int (k : Nat))) (some (.lst (jDs row))) (some (.tup (nDs ps))) (some (.lst (sDs (wDs ps)))) (some (.int y)) (some (.lst (sDs (sortS (toldW fs (wDs ps)))))) x15 x16 x17 st)) :=
    exact_if (ds := [mch C start l fs xs, .tup (nDs ps)]) rfl (p_end_of hw) rfl rfl
  have hfi := p_faults_in (C := C) (st := st) (fs := fs) (xs := xs) hw (by omega)
  rw [toldW_keep hf hw.words] at hfi
  have sl := sortS_len (toldW fs (wDs ps))
  have q8 : mIf (mTNot (mTruth (mCall (f_law_exact C 5) [] (mCons (mCall (f_faults_in C) [] (mCons (mVar 2) (mCons (mVar 11) mNil))) (mCons (mVar 14) mNil))))) (mRet (mC (.bl false))) mNext (f15 C ns tb start l fs xs nms ms (some (.int (k : Nat))) (some (.lst (jDs row))) (some (.tup (nDs ps))) (some (.lst (sDs (wDs ps)))) (some (.int y)) (some (.lst (sDs (sortS (toldW fs (wDs ps)))))) x15 x16 x17 st) = .ok (.nx (f15 C ns tb start l fs xs nms ms (some (.int (k : Nat))) (some (.lst (jDs row))) (some (.tup (nDs ps))) (some (.lst (sDs (wDs ps)))) (some (.int y)) (some (.lst (sDs (sortS (toldW fs (wDs ps)))))) x15 x16 x17 st)) :=
    exact_if (ds := [mch C start l fs xs, .tup (nDs ps)]) rfl hfi rfl (flat_str_list (by omega))
  have tl2 := toldW_len (ts := tb) (ws := wDs ps)
  have q15 : mSet 15 (mArgs (d1 dTuple) (mCons (mCall (f_law_seen C) [] (mCons (mVar 6) (mCons (mVar 1) (mCons (mVar 11) mNil)))) mNil)) (f15 C ns tb start l fs xs nms ms (some (.int (k : Nat))) (some (.lst (jDs row))) (some (.tup (nDs ps))) (some (.lst (sDs (wDs ps)))) (some (.int y)) (some (.lst (sDs (sortS (toldW fs (wDs ps)))))) x15 x16 x17 st) = .ok (.nx (f15 C ns tb start l fs xs nms ms (some (.int (k : Nat))) (some (.lst (jDs row))) (some (.tup (nDs ps))) (some (.lst (sDs (wDs ps)))) (some (.int y)) (some (.lst (sDs (sortS (toldW fs (wDs ps)))))) (some (.tup (sDs (toldW tb (wDs ps))))) x16 x17 st)) := by
    have k3 := call_ok (f := f_law_seen C) (dd := []) (ms := mCons (mVar 6) (mCons (mVar 1) (mCons (mVar 11) mNil))) (r := f15 C ns tb start l fs xs nms ms (some (.int (k : Nat))) (some (.lst (jDs row))) (some (.tup (nDs ps))) (some (.lst (sDs (wDs ps)))) (some (.int y)) (some (.lst (sDs (sortS (toldW fs (wDs ps)))))) x15 x16 x17 st) (r1 := f15 C ns tb start l fs xs nms ms (some (.int (k : Nat))) (some (.lst (jDs row))) (some (.tup (nDs ps))) (some (.lst (sDs (wDs ps)))) (some (.int y)) (some (.lst (sDs (sortS (toldW fs (wDs ps)))))) x15 x16 x17 st) (ds := [.lst (l.map Stp.d), .dic (fDic tb), .tup (nDs ps)]) rfl (p_lseen (C := C) (st := st) (tb := tb) hw.at (by omega))
    exact set_ok (i := 15) (args_ok (cons_ok k3 (rfl : mNil _ = _)) rfl rfl)
  have q16 : mIf (mTNot (mTruth (mCall (f_law_exact C 5) [] (mCons (mCall (f_sights_of C) [] (mCons (mVar 2) (mCons (mVar 3) (mCons (mVar 11) mNil)))) (mCons (mVar 15) mNil))))) (mRet (mC (.bl false))) mNext (f15 C ns tb start l fs xs nms ms (some (.int (k : Nat))) (some (.lst (jDs row))) (some (.tup (nDs ps))) (some (.lst (sDs (wDs ps)))) (some (.int y)) (some (.lst (sDs (sortS (toldW fs (wDs ps)))))) (some (.tup (sDs (toldW tb (wDs ps))))) x16 x17 st) = .ok (.nx (f15 C ns tb start l fs xs nms ms (some (.int (k : Nat))) (some (.lst (jDs row))) (some (.tup (nDs ps))) (some (.lst (sDs (wDs ps)))) (some (.int y)) (some (.lst (sDs (sortS (toldW fs (wDs ps)))))) (some (.tup (sDs (toldW tb (wDs ps))))) x16 x17 st)) :=
    exact_if (ds := [mch C start l fs xs, wch C tb, .tup (nDs ps)]) rfl (p_sights_of hw (by omega)) rfl (flat_str_tup (by omega))
  have kv : (fDic fs).map kvVal = sDs (fs.map (·.2)) := by simp only [fDic, sDs, List.map_map]; rfl
  obtain ⟨y16, y17, ef⟩ := r15_faults (C := C) (st := st) (ns := ns) (tb := tb) (nms := nms) (ms := ms) (x4 := some (.int (k : Nat))) (x10 := some (.lst (jDs row))) (x13 := some (.int y)) (x14 := some (.lst (sDs (sortS (toldW fs (wDs ps)))))) (x15 := some (.tup (sDs (toldW tb (wDs ps))))) (xs := xs) hw (by omega) hf hwd (sortS (fs.map (·.2))) x16 x17 fun f hf' => sortS_sub hf'
  refine ⟨some (.lst (jDs row)), some (.tup (nDs ps)), some (.lst (sDs (wDs ps))), some (.int y), some (.lst (sDs (sortS (toldW fs (wDs ps))))), some (.tup (sDs (toldW tb (wDs ps)))), y16, y17, ?_⟩
  have q17 : mFor (mItem asQ (mSortK (mSetOf (mOp1 dListV (mVar 7))))) (stName 16) (l_law_k15_5 C) (f15 C ns tb start l fs xs nms ms (some (.int (k : Nat))) (some (.lst (jDs row))) (some (.tup (nDs ps))) (some (.lst (sDs (wDs ps)))) (some (.int y)) (some (.lst (sDs (sortS (toldW fs (wDs ps)))))) (some (.tup (sDs (toldW tb (wDs ps))))) x16 x17 st) = .ok (.nx (f15 C ns tb start l fs xs nms ms (some (.int (k : Nat))) (some (.lst (jDs row))) (some (.tup (nDs ps))) (some (.lst (sDs (wDs ps)))) (some (.int y)) (some (.lst (sDs (sortS (toldW fs (wDs ps)))))) (some (.tup (sDs (toldW tb (wDs ps))))) y16 y17 st)) := by
    have ei : mItem asQ (mSortK (mSetOf (mOp1 dListV (mVar 7)))) (f15 C ns tb start l fs xs nms ms (some (.int (k : Nat))) (some (.lst (jDs row))) (some (.tup (nDs ps))) (some (.lst (sDs (wDs ps)))) (some (.int y)) (some (.lst (sDs (sortS (toldW fs (wDs ps)))))) (some (.tup (sDs (toldW tb (wDs ps))))) x16 x17 st) = .ok (sDs (sortS (fs.map (·.2))), f15 C ns tb start l fs xs nms ms (some (.int (k : Nat))) (some (.lst (jDs row))) (some (.tup (nDs ps))) (some (.lst (sDs (wDs ps)))) (some (.int y)) (some (.lst (sDs (sortS (toldW fs (wDs ps)))))) (some (.tup (sDs (toldW tb (wDs ps))))) x16 x17 st) := by
      have ks := keysD_s (fs.map (·.2))
      have hh := hom_s (fs.map (·.2))
      have se := sortS_eq (fs.map (·.2))
      have hfl := hf.len
      have lf : fs.length < 4000 := by omega
      simp [-List.map_map, f15, kv, ks, hh, se, lf]
    simp only [mFor, ei, bnd_ok]
    exact ef
  rw [l_law_k15_6, seq_nx q10, seq_nx q11, seq_nx q12, seq_nx q13, seq_nx q13b, seq_nx q14, seq_nx q7, seq_nx q8, seq_nx q15, seq_nx q16, q17]
end
end Lm

set_option maxHeartbeats 400000
namespace Lm
open PySem L2 Mir
variable {C : Cl} {st : Sto}
section
variable {ns : List Int} {tb fs : List (Str × Str)} {start : Int} {l : List Stp} {xs : List Int} {nms ms : List Str}
theorem r15_rounds {labels : List Int} (hsrc : ∀ x ∈ labels, ∃ s ∈ l, s.a = x) (htg : ∀ s ∈ l, s.b ∈ labels) (hst : start ∈ labels) (hl : l.length ≤ 100) (hf : LFlts fs l) (hwd : (wordsOf l).length ≤ 14) (ht : Table tb) :
    ∀ (j k : Nat) (x4 x10 x11 x12 x13 x14 x15 x16 x17 : Option D), k + j = 3 → ∃ y4 y10 y11 y12 y13 y14 y15 y16 y17, mLoop (stName 4) (l_law_k15_6 C) ((rangeD 0 3).drop k) (f15 C ns tb start l fs xs nms ms x4 x10 x11 x12 x13 x14 x15 x16 x17 st) = .ok (.nx (f15 C ns tb start l fs xs nms ms y4 y10 y11 y12 y13 y14 y15 y16 y17 st))
  | 0, k, x4, x10, x11, x12, x13, x14, x15, x16, x17, hk => by
    refine ⟨x4, x10, x11, x12, x13, x14, x15, x16, x17, ?_⟩
    rw [List.drop_of_length_le (by rw [rangeD_len]; omega)]
    rfl
  | j + 1, k, x4, x10, x11, x12, x13, x14, x15, x16, x17, hk => by
    obtain ⟨y10, y11, y12, y13, y14, y15, y16, y17, t⟩ := r15_round (C := C) (st := st) (ns := ns) (tb := tb) (fs := fs) (start := start) (l := l) (xs := xs) (nms := nms) (ms := ms) (k := k) (x10 := x10) (x11 := x11) (x12 := x12) (x13 := x13) (x14 := x14) (x15 := x15) (x16 := x16) (x17 := x17) hsrc htg hst hl hf hwd ht
    obtain ⟨z4, z10, z11, z12, z13, z14, z15, z16, z17, e⟩ := r15_rounds hsrc htg hst hl hf hwd ht j (k + 1) (some (.int (k : Nat))) y10 y11 y12 y13 y14 y15 y16 y17 (by omega)
    refine ⟨z4, z10, z11, z12, z13, z14, z15, z16, z17, ?_⟩
    rw [range_drop (by omega), loop_cons (st := stName 4) (r1 := f15 C ns tb start l fs xs nms ms (some (.int (k : Nat))) x10 x11 x12 x13 x14 x15 x16 x17 st) rfl t, e]
theorem eqO_run {c : Addr} {mf : Fn} {ma mb : RE → Out (D × RE)} {r : RE} {fa : List (Str × D)} (h1 : ma r = .ok (.ins c fa, r)) (h2 : mb r = .ok (.ins c fa, r)) (h3 : mf [.ins c fa, .ins c fa] r.st = .ok (.bl true, r.st)) : mEqO c mf ma mb r = .ok (.bl true, r) := by
  simp only [mEqO, h1, h2, h3, bnd_ok, dr_ins, and_self, if_true]
end
theorem p_law15 (C : Cl) (ns : List Int) (hl : ns.length ≤ 63) : ∃ st, k_law_k15 C [.frl (ns.map D.int)] [] = .ok (.bl true, st) := by
  obtain ⟨start, l, fs, nms, ms, hs, es⟩ := p_lsystem (C := C) (st := []) ns 8 6 6 (by omega) (by omega) (by omega) (by omega) (by omega)
  have es : f_law_system C [.frl (ns.map D.int), .int 8, .int 6, .int 6] [] = _ := es
  obtain ⟨c3, ec3⟩ := p_cell (C := C) ns 3
  have ec3 : ∀ st, f_law_cell C [.frl (ns.map D.int), .int 3] st = _ := ec3
  have nl := hs.nlen
  have ml := hs.mlen
  obtain ⟨m0, g0⟩ : ∃ x, ms[0]? = some x := ⟨_, List.getElem?_eq_getElem (by omega)⟩
  obtain ⟨n1, g1⟩ : ∃ x, nms[1]? = some x := ⟨_, List.getElem?_eq_getElem (by omega)⟩
  obtain ⟨tb, ht, hsub, et⟩ := p_lsights (C := C) c3 nms [m0, n1] hs.nnd hs.nok (fun y hy => by
    simp only [List.mem_cons, List.not_mem_nil, or_false] at hy
    rcases hy with rfl | rfl
    · exact hs.mok _ (List.mem_of_getElem? g0)
    · exact hs.nok _ (List.mem_of_getElem? g1)) (by omega) (by omega) (by simp)
  have hm := hs.mach (by omega) (by omega) (by omega)
  have hwd := hm.words
  obtain ⟨xs, hxs, emk⟩ := p_make (C := C) (st := []) hm (d2 := .lst (l.map Stp.d)) (d3 := .dic (fDic fs)) (.inr (.inl rfl)) (.inl rfl)
  simp only [machD] at emk
  have ewk := p_watch (C := C) (st := []) ht
  obtain ⟨labels, hmd, hst⟩ := hs.made
  have hlen := hs.len
  have a0 : atI (sDs ms) 0 = some (.str m0) := atI_nat (xs := sDs ms) (j := 0) (by rw [List.getElem?_map, g0]; rfl)
  have a1 : atI (sDs nms) 1 = some (.str n1) := atI_nat (xs := sDs nms) (j := 1) (by rw [List.getElem?_map, g1]; rfl)
  have q1 : mAsg (stUnp 5 (stCons (stName 5) (stCons (stName 6) (stCons (stName 7) (stCons (stName 8) (stCons (stName 9) stNil)))))) (mCall (f_law_system C) [] (mCons (mVar 0) (mCons (mC (.int 8)) (mCons (mC (.int 6)) (mCons (mC (.int 6)) mNil))))) ⟨[some (.frl (ns.map D.int)), none, none, none, none, none, none, none, none, none, none, none, none, none, none, none, none, none, none, none], []⟩ = .ok (.nx ⟨[some (.frl (ns.map D.int)), none, none, none, none, some (.int start), some (.lst (l.map Stp.d)), some (.dic (fDic fs)), some (.lst (sDs nms)), some (.lst (sDs ms)), none, none, none, none, none, none, none, none, none, none], []⟩) := by
    simp [-List.map_map, es]
  have q2 : mSet 1 (mCall (f_law_sights C) [] (mCons (mCall (f_law_cell C) [] (mCons (mVar 0) (mCons (mC (.int 3)) mNil))) (mCons (mVar 8) (mCons (mLst (mCons (mOp2 dIxA (mVar 9) (mC (.int 0))) (mCons (mOp2 dIxA (mVar 8) (mC (.int 1))) mNil))) mNil)))) ⟨[some (.frl (ns.map D.int)), none, none, none, none, some (.int start), some (.lst (l.map Stp.d)), some (.dic (fDic fs)), some (.lst (sDs nms)), some (.lst (sDs ms)), none, none, none, none, none, none, none, none, none, none], []⟩ = .ok (.nx ⟨[some (.frl (ns.map D.int)), some (.dic (fDic tb)), none, none, none, some (.int start), some (.lst (l.map Stp.d)), some (.dic (fDic fs)), some (.lst (sDs nms)), some (.lst (sDs ms)), none, none, none, none, none, none, none, none, none, none], []⟩) := by
    have et' : ∀ st, f_law_sights C [.int c3, .lst (sDs nms), .lst [.str m0, .str n1]] st = .ok (.dic (fDic tb), st) := et
    simp only [sDs] at a0 a1 et'
    simp [-List.map_map, ec3, a0, a1, et']
  have q3 : mSet 2 (mCall (cutF (mkF C.Machine (k_Machine_init C))) [] (mCons (mVar 5) (mCons (mVar 6) (mCons (mVar 7) mNil)))) ⟨[some (.frl (ns.map D.int)), some (.dic (fDic tb)), none, none, none, some (.int start), some (.lst (l.map Stp.d)), some (.dic (fDic fs)), some (.lst (sDs nms)), some (.lst (sDs ms)), none, none, none, none, none, none, none, none, none, none], []⟩ = .ok (.nx ⟨[some (.frl (ns.map D.int)), some (.dic (fDic tb)), some (mch C start l fs xs), none, none, some (.int start), some (.lst (l.map Stp.d)), some (.dic (fDic fs)), some (.lst (sDs nms)), some (.lst (sDs ms)), none, none, none, none, none, none, none, none, none, none], []⟩) := by
    simp [-List.map_map, emk]
  have q4 : mSet 3 (mCall (cutF (mkF C.Watch (k_Watch_init C))) [] (mCons (mVar 1) mNil)) ⟨[some (.frl (ns.map D.int)), some (.dic (fDic tb)), some (mch C start l fs xs), none, none, some (.int start), some (.lst (l.map Stp.d)), some (.dic (fDic fs)), some (.lst (sDs nms)), some (.lst (sDs ms)), none, none, none, none, none, none, none, none, none, none], []⟩ = .ok (.nx (f15 C ns tb start l fs xs nms ms none none none none none none none none none [])) := by
    simp [-List.map_map, ewk, f15]
  obtain ⟨y4, y10, y11, y12, y13, y14, y15, y16, y17, er⟩ := r15_rounds (C := C) (st := []) (ns := ns) (tb := tb) (xs := xs) (nms := nms) (ms := ms) hmd.src hmd.b hst (by omega) hs.fl hwd ht 3 0 none none none none none none none none none (by omega)
  rw [List.drop_zero] at er
  have rg := rng1 (oa := mC (.int 3)) (r := f15 C ns tb start l fs xs nms ms none none none none none none none none none []) (r' := f15 C ns tb start l fs xs nms ms none none none none none none none none none []) (n := 3) rfl (by omega)
  have q5 : mFor (mRng1 (mC (.int 3))) (stName 4) (l_law_k15_6 C) (f15 C ns tb start l fs xs nms ms none none none none none none none none none []) = .ok (.nx (f15 C ns tb start l fs xs nms ms y4 y10 y11 y12 y13 y14 y15 y16 y17 [])) := by
    simp only [mFor, rg, bnd_ok]
    exact er
  have e1 := eqO_run (c := C.Machine) (mf := f_Machine_eq C) (ma := mVar 2) (mb := mCall (cutF (mkF C.Machine (k_Machine_init C))) [] (mCons (mVar 5) (mCons (mVar 6) (mCons (mVar 7) mNil)))) (r := f15 C ns tb start l fs xs nms ms y4 y10 y11 y12 y13 y14 y15 y16 y17 []) (fa := fields start l fs xs) rfl (call_ok (dd := []) (ds := [.int start, .lst (l.map Stp.d), .dic (fDic fs)]) (r1 := f15 C ns tb start l fs xs nms ms y4 y10 y11 y12 y13 y14 y15 y16 y17 []) rfl emk) (p_meq hm.rows.ok)
  have e2 := eqO_run (c := C.Watch) (mf := f_Watch_eq C) (ma := mVar 3) (mb := mCall (cutF (mkF C.Watch (k_Watch_init C))) [] (mCons (mVar 1) mNil)) (r := f15 C ns tb start l fs xs nms ms y4 y10 y11 y12 y13 y14 y15 y16 y17 []) (fa := [(Str.ofString "table", .dic (fDic tb))]) rfl (call_ok (dd := []) (ds := [.dic (fDic tb)]) (r1 := f15 C ns tb start l fs xs nms ms y4 y10 y11 y12 y13 y14 y15 y16 y17 []) rfl ewk) (p_weq ht)
  have main : b_law_k15 C ⟨[some (.frl (ns.map D.int)), none, none, none, none, none, none, none, none, none, none, none, none, none, none, none, none, none, none, none], []⟩ = .ok (.rt (.bl true) (f15 C ns tb start l fs xs nms ms y4 y10 y11 y12 y13 y14 y15 y16 y17 [])) := by
    rw [b_law_k15, seq_nx q1, seq_nx q2, seq_nx q3, seq_nx q4, seq_nx q5]
    simp only [mRet, mAnd, e1, bnd_ok, asB, if_true, e2]
  refine ⟨(f15 C ns tb start l fs xs nms ms y4 y10 y11 y12 y13 y14 y15 y16 y17 []).st, ?_⟩
  simp only [k_law_k15, Mir.n0, fnK, List.length_cons, List.length_nil, if_true]
  rw [show startR 20 [.frl (ns.map D.int)] [] = ⟨[some (.frl (ns.map D.int)), none, none, none, none, none, none, none, none, none, none, none, none, none, none, none, none, none, none, none], []⟩ from rfl]
  simp only [runB, main, bnd_ok, noX]
end Lm

set_option maxHeartbeats 4000000
namespace K15
open PySem L2 Mir Lm
def spLaw (K : PySem.W.Frag) : Sp := fun vs H Q _ => ∃ (a : Addr) (ns : List Int), vs = [.ref a] ∧ SqL K H a (ns.map V.int) ∧ ns.length ≤ 63 ∧ ∀ H', Q (.bl true) H'
theorem all_mk {l : PySem.W.OpenLaw} {w : World} {K : PySem.W.Frag} {h : Heap} {mg : Str → Option Value} {fa : Addr} {C_Machine : Addr} {C_Watch : Addr} {f1 : Addr} {od1 an1 : Option Addr} {sl1 : Array (Option Value)} {oc1 kV1 dc1 pm1 cd1 ct1 : Value} {f2 : Addr} {od2 an2 : Option Addr} {sl2 : Array (Option Value)} {oc2 kV2 dc2 pm2 cd2 ct2 : Value} {f3 : Addr} {od3 an3 : Option Addr} {sl3 : Array (Option Value)} {oc3 kV3 dc3 pm3 cd3 ct3 : Value} {f4 : Addr} {od4 an4 : Option Addr} {sl4 : Array (Option Value)} {oc4 kV4 dc4 pm4 cd4 ct4 : Value} {f5 : Addr} {od5 an5 : Option Addr} {sl5 : Array (Option Value)} {oc5 kV5 dc5 pm5 cd5 ct5 : Value} {f6 : Addr} {od6 an6 : Option Addr} {sl6 : Array (Option Value)} {oc6 kV6 dc6 pm6 cd6 ct6 : Value} {f7 : Addr} {od7 an7 : Option Addr} {sl7 : Array (Option Value)} {oc7 kV7 dc7 pm7 cd7 ct7 : Value} {f8 : Addr} {od8 an8 : Option Addr} {sl8 : Array (Option Value)} {oc8 kV8 dc8 pm8 cd8 ct8 : Value} {f9 : Addr} {od9 an9 : Option Addr} {sl9 : Array (Option Value)} {oc9 kV9 dc9 pm9 cd9 ct9 : Value} {f10 : Addr} {od10 an10 : Option Addr} {sl10 : Array (Option Value)} {oc10 kV10 dc10 pm10 cd10 ct10 : Value} {f11 : Addr} {od11 an11 : Option Addr} {sl11 : Array (Option Value)} {oc11 kV11 dc11 pm11 cd11 ct11 : Value} {T11 : Addr} {tc11 : Value} {td11 : Option Addr} {ts11 : Array (Option Value)} {tn11 : Nat} {f12 : Addr} {od12 an12 : Option Addr} {sl12 : Array (Option Value)} {oc12 kV12 dc12 pm12 cd12 ct12 : Value} {p12 : Addr} {pr12 : List Value} {f13 : Addr} {od13 an13 : Option Addr} {sl13 : Array (Option Value)} {oc13 kV13 dc13 pm13 cd13 ct13 : Value} {p13 : Addr} {pr13 : List Value} {f14 : Addr} {od14 an14 : Option Addr} {sl14 : Array (Option Value)} {oc14 kV14 dc14 pm14 cd14 ct14 : Value} {f15 : Addr} {od15 an15 : Option Addr} {sl15 : Array (Option Value)} {oc15 kV15 dc15 pm15 cd15 ct15 : Value} {f16 : Addr} {od16 an16 : Option Addr} {sl16 : Array (Option Value)} {oc16 kV16 dc16 pm16 cd16 ct16 : Value} {f17 : Addr} {od17 an17 : Option Addr} {sl17 : Array (Option Value)} {oc17 kV17 dc17 pm17 cd17 ct17 : Value} {f18 : Addr} {od18 an18 : Option Addr} {sl18 : Array (Option Value)} {oc18 kV18 dc18 pm18 cd18 ct18 : Value} {f19 : Addr} {od19 an19 : Option Addr} {sl19 : Array (Option Value)} {oc19 kV19 dc19 pm19 cd19 ct19 : Value} {T19 : Addr} {tc19 : Value} {td19 : Option Addr} {ts19 : Array (Option Value)} {tn19 : Nat} {f20 : Addr} {od20 an20 : Option Addr} {sl20 : Array (Option Value)} {oc20 kV20 dc20 pm20 cd20 ct20 : Value} {f21 : Addr} {od21 an21 : Option Addr} {sl21 : Array (Option Value)} {oc21 kV21 dc21 pm21 cd21 ct21 : Value} {f22 : Addr} {od22 an22 : Option Addr} {sl22 : Array (Option Value)} {oc22 kV22 dc22 pm22 cd22 ct22 : Value} {f23 : Addr} {od23 an23 : Option Addr} {sl23 : Array (Option Value)} {oc23 kV23 dc23 pm23 cd23 ct23 : Value} {f24 : Addr} {od24 an24 : Option Addr} {sl24 : Array (Option Value)} {oc24 kV24 dc24 pm24 cd24 ct24 : Value} {f25 : Addr} {od25 an25 : Option Addr} {sl25 : Array (Option Value)} {oc25 kV25 dc25 pm25 cd25 ct25 : Value} {f26 : Addr} {od26 an26 : Option Addr} {sl26 : Array (Option Value)} {oc26 kV26 dc26 pm26 cd26 ct26 : Value} {f27 : Addr} {od27 an27 : Option Addr} {sl27 : Array (Option Value)} {oc27 kV27 dc27 pm27 cd27 ct27 : Value} {f28 : Addr} {od28 an28 : Option Addr} {sl28 : Array (Option Value)} {oc28 kV28 dc28 pm28 cd28 ct28 : Value} {f29 : Addr} {od29 an29 : Option Addr} {sl29 : Array (Option Value)} {oc29 kV29 dc29 pm29 cd29 ct29 : Value} {f30 : Addr} {od30 an30 : Option Addr} {sl30 : Array (Option Value)} {oc30 kV30 dc30 pm30 cd30 ct30 : Value} {f31 : Addr} {od31 an31 : Option Addr} {sl31 : Array (Option Value)} {oc31 kV31 dc31 pm31 cd31 ct31 : Value} {f32 : Addr} {od32 an32 : Option Addr} {sl32 : Array (Option Value)} {oc32 kV32 dc32 pm32 cd32 ct32 : Value} {f33 : Addr} {od33 an33 : Option Addr} {sl33 : Array (Option Value)} {oc33 kV33 dc33 pm33 cd33 ct33 : Value} {f34 : Addr} {od34 an34 : Option Addr} {sl34 : Array (Option Value)} {oc34 kV34 dc34 pm34 cd34 ct34 : Value} {f35 : Addr} {od35 an35 : Option Addr} {sl35 : Array (Option Value)} {oc35 kV35 dc35 pm35 cd35 ct35 : Value} {f36 : Addr} {od36 an36 : Option Addr} {sl36 : Array (Option Value)} {oc36 kV36 dc36 pm36 cd36 ct36 : Value} {f37 : Addr} {od37 an37 : Option Addr} {sl37 : Array (Option Value)} {oc37 kV37 dc37 pm37 cd37 ct37 : Value} {f38 : Addr} {od38 an38 : Option Addr} {sl38 : Array (Option Value)} {oc38 kV38 dc38 pm38 cd38 ct38 : Value} {f39 : Addr} {od39 an39 : Option Addr} {sl39 : Array (Option Value)} {oc39 kV39 dc39 pm39 cd39 ct39 : Value} {f40 : Addr} {od40 an40 : Option Addr} {sl40 : Array (Option Value)} {oc40 kV40 dc40 pm40 cd40 ct40 : Value} {f41 : Addr} {od41 an41 : Option Addr} {sl41 : Array (Option Value)} {oc41 kV41 dc41 pm41 cd41 ct41 : Value} {f42 : Addr} {od42 an42 : Option Addr} {sl42 : Array (Option Value)} {oc42 kV42 dc42 pm42 cd42 ct42 : Value} {f43 : Addr} {od43 an43 : Option Addr} {sl43 : Array (Option Value)} {oc43 kV43 dc43 pm43 cd43 ct43 : Value} {t_LETTERS : Tok} {t_MOST_FAULTS : Tok} {t_MOST_FROM : Tok} {t_MOST_LETTERS : Tok} {t_MOST_STATE : Tok} {t_MOST_STEPS : Tok} {t_MOST_WORDS : Tok} (X : K.In h) (G : h.Ns mainGlobals mg) (hfa : mg (Str.ofString "law") = some (.ref fa))
    (m_Machine : PySem.W.nsIn K mainGlobals (Str.ofString "Machine") = some (some (.ref C_Machine)))
    (pg_Machine : PySem.W.plainGet K C_Machine Str.empty = true)
    (hd_Machine : PySem.W.hasDictIn K C_Machine = true)
    (po_Machine : PySem.W.plainOver K C_Machine = true)
    (sa_Machine : PySem.W.findIn K (.ref C_Machine) "__setattr__" = some (some (.builtin "object.__setattr__")))
    (mk_Machine : PySem.W.makesIn K C_Machine = true)
    (kc_Machine : PySem.W.keepIn K (.ref C_Machine) = true)
    (m_Watch : PySem.W.nsIn K mainGlobals (Str.ofString "Watch") = some (some (.ref C_Watch)))
    (pg_Watch : PySem.W.plainGet K C_Watch Str.empty = true)
    (hd_Watch : PySem.W.hasDictIn K C_Watch = true)
    (po_Watch : PySem.W.plainOver K C_Watch = true)
    (sa_Watch : PySem.W.findIn K (.ref C_Watch) "__setattr__" = some (some (.builtin "object.__setattr__")))
    (mk_Watch : PySem.W.makesIn K C_Watch = true)
    (kc_Watch : PySem.W.keepIn K (.ref C_Watch) = true)
    (na_Machine_fault_table : PySem.W.findIn K (.ref C_Machine) (Str.ofString "fault_table") = some none)
    (na_Machine_first_state : PySem.W.findIn K (.ref C_Machine) (Str.ofString "first_state") = some none)
    (na_Machine_leaving : PySem.W.findIn K (.ref C_Machine) (Str.ofString "leaving") = some none)
    (na_Machine_met_states : PySem.W.findIn K (.ref C_Machine) (Str.ofString "met_states") = some none)
    (na_Machine_step_rows : PySem.W.findIn K (.ref C_Machine) (Str.ofString "step_rows") = some none)
    (na_Machine_word_list : PySem.W.findIn K (.ref C_Machine) (Str.ofString "word_list") = some none)
    (na_Watch_table : PySem.W.findIn K (.ref C_Watch) (Str.ofString "table") = some none)
    (ihn : PySem.W.specialIn K (.builtin "object.__class__") "__get__" = some (some (.builtin "getset_descriptor.__get__")))
    (ihtk : PySem.W.takesIn K (.builtin "object.__class__") = some true)
    (iha_Machine : PySem.W.findIn K (.ref C_Machine) "__class__" = some (some (.builtin "object.__class__")))
    (ihm_Machine : PySem.W.mroIn K C_Machine (.type "object") = some true)
    (icl_Machine : PySem.W.isClsIn K C_Machine = true)
    (ity_Machine : PySem.W.typeIn K (.ref C_Machine) = some (.type "type"))
    (iy_Machine_NoneType : PySem.W.subIn K (.type "NoneType") (.ref C_Machine) = some false)
    (iy_Machine_bool : PySem.W.subIn K (.type "bool") (.ref C_Machine) = some false)
    (iy_Machine_int : PySem.W.subIn K (.type "int") (.ref C_Machine) = some false)
    (iy_Machine_str : PySem.W.subIn K (.type "str") (.ref C_Machine) = some false)
    (iy_Machine_tuple : PySem.W.subIn K (.type "tuple") (.ref C_Machine) = some false)
    (iy_Machine_list : PySem.W.subIn K (.type "list") (.ref C_Machine) = some false)
    (iy_Machine_dict : PySem.W.subIn K (.type "dict") (.ref C_Machine) = some false)
    (iha_Watch : PySem.W.findIn K (.ref C_Watch) "__class__" = some (some (.builtin "object.__class__")))
    (ihm_Watch : PySem.W.mroIn K C_Watch (.type "object") = some true)
    (icl_Watch : PySem.W.isClsIn K C_Watch = true)
    (ity_Watch : PySem.W.typeIn K (.ref C_Watch) = some (.type "type"))
    (iy_Watch_NoneType : PySem.W.subIn K (.type "NoneType") (.ref C_Watch) = some false)
    (iy_Watch_bool : PySem.W.subIn K (.type "bool") (.ref C_Watch) = some false)
    (iy_Watch_int : PySem.W.subIn K (.type "int") (.ref C_Watch) = some false)
    (iy_Watch_str : PySem.W.subIn K (.type "str") (.ref C_Watch) = some false)
    (iy_Watch_tuple : PySem.W.subIn K (.type "tuple") (.ref C_Watch) = some false)
    (iy_Watch_list : PySem.W.subIn K (.type "list") (.ref C_Watch) = some false)
    (iy_Watch_dict : PySem.W.subIn K (.type "dict") (.ref C_Watch) = some false)
    (a1 : PySem.W.nsIn K mainGlobals (Str.ofString "is_integer") = some (some (.ref f1)))
    (l1 : K.lookup f1 = some ⟨oc1, od1, .func (PySem.W.fnOf (Str.ofString "is_integer") (Str.ofString "is_integer") (defArgs s_is_integer) (defBody s_is_integer) (defScope s_is_integer) .none kV1 dc1 pm1 an1 cd1 ct1), sl1⟩)
    (c1 : PySem.W.codeIn K cd1 (Str.ofString "is_integer") = true)
    (k1 : PySem.W.keepIn K (.ref f1) = true)
    (a2 : PySem.W.nsIn K mainGlobals (Str.ofString "is_count") = some (some (.ref f2)))
    (l2 : K.lookup f2 = some ⟨oc2, od2, .func (PySem.W.fnOf (Str.ofString "is_count") (Str.ofString "is_count") (defArgs s_is_count) (defBody s_is_count) (defScope s_is_count) .none kV2 dc2 pm2 an2 cd2 ct2), sl2⟩)
    (c2 : PySem.W.codeIn K cd2 (Str.ofString "is_count") = true)
    (k2 : PySem.W.keepIn K (.ref f2) = true)
    (a3 : PySem.W.nsIn K mainGlobals (Str.ofString "is_state") = some (some (.ref f3)))
    (l3 : K.lookup f3 = some ⟨oc3, od3, .func (PySem.W.fnOf (Str.ofString "is_state") (Str.ofString "is_state") (defArgs s_is_state) (defBody s_is_state) (defScope s_is_state) .none kV3 dc3 pm3 an3 cd3 ct3), sl3⟩)
    (c3 : PySem.W.codeIn K cd3 (Str.ofString "is_state") = true)
    (k3 : PySem.W.keepIn K (.ref f3) = true)
    (a4 : PySem.W.nsIn K mainGlobals (Str.ofString "is_name") = some (some (.ref f4)))
    (l4 : K.lookup f4 = some ⟨oc4, od4, .func (PySem.W.fnOf (Str.ofString "is_name") (Str.ofString "is_name") (defArgs s_is_name) (defBody s_is_name) (defScope s_is_name) .none kV4 dc4 pm4 an4 cd4 ct4), sl4⟩)
    (c4 : PySem.W.codeIn K cd4 (Str.ofString "is_name") = true)
    (k4 : PySem.W.keepIn K (.ref f4) = true)
    (a5 : PySem.W.nsIn K mainGlobals (Str.ofString "is_row") = some (some (.ref f5)))
    (l5 : K.lookup f5 = some ⟨oc5, od5, .func (PySem.W.fnOf (Str.ofString "is_row") (Str.ofString "is_row") (defArgs s_is_row) (defBody s_is_row) (defScope s_is_row) .none kV5 dc5 pm5 an5 cd5 ct5), sl5⟩)
    (c5 : PySem.W.codeIn K cd5 (Str.ofString "is_row") = true)
    (k5 : PySem.W.keepIn K (.ref f5) = true)
    (a6 : PySem.W.nsIn K mainGlobals (Str.ofString "is_step") = some (some (.ref f6)))
    (l6 : K.lookup f6 = some ⟨oc6, od6, .func (PySem.W.fnOf (Str.ofString "is_step") (Str.ofString "is_step") (defArgs s_is_step) (defBody s_is_step) (defScope s_is_step) .none kV6 dc6 pm6 an6 cd6 ct6), sl6⟩)
    (c6 : PySem.W.codeIn K cd6 (Str.ofString "is_step") = true)
    (k6 : PySem.W.keepIn K (.ref f6) = true)
    (a7 : PySem.W.nsIn K mainGlobals (Str.ofString "checked_steps") = some (some (.ref f7)))
    (l7 : K.lookup f7 = some ⟨oc7, od7, .func (PySem.W.fnOf (Str.ofString "checked_steps") (Str.ofString "checked_steps") (defArgs s_checked_steps) (defBody s_checked_steps) (defScope s_checked_steps) .none kV7 dc7 pm7 an7 cd7 ct7), sl7⟩)
    (c7 : PySem.W.codeIn K cd7 (Str.ofString "checked_steps") = true)
    (k7 : PySem.W.keepIn K (.ref f7) = true)
    (a8 : PySem.W.nsIn K mainGlobals (Str.ofString "checked_faults") = some (some (.ref f8)))
    (l8 : K.lookup f8 = some ⟨oc8, od8, .func (PySem.W.fnOf (Str.ofString "checked_faults") (Str.ofString "checked_faults") (defArgs s_checked_faults) (defBody s_checked_faults) (defScope s_checked_faults) .none kV8 dc8 pm8 an8 cd8 ct8), sl8⟩)
    (c8 : PySem.W.codeIn K cd8 (Str.ofString "checked_faults") = true)
    (k8 : PySem.W.keepIn K (.ref f8) = true)
    (a9 : PySem.W.nsIn K mainGlobals (Str.ofString "leaving_table") = some (some (.ref f9)))
    (l9 : K.lookup f9 = some ⟨oc9, od9, .func (PySem.W.fnOf (Str.ofString "leaving_table") (Str.ofString "leaving_table") (defArgs s_leaving_table) (defBody s_leaving_table) (defScope s_leaving_table) .none kV9 dc9 pm9 an9 cd9 ct9), sl9⟩)
    (c9 : PySem.W.codeIn K cd9 (Str.ofString "leaving_table") = true)
    (k9 : PySem.W.keepIn K (.ref f9) = true)
    (a10 : PySem.W.nsIn K mainGlobals (Str.ofString "reached_states") = some (some (.ref f10)))
    (l10 : K.lookup f10 = some ⟨oc10, od10, .func (PySem.W.fnOf (Str.ofString "reached_states") (Str.ofString "reached_states") (defArgs s_reached_states) (defBody s_reached_states) (defScope s_reached_states) .none kV10 dc10 pm10 an10 cd10 ct10), sl10⟩)
    (c10 : PySem.W.codeIn K cd10 (Str.ofString "reached_states") = true)
    (k10 : PySem.W.keepIn K (.ref f10) = true)
    (a11 : PySem.W.findIn K (.ref C_Machine) (Str.ofString "__init__") = some (some (.ref f11)))
    (i11 : PySem.W.isFn K (.ref f11) = true)
    (l11 : K.lookup f11 = some ⟨oc11, od11, .func (PySem.W.fnOf (Str.ofString "__init__") (Str.ofString "Machine.__init__") (defArgs s_Machine_init) (defBody s_Machine_init) (defScope s_Machine_init) (.ref T11) kV11 dc11 pm11 an11 cd11 ct11), sl11⟩)
    (t11 : K.lookup T11 = some ⟨tc11, td11, .seq #[.none] tn11, ts11⟩)
    (c11 : PySem.W.codeIn K cd11 (Str.ofString "Machine.__init__") = true)
    (k11 : PySem.W.keepIn K (.ref f11) = true)
    (a12 : PySem.W.findIn K (.ref C_Machine) (Str.ofString "start") = some (some (.ref p12)))
    (pa12 : PySem.W.specialIn K (.ref p12) "__get__" = some (some (.builtin "property.__get__")))
    (pb12 : PySem.W.takesIn K (.ref p12) = some true)
    (pc12 : PySem.W.recIn K p12 "property" = some (.ref f12 :: pr12))
    (l12 : K.lookup f12 = some ⟨oc12, od12, .func (PySem.W.fnOf (Str.ofString "start") (Str.ofString "Machine.start") (defArgs s_Machine_start) (defBody s_Machine_start) (defScope s_Machine_start) .none kV12 dc12 pm12 an12 cd12 ct12), sl12⟩)
    (c12 : PySem.W.codeIn K cd12 (Str.ofString "Machine.start") = true)
    (k12 : PySem.W.keepIn K (.ref f12) = true)
    (a13 : PySem.W.findIn K (.ref C_Machine) (Str.ofString "fault_names") = some (some (.ref p13)))
    (pa13 : PySem.W.specialIn K (.ref p13) "__get__" = some (some (.builtin "property.__get__")))
    (pb13 : PySem.W.takesIn K (.ref p13) = some true)
    (pc13 : PySem.W.recIn K p13 "property" = some (.ref f13 :: pr13))
    (l13 : K.lookup f13 = some ⟨oc13, od13, .func (PySem.W.fnOf (Str.ofString "fault_names") (Str.ofString "Machine.fault_names") (defArgs s_Machine_fault_names) (defBody s_Machine_fault_names) (defScope s_Machine_fault_names) .none kV13 dc13 pm13 an13 cd13 ct13), sl13⟩)
    (c13 : PySem.W.codeIn K cd13 (Str.ofString "Machine.fault_names") = true)
    (k13 : PySem.W.keepIn K (.ref f13) = true)
    (a14 : PySem.W.findIn K (.ref C_Machine) (Str.ofString "__eq__") = some (some (.ref f14)))
    (i14 : PySem.W.isFn K (.ref f14) = true)
    (l14 : K.lookup f14 = some ⟨oc14, od14, .func (PySem.W.fnOf (Str.ofString "__eq__") (Str.ofString "Machine.__eq__") (defArgs s_Machine_eq) (defBody s_Machine_eq) (defScope s_Machine_eq) .none kV14 dc14 pm14 an14 cd14 ct14), sl14⟩)
    (c14 : PySem.W.codeIn K cd14 (Str.ofString "Machine.__eq__") = true)
    (k14 : PySem.W.keepIn K (.ref f14) = true)
    (a15 : PySem.W.nsIn K mainGlobals (Str.ofString "steps_from") = some (some (.ref f15)))
    (l15 : K.lookup f15 = some ⟨oc15, od15, .func (PySem.W.fnOf (Str.ofString "steps_from") (Str.ofString "steps_from") (defArgs s_steps_from) (defBody s_steps_from) (defScope s_steps_from) .none kV15 dc15 pm15 an15 cd15 ct15), sl15⟩)
    (c15 : PySem.W.codeIn K cd15 (Str.ofString "steps_from") = true)
    (k15 : PySem.W.keepIn K (.ref f15) = true)
    (a16 : PySem.W.nsIn K mainGlobals (Str.ofString "is_fault_step") = some (some (.ref f16)))
    (l16 : K.lookup f16 = some ⟨oc16, od16, .func (PySem.W.fnOf (Str.ofString "is_fault_step") (Str.ofString "is_fault_step") (defArgs s_is_fault_step) (defBody s_is_fault_step) (defScope s_is_fault_step) .none kV16 dc16 pm16 an16 cd16 ct16), sl16⟩)
    (c16 : PySem.W.codeIn K cd16 (Str.ofString "is_fault_step") = true)
    (k16 : PySem.W.keepIn K (.ref f16) = true)
    (a17 : PySem.W.nsIn K mainGlobals (Str.ofString "check_fault") = some (some (.ref f17)))
    (l17 : K.lookup f17 = some ⟨oc17, od17, .func (PySem.W.fnOf (Str.ofString "check_fault") (Str.ofString "check_fault") (defArgs s_check_fault) (defBody s_check_fault) (defScope s_check_fault) .none kV17 dc17 pm17 an17 cd17 ct17), sl17⟩)
    (c17 : PySem.W.codeIn K cd17 (Str.ofString "check_fault") = true)
    (k17 : PySem.W.keepIn K (.ref f17) = true)
    (a18 : PySem.W.nsIn K mainGlobals (Str.ofString "is_sight_table") = some (some (.ref f18)))
    (l18 : K.lookup f18 = some ⟨oc18, od18, .func (PySem.W.fnOf (Str.ofString "is_sight_table") (Str.ofString "is_sight_table") (defArgs s_is_sight_table) (defBody s_is_sight_table) (defScope s_is_sight_table) .none kV18 dc18 pm18 an18 cd18 ct18), sl18⟩)
    (c18 : PySem.W.codeIn K cd18 (Str.ofString "is_sight_table") = true)
    (k18 : PySem.W.keepIn K (.ref f18) = true)
    (a19 : PySem.W.findIn K (.ref C_Watch) (Str.ofString "__init__") = some (some (.ref f19)))
    (i19 : PySem.W.isFn K (.ref f19) = true)
    (l19 : K.lookup f19 = some ⟨oc19, od19, .func (PySem.W.fnOf (Str.ofString "__init__") (Str.ofString "Watch.__init__") (defArgs s_Watch_init) (defBody s_Watch_init) (defScope s_Watch_init) (.ref T19) kV19 dc19 pm19 an19 cd19 ct19), sl19⟩)
    (t19 : K.lookup T19 = some ⟨tc19, td19, .seq #[.none] tn19, ts19⟩)
    (c19 : PySem.W.codeIn K cd19 (Str.ofString "Watch.__init__") = true)
    (k19 : PySem.W.keepIn K (.ref f19) = true)
    (a20 : PySem.W.findIn K (.ref C_Watch) (Str.ofString "__eq__") = some (some (.ref f20)))
    (i20 : PySem.W.isFn K (.ref f20) = true)
    (l20 : K.lookup f20 = some ⟨oc20, od20, .func (PySem.W.fnOf (Str.ofString "__eq__") (Str.ofString "Watch.__eq__") (defArgs s_Watch_eq) (defBody s_Watch_eq) (defScope s_Watch_eq) .none kV20 dc20 pm20 an20 cd20 ct20), sl20⟩)
    (c20 : PySem.W.codeIn K cd20 (Str.ofString "Watch.__eq__") = true)
    (k20 : PySem.W.keepIn K (.ref f20) = true)
    (a21 : PySem.W.nsIn K mainGlobals (Str.ofString "check_watch") = some (some (.ref f21)))
    (l21 : K.lookup f21 = some ⟨oc21, od21, .func (PySem.W.fnOf (Str.ofString "check_watch") (Str.ofString "check_watch") (defArgs s_check_watch) (defBody s_check_watch) (defScope s_check_watch) .none kV21 dc21 pm21 an21 cd21 ct21), sl21⟩)
    (c21 : PySem.W.codeIn K cd21 (Str.ofString "check_watch") = true)
    (k21 : PySem.W.keepIn K (.ref f21) = true)
    (a22 : PySem.W.nsIn K mainGlobals (Str.ofString "sight_of") = some (some (.ref f22)))
    (l22 : K.lookup f22 = some ⟨oc22, od22, .func (PySem.W.fnOf (Str.ofString "sight_of") (Str.ofString "sight_of") (defArgs s_sight_of) (defBody s_sight_of) (defScope s_sight_of) .none kV22 dc22 pm22 an22 cd22 ct22), sl22⟩)
    (c22 : PySem.W.codeIn K cd22 (Str.ofString "sight_of") = true)
    (k22 : PySem.W.keepIn K (.ref f22) = true)
    (a23 : PySem.W.nsIn K mainGlobals (Str.ofString "check_run") = some (some (.ref f23)))
    (l23 : K.lookup f23 = some ⟨oc23, od23, .func (PySem.W.fnOf (Str.ofString "check_run") (Str.ofString "check_run") (defArgs s_check_run) (defBody s_check_run) (defScope s_check_run) .none kV23 dc23 pm23 an23 cd23 ct23), sl23⟩)
    (c23 : PySem.W.codeIn K cd23 (Str.ofString "check_run") = true)
    (k23 : PySem.W.keepIn K (.ref f23) = true)
    (a24 : PySem.W.nsIn K mainGlobals (Str.ofString "end_of") = some (some (.ref f24)))
    (l24 : K.lookup f24 = some ⟨oc24, od24, .func (PySem.W.fnOf (Str.ofString "end_of") (Str.ofString "end_of") (defArgs s_end_of) (defBody s_end_of) (defScope s_end_of) .none kV24 dc24 pm24 an24 cd24 ct24), sl24⟩)
    (c24 : PySem.W.codeIn K cd24 (Str.ofString "end_of") = true)
    (k24 : PySem.W.keepIn K (.ref f24) = true)
    (a25 : PySem.W.nsIn K mainGlobals (Str.ofString "faults_in") = some (some (.ref f25)))
    (l25 : K.lookup f25 = some ⟨oc25, od25, .func (PySem.W.fnOf (Str.ofString "faults_in") (Str.ofString "faults_in") (defArgs s_faults_in) (defBody s_faults_in) (defScope s_faults_in) .none kV25 dc25 pm25 an25 cd25 ct25), sl25⟩)
    (c25 : PySem.W.codeIn K cd25 (Str.ofString "faults_in") = true)
    (k25 : PySem.W.keepIn K (.ref f25) = true)
    (a26 : PySem.W.nsIn K mainGlobals (Str.ofString "path_sights") = some (some (.ref f26)))
    (l26 : K.lookup f26 = some ⟨oc26, od26, .func (PySem.W.fnOf (Str.ofString "path_sights") (Str.ofString "path_sights") (defArgs s_path_sights) (defBody s_path_sights) (defScope s_path_sights) .none kV26 dc26 pm26 an26 cd26 ct26), sl26⟩)
    (c26 : PySem.W.codeIn K cd26 (Str.ofString "path_sights") = true)
    (k26 : PySem.W.keepIn K (.ref f26) = true)
    (a27 : PySem.W.nsIn K mainGlobals (Str.ofString "sights_of") = some (some (.ref f27)))
    (l27 : K.lookup f27 = some ⟨oc27, od27, .func (PySem.W.fnOf (Str.ofString "sights_of") (Str.ofString "sights_of") (defArgs s_sights_of) (defBody s_sights_of) (defScope s_sights_of) .none kV27 dc27 pm27 an27 cd27 ct27), sl27⟩)
    (c27 : PySem.W.codeIn K cd27 (Str.ofString "sights_of") = true)
    (k27 : PySem.W.keepIn K (.ref f27) = true)
    (a28 : PySem.W.nsIn K mainGlobals (Str.ofString "run_behind") = some (some (.ref f28)))
    (l28 : K.lookup f28 = some ⟨oc28, od28, .func (PySem.W.fnOf (Str.ofString "run_behind") (Str.ofString "run_behind") (defArgs s_run_behind) (defBody s_run_behind) (defScope s_run_behind) .none kV28 dc28 pm28 an28 cd28 ct28), sl28⟩)
    (c28 : PySem.W.codeIn K cd28 (Str.ofString "run_behind") = true)
    (k28 : PySem.W.keepIn K (.ref f28) = true)
    (a29 : PySem.W.nsIn K mainGlobals (Str.ofString "steps_behind") = some (some (.ref f29)))
    (l29 : K.lookup f29 = some ⟨oc29, od29, .func (PySem.W.fnOf (Str.ofString "steps_behind") (Str.ofString "steps_behind") (defArgs s_steps_behind) (defBody s_steps_behind) (defScope s_steps_behind) .none kV29 dc29 pm29 an29 cd29 ct29), sl29⟩)
    (c29 : PySem.W.codeIn K cd29 (Str.ofString "steps_behind") = true)
    (k29 : PySem.W.keepIn K (.ref f29) = true)
    (a30 : PySem.W.nsIn K mainGlobals (Str.ofString "_law_mix") = some (some (.ref f30)))
    (l30 : K.lookup f30 = some ⟨oc30, od30, .func (PySem.W.fnOf (Str.ofString "_law_mix") (Str.ofString "_law_mix") (defArgs s_law_mix) (defBody s_law_mix) (defScope s_law_mix) .none kV30 dc30 pm30 an30 cd30 ct30), sl30⟩)
    (c30 : PySem.W.codeIn K cd30 (Str.ofString "_law_mix") = true)
    (k30 : PySem.W.keepIn K (.ref f30) = true)
    (a31 : PySem.W.nsIn K mainGlobals (Str.ofString "_law_cell") = some (some (.ref f31)))
    (l31 : K.lookup f31 = some ⟨oc31, od31, .func (PySem.W.fnOf (Str.ofString "_law_cell") (Str.ofString "_law_cell") (defArgs s_law_cell) (defBody s_law_cell) (defScope s_law_cell) .none kV31 dc31 pm31 an31 cd31 ct31), sl31⟩)
    (c31 : PySem.W.codeIn K cd31 (Str.ofString "_law_cell") = true)
    (k31 : PySem.W.keepIn K (.ref f31) = true)
    (a32 : PySem.W.nsIn K mainGlobals (Str.ofString "_law_row") = some (some (.ref f32)))
    (l32 : K.lookup f32 = some ⟨oc32, od32, .func (PySem.W.fnOf (Str.ofString "_law_row") (Str.ofString "_law_row") (defArgs s_law_row) (defBody s_law_row) (defScope s_law_row) .none kV32 dc32 pm32 an32 cd32 ct32), sl32⟩)
    (c32 : PySem.W.codeIn K cd32 (Str.ofString "_law_row") = true)
    (k32 : PySem.W.keepIn K (.ref f32) = true)
    (a33 : PySem.W.nsIn K mainGlobals (Str.ofString "_law_names") = some (some (.ref f33)))
    (l33 : K.lookup f33 = some ⟨oc33, od33, .func (PySem.W.fnOf (Str.ofString "_law_names") (Str.ofString "_law_names") (defArgs s_law_names) (defBody s_law_names) (defScope s_law_names) .none kV33 dc33 pm33 an33 cd33 ct33), sl33⟩)
    (c33 : PySem.W.codeIn K cd33 (Str.ofString "_law_names") = true)
    (k33 : PySem.W.keepIn K (.ref f33) = true)
    (a34 : PySem.W.nsIn K mainGlobals (Str.ofString "_law_machine") = some (some (.ref f34)))
    (l34 : K.lookup f34 = some ⟨oc34, od34, .func (PySem.W.fnOf (Str.ofString "_law_machine") (Str.ofString "_law_machine") (defArgs s_law_machine) (defBody s_law_machine) (defScope s_law_machine) .none kV34 dc34 pm34 an34 cd34 ct34), sl34⟩)
    (c34 : PySem.W.codeIn K cd34 (Str.ofString "_law_machine") = true)
    (k34 : PySem.W.keepIn K (.ref f34) = true)
    (a35 : PySem.W.nsIn K mainGlobals (Str.ofString "_law_faults") = some (some (.ref f35)))
    (l35 : K.lookup f35 = some ⟨oc35, od35, .func (PySem.W.fnOf (Str.ofString "_law_faults") (Str.ofString "_law_faults") (defArgs s_law_faults) (defBody s_law_faults) (defScope s_law_faults) .none kV35 dc35 pm35 an35 cd35 ct35), sl35⟩)
    (c35 : PySem.W.codeIn K cd35 (Str.ofString "_law_faults") = true)
    (k35 : PySem.W.keepIn K (.ref f35) = true)
    (a36 : PySem.W.nsIn K mainGlobals (Str.ofString "_law_sights") = some (some (.ref f36)))
    (l36 : K.lookup f36 = some ⟨oc36, od36, .func (PySem.W.fnOf (Str.ofString "_law_sights") (Str.ofString "_law_sights") (defArgs s_law_sights) (defBody s_law_sights) (defScope s_law_sights) .none kV36 dc36 pm36 an36 cd36 ct36), sl36⟩)
    (c36 : PySem.W.codeIn K cd36 (Str.ofString "_law_sights") = true)
    (k36 : PySem.W.keepIn K (.ref f36) = true)
    (a37 : PySem.W.nsIn K mainGlobals (Str.ofString "_law_is_integer") = some (some (.ref f37)))
    (l37 : K.lookup f37 = some ⟨oc37, od37, .func (PySem.W.fnOf (Str.ofString "_law_is_integer") (Str.ofString "_law_is_integer") (defArgs s_law_is_integer) (defBody s_law_is_integer) (defScope s_law_is_integer) .none kV37 dc37 pm37 an37 cd37 ct37), sl37⟩)
    (c37 : PySem.W.codeIn K cd37 (Str.ofString "_law_is_integer") = true)
    (k37 : PySem.W.keepIn K (.ref f37) = true)
    (a38 : PySem.W.nsIn K mainGlobals (Str.ofString "_law_seen") = some (some (.ref f38)))
    (l38 : K.lookup f38 = some ⟨oc38, od38, .func (PySem.W.fnOf (Str.ofString "_law_seen") (Str.ofString "_law_seen") (defArgs s_law_seen) (defBody s_law_seen) (defScope s_law_seen) .none kV38 dc38 pm38 an38 cd38 ct38), sl38⟩)
    (c38 : PySem.W.codeIn K cd38 (Str.ofString "_law_seen") = true)
    (k38 : PySem.W.keepIn K (.ref f38) = true)
    (a39 : PySem.W.nsIn K mainGlobals (Str.ofString "_law_walk") = some (some (.ref f39)))
    (l39 : K.lookup f39 = some ⟨oc39, od39, .func (PySem.W.fnOf (Str.ofString "_law_walk") (Str.ofString "_law_walk") (defArgs s_law_walk) (defBody s_law_walk) (defScope s_law_walk) .none kV39 dc39 pm39 an39 cd39 ct39), sl39⟩)
    (c39 : PySem.W.codeIn K cd39 (Str.ofString "_law_walk") = true)
    (k39 : PySem.W.keepIn K (.ref f39) = true)
    (a40 : PySem.W.nsIn K mainGlobals (Str.ofString "_law_exact") = some (some (.ref f40)))
    (l40 : K.lookup f40 = some ⟨oc40, od40, .func (PySem.W.fnOf (Str.ofString "_law_exact") (Str.ofString "_law_exact") (defArgs s_law_exact) (defBody s_law_exact) (defScope s_law_exact) .none kV40 dc40 pm40 an40 cd40 ct40), sl40⟩)
    (c40 : PySem.W.codeIn K cd40 (Str.ofString "_law_exact") = true)
    (k40 : PySem.W.keepIn K (.ref f40) = true)
    (a41 : PySem.W.nsIn K mainGlobals (Str.ofString "_law_system") = some (some (.ref f41)))
    (l41 : K.lookup f41 = some ⟨oc41, od41, .func (PySem.W.fnOf (Str.ofString "_law_system") (Str.ofString "_law_system") (defArgs s_law_system) (defBody s_law_system) (defScope s_law_system) .none kV41 dc41 pm41 an41 cd41 ct41), sl41⟩)
    (c41 : PySem.W.codeIn K cd41 (Str.ofString "_law_system") = true)
    (k41 : PySem.W.keepIn K (.ref f41) = true)
    (a42 : PySem.W.nsIn K mainGlobals (Str.ofString "_law_count") = some (some (.ref f42)))
    (l42 : K.lookup f42 = some ⟨oc42, od42, .func (PySem.W.fnOf (Str.ofString "_law_count") (Str.ofString "_law_count") (defArgs s_law_count) (defBody s_law_count) (defScope s_law_count) .none kV42 dc42 pm42 an42 cd42 ct42), sl42⟩)
    (c42 : PySem.W.codeIn K cd42 (Str.ofString "_law_count") = true)
    (k42 : PySem.W.keepIn K (.ref f42) = true)
    (a43 : PySem.W.nsIn K mainGlobals (Str.ofString "law") = some (some (.ref f43)))
    (l43 : K.lookup f43 = some ⟨oc43, od43, .func (PySem.W.fnOf (Str.ofString "law") (Str.ofString "law") (defArgs s_law) (defBody s_law) (defScope s_law) .none kV43 dc43 pm43 an43 cd43 ct43), sl43⟩)
    (c43 : PySem.W.codeIn K cd43 (Str.ofString "law") = true)
    (k43 : PySem.W.keepIn K (.ref f43) = true)
    (z_bool : PySem.W.nsIn K mainGlobals (Str.ofString "bool") = some none)
    (z_dict : PySem.W.nsIn K mainGlobals (Str.ofString "dict") = some none)
    (z_enumerate : PySem.W.nsIn K mainGlobals (Str.ofString "enumerate") = some none)
    (z_int : PySem.W.nsIn K mainGlobals (Str.ofString "int") = some none)
    (z_isinstance : PySem.W.nsIn K mainGlobals (Str.ofString "isinstance") = some none)
    (z_len : PySem.W.nsIn K mainGlobals (Str.ofString "len") = some none)
    (z_list : PySem.W.nsIn K mainGlobals (Str.ofString "list") = some none)
    (z_range : PySem.W.nsIn K mainGlobals (Str.ofString "range") = some none)
    (z_set : PySem.W.nsIn K mainGlobals (Str.ofString "set") = some none)
    (z_sorted : PySem.W.nsIn K mainGlobals (Str.ofString "sorted") = some none)
    (z_str : PySem.W.nsIn K mainGlobals (Str.ofString "str") = some none)
    (z_tuple : PySem.W.nsIn K mainGlobals (Str.ofString "tuple") = some none)
    (q_LETTERS : PySem.W.nsIn K mainGlobals (Str.ofString "LETTERS") = some (some (.str (Str.ofString "abcdefghijklmnopqrstuvwxyz") t_LETTERS)))
    (q_MOST_FAULTS : PySem.W.nsIn K mainGlobals (Str.ofString "MOST_FAULTS") = some (some (.int 3 t_MOST_FAULTS)))
    (q_MOST_FROM : PySem.W.nsIn K mainGlobals (Str.ofString "MOST_FROM") = some (some (.int 8 t_MOST_FROM)))
    (q_MOST_LETTERS : PySem.W.nsIn K mainGlobals (Str.ofString "MOST_LETTERS") = some (some (.int 12 t_MOST_LETTERS)))
    (q_MOST_STATE : PySem.W.nsIn K mainGlobals (Str.ofString "MOST_STATE") = some (some (.int 99 t_MOST_STATE)))
    (q_MOST_STEPS : PySem.W.nsIn K mainGlobals (Str.ofString "MOST_STEPS") = some (some (.int 80 t_MOST_STEPS)))
    (q_MOST_WORDS : PySem.W.nsIn K mainGlobals (Str.ofString "MOST_WORDS") = some (some (.int 14 t_MOST_WORDS))) :
    ∃ fd : FuncData, (∀ (s : Shared) (v : Value), BindsTo s fd ⟨[v], []⟩ [(Str.ofString "_law_script", v)]) ∧ ∀ base : Heap, K.In base → base.Ns mainGlobals mg → FnOk l.prog w K mg base CX0 8 fa fd [Str.ofString "_law_script"] (spLaw K) := by
  have e := hfa.symm.trans (PySem.W.mg_of X G a43)
  cases e
  let C : Cl := ⟨C_Machine, C_Watch, 0, 0, 0, 0, 0, 0, 0, 0, 0, 0, 0, 0, 0, 0, 0, 0, 0, 0, 0, 0, 0⟩
  have T : Txt K mg C := ⟨PySem.W.mg_none_of X G z_bool, PySem.W.mg_none_of X G z_dict, PySem.W.mg_none_of X G z_enumerate, PySem.W.mg_none_of X G z_int, PySem.W.mg_none_of X G z_isinstance, PySem.W.mg_none_of X G z_len, PySem.W.mg_none_of X G z_list, PySem.W.mg_none_of X G z_range, PySem.W.mg_none_of X G z_set, PySem.W.mg_none_of X G z_sorted, PySem.W.mg_none_of X G z_str, PySem.W.mg_none_of X G z_tuple, ⟨_, PySem.W.mg_of X G q_LETTERS⟩, ⟨_, PySem.W.mg_of X G q_MOST_FAULTS⟩, ⟨_, PySem.W.mg_of X G q_MOST_FROM⟩, ⟨_, PySem.W.mg_of X G q_MOST_LETTERS⟩, ⟨_, PySem.W.mg_of X G q_MOST_STATE⟩, ⟨_, PySem.W.mg_of X G q_MOST_STEPS⟩, ⟨_, PySem.W.mg_of X G q_MOST_WORDS⟩, ⟨pg_Machine, hd_Machine, po_Machine, sa_Machine⟩, ⟨pg_Watch, hd_Watch, po_Watch, sa_Watch⟩, na_Machine_fault_table, na_Machine_first_state, na_Machine_leaving, na_Machine_met_states, na_Machine_step_rows, na_Machine_word_list, na_Watch_table, PySem.W.mg_of X G m_Machine, ⟨⟨⟨pg_Machine, hd_Machine, po_Machine, sa_Machine⟩, iha_Machine, ihn, ihtk, ihm_Machine, kit_self⟩, fun t ht => kit_no icl_Machine ity_Machine (by simp only [List.mem_cons, List.not_mem_nil, or_false] at ht; rcases ht with rfl | rfl | rfl | rfl | rfl | rfl | rfl <;> assumption)⟩, PySem.W.mg_of X G m_Watch, ⟨⟨⟨pg_Watch, hd_Watch, po_Watch, sa_Watch⟩, iha_Watch, ihn, ihtk, ihm_Watch, kit_self⟩, fun t ht => kit_no icl_Watch ity_Watch (by simp only [List.mem_cons, List.not_mem_nil, or_false] at ht; rcases ht with rfl | rfl | rfl | rfl | rfl | rfl | rfl <;> assumption)⟩⟩
  have F1 := fun_mk (st := s_is_integer) l1 c1 k1
  have b1 := F1.binds (ps := [Str.ofString "value"]) fun _ _ _ _ _ _ us hl => match us, hl with | [_], _ => rfl
  have F2 := fun_mk (st := s_is_count) l2 c2 k2
  have b2 := F2.binds (ps := [Str.ofString "value", Str.ofString "most"]) fun _ _ _ _ _ _ us hl => match us, hl with | [_, _], _ => rfl
  have F3 := fun_mk (st := s_is_state) l3 c3 k3
  have b3 := F3.binds (ps := [Str.ofString "value"]) fun _ _ _ _ _ _ us hl => match us, hl with | [_], _ => rfl
  have F4 := fun_mk (st := s_is_name) l4 c4 k4
  have b4 := F4.binds (ps := [Str.ofString "value"]) fun _ _ _ _ _ _ us hl => match us, hl with | [_], _ => rfl
  have F5 := fun_mk (st := s_is_row) l5 c5 k5
  have b5 := F5.binds (ps := [Str.ofString "value"]) fun _ _ _ _ _ _ us hl => match us, hl with | [_], _ => rfl
  have F6 := fun_mk (st := s_is_step) l6 c6 k6
  have b6 := F6.binds (ps := [Str.ofString "step"]) fun _ _ _ _ _ _ us hl => match us, hl with | [_], _ => rfl
  have F7 := fun_mk (st := s_checked_steps) l7 c7 k7
  have b7 := F7.binds (ps := [Str.ofString "steps"]) fun _ _ _ _ _ _ us hl => match us, hl with | [_], _ => rfl
  have F8 := fun_mk (st := s_checked_faults) l8 c8 k8
  have b8 := F8.binds (ps := [Str.ofString "faults", Str.ofString "words"]) fun _ _ _ _ _ _ us hl => match us, hl with | [_, _], _ => rfl
  have F9 := fun_mk (st := s_leaving_table) l9 c9 k9
  have b9 := F9.binds (ps := [Str.ofString "rows"]) fun _ _ _ _ _ _ us hl => match us, hl with | [_], _ => rfl
  have F10 := fun_mk (st := s_reached_states) l10 c10 k10
  have b10 := F10.binds (ps := [Str.ofString "start", Str.ofString "rows", Str.ofString "leaving"]) fun _ _ _ _ _ _ us hl => match us, hl with | [_, _, _], _ => rfl
  have F11 := funD_mk (st := s_Machine_init) l11 c11 k11 t11
  have b11 := Binds.nil (F11.binds1 (ps := [Str.ofString "self", Str.ofString "start", Str.ofString "steps", Str.ofString "faults"]) 4 1 (by simp) rfl fun _ _ _ _ _ _ _ us its hl hi => match us, hl, its, hi with | [_, _, _, _], _, [_], _ => ⟨_, rfl, rfl⟩)
  have F12 := fun_mk (st := s_Machine_start) l12 c12 k12
  have b12 := F12.binds (ps := [Str.ofString "self"]) fun _ _ _ _ _ _ us hl => match us, hl with | [_], _ => rfl
  have F13 := fun_mk (st := s_Machine_fault_names) l13 c13 k13
  have b13 := F13.binds (ps := [Str.ofString "self"]) fun _ _ _ _ _ _ us hl => match us, hl with | [_], _ => rfl
  have F14 := fun_mk (st := s_Machine_eq) l14 c14 k14
  have b14 := F14.binds (ps := [Str.ofString "self", Str.ofString "other"]) fun _ _ _ _ _ _ us hl => match us, hl with | [_, _], _ => rfl
  have F15 := fun_mk (st := s_steps_from) l15 c15 k15
  have b15 := F15.binds (ps := [Str.ofString "machine", Str.ofString "state"]) fun _ _ _ _ _ _ us hl => match us, hl with | [_, _], _ => rfl
  have F16 := fun_mk (st := s_is_fault_step) l16 c16 k16
  have b16 := F16.binds (ps := [Str.ofString "machine", Str.ofString "number", Str.ofString "fault"]) fun _ _ _ _ _ _ us hl => match us, hl with | [_, _, _], _ => rfl
  have F17 := fun_mk (st := s_check_fault) l17 c17 k17
  have b17 := F17.binds (ps := [Str.ofString "machine", Str.ofString "fault"]) fun _ _ _ _ _ _ us hl => match us, hl with | [_, _], _ => rfl
  have F18 := fun_mk (st := s_is_sight_table) l18 c18 k18
  have b18 := F18.binds (ps := [Str.ofString "value"]) fun _ _ _ _ _ _ us hl => match us, hl with | [_], _ => rfl
  have F19 := funD_mk (st := s_Watch_init) l19 c19 k19 t19
  have b19 := Binds.nil (F19.binds1 (ps := [Str.ofString "self", Str.ofString "sights"]) 2 1 (by simp) rfl fun _ _ _ _ _ _ _ us its hl hi => match us, hl, its, hi with | [_, _], _, [_], _ => ⟨_, rfl, rfl⟩)
  have F20 := fun_mk (st := s_Watch_eq) l20 c20 k20
  have b20 := F20.binds (ps := [Str.ofString "self", Str.ofString "other"]) fun _ _ _ _ _ _ us hl => match us, hl with | [_, _], _ => rfl
  have F21 := fun_mk (st := s_check_watch) l21 c21 k21
  have b21 := F21.binds (ps := [Str.ofString "watch"]) fun _ _ _ _ _ _ us hl => match us, hl with | [_], _ => rfl
  have F22 := fun_mk (st := s_sight_of) l22 c22 k22
  have b22 := F22.binds (ps := [Str.ofString "watch", Str.ofString "word"]) fun _ _ _ _ _ _ us hl => match us, hl with | [_, _], _ => rfl
  have F23 := fun_mk (st := s_check_run) l23 c23 k23
  have b23 := F23.binds (ps := [Str.ofString "machine", Str.ofString "run"]) fun _ _ _ _ _ _ us hl => match us, hl with | [_, _], _ => rfl
  have F24 := fun_mk (st := s_end_of) l24 c24 k24
  have b24 := F24.binds (ps := [Str.ofString "machine", Str.ofString "run"]) fun _ _ _ _ _ _ us hl => match us, hl with | [_, _], _ => rfl
  have F25 := fun_mk (st := s_faults_in) l25 c25 k25
  have b25 := F25.binds (ps := [Str.ofString "machine", Str.ofString "run"]) fun _ _ _ _ _ _ us hl => match us, hl with | [_, _], _ => rfl
  have F26 := fun_mk (st := s_path_sights) l26 c26 k26
  have b26 := F26.binds (ps := [Str.ofString "machine", Str.ofString "watch", Str.ofString "path"]) fun _ _ _ _ _ _ us hl => match us, hl with | [_, _, _], _ => rfl
  have F27 := fun_mk (st := s_sights_of) l27 c27 k27
  have b27 := F27.binds (ps := [Str.ofString "machine", Str.ofString "watch", Str.ofString "run"]) fun _ _ _ _ _ _ us hl => match us, hl with | [_, _, _], _ => rfl
  have F28 := fun_mk (st := s_run_behind) l28 c28 k28
  have b28 := F28.binds (ps := [Str.ofString "machine", Str.ofString "run", Str.ofString "fault"]) fun _ _ _ _ _ _ us hl => match us, hl with | [_, _, _], _ => rfl
  have F29 := fun_mk (st := s_steps_behind) l29 c29 k29
  have b29 := F29.binds (ps := [Str.ofString "machine", Str.ofString "run", Str.ofString "fault"]) fun _ _ _ _ _ _ us hl => match us, hl with | [_, _, _], _ => rfl
  have F30 := fun_mk (st := s_law_mix) l30 c30 k30
  have b30 := F30.binds (ps := [Str.ofString "_law_cell_here", Str.ofString "_law_k"]) fun _ _ _ _ _ _ us hl => match us, hl with | [_, _], _ => rfl
  have F31 := fun_mk (st := s_law_cell) l31 c31 k31
  have b31 := F31.binds (ps := [Str.ofString "_law_script", Str.ofString "_law_k"]) fun _ _ _ _ _ _ us hl => match us, hl with | [_, _], _ => rfl
  have F32 := fun_mk (st := s_law_row) l32 c32 k32
  have b32 := F32.binds (ps := [Str.ofString "_law_cell_here", Str.ofString "_law_sizes"]) fun _ _ _ _ _ _ us hl => match us, hl with | [_, _], _ => rfl
  have F33 := fun_mk (st := s_law_names) l33 c33 k33
  have b33 := F33.binds (ps := [Str.ofString "_law_cell_here", Str.ofString "_law_many"]) fun _ _ _ _ _ _ us hl => match us, hl with | [_, _], _ => rfl
  have F34 := fun_mk (st := s_law_machine) l34 c34 k34
  have b34 := F34.binds (ps := [Str.ofString "_law_cell_here", Str.ofString "_law_names_here", Str.ofString "_law_most", Str.ofString "_law_extra"]) fun _ _ _ _ _ _ us hl => match us, hl with | [_, _, _, _], _ => rfl
  have F35 := fun_mk (st := s_law_faults) l35 c35 k35
  have b35 := F35.binds (ps := [Str.ofString "_law_digit", Str.ofString "_law_steps", Str.ofString "_law_names_here", Str.ofString "_law_marks"]) fun _ _ _ _ _ _ us hl => match us, hl with | [_, _, _, _], _ => rfl
  have F36 := fun_mk (st := s_law_sights) l36 c36 k36
  have b36 := F36.binds (ps := [Str.ofString "_law_cell_here", Str.ofString "_law_names_here", Str.ofString "_law_marks"]) fun _ _ _ _ _ _ us hl => match us, hl with | [_, _, _], _ => rfl
  have F37 := fun_mk (st := s_law_is_integer) l37 c37 k37
  have b37 := F37.binds (ps := [Str.ofString "_law_thing"]) fun _ _ _ _ _ _ us hl => match us, hl with | [_], _ => rfl
  have F38 := fun_mk (st := s_law_seen) l38 c38 k38
  have b38 := F38.binds (ps := [Str.ofString "_law_steps", Str.ofString "_law_table", Str.ofString "_law_path"]) fun _ _ _ _ _ _ us hl => match us, hl with | [_, _, _], _ => rfl
  have F39 := fun_mk (st := s_law_walk) l39 c39 k39
  have b39 := F39.binds (ps := [Str.ofString "_law_row_here", Str.ofString "_law_steps", Str.ofString "_law_start"]) fun _ _ _ _ _ _ us hl => match us, hl with | [_, _, _], _ => rfl
  have F40 := fun_mk (st := s_law_exact) l40 c40 k40
  have b40 := F40.binds (ps := [Str.ofString "_law_told", Str.ofString "_law_due"]) fun _ _ _ _ _ _ us hl => match us, hl with | [_, _], _ => rfl
  have F41 := fun_mk (st := s_law_system) l41 c41 k41
  have b41 := F41.binds (ps := [Str.ofString "_law_script", Str.ofString "_law_most", Str.ofString "_law_extra", Str.ofString "_law_many"]) fun _ _ _ _ _ _ us hl => match us, hl with | [_, _, _, _], _ => rfl
  have F42 := fun_mk (st := s_law_count) l42 c42 k42
  have b42 := F42.binds (ps := [Str.ofString "_law_words", Str.ofString "_law_table", Str.ofString "_law_fault"]) fun _ _ _ _ _ _ us hl => match us, hl with | [_, _, _], _ => rfl
  have F43 := fun_mk (st := s_law) l43 c43 k43
  refine ⟨PySem.W.fnOf (Str.ofString "law") (Str.ofString "law") (defArgs s_law) (defBody s_law) (defScope s_law) .none kV43 dc43 pm43 an43 cd43 ct43, fun s v => .of_eq rfl, fun base _ _ => ?_⟩
  have G_is_integer : Fn0 l.prog w K mg base 1 (Str.ofString "is_integer") 1 (k_is_integer C) := ok_is_integer T F1 (PySem.W.mg_of X G a1) b1 
  have G_is_count : Fn0 l.prog w K mg base 2 (Str.ofString "is_count") 2 (k_is_count C) := ok_is_count T F2 (PySem.W.mg_of X G a2) b2 G_is_integer
  have G_is_state : Fn0 l.prog w K mg base 3 (Str.ofString "is_state") 1 (k_is_state C) := ok_is_state T F3 (PySem.W.mg_of X G a3) b3 G_is_count
  have G_is_name : Fn0 l.prog w K mg base 1 (Str.ofString "is_name") 1 (k_is_name C) := ok_is_name T F4 (PySem.W.mg_of X G a4) b4 
  have G_is_row : Fn0 l.prog w K mg base 1 (Str.ofString "is_row") 1 (k_is_row C) := ok_is_row T F5 (PySem.W.mg_of X G a5) b5 
  have G_is_step : Fn0 l.prog w K mg base 4 (Str.ofString "is_step") 1 (k_is_step C) := ok_is_step T F6 (PySem.W.mg_of X G a6) b6 G_is_state G_is_name
  have G_checked_steps : Fn0 l.prog w K mg base 5 (Str.ofString "checked_steps") 1 (k_checked_steps C) := ok_checked_steps T F7 (PySem.W.mg_of X G a7) b7 G_is_row G_is_step
  have G_checked_faults : Fn0 l.prog w K mg base 2 (Str.ofString "checked_faults") 2 (k_checked_faults C) := ok_checked_faults T F8 (PySem.W.mg_of X G a8) b8 G_is_name
  have G_leaving_table : Fn0 l.prog w K mg base 1 (Str.ofString "leaving_table") 1 (k_leaving_table C) := ok_leaving_table T F9 (PySem.W.mg_of X G a9) b9 
  have G_reached_states : Fn0 l.prog w K mg base 1 (Str.ofString "reached_states") 3 (k_reached_states C) := ok_reached_states T F10 (PySem.W.mg_of X G a10) b10 
  have G_Machine_init : Mkr l.prog w K mg base 6 (Str.ofString "Machine") C.Machine 3 (k_Machine_init C) := ⟨_, ⟨mk_Machine, a11, i11, kc_Machine⟩, PySem.W.mg_of X G m_Machine, ok_Machine_init T F11 b11 G_is_state G_checked_steps G_checked_faults G_leaving_table G_reached_states⟩
  have G_Machine_start : Prp l.prog w K mg base 1 C.Machine (Str.ofString "start") (k_Machine_start C) := ⟨_, _, ⟨a12, pa12, pb12, _, pc12⟩, ok_Machine_start T F12 b12 ⟩
  have G_Machine_fault_names : Prp l.prog w K mg base 1 C.Machine (Str.ofString "fault_names") (k_Machine_fault_names C) := ⟨_, _, ⟨a13, pa13, pb13, _, pc13⟩, ok_Machine_fault_names T F13 b13 ⟩
  have G_Machine_eq : EqO l.prog w K mg base 1 C.Machine (k_Machine_eq C) := ⟨_, a14, i14, ok_Machine_eq T F14 b14 ⟩
  have G_steps_from : Fn0 l.prog w K mg base 1 (Str.ofString "steps_from") 2 (k_steps_from C) := ok_steps_from T F15 (PySem.W.mg_of X G a15) b15 
  have G_is_fault_step : Fn0 l.prog w K mg base 1 (Str.ofString "is_fault_step") 3 (k_is_fault_step C) := ok_is_fault_step T F16 (PySem.W.mg_of X G a16) b16 
  have G_check_fault : Fn0 l.prog w K mg base 3 (Str.ofString "check_fault") 2 (k_check_fault C) := ok_check_fault T F17 (PySem.W.mg_of X G a17) b17 G_is_name G_Machine_fault_names
  have G_is_sight_table : Fn0 l.prog w K mg base 2 (Str.ofString "is_sight_table") 1 (k_is_sight_table C) := ok_is_sight_table T F18 (PySem.W.mg_of X G a18) b18 G_is_name
  have G_Watch_init : Mkr l.prog w K mg base 3 (Str.ofString "Watch") C.Watch 1 (k_Watch_init C) := ⟨_, ⟨mk_Watch, a19, i19, kc_Watch⟩, PySem.W.mg_of X G m_Watch, ok_Watch_init T F19 b19 G_is_sight_table⟩
  have G_Watch_eq : EqO l.prog w K mg base 1 C.Watch (k_Watch_eq C) := ⟨_, a20, i20, ok_Watch_eq T F20 b20 ⟩
  have G_check_watch : Fn0 l.prog w K mg base 1 (Str.ofString "check_watch") 1 (k_check_watch C) := ok_check_watch T F21 (PySem.W.mg_of X G a21) b21 
  have G_sight_of : Fn0 l.prog w K mg base 1 (Str.ofString "sight_of") 2 (k_sight_of C) := ok_sight_of T F22 (PySem.W.mg_of X G a22) b22 
  have G_check_run : Fn0 l.prog w K mg base 3 (Str.ofString "check_run") 2 (k_check_run C) := ok_check_run T F23 (PySem.W.mg_of X G a23) b23 G_Machine_start G_is_integer G_steps_from
  have G_end_of : Fn0 l.prog w K mg base 4 (Str.ofString "end_of") 2 (k_end_of C) := ok_end_of T F24 (PySem.W.mg_of X G a24) b24 G_check_run
  have G_faults_in : Fn0 l.prog w K mg base 4 (Str.ofString "faults_in") 2 (k_faults_in C) := ok_faults_in T F25 (PySem.W.mg_of X G a25) b25 G_check_run
  have G_path_sights : Fn0 l.prog w K mg base 2 (Str.ofString "path_sights") 3 (k_path_sights C) := ok_path_sights T F26 (PySem.W.mg_of X G a26) b26 G_sight_of
  have G_sights_of : Fn0 l.prog w K mg base 4 (Str.ofString "sights_of") 3 (k_sights_of C) := ok_sights_of T F27 (PySem.W.mg_of X G a27) b27 G_check_watch G_check_run G_path_sights
  have G_run_behind : Fn0 l.prog w K mg base 2 (Str.ofString "run_behind") 3 (k_run_behind C) := ok_run_behind T F28 (PySem.W.mg_of X G a28) b28 G_is_fault_step
  have G_steps_behind : Fn0 l.prog w K mg base 4 (Str.ofString "steps_behind") 3 (k_steps_behind C) := ok_steps_behind T F29 (PySem.W.mg_of X G a29) b29 G_check_run G_check_fault G_run_behind
  have G_law_mix : Fn0 l.prog w K mg base 1 (Str.ofString "_law_mix") 2 (k_law_mix C) := ok_law_mix T F30 (PySem.W.mg_of X G a30) b30 
  have G_law_cell : Fn0 l.prog w K mg base 2 (Str.ofString "_law_cell") 2 (k_law_cell C) := ok_law_cell T F31 (PySem.W.mg_of X G a31) b31 G_law_mix
  have G_law_row : Fn0 l.prog w K mg base 2 (Str.ofString "_law_row") 2 (k_law_row C) := ok_law_row T F32 (PySem.W.mg_of X G a32) b32 G_law_mix
  have G_law_names : Fn0 l.prog w K mg base 3 (Str.ofString "_law_names") 2 (k_law_names C) := ok_law_names T F33 (PySem.W.mg_of X G a33) b33 G_law_row
  have G_law_machine : Fn0 l.prog w K mg base 3 (Str.ofString "_law_machine") 4 (k_law_machine C) := ok_law_machine T F34 (PySem.W.mg_of X G a34) b34 G_law_row
  have G_law_faults : Fn0 l.prog w K mg base 1 (Str.ofString "_law_faults") 4 (k_law_faults C) := ok_law_faults T F35 (PySem.W.mg_of X G a35) b35 
  have G_law_sights : Fn0 l.prog w K mg base 3 (Str.ofString "_law_sights") 3 (k_law_sights C) := ok_law_sights T F36 (PySem.W.mg_of X G a36) b36 G_law_row
  have G_law_is_integer : Fn0 l.prog w K mg base 1 (Str.ofString "_law_is_integer") 1 (k_law_is_integer C) := ok_law_is_integer T F37 (PySem.W.mg_of X G a37) b37 
  have G_law_seen : Fn0 l.prog w K mg base 1 (Str.ofString "_law_seen") 3 (k_law_seen C) := ok_law_seen T F38 (PySem.W.mg_of X G a38) b38 
  have G_law_walk : Fn0 l.prog w K mg base 1 (Str.ofString "_law_walk") 3 (k_law_walk C) := ok_law_walk T F39 (PySem.W.mg_of X G a39) b39 
  have G_law_exact : Fn0 l.prog w K mg base 6 (Str.ofString "_law_exact") 2 (f_law_exact C 5) := ok_law_exact T F40 (PySem.W.mg_of X G a40) b40 G_law_is_integer 5
  have G_law_system : Fn0 l.prog w K mg base 4 (Str.ofString "_law_system") 4 (k_law_system C) := ok_law_system T F41 (PySem.W.mg_of X G a41) b41 G_law_cell G_law_names G_law_machine G_law_row G_law_faults
  have G_law_count : Fn0 l.prog w K mg base 1 (Str.ofString "_law_count") 3 (k_law_count C) := ok_law_count T F42 (PySem.W.mg_of X G a42) b42 
  refine (okL T F43 G_law_system G_law_cell G_law_sights G_Machine_init G_Watch_init G_law_row G_law_walk G_end_of G_law_exact G_faults_in G_law_seen G_sights_of G_law_count G_steps_behind G_Machine_eq G_Watch_eq).imp fun vs H Q E h => ?_
  obtain ⟨a, ns, rfl, hS, hl, k⟩ := h
  obtain ⟨st, e⟩ := p_law15 C ns hl
  exact law_end hS e k
end K15
open PySem PySem.W PyProof.Rows
set_option maxHeartbeats 0 in
theorem PySem.Challenge.cw_knownlate_k15_what_a_run_did_holds : PySem.Challenge.rw_knownlate_k15_what_a_run_did.Holds := by
  w_on; o_law; k_head; (case hw => w_witness2)
  k_fill
  refine L2.walk_of (l := PySem.Challenge.rw_knownlate_k15_what_a_run_did) (n := 63) (k := 8) (x := Str.ofString "_law_script") (CX := fun _ => L2.CX0) (sp := fun w => K15.spLaw _) rfl (by decide) rfl ⟨rfl, by decide, by decide⟩ (fun w h Y => PySem.W.kIn_of Y) ?F (fun _ _ a ns hl _ hS => ⟨a, ns, rfl, hS, hl, fun _ => rfl⟩) fun _ _ _ _ _ z => z
  case F =>
    intro w mg fa h KX G hmg
    refine' K15.all_mk KX G hmg ?m_Machine ?pg_Machine ?hd_Machine ?po_Machine ?sa_Machine ?mk_Machine ?kc_Machine ?m_Watch ?pg_Watch ?hd_Watch ?po_Watch ?sa_Watch ?mk_Watch ?kc_Watch ?na_Machine_fault_table ?na_Machine_first_state ?na_Machine_leaving ?na_Machine_met_states ?na_Machine_step_rows ?na_Machine_word_list ?na_Watch_table ?ihn ?ihtk ?iha_Machine ?ihm_Machine ?icl_Machine ?ity_Machine ?iy_Machine_NoneType ?iy_Machine_bool ?iy_Machine_int ?iy_Machine_str ?iy_Machine_tuple ?iy_Machine_list ?iy_Machine_dict ?iha_Watch ?ihm_Watch ?icl_Watch ?ity_Watch ?iy_Watch_NoneType ?iy_Watch_bool ?iy_Watch_int ?iy_Watch_str ?iy_Watch_tuple ?iy_Watch_list ?iy_Watch_dict ?a1 ?l1 ?c1 ?k1 ?a2 ?l2 ?c2 ?k2 ?a3 ?l3 ?c3 ?k3 ?a4 ?l4 ?c4 ?k4 ?a5 ?l5 ?c5 ?k5 ?a6 ?l6 ?c6 ?k6 ?a7 ?l7 ?c7 ?k7 ?a8 ?l8 ?c8 ?k8 ?a9 ?l9 ?c9 ?k9 ?a10 ?l10 ?c10 ?k10 ?a11 ?i11 ?l11 ?t11 ?c11 ?k11 ?a12 ?pa12 ?pb12 ?pc12 ?l12 ?c12 ?k12 ?a13 ?pa13 ?pb13 ?pc13 ?l13 ?c13 ?k13 ?a14 ?i14 ?l14 ?c14 ?k14 ?a15 ?l15 ?c15 ?k15 ?a16 ?l16 ?c16 ?k16 ?a17 ?l17 ?c17 ?k17 ?a18 ?l18 ?c18 ?k18 ?a19 ?i19 ?l19 ?t19 ?c19 ?k19 ?a20 ?i20 ?l20 ?c20 ?k20 ?a21 ?l21 ?c21 ?k21 ?a22 ?l22 ?c22 ?k22 ?a23 ?l23 ?c23 ?k23 ?a24 ?l24 ?c24 ?k24 ?a25 ?l25 ?c25 ?k25 ?a26 ?l26 ?c26 ?k26 ?a27 ?l27 ?c27 ?k27 ?a28 ?l28 ?c28 ?k28 ?a29 ?l29 ?c29 ?k29 ?a30 ?l30 ?c30 ?k30 ?a31 ?l31 ?c31 ?k31 ?a32 ?l32 ?c32 ?k32 ?a33 ?l33 ?c33 ?k33 ?a34 ?l34 ?c34 ?k34 ?a35 ?l35 ?c35 ?k35 ?a36 ?l36 ?c36 ?k36 ?a37 ?l37 ?c37 ?k37 ?a38 ?l38 ?c38 ?k38 ?a39 ?l39 ?c39 ?k39 ?a40 ?l40 ?c40 ?k40 ?a41 ?l41 ?c41 ?k41 ?a42 ?l42 ?c42 ?k42 ?a43 ?l43 ?c43 ?k43 ?z_bool ?z_dict ?z_enumerate ?z_int ?z_isinstance ?z_len ?z_list ?z_range ?z_set ?z_sorted ?z_str ?z_tuple ?q_LETTERS ?q_MOST_FAULTS ?q_MOST_FROM ?q_MOST_LETTERS ?q_MOST_STATE ?q_MOST_STEPS ?q_MOST_WORDS
    (case m_Machine => k_is)
    (case pg_Machine => k_is)
    (case hd_Machine => k_is)
    (case po_Machine => k_is)
    (case sa_Machine => k_is)
    (case mk_Machine => k_is)
    (case kc_Machine => k_is)
    (case m_Watch => k_is)
    (case pg_Watch => k_is)
    (case hd_Watch => k_is)
    (case po_Watch => k_is)
    (case sa_Watch => k_is)
    (case mk_Watch => k_is)
    (case kc_Watch => k_is)
    (case na_Machine_fault_table => k_is)
    (case na_Machine_first_state => k_is)
    (case na_Machine_leaving => k_is)
    (case na_Machine_met_states => k_is)
    (case na_Machine_step_rows => k_is)
    (case na_Machine_word_list => k_is)
    (case na_Watch_table => k_is)
    (case ihn => k_is)
    (case ihtk => k_is)
    (case iha_Machine => k_is)
    (case ihm_Machine => k_is)
    (case icl_Machine => k_is)
    (case ity_Machine => k_is)
    (case iy_Machine_NoneType => k_is)
    (case iy_Machine_bool => k_is)
    (case iy_Machine_int => k_is)
    (case iy_Machine_str => k_is)
    (case iy_Machine_tuple => k_is)
    (case iy_Machine_list => k_is)
    (case iy_Machine_dict => k_is)
    (case iha_Watch => k_is)
    (case ihm_Watch => k_is)
    (case icl_Watch => k_is)
    (case ity_Watch => k_is)
    (case iy_Watch_NoneType => k_is)
    (case iy_Watch_bool => k_is)
    (case iy_Watch_int => k_is)
    (case iy_Watch_str => k_is)
    (case iy_Watch_tuple => k_is)
    (case iy_Watch_list => k_is)
    (case iy_Watch_dict => k_is)
    (case a1 => k_is)
    (case l1 => k_is)
    (case c1 => k_is)
    (case k1 => k_is)
    (case a2 => k_is)
    (case l2 => k_is)
    (case c2 => k_is)
    (case k2 => k_is)
    (case a3 => k_is)
    (case l3 => k_is)
    (case c3 => k_is)
    (case k3 => k_is)
    (case a4 => k_is)
    (case l4 => k_is)
    (case c4 => k_is)
    (case k4 => k_is)
    (case a5 => k_is)
    (case l5 => k_is)
    (case c5 => k_is)
    (case k5 => k_is)
    (case a6 => k_is)
    (case l6 => k_is)
    (case c6 => k_is)
    (case k6 => k_is)
    (case a7 => k_is)
    (case l7 => k_is)
    (case c7 => k_is)
    (case k7 => k_is)
    (case a8 => k_is)
    (case l8 => k_is)
    (case c8 => k_is)
    (case k8 => k_is)
    (case a9 => k_is)
    (case l9 => k_is)
    (case c9 => k_is)
    (case k9 => k_is)
    (case a10 => k_is)
    (case l10 => k_is)
    (case c10 => k_is)
    (case k10 => k_is)
    (case a11 => k_is)
    (case i11 => k_is)
    (case l11 => k_is)
    (case t11 => k_is)
    (case c11 => k_is)
    (case k11 => k_is)
    (case a12 => k_is)
    (case pa12 => k_is)
    (case pb12 => k_is)
    (case pc12 => k_is)
    (case l12 => k_is)
    (case c12 => k_is)
    (case k12 => k_is)
    (case a13 => k_is)
    (case pa13 => k_is)
    (case pb13 => k_is)
    (case pc13 => k_is)
    (case l13 => k_is)
    (case c13 => k_is)
    (case k13 => k_is)
    (case a14 => k_is)
    (case i14 => k_is)
    (case l14 => k_is)
    (case c14 => k_is)
    (case k14 => k_is)
    (case a15 => k_is)
    (case l15 => k_is)
    (case c15 => k_is)
    (case k15 => k_is)
    (case a16 => k_is)
    (case l16 => k_is)
    (case c16 => k_is)
    (case k16 => k_is)
    (case a17 => k_is)
    (case l17 => k_is)
    (case c17 => k_is)
    (case k17 => k_is)
    (case a18 => k_is)
    (case l18 => k_is)
    (case c18 => k_is)
    (case k18 => k_is)
    (case a19 => k_is)
    (case i19 => k_is)
    (case l19 => k_is)
    (case t19 => k_is)
    (case c19 => k_is)
    (case k19 => k_is)
    (case a20 => k_is)
    (case i20 => k_is)
    (case l20 => k_is)
    (case c20 => k_is)
    (case k20 => k_is)
    (case a21 => k_is)
    (case l21 => k_is)
    (case c21 => k_is)
    (case k21 => k_is)
    (case a22 => k_is)
    (case l22 => k_is)
    (case c22 => k_is)
    (case k22 => k_is)
    (case a23 => k_is)
    (case l23 => k_is)
    (case c23 => k_is)
    (case k23 => k_is)
    (case a24 => k_is)
    (case l24 => k_is)
    (case c24 => k_is)
    (case k24 => k_is)
    (case a25 => k_is)
    (case l25 => k_is)
    (case c25 => k_is)
    (case k25 => k_is)
    (case a26 => k_is)
    (case l26 => k_is)
    (case c26 => k_is)
    (case k26 => k_is)
    (case a27 => k_is)
    (case l27 => k_is)
    (case c27 => k_is)
    (case k27 => k_is)
    (case a28 => k_is)
    (case l28 => k_is)
    (case c28 => k_is)
    (case k28 => k_is)
    (case a29 => k_is)
    (case l29 => k_is)
    (case c29 => k_is)
    (case k29 => k_is)
    (case a30 => k_is)
    (case l30 => k_is)
    (case c30 => k_is)
    (case k30 => k_is)
    (case a31 => k_is)
    (case l31 => k_is)
    (case c31 => k_is)
    (case k31 => k_is)
    (case a32 => k_is)
    (case l32 => k_is)
    (case c32 => k_is)
    (case k32 => k_is)
    (case a33 => k_is)
    (case l33 => k_is)
    (case c33 => k_is)
    (case k33 => k_is)
    (case a34 => k_is)
    (case l34 => k_is)
    (case c34 => k_is)
    (case k34 => k_is)
    (case a35 => k_is)
    (case l35 => k_is)
    (case c35 => k_is)
    (case k35 => k_is)
    (case a36 => k_is)
    (case l36 => k_is)
    (case c36 => k_is)
    (case k36 => k_is)
    (case a37 => k_is)
    (case l37 => k_is)
    (case c37 => k_is)
    (case k37 => k_is)
    (case a38 => k_is)
    (case l38 => k_is)
    (case c38 => k_is)
    (case k38 => k_is)
    (case a39 => k_is)
    (case l39 => k_is)
    (case c39 => k_is)
    (case k39 => k_is)
    (case a40 => k_is)
    (case l40 => k_is)
    (case c40 => k_is)
    (case k40 => k_is)
    (case a41 => k_is)
    (case l41 => k_is)
    (case c41 => k_is)
    (case k41 => k_is)
    (case a42 => k_is)
    (case l42 => k_is)
    (case c42 => k_is)
    (case k42 => k_is)
    (case a43 => k_is)
    (case l43 => k_is)
    (case c43 => k_is)
    (case k43 => k_is)
    (case z_bool => k_is)
    (case z_dict => k_is)
    (case z_enumerate => k_is)
    (case z_int => k_is)
    (case z_isinstance => k_is)
    (case z_len => k_is)
    (case z_list => k_is)
    (case z_range => k_is)
    (case z_set => k_is)
    (case z_sorted => k_is)
    (case z_str => k_is)
    (case z_tuple => k_is)
    (case q_LETTERS => k_is)
    (case q_MOST_FAULTS => k_is)
    (case q_MOST_FROM => k_is)
    (case q_MOST_LETTERS => k_is)
    (case q_MOST_STATE => k_is)
    (case q_MOST_STEPS => k_is)
    (case q_MOST_WORDS => k_is)
